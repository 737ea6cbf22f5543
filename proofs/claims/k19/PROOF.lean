import PyProof.Rows.All
import KE.KStateDown
import HandS.Words
import HandS.Head0
import HandS.Head1
import HandS.Head2
import HandS.HeadHook1
import HandS.HeadHook2
import PySem.Challenge.RW_allbeneath_k19_marks_stand_one_way
import Wide.All
import OpenK.AllK
import Wide.FinOn
import HandS.ForMost
import HandS.DictComp
import HandS.FStr
import HandS.Star
import HandS.Property
import HandS.TupAny
import HandS.Codes
import HandS.More
import HandS.Conv
import HandS.Strs
import HandS.Style
import HandS.IsInst
import HandS.Defaults
import HandS.Flow
import HandS.MakeKwOnly
import HandS.SortKw
import HandS.WrittenGet
import HandS.MethStar
import KE.KOpsOwn
import KE.KCallOwn
import OpenK.KOps
import KE.DatumIndex
import PyProof.ReprRoads
import PyProof.ReprBulk
import HandS.RaiseMore
import KE.KeyNested
import PyProof.Rows.StrMeet
import KE.KEqDict
import HandS.SetFor
import PyProof.StrWalks
import PyProof.Rows.SortShellAny
import HandS.SetTxt0
import PyProof.Rows.StrMul
import HandS.TupMul
import PyProof.NeKinds
import PyProof.EqAt
import KE.GoesZip
import KE.GoesMore
import KE.GoesEnumKw
import HandS.Zip
import KE.GoesEnum
import HandS.SortInts
import HandS.TryOnly
import HandS.SlotsOwn
import PyProof.InstEq
import PyProof.P3Eq
import HandS.ClsMeth
import HandS.TupLen
import PyProof.Rows.TupTab
import HandS.SetBool
import HandS.SetKeys
import KE.KDictPairs
import HandS.Iter
import PyProof.ListStr
import OpenK.KMeth
import HandS.Exc
import HandS.ExcInit
import HandS.ExcSuper
import HandS.ExcField
import HandS.ExcIs
import HandS.WordsExc
import HandS.ExcOwn
set_option Elab.async false
set_option linter.all false
set_option maxRecDepth 100000
set_option maxHeartbeats 2000000
namespace N
open PySem PySem.Spec PyProof.Rows L2
abbrev Fg := PySem.W.Frag
def gA (K : Fg) (x : Str) : Addr := He.ga K x
def mA (K : Fg) (c m : Str) : Addr := He.ma K (He.ga K c) m
def pF (K : Fg) (c m : Str) : Addr := match PySem.W.recIn K (mA K c m) "property" with
  | some (.ref f :: _) => f
  | _ => 0
def pR (K : Fg) (c m : Str) : List Value := match PySem.W.recIn K (mA K c m) "property" with
  | some (_ :: r) => r
  | _ => []
def isStrG (K : Fg) (x z : Str) : Bool := match PySem.W.nsIn K mainGlobals x with
  | some (some (.str y _)) => decide (y = z)
  | _ => false
def isIntIn (K : Fg) (d : Addr) (x : Str) (i : Int) : Bool := match PySem.W.nsIn K d x with
  | some (some (.int j _)) => decide (j = i)
  | _ => false
def isDic (K : Fg) (d : Addr) : Bool := match K.lookup d with
  | some ⟨c, none, .dict es _, sl⟩ => decide (c = .type "dict") && (sl.toList.isEmpty && es.toList.all fun e => match e.key with
    | .str _ _ => true
    | _ => false)
  | _ => false
def keysY (K : Fg) (d : Addr) : List (Str × Int) := match K.lookup d with
  | some ⟨_, _, .dict es _, _⟩ => es.toList.map fun e => match e.key with
    | .str x _ => (x, e.hash)
    | _ => ("", 0)
  | _ => []
structure DefT where
  at_ : Fg → Addr
  name : Str
  qual : Str
  st : Stmt
  dn : Bool
def fnY (K : Fg) (a : Addr) : He.FnW := match K.lookup a with
  | some ⟨_, _, .func fd, _⟩ => some (fd.name, fd.qualname, fd.params, fd.body, fd.scope, fd.globals, fd.closure, fd.builtins)
  | _ => none
def DefT.val (d : DefT) : He.FnW := some (d.name, d.qual, defArgs d.st, .stmts (defBody d.st), defScope d.st, mainGlobals, [], builtinsNs)
def isNon : Value → Bool
  | .none => true
  | _ => false
def nonSeq (K : Fg) (v : Value) : Bool := match v with
  | .ref T => (match K.lookup T with
    | some ⟨_, _, .seq its _, _⟩ => (match its.toList with
      | [v] => isNon v
      | _ => false)
    | _ => false)
  | _ => false
def DefT.ok (K : Fg) (d : DefT) : Bool := PySem.W.keepIn K (.ref (d.at_ K)) && (match K.lookup (d.at_ K) with
  | some ⟨_, _, .func fd, _⟩ => PySem.W.codeIn K fd.code d.qual && (match d.dn with
    | false => isNon fd.defaults
    | true => nonSeq K fd.defaults)
  | _ => false)
structure DicT where
  at_ : Fg → Addr
  keys : List Str
abbrev AlT : Type := Bool × List He.FnW × List (List (Str × Int))
def obsT (ts : List (Fg → Bool)) (fn : List DefT) (dk : List DicT) (K : Fg) : AlT := ((ts.all fun t => t K) && (fn.all fun d => d.ok K), fn.map fun d => fnY K (d.at_ K), dk.map fun d => keysY K (d.at_ K))
def valT (fn : List DefT) (dk : List DicT) (w : World) : AlT := (true, fn.map DefT.val, dk.map fun d => d.keys.map fun k => (k, PyData.keyHash w.params k))
def frNs {β : Type} : List Nat → (List Nat → β) → β
  | [], k => k []
  | x :: l, k => HandSHeadRun.frNat x fun x => frNs l fun l => k (x :: l)
theorem frNs_eq {β : Type} : ∀ (l : List Nat) (k : List Nat → β), frNs l k = k l
  | [], _ => rfl
  | x :: l, k => by
    unfold frNs
    rw [HandSHeadRun.frNat_eq, frNs_eq]
def frOb {β : Type} (o : Obj) (k : Obj → β) : β := match o with
  | ⟨c, d, dt, sl⟩ => k ⟨c, d, dt, sl⟩
theorem frOb_eq {β : Type} (o : Obj) (k : Obj → β) : frOb o k = k o := by cases o; rfl
def frFg {β : Type} : Fg → (Fg → β) → β
  | [], k => k []
  | x :: l, k => HandSHeadRun.frNat x.1 fun a => frOb x.2 fun o => frFg l fun l => k ((a, o) :: l)
theorem frFg_eq {β : Type} : ∀ (l : Fg) (k : Fg → β), frFg l k = k l
  | [], _ => rfl
  | x :: l, k => by
    unfold frFg
    rw [HandSHeadRun.frNat_eq, frOb_eq, frFg_eq]
def obsTG (ts : List (Fg → Bool)) (fn : List DefT) (dk : List DicT) (n : Nat) (g : Addr → Option Obj) : AlT := frNs (List.range n) fun as => frFg (He.frG g as) fun K => obsT ts fn dk K
theorem obsTG_eq (ts : List (Fg → Bool)) (fn : List DefT) (dk : List DicT) (n : Nat) (g : Addr → Option Obj) : obsTG ts fn dk n g = obsT ts fn dk (He.frG g (List.range n)) := by
  unfold obsTG
  rw [frNs_eq, frFg_eq]
def SaysT (ts : List (Fg → Bool)) (fn : List DefT) (dk : List DicT) (w : World) (K : Fg) : Prop := obsT ts fn dk K = valT fn dk w
def hookT (ts : List (Fg → Bool)) (fn : List DefT) (dk : List DicT) : PySem.W.Hook where
  α := AlT
  obs := fun s => obsTG ts fn dk s.heap.objs.size s.heap.get?
  val := fun w => valT fn dk w
  says := fun w h => ∃ K : Fg, K.In h ∧ SaysT ts fn dk w K
  of := fun _ _ e => ⟨_, He.frG_in, by unfold SaysT; rw [← obsTG_eq]; exact e⟩
  keeps := fun _ _ _ ⟨K, hK, c⟩ k => ⟨K, PySem.W.Frag.In.keeps hK k, c⟩
def obT (ts : List (Fg → Bool)) (fn : List DefT) (dk : List DicT) (s : PySem.W.SharedT) : AlT := obsTG ts fn dk s.n (HandSHeadRun.getT s)
theorem obT_eq {ts : List (Fg → Bool)} {fn : List DefT} {dk : List DicT} (s : PySem.W.SharedT) : obT ts fn dk s = (hookT ts fn dk).obs s.abs := by
  have e : HandSHeadRun.getT s = s.abs.heap.get? := funext (HandSHeadRun.getT_eq s)
  have e2 : s.n = s.abs.heap.objs.size := (PySem.W.absHeap_size s.tree s.n s.life).symm
  unfold obT
  rw [e, e2]
  rfl
end N
set_option Elab.async false
set_option linter.all false
set_option maxRecDepth 100000
set_option maxHeartbeats 0
namespace N
open PySem PySem.Spec PyProof.Rows L2
namespace HH
def top (i : Nat) : Stmt := PySem.Challenge.pw_allbeneath_k19_marks_stand_one_way.main.body.getD i (.Pass ⟨0, 0, 0, 0⟩)
abbrev s_united : Stmt := top 19
abbrev s_merged : Stmt := top 20
abbrev s_is_atom : Stmt := top 18
abbrev s_Formula___init__ : Stmt := inClass (top 21) 0
abbrev s_no : Stmt := top 27
abbrev s_every : Stmt := top 29
abbrev s_as_formula : Stmt := top 22
abbrev s_operand : Stmt := top 23
abbrev s_Formula___rshift__ : Stmt := inClass (top 21) 8
abbrev s_Formula___str__ : Stmt := inClass (top 21) 7
abbrev s_parts_within : Stmt := top 30
abbrev s_is_ascending : Stmt := top 60
abbrev s_is_below : Stmt := top 61
abbrev s_are_below : Stmt := top 62
abbrev s_is_letters : Stmt := top 63
abbrev s_are_letters : Stmt := top 64
abbrev s_beneath_by : Stmt := top 65
abbrev s_heights_by : Stmt := top 66
abbrev s_Web___init__ : Stmt := inClass (top 67) 0
abbrev s_Web___len__ : Stmt := inClass (top 67) 14
abbrev s_Web_all_values : Stmt := inClass (top 67) 8
abbrev s_Web_values_of : Stmt := inClass (top 67) 7
abbrev s_Web_where : Stmt := inClass (top 67) 6
abbrev s_Web_marked : Stmt := inClass (top 67) 9
abbrev s_Web_without : Stmt := inClass (top 67) 10
abbrev s_Web___eq__ : Stmt := inClass (top 67) 15
abbrev s_is_mark : Stmt := top 50
abbrev s_is_rule : Stmt := top 51
abbrev s_check_rows : Stmt := top 52
abbrev s_Rules___init__ : Stmt := inClass (top 54) 0
abbrev s_Rules_marks : Stmt := inClass (top 54) 1
abbrev s_Rules_marked : Stmt := inClass (top 54) 7
abbrev s_Rules___getitem__ : Stmt := inClass (top 54) 2
abbrev s_law_deck : Stmt := top 73
abbrev s_law_draw : Stmt := top 74
abbrev s_law_pick : Stmt := top 75
abbrev s_atom : Stmt := top 26
abbrev s_law_tree : Stmt := top 76
abbrev s_law_built : Stmt := top 77
abbrev s_law_web : Stmt := top 79
abbrev s_law_net : Stmt := top 80
abbrev s_law_under : Stmt := top 81
abbrev s_law_at : Stmt := top 82
abbrev s_law_marked : Stmt := top 83
abbrev s_law_row : Stmt := top 78
abbrev s_law_points : Stmt := top 84
abbrev s_law_given : Stmt := top 85
abbrev s_law_moved : Stmt := top 86
abbrev s_law_as_told : Stmt := top 87
abbrev s_law_values : Stmt := top 88
abbrev s_law_great_right : Stmt := top 89
abbrev s_law_right : Stmt := top 90
abbrev s_law : Stmt := top 91
end HH
def tst0 (K : Fg) : Bool := decide (PySem.W.nsIn K mainGlobals "len" = some none) && (decide (PySem.W.nsIn K mainGlobals "int" = some none) && (decide (PySem.W.nsIn K mainGlobals "str" = some none) && (decide (PySem.W.nsIn K mainGlobals "range" = some none) && (decide (PySem.W.nsIn K mainGlobals "list" = some none) && (decide (PySem.W.nsIn K mainGlobals "tuple" = some none) && (decide (PySem.W.nsIn K mainGlobals "dict" = some none) && (decide (PySem.W.nsIn K mainGlobals "set" = some none))))))))
def tst1 (K : Fg) : Bool := decide (PySem.W.nsIn K mainGlobals "sorted" = some none) && (decide (PySem.W.nsIn K mainGlobals "isinstance" = some none) && (decide (PySem.W.nsIn K mainGlobals "repr" = some none) && (decide (PySem.W.nsIn K mainGlobals "max" = some none) && (decide (PySem.W.nsIn K mainGlobals "min" = some none) && (decide (PySem.W.nsIn K mainGlobals "sum" = some none) && (decide (PySem.W.nsIn K mainGlobals "all" = some none) && (decide (PySem.W.nsIn K mainGlobals "any" = some none))))))))
def tst2 (K : Fg) : Bool := decide (PySem.W.nsIn K mainGlobals "zip" = some none) && (decide (PySem.W.nsIn K mainGlobals "enumerate" = some none) && (decide (PySem.W.nsIn K mainGlobals "bool" = some none) && (decide (PySem.W.nsIn K mainGlobals "reversed" = some none) && (decide (PySem.W.nsIn K mainGlobals "type" = some none) && (isStrG K "LETTERS" "ABCDEFGHIJKLMNOPQRSTUVWXYZabcdefghijklmnopqrstuvwxyz" && (isStrG K "ATOM" "atom" && (isStrG K "NO" "no")))))))
def tst3 (K : Fg) : Bool := isStrG K "IF_formulas" "if" && (isStrG K "ALL_formulas" "all" && (decide (PySem.W.nsIn K mainGlobals "PARTS_OF" = some (some (.ref (gA K "PARTS_OF")))) && (isDic K (gA K "PARTS_OF") && (decide (((gA K "PARTS_OF") == sysModules) = false) && (isIntIn K (gA K "PARTS_OF") "atom" 1 && (isIntIn K (gA K "PARTS_OF") "no" 0 && (isIntIn K (gA K "PARTS_OF") "if" 2)))))))
def tst4 (K : Fg) : Bool := isIntIn K (gA K "PARTS_OF") "all" 1 && (isStrG K "ALL_AHEAD" "all " && (isStrG K "BETWEEN" " > " && (isStrG K "ALL_circles" "all" && (isStrG K "IF_circles" "if" && (isIntIn K mainGlobals "MOST_MARKS" 4 && (isIntIn K mainGlobals "PAIR_PARTS" 2 && (isStrG K "CAPITALS" "ABCDEFGHIJKLMNOPQRSTUVWXYZ")))))))
def tst5 (K : Fg) : Bool := isStrG K "ROWS" "rows" && (isStrG K "ORDER" "order" && (isStrG K "DIGITS" "0123456789" && (isStrG K "BARE" "-" && (isStrG K "BLANK" " " && (isStrG K "BREAK" "\n" && (decide (PySem.W.nsIn K mainGlobals "Formula" = some (some (.ref (gA K "Formula")))) && (decide (PySem.W.plainGet K (gA K "Formula") Str.empty = true))))))))
def tst6 (K : Fg) : Bool := decide (PySem.W.hasDictIn K (gA K "Formula") = true) && (decide (PySem.W.plainOver K (gA K "Formula") = true) && (decide (PySem.W.findIn K (.ref (gA K "Formula")) "__setattr__" = some (some (.builtin "object.__setattr__"))) && (decide (PySem.W.makesIn K (gA K "Formula") = true) && (decide (PySem.W.keepIn K (.ref (gA K "Formula")) = true) && (decide (PySem.W.findIn K (.ref (gA K "Formula")) "kind" = some none) && (decide (PySem.W.findIn K (.ref (gA K "Formula")) "parts" = some none) && (decide (PySem.W.findIn K (.ref (gA K "Formula")) "many" = some none))))))))
def tst7 (K : Fg) : Bool := decide (PySem.W.findIn K (.ref (gA K "Formula")) "deepest" = some none) && (decide (PySem.W.findIn K (.ref (gA K "Formula")) "atoms" = some none) && (decide (PySem.W.findIn K (.ref (gA K "Formula")) "bare" = some none) && (decide (PySem.W.findIn K (.ref (gA K "Formula")) "spelled" = some none) && (decide (PySem.W.findIn K (.ref (gA K "Formula")) "alls_known" = some none) && (decide (PySem.W.findIn K (.ref (gA K "Formula")) "__class__" = some (some (.builtin "object.__class__"))) && (decide (PySem.W.specialIn K (.builtin "object.__class__") "__get__" = some (some (.builtin "getset_descriptor.__get__"))) && (decide (PySem.W.takesIn K (.builtin "object.__class__") = some true))))))))
def tst8 (K : Fg) : Bool := decide (PySem.W.mroIn K (gA K "Formula") (.type "object") = some true) && (decide (PySem.W.kitOne K (.ref (gA K "Formula")) (.ref (gA K "Formula")) = some true) && (decide (PySem.W.selfFirst K (gA K "Formula") = true) && (decide (PySem.W.kitOne K (.type "str") (.ref (gA K "Formula")) = some false) && (decide (PySem.W.nsIn K mainGlobals "Web" = some (some (.ref (gA K "Web")))) && (decide (PySem.W.plainGet K (gA K "Web") Str.empty = true) && (decide (PySem.W.hasDictIn K (gA K "Web") = true) && (decide (PySem.W.plainOver K (gA K "Web") = true))))))))
def tst9 (K : Fg) : Bool := decide (PySem.W.findIn K (.ref (gA K "Web")) "__setattr__" = some (some (.builtin "object.__setattr__"))) && (decide (PySem.W.makesIn K (gA K "Web") = true) && (decide (PySem.W.keepIn K (.ref (gA K "Web")) = true) && (decide (PySem.W.findIn K (.ref (gA K "Web")) "below" = some none) && (decide (PySem.W.findIn K (.ref (gA K "Web")) "atoms" = some none) && (decide (PySem.W.findIn K (.ref (gA K "Web")) "all_beneath" = some none) && (decide (PySem.W.findIn K (.ref (gA K "Web")) "all_heights" = some none) && (decide (PySem.W.findIn K (.ref (gA K "Web")) "__class__" = some (some (.builtin "object.__class__"))))))))))
def tst10 (K : Fg) : Bool := decide (PySem.W.specialIn K (.builtin "object.__class__") "__get__" = some (some (.builtin "getset_descriptor.__get__"))) && (decide (PySem.W.takesIn K (.builtin "object.__class__") = some true) && (decide (PySem.W.mroIn K (gA K "Web") (.type "object") = some true) && (decide (PySem.W.kitOne K (.ref (gA K "Web")) (.ref (gA K "Web")) = some true) && (decide (PySem.W.selfFirst K (gA K "Web") = true) && (decide (PySem.W.kitOne K (.type "str") (.ref (gA K "Web")) = some false) && (decide (PySem.W.findIn K (.ref (gA K "Web")) "__ne__" = some (some (.builtin "object.__ne__"))) && (decide (PySem.W.nsIn K mainGlobals "Rules" = some (some (.ref (gA K "Rules")))))))))))
def tst11 (K : Fg) : Bool := decide (PySem.W.plainGet K (gA K "Rules") Str.empty = true) && (decide (PySem.W.hasDictIn K (gA K "Rules") = true) && (decide (PySem.W.plainOver K (gA K "Rules") = true) && (decide (PySem.W.findIn K (.ref (gA K "Rules")) "__setattr__" = some (some (.builtin "object.__setattr__"))) && (decide (PySem.W.makesIn K (gA K "Rules") = true) && (decide (PySem.W.keepIn K (.ref (gA K "Rules")) = true) && (decide (PySem.W.findIn K (.ref (gA K "Rules")) "rows" = some none) && (decide (PySem.W.findIn K (.ref (gA K "Rules")) "forms_by_mark" = some none))))))))
def tst12 (K : Fg) : Bool := decide (PySem.W.findIn K (.ref (gA K "Rules")) "__class__" = some (some (.builtin "object.__class__"))) && (decide (PySem.W.specialIn K (.builtin "object.__class__") "__get__" = some (some (.builtin "getset_descriptor.__get__"))) && (decide (PySem.W.takesIn K (.builtin "object.__class__") = some true) && (decide (PySem.W.mroIn K (gA K "Rules") (.type "object") = some true) && (decide (PySem.W.kitOne K (.ref (gA K "Rules")) (.ref (gA K "Rules")) = some true) && (decide (PySem.W.selfFirst K (gA K "Rules") = true) && (decide (PySem.W.kitOne K (.type "str") (.ref (gA K "Rules")) = some false) && (decide (PySem.W.nsIn K mainGlobals "united" = some (some (.ref (gA K "united")))))))))))
def tst13 (K : Fg) : Bool := decide (PySem.W.nsIn K mainGlobals "merged" = some (some (.ref (gA K "merged")))) && (decide (PySem.W.nsIn K mainGlobals "is_atom" = some (some (.ref (gA K "is_atom")))) && (decide (PySem.W.findIn K (.ref (gA K "Formula")) "__init__" = some (some (.ref (mA K "Formula" "__init__")))) && (decide (PySem.W.isFn K (.ref (mA K "Formula" "__init__")) = true) && (decide (PySem.W.keepIn K (.ref (mA K "Formula" "__init__")) = true) && (decide (PySem.W.nsIn K mainGlobals "no" = some (some (.ref (gA K "no")))) && (decide (PySem.W.nsIn K mainGlobals "every" = some (some (.ref (gA K "every")))) && (decide (PySem.W.nsIn K mainGlobals "as_formula" = some (some (.ref (gA K "as_formula")))))))))))
def tst14 (K : Fg) : Bool := decide (PySem.W.nsIn K mainGlobals "operand" = some (some (.ref (gA K "operand")))) && (decide (PySem.W.findIn K (.ref (gA K "Formula")) "__rshift__" = some (some (.ref (mA K "Formula" "__rshift__")))) && (decide (PySem.W.isFn K (.ref (mA K "Formula" "__rshift__")) = true) && (decide (PySem.W.keepIn K (.ref (mA K "Formula" "__rshift__")) = true) && (decide (PySem.W.findIn K (.ref (gA K "Formula")) "__str__" = some (some (.ref (mA K "Formula" "__str__")))) && (decide (PySem.W.isFn K (.ref (mA K "Formula" "__str__")) = true) && (decide (PySem.W.keepIn K (.ref (mA K "Formula" "__str__")) = true) && (decide (PySem.W.nsIn K mainGlobals "parts_within" = some (some (.ref (gA K "parts_within")))))))))))
def tst15 (K : Fg) : Bool := decide (PySem.W.nsIn K mainGlobals "is_ascending" = some (some (.ref (gA K "is_ascending")))) && (decide (PySem.W.nsIn K mainGlobals "is_below" = some (some (.ref (gA K "is_below")))) && (decide (PySem.W.nsIn K mainGlobals "are_below" = some (some (.ref (gA K "are_below")))) && (decide (PySem.W.nsIn K mainGlobals "is_letters" = some (some (.ref (gA K "is_letters")))) && (decide (PySem.W.nsIn K mainGlobals "are_letters" = some (some (.ref (gA K "are_letters")))) && (decide (PySem.W.nsIn K mainGlobals "beneath_by" = some (some (.ref (gA K "beneath_by")))) && (decide (PySem.W.nsIn K mainGlobals "heights_by" = some (some (.ref (gA K "heights_by")))) && (decide (PySem.W.findIn K (.ref (gA K "Web")) "__init__" = some (some (.ref (mA K "Web" "__init__")))))))))))
def tst16 (K : Fg) : Bool := decide (PySem.W.isFn K (.ref (mA K "Web" "__init__")) = true) && (decide (PySem.W.keepIn K (.ref (mA K "Web" "__init__")) = true) && (decide (PySem.W.findIn K (.ref (gA K "Web")) "__len__" = some (some (.ref (mA K "Web" "__len__")))) && (decide (PySem.W.isFn K (.ref (mA K "Web" "__len__")) = true) && (decide (PySem.W.keepIn K (.ref (mA K "Web" "__len__")) = true) && (decide (PySem.W.findIn K (.ref (gA K "Web")) "all_values" = some (some (.ref (mA K "Web" "all_values")))) && (decide (PySem.W.isFn K (.ref (mA K "Web" "all_values")) = true) && (decide (PySem.W.keepIn K (.ref (mA K "Web" "all_values")) = true))))))))
def tst17 (K : Fg) : Bool := decide (PySem.W.findIn K (.ref (gA K "Web")) "values_of" = some (some (.ref (mA K "Web" "values_of")))) && (decide (PySem.W.isFn K (.ref (mA K "Web" "values_of")) = true) && (decide (PySem.W.keepIn K (.ref (mA K "Web" "values_of")) = true) && (decide (PySem.W.findIn K (.ref (gA K "Web")) "where" = some (some (.ref (mA K "Web" "where")))) && (decide (PySem.W.isFn K (.ref (mA K "Web" "where")) = true) && (decide (PySem.W.keepIn K (.ref (mA K "Web" "where")) = true) && (decide (PySem.W.findIn K (.ref (gA K "Web")) "marked" = some (some (.ref (mA K "Web" "marked")))) && (decide (PySem.W.isFn K (.ref (mA K "Web" "marked")) = true))))))))
def tst18 (K : Fg) : Bool := decide (PySem.W.keepIn K (.ref (mA K "Web" "marked")) = true) && (decide (PySem.W.findIn K (.ref (gA K "Web")) "without" = some (some (.ref (mA K "Web" "without")))) && (decide (PySem.W.isFn K (.ref (mA K "Web" "without")) = true) && (decide (PySem.W.keepIn K (.ref (mA K "Web" "without")) = true) && (decide (PySem.W.findIn K (.ref (gA K "Web")) "__eq__" = some (some (.ref (mA K "Web" "__eq__")))) && (decide (PySem.W.isFn K (.ref (mA K "Web" "__eq__")) = true) && (decide (PySem.W.keepIn K (.ref (mA K "Web" "__eq__")) = true) && (decide (PySem.W.nsIn K mainGlobals "is_mark" = some (some (.ref (gA K "is_mark")))))))))))
def tst19 (K : Fg) : Bool := decide (PySem.W.nsIn K mainGlobals "is_rule" = some (some (.ref (gA K "is_rule")))) && (decide (PySem.W.nsIn K mainGlobals "check_rows" = some (some (.ref (gA K "check_rows")))) && (decide (PySem.W.findIn K (.ref (gA K "Rules")) "__init__" = some (some (.ref (mA K "Rules" "__init__")))) && (decide (PySem.W.isFn K (.ref (mA K "Rules" "__init__")) = true) && (decide (PySem.W.keepIn K (.ref (mA K "Rules" "__init__")) = true) && (decide (PySem.W.findIn K (.ref (gA K "Rules")) "marks" = some (some (.ref (mA K "Rules" "marks")))) && (decide (PySem.W.specialIn K (.ref (mA K "Rules" "marks")) "__get__" = some (some (.builtin "property.__get__"))) && (decide (PySem.W.takesIn K (.ref (mA K "Rules" "marks")) = some true))))))))
def tst20 (K : Fg) : Bool := decide (PySem.W.recIn K (mA K "Rules" "marks") "property" = some (.ref (pF K "Rules" "marks") :: (pR K "Rules" "marks"))) && (decide (PySem.W.findIn K (.ref (gA K "Rules")) "marked" = some (some (.ref (mA K "Rules" "marked")))) && (decide (PySem.W.isFn K (.ref (mA K "Rules" "marked")) = true) && (decide (PySem.W.keepIn K (.ref (mA K "Rules" "marked")) = true) && (decide (PySem.W.findIn K (.ref (gA K "Rules")) "__getitem__" = some (some (.ref (mA K "Rules" "__getitem__")))) && (decide (PySem.W.isFn K (.ref (mA K "Rules" "__getitem__")) = true) && (decide (PySem.W.keepIn K (.ref (mA K "Rules" "__getitem__")) = true) && (decide (PySem.W.nsIn K mainGlobals "_law_deck" = some (some (.ref (gA K "_law_deck")))))))))))
def tst21 (K : Fg) : Bool := decide (PySem.W.nsIn K mainGlobals "_law_draw" = some (some (.ref (gA K "_law_draw")))) && (decide (PySem.W.nsIn K mainGlobals "_law_pick" = some (some (.ref (gA K "_law_pick")))) && (decide (PySem.W.nsIn K mainGlobals "atom" = some (some (.ref (gA K "atom")))) && (decide (PySem.W.nsIn K mainGlobals "_law_tree" = some (some (.ref (gA K "_law_tree")))) && (decide (PySem.W.nsIn K mainGlobals "_law_built" = some (some (.ref (gA K "_law_built")))) && (decide (PySem.W.nsIn K mainGlobals "_law_web" = some (some (.ref (gA K "_law_web")))) && (decide (PySem.W.nsIn K mainGlobals "_law_net" = some (some (.ref (gA K "_law_net")))) && (decide (PySem.W.nsIn K mainGlobals "_law_under" = some (some (.ref (gA K "_law_under")))))))))))
def tst22 (K : Fg) : Bool := decide (PySem.W.nsIn K mainGlobals "_law_at" = some (some (.ref (gA K "_law_at")))) && (decide (PySem.W.nsIn K mainGlobals "_law_marked" = some (some (.ref (gA K "_law_marked")))) && (decide (PySem.W.nsIn K mainGlobals "_law_row" = some (some (.ref (gA K "_law_row")))) && (decide (PySem.W.nsIn K mainGlobals "_law_points" = some (some (.ref (gA K "_law_points")))) && (decide (PySem.W.nsIn K mainGlobals "_law_given" = some (some (.ref (gA K "_law_given")))) && (decide (PySem.W.nsIn K mainGlobals "_law_moved" = some (some (.ref (gA K "_law_moved")))) && (decide (PySem.W.nsIn K mainGlobals "_law_as_told" = some (some (.ref (gA K "_law_as_told")))) && (decide (PySem.W.nsIn K mainGlobals "_law_values" = some (some (.ref (gA K "_law_values")))))))))))
def tst23 (K : Fg) : Bool := decide (PySem.W.nsIn K mainGlobals "_law_great_right" = some (some (.ref (gA K "_law_great_right")))) && (decide (PySem.W.nsIn K mainGlobals "_law_right" = some (some (.ref (gA K "_law_right")))) && (decide (PySem.W.nsIn K mainGlobals "law" = some (some (.ref (gA K "law"))))))
def tsts_0 : List (Fg → Bool) := [tst0, tst1, tst2, tst3, tst4, tst5, tst6, tst7, tst8, tst9, tst10, tst11]
def tsts_1 : List (Fg → Bool) := [tst12, tst13, tst14, tst15, tst16, tst17, tst18, tst19, tst20, tst21, tst22, tst23]
def tsts : List (Fg → Bool) := tsts_0 ++ (tsts_1)
def dT1 : DefT := ⟨fun K => (gA K "united"), "united", "united", HH.s_united, false⟩
def dT2 : DefT := ⟨fun K => (gA K "merged"), "merged", "merged", HH.s_merged, false⟩
def dT3 : DefT := ⟨fun K => (gA K "is_atom"), "is_atom", "is_atom", HH.s_is_atom, false⟩
def dT4 : DefT := ⟨fun K => (mA K "Formula" "__init__"), "__init__", "Formula.__init__", HH.s_Formula___init__, false⟩
def dT5 : DefT := ⟨fun K => (gA K "no"), "no", "no", HH.s_no, false⟩
def dT6 : DefT := ⟨fun K => (gA K "every"), "every", "every", HH.s_every, false⟩
def dT7 : DefT := ⟨fun K => (gA K "as_formula"), "as_formula", "as_formula", HH.s_as_formula, false⟩
def dT8 : DefT := ⟨fun K => (gA K "operand"), "operand", "operand", HH.s_operand, false⟩
def dT9 : DefT := ⟨fun K => (mA K "Formula" "__rshift__"), "__rshift__", "Formula.__rshift__", HH.s_Formula___rshift__, false⟩
def dT10 : DefT := ⟨fun K => (mA K "Formula" "__str__"), "__str__", "Formula.__str__", HH.s_Formula___str__, false⟩
def dT11 : DefT := ⟨fun K => (gA K "parts_within"), "parts_within", "parts_within", HH.s_parts_within, false⟩
def dT12 : DefT := ⟨fun K => (gA K "is_ascending"), "is_ascending", "is_ascending", HH.s_is_ascending, false⟩
def dT13 : DefT := ⟨fun K => (gA K "is_below"), "is_below", "is_below", HH.s_is_below, false⟩
def dT14 : DefT := ⟨fun K => (gA K "are_below"), "are_below", "are_below", HH.s_are_below, false⟩
def dT15 : DefT := ⟨fun K => (gA K "is_letters"), "is_letters", "is_letters", HH.s_is_letters, false⟩
def dT16 : DefT := ⟨fun K => (gA K "are_letters"), "are_letters", "are_letters", HH.s_are_letters, false⟩
def dT17 : DefT := ⟨fun K => (gA K "beneath_by"), "beneath_by", "beneath_by", HH.s_beneath_by, false⟩
def dT18 : DefT := ⟨fun K => (gA K "heights_by"), "heights_by", "heights_by", HH.s_heights_by, false⟩
def dT19 : DefT := ⟨fun K => (mA K "Web" "__init__"), "__init__", "Web.__init__", HH.s_Web___init__, false⟩
def dT20 : DefT := ⟨fun K => (mA K "Web" "__len__"), "__len__", "Web.__len__", HH.s_Web___len__, false⟩
def dT21 : DefT := ⟨fun K => (mA K "Web" "all_values"), "all_values", "Web.all_values", HH.s_Web_all_values, false⟩
def dT22 : DefT := ⟨fun K => (mA K "Web" "values_of"), "values_of", "Web.values_of", HH.s_Web_values_of, false⟩
def dT23 : DefT := ⟨fun K => (mA K "Web" "where"), "where", "Web.where", HH.s_Web_where, false⟩
def dT24 : DefT := ⟨fun K => (mA K "Web" "marked"), "marked", "Web.marked", HH.s_Web_marked, false⟩
def dT25 : DefT := ⟨fun K => (mA K "Web" "without"), "without", "Web.without", HH.s_Web_without, false⟩
def dT26 : DefT := ⟨fun K => (mA K "Web" "__eq__"), "__eq__", "Web.__eq__", HH.s_Web___eq__, false⟩
def dT27 : DefT := ⟨fun K => (gA K "is_mark"), "is_mark", "is_mark", HH.s_is_mark, false⟩
def dT28 : DefT := ⟨fun K => (gA K "is_rule"), "is_rule", "is_rule", HH.s_is_rule, false⟩
def dT29 : DefT := ⟨fun K => (gA K "check_rows"), "check_rows", "check_rows", HH.s_check_rows, false⟩
def dT30 : DefT := ⟨fun K => (mA K "Rules" "__init__"), "__init__", "Rules.__init__", HH.s_Rules___init__, false⟩
def dT31 : DefT := ⟨fun K => (pF K "Rules" "marks"), "marks", "Rules.marks", HH.s_Rules_marks, false⟩
def dT32 : DefT := ⟨fun K => (mA K "Rules" "marked"), "marked", "Rules.marked", HH.s_Rules_marked, false⟩
def dT33 : DefT := ⟨fun K => (mA K "Rules" "__getitem__"), "__getitem__", "Rules.__getitem__", HH.s_Rules___getitem__, false⟩
def dT34 : DefT := ⟨fun K => (gA K "_law_deck"), "_law_deck", "_law_deck", HH.s_law_deck, false⟩
def dT35 : DefT := ⟨fun K => (gA K "_law_draw"), "_law_draw", "_law_draw", HH.s_law_draw, false⟩
def dT36 : DefT := ⟨fun K => (gA K "_law_pick"), "_law_pick", "_law_pick", HH.s_law_pick, false⟩
def dT37 : DefT := ⟨fun K => (gA K "atom"), "atom", "atom", HH.s_atom, false⟩
def dT38 : DefT := ⟨fun K => (gA K "_law_tree"), "_law_tree", "_law_tree", HH.s_law_tree, false⟩
def dT39 : DefT := ⟨fun K => (gA K "_law_built"), "_law_built", "_law_built", HH.s_law_built, false⟩
def dT40 : DefT := ⟨fun K => (gA K "_law_web"), "_law_web", "_law_web", HH.s_law_web, false⟩
def dT41 : DefT := ⟨fun K => (gA K "_law_net"), "_law_net", "_law_net", HH.s_law_net, false⟩
def dT42 : DefT := ⟨fun K => (gA K "_law_under"), "_law_under", "_law_under", HH.s_law_under, false⟩
def dT43 : DefT := ⟨fun K => (gA K "_law_at"), "_law_at", "_law_at", HH.s_law_at, false⟩
def dT44 : DefT := ⟨fun K => (gA K "_law_marked"), "_law_marked", "_law_marked", HH.s_law_marked, false⟩
def dT45 : DefT := ⟨fun K => (gA K "_law_row"), "_law_row", "_law_row", HH.s_law_row, false⟩
def dT46 : DefT := ⟨fun K => (gA K "_law_points"), "_law_points", "_law_points", HH.s_law_points, false⟩
def dT47 : DefT := ⟨fun K => (gA K "_law_given"), "_law_given", "_law_given", HH.s_law_given, false⟩
def dT48 : DefT := ⟨fun K => (gA K "_law_moved"), "_law_moved", "_law_moved", HH.s_law_moved, false⟩
def dT49 : DefT := ⟨fun K => (gA K "_law_as_told"), "_law_as_told", "_law_as_told", HH.s_law_as_told, false⟩
def dT50 : DefT := ⟨fun K => (gA K "_law_values"), "_law_values", "_law_values", HH.s_law_values, false⟩
def dT51 : DefT := ⟨fun K => (gA K "_law_great_right"), "_law_great_right", "_law_great_right", HH.s_law_great_right, false⟩
def dT52 : DefT := ⟨fun K => (gA K "_law_right"), "_law_right", "_law_right", HH.s_law_right, false⟩
def dT53 : DefT := ⟨fun K => (gA K "law"), "law", "law", HH.s_law, false⟩
def dTs_0 : List DefT := [dT1, dT2, dT3, dT4, dT5, dT6, dT7, dT8, dT9, dT10, dT11, dT12]
def dTs_1 : List DefT := [dT13, dT14, dT15, dT16, dT17, dT18, dT19, dT20, dT21, dT22, dT23, dT24]
def dTs_2 : List DefT := [dT25, dT26, dT27, dT28, dT29, dT30, dT31, dT32, dT33, dT34, dT35, dT36]
def dTs_3 : List DefT := [dT37, dT38, dT39, dT40, dT41, dT42, dT43, dT44, dT45, dT46, dT47, dT48]
def dTs_4 : List DefT := [dT49, dT50, dT51, dT52, dT53]
def dTs : List DefT := dTs_0 ++ (dTs_1 ++ (dTs_2 ++ (dTs_3 ++ (dTs_4))))
def dcs_0 : List DicT := [⟨fun K => (gA K "PARTS_OF"), ["atom", "no", "if", "all"]⟩]
def dcs : List DicT := dcs_0
def names_0 : List PySem.Str := ["_wall", "__name__", "WebError", "BadFormula", "BadText", "BadWeb", "BadRules", "UnknownMark", "Clash", "LETTERS", "ATOM", "NO"]
def names_1 : List PySem.Str := ["IF_formulas", "ALL_formulas", "PARTS_OF", "ALL_AHEAD", "BETWEEN", "is_atom", "united", "merged", "Formula", "as_formula", "operand", "both"]
def names_2 : List PySem.Str := ["either", "atom", "no", "yes", "every", "parts_within", "place_of_end", "formula_in", "begun_at", "ALL_circles", "IF_circles", "shorter_if"]
def names_3 : List PySem.Str := ["shorter_all", "reduced", "outer_parts", "with_forms", "put_in", "solution", "MOST_MARKS", "PAIR_PARTS", "CAPITALS", "ROWS", "ORDER", "is_mark"]
def names_4 : List PySem.Str := ["is_rule", "check_rows", "rows_by", "Rules", "DIGITS", "BARE", "BLANK", "BREAK", "is_ascending", "is_below", "are_below", "is_letters"]
def names_5 : List PySem.Str := ["are_letters", "beneath_by", "heights_by", "Web", "line_of", "is_word_of_letters", "number_in", "points_in", "_law_deck", "_law_draw", "_law_pick", "_law_tree"]
def names_6 : List PySem.Str := ["_law_built", "_law_row", "_law_web", "_law_net", "_law_under", "_law_at", "_law_marked", "_law_points", "_law_given", "_law_moved", "_law_as_told", "_law_values"]
def names_7 : List PySem.Str := ["_law_great_right", "_law_right"]
def names : List PySem.Str := names_0 ++ (names_1 ++ (names_2 ++ (names_3 ++ (names_4 ++ (names_5 ++ (names_6 ++ (names_7)))))))
abbrev RW_ : PySem.W.OpenRow := PySem.W.OpenLaw.row PySem.Challenge.rw_allbeneath_k19_marks_stand_one_way
abbrev qW : Program := PySem.W.view RW_.prog [91]
abbrev hkW : PySem.W.Hook := hookT tsts dTs dcs
def obW (s : PySem.W.SharedT) : AlT := obT tsts dTs dcs s
theorem obW_eq (s : PySem.W.SharedT) : obW s = hkW.obs s.abs := obT_eq s
theorem run_f (w : World) : HandSHeadRun.RunEq RW_ qW hkW obW 40000 names (w.withFollow "special-get-raises" false) := by
  intro os
  kernel_rfl
theorem run_t (w : World) : HandSHeadRun.RunEq RW_ qW hkW obW 40000 names (w.withFollow "special-get-raises" true) := by
  intro os
  kernel_rfl
theorem run_W : ∀ w : World, HandSHeadRun.RunEq RW_ qW hkW obW 40000 names w := PySem.W.byRow2 "special-get-raises" (P := fun w => HandSHeadRun.RunEq RW_ qW hkW obW 40000 names w) run_f run_t
end N
set_option Elab.async false
set_option linter.all false
set_option maxRecDepth 100000
namespace N
open PySem L2
/-- formulas -/
inductive Fm where
  | at (c : Nat) | no | imp (a b : Fm) | all (a : Fm)
  deriving DecidableEq
/-- plain data -/
inductive D where
  | vl (v : V)
  | tup (l : List D)
  | lst (l : List D)
  | dct (ks : List Key) (l : List D)
  | obj (c : Nat) (ns : List Str) (l : List D)
  | fm (f : Fm)
  | scr (l : List V)
  /-- a dict that is pinned -/
  | dcz (ks : List Key) (l : List D)
  /-- a dict whose keys are tuples -/
  | kdd (w : World) (ks : List D) (l : List D)
  /-- a tuple that is known to have no dict of its own -/
  | tupz (l : List D)
@[reducible] def D.int (i : Int) : D := .vl (.int i)
@[reducible] def D.bl (b : Bool) : D := .vl (.bl b)
@[reducible] def D.str (s : Str) : D := .vl (.str s)
@[reducible] def D.non : D := .vl .non
@[reducible] def D.adr (a : Addr) : D := .vl (.ref a)
mutual
/-- the key that a datum is -/
def nkOf : D → Option NestedKey
  | .vl .non => some .none
  | .vl (.bl b) => some (.num (if b = true then 1 else 0))
  | .vl (.int i) => some (.num i)
  | .vl (.str s) => some (.text s)
  | .vl _ => none
  | .tup l => (nkOfL l).map .tup
  | .lst _ => none
  | .dct _ _ => none
  | .obj _ _ _ => none
  | .fm _ => none
  | .scr _ => none
  | .kdd _ _ _ => none
  | .dcz _ _ => none
  | .tupz _ => none
def nkOfL : List D → Option (List NestedKey)
  | [] => some []
  | d :: l => match nkOf d, nkOfL l with
    | some k, some r => some (k :: r)
    | _, _ => none
end
/-- the module's written part, the classes' places -/
structure Kx where
  K : PySem.W.Frag
  cl : Nat → Addr
/-- what is kept of a formula: filled in by the texts that speak of formulas -/
structure FmKit where
  kind : Fm → Str
  many : Fm → Int
  deep : Fm → Int
  atoms : Fm → Str
  bare : Fm → Str
  spell : Fm → Str
  alls : Fm → List Fm
def AllR (R : Addr → Fm → Prop) : List Addr → List Fm → Prop
  | [], fs => fs = []
  | a :: as, fs => ∃ f r, fs = f :: r ∧ R a f ∧ AllR R as r
theorem AllR.imp {R S : Addr → Fm → Prop} (h : ∀ a f, R a f → S a f) : ∀ {as : List Addr} {fs : List Fm}, AllR R as fs → AllR S as fs
  | [], _, e => e
  | _ :: _, _, ⟨f, r, e, x, t⟩ => ⟨f, r, e, h _ _ x, AllR.imp h t⟩
def PartsR (R : Addr → Fm → Prop) : Fm → List V → Prop
  | .at c, ps => ps = [.str ⟨#[c]⟩]
  | .no, ps => ps = []
  | .imp a b, ps => ∃ p q, ps = [.ref p, .ref q] ∧ R p a ∧ R q b
  | .all a, ps => ∃ p, ps = [.ref p] ∧ R p a
theorem PartsR.imp {R S : Addr → Fm → Prop} (h : ∀ a f, R a f → S a f) : ∀ {f : Fm} {ps : List V}, PartsR R f ps → PartsR S f ps
  | .at _, _, e => e
  | .no, _, e => e
  | .imp _ _, _, ⟨p, q, e, x, y⟩ => ⟨p, q, e, h _ _ x, h _ _ y⟩
  | .all _, _, ⟨p, e, x⟩ => ⟨p, e, h _ _ x⟩
section
variable (F : FmKit) (T : Kx)
def fmNames : List Str := ["kind", "parts", "many", "deepest", "atoms", "bare", "spelled", "alls_known"]
def fmFields (f : Fm) (pa al : Addr) : List (Str × V) :=
  [("kind", .str (F.kind f)), ("parts", .ref pa), ("many", .int (F.many f)), ("deepest", .int (F.deep f)), ("atoms", .str (F.atoms f)), ("bare", .str (F.bare f)), ("spelled", .str (F.spell f)), ("alls_known", .ref al)]
def FStep (H : Hp) (R : Addr → Fm → Prop) (a : Addr) (f : Fm) : Prop :=
  ∃ dx pa ps al as, H a = some (.ins (T.cl 0) dx (fmFields F f pa al)) ∧ SqT T.K H pa ps ∧ PartsR R f ps ∧ SqT T.K H al (as.map V.ref) ∧ AllR R as (F.alls f)
def FormAt (H : Hp) (a : Addr) (f : Fm) : Prop := ∃ R : Addr → Fm → Prop, (∀ b g, R b g → FStep F T H R b g) ∧ R a f
end
theorem Same.sqT {K : PySem.W.Frag} {H H' : Hp} {a : Addr} {xs : List V} (e : Same H H') (h : SqT K H a xs) : SqT K H' a xs := by
  rcases h with (h | ⟨o, h⟩) | h
  · exact .inl (.inl (e _ _ h))
  · exact .inl (.inr ⟨o, e _ _ h⟩)
  · exact .inr h
section
variable {F : FmKit} {T : Kx} {H H' : Hp} {R S : Addr → Fm → Prop} {a : Addr} {f : Fm}
theorem FStep.imp (h : ∀ a f, R a f → S a f) (e : Same H H') (x : FStep F T H R a f) : FStep F T H' S a f := by
  obtain ⟨dx, pa, ps, al, as, h1, h2, h3, h4, h5⟩ := x
  exact ⟨dx, pa, ps, al, as, e _ _ h1, Same.sqT e h2, h3.imp h, Same.sqT e h4, h5.imp h⟩
theorem FormAt.mono (e : Same H H') (x : FormAt F T H a f) : FormAt F T H' a f := by
  obtain ⟨R, h, r⟩ := x
  exact ⟨R, fun b g y => (h b g y).imp (fun _ _ z => z) e, r⟩
theorem FormAt.out (x : FormAt F T H a f) : FStep F T H (FormAt F T H) a f := by
  obtain ⟨R, h, r⟩ := x
  exact (h a f r).imp (fun b g y => ⟨R, h, y⟩) (Same.refl _)
theorem FormAt.mk (x : FStep F T H (fun b g => FormAt F T H b g ∨ (b = a ∧ g = f)) a f) : FormAt F T H a f := by
  refine ⟨fun b g => FormAt F T H b g ∨ (b = a ∧ g = f), fun b g y => ?_, .inr ⟨rfl, rfl⟩⟩
  rcases y with y | ⟨rfl, rfl⟩
  · exact y.out.imp (fun _ _ z => .inl z) (Same.refl _)
  · exact x
end
/-- a dict whose keys are nested tuples: its cell alone -/
def NkRaw (w : World) (h : Heap) (p : Addr) (as : List (NestedKey × Addr × V)) : Prop := ∃ (o : Obj) (es : Array DictEntry) (ep : Nat) (us : List (NestedKey × Addr × Value)),
  (p == sysModules) = false ∧ h.get? p = some o ∧ o.ExactDict ∧ o.data = .dict es ep ∧ es.toList = us.map (fun x => (⟨x.1.hash w, .ref x.2.1, x.2.2⟩ : DictEntry)) ∧ Paired (fun (a : NestedKey × Addr × V) (u : NestedKey × Addr × Value) => a.1 = u.1 ∧ a.2.1 = u.2.1 ∧ RelV a.2.2 u.2.2) as us
def NkO (w : World) (p : Addr) (as : List (NestedKey × Addr × V)) : HO := .ext fun h => NkRaw w h p as
mutual
/-- the value is such a key -/
def NkV (K : PySem.W.Frag) (H : Hp) : NestedKey → V → Prop
  | .none, v => v = .non
  | .num i, v => v = .int i ∨ ∃ b : Bool, v = .bl b ∧ i = if b = true then 1 else 0
  | .text s, v => v = .str s
  | .tup ks, v => ∃ a xs, v = .ref a ∧ SqT K H a xs ∧ NkL K H ks xs
def NkL (K : PySem.W.Frag) (H : Hp) : List NestedKey → List V → Prop
  | [], vs => vs = []
  | k :: ks, vs => ∃ v r, vs = v :: r ∧ NkV K H k v ∧ NkL K H ks r
end
mutual
theorem NkV.mono {K : PySem.W.Frag} {H H' : Hp} (e : Same H H') : ∀ (k : NestedKey) (v : V), NkV K H k v → NkV K H' k v
  | .none, _, h => h
  | .num _, _, h => h
  | .text _, _, h => h
  | .tup ks, _, ⟨a, xs, h1, h2, h3⟩ => ⟨a, xs, h1, Same.sqT e h2, NkL.mono e ks xs h3⟩
theorem NkL.mono {K : PySem.W.Frag} {H H' : Hp} (e : Same H H') : ∀ (ks : List NestedKey) (vs : List V), NkL K H ks vs → NkL K H' ks vs
  | [], _, h => h
  | k :: ks, _, ⟨v, r, h1, h2, h3⟩ => ⟨v, r, h1, NkV.mono e k v h2, NkL.mono e ks r h3⟩
end
section
variable (F : FmKit) (T : Kx) (H : Hp)
mutual
def Den : D → V → Prop
  | .vl w, v => v = w
  | .tup l, v => ∃ a xs, v = .ref a ∧ SqT T.K H a xs ∧ DenL l xs
  | .lst l, v => ∃ a xs, v = .ref a ∧ H a = some (.lst xs) ∧ DenL l xs
  | .dct ks l, v => ∃ a kvs, v = .ref a ∧ H a = some (.dK kvs) ∧ kvs.map (·.1) = ks ∧ ks.Nodup ∧ DenL l (kvs.map (·.2))
  | .dcz ks l, v => ∃ a o kvs, v = .ref a ∧ H a = some (.frz o (.dK kvs)) ∧ kvs.map (·.1) = ks ∧ ks.Nodup ∧ DenL l (kvs.map (·.2))
  | .obj c ns l, v => ∃ a dx fs, v = .ref a ∧ H a = some (.ins (T.cl c) dx fs) ∧ fs.map (·.1) = ns ∧ DenL l (fs.map (·.2))
  | .fm f, v => ∃ a, v = .ref a ∧ FormAt F T H a f
  | .scr l, v => ∃ a, v = .ref a ∧ SqL T.K H a l
  | .kdd w ks l, v => ∃ a o as, v = .ref a ∧ H a = some (.frz o (NkO w a as)) ∧ (as.map fun z => some z.1) = ks.map nkOf ∧ (as.map (·.1)).Nodup ∧ (∀ z ∈ as, NkV T.K H z.1 (.ref z.2.1) ∧ z.1.depth ≤ 8) ∧ DenL ks (as.map fun z => .ref z.2.1) ∧ DenL l (as.map (·.2.2))
  | .tupz l, v => ∃ a xs o, v = .ref a ∧ H a = some (.frz o (.tup xs)) ∧ o.dict = none ∧ DenL l xs
def DenL : List D → List V → Prop
  | [], vs => vs = []
  | d :: l, vs => ∃ v r, vs = v :: r ∧ Den d v ∧ DenL l r
end
end
section
variable {F : FmKit} {T : Kx} {H H' : Hp}
mutual
theorem Den.mono (e : Same H H') : ∀ (d : D) (v : V), Den F T H d v → Den F T H' d v
  | .vl _, _, h => h
  | .tup l, _, ⟨a, xs, h1, h2, h3⟩ => ⟨a, xs, h1, Same.sqT e h2, DenL.mono e l xs h3⟩
  | .lst l, _, ⟨a, xs, h1, h2, h3⟩ => ⟨a, xs, h1, e _ _ h2, DenL.mono e l xs h3⟩
  | .dct ks l, _, ⟨a, kvs, h1, h2, h3, h4, h5⟩ => ⟨a, kvs, h1, e _ _ h2, h3, h4, DenL.mono e l _ h5⟩
  | .dcz ks l, _, ⟨a, o, kvs, h1, h2, h3, h4, h5⟩ => ⟨a, o, kvs, h1, e _ _ h2, h3, h4, DenL.mono e l _ h5⟩
  | .obj c ns l, _, ⟨a, dx, fs, h1, h2, h3, h4⟩ => ⟨a, dx, fs, h1, e _ _ h2, h3, DenL.mono e l _ h4⟩
  | .fm f, _, ⟨a, h1, h2⟩ => ⟨a, h1, h2.mono e⟩
  | .scr l, _, ⟨a, h1, h2⟩ => ⟨a, h1, e.seq h2⟩
  | .kdd w ks l, _, ⟨a, o, as, h1, h2, h3, h4, h5, h6, h7⟩ => ⟨a, o, as, h1, e _ _ h2, h3, h4, fun z hz => ⟨NkV.mono e _ _ (h5 z hz).1, (h5 z hz).2⟩, DenL.mono e ks _ h6, DenL.mono e l _ h7⟩
  | .tupz l, _, ⟨a, xs, o, h1, h2, h3, h4⟩ => ⟨a, xs, o, h1, e _ _ h2, h3, DenL.mono e l xs h4⟩
theorem DenL.mono (e : Same H H') : ∀ (l : List D) (vs : List V), DenL F T H l vs → DenL F T H' l vs
  | [], _, h => h
  | d :: l, _, ⟨v, r, h1, h2, h3⟩ => ⟨v, r, h1, Den.mono e d v h2, DenL.mono e l r h3⟩
end
theorem DenL.len : ∀ {l : List D} {vs : List V}, DenL F T H l vs → vs.length = l.length
  | [], _, h => by
    have h : _ = [] := h
    rw [h]
    rfl
  | d :: l, _, ⟨v, r, h1, _, h3⟩ => by
    rw [h1, List.length_cons, List.length_cons, DenL.len h3]
theorem DenL.get : ∀ {l : List D} {vs : List V} {i : Nat} {d : D}, DenL F T H l vs → l[i]? = some d → ∃ v, vs[i]? = some v ∧ Den F T H d v
  | [], _, i, d, _, e => by simp at e
  | x :: l, _, 0, d, ⟨v, r, h1, h2, _⟩, e => by
    subst h1
    have e : x = d := Option.some.inj e
    subst e
    exact ⟨v, rfl, h2⟩
  | x :: l, _, i + 1, d, ⟨v, r, h1, _, h3⟩, e => by
    subst h1
    exact DenL.get (i := i) (d := d) h3 e
theorem DenL.at : ∀ {l : List D} {vs : List V} {i : Nat} {v : V}, DenL F T H l vs → vs[i]? = some v → ∃ d, l[i]? = some d ∧ Den F T H d v
  | [], _, i, v, h, e => by
    have h : _ = [] := h
    rw [h] at e
    simp at e
  | x :: l, _, 0, v, ⟨u, r, h1, h2, _⟩, e => by
    subst h1
    have e : u = v := Option.some.inj e
    subst e
    exact ⟨x, rfl, h2⟩
  | x :: l, _, i + 1, v, ⟨u, r, h1, _, h3⟩, e => by
    subst h1
    exact DenL.at (i := i) (v := v) h3 e
theorem DenL.app : ∀ {l m : List D} {vs us : List V}, DenL F T H l vs → DenL F T H m us → DenL F T H (l ++ m) (vs ++ us)
  | [], m, _, us, h, k => by
    have h : _ = [] := h
    subst h
    exact k
  | d :: l, m, _, us, ⟨v, r, h1, h2, h3⟩, k => by
    subst h1
    exact ⟨v, r ++ us, rfl, h2, DenL.app h3 k⟩
theorem DenL.app_inv : ∀ {l m : List D} {vs : List V}, DenL F T H (l ++ m) vs → ∃ us ws, vs = us ++ ws ∧ DenL F T H l us ∧ DenL F T H m ws
  | [], m, vs, h => ⟨[], vs, rfl, rfl, h⟩
  | d :: l, m, _, ⟨v, r, h1, h2, h3⟩ => by
    obtain ⟨us, ws, e, p, q⟩ := DenL.app_inv (l := l) h3
    exact ⟨v :: us, ws, by rw [h1, e] <;> rfl, ⟨v, us, rfl, h2, p⟩, q⟩
theorem DenL.set : ∀ {l : List D} {vs : List V} {i : Nat} {d : D} {v : V}, DenL F T H l vs → Den F T H d v → DenL F T H (l.set i d) (vs.set i v)
  | [], _, i, d, v, h, _ => by
    have h : _ = [] := h
    subst h
    rfl
  | x :: l, _, 0, d, v, ⟨u, r, h1, _, h3⟩, k => by
    subst h1
    exact ⟨v, r, rfl, k, h3⟩
  | x :: l, _, i + 1, d, v, ⟨u, r, h1, h2, h3⟩, k => by
    subst h1
    exact ⟨u, r.set i v, rfl, h2, DenL.set h3 k⟩
theorem DenL.one {d : D} {v : V} (h : Den F T H d v) : DenL F T H [d] [v] := ⟨v, [], rfl, h, rfl⟩
theorem DenL.vls (vs : List V) : DenL F T H (vs.map D.vl) vs := by
  induction vs with
  | nil => rfl
  | cons v r ih => exact ⟨v, r, rfl, rfl, ih⟩
theorem DenL.vls_inv : ∀ {ws vs : List V}, DenL F T H (ws.map D.vl) vs → vs = ws
  | [], _, h => h
  | w :: ws, _, ⟨v, r, h1, h2, h3⟩ => by
    have h2 : v = w := h2
    rw [h1, h2, DenL.vls_inv (ws := ws) h3]
theorem DenL.reverse : ∀ {l : List D} {vs : List V}, DenL F T H l vs → DenL F T H l.reverse vs.reverse
  | [], _, h => by
    have h : _ = [] := h
    subst h
    rfl
  | d :: l, _, ⟨v, r, h1, h2, h3⟩ => by
    subst h1
    rw [List.reverse_cons, List.reverse_cons]
    exact (DenL.reverse h3).app (DenL.one h2)
theorem DenL.take : ∀ {l : List D} {vs : List V} (n : Nat), DenL F T H l vs → DenL F T H (l.take n) (vs.take n)
  | l, vs, 0, _ => by
    rw [List.take_zero, List.take_zero]
    rfl
  | [], _, n + 1, h => by
    have h : _ = [] := h
    subst h
    rfl
  | d :: l, _, n + 1, ⟨v, r, h1, h2, h3⟩ => by
    subst h1
    exact ⟨v, r.take n, rfl, h2, DenL.take n h3⟩
theorem DenL.drop : ∀ {l : List D} {vs : List V} (n : Nat), DenL F T H l vs → DenL F T H (l.drop n) (vs.drop n)
  | l, vs, 0, h => h
  | [], _, n + 1, h => by
    have h : _ = [] := h
    subst h
    rfl
  | d :: l, _, n + 1, ⟨v, r, h1, h2, h3⟩ => by
    subst h1
    exact DenL.drop n h3
end
def ov (O H : Hp) : Hp := fun b => match O b with | some o => some o | none => H b
def Dis (O H : Hp) : Prop := ∀ b o, O b = some o → H b = none
section
variable {O O' H H' : Hp} {a b : Addr} {o u : HO}
theorem ov_own (h : O b = some o) : ov O H b = some o := by
  unfold ov
  rw [h]
theorem ov_fro (h : O b = none) : ov O H b = H b := by
  unfold ov
  rw [h]
theorem ov_none (h : ov O H b = none) : O b = none ∧ H b = none := by
  unfold ov at h
  cases e : O b with
  | none =>
    rw [e] at h
    exact ⟨rfl, h⟩
  | some o =>
    rw [e] at h
    cases h
theorem Dis.same (d : Dis O H) : Same H (ov O H) := fun b o h => by
  cases e : O b with
  | none => rw [ov_fro e, h]
  | some x =>
    rw [d b x e] at h
    cases h
theorem ov_updH (h : O a = none) : upd (ov O H) a o = ov O (upd H a o) := by
  funext b
  by_cases e : b = a
  · subst e
    rw [upd_same, ov_fro h, upd_same]
  · rw [upd_ne e]
    unfold ov
    rw [upd_ne e]
theorem ov_updO : upd (ov O H) a o = ov (upd O a o) H := by
  funext b
  by_cases e : b = a
  · subst e
    rw [upd_same, ov_own upd_same]
  · rw [upd_ne e]
    unfold ov
    rw [upd_ne e]
theorem Dis.updH (d : Dis O H) (h : O a = none) : Dis O (upd H a o) := fun b x e => by
  have n : b ≠ a := fun q => by
    subst q
    rw [h] at e
    cases e
  rw [upd_ne n]
  exact d b x e
theorem Dis.updO (d : Dis O H) (h : H a = none) : Dis (upd O a o) H := fun b x e => by
  by_cases q : b = a
  · subst q
    exact h
  · rw [upd_ne q] at e
    exact d b x e
theorem same_upd (h : H a = none) : Same H (upd H a o) := fun b x e => by
  rw [upd_ne (ne_of_none e h)]
  exact e
/-- a cell taken out -/
def del (O : Hp) (a : Addr) : Hp := fun b => if b = a then none else O b
theorem del_same : del O a a = none := by
  unfold del
  rw [if_pos rfl]
theorem del_ne (h : b ≠ a) : del O a b = O b := by
  unfold del
  rw [if_neg h]
theorem ov_freeze (h : O a = some o) : ov O H = ov (del O a) (upd H a o) := by
  funext b
  by_cases e : b = a
  · subst e
    rw [ov_own h, ov_fro del_same, upd_same]
  · unfold ov
    rw [del_ne e, upd_ne e]
theorem Dis.freeze (d : Dis O H) : Dis (del O a) (upd H a o) := fun b x e => by
  by_cases q : b = a
  · subst q
    rw [del_same] at e
    cases e
  · rw [del_ne q] at e
    rw [upd_ne q]
    exact d b x e
end
end N
set_option Elab.async false
set_option linter.all false
set_option maxRecDepth 100000
namespace N
open PySem L2
/-- what an owned cell holds -/
inductive OD where
  | lst (l : List D)
  | dct (ks : List Key) (l : List D)
  | ins (c : Nat) (ns : List Str) (l : List D)
  | any (o : HO)
  | lk (z : Obj) (kvs : List (Key × V)) (ks : List Key) (l : List D)
  | nk (w : World) (p : Addr) (ks : List (NestedKey × D))
  | kd (w : World) (p : Addr) (ps : List (D × D))
  | xd (ns : List Str) (l : List D)
abbrev Gm := List (Option D)
abbrev Om := List (Addr × OD)
def akeys (W : Om) : List Addr := W.map (·.1)
section
variable (F : FmKit) (T : Kx)
def OdAt (H : Hp) (x : Option HO) : OD → Prop
  | .lst l => ∃ xs, x = some (.lst xs) ∧ DenL F T H l xs
  | .dct ks l => ∃ kvs, x = some (.dK kvs) ∧ kvs.map (·.1) = ks ∧ ks.Nodup ∧ DenL F T H l (kvs.map (·.2))
  | .ins c ns l => ∃ dx fs, x = some (.ins (T.cl c) dx fs) ∧ fs.map (·.1) = ns ∧ DenL F T H l (fs.map (·.2))
  | .any o => x = some o
  | .lk z kvs ks l => x = some (.frz z (.dK kvs)) ∧ kvs.map (·.1) = ks ∧ ks.Nodup ∧ DenL F T H l (kvs.map (·.2))
  | .nk w p ks => ∃ as, x = some (NkO w p as) ∧ as.map (·.1) = ks.map (·.1) ∧ (ks.map (·.1)).Nodup ∧ (∀ z ∈ as, NkV T.K H z.1 (.ref z.2.1) ∧ z.1.depth ≤ 8) ∧ DenL F T H (ks.map (·.2)) (as.map (·.2.2))
  | .kd w p ps => ∃ as, x = some (NkO w p as) ∧ (as.map fun z => some z.1) = ps.map (fun z => nkOf z.1) ∧ (as.map (·.1)).Nodup ∧ (∀ z ∈ as, NkV T.K H z.1 (.ref z.2.1) ∧ z.1.depth ≤ 8) ∧ DenL F T H (ps.map (·.1)) (as.map fun z => .ref z.2.1) ∧ DenL F T H (ps.map (·.2)) (as.map (·.2.2))
  | .xd ns l => ∃ fs, x = some (.xd fs) ∧ fs.map (·.1) = ns ∧ DenL F T H l (fs.map (·.2))
/-- the slots -/
structure Lo (H : Hp) (G : Gm) (σ : St) : Prop where
  len : σ.length = G.length
  at_ : ∀ (i : Nat) (d : D), G[i]? = some (some d) → ∃ v, σ[i]? = some (some v) ∧ Den F T H d v
structure Ow (H C O : Hp) (W : Om) : Prop where
  nd : (akeys W).Nodup
  at_ : ∀ a od, (a, od) ∈ W → C a = none ∧ OdAt F T H (O a) od
/-- frozen H, owned O (the callers' part C of it), slots, owned cells -/
structure Wd (C : Hp) (G : Gm) (W : Om) (H O : Hp) (σ : St) : Prop where
  dis : Dis O H
  oc : Same C O
  loc : Lo F T H G σ
  own : Ow F T H C O W
/-- behind a step -/
structure Nx (C : Hp) (W : Om) (H H' O' : Hp) : Prop where
  ext : Same H H'
  dis : Dis O' H'
  oc : Same C O'
  own : Ow F T H' C O' W
end
section
variable {F : FmKit} {T : Kx} {H H' H1 C O O' : Hp} {G : Gm} {W W' : Om} {σ : St}
theorem OdAt.mono {x : Option HO} (e : Same H H') : ∀ {od : OD}, OdAt F T H x od → OdAt F T H' x od
  | .lst l, ⟨xs, h, k⟩ => ⟨xs, h, k.mono e⟩
  | .dct ks l, ⟨kvs, h, n, d, k⟩ => ⟨kvs, h, n, d, k.mono e⟩
  | .ins c ns l, ⟨dx, fs, h, n, k⟩ => ⟨dx, fs, h, n, k.mono e⟩
  | .any o, h => h
  | .lk z kvs ks l, ⟨h, n, d, k⟩ => ⟨h, n, d, k.mono e⟩
  | .nk w p ks, ⟨as, h, n, d, k, q⟩ => ⟨as, h, n, d, fun z hz => ⟨NkV.mono e _ _ (k z hz).1, (k z hz).2⟩, q.mono e⟩
  | .kd w p ps, ⟨as, h, n, d, k, q, r⟩ => ⟨as, h, n, d, fun z hz => ⟨NkV.mono e _ _ (k z hz).1, (k z hz).2⟩, q.mono e, r.mono e⟩
  | .xd ns l, ⟨fs, h, n, k⟩ => ⟨fs, h, n, k.mono e⟩
theorem OdAt.some {x : Option HO} : ∀ {od : OD}, OdAt F T H x od → ∃ o, x = some o
  | .lst l, ⟨xs, h, k⟩ => ⟨_, h⟩
  | .dct ks l, ⟨kvs, h, n, d, k⟩ => ⟨_, h⟩
  | .ins c ns l, ⟨dx, fs, h, n, k⟩ => ⟨_, h⟩
  | .any o, h => ⟨_, h⟩
  | .lk z kvs ks l, ⟨h, n, d, k⟩ => ⟨_, h⟩
  | .nk w p ks, ⟨as, h, _⟩ => ⟨_, h⟩
  | .kd w p ps, ⟨as, h, _⟩ => ⟨_, h⟩
  | .xd ns l, ⟨fs, h, n, k⟩ => ⟨_, h⟩
theorem Lo.mono (e : Same H H') (l : Lo F T H G σ) : Lo F T H' G σ :=
  ⟨l.len, fun i d h => let ⟨v, a, b⟩ := l.at_ i d h; ⟨v, a, b.mono e⟩⟩
theorem Lo.set {i : Nat} {d : D} {v : V} (l : Lo F T H G σ) (h : Den F T H d v) : Lo F T H (G.set i (some d)) (σ.set i (some v)) := by
  refine ⟨by rw [List.length_set, List.length_set]; exact l.len, fun j d' e => ?_⟩
  by_cases q : i = j
  · subst q
    have hi : i < G.length := by
      have := (List.getElem?_eq_some_iff.mp e).1
      rwa [List.length_set] at this
    rw [List.getElem?_set_self hi] at e
    have e : d = d' := Option.some.inj (Option.some.inj e)
    subst e
    exact ⟨v, by rw [List.getElem?_set_self (by rw [l.len]; exact hi)], h⟩
  · rw [List.getElem?_set_ne q] at e
    rw [List.getElem?_set_ne q]
    exact l.at_ j d' e
theorem Lo.forget {i : Nat} (l : Lo F T H G σ) (x : Option V) : Lo F T H (G.set i none) (σ.set i x) := by
  refine ⟨by rw [List.length_set, List.length_set]; exact l.len, fun j d' e => ?_⟩
  by_cases q : i = j
  · subst q
    have hi : i < G.length := by
      have := (List.getElem?_eq_some_iff.mp e).1
      rwa [List.length_set] at this
    rw [List.getElem?_set_self hi] at e
    cases e
  · rw [List.getElem?_set_ne q] at e
    rw [List.getElem?_set_ne q]
    exact l.at_ j d' e
theorem Ow.mono (e : Same H H') (o : Ow F T H C O W) : Ow F T H' C O W := ⟨o.nd, fun a od h => ⟨(o.at_ a od h).1, (o.at_ a od h).2.mono e⟩⟩
theorem Ow.notin {a : Addr} (o : Ow F T H C O W) (h : O a = none) : a ∉ akeys W := fun z => by
  obtain ⟨p, hp, e⟩ := List.mem_map.mp z
  obtain ⟨x, q⟩ := (o.at_ p.1 p.2 hp).2.some
  rw [e, h] at q
  cases q
theorem Nx.refl (d : Dis O H) (oc : Same C O) (o : Ow F T H C O W) : Nx F T C W H H O := ⟨Same.refl _, d, oc, o⟩
theorem Wd.nx (w : Wd F T C G W H O σ) : Nx F T C W H H O := ⟨Same.refl _, w.dis, w.oc, w.own⟩
theorem Nx.trans (a : Nx F T C W H H1 O) (b : Nx F T C W' H1 H' O') : Nx F T C W' H H' O' := ⟨a.ext.trans b.ext, b.dis, b.oc, b.own⟩
theorem Wd.step (w : Wd F T C G W H O σ) (n : Nx F T C W' H H' O') : Wd F T C G W' H' O' σ := ⟨n.dis, n.oc, w.loc.mono n.ext, n.own⟩
end
section
variable (F : FmKit) (T : Kx)
/-- te, at the slots G and the owned cells W, gives a d and leaves owned cells so that R -/
def Ev (te : TE) (G : Gm) (W : Om) (R : D → Om → Prop) : Prop :=
  ∀ (C H O : Hp) (σ : St), Wd F T C G W H O σ → ∀ Q : VK, (∀ d W' H' O' v, R d W' → Nx F T C W' H H' O' → Den F T H' d v → Q v (ov O' H')) → te σ (ov O H) Q
def EvT (t : TT) (G : Gm) (W : Om) (R : Bool → Om → Prop) : Prop :=
  ∀ (C H O : Hp) (σ : St), Wd F T C G W H O σ → ∀ Q : Bool → Hp → Prop, (∀ b W' H' O', R b W' → Nx F T C W' H H' O' → Q b (ov O' H')) → t σ (ov O H) Q
def EvA (ta : TA) (G : Gm) (W : Om) (R : List D → Om → Prop) : Prop :=
  ∀ (C H O : Hp) (σ : St), Wd F T C G W H O σ → ∀ Q : List V → Hp → Prop, (∀ ds W' H' O' vs, R ds W' → Nx F T C W' H H' O' → DenL F T H' ds vs → Q vs (ov O' H')) → ta σ (ov O H) Q
def EvO (to : TO) (G : Gm) (W : Om) (R : Option Int → Om → Prop) : Prop :=
  ∀ (C H O : Hp) (σ : St), Wd F T C G W H O σ → ∀ Q : Option Int → Hp → Prop, (∀ i W' H' O', R i W' → Nx F T C W' H H' O' → Q i (ov O' H')) → to σ (ov O H) Q
/-- an operation on two data -/
def Bo (r : R2) (d1 d2 : D) (W : Om) (R : D → Om → Prop) : Prop :=
  ∀ (C H O : Hp), Dis O H → Same C O → Ow F T H C O W → ∀ x y, Den F T H d1 x → Den F T H d2 y → ∀ Q : VK, (∀ d W' H' O' v, R d W' → Nx F T C W' H H' O' → Den F T H' d v → Q v (ov O' H')) → r x y (ov O H) Q
/-- a call on data -/
def Ca (r : List V → Hp → VK → Prop) (ds : List D) (W : Om) (R : D → Om → Prop) : Prop :=
  ∀ (C H O : Hp), Dis O H → Same C O → Ow F T H C O W → ∀ vs, DenL F T H ds vs → ∀ Q : VK, (∀ d W' H' O' v, R d W' → Nx F T C W' H H' O' → Den F T H' d v → Q v (ov O' H')) → r vs (ov O H) Q
structure En where
  nx : Gm → Om → Prop
  rt : D → Om → Prop
  bk : Gm → Om → Prop := fun _ _ => False
  ct : Gm → Om → Prop := fun _ _ => False
/-- the ends at heaps are met by the ends at data -/
structure EnOk (C H : Hp) (E : En) (B : Ends) : Prop where
  nx : ∀ G W H' O' σ', E.nx G W → Nx F T C W H H' O' → Lo F T H' G σ' → B.nx σ' (ov O' H')
  rt : ∀ d W H' O' v, E.rt d W → Nx F T C W H H' O' → Den F T H' d v → B.rt v (ov O' H')
  bk : ∀ G W H' O' σ', E.bk G W → Nx F T C W H H' O' → Lo F T H' G σ' → B.bk σ' (ov O' H')
  ct : ∀ G W H' O' σ', E.ct G W → Nx F T C W H H' O' → Lo F T H' G σ' → B.ct σ' (ov O' H')
def Sw (ts : TS) (G : Gm) (W : Om) (E : En) : Prop :=
  ∀ (C H O : Hp) (σ : St), Wd F T C G W H O σ → ∀ B : Ends, EnOk F T C H E B → ts B σ (ov O H)
/-- a target of names -/
def Tg (g : TG) (d : D) (G : Gm) (R : Gm → Prop) : Prop :=
  ∀ (H H1 : Hp) (σ : St) (v : V), Lo F T H G σ → Same H H1 → Den F T H d v → ∀ Q : St → Hp → Prop, (∀ G' σ', R G' → Lo F T H G' σ' → Q σ' H1) → g v σ H1 Q
/-- an iterator over data -/
def Wk (J : It) (H0 : Hp) (ds : List D) : Prop :=
  ∀ (i : Nat) (H O : Hp), Same H0 H → Dis O H →
    (∀ d, ds[i]? = some d → J.go i (ov O H) ∧ ∀ x H2, J.yld i (ov O H) x H2 → ∃ H', Same H H' ∧ Dis O H' ∧ H2 = ov O H' ∧ Den F T H' d x) ∧ (i = ds.length → J.stop i (ov O H))
def EvI (wi : TI) (G : Gm) (W : Om) (R : List D → Om → Prop) : Prop :=
  ∀ (C H O : Hp) (σ : St), Wd F T C G W H O σ → ∀ Q : It → Hp → Prop, (∀ J ds W' H' O', R ds W' → Nx F T C W' H H' O' → Wk F T J H' ds → Q J (ov O' H')) → wi σ (ov O H) Q
end
def E_ (post : D → Om → Prop) : En := { nx := fun _ W => post .non W, rt := post }
section
variable {F : FmKit} {T : Kx} {C H H' O O' : Hp} {G : Gm} {W W' : Om} {σ : St} {E E' : En} {B : Ends}
theorem EnOk.up (h : EnOk F T C H E B) (e : Same H H') : EnOk F T C H' E B :=
  ⟨fun G W H2 O' σ' a n l => h.nx G W H2 O' σ' a ⟨e.trans n.ext, n.dis, n.oc, n.own⟩ l, fun d W H2 O' v a n l => h.rt d W H2 O' v a ⟨e.trans n.ext, n.dis, n.oc, n.own⟩ l,
   fun G W H2 O' σ' a n l => h.bk G W H2 O' σ' a ⟨e.trans n.ext, n.dis, n.oc, n.own⟩ l, fun G W H2 O' σ' a n l => h.ct G W H2 O' σ' a ⟨e.trans n.ext, n.dis, n.oc, n.own⟩ l⟩
variable {te ta tb : TE} {t u : TT} {R R' : D → Om → Prop} {S S' : Bool → Om → Prop} {tr : TA} {ts tz : TS}
theorem Ev.imp (h : Ev F T te G W R) (i : ∀ d W', R d W' → R' d W') : Ev F T te G W R' := fun C H O σ w Q q => h C H O σ w Q fun d W' H' O' v r n k => q d W' H' O' v (i d W' r) n k
theorem EvT.imp (h : EvT F T t G W S) (i : ∀ b W', S b W' → S' b W') : EvT F T t G W S' := fun C H O σ w Q q => h C H O σ w Q fun d W' H' O' r n => q d W' H' O' (i d W' r) n
theorem Sw.imp (h : Sw F T ts G W E) (h1 : ∀ G W, E.nx G W → E'.nx G W) (h2 : ∀ d W, E.rt d W → E'.rt d W) (h3 : ∀ G W, E.bk G W → E'.bk G W) (h4 : ∀ G W, E.ct G W → E'.ct G W) : Sw F T ts G W E' :=
  fun C H O σ w B b => h C H O σ w B ⟨fun G W H' O' σ' a => b.nx G W H' O' σ' (h1 G W a), fun d W H' O' v a => b.rt d W H' O' v (h2 d W a), fun G W H' O' σ' a => b.bk G W H' O' σ' (h3 G W a), fun G W H' O' σ' a => b.ct G W H' O' σ' (h4 G W a)⟩
theorem ev_var {i : Nat} {d : D} (h : G[i]? = some (some d)) (r : R d W) : Ev F T (tVar i) G W R := fun C H O σ w Q q =>
  let ⟨v, e, k⟩ := w.loc.at_ i d h
  ⟨v, e, q d W H O v r w.nx k⟩
theorem ev_c {v : V} (r : R (.vl v) W) : Ev F T (tC v) G W R := fun C H O σ w Q q => q (.vl v) W H O v r w.nx rfl
theorem ev_op {r : R2} (h : Ev F T ta G W fun d1 W1 => Ev F T tb G W1 fun d2 W2 => Bo F T r d1 d2 W2 R) : Ev F T (tOp r ta tb) G W R := fun C H O σ w Q q =>
  h C H O σ w _ fun d1 W1 H1 O1 x h1 n1 k1 => h1 C H1 O1 σ (w.step n1) _ fun d2 W2 H2 O2 y h2 n2 k2 =>
    h2 C H2 O2 n2.dis n2.oc n2.own x y (k1.mono n2.ext) k2 Q fun d W' H' O' v rr n k => q d W' H' O' v rr ((n1.trans n2).trans n) k
theorem ev_cb {r : List V → Hp → VK → Prop} (h : EvA F T tr G W fun ds W1 => Ca F T r ds W1 R) : Ev F T (tCB r tr) G W R := fun C H O σ w Q q =>
  h C H O σ w _ fun ds W1 H1 O1 vs h1 n1 k1 => h1 C H1 O1 n1.dis n1.oc n1.own vs k1 Q fun d W' H' O' v rr n k => q d W' H' O' v rr (n1.trans n) k
theorem ea_nil {Z : List D → Om → Prop} (r : Z [] W) : EvA F T tNil G W Z := fun C H O σ w Q q => q [] W H O [] r w.nx rfl
theorem ea_cons {Z : List D → Om → Prop} (h : Ev F T ta G W fun d W1 => EvA F T tr G W1 fun ds W2 => Z (d :: ds) W2) : EvA F T (tCons ta tr) G W Z := fun C H O σ w Q q =>
  h C H O σ w _ fun d W1 H1 O1 x h1 n1 k1 => h1 C H1 O1 σ (w.step n1) _ fun ds W2 H2 O2 vs h2 n2 k2 => q (d :: ds) W2 H2 O2 (x :: vs) h2 (n1.trans n2) ⟨x, vs, rfl, k1.mono n2.ext, k2⟩
theorem et_test (h : Ev F T te G W fun d W1 => ∃ b, d = .bl b ∧ S b W1) : EvT F T (tTest te) G W S := fun C H O σ w Q q =>
  h C H O σ w _ fun d W1 H1 O1 x ⟨b, e, s⟩ n k => by
    subst e
    have k : x = .bl b := k
    exact ⟨b, k, q b W1 H1 O1 s n⟩
theorem et_B (h : Ev F T te G W fun d W1 => ∃ b, d = .bl b ∧ S b W1) : EvT F T (tB te) G W S := et_test h
theorem et_not (h : EvT F T t G W fun b W1 => S (!b) W1) : EvT F T (tNot t) G W S := fun C H O σ w Q q => h C H O σ w _ fun b W1 H1 O1 s n => q (!b) W1 H1 O1 s n
theorem et_and (h : EvT F T t G W fun b W1 => if b = true then EvT F T u G W1 S else S false W1) : EvT F T (tAnd t u) G W S := fun C H O σ w Q q =>
  h C H O σ w _ fun b W1 H1 O1 s n => by
    cases b with
    | true => exact s C H1 O1 σ (w.step n) _ fun b W2 H2 O2 s2 n2 => q b W2 H2 O2 s2 (n.trans n2)
    | false => exact q false W1 H1 O1 s n
theorem et_or (h : EvT F T t G W fun b W1 => if b = true then S true W1 else EvT F T u G W1 S) : EvT F T (tOr t u) G W S := fun C H O σ w Q q =>
  h C H O σ w _ fun b W1 H1 O1 s n => by
    cases b with
    | true => exact q true W1 H1 O1 s n
    | false => exact s C H1 O1 σ (w.step n) _ fun b W2 H2 O2 s2 n2 => q b W2 H2 O2 s2 (n.trans n2)
theorem ev_andV (h : Ev F T ta G W fun d W1 => ∃ b, d = .bl b ∧ if b = true then Ev F T tb G W1 R else R (.bl false) W1) : Ev F T (tAndV ta tb) G W R := fun C H O σ w Q q =>
  h C H O σ w _ fun d W1 H1 O1 x ⟨b, e, s⟩ n k => by
    subst e
    have k : x = .bl b := k
    refine ⟨b, k, ?_⟩
    cases b with
    | true => exact s C H1 O1 σ (w.step n) _ fun d W2 H2 O2 v s2 n2 k2 => q d W2 H2 O2 v s2 (n.trans n2) k2
    | false => exact q _ W1 H1 O1 _ s n rfl
theorem ev_orV (h : Ev F T ta G W fun d W1 => ∃ b, d = .bl b ∧ if b = true then R (.bl true) W1 else Ev F T tb G W1 R) : Ev F T (tOrV ta tb) G W R := fun C H O σ w Q q =>
  h C H O σ w _ fun d W1 H1 O1 x ⟨b, e, s⟩ n k => by
    subst e
    have k : x = .bl b := k
    refine ⟨b, k, ?_⟩
    cases b with
    | true => exact q _ W1 H1 O1 _ s n rfl
    | false => exact s C H1 O1 σ (w.step n) _ fun d W2 H2 O2 v s2 n2 k2 => q d W2 H2 O2 v s2 (n.trans n2) k2
theorem ev_notV (h : Ev F T ta G W fun d W1 => ∃ b, d = .bl b ∧ R (.bl (!b)) W1) : Ev F T (tNotV ta) G W R := fun C H O σ w Q q =>
  h C H O σ w _ fun d W1 H1 O1 x ⟨b, e, s⟩ n k => by
    subst e
    have k : x = .bl b := k
    exact ⟨b, k, q _ W1 H1 O1 _ s n rfl⟩
theorem ev_if (h : EvT F T t G W fun b W1 => if b = true then Ev F T ta G W1 R else Ev F T tb G W1 R) : Ev F T (tIf t ta tb) G W R := fun C H O σ w Q q =>
  h C H O σ w _ fun b W1 H1 O1 s n => by
    cases b with
    | true => exact s C H1 O1 σ (w.step n) _ fun d W2 H2 O2 v s2 n2 k2 => q d W2 H2 O2 v s2 (n.trans n2) k2
    | false => exact s C H1 O1 σ (w.step n) _ fun d W2 H2 O2 v s2 n2 k2 => q d W2 H2 O2 v s2 (n.trans n2) k2
theorem ev_isN (h : Ev F T ta G W fun d W1 => ∃ b, (∀ H v, Den F T H d v → decide (v = .non) = b) ∧ R (.bl b) W1) : Ev F T (tIsN ta) G W R := fun C H O σ w Q q =>
  h C H O σ w _ fun d W1 H1 O1 x ⟨b, e, s⟩ n k => by
    show Q (.bl (decide (x = .non))) _
    rw [e _ _ k]
    exact q _ W1 H1 O1 _ s n rfl
theorem op_sc {r : R2} {x y : V} (h : ∀ (H : Hp) (Q : VK), (∀ z, R (.vl z) W → Q z H) → r x y H Q) : Bo F T r (.vl x) (.vl y) W R := fun C H O dis oc own x' y' hx hy Q q => by
  have hx : x' = x := hx
  have hy : y' = y := hy
  subst hx hy
  exact h _ Q fun z rz => q (.vl z) W H O z rz (.refl dis oc own) rfl
theorem cl_sc {r : List V → Hp → VK → Prop} {xs : List V} (h : ∀ (H : Hp) (Q : VK), (∀ z, R (.vl z) W → Q z H) → r xs H Q) : Ca F T r (xs.map D.vl) W R := fun C H O dis oc own vs hv Q q => by
  have hv := DenL.vls_inv hv
  subst hv
  exact h _ Q fun z rz => q (.vl z) W H O z rz (.refl dis oc own) rfl
theorem sw_next (h : E.nx G W) : Sw F T tNext G W E := fun C H O σ w B b => b.nx G W H O σ h w.nx w.loc
theorem sw_seq (h : Sw F T ts G W { E with nx := fun G' W' => Sw F T tz G' W' E }) : Sw F T (tSeq ts tz) G W E := fun C H O σ w B b =>
  h C H O σ w { B with nx := tz B } ⟨fun G' W' H' O' σ' a n l => a C H' O' σ' ⟨n.dis, n.oc, l, n.own⟩ B (b.up n.ext), b.rt, b.bk, b.ct⟩
theorem sw_drop (h : Ev F T te G W fun _ W' => E.nx G W') : Sw F T (tDrop te) G W E := fun C H O σ w B b =>
  h C H O σ w _ fun d W' H' O' v r n k => b.nx G W' H' O' σ r n (w.loc.mono n.ext)
theorem sw_ret (h : Ev F T te G W E.rt) : Sw F T (tRet te) G W E := fun C H O σ w B b =>
  h C H O σ w _ fun d W' H' O' v r n k => b.rt d W' H' O' v r n k
theorem sw_if (h : EvT F T t G W fun c W' => if c = true then Sw F T ts G W' E else Sw F T tz G W' E) : Sw F T (tIfS t ts tz) G W E := fun C H O σ w B b =>
  h C H O σ w _ fun c W' H' O' r n => by
    cases c with
    | true => exact r C H' O' σ (w.step n) B (b.up n.ext)
    | false => exact r C H' O' σ (w.step n) B (b.up n.ext)
theorem sw_set {i : Nat} (h : Ev F T te G W fun d W' => E.nx (G.set i (some d)) W') : Sw F T (tAsg te (gName i)) G W E := fun C H O σ w B b =>
  h C H O σ w _ fun d W' H' O' v r n k => b.nx _ W' H' O' _ r n ((w.loc.mono n.ext).set k)
theorem sw_asg {g : TG} (h : Ev F T te G W fun d W' => Tg F T g d G fun G' => E.nx G' W') : Sw F T (tAsg te g) G W E := fun C H O σ w B b =>
  h C H O σ w _ fun d W' H' O' v r n k => r H' _ σ v (w.loc.mono n.ext) n.dis.same k _ fun G' σ' rr l => b.nx G' W' H' O' σ' rr n l
theorem sw_par {i j : Nat} {ta : TA} (h : EvA F T ta G W fun ds W' => ∃ d1 d2, ds = [d1, d2] ∧ E.nx ((G.set i (some d1)).set j (some d2)) W') : Sw F T (tPar i j ta) G W E := fun C H O σ w B b =>
  h C H O σ w _ fun ds W' H' O' vs ⟨d1, d2, e, r⟩ n k => by
    subst e
    obtain ⟨v1, r1, e1, k1, v2, r2, e2, k2, e3⟩ := k
    have e3 : r2 = [] := e3
    subst e3 e2 e1
    exact ⟨v1, v2, rfl, b.nx _ W' H' O' _ r n (((w.loc.mono n.ext).set k1).set k2)⟩
theorem tg_name {i : Nat} {d : D} {Z : Gm → Prop} (h : Z (G.set i (some d))) : Tg F T (gName i) d G Z := fun H H1 σ v l _ k Q q => q _ _ h (l.set k)
def Tgs (F : FmKit) (T : Kx) (g : TGs) (ds : List D) (G : Gm) (R : Gm → Prop) : Prop :=
  ∀ (H H1 : Hp) (σ : St) (vs : List V), Lo F T H G σ → Same H H1 → DenL F T H ds vs → ∀ Q : St → Hp → Prop, (∀ G' σ', R G' → Lo F T H G' σ' → Q σ' H1) → g vs σ H1 Q
theorem tgs_nil {Z : Gm → Prop} (h : Z G) : Tgs F T gNil [] G Z := fun H H1 σ v l _ k Q q => ⟨k, q _ _ h l⟩
theorem tgs_cons {g : TG} {gs : TGs} {d : D} {ds : List D} {Z : Gm → Prop} (h : Tg F T g d G fun G' => Tgs F T gs ds G' Z) : Tgs F T (gCons g gs) (d :: ds) G Z := fun H H1 σ vs l e k Q q => by
  obtain ⟨v, r, ev, k1, k2⟩ := k
  exact ⟨v, r, ev, h H H1 σ v l e k1 _ fun G' σ' hh l' => hh H H1 σ' r l' e k2 Q q⟩
theorem tg_tup {n : Nat} {gs : TGs} {ds : List D} {Z : Gm → Prop} (hn : ds.length = n) (h : Tgs F T gs ds G Z) : Tg F T (gTup T.K n gs) (.tup ds) G Z := fun H H1 σ v l e k Q q => by
  obtain ⟨a, xs, ev, hs, kl⟩ := k
  exact ⟨a, xs, ev, Same.sqT e hs, by rw [kl.len, hn], h H H1 σ xs l e kl Q q⟩
theorem sw_for {wi : TI} {g : TG} (h : EvI F T wi G W fun ds W1 => ∃ I : Nat → Gm → Om → Prop, I 0 G W1 ∧
      (∀ i d G' W', ds[i]? = some d → I i G' W' → Tg F T g d G' fun G2 => Sw F T ts G2 W' { E with nx := I (i + 1), ct := I (i + 1), bk := E.nx }) ∧ (∀ G' W', I ds.length G' W' → E.nx G' W')) :
    Sw F T (tFor wi g ts) G W E := fun C H O σ w B b =>
  h C H O σ w _ fun J ds W1 H1 O1 ⟨I, i0, turn, fin⟩ n1 wk => by
    refine ⟨fun i m σ' X => m = ds.length - i ∧ i ≤ ds.length ∧ ∃ G' W' H' O', X = ov O' H' ∧ Nx F T C W' H1 H' O' ∧ Lo F T H' G' σ' ∧ I i G' W', ⟨ds.length, by simp, Nat.zero_le _, G, W1, H1, O1, rfl, ⟨Same.refl _, n1.dis, n1.oc, n1.own⟩, w.loc.mono n1.ext, i0⟩, ?_⟩
    rintro i m σ' X ⟨rfl, hi, G', W', H', O', rfl, n, l, ii⟩
    have k := wk i H' O' n.ext n.dis
    by_cases hlt : i < ds.length
    · obtain ⟨k1, k2⟩ := k.1 ds[i] (by simp [hlt])
      refine .inr ⟨k1, fun σ2 X2 => ∃ G2 W2 H2 O2, X2 = ov O2 H2 ∧ Nx F T C W2 H1 H2 O2 ∧ Lo F T H2 G2 σ2 ∧ I (i + 1) G2 W2, fun σ2 X2 ⟨G2, W2, H2, O2, e, n2, l2, i2⟩ => ⟨ds.length - (i + 1), by omega, rfl, hlt, G2, W2, H2, O2, e, n2, l2, i2⟩, fun x X2 y => ?_⟩
      obtain ⟨H2, s2, d2, rfl, kx⟩ := k2 x X2 y
      refine turn i ds[i] G' W' (by simp [hlt]) ii H2 _ σ' x (l.mono s2) d2.same kx _ fun G3 σ3 sw l3 => ?_
      refine sw C H2 O' σ3 ⟨d2, n.oc, l3, n.own.mono s2⟩ _ ⟨fun G4 W4 H4 O4 σ4 a n4 l4 => ⟨G4, W4, H4, O4, rfl, ⟨(n.ext.trans s2).trans n4.ext, n4.dis, n4.oc, n4.own⟩, l4, a⟩, ?_, ?_, fun G4 W4 H4 O4 σ4 a n4 l4 => ⟨G4, W4, H4, O4, rfl, ⟨(n.ext.trans s2).trans n4.ext, n4.dis, n4.oc, n4.own⟩, l4, a⟩⟩
      · exact fun d W4 H4 O4 v a n4 k4 => b.rt d W4 H4 O4 v a ⟨((n1.ext.trans n.ext).trans s2).trans n4.ext, n4.dis, n4.oc, n4.own⟩ k4
      · exact fun G4 W4 H4 O4 σ4 a n4 l4 => b.nx G4 W4 H4 O4 σ4 a ⟨((n1.ext.trans n.ext).trans s2).trans n4.ext, n4.dis, n4.oc, n4.own⟩ l4
    · have e : i = ds.length := by omega
      subst e
      exact .inl ⟨k.2 rfl, b.nx G' W' H' O' σ' (fin G' W' ii) ⟨n1.ext.trans n.ext, n.dis, n.oc, n.own⟩ l⟩
/-- while, by a measure -/
theorem sw_while (I : Nat → Gm → Om → Prop) (m0 : Nat) (i0 : I m0 G W)
    (turn : ∀ m G' W', I m G' W' → EvT F T t G' W' fun c W2 => if c = true then Sw F T ts G' W2 { E with nx := fun G3 W3 => ∃ m', m' < m ∧ I m' G3 W3, ct := fun G3 W3 => ∃ m', m' < m ∧ I m' G3 W3, bk := E.nx } else E.nx G' W2) :
    Sw F T (tWhile t ts) G W E := fun C H O σ w B b => by
  refine ⟨fun m σ' X => ∃ G' W' H' O', X = ov O' H' ∧ Nx F T C W' H H' O' ∧ Lo F T H' G' σ' ∧ I m G' W', ⟨m0, G, W, H, O, rfl, w.nx, w.loc, i0⟩, ?_⟩
  rintro m σ' X ⟨G', W', H', O', rfl, n, l, ii⟩
  refine turn m G' W' ii C H' O' σ' ⟨n.dis, n.oc, l, n.own⟩ _ fun c W2 H2 O2 r n2 => ?_
  cases c with
  | true =>
    refine ⟨fun σ3 X3 => ∃ G3 W3 H3 O3, X3 = ov O3 H3 ∧ Nx F T C W3 H H3 O3 ∧ Lo F T H3 G3 σ3 ∧ ∃ m', m' < m ∧ I m' G3 W3, fun σ3 X3 ⟨G3, W3, H3, O3, e, n3, l3, m', hm, i3⟩ => ⟨m', hm, G3, W3, H3, O3, e, n3, l3, i3⟩, ?_⟩
    exact r C H2 O2 σ' ⟨n2.dis, n2.oc, l.mono n2.ext, n2.own⟩ _ ⟨fun G4 W4 H4 O4 σ4 a n4 l4 => ⟨G4, W4, H4, O4, rfl, (n.trans n2).trans n4, l4, a⟩, fun d W4 H4 O4 v a n4 k4 => b.rt d W4 H4 O4 v a ((n.trans n2).trans n4) k4,
      fun G4 W4 H4 O4 σ4 a n4 l4 => b.nx G4 W4 H4 O4 σ4 a ((n.trans n2).trans n4) l4, fun G4 W4 H4 O4 σ4 a n4 l4 => ⟨G4, W4, H4, O4, rfl, (n.trans n2).trans n4, l4, a⟩⟩
  | false => exact b.nx G' W2 H2 O2 σ' r (n.trans n2) (l.mono n2.ext)
end
end N
set_option Elab.async false
set_option linter.all false
set_option maxRecDepth 100000
namespace N
open PySem L2
section
variable {F : FmKit} {T : Kx} {C H H' O O' : Hp} {G : Gm} {W W' : Om} {σ : St} {a p : Addr} {od : OD} {d : D} {l : List D}
theorem Ow.sub {W2 : Om} (o : Ow F T H C O W) (h : W2.Sublist W) : Ow F T H C O W2 := ⟨o.nd.sublist (h.map _), fun a od m => o.at_ a od (h.subset m)⟩
theorem Ow.perm {W2 : Om} (o : Ow F T H C O W) (h : W.Perm W2) : Ow F T H C O W2 := ⟨(h.map _).nodup_iff.mp o.nd, fun a od m => o.at_ a od (h.mem_iff.mpr m)⟩
theorem Ow.tail {x : Addr × OD} (o : Ow F T H C O (x :: W)) : Ow F T H C O W := o.sub (List.sublist_cons_self x W)
theorem akeys_cons {x : Addr × OD} : akeys (x :: W) = x.1 :: akeys W := rfl
theorem mem_akeys {x : Addr × OD} (h : x ∈ W) : x.1 ∈ akeys W := List.mem_map.mpr ⟨x, h, rfl⟩
/-- a new owned cell -/
theorem Nx.newO {o : HO} (n : Nx F T C W H H' O') (hp : ov O' H' p = none) (h : OdAt F T H' (some o) od) : Nx F T C ((p, od) :: W) H H' (upd O' p o) ∧ upd (ov O' H') p o = ov (upd O' p o) H' ∧ p ∉ akeys W := by
  obtain ⟨h1, h2⟩ := ov_none hp
  have np := n.own.notin h1
  have cp : C p = none := by
    cases e : C p with
    | none => rfl
    | some x =>
      rw [n.oc p x e] at h1
      cases h1
  refine ⟨⟨n.ext, n.dis.updO h2, fun b x e => ?_, ⟨List.nodup_cons.mpr ⟨np, n.own.nd⟩, fun b ob m => ?_⟩⟩, ov_updO, np⟩
  · rw [upd_ne (ne_of_none e cp)]
    exact n.oc b x e
  · rcases List.mem_cons.mp m with e | m
    · obtain ⟨rfl, rfl⟩ := Prod.mk.inj e
      rw [upd_same]
      exact ⟨cp, h⟩
    · have : b ≠ p := fun q => np (q ▸ mem_akeys (x := (b, ob)) m)
      rw [upd_ne this]
      exact n.own.at_ b ob m
/-- a new frozen cell -/
theorem Nx.newF {o : HO} (n : Nx F T C W H H' O') (hp : ov O' H' p = none) : Nx F T C W H (upd H' p o) O' ∧ upd (ov O' H') p o = ov O' (upd H' p o) ∧ Same H' (upd H' p o) := by
  obtain ⟨h1, h2⟩ := ov_none hp
  have e := same_upd (o := o) h2
  exact ⟨⟨n.ext.trans e, n.dis.updH h1, n.oc, n.own.mono e⟩, ov_updH h1, e⟩
/-- an owned cell is written -/
theorem Nx.write {o : HO} {od2 : OD} {W1 W2 : Om} (n : Nx F T C (W1 ++ (p, od) :: W2) H H' O') (h : OdAt F T H' (some o) od2) : Nx F T C (W1 ++ (p, od2) :: W2) H H' (upd O' p o) ∧ upd (ov O' H') p o = ov (upd O' p o) H' := by
  have hm : (p, od) ∈ W1 ++ (p, od) :: W2 := by simp
  obtain ⟨cp, x⟩ := n.own.at_ p od hm
  obtain ⟨u, eu⟩ := x.some
  have nd := n.own.nd
  have ndk : (akeys (W1 ++ (p, od2) :: W2)) = akeys (W1 ++ (p, od) :: W2) := by simp [akeys]
  refine ⟨⟨n.ext, n.dis.updO (n.dis p u eu), fun b x e => ?_, ⟨by rw [ndk]; exact nd, fun b ob m => ?_⟩⟩, ov_updO⟩
  · rw [upd_ne (ne_of_none e cp)]
    exact n.oc b x e
  · by_cases q : b = p
    · subst q
      have : ob = od2 := by
        have nd2 : (akeys (W1 ++ (b, od2) :: W2)).Nodup := by rw [ndk]; exact nd
        have hu : ∀ (W : Om) (x y : OD), (akeys W).Nodup → (b, x) ∈ W → (b, y) ∈ W → x = y := by
          intro W
          induction W with
          | nil => intro x y _ h; simp at h
          | cons z W ih =>
            intro x y hn hx hy
            rw [akeys_cons, List.nodup_cons] at hn
            rcases List.mem_cons.mp hx with ex | hx
            · rcases List.mem_cons.mp hy with ey | hy
              · rw [← ex] at ey
                exact (Prod.mk.inj ey).2.symm
              · exact absurd (by rw [← ex]; exact mem_akeys (x := (b, y)) hy) hn.1
            · rcases List.mem_cons.mp hy with ey | hy
              · exact absurd (by rw [← ey]; exact mem_akeys (x := (b, x)) hx) hn.1
              · exact ih x y hn.2 hx hy
        exact hu _ ob od2 nd2 m (by simp)
      subst this
      rw [upd_same]
      exact ⟨cp, h⟩
    · rw [upd_ne q]
      refine n.own.at_ b ob ?_
      rcases List.mem_append.mp m with m | m
      · exact List.mem_append_left _ m
      · rcases List.mem_cons.mp m with e | m
        · exact absurd (Prod.mk.inj e).1 q
        · exact List.mem_append_right _ (List.mem_cons_of_mem _ m)
def partsD : Fm → List D
  | .at c => [.str ⟨#[c]⟩]
  | .no => []
  | .imp a b => [.fm a, .fm b]
  | .all a => [.fm a]
def AllsD (a : Addr) (f : Fm) : List D → List Fm → Prop
  | [], fs => fs = []
  | d :: ds, fs => ∃ g r, fs = g :: r ∧ (d = .fm g ∨ (d = .adr a ∧ g = f)) ∧ AllsD a f ds r
inductive Fzd (F : FmKit) (a : Addr) : OD → D → Prop
  | lst (l : List D) : Fzd F a (.lst l) (.lst l)
  | dct (ks : List Key) (l : List D) : Fzd F a (.dct ks l) (.dct ks l)
  | obj (c : Nat) (ns : List Str) (l : List D) : Fzd F a (.ins c ns l) (.obj c ns l)
  | fm (f : Fm) (al : List D) : AllsD a f al (F.alls f) → Fzd F a (.ins 0 fmNames [.str (F.kind f), .tup (partsD f), .int (F.many f), .int (F.deep f), .str (F.atoms f), .str (F.bare f), .str (F.spell f), .tup al]) (.fm f)
theorem parts_of {R : Addr → Fm → Prop} (hR : ∀ b g, FormAt F T H b g → R b g) : ∀ {f : Fm} {xs : List V}, DenL F T H (partsD f) xs → PartsR R f xs
  | .at c, xs, h => DenL.vls_inv (ws := [.str ⟨#[c]⟩]) h
  | .no, xs, h => h
  | .imp a b, xs, ⟨v, r, e, ⟨p, e1, h1⟩, u, s, e2, ⟨q, e3, h3⟩, e4⟩ => by
    have e4 : s = [] := e4
    subst e e1 e2 e3 e4
    exact ⟨p, q, rfl, hR _ _ h1, hR _ _ h3⟩
  | .all a, xs, ⟨v, r, e, ⟨p, e1, h1⟩, e2⟩ => by
    have e2 : r = [] := e2
    subst e e1 e2
    exact ⟨p, rfl, hR _ _ h1⟩
theorem alls_of {R : Addr → Fm → Prop} {f : Fm} (hR : ∀ b g, FormAt F T H b g → R b g) (ha : R a f) : ∀ {al : List D} {xs : List V} {fs : List Fm}, AllsD a f al fs → DenL F T H al xs → ∃ as : List Addr, xs = as.map V.ref ∧ AllR R as fs
  | [], xs, fs, h, k => ⟨[], k, h⟩
  | d :: ds, xs, fs, ⟨g, r, e, hd, ht⟩, ⟨v, rv, e1, k1, k2⟩ => by
    obtain ⟨as, e2, h2⟩ := alls_of hR ha ht k2
    subst e e1 e2
    rcases hd with hd | ⟨hd, hg⟩
    · subst hd
      obtain ⟨b, e3, h3⟩ := k1
      subst e3
      exact ⟨b :: as, rfl, g, r, rfl, hR _ _ h3, h2⟩
    · subst hd hg
      have k1 : v = .ref a := k1
      subst k1
      exact ⟨a :: as, rfl, g, r, rfl, ha, h2⟩
theorem lcons {α : Type} {n : α} {ns : List α} : ∀ {fs : List (α × V)}, fs.map (·.1) = n :: ns → ∃ v r, fs = (n, v) :: r ∧ r.map (·.1) = ns
  | [], h => by simp at h
  | (m, v) :: r, h => by
    rw [List.map_cons] at h
    injection h with h1 h2
    exact ⟨v, r, by rw [← h1], h2⟩
theorem Fzd.den (z : Fzd F a od d) (h : OdAt F T H (O a) od) (hn : H a = none) : ∃ o, O a = some o ∧ Den F T (upd H a o) d (.ref a) := by
  cases z with
  | lst l =>
    obtain ⟨xs, e, k⟩ := h
    exact ⟨_, e, a, xs, rfl, upd_same, k.mono (same_upd hn)⟩
  | dct ks l =>
    obtain ⟨kvs, e, h1, h2, k⟩ := h
    exact ⟨_, e, a, kvs, rfl, upd_same, h1, h2, k.mono (same_upd hn)⟩
  | obj c ns l =>
    obtain ⟨dx, fs, e, h1, k⟩ := h
    exact ⟨_, e, a, dx, fs, rfl, upd_same, h1, k.mono (same_upd hn)⟩
  | fm f al hal =>
    obtain ⟨dx, fs, e, h1, k⟩ := h
    refine ⟨_, e, a, rfl, ?_⟩
    obtain ⟨v1, r1, g1, w1⟩ := lcons h1
    subst g1
    obtain ⟨v2, r2, g2, w2⟩ := lcons w1
    subst g2
    obtain ⟨v3, r3, g3, w3⟩ := lcons w2
    subst g3
    obtain ⟨v4, r4, g4, w4⟩ := lcons w3
    subst g4
    obtain ⟨v5, r5, g5, w5⟩ := lcons w4
    subst g5
    obtain ⟨v6, r6, g6, w6⟩ := lcons w5
    subst g6
    obtain ⟨v7, r7, g7, w7⟩ := lcons w6
    subst g7
    obtain ⟨v8, r8, g8, w8⟩ := lcons w7
    subst g8
    have w9 : r8 = [] := List.map_eq_nil_iff.mp w8
    subst w9
    have k := k.mono (same_upd (o := .ins (T.cl 0) dx [("kind", v1), ("parts", v2), ("many", v3), ("deepest", v4), ("atoms", v5), ("bare", v6), ("spelled", v7), ("alls_known", v8)]) hn)
    obtain ⟨_, _, q1, k1, _, _, q2, k2, _, _, q3, k3, _, _, q4, k4, _, _, q5, k5, _, _, q6, k6, _, _, q7, k7, _, _, q8, k8, _⟩ := k
    simp only [List.map_cons, List.map_nil, List.cons.injEq] at q1 q2 q3 q4 q5 q6 q7 q8
    obtain ⟨rfl, rfl⟩ := q1
    obtain ⟨rfl, rfl⟩ := q2
    obtain ⟨rfl, rfl⟩ := q3
    obtain ⟨rfl, rfl⟩ := q4
    obtain ⟨rfl, rfl⟩ := q5
    obtain ⟨rfl, rfl⟩ := q6
    obtain ⟨rfl, rfl⟩ := q7
    obtain ⟨rfl, rfl⟩ := q8
    have k1 : v1 = .str (F.kind f) := k1
    obtain ⟨pa, ps, ep, hp, kp⟩ := k2
    have k3 : v3 = .int (F.many f) := k3
    have k4 : v4 = .int (F.deep f) := k4
    have k5 : v5 = .str (F.atoms f) := k5
    have k6 : v6 = .str (F.bare f) := k6
    have k7 : v7 = .str (F.spell f) := k7
    obtain ⟨aa, as, ea, ha, ka⟩ := k8
    subst k1 ep k3 k4 k5 k6 k7 ea
    obtain ⟨bs, eb, hb⟩ := alls_of (R := fun b g => FormAt F T (upd H a (.ins (T.cl 0) dx (fmFields F f pa aa))) b g ∨ (b = a ∧ g = f)) (fun b g x => .inl x) (.inr ⟨rfl, rfl⟩) hal ka
    subst eb
    exact FormAt.mk ⟨dx, pa, ps, aa, bs, upd_same, hp, parts_of (fun b g x => .inl x) kp, ha, hb⟩
/-- what may be taken in the place of d -/
def Fz (F : FmKit) (R : D → Om → Prop) : D → Om → Prop := fun d W => ∃ a od W2 d', d = .adr a ∧ W.Perm ((a, od) :: W2) ∧ Fzd F a od d' ∧ R d' W2
theorem Nx.freeze {W2 : Om} {d' : D} (n : Nx F T C W H H' O') (hp : W.Perm ((a, od) :: W2)) (z : Fzd F a od d') : ∃ o, O' a = some o ∧ Nx F T C W2 H (upd H' a o) (del O' a) ∧ ov O' H' = ov (del O' a) (upd H' a o) ∧ Den F T (upd H' a o) d' (.ref a) ∧ Same H' (upd H' a o) := by
  have ow := n.own.perm hp
  obtain ⟨ca, oa⟩ := ow.at_ a od (by simp)
  obtain ⟨u, eu⟩ := oa.some
  have hn : H' a = none := n.dis a u eu
  obtain ⟨o, eo, k⟩ := z.den (O := O') oa hn
  have e := same_upd (o := o) hn
  have nd := ow.nd
  rw [akeys_cons, List.nodup_cons] at nd
  refine ⟨o, eo, ⟨n.ext.trans e, n.dis.freeze, fun b x q => ?_, ⟨nd.2, fun b ob m => ?_⟩⟩, ov_freeze eo, k, e⟩
  · rw [del_ne (ne_of_none q ca)]
    exact n.oc b x q
  · have hb : b ≠ a := fun q => nd.1 (q ▸ mem_akeys (x := (b, ob)) m)
    rw [del_ne hb]
    obtain ⟨h1, h2⟩ := ow.at_ b ob (List.mem_cons_of_mem _ m)
    exact ⟨h1, h2.mono e⟩
end
section
variable {F : FmKit} {T : Kx} {C H H' O O' : Hp} {G : Gm} {W W' : Om} {σ : St} {a p : Addr} {od : OD} {d : D} {l : List D}
  {te ta tb : TE} {t u : TT} {R R' : D → Om → Prop} {S S' : Bool → Om → Prop} {tr : TA} {ts tz : TS} {E E' : En}
theorem ev_fz (h : Ev F T te G W (Fz F R)) : Ev F T te G W R := fun C H O σ w Q q => h C H O σ w Q fun d W' H' O' v ⟨a, od, W2, d', e, hp, z, r⟩ n k => by
  subst e
  have k : v = .ref a := k
  subst k
  obtain ⟨o, _, n2, eo, k2, _⟩ := n.freeze hp z
  rw [eo]
  exact q d' W2 _ _ _ r n2 k2
theorem ca_fz {r : List V → Hp → VK → Prop} {ds : List D} (h : Ca F T r ds W (Fz F R)) : Ca F T r ds W R := fun C H O di oc ow xs hx Q q => h C H O di oc ow xs hx Q fun d W' H' O' v ⟨a, od, W2, d', e, hp, z, r⟩ n k => by
  subst e
  have k : v = .ref a := k
  subst k
  obtain ⟨o, _, n2, eo, k2, _⟩ := n.freeze hp z
  rw [eo]
  exact q d' W2 _ _ _ r n2 k2
/-- a slot's owned cell is frozen -/
theorem sw_fz {i : Nat} {d' : D} {W2 : Om} (hi : G[i]? = some (some (.adr a))) (hp : W.Perm ((a, od) :: W2)) (z : Fzd F a od d') (h : Sw F T ts (G.set i (some d')) W2 E) : Sw F T ts G W E := fun C H O σ w B b => by
  obtain ⟨o, _, n2, eo, k2, e2⟩ := w.nx.freeze hp z
  obtain ⟨v, ev, kv⟩ := w.loc.at_ i _ hi
  have kv : v = .ref a := kv
  subst kv
  rw [eo]
  have l2 := (w.loc.mono e2).set (i := i) k2
  have es : σ.set i (some (.ref a)) = σ := by
    apply List.ext_getElem?
    intro j
    by_cases q : i = j
    · subst q
      have hl : i < σ.length := (List.getElem?_eq_some_iff.mp ev).1
      rw [List.getElem?_set_self hl, ev]
    · rw [List.getElem?_set_ne q]
  rw [es] at l2
  exact h C _ _ σ ⟨n2.dis, n2.oc, l2, n2.own⟩ B (b.up n2.ext)
theorem sw_drp {W2 : Om} (hs : W2.Sublist W) (h : Sw F T ts G W2 E) : Sw F T ts G W E := fun C H O σ w B b => h C H O σ ⟨w.dis, w.oc, w.loc, w.own.sub hs⟩ B b
theorem sw_perm {W2 : Om} (hs : W.Perm W2) (h : Sw F T ts G W2 E) : Sw F T ts G W E := fun C H O σ w B b => h C H O σ ⟨w.dis, w.oc, w.loc, w.own.perm hs⟩ B b
theorem ev_tup (h : EvA F T tr G W fun ds W1 => ds.length ≤ sizeLine ∧ R (.tup ds) W1) : Ev F T (tTup tr) G W R := fun C H O σ w Q q =>
  h C H O σ w _ fun ds W1 H1 O1 vs ⟨hl, r⟩ n k => ⟨by rw [k.len]; exact hl, fun p hp => by
    obtain ⟨n2, e, s⟩ := n.newF (o := .tup vs) hp
    rw [e]
    exact q (.tup ds) W1 _ _ _ r n2 ⟨p, vs, rfl, SqT.of upd_same, k.mono s⟩⟩
theorem ev_lst (h : EvA F T tr G W fun ds W1 => ds.length ≤ sizeLine ∧ ∀ p, p ∉ akeys W1 → R (.adr p) ((p, .lst ds) :: W1)) : Ev F T (tLst tr) G W R := fun C H O σ w Q q =>
  h C H O σ w _ fun ds W1 H1 O1 vs ⟨hl, r⟩ n k => ⟨by rw [k.len]; exact hl, fun p hp => by
    obtain ⟨n2, e, np⟩ := n.newO (od := .lst ds) (o := .lst vs) hp ⟨vs, rfl, k⟩
    rw [e]
    exact q (.adr p) _ _ _ _ (r p np) n2 rfl⟩
/-- .. frozen at once -/
theorem ev_lstF (h : EvA F T tr G W fun ds W1 => ds.length ≤ sizeLine ∧ R (.lst ds) W1) : Ev F T (tLst tr) G W R := fun C H O σ w Q q =>
  h C H O σ w _ fun ds W1 H1 O1 vs ⟨hl, r⟩ n k => ⟨by rw [k.len]; exact hl, fun p hp => by
    obtain ⟨n2, e, s⟩ := n.newF (o := .lst vs) hp
    rw [e]
    exact q (.lst ds) W1 _ _ _ r n2 ⟨p, vs, rfl, upd_same, k.mono s⟩⟩
/-- d is a list of l: frozen, or owned -/
def Vl (W : Om) (d : D) (l : List D) : Prop := (d = .lst l ∨ ∃ vs, d = .scr vs ∧ l = vs.map .vl) ∨ ∃ a, d = .adr a ∧ (a, .lst l) ∈ W
def Vs (W : Om) (d : D) (l : List D) : Prop := Vl W d l ∨ d = .tup l
theorem Vl.sq {x : V} (o : Ow F T H C O W) (di : Dis O H) (h : Vl W d l) (k : Den F T H d x) : ∃ a xs, x = .ref a ∧ SqL T.K (ov O H) a xs ∧ DenL F T H l xs := by
  rcases h with (rfl | ⟨vs, rfl, rfl⟩) | ⟨a, rfl, m⟩
  · obtain ⟨a, xs, e, hs, kl⟩ := k
    exact ⟨a, xs, e, SqL.of (di.same _ _ hs), kl⟩
  · obtain ⟨a, e, hs⟩ := k
    exact ⟨a, vs, e, di.same.seq hs, .vls vs⟩
  · obtain ⟨_, xs, e, kl⟩ := o.at_ a _ m
    exact ⟨a, xs, k, SqL.of (ov_own e), kl⟩
/-- a list that the program has made -/
def Vt (W : Om) (d : D) (l : List D) : Prop := d = .lst l ∨ ∃ a, d = .adr a ∧ (a, .lst l) ∈ W
theorem Vt.vl (h : Vt W d l) : Vl W d l := h.elim (fun h => .inl (.inl h)) .inr
theorem Vt.at {x : V} (o : Ow F T H C O W) (di : Dis O H) (h : Vt W d l) (k : Den F T H d x) : ∃ a xs, x = .ref a ∧ ov O H a = some (.lst xs) ∧ DenL F T H l xs := by
  rcases h with rfl | ⟨a, rfl, m⟩
  · obtain ⟨a, xs, e, hs, kl⟩ := k
    exact ⟨a, xs, e, di.same _ _ hs, kl⟩
  · obtain ⟨_, xs, e, kl⟩ := o.at_ a _ m
    exact ⟨a, xs, k, ov_own e, kl⟩
theorem Vs.sq {x : V} (o : Ow F T H C O W) (di : Dis O H) (h : Vs W d l) (k : Den F T H d x) : ∃ a xs, x = .ref a ∧ (SqL T.K (ov O H) a xs ∨ SqT T.K (ov O H) a xs) ∧ DenL F T H l xs := by
  rcases h with h | rfl
  · obtain ⟨a, xs, e, hs, kl⟩ := h.sq o di k
    exact ⟨a, xs, e, .inl hs, kl⟩
  · obtain ⟨a, xs, e, hs, kl⟩ := k
    exact ⟨a, xs, e, .inr (Same.sqT di.same hs), kl⟩
theorem ca_one {r : List V → Hp → VK → Prop} {d : D} (h : ∀ (C H O : Hp), Dis O H → Same C O → Ow F T H C O W → ∀ x, Den F T H d x → ∀ Q : VK, (∀ d W' H' O' v, R d W' → Nx F T C W' H H' O' → Den F T H' d v → Q v (ov O' H')) → r [x] (ov O H) Q) : Ca F T r [d] W R := fun C H O di oc ow vs k Q q => by
  obtain ⟨v, r', e, k1, e2⟩ := k
  have e2 : r' = [] := e2
  subst e e2
  exact h C H O di oc ow v k1 Q q
theorem ca_two {r : List V → Hp → VK → Prop} {d e : D} (h : ∀ (C H O : Hp), Dis O H → Same C O → Ow F T H C O W → ∀ x y, Den F T H d x → Den F T H e y → ∀ Q : VK, (∀ d W' H' O' v, R d W' → Nx F T C W' H H' O' → Den F T H' d v → Q v (ov O' H')) → r [x, y] (ov O H) Q) : Ca F T r [d, e] W R := fun C H O di oc ow vs k Q q => by
  obtain ⟨v, r', e1, k1, u, r2, e2, k2, e3⟩ := k
  have e3 : r2 = [] := e3
  subst e3 e2 e1
  exact h C H O di oc ow v u k1 k2 Q q
/-- len of a list or a tuple -/
theorem ca_len (hv : Vs W d l) (r : R (.int l.length) W) : Ca F T (fun xs H Q => ∃ x n, xs = [x] ∧ LenV T.K x H n ∧ Q (.int (n : Nat)) H) [d] W R := ca_one fun C H O di oc ow x k Q q => by
  obtain ⟨a, xs, e, hs, kl⟩ := hv.sq ow di k
  subst e
  refine ⟨_, xs.length, rfl, ?_, ?_⟩
  · exact hs.elim (fun h => .inl ⟨xs, h, rfl⟩) fun h => .inr ⟨xs, h, rfl⟩
  · rw [kl.len]
    exact q (.int l.length) W H O _ r (.refl di oc ow) rfl
theorem ca_lenS {s : Str} (hl : s.length ≤ sizeLine) (r : R (.int s.length) W) : Ca F T (fun xs H Q => ∃ x n, xs = [x] ∧ LenV T.K x H n ∧ Q (.int (n : Nat)) H) [.str s] W R := ca_one fun C H O di oc ow x k Q q => by
  have k : x = .str s := k
  subst k
  exact ⟨_, s.length, rfl, ⟨hl, rfl⟩, q (.int s.length) W H O _ r (.refl di oc ow) rfl⟩
/-- list(..) -/
theorem ca_list (hv : Vs W d l) (r : ∀ p, p ∉ akeys W → R (.adr p) ((p, .lst l) :: W)) : Ca F T (fun xs H Q => ∃ p ys, xs = [.ref p] ∧ (SqL T.K H p ys ∨ SqT T.K H p ys) ∧ ∀ q, H q = none → Q (.ref q) (upd H q (.lst ys))) [d] W R := ca_one fun C H O di oc ow x k Q q => by
  obtain ⟨a, xs, e, hs, kl⟩ := hv.sq ow di k
  subst e
  refine ⟨a, xs, rfl, hs, fun p hp => ?_⟩
  obtain ⟨n2, e, np⟩ := (Nx.refl di oc ow).newO (od := .lst l) (o := .lst xs) hp ⟨xs, rfl, kl⟩
  rw [e]
  exact q (.adr p) _ _ _ _ (r p np) n2 rfl
/-- tuple(list) -/
theorem ca_tup (hv : Vl W d l) (r : R (.tup l) W) : Ca F T (fun xs H Q => ∃ p ys, xs = [.ref p] ∧ ((SqL T.K H p ys ∧ ∀ q, H q = none → Q (.ref q) (upd H q (.tup ys))) ∨ (SqT T.K H p ys ∧ Q (.ref p) H))) [d] W R := ca_one fun C H O di oc ow x k Q q => by
  obtain ⟨a, xs, e, hs, kl⟩ := hv.sq ow di k
  subst e
  refine ⟨a, xs, rfl, .inl ⟨hs, fun p hp => ?_⟩⟩
  obtain ⟨n2, e, s⟩ := (Nx.refl di oc ow).newF (o := .tup xs) hp
  rw [e]
  exact q (.tup l) W _ _ _ r n2 ⟨p, xs, rfl, SqT.of upd_same, kl.mono s⟩
theorem atI_len {α β : Type} {xs : List α} {ys : List β} {i : Int} {y : β} (hl : xs.length = ys.length) (h : atI ys i = some y) : ∃ j : Nat, ys[j]? = some y ∧ ∀ x, xs[j]? = some x → atI xs i = some x := by
  unfold atI at h ⊢
  rw [hl]
  cases e : ixN ys.length i with
  | none =>
    rw [e] at h
    cases h
  | some j =>
    rw [e] at h
    exact ⟨j, h, fun x hx => hx⟩
theorem DenL.atI {l : List D} {xs : List V} {i : Int} {d : D} (k : DenL F T H l xs) (h : atI l i = some d) : ∃ v, L2.atI xs i = some v ∧ Den F T H d v := by
  obtain ⟨j, hj, f⟩ := atI_len (xs := xs) k.len h
  obtain ⟨v, hv, kv⟩ := k.get hj
  exact ⟨v, f v hv, kv⟩
theorem bo_ixL {i : Int} {z : D} (hv : Vl W d l) (hi : atI l i = some z) (r : R z W) : Bo F T (rIxL T.K) d (.int i) W R := fun C H O di oc ow x y hx hy Q q => by
  obtain ⟨a, xs, e, hs, kl⟩ := hv.sq ow di hx
  have hy : y = .int i := hy
  obtain ⟨v, ev, kv⟩ := kl.atI hi
  subst e hy
  exact ⟨a, xs, i, v, rfl, rfl, hs, ev, q z W H O v r (.refl di oc ow) kv⟩
theorem bo_ixT {i : Int} {z : D} (hi : atI l i = some z) (r : R z W) : Bo F T (rIxT T.K) (.tup l) (.int i) W R := fun C H O di oc ow x y hx hy Q q => by
  obtain ⟨a, xs, e, hs, kl⟩ := hx
  have hy : y = .int i := hy
  obtain ⟨v, ev, kv⟩ := kl.atI hi
  subst e hy
  exact ⟨a, xs, i, v, rfl, rfl, Same.sqT di.same hs, ev, q z W H O v r (.refl di oc ow) kv⟩
theorem ev_bm {Ty : String} {r : V → List V → Hp → VK → Prop} {to : TE}
    (h : Ev F T to G W fun d W1 => (∀ (C H O : Hp), Dis O H → Same C O → Ow F T H C O W1 → ∀ x, Den F T H d x → tyV T.K Ty x (ov O H)) ∧ EvA F T tr G W1 fun ds W2 =>
      ∀ (C H O : Hp), Dis O H → Same C O → Ow F T H C O W2 → ∀ x vs, Den F T H d x → DenL F T H ds vs → ∀ Q : VK, (∀ d W' H' O' v, R d W' → Nx F T C W' H H' O' → Den F T H' d v → Q v (ov O' H')) → r x vs (ov O H) Q) : Ev F T (tBM T.K Ty r to tr) G W R := fun C H O σ w Q q =>
  h C H O σ w _ fun d W1 H1 O1 x ⟨ht, ha⟩ n1 k1 => ⟨ht C H1 O1 n1.dis n1.oc n1.own x k1, ha C H1 O1 σ (w.step n1) _ fun ds W2 H2 O2 vs r2 n2 k2 =>
    r2 C H2 O2 n2.dis n2.oc n2.own x vs (k1.mono n2.ext) k2 Q fun d W' H' O' v rr n k => q d W' H' O' v rr ((n1.trans n2).trans n) k⟩
theorem ev_bm0 {Ty : String} {r : V → List V → Hp → VK → Prop} {to : TE}
    (h : Ev F T to G W fun d W1 => ∀ (C H O : Hp), Dis O H → Same C O → Ow F T H C O W1 → ∀ x, Den F T H d x → tyV T.K Ty x (ov O H) ∧
      ∀ Q : VK, (∀ d W' H' O' v, R d W' → Nx F T C W' H H' O' → Den F T H' d v → Q v (ov O' H')) → r x [] (ov O H) Q) : Ev F T (tBM0 T.K Ty r to) G W R := fun C H O σ w Q q =>
  h C H O σ w _ fun d W1 H1 O1 x r1 n1 k1 => let ⟨ht, r2⟩ := r1 C H1 O1 n1.dis n1.oc n1.own x k1
    ⟨ht, r2 Q fun d W' H' O' v rr n k => q d W' H' O' v rr (n1.trans n) k⟩
theorem own_lst {W1 W2 : Om} (ow : Ow F T H C O (W1 ++ (a, .lst l) :: W2)) : ∃ xs, O a = some (.lst xs) ∧ DenL F T H l xs := (ow.at_ a (.lst l) (by simp)).2
/-- l.append(e) -/
theorem ev_append {to : TE} (h : Ev F T to G W fun d W0 => ∃ a l0 W01 W02, d = .adr a ∧ W0 = W01 ++ (a, .lst l0) :: W02 ∧ EvA F T tr G W0 fun ds W' => ∃ l W1 W2 z, W' = W1 ++ (a, .lst l) :: W2 ∧ ds = [z] ∧ l.length < sizeLine ∧ R .non (W1 ++ (a, .lst (l ++ [z])) :: W2)) :
    Ev F T (tBM T.K "list" rAppend to tr) G W R := ev_bm (h.imp fun d W0 ⟨a, l0, W01, W02, e1, e2, ha⟩ => by
  subst e1
  refine ⟨fun C H O di oc ow x kx => ?_, ?_⟩
  · have kx : x = .ref a := kx
    subst kx e2
    obtain ⟨xs, e, _⟩ := own_lst ow
    exact .inl ⟨rfl, xs, SqL.of (ov_own e)⟩
  · refine fun C H O σ w Q q => ha C H O σ w Q fun ds W' H' O' vs ⟨l, W1, W2, z, e3, e4, hl, r⟩ n k => q ds W' H' O' vs ?_ n k
    subst e3 e4
    intro C H O di oc ow x vs kx kv Q q
    have kx : x = .ref a := kx
    obtain ⟨v, r', ev, k1, er⟩ := kv
    have er : r' = [] := er
    subst kx ev er
    obtain ⟨xs, e, kl⟩ := own_lst ow
    refine ⟨a, xs, v, rfl, rfl, ov_own e, by rw [kl.len]; exact hl, ?_⟩
    obtain ⟨n2, e2⟩ := (Nx.refl di oc ow).write (o := .lst (xs ++ [v])) (od2 := .lst (l ++ [z])) ⟨_, rfl, kl.app (.one k1)⟩
    rw [e2]
    exact q .non _ _ _ _ r n2 rfl)
/-- l.pop() -/
theorem ev_pop {to : TE} (h : Ev F T to G W fun d W0 => ∃ a l W1 W2 z, d = .adr a ∧ W0 = W1 ++ (a, .lst (l ++ [z])) :: W2 ∧ R z (W1 ++ (a, .lst l) :: W2)) : Ev F T (tBM0 T.K "list" rPop to) G W R :=
  ev_bm0 (h.imp fun d W0 ⟨a, l, W1, W2, z, e1, e2, r⟩ => by
    subst e1 e2
    intro C H O di oc ow x kx
    have kx : x = .ref a := kx
    subst kx
    obtain ⟨xs, e, kl⟩ := own_lst ow
    refine ⟨.inl ⟨rfl, xs, SqL.of (ov_own e)⟩, fun Q q => ?_⟩
    obtain ⟨us, ws, e3, k1, k2⟩ := kl.app_inv
    obtain ⟨v, r', ev, kv, er⟩ := k2
    have er : r' = [] := er
    subst er ev e3
    refine ⟨a, _, v, rfl, rfl, ov_own e, by simp, ?_⟩
    rw [List.dropLast_concat]
    obtain ⟨n2, e2⟩ := (Nx.refl di oc ow).write (o := .lst us) (od2 := .lst l) ⟨_, rfl, k1⟩
    rw [e2]
    exact q z _ _ _ _ r n2 kv)
/-- l[i] = e -/
theorem sw_setL {to ti : TE} (h : Ev F T te G W fun z W1 => Ev F T to G W1 fun d W2 => Ev F T ti G W2 fun i W3 => ∃ a l j k Wa Wb, d = .adr a ∧ i = .int k ∧ W3 = Wa ++ (a, .lst l) :: Wb ∧ ixN l.length k = some j ∧ E.nx G (Wa ++ (a, .lst (l.set j z)) :: Wb)) :
    Sw F T (tAsg te (gSub to ti rSetL)) G W E := fun C H O σ w B b =>
  h C H O σ w _ fun z W1 H1 O1 v h1 n1 k1 => h1 C H1 O1 σ (w.step n1) _ fun d W2 H2 O2 x h2 n2 k2 => h2 C H2 O2 σ ((w.step n1).step n2) _ fun i W3 H3 O3 y ⟨a, l, j, k, Wa, Wb, e1, e2, e3, hj, r⟩ n3 k3 => by
    subst e1 e2 e3
    have k2 : x = .ref a := k2
    have k3 : y = .int k := k3
    subst k2 k3
    obtain ⟨xs, e, kl⟩ := own_lst n3.own
    refine ⟨a, xs, k, j, rfl, rfl, ov_own e, by rw [kl.len]; exact hj, ?_⟩
    have nn := (n1.trans n2).trans n3
    obtain ⟨n4, e4⟩ := nn.write (o := .lst (xs.set j v)) (od2 := .lst (l.set j z)) ⟨_, rfl, kl.set ((k1.mono n2.ext).mono n3.ext)⟩
    rw [e4]
    exact b.nx _ _ _ _ _ r n4 (w.loc.mono nn.ext)
theorem ei_list {tl : TE} {Z : List D → Om → Prop} (h : Ev F T tl G W fun d W1 => ∃ l, d = .lst l ∧ Z l W1) : EvI F T (iList T.K tl) G W Z := fun C H O σ w Q q =>
  h C H O σ w _ fun d W1 H1 O1 x ⟨l, e, z⟩ n k => by
    subst e
    obtain ⟨a, xs, ea, hs, kl⟩ := k
    subst ea
    have hs : SqL T.K H1 a xs := SqL.of hs
    refine ⟨a, rfl, ⟨xs, n.dis.same.seq hs⟩, q _ l W1 H1 O1 z n fun i H2 O2 s di => ⟨fun d hd => ?_, fun e => ⟨xs, di.same.seq (s.seq hs), by rw [kl.len, e]; exact Nat.le_refl _⟩⟩⟩
    obtain ⟨v, hv, kv⟩ := kl.get hd
    have hq : SqL T.K (ov O2 H2) a xs := di.same.seq (s.seq hs)
    refine ⟨⟨xs, v, hq, hv⟩, fun x X ⟨e, y⟩ => ⟨H2, Same.refl _, di, e, ?_⟩⟩
    have := y xs hq
    rw [hv] at this
    cases this
    exact kv.mono s
theorem ei_tup {tl : TE} {Z : List D → Om → Prop} (h : Ev F T tl G W fun d W1 => ∃ l, d = .tup l ∧ Z l W1) : EvI F T (iTup T.K tl) G W Z := fun C H O σ w Q q =>
  h C H O σ w _ fun d W1 H1 O1 x ⟨l, e, z⟩ n k => by
    subst e
    obtain ⟨a, xs, ea, hs, kl⟩ := k
    subst ea
    refine ⟨a, rfl, ⟨xs, Same.sqT n.dis.same hs⟩, q _ l W1 H1 O1 z n fun i H2 O2 s di => ⟨fun d hd => ?_, fun e => ⟨xs, Same.sqT di.same (Same.sqT s hs), by rw [kl.len, e]; exact Nat.le_refl _⟩⟩⟩
    obtain ⟨v, hv, kv⟩ := kl.get hd
    have hq : SqT T.K (ov O2 H2) a xs := Same.sqT di.same (Same.sqT s hs)
    refine ⟨⟨xs, v, hq, hv⟩, fun x X ⟨e, y⟩ => ⟨H2, Same.refl _, di, e, ?_⟩⟩
    have := y xs hq
    rw [hv] at this
    cases this
    exact kv.mono s
def rng (lo : Int) (n : Nat) : List D := (List.range n).map fun k => .int (lo + (k : Nat))
theorem rng_len (lo : Int) (n : Nat) : (rng lo n).length = n := by simp [rng]
theorem rng_get {lo : Int} {n i : Nat} {d : D} (h : (rng lo n)[i]? = some d) : i < n ∧ d = .int (lo + (i : Nat)) := by
  have hi : i < (rng lo n).length := (List.getElem?_eq_some_iff.mp h).1
  rw [rng_len] at hi
  refine ⟨hi, ?_⟩
  unfold rng at h
  rw [List.getElem?_map, List.getElem?_range hi] at h
  exact (Option.some.inj h).symm
theorem wk_rng {lo : Int} {n : Nat} : Wk F T (Itr lo n) H (rng lo n) := fun i H2 O2 s di => ⟨fun d hd => by
  obtain ⟨hi, e⟩ := rng_get hd
  subst e
  exact ⟨hi, fun x X ⟨e1, e2⟩ => ⟨H2, Same.refl _, di, e1, e2⟩⟩, fun e => by
  rw [rng_len] at e
  show n ≤ i
  omega⟩
theorem ei_rng1 {Z : List D → Om → Prop} (h : EvA F T tr G W fun ds W1 => ∃ j : Int, ds = [.int j] ∧ -(2 ^ 62) ≤ j ∧ j < 2 ^ 62 ∧ Z (rng 0 j.toNat) W1) : EvI F T (iRng1 tr) G W Z := fun C H O σ w Q q =>
  h C H O σ w _ fun ds W1 H1 O1 vs ⟨j, e, h1, h2, z⟩ n k => by
    subst e
    have k := DenL.vls_inv (ws := [.int j]) k
    subst k
    exact ⟨j, rfl, h1, h2, q _ _ W1 H1 O1 z n wk_rng⟩
end
end N
set_option Elab.async false
set_option linter.all false
set_option maxRecDepth 100000
namespace N
open PySem L2
/-- a promise: data of the arguments, owned cells handed in, what is wanted behind -/
abbrev FS := List D → Om → (D → Om → Prop) → Prop
section
variable (F : FmKit) (T : Kx)
def spN (S : FS) : Sp := fun vs X Q _ => ∃ (ds : List D) (W : Om) (C H O : Hp) (post : D → Om → Prop), X = ov O H ∧ Dis O H ∧ Same C O ∧ Ow F T H C O W ∧ DenL F T H ds vs ∧ S ds W post ∧
  ∀ d W' H' O' v, post d W' → Nx F T C W' H H' O' → Den F T H' d v → Q v (ov O' H')
end
section
variable {F : FmKit} {T : Kx} {C H H' O O' : Hp} {G : Gm} {W W' : Om} {σ : St} {a p : Addr} {od : OD} {d : D} {l : List D}
  {te ta tb : TE} {t u : TT} {R R' : D → Om → Prop} {Z : Bool → Om → Prop} {tr tk : TA} {ts tz : TS} {E : XK} {En1 : En} {S : FS}
/-- a part of what is owned is handed in, the rest stands behind -/
theorem run_sp {ds : List D} {vs : List V} {Wc Wf : Om} {Q : VK} (di : Dis O H) (oc : Same C O) (ow : Ow F T H C O (Wc ++ Wf)) (k : DenL F T H ds vs) (h : S ds Wc fun d W' => R d (W' ++ Wf))
    (q : ∀ d W' H' O' v, R d W' → Nx F T C W' H H' O' → Den F T H' d v → Q v (ov O' H')) : spN F T S vs (ov O H) Q E := by
  have nd := ow.nd
  have nd2 : (akeys Wc ++ akeys Wf).Nodup := by
    have e : akeys (Wc ++ Wf) = akeys Wc ++ akeys Wf := by simp [akeys]
    rw [← e]
    exact nd
  rw [List.nodup_append] at nd2
  obtain ⟨ndc, ndf, dj⟩ := nd2
  have inF : ∀ b, b ∈ akeys Wf → ∃ od, (b, od) ∈ Wf := fun b hb => by
    obtain ⟨x, hx, e⟩ := List.mem_map.mp hb
    exact ⟨x.2, by rw [← e]; exact hx⟩
  have atF : ∀ b od, (b, od) ∈ Wf → C b = none ∧ OdAt F T H (O b) od := fun b od m => ow.at_ b od (List.mem_append_right _ m)
  refine ⟨ds, Wc, fun b => if b ∈ akeys Wf then O b else C b, H, O, _, rfl, di, fun b o e => ?_, ⟨ndc, fun a od m => ?_⟩, k, h, fun d W' H' O' v r n kd => q d (W' ++ Wf) H' O' v r ⟨n.ext, n.dis, fun b o e => ?_, ⟨?_, fun a od m => ?_⟩⟩ kd⟩
  · by_cases hb : b ∈ akeys Wf
    · simp only [if_pos hb] at e
      exact e
    · simp only [if_neg hb] at e
      exact oc b o e
  · have hn : a ∉ akeys Wf := fun z => dj a (mem_akeys m) a z rfl
    rw [if_neg hn]
    exact ow.at_ a od (List.mem_append_left _ m)
  · refine n.oc b o ?_
    by_cases hb : b ∈ akeys Wf
    · obtain ⟨od, m⟩ := inF b hb
      rw [(atF b od m).1] at e
      cases e
    · rw [if_neg hb]
      exact e
  · have e : akeys (W' ++ Wf) = akeys W' ++ akeys Wf := by simp [akeys]
    rw [e, List.nodup_append]
    refine ⟨n.own.nd, ndf, fun x hx y hy exy => ?_⟩
    subst exy
    obtain ⟨z, hz, ez⟩ := List.mem_map.mp hx
    have h1 := (n.own.at_ z.1 z.2 hz).1
    rw [ez, if_pos hy] at h1
    obtain ⟨od, m⟩ := inF _ hy
    obtain ⟨o, eo⟩ := (atF _ od m).2.some
    rw [h1] at eo
    cases eo
  · rcases List.mem_append.mp m with m | m
    · obtain ⟨h1, h2⟩ := n.own.at_ a od m
      refine ⟨?_, h2⟩
      by_cases hb : a ∈ akeys Wf
      · obtain ⟨od', m'⟩ := inF a hb
        exact (atF a od' m').1
      · rw [if_neg hb] at h1
        exact h1
    · obtain ⟨h1, h2⟩ := atF a od m
      obtain ⟨o, eo⟩ := h2.some
      have e2 : O' a = some o := n.oc a o (by rw [if_pos (mem_akeys (x := (a, od)) m)]; exact eo)
      rw [eo] at h2
      rw [e2]
      exact ⟨h1, h2.mono n.ext⟩
/-- what a call asks: the part of the owned cells that is handed in, the promise -/
def Hand (S : FS) (ds : List D) (W : Om) (R : D → Om → Prop) : Prop := ∃ Wc Wf, W.Perm (Wc ++ Wf) ∧ S ds Wc fun d W' => R d (W' ++ Wf)
theorem hand0 {ds : List D} (h : S ds [] fun d W' => R d (W' ++ W)) : Hand S ds W R := ⟨[], W, List.Perm.refl _, h⟩
theorem handA {ds : List D} (h : S ds W R) : Hand S ds W R := ⟨W, [], by rw [List.append_nil], by simpa only [List.append_nil] using h⟩
theorem Hand.run {ds : List D} {vs : List V} {Q : VK} (h : Hand S ds W R) (di : Dis O H) (oc : Same C O) (ow : Ow F T H C O W) (k : DenL F T H ds vs) (q : ∀ d W' H' O' v, R d W' → Nx F T C W' H H' O' → Den F T H' d v → Q v (ov O' H')) :
    spN F T S vs (ov O H) Q E := by
  obtain ⟨Wc, Wf, hp, hs⟩ := h
  exact run_sp di oc (ow.perm hp) k hs q
theorem ev_call {dvs : List V} (h : EvA F T tr G W fun ds W1 => Hand S (ds ++ dvs.map D.vl) W1 R) : Ev F T (tCall (spN F T S) dvs E tr) G W R := fun C H O σ w Q q =>
  h C H O σ w _ fun ds W1 H1 O1 vs h1 n k => h1.run n.dis n.oc n.own (k.app (.vls dvs)) fun d W' H' O' v r n2 kd => q d W' H' O' v r (n.trans n2) kd
def fmVals (F : FmKit) (f : Fm) : List D := [.str (F.kind f), .tup (partsD f), .int (F.many f), .int (F.deep f), .str (F.atoms f), .str (F.bare f), .str (F.spell f), .tup ((F.alls f).map .fm)]
inductive Inst (F : FmKit) (W : Om) : D → Nat → List Str → List D → Prop
  | fm (f : Fm) : Inst F W (.fm f) 0 fmNames (fmVals F f)
  | obj (c : Nat) (ns : List Str) (l : List D) : Inst F W (.obj c ns l) c ns l
  | own (a : Addr) (c : Nat) (ns : List Str) (l : List D) : (a, .ins c ns l) ∈ W → Inst F W (.adr a) c ns l
theorem parts_den : ∀ {f : Fm} {ps : List V}, PartsR (FormAt F T H) f ps → DenL F T H (partsD f) ps
  | .at c, _, h => by
    have h : _ = _ := h
    subst h
    exact .one rfl
  | .no, _, h => h
  | .imp a b, _, ⟨p, q, e, h1, h2⟩ => by
    subst e
    exact ⟨_, _, rfl, ⟨p, rfl, h1⟩, .one ⟨q, rfl, h2⟩⟩
  | .all a, _, ⟨p, e, h1⟩ => by
    subst e
    exact .one ⟨p, rfl, h1⟩
theorem alls_den : ∀ {as : List Addr} {fs : List Fm}, AllR (FormAt F T H) as fs → DenL F T H (fs.map .fm) (as.map V.ref)
  | [], _, h => by
    have h : _ = _ := h
    subst h
    rfl
  | a :: as, _, ⟨f, r, e, h1, h2⟩ => by
    subst e
    exact ⟨_, _, rfl, ⟨a, rfl, h1⟩, alls_den h2⟩
theorem Inst.at {c : Nat} {ns : List Str} {x : V} (i : Inst F W d c ns l) (di : Dis O H) (ow : Ow F T H C O W) (k : Den F T H d x) : ∃ a dx fs, x = .ref a ∧ ov O H a = some (.ins (T.cl c) dx fs) ∧ fs.map (·.1) = ns ∧ DenL F T H l (fs.map (·.2)) := by
  cases i with
  | fm f =>
    obtain ⟨a, e, fa⟩ := k
    obtain ⟨dx, pa, ps, al, as, h1, h2, h3, h4, h5⟩ := fa.out
    exact ⟨a, dx, _, e, di.same _ _ h1, rfl, _, _, rfl, rfl, _, _, rfl, ⟨pa, ps, rfl, h2, parts_den h3⟩, _, _, rfl, rfl, _, _, rfl, rfl, _, _, rfl, rfl, _, _, rfl, rfl, _, _, rfl, rfl, _, _, rfl, ⟨al, _, rfl, h4, alls_den h5⟩, rfl⟩
  | obj c ns l =>
    obtain ⟨a, dx, fs, e, h1, h2, h3⟩ := k
    exact ⟨a, dx, fs, e, di.same _ _ h1, h2, h3⟩
  | own a c ns l m =>
    obtain ⟨_, dx, fs, h1, h2, h3⟩ := ow.at_ a _ m
    exact ⟨a, dx, fs, k, ov_own h1, h2, h3⟩
theorem look_zip : ∀ {fs : List (Str × V)} {l : List D} {n : Str} {z : D}, DenL F T H l (fs.map (·.2)) → ((fs.map (·.1)).zip l).lookup n = some z → ∃ v, fs.lookup n = some v ∧ Den F T H z v
  | [], l, n, z, _, e => by simp at e
  | (m, v) :: fs, [], n, z, k, e => by simp at e
  | (m, v) :: fs, d :: l, n, z, ⟨w, r, e1, k1, k2⟩, e => by
    rw [List.map_cons] at e1
    obtain ⟨rfl, rfl⟩ := List.cons.inj e1
    rw [List.map_cons, List.zip_cons_cons, List.lookup_cons] at e
    rw [List.lookup_cons]
    cases q : n == m with
    | true =>
      rw [q] at e
      have e : d = z := Option.some.inj e
      subst e
      exact ⟨v, rfl, k1⟩
    | false =>
      rw [q] at e
      exact look_zip k2 e
theorem look_none : ∀ {fs : List (Str × V)} {n : Str}, n ∉ fs.map (·.1) → fs.lookup n = none
  | [], _, _ => rfl
  | (m, v) :: fs, n, h => by
    rw [List.map_cons, List.mem_cons, not_or] at h
    rw [List.lookup_cons, beq_eq_false_iff_ne.mpr h.1]
    exact look_none h.2
/-- o.f -/
theorem ev_fld {n : Str} (h : Ev F T ta G W fun d W1 => ∃ c ns l z, Inst F W1 d c ns l ∧ Cls T.K (T.cl c) ∧ NoAttr T.K (T.cl c) n ∧ (ns.zip l).lookup n = some z ∧ R z W1) : Ev F T (tFld T.K ta n) G W R := fun C H O σ w Q q =>
  h C H O σ w _ fun d W1 H1 O1 x ⟨c, ns, l, z, i, hc, hn, hl, r⟩ n1 k => by
    obtain ⟨a, dx, fs, e, h1, h2, h3⟩ := i.at n1.dis n1.own k
    subst h2
    obtain ⟨v, hv, kv⟩ := look_zip h3 hl
    exact ⟨a, _, dx, fs, v, e, h1, hc, hn, hv, q z W1 H1 O1 v r n1 kv⟩
/-- o.m(..) -/
theorem ev_meth {c : Nat} {m : Str} {dvs : List V} (h : Ev F T ta G W fun d W1 => ∃ ns l, Inst F W1 d c ns l ∧ m ∉ ns ∧ EvA F T tr G W1 fun ds W2 => Hand S (d :: (ds ++ dvs.map D.vl)) W2 R) : Ev F T (tMeth (T.cl c) m (spN F T S) dvs E ta tr) G W R := fun C H O σ w Q q =>
  h C H O σ w _ fun d W1 H1 O1 x ⟨ns, l, i, hm, ha⟩ n1 k1 => by
    obtain ⟨a, dx, fs, e, h1, h2, h3⟩ := i.at n1.dis n1.own k1
    refine ⟨a, dx, fs, e, h1, look_none (by rw [h2]; exact hm), ha C H1 O1 σ (w.step n1) _ fun ds W2 H2 O2 vs hh n2 k2 => ?_⟩
    exact hh.run n2.dis n2.oc n2.own ⟨x, _, rfl, k1.mono n2.ext, k2.app (.vls dvs)⟩ fun d W' H' O' v r n3 kd => q d W' H' O' v r ((n1.trans n2).trans n3) kd
theorem ev_prop {c : Nat} {dvs : List V} (h : Ev F T ta G W fun d W1 => ∃ ns l, Inst F W1 d c ns l ∧ Hand S (d :: dvs.map D.vl) W1 R) : Ev F T (tProp (T.cl c) (spN F T S) dvs E ta) G W R := fun C H O σ w Q q =>
  h C H O σ w _ fun d W1 H1 O1 x ⟨ns, l, i, hh⟩ n1 k1 => by
    obtain ⟨a, dx, fs, e, h1, h2, h3⟩ := i.at n1.dis n1.own k1
    subst e
    exact ⟨a, dx, fs, rfl, h1, hh.run n1.dis n1.oc n1.own ⟨_, _, rfl, k1, .vls dvs⟩ fun d W' H' O' v r n3 kd => q d W' H' O' v r (n1.trans n3) kd⟩
/-- C(..) -/
theorem run_make {c : Nat} {ds : List D} {vs : List V} {x dx : Addr} {Q : VK} (n : Nx F T C W H H' O') (k : DenL F T H' ds vs) (h : ∀ x, x ∉ akeys W → Hand S (.adr x :: ds) ((x, .ins c [] []) :: W) fun d W' => d = .non ∧ R (.adr x) W')
    (hx : ov O' H' x = none) (hdx : ov O' H' dx = none) (ne : dx ≠ x) (q : ∀ d W2 H2 O2 v, R d W2 → Nx F T C W2 H H2 O2 → Den F T H2 d v → Q v (ov O2 H2)) :
    spN F T S (.ref x :: vs) (upd (upd (ov O' H') dx (.own x)) x (.ins (T.cl c) dx [])) (fun v H2 => v = .non ∧ Q (.ref x) H2) E := by
  obtain ⟨n2, e2, s2⟩ := n.newF (o := .own x) hdx
  rw [e2]
  have hx2 : ov O' (upd H' dx (.own x)) x = none := by rw [← e2, upd_ne ne.symm]; exact hx
  obtain ⟨n3, e3, np⟩ := n2.newO (od := .ins c [] []) (o := .ins (T.cl c) dx []) hx2 ⟨dx, [], rfl, rfl, rfl⟩
  rw [e3]
  refine (h x np).run n3.dis n3.oc n3.own ⟨_, _, rfl, rfl, k.mono s2⟩ fun d W' H2 O2 v ⟨e, r⟩ n4 kd => ?_
  subst e
  exact ⟨kd, q (.adr x) W' H2 O2 _ r (n3.trans n4) rfl⟩
theorem ev_make {c : Nat} {dvs : List V} (h : EvA F T tr G W fun ds W1 => ∀ x, x ∉ akeys W1 → Hand S (.adr x :: (ds ++ dvs.map D.vl)) ((x, .ins c [] []) :: W1) fun d W' => d = .non ∧ R (.adr x) W') : Ev F T (tMake (T.cl c) (spN F T S) dvs E tr) G W R := fun C H O σ w Q q =>
  h C H O σ w _ fun ds W1 H1 O1 vs h1 n k x dx hx hdx ne => run_make n (k.app (.vls dvs)) h1 hx hdx ne q
theorem ev_makeR {c : Nat} (h : EvA F T tr G W fun ds W1 => ∀ x, x ∉ akeys W1 → Hand S (.adr x :: ds) ((x, .ins c [] []) :: W1) fun d W' => d = .non ∧ R (.adr x) W') : Ev F T (StX.tMakeR (T.cl c) (spN F T S) E tr) G W R := fun C H O σ w Q q =>
  h C H O σ w _ fun ds W1 H1 O1 vs h1 n k x dx hx hdx ne => run_make n k h1 hx hdx ne q
theorem putF_new : ∀ {fs : List (Str × V)} {n : Str} {v : V}, n ∉ fs.map (·.1) → putF n v fs = fs ++ [(n, v)]
  | [], _, _, _ => rfl
  | (m, x) :: fs, n, v, h => by
    rw [List.map_cons, List.mem_cons, not_or] at h
    unfold putF
    rw [if_neg (fun e => h.1 e.symm), putF_new h.2]
    rfl
theorem putF_at : ∀ {fs : List (Str × V)} {n : Str} {v : V} {j : Nat}, (fs.map (·.1)).Nodup → (fs.map (·.1))[j]? = some n → (putF n v fs).map (·.1) = fs.map (·.1) ∧ (putF n v fs).map (·.2) = (fs.map (·.2)).set j v
  | [], _, _, j, _, e => by simp at e
  | (m, x) :: fs, n, v, 0, nd, e => by
    have e : m = n := Option.some.inj e
    unfold putF
    rw [if_pos e]
    exact ⟨rfl, rfl⟩
  | (m, x) :: fs, n, v, j + 1, nd, e => by
    rw [List.map_cons, List.nodup_cons] at nd
    rw [List.map_cons, List.getElem?_cons_succ] at e
    have hne : m ≠ n := fun q => nd.1 (by rw [q]; exact List.mem_of_getElem? e)
    obtain ⟨h1, h2⟩ := putF_at (v := v) nd.2 e
    unfold putF
    rw [if_neg hne]
    refine ⟨?_, ?_⟩
    · rw [List.map_cons, List.map_cons, h1]
    · rw [List.map_cons, List.map_cons, h2]
      rfl
/-- n of an instance set: a new attribute, or the j-th one -/
inductive Put (n : Str) (z : D) : List Str → List D → List Str → List D → Prop
  | new (ns : List Str) (l : List D) : n ∉ ns → Put n z ns l (ns ++ [n]) (l ++ [z])
  | at (ns : List Str) (l : List D) (j : Nat) : ns.Nodup → ns[j]? = some n → Put n z ns l ns (l.set j z)
theorem Put.odat {n : Str} {z : D} {ns ns' : List Str} {l' : List D} {c : Nat} {dx : Addr} {fs : List (Str × V)} {v : V} (h : Put n z ns l ns' l') (e : fs.map (·.1) = ns) (k : DenL F T H l (fs.map (·.2))) (kz : Den F T H z v) : OdAt F T H (some (.ins (T.cl c) dx (putF n v fs))) (.ins c ns' l') := by
  cases h with
  | new hn =>
    refine ⟨dx, _, rfl, ?_, ?_⟩
    · rw [putF_new (by rw [e]; exact hn), List.map_append, e]
      rfl
    · rw [putF_new (by rw [e]; exact hn), List.map_append]
      exact k.app (.one kz)
  | «at» j nd hj =>
    obtain ⟨h1, h2⟩ := putF_at (v := v) (by rw [e]; exact nd) (by rw [e]; exact hj)
    refine ⟨dx, _, rfl, by rw [h1, e], ?_⟩
    rw [h2]
    exact k.set kz
def gFld (K : PySem.W.Frag) (ta : TE) (f : Str) : TG := fun y σ H Q => ta σ H fun x H2 => ∃ a C dx fs, x = .ref a ∧ H2 a = some (.ins C dx fs) ∧ Cls K C ∧ NoAttr K C f ∧ fs.length < 1000 ∧ Q σ (upd H2 a (.ins C dx (putF f y fs)))
/-- the receiver of a store -/
def Rcv (F : FmKit) (T : Kx) (d z : D) (n : Str) (W : Om) (R : Om → Prop) : Prop := ∃ a c ns l W1 W2 ns' l', d = .adr a ∧ W = W1 ++ (a, .ins c ns l) :: W2 ∧ Cls T.K (T.cl c) ∧ NoAttr T.K (T.cl c) n ∧ ns.length < 1000 ∧ Put n z ns l ns' l' ∧ R (W1 ++ (a, .ins c ns' l') :: W2)
theorem Rcv.run {x y : V} {z : D} {n : Str} {RW : Om → Prop} (h : Rcv F T d z n W RW) (nx : Nx F T C W H H' O') (kx : Den F T H' d x) (ky : Den F T H' z y) : ∃ a C' dx fs, x = .ref a ∧ ov O' H' a = some (.ins C' dx fs) ∧ Cls T.K C' ∧ NoAttr T.K C' n ∧ fs.length < 1000 ∧
    ∃ W2 O2, RW W2 ∧ Nx F T C W2 H H' O2 ∧ upd (ov O' H') a (.ins C' dx (putF n y fs)) = ov O2 H' := by
  obtain ⟨a, c, ns, l, W1, W2, ns', l', e1, e2, hc, hn, hl, hp, r⟩ := h
  subst e1 e2
  have kx : x = .ref a := kx
  obtain ⟨_, dx, fs, h1, h2, h3⟩ := nx.own.at_ a _ (List.mem_append_right _ List.mem_cons_self)
  obtain ⟨n2, e⟩ := nx.write (o := .ins (T.cl c) dx (putF n y fs)) (hp.odat h2 h3 ky)
  have hl2 : fs.length = ns.length := by rw [← h2, List.length_map]
  exact ⟨a, _, dx, fs, kx, ov_own h1, hc, hn, by rw [hl2]; exact hl, _, _, r, n2, e⟩
/-- o.f = e -/
theorem sw_fld {n : Str} (h : Ev F T tb G W fun z W1 => Ev F T ta G W1 fun d W2 => Rcv F T d z n W2 (En1.nx G)) : Sw F T (sFld T.K ta tb n) G W En1 := fun C H O σ w B b =>
  h C H O σ w _ fun z W1 H1 O1 y h1 n1 k1 => h1 C H1 O1 σ (w.step n1) _ fun d W2 H2 O2 x hr n2 k2 => by
    obtain ⟨a, C', dx, fs, e, h1, hc, hn, hl, W3, O3, r, n3, e3⟩ := hr.run (n1.trans n2) k2 (k1.mono n2.ext)
    refine ⟨a, C', dx, fs, e, h1, hc, hn, hl, ?_⟩
    rw [e3]
    exact b.nx G W3 _ _ σ r n3 (w.loc.mono (n1.trans n2).ext)
/-- a target of any form: slots and owned cells may change -/
def Ta (F : FmKit) (T : Kx) (g : TG) (d : D) (G : Gm) (W : Om) (R : Gm → Om → Prop) : Prop :=
  ∀ (C H O : Hp) (σ : St), Wd F T C G W H O σ → ∀ v, Den F T H d v → ∀ Q : St → Hp → Prop, (∀ G' W' H' O' σ', R G' W' → Nx F T C W' H H' O' → Lo F T H' G' σ' → Q σ' (ov O' H')) → g v σ (ov O H) Q
def Tas (F : FmKit) (T : Kx) (g : TGs) (ds : List D) (G : Gm) (W : Om) (R : Gm → Om → Prop) : Prop :=
  ∀ (C H O : Hp) (σ : St), Wd F T C G W H O σ → ∀ vs, DenL F T H ds vs → ∀ Q : St → Hp → Prop, (∀ G' W' H' O' σ', R G' W' → Nx F T C W' H H' O' → Lo F T H' G' σ' → Q σ' (ov O' H')) → g vs σ (ov O H) Q
theorem ta_fld {n : Str} {RR : Gm → Om → Prop} (h : Ev F T ta G W fun x W2 => Rcv F T x d n W2 (RR G)) : Ta F T (gFld T.K ta n) d G W RR := fun C H O σ w v k Q q =>
  h C H O σ w _ fun x W2 H2 O2 y hr n2 k2 => by
    obtain ⟨a, C', dx, fs, e, h1, hc, hn, hl, W3, O3, r, n3, e3⟩ := hr.run n2 k2 (k.mono n2.ext)
    refine ⟨a, C', dx, fs, e, h1, hc, hn, hl, ?_⟩
    rw [e3]
    exact q G W3 _ _ σ r n3 (w.loc.mono n2.ext)
theorem ta_tg {g : TG} {RR : Gm → Om → Prop} (h : Tg F T g d G fun G' => RR G' W) : Ta F T g d G W RR := fun C H O σ w v k Q q =>
  h H _ σ v w.loc w.dis.same k _ fun G' σ' r l => q G' W H O σ' r w.nx l
theorem ta_name {i : Nat} {RR : Gm → Om → Prop} (h : RR (G.set i (some d)) W) : Ta F T (gName i) d G W RR := ta_tg (tg_name h)
theorem tas_nil {RR : Gm → Om → Prop} (h : RR G W) : Tas F T gNil [] G W RR := fun C H O σ w v k Q q => ⟨k, q G W H O σ h w.nx w.loc⟩
theorem tas_cons {g : TG} {gs : TGs} {ds : List D} {RR : Gm → Om → Prop} (h : Ta F T g d G W fun G' W' => Tas F T gs ds G' W' RR) : Tas F T (gCons g gs) (d :: ds) G W RR := fun C H O σ w vs k Q q => by
  obtain ⟨v, r, ev, k1, k2⟩ := k
  exact ⟨v, r, ev, h C H O σ w v k1 _ fun G1 W1 H1 O1 σ1 hh n1 l1 => hh C H1 O1 σ1 ⟨n1.dis, n1.oc, l1, n1.own⟩ r (k2.mono n1.ext) Q fun G2 W2 H2 O2 σ2 r2 n2 l2 => q G2 W2 H2 O2 σ2 r2 (n1.trans n2) l2⟩
theorem ta_tup {n : Nat} {gs : TGs} {ds : List D} {RR : Gm → Om → Prop} (hn : ds.length = n) (h : Tas F T gs ds G W RR) : Ta F T (gTup T.K n gs) (.tup ds) G W RR := fun C H O σ w v k Q q => by
  obtain ⟨a, xs, ev, hs, kl⟩ := k
  exact ⟨a, xs, ev, Same.sqT w.dis.same hs, by rw [kl.len, hn], h C H O σ w xs kl Q q⟩
theorem sw_asgA {g : TG} (h : Ev F T te G W fun d W' => Ta F T g d G W' fun G2 W2 => En1.nx G2 W2) : Sw F T (tAsg te g) G W En1 := fun C H O σ w B b =>
  h C H O σ w _ fun d W' H' O' v r n k => r C H' O' σ (w.step n) v k _ fun G2 W2 H2 O2 σ2 r2 n2 l2 => b.nx G2 W2 H2 O2 σ2 r2 (n.trans n2) l2
theorem sw_asg2 {g1 g2 : TG} (h : Ev F T te G W fun d W' => Ta F T g1 d G W' fun G2 W2 => Ta F T g2 d G2 W2 fun G3 W3 => En1.nx G3 W3) : Sw F T (tAsg2 te g1 g2) G W En1 := fun C H O σ w B b =>
  h C H O σ w _ fun d W' H' O' v r n k => r C H' O' σ (w.step n) v k _ fun G2 W2 H2 O2 σ2 r2 n2 l2 => r2 C H2 O2 σ2 ⟨n2.dis, n2.oc, l2, n2.own⟩ v (k.mono n2.ext) _ fun G3 W3 H3 O3 σ3 r3 n3 l3 => b.nx G3 W3 H3 O3 σ3 r3 ((n.trans n2).trans n3) l3
theorem sw_asg3 {g1 g2 g3 : TG} (h : Ev F T te G W fun d W' => Ta F T g1 d G W' fun G2 W2 => Ta F T g2 d G2 W2 fun G3 W3 => Ta F T g3 d G3 W3 fun G4 W4 => En1.nx G4 W4) : Sw F T (tAsg3 te g1 g2 g3) G W En1 := fun C H O σ w B b =>
  h C H O σ w _ fun d W' H' O' v r n k => r C H' O' σ (w.step n) v k _ fun G2 W2 H2 O2 σ2 r2 n2 l2 => r2 C H2 O2 σ2 ⟨n2.dis, n2.oc, l2, n2.own⟩ v (k.mono n2.ext) _ fun G3 W3 H3 O3 σ3 r3 n3 l3 =>
    r3 C H3 O3 σ3 ⟨n3.dis, n3.oc, l3, n3.own⟩ v ((k.mono n2.ext).mono n3.ext) _ fun G4 W4 H4 O4 σ4 r4 n4 l4 => b.nx G4 W4 H4 O4 σ4 r4 (((n.trans n2).trans n3).trans n4) l4
end
end N
set_option Elab.async false
set_option linter.all false
set_option maxRecDepth 100000
namespace N
open PySem L2
def wipeG (G : Gm) : List Nat → Gm
  | [] => G
  | v :: vs => (wipeG G vs).set v none
theorem wipe_at {σ : St} {i : Nat} : ∀ {vs : List Nat}, (wipe σ vs)[i]? = if i ∈ vs then (σ[i]?).map (fun _ => none) else σ[i]?
  | [] => by simp [wipe]
  | v :: vs => by
    unfold wipe
    have ih := wipe_at (σ := σ) (i := i) (vs := vs)
    rw [List.getElem?_set]
    by_cases h : v = i
    · subst h
      rw [if_pos rfl, if_pos (List.mem_cons_self)]
      rw [wipe_length]
      by_cases hl : v < σ.length
      · rw [if_pos hl, List.getElem?_eq_getElem hl]
        rfl
      · rw [if_neg hl, List.getElem?_eq_none (by omega)]
        rfl
    · rw [if_neg h, ih]
      have : (i ∈ v :: vs) ↔ (i ∈ vs) := by
        rw [List.mem_cons]
        exact ⟨fun z => z.elim (fun q => absurd q.symm h) id, .inr⟩
      by_cases hm : i ∈ vs
      · rw [if_pos hm, if_pos (this.mpr hm)]
      · rw [if_neg hm, if_neg (fun z => hm (this.mp z))]
theorem wipe_wipe {σ : St} {vs : List Nat} : wipe (wipe σ vs) vs = wipe σ vs := by
  apply List.ext_getElem?
  intro i
  rw [wipe_at, wipe_at]
  by_cases h : i ∈ vs
  · simp [h]
    rfl
  · simp [h]
theorem wipe_set {σ : St} {vs : List Nat} {i : Nat} {x : Option V} (h : i ∈ vs) : wipe (σ.set i x) vs = wipe σ vs := by
  apply List.ext_getElem?
  intro j
  rw [wipe_at, wipe_at]
  by_cases hj : j ∈ vs
  · rw [if_pos hj, if_pos hj, List.getElem?_set]
    by_cases e : i = j
    · subst e
      rw [if_pos rfl]
      by_cases hl : i < σ.length
      · rw [if_pos hl, List.getElem?_eq_getElem hl]
        rfl
      · rw [if_neg hl, List.getElem?_eq_none (by omega)]
    · rw [if_neg e]
  · rw [if_neg hj, if_neg hj, List.getElem?_set_ne (fun (e : i = j) => hj (e ▸ h))]
section
variable {F : FmKit} {T : Kx} {C H H' O O' : Hp} {G : Gm} {W W' : Om} {σ : St} {a p : Addr} {d : D} {l : List D}
  {te ta tb tv : TE} {t u : TT} {R R' : D → Om → Prop} {Z : Bool → Om → Prop} {tr tk : TA} {ts tz : TS}
theorem Lo.wipe (lo : Lo F T H G σ) : ∀ vs : List Nat, Lo F T H (wipeG G vs) (wipe σ vs)
  | [] => lo
  | v :: vs => (Lo.wipe lo vs).forget none
/-- a target of the comprehension's own names -/
def Tw (F : FmKit) (T : Kx) (vs : List Nat) (g : TG) (d : D) (G : Gm) (R : Gm → Prop) : Prop :=
  ∀ (H H1 : Hp) (σ : St) (v : V), Lo F T H G σ → Same H H1 → Den F T H d v → ∀ Q : St → Hp → Prop, (∀ G' σ', R G' → Lo F T H G' σ' → wipe σ' vs = wipe σ vs → Q σ' H1) → g v σ H1 Q
def Tws (F : FmKit) (T : Kx) (vs : List Nat) (g : TGs) (ds : List D) (G : Gm) (R : Gm → Prop) : Prop :=
  ∀ (H H1 : Hp) (σ : St) (us : List V), Lo F T H G σ → Same H H1 → DenL F T H ds us → ∀ Q : St → Hp → Prop, (∀ G' σ', R G' → Lo F T H G' σ' → wipe σ' vs = wipe σ vs → Q σ' H1) → g us σ H1 Q
variable {vs : List Nat} {Y : Gm → Prop}
theorem tw_name {i : Nat} (hi : i ∈ vs) (h : Y (G.set i (some d))) : Tw F T vs (gName i) d G Y := fun H H1 σ v l _ k Q q => q _ _ h (l.set k) (wipe_set hi)
theorem tws_nil (h : Y G) : Tws F T vs gNil [] G Y := fun H H1 σ v l _ k Q q => ⟨k, q _ _ h l rfl⟩
theorem tws_cons {g : TG} {gs : TGs} {ds : List D} (h : Tw F T vs g d G fun G' => Tws F T vs gs ds G' Y) : Tws F T vs (gCons g gs) (d :: ds) G Y := fun H H1 σ us l e k Q q => by
  obtain ⟨v, r, ev, k1, k2⟩ := k
  exact ⟨v, r, ev, h H H1 σ v l e k1 _ fun G' σ' hh l' w1 => hh H H1 σ' r l' e k2 Q fun G2 σ2 r2 l2 w2 => q G2 σ2 r2 l2 (w2.trans w1)⟩
theorem tw_tup {n : Nat} {gs : TGs} {ds : List D} (hn : ds.length = n) (h : Tws F T vs gs ds G Y) : Tw F T vs (gTup T.K n gs) (.tup ds) G Y := fun H H1 σ v l e k Q q => by
  obtain ⟨a, xs, ev, hs, kl⟩ := k
  exact ⟨a, xs, ev, Same.sqT e hs, by rw [kl.len, hn], h H H1 σ xs l e kl Q q⟩
/-- a hidden cell -/
theorem Nx.hide {o : HO} {Dp : Addr} {W1 : Om} {H1 : Hp} (n : Nx F T C W1 H H1 O') (hD : ov O' H1 Dp = none) : Nx F T (upd C Dp o) W1 H1 H1 (upd O' Dp o) ∧ upd (ov O' H1) Dp o = ov (upd O' Dp o) H1 ∧ C Dp = none := by
  obtain ⟨h1, h2⟩ := ov_none hD
  have cp : C Dp = none := by
    cases e : C Dp with
    | none => rfl
    | some x =>
      rw [n.oc Dp x e] at h1
      cases h1
  refine ⟨⟨Same.refl _, n.dis.updO h2, fun b x e => ?_, ⟨n.own.nd, fun b ob m => ?_⟩⟩, ov_updO, cp⟩
  · by_cases q : b = Dp
    · subst q
      rw [upd_same] at e ⊢
      exact e
    · rw [upd_ne q] at e ⊢
      exact n.oc b x e
  · have : b ≠ Dp := fun q => n.own.notin h1 (q ▸ mem_akeys (x := (b, ob)) m)
    rw [upd_ne this, upd_ne this]
    exact n.own.at_ b ob m
/-- the hidden cell is written -/
theorem Nx.rehide {o o' : HO} {Dp : Addr} {W2 : Om} {H1 H2 O2 : Hp} (n : Nx F T (upd C Dp o) W2 H1 H2 O2) (cp : C Dp = none) : Nx F T (upd C Dp o') W2 H1 H2 (upd O2 Dp o') ∧ upd (ov O2 H2) Dp o' = ov (upd O2 Dp o') H2 := by
  have hO : O2 Dp = some o := n.oc Dp o upd_same
  refine ⟨⟨n.ext, n.dis.updO (n.dis Dp o hO), fun b x e => ?_, ⟨n.own.nd, fun b ob m => ?_⟩⟩, ov_updO⟩
  · by_cases q : b = Dp
    · subst q
      rw [upd_same] at e ⊢
      exact e
    · rw [upd_ne q] at e
      rw [upd_ne q]
      exact n.oc b x (by rw [upd_ne q]; exact e)
  · obtain ⟨c1, c2⟩ := n.own.at_ b ob m
    have hb : b ≠ Dp := fun q => by
      rw [q, upd_same] at c1
      cases c1
    rw [upd_ne hb] at c1
    rw [upd_ne hb, upd_ne hb]
    exact ⟨c1, c2⟩
/-- the hidden cell comes out as an owned one -/
theorem Nx.show {o : HO} {od : OD} {Dp : Addr} {W2 : Om} {H1 H2 O2 : Hp} (n : Nx F T (upd C Dp o) W2 H1 H2 O2) (cp : C Dp = none) (h : OdAt F T H2 (some o) od) : Nx F T C ((Dp, od) :: W2) H1 H2 O2 ∧ Dp ∉ akeys W2 := by
  have hO : O2 Dp = some o := n.oc Dp o upd_same
  have nin : Dp ∉ akeys W2 := fun z => by
    obtain ⟨x, hx, e⟩ := List.mem_map.mp z
    have := (n.own.at_ x.1 x.2 hx).1
    rw [e, upd_same] at this
    cases this
  refine ⟨⟨n.ext, n.dis, fun b x e => n.oc b x (by rw [upd_ne (ne_of_none e cp)]; exact e), ⟨List.nodup_cons.mpr ⟨nin, n.own.nd⟩, fun b ob m => ?_⟩⟩, nin⟩
  rcases List.mem_cons.mp m with e | m
  · obtain ⟨rfl, rfl⟩ := Prod.mk.inj e
    rw [hO]
    exact ⟨cp, h⟩
  · obtain ⟨c1, c2⟩ := n.own.at_ b ob m
    have hb : b ≠ Dp := fun q => by
      rw [q, upd_same] at c1
      cases c1
    rw [upd_ne hb] at c1
    exact ⟨c1, c2⟩
/-- [e for .. in .. if ..] -/
theorem ev_lc {wi : TI} {g : TG} (h : EvI F T wi G W fun ds W1 => ∃ I : Nat → List D → Om → Prop, I 0 [] W1 ∧
      (∀ i d acc W', ds[i]? = some d → I i acc W' → Tw F T vs g d (wipeG G vs) fun G2 => EvT F T t G2 W' fun b W2 => if b = true then Ev F T te G2 W2 (fun z W3 => acc.length < sizeLine ∧ I (i + 1) (acc ++ [z]) W3) else I (i + 1) acc W2) ∧
      (∀ acc W', I ds.length acc W' → ∀ p, p ∉ akeys W' → R (.adr p) ((p, .lst acc) :: W'))) : Ev F T (tLc wi g t te vs) G W R := fun C H O σ w Q q =>
  h C H O σ w _ fun J ds W1 H1 O1 ⟨I, i0, turn, fin⟩ n1 wk Dp hD => by
    obtain ⟨n0, e0, cp⟩ := n1.hide (o := .lst []) hD
    refine ⟨fun i m X => m = ds.length - i ∧ i ≤ ds.length ∧ ∃ acc av W' H' O', X = ov O' H' ∧ Nx F T (upd C Dp (.lst av)) W' H1 H' O' ∧ DenL F T H' acc av ∧ I i acc W', ⟨ds.length, by simp, Nat.zero_le _, [], [], W1, H1, _, e0, n0, rfl, i0⟩, ?_⟩
    rintro i m X ⟨rfl, hi, acc, av, W', H', O', rfl, n, ka, ii⟩
    have k := wk i H' O' n.ext n.dis
    have lo1 := (w.loc.mono n1.ext).mono n.ext
    by_cases hlt : i < ds.length
    · obtain ⟨k1, k2⟩ := k.1 ds[i] (by simp [hlt])
      refine .inr ⟨k1, fun X2 => ∃ acc av W2 H2 O2, X2 = ov O2 H2 ∧ Nx F T (upd C Dp (.lst av)) W2 H1 H2 O2 ∧ DenL F T H2 acc av ∧ I (i + 1) acc W2, fun X2 y => ⟨ds.length - (i + 1), by omega, rfl, hlt, y⟩, fun x X2 y => ?_⟩
      obtain ⟨H2, s2, d2, rfl, kx⟩ := k2 x X2 y
      refine turn i ds[i] acc W' (by simp [hlt]) ii H2 _ _ x ((lo1.mono s2).wipe vs) d2.same kx _ fun G3 σ3 et l3 wz => ⟨wz.trans wipe_wipe, ?_⟩
      refine et (upd C Dp (.lst av)) H2 O' σ3 ⟨d2, n.oc, l3, n.own.mono s2⟩ _ fun b W3 H3 O3 r3 n3 => ?_
      have n03 : Nx F T (upd C Dp (.lst av)) W3 H1 H3 O3 := ⟨(n.ext.trans s2).trans n3.ext, n3.dis, n3.oc, n3.own⟩
      cases b with
      | false => exact ⟨acc, av, W3, H3, O3, rfl, n03, (ka.mono s2).mono n3.ext, r3⟩
      | true =>
        refine r3 (upd C Dp (.lst av)) H3 O3 σ3 ⟨n3.dis, n3.oc, l3.mono n3.ext, n3.own⟩ _ fun z W4 H4 O4 v ⟨hz, i4⟩ n4 k4 => ?_
        have hO : ov O4 H4 Dp = some (.lst av) := ov_own (n4.oc Dp _ upd_same)
        have ka4 := ((ka.mono s2).mono n3.ext).mono n4.ext
        refine ⟨av, hO, by rw [ka.len]; exact hz, ?_⟩
        obtain ⟨n5, e5⟩ := Nx.rehide (o' := .lst (av ++ [v])) (n03.trans n4) cp
        exact ⟨acc ++ [z], av ++ [v], W4, H4, _, e5, n5, ka4.app (.one k4), i4⟩
    · have e : i = ds.length := by omega
      subst e
      refine .inl ⟨k.2 rfl, ?_⟩
      obtain ⟨n6, np⟩ := n.show (od := .lst acc) cp ⟨av, rfl, ka⟩
      exact q (.adr Dp) _ H' O' _ (fin acc W' ii Dp np) (Nx.trans ⟨n1.ext, n1.dis, n1.oc, n1.own⟩ n6) rfl
theorem et_yes (h : Z true W) : EvT F T tYes G W Z := fun C H O σ w Q q => q true W H O h w.nx
def putG {α : Type} (ps : List (Key × α)) (k : Key) (z : α) : List (Key × α) := if (ps.any fun q => decide (q.1 = k)) = true then ps.map (fun q => if q.1 = k then (q.1, z) else q) else ps ++ [(k, z)]
theorem putG_V (kvs : List (Key × V)) (k : Key) (z : V) : putG kvs k z = putK kvs k z := rfl
/-- a dict of pairs -/
@[reducible] def OD.dp (ps : List (Key × D)) : OD := .dct (ps.map (·.1)) (ps.map (·.2))
@[reducible] def D.dp (ps : List (Key × D)) : D := .dct (ps.map (·.1)) (ps.map (·.2))
theorem any_keys {α β : Type} {k : Key} : ∀ {ps : List (Key × α)} {qs : List (Key × β)}, ps.map (·.1) = qs.map (·.1) → (ps.any fun q => decide (q.1 = k)) = qs.any fun q => decide (q.1 = k)
  | [], [], _ => rfl
  | [], q :: qs, h => by simp at h
  | p :: ps, [], h => by simp at h
  | p :: ps, q :: qs, h => by
    rw [List.map_cons, List.map_cons] at h
    obtain ⟨h1, h2⟩ := List.cons.inj h
    rw [List.any_cons, List.any_cons, any_keys h2, h1]
theorem putG_keys {α β : Type} {k : Key} {z : α} {y : β} {ps : List (Key × α)} {qs : List (Key × β)} (h : ps.map (·.1) = qs.map (·.1)) : (putG ps k z).map (·.1) = (putG qs k y).map (·.1) := by
  unfold putG
  rw [any_keys h]
  split
  · rw [List.map_map, List.map_map]
    have e1 : ∀ (α : Type) (z : α) (l : List (Key × α)), l.map ((·.1) ∘ fun q => if q.1 = k then (q.1, z) else q) = l.map (·.1) := fun α z l => List.map_congr_left fun q _ => by
      show (if q.1 = k then (q.1, z) else q).1 = q.1
      split <;> rfl
    rw [e1, e1, h]
  · rw [List.map_append, List.map_append, h]
    rfl
theorem putG_den {k : Key} {z : D} {y : V} (hz : Den F T H z y) : ∀ {ps : List (Key × D)} {kvs : List (Key × V)}, kvs.map (·.1) = ps.map (·.1) → DenL F T H (ps.map (·.2)) (kvs.map (·.2)) → DenL F T H ((putG ps k z).map (·.2)) ((putG kvs k y).map (·.2)) := by
  intro ps kvs h kl
  unfold putG
  rw [any_keys h]
  split
  · rename_i hh
    clear hh
    induction ps generalizing kvs with
    | nil =>
      cases kvs with
      | nil => exact kl
      | cons _ _ => simp at h
    | cons p ps ih =>
      cases kvs with
      | nil => simp at h
      | cons q qs =>
        rw [List.map_cons, List.map_cons] at h
        obtain ⟨h1, h2⟩ := List.cons.inj h
        obtain ⟨v, r, e, k1, k2⟩ := kl
        rw [List.map_cons] at e
        obtain ⟨e1, e2⟩ := List.cons.inj e
        subst e2
        refine ⟨_, _, rfl, ?_, ih h2 k2⟩
        show Den F T H (if p.1 = k then (p.1, z) else p).2 (if q.1 = k then (q.1, y) else q).2
        rw [h1]
        by_cases e : p.1 = k
        · rw [if_pos e, if_pos e]
          exact hz
        · rw [if_neg e, if_neg e, e1]
          exact k1
  · rw [List.map_append, List.map_append]
    exact kl.app (.one hz)
theorem putG_nodup {α : Type} {k : Key} {z : α} {ps : List (Key × α)} (h : (ps.map (·.1)).Nodup) : ((putG ps k z).map (·.1)).Nodup := by
  unfold putG
  split
  · rw [List.map_map]
    have e1 : ps.map ((·.1) ∘ fun q => if q.1 = k then (q.1, z) else q) = ps.map (·.1) := List.map_congr_left fun q _ => by
      show (if q.1 = k then (q.1, z) else q).1 = q.1
      split <;> rfl
    rw [e1]
    exact h
  · rename_i hn
    rw [List.map_append, List.nodup_append]
    refine ⟨h, by simp, fun x hx y hy e => hn ?_⟩
    have hy : y = k := by simpa using hy
    obtain ⟨q, hq, eq⟩ := List.mem_map.mp hx
    rw [List.any_eq_true]
    exact ⟨q, hq, by rw [eq, e, hy]; simp⟩
/-- what a dict gives -/
def getG {α : Type} (ps : List (Key × α)) (k : Key) : Option α := (ps.find? fun q => decide (q.1 = k)).map (·.2)
theorem getG_den {k : Key} : ∀ {ps : List (Key × D)} {kvs : List (Key × V)}, kvs.map (·.1) = ps.map (·.1) → DenL F T H (ps.map (·.2)) (kvs.map (·.2)) → (getG ps k = none ∧ valV kvs k = none) ∨ ∃ z v, getG ps k = some z ∧ valV kvs k = some v ∧ Den F T H z v
  | [], [], _, _ => .inl ⟨rfl, rfl⟩
  | [], q :: qs, h, _ => by simp at h
  | p :: ps, [], h, _ => by simp at h
  | p :: ps, q :: qs, h, kl => by
    rw [List.map_cons, List.map_cons] at h
    obtain ⟨h1, h2⟩ := List.cons.inj h
    obtain ⟨v, r, e, k1, k2⟩ := kl
    rw [List.map_cons] at e
    obtain ⟨e1, e2⟩ := List.cons.inj e
    subst e2
    unfold getG valV
    rw [List.find?_cons, List.find?_cons, h1]
    by_cases e : p.1 = k
    · rw [decide_eq_true e]
      exact .inr ⟨p.2, q.2, rfl, rfl, by rw [e1]; exact k1⟩
    · rw [decide_eq_false e]
      exact getG_den h2 k2
/-- d is a dict of ps: frozen, or owned -/
def Vd (W : Om) (d : D) (ps : List (Key × D)) : Prop := d = .dp ps ∨ ∃ a, d = .adr a ∧ (a, .dp ps) ∈ W
theorem Vd.at {x : V} {ps : List (Key × D)} (h : Vd W d ps) (di : Dis O H) (ow : Ow F T H C O W) (k : Den F T H d x) : ∃ a kvs, x = .ref a ∧ ov O H a = some (.dK kvs) ∧ kvs.map (·.1) = ps.map (·.1) ∧ (ps.map (·.1)).Nodup ∧ DenL F T H (ps.map (·.2)) (kvs.map (·.2)) := by
  rcases h with rfl | ⟨a, rfl, m⟩
  · obtain ⟨a, kvs, e, h1, h2, h3, h4⟩ := k
    exact ⟨a, kvs, e, di.same _ _ h1, h2, h3, h4⟩
  · obtain ⟨_, kvs, h1, h2, h3, h4⟩ := ow.at_ a _ m
    exact ⟨a, kvs, k, ov_own h1, h2, h3, h4⟩
/-- a key as a datum -/
def kD (k : Key) : D := .vl (kV k)
theorem ev_dnew (h : ∀ p, p ∉ akeys W → R (.adr p) ((p, .dp []) :: W)) : Ev F T tDNewK G W R := fun C H O σ w Q q p hp => by
  obtain ⟨n2, e, np⟩ := w.nx.newO (od := .dp []) (o := .dK []) hp ⟨[], rfl, rfl, List.nodup_nil, rfl⟩
  rw [e]
  exact q (.adr p) _ _ _ _ (h p np) n2 rfl
/-- d[k] -/
theorem ev_dget (h : Ev F T ta G W fun d W1 => Ev F T tb G W1 fun y W2 => ∃ ps k z, Vd W2 d ps ∧ y = kD k ∧ getG ps k = some z ∧ R z W2) : Ev F T (tDGet ta tb) G W R := fun C H O σ w Q q =>
  h C H O σ w _ fun d W1 H1 O1 x h1 n1 k1 => h1 C H1 O1 σ (w.step n1) _ fun y W2 H2 O2 yv ⟨ps, k, z, hv, ey, hg, r⟩ n2 k2 => by
    subst ey
    obtain ⟨a, kvs, ex, ha, e1, e2, kl⟩ := hv.at n2.dis n2.own (k1.mono n2.ext)
    have k2 : yv = kV k := k2
    subst ex k2
    rcases getG_den (k := k) e1 kl with ⟨g1, _⟩ | ⟨z', v, g1, g2, kz⟩
    · rw [g1] at hg
      cases hg
    · rw [g1] at hg
      cases hg
      exact ⟨a, v, rfl, .inl ⟨kvs, k, .inl ha, rfl, g2.symm⟩, q z W2 H2 O2 v r (n1.trans n2) kz⟩
/-- k in d, k not in d -/
theorem run_din {ps : List (Key × D)} {k : Key} {x yv : V} (hv : Vd W d ps) (di : Dis O H) (ow : Ow F T H C O W) (k2 : Den F T H d x) (k1 : yv = kV k) : ∃ a o, x = .ref a ∧ DGet (ov O H) a yv o ∧ o.isSome = (getG ps k).isSome := by
  obtain ⟨a, kvs, ex, ha, e1, e2, kl⟩ := hv.at di ow k2
  subst ex k1
  refine ⟨a, valV kvs k, rfl, .inl ⟨kvs, k, .inl ha, rfl, rfl⟩, ?_⟩
  rcases getG_den (k := k) e1 kl with ⟨g1, g2⟩ | ⟨z', v, g1, g2, kz⟩
  · rw [g1, g2]
    rfl
  · rw [g1, g2]
    rfl
theorem ev_dnotin (h : Ev F T tb G W fun y W1 => Ev F T ta G W1 fun d W2 => ∃ ps k, Vd W2 d ps ∧ y = kD k ∧ R (.bl (!(getG ps k).isSome)) W2) : Ev F T (tDNotIn tb ta) G W R := fun C H O σ w Q q =>
  h C H O σ w _ fun y W1 H1 O1 yv h1 n1 k1 => h1 C H1 O1 σ (w.step n1) _ fun d W2 H2 O2 x ⟨ps, k, hv, ey, r⟩ n2 k2 => by
    subst ey
    obtain ⟨a, o, ex, g, e⟩ := run_din hv n2.dis n2.own k2 k1
    refine ⟨a, o, ex, g, ?_⟩
    rw [e]
    exact q _ W2 H2 O2 _ r (n1.trans n2) rfl
/-- d[k] = e -/
theorem sw_dput {td ty tv : TE} {Ed : En} (h : Ev F T tv G W fun z W1 => Ev F T td G W1 fun d W2 => Ev F T ty G W2 fun y W3 => ∃ a ps k Wa Wb, d = .adr a ∧ W3 = Wa ++ (a, .dp ps) :: Wb ∧ y = kD k ∧ ps.length < sizeLine ∧ Ed.nx G (Wa ++ (a, .dp (putG ps k z)) :: Wb)) : Sw F T (sDPut td ty tv) G W Ed := fun C H O σ w B b =>
  h C H O σ w _ fun z W1 H1 O1 zv h1 n1 k1 => h1 C H1 O1 σ (w.step n1) _ fun d W2 H2 O2 x h2 n2 k2 => h2 C H2 O2 σ ((w.step n1).step n2) _ fun y W3 H3 O3 yv ⟨a, ps, k, Wa, Wb, e1, e2, e3, hl, r⟩ n3 k3 => by
    subst e1 e2 e3
    have k2 : x = .ref a := k2
    have k3 : yv = kV k := k3
    subst k2 k3
    obtain ⟨_, kvs, ha, f1, f2, kl⟩ := n3.own.at_ a _ (List.mem_append_right _ List.mem_cons_self)
    have nn := (n1.trans n2).trans n3
    have hl2 : kvs.length = ps.length := by
      have := congrArg List.length f1
      rwa [List.length_map, List.length_map] at this
    refine ⟨a, _, rfl, DPut.k (ov_own ha) (by rw [hl2]; exact hl), ?_⟩
    obtain ⟨n4, e4⟩ := nn.write (o := .dK (putK kvs k zv)) (od2 := .dp (putG ps k z)) ⟨_, rfl, (putG_V kvs k zv) ▸ putG_keys (z := zv) (y := z) f1, putG_nodup f2, (putG_V kvs k zv) ▸ putG_den ((k1.mono n2.ext).mono n3.ext) f1 kl⟩
    rw [e4]
    exact b.nx _ _ _ _ _ r n4 (w.loc.mono nn.ext)
/-- {k: e for .. in .. if ..} -/
theorem ev_dc {wi : TI} {g : TG} (h : EvI F T wi G W fun ds W1 => ∃ I : Nat → List (Key × D) → Om → Prop, I 0 [] W1 ∧
      (∀ i d acc W', ds[i]? = some d → I i acc W' → Tw F T vs g d (wipeG G vs) fun G2 => EvT F T t G2 W' fun b W2 => if b = true then Ev F T te G2 W2 (fun y W3 => Ev F T tv G2 W3 fun z W4 => ∃ k, y = kD k ∧ acc.length < sizeLine ∧ I (i + 1) (putG acc k z) W4) else I (i + 1) acc W2) ∧
      (∀ acc W', I ds.length acc W' → ∀ p, p ∉ akeys W' → R (.adr p) ((p, .dp acc) :: W'))) : Ev F T (tDc wi g t te tv vs) G W R := fun C H O σ w Q q =>
  h C H O σ w _ fun J ds W1 H1 O1 ⟨I, i0, turn, fin⟩ n1 wk Dp hD => by
    obtain ⟨n0, e0, cp⟩ := n1.hide (o := .dK []) hD
    refine ⟨fun i m X => m = ds.length - i ∧ i ≤ ds.length ∧ ∃ acc av W' H' O', X = ov O' H' ∧ Nx F T (upd C Dp (.dK av)) W' H1 H' O' ∧ (av.map (·.1) = acc.map (·.1) ∧ (acc.map (·.1)).Nodup ∧ DenL F T H' (acc.map (·.2)) (av.map (·.2))) ∧ I i acc W', ⟨ds.length, by simp, Nat.zero_le _, [], [], W1, H1, _, e0, n0, ⟨rfl, List.nodup_nil, (show DenL F T H1 (([] : List (Key × D)).map (·.2)) (([] : List (Key × V)).map (·.2)) from rfl)⟩, i0⟩, ?_⟩
    rintro i m X ⟨rfl, hi, acc, av, W', H', O', rfl, n, ⟨ka1, ka2, ka⟩, ii⟩
    have k := wk i H' O' n.ext n.dis
    have lo1 := (w.loc.mono n1.ext).mono n.ext
    by_cases hlt : i < ds.length
    · obtain ⟨k1, k2⟩ := k.1 ds[i] (by simp [hlt])
      refine .inr ⟨k1, fun X2 => ∃ acc av W2 H2 O2, X2 = ov O2 H2 ∧ Nx F T (upd C Dp (.dK av)) W2 H1 H2 O2 ∧ (av.map (·.1) = acc.map (·.1) ∧ (acc.map (·.1)).Nodup ∧ DenL F T H2 (acc.map (·.2)) (av.map (·.2))) ∧ I (i + 1) acc W2, fun X2 y => ⟨ds.length - (i + 1), by omega, rfl, hlt, y⟩, fun x X2 y => ?_⟩
      obtain ⟨H2, s2, d2, rfl, kx⟩ := k2 x X2 y
      refine turn i ds[i] acc W' (by simp [hlt]) ii H2 _ _ x ((lo1.mono s2).wipe vs) d2.same kx _ fun G3 σ3 et l3 wz => ⟨wz.trans wipe_wipe, ?_⟩
      refine et (upd C Dp (.dK av)) H2 O' σ3 ⟨d2, n.oc, l3, n.own.mono s2⟩ _ fun b W3 H3 O3 r3 n3 => ?_
      have n03 : Nx F T (upd C Dp (.dK av)) W3 H1 H3 O3 := ⟨(n.ext.trans s2).trans n3.ext, n3.dis, n3.oc, n3.own⟩
      cases b with
      | false => exact ⟨acc, av, W3, H3, O3, rfl, n03, ⟨ka1, ka2, (ka.mono s2).mono n3.ext⟩, r3⟩
      | true =>
        have w3 : Wd F T (upd C Dp (.dK av)) G3 W3 H3 O3 σ3 := ⟨n3.dis, n3.oc, l3.mono n3.ext, n3.own⟩
        refine r3 (upd C Dp (.dK av)) H3 O3 σ3 w3 _ fun y W4 H4 O4 yv r4 n4 k4 => ?_
        refine r4 (upd C Dp (.dK av)) H4 O4 σ3 (w3.step n4) _ fun z W5 H5 O5 zv ⟨k', ey, hz, i5⟩ n5 k5 => ?_
        subst ey
        have k4 : yv = kV k' := k4
        subst k4
        have hO : ov O5 H5 Dp = some (.dK av) := ov_own (n5.oc Dp _ upd_same)
        have ka5 := (((ka.mono s2).mono n3.ext).mono n4.ext).mono n5.ext
        have hl2 : av.length = acc.length := by
          have := congrArg List.length ka1
          rwa [List.length_map, List.length_map] at this
        refine ⟨av, k', rfl, hO, by rw [hl2]; exact hz, ?_⟩
        obtain ⟨n6, e6⟩ := Nx.rehide (o' := .dK (putK av k' zv)) ((n03.trans n4).trans n5) cp
        exact ⟨putG acc k' z, putK av k' zv, W5, H5, _, e6, n6, ⟨(putG_V av k' zv) ▸ putG_keys (z := zv) (y := z) ka1, putG_nodup ka2, (putG_V av k' zv) ▸ putG_den k5 ka1 ka5⟩, i5⟩
    · have e : i = ds.length := by omega
      subst e
      refine .inl ⟨k.2 rfl, ?_⟩
      obtain ⟨n6, np⟩ := n.show (od := .dp acc) cp ⟨av, rfl, ka1, ka2, ka⟩
      exact q (.adr Dp) _ H' O' _ (fin acc W' ii Dp np) (Nx.trans ⟨n1.ext, n1.dis, n1.oc, n1.own⟩ n6) rfl
def pairsD : Nat → List D → List D
  | _, [] => []
  | n, d :: l => .tup [.int (n : Nat), d] :: pairsD (n + 1) l
theorem pairsD_len : ∀ {l : List D} {n : Nat}, (pairsD n l).length = l.length
  | [], _ => rfl
  | d :: l, n => by
    show (pairsD (n + 1) l).length + 1 = l.length + 1
    rw [pairsD_len]
theorem pairsD_get : ∀ {l : List D} {n i : Nat} {z : D}, (pairsD n l)[i]? = some z → ∃ d, l[i]? = some d ∧ z = .tup [.int ((n + i : Nat) : Int), d]
  | [], _, i, z, h => by simp [pairsD] at h
  | d :: l, n, 0, z, h => ⟨d, rfl, (Option.some.inj h).symm⟩
  | d :: l, n, i + 1, z, h => by
    have h : (pairsD (n + 1) l)[i]? = some z := h
    obtain ⟨e, h1, h2⟩ := pairsD_get h
    refine ⟨e, h1, ?_⟩
    rw [h2]
    have : n + 1 + i = n + (i + 1) := by omega
    rw [this]
theorem ei_str {Y : List D → Om → Prop} (h : Ev F T te G W fun d W1 => ∃ z : Str, d = .str z ∧ Y (z.cps.toList.map fun c => .str ⟨#[c]⟩) W1) : EvI F T (iStr te) G W Y := fun C H O σ w Q q =>
  h C H O σ w _ fun d W1 H1 O1 v ⟨z, e, y⟩ n k => by
    subst e
    have k : v = .str z := k
    refine ⟨z, k, q _ _ W1 H1 O1 y n fun i H2 O2 s di => ⟨fun d hd => ?_, fun e => ?_⟩⟩
    · rw [List.getElem?_map] at hd
      cases hc : z.cps.toList[i]? with
      | none =>
        rw [hc] at hd
        cases hd
      | some c =>
        rw [hc] at hd
        have hd : D.str ⟨#[c]⟩ = d := Option.some.inj hd
        subst hd
        have hc' : z.cps[i]? = some c := by simpa using hc
        refine ⟨(Array.getElem?_eq_some_iff.mp hc').1, fun x X ⟨e1, c2, e2, e3⟩ => ⟨H2, Same.refl _, di, e1, ?_⟩⟩
        rw [hc'] at e2
        cases e2
        exact e3
    · rw [List.length_map, Array.length_toList] at e
      show z.cps.size ≤ i
      omega
end
end N
set_option Elab.async false
set_option linter.all false
set_option maxRecDepth 100000
namespace N
open PySem PySem.Spec PyProof.Rows L2
section
variable {X : Cx} {CX : CXT} {k : Nat} {C f : Addr} {fd : FuncData} {ps ks : List Str} {sp : Sp} {E : XK} {pins : List (Addr × Obj)} {σ : L2.St} {H : Hp} {s : Shared}
/-- a def is called from anywhere within the body -/
theorem run_at {A : Around} {vs : List V} {us : List Value} {Q : VK} (F : FnOk X.prog X.w X.K X.mg X.base CX k f fd ps sp) (hr : Room k A) (fr : A.frames = X.A.frames) (hb : Binds X.K fd ps []) (hx : Passes CX X E) (I : Inv X pins σ H s) (r : Vals vs us) (h : sp vs H Q E) :
    wpAny (model X.prog X.w) A (call (.ref f) us) (EP X pins σ Q) X.xe s := by
  have e := I.env0
  have e0 : Env0 X.prog X.w X.K X.mg X.base A X.stack s H := ⟨by rw [fr]; exact e.frames, e.mod, e.bs, e.bsz, e.funs, e.frf, e.hok, e.bare⟩
  have hl : us.length = ps.length := by rw [← r.length]; exact F.len _ _ _ _ h
  have hb' := hb s us I.kIn (by simpa using hl)
  simp only [List.append_nil] at hb'
  refine wpAny_call (codeAny_mono (F.run A X.stack s H ⟨us, []⟩ us vs Q E hr e0 hb' r h) fun r s' hq => ?_)
  cases r with
  | error e => exact hx pins σ H s e s' I hq
  | ok fl =>
    cases fl with
    | ret u => exact I.after hq
    | next => exact False.elim hq
    | brk => exact False.elim hq
    | cont => exact False.elim hq
/-- an instance's method of the class, by a name between two underscores -/
structure Own2 (K : PySem.W.Frag) (C : Addr) (m : Str) (f : Addr) : Prop where
  at_ : PySem.W.findIn K (.ref C) m = some (some (.ref f))
  fn : PySem.W.isFn K (.ref f) = true
def rOwn1 (C : Addr) (sp : Sp) (E : XK) : V → Hp → VK → Prop := fun x H Q => ∃ a dx fs, x = .ref a ∧ H a = some (.ins C dx fs) ∧ sp [x] H Q E
def rOwn2 (C : Addr) (sp : Sp) (E : XK) : R2 := fun x y H Q => ∃ a b dx dy fs gs, x = .ref a ∧ y = .ref b ∧ H a = some (.ins C dx fs) ∧ H b = some (.ins C dy gs) ∧ sp [x, y] H Q E
theorem inst_of {a dx : Addr} {fs : List (Str × V)} (I : Inv X pins σ H s) (e : H a = some (.ins C dx fs)) : ∃ od, PySem.W.InstAt s.heap a (PySem.W.instObj C dx) C (some od) := by
  obtain ⟨mA, J, _⟩ := ins_get I.hok e
  obtain ⟨od, J, _⟩ := J.look
  exact ⟨od, J⟩
theorem back_of {Q : VK} {v : Value} {s' : Shared} (h : EP X pins σ Q v s') : PySem.W.CmpBack (EP X pins σ Q) v s' := by
  obtain ⟨x, H', I', r, q⟩ := id h
  cases x with
  | non => cases r; exact h
  | bl _ => cases r; exact h
  | int _ => obtain ⟨t, rfl⟩ := r; exact h
  | str _ => obtain ⟨t, rfl⟩ := r; exact h
  | byt _ => obtain ⟨t, rfl⟩ := r; exact h
  | flt _ => obtain ⟨t, rfl⟩ := r; exact h
  | ref _ => cases r; exact h
  | ty _ => cases r; exact h
/-- x op y by the own method, both of the class -/
theorem op_own {op : Operator} (F : FnOk X.prog X.w X.K X.mg X.base CX k f fd ps sp) (hr : Room k X.A) (o : Own2 X.K C (PySem.dunder op.info.2) f) (hc : PySem.W.selfFirst X.K C = true) (hb : Binds X.K fd ps []) (hx : Passes CX X E) : OpR X (binaryOp op) (rOwn2 C sp E) := by
  intro pins s σ H x y v u Q I rx ry hq
  obtain ⟨a, b, dx, dy, fs, gs, rfl, rfl, ha, hb', q⟩ := hq
  cases rx
  cases ry
  obtain ⟨od, J⟩ := inst_of I ha
  obtain ⟨od', J'⟩ := inst_of I hb'
  obtain ⟨m, hF⟩ := I.fr
  refine PySem.W.binop_K hF I.ok.mod.kin J J'.type hc o.at_ o.fn ?_
  exact thn (run_at F hr rfl hb hx I (vs := [V.ref a, V.ref b]) (.cons rfl (.cons rfl .nil)) q) fun v s' h => back_of h
/-- str(x) by the own method -/
theorem call_own_str (F : FnOk X.prog X.w X.K X.mg X.base CX k f fd ps sp) (hr : Room (k + 2) X.A) (o : Own2 X.K C "__str__" f) (hb : Binds X.K fd ps []) (hx : Passes CX X E) :
    CallR X (.type "str") (fun xs H Q => ∃ a dx fs, xs = [.ref a] ∧ H a = some (.ins C dx fs) ∧ sp [.ref a] H (fun v H' => (∃ z, v = .str z) ∧ Q v H') E) := by
  intro pins s σ H xs us Q I r hq
  obtain ⟨a, dx, fs, rfl, ha, q⟩ := hq
  obtain ⟨u, rfl, rx⟩ := vals1 r
  cases rx
  obtain ⟨od, J⟩ := inst_of I ha
  have h1 := hr.in1
  have h2 := h1.in1
  refine PySem.W.kso_call h2.units0 I.kIn J o.at_ o.fn (thn (run_at F h2 rfl hb hx I (vs := [V.ref a]) (.cons rfl .nil) q) fun v s' h => ?_)
  obtain ⟨x, H', I', rx, ⟨z, ez⟩, q'⟩ := h
  subst ez
  obtain ⟨t, rfl⟩ := rx
  exact ⟨.str z, H', I', ⟨t, rfl⟩, q'⟩
/-- len(x) by the own method -/
theorem call_own_len (F : FnOk X.prog X.w X.K X.mg X.base CX k f fd ps sp) (hr : Room (k + 1) X.A) (o : Own2 X.K C "__len__" f) (hb : Binds X.K fd ps []) (hx : Passes CX X E) :
    CallR X (.builtin "len") (fun xs H Q => ∃ a dx fs, xs = [.ref a] ∧ H a = some (.ins C dx fs) ∧ sp [.ref a] H (fun v H' => (∃ n : Int, v = .int n ∧ 0 ≤ n ∧ n < 2 ^ 63) ∧ Q v H') E) := by
  intro pins s σ H xs us Q I r hq
  obtain ⟨a, dx, fs, rfl, ha, q⟩ := hq
  obtain ⟨u, rfl, rx⟩ := vals1 r
  cases rx
  obtain ⟨od, J⟩ := inst_of I ha
  obtain ⟨m, hF⟩ := I.fr
  refine PySem.W.len_K hF I.ok.mod.kin J o.at_ o.fn (thn (run_at F hr.in1 rfl hb hx I (vs := [V.ref a]) (.cons rfl .nil) q) fun v s' h => ?_)
  obtain ⟨x, H', I', rx, ⟨n, ez, h0, h1⟩, q'⟩ := h
  subst ez
  obtain ⟨t, rfl⟩ := rx
  exact ⟨⟨h0, h1⟩, .int n, H', I'.tok _, ⟨_, rfl⟩, q'⟩
/-- o.f as a target -/
theorem pg_fld {o : Expr} {g : Str} {pos : Pos} {ta : TE} (ha : PE X o ta) : PG X (.Attribute o g pos) (gFld X.K ta g) := by
  refine ⟨fun pins s σ H v u Q I r h => ?_⟩
  rw [assign_Attribute]
  refine wpAny_bind (wpAny_holding (thn (ha.run pins s σ H _ I h) fun ov s1 ⟨x, H1, I1, r1, a, C, dx, fs, ex, ea, c, n, l, q⟩ => ?_))
  subst ex
  obtain rfl : ov = Value.ref a := r1
  refine wpAny_bind (wpAny_standAt (wpAny_bind (wpAny_holding (setattr_ok I1 ea c n l r fun s3 I3 => ?_))))
  exact wpAny_release ⟨σ, _, I3, q⟩
end
end N
set_option Elab.async false
set_option linter.all false
set_option maxRecDepth 100000
set_option maxHeartbeats 400000
namespace N
open PySem PySem.Spec PyProof.Rows L2
mutual
def D.pd : D → Option PyData
  | .vl .non => some .none
  | .vl (.bl b) => some (.bool b)
  | .vl (.int i) => some (.int i)
  | .vl (.str s) => some (.str s)
  | .vl _ => none
  | .tup l => (pdL l).map .tuple
  | .lst l => (pdL l).map .list
  | .dct _ _ => none
  | .obj _ _ _ => none
  | .fm _ => none
  | .scr _ => none
  | .kdd _ _ _ => none
  | .dcz _ _ => none
  | .tupz _ => none
def pdL : List D → Option (List PyData)
  | [] => some []
  | d :: l => match D.pd d, pdL l with
    | some p, some r => some (p :: r)
    | _, _ => none
end
theorem pdL_cons {d : D} {l : List D} {p : PyData} {r : List PyData} (h1 : d.pd = some p) (h2 : pdL l = some r) : pdL (d :: l) = some (p :: r) := by
  simp only [pdL, h1, h2]
theorem pdL_map {α : Type} (f : α → D) (g : α → PyData) (h : ∀ x, (f x).pd = some (g x)) : ∀ l : List α, pdL (l.map f) = some (l.map g)
  | [] => rfl
  | x :: l => pdL_cons (h x) (pdL_map f g h l)
theorem pd_tup {l : List D} {r : List PyData} (h : pdL l = some r) : (D.tup l).pd = some (.tuple r) := by simp only [D.pd, h, Option.map_some]
theorem pd_lst {l : List D} {r : List PyData} (h : pdL l = some r) : (D.lst l).pd = some (.list r) := by simp only [D.pd, h, Option.map_some]
section
variable {F : FmKit} {T : Kx} {C H H' O O' : Hp} {G : Gm} {W W' : Om} {R R' : D → Om → Prop}
mutual
theorem Den.dp : ∀ (d : D) (v : V) (p : PyData), Den F T H d v → d.pd = some p → Dp T.K H v p
  | .vl .non, _, p, h, e => by
    have h : _ = _ := h
    simp only [D.pd, Option.some.injEq] at e
    subst h e
    exact .non
  | .vl (.bl b), _, p, h, e => by
    have h : _ = _ := h
    simp only [D.pd, Option.some.injEq] at e
    subst h e
    exact .bl b
  | .vl (.int i), _, p, h, e => by
    have h : _ = _ := h
    simp only [D.pd, Option.some.injEq] at e
    subst h e
    exact .int i
  | .vl (.str s), _, p, h, e => by
    have h : _ = _ := h
    simp only [D.pd, Option.some.injEq] at e
    subst h e
    exact .str s
  | .vl (.byt _), _, p, _, e => by simp only [D.pd] at e; cases e
  | .vl (.flt _), _, p, _, e => by simp only [D.pd] at e; cases e
  | .vl (.ref _), _, p, _, e => by simp only [D.pd] at e; cases e
  | .vl (.ty _), _, p, _, e => by simp only [D.pd] at e; cases e
  | .tup l, _, p, ⟨a, xs, h1, h2, h3⟩, e => by
    subst h1
    simp only [D.pd] at e
    cases q : pdL l with
    | none =>
      rw [q] at e
      cases e
    | some r =>
      rw [q] at e
      cases e
      exact .tup h2 (DenL.dp l xs r h3 q)
  | .lst l, _, p, ⟨a, xs, h1, h2, h3⟩, e => by
    subst h1
    simp only [D.pd] at e
    cases q : pdL l with
    | none =>
      rw [q] at e
      cases e
    | some r =>
      rw [q] at e
      cases e
      exact .lst (SqL.of h2) (DenL.dp l xs r h3 q)
  | .dct _ _, _, p, _, e => by simp only [D.pd] at e; cases e
  | .obj _ _ _, _, p, _, e => by simp only [D.pd] at e; cases e
  | .fm _, _, p, _, e => by simp only [D.pd] at e; cases e
  | .scr _, _, p, _, e => by simp only [D.pd] at e; cases e
  | .kdd _ _ _, _, p, _, e => by simp only [D.pd] at e; cases e
  | .dcz _ _, _, p, _, e => by simp only [D.pd] at e; cases e
  | .tupz _, _, p, _, e => by simp only [D.pd] at e; cases e
theorem DenL.dp : ∀ (l : List D) (vs : List V) (ps : List PyData), DenL F T H l vs → pdL l = some ps → DpAll T.K H vs ps
  | [], _, ps, h, e => by
    have h : _ = _ := h
    simp only [pdL, Option.some.injEq] at e
    subst h e
    exact .nil
  | d :: l, _, ps, ⟨v, r, h1, h2, h3⟩, e => by
    subst h1
    simp only [pdL] at e
    cases q : D.pd d with
    | none =>
      rw [q] at e
      cases e
    | some p =>
      cases q2 : pdL l with
      | none =>
        rw [q, q2] at e
        cases e
      | some rs =>
        rw [q, q2] at e
        cases e
        exact .cons (Den.dp d v p h2 q) (DenL.dp l r rs h3 q2)
end
/-- d is the datum p: frozen, or an owned list of such -/
def Vp (W : Om) (d : D) (p : PyData) : Prop := d.pd = some p ∨ ∃ l, Vl W d l ∧ (D.lst l).pd = some p
theorem Vp.at {d : D} {p : PyData} {x : V} (h : Vp W d p) (di : Dis O H) (ow : Ow F T H C O W) (k : Den F T H d x) : Dp T.K (ov O H) x p := by
  rcases h with h | ⟨l, hv, h⟩
  · exact Den.dp d x p (k.mono di.same) h
  · obtain ⟨a, xs, e, hs, kl⟩ := hv.sq ow di k
    simp only [D.pd] at h
    cases q : pdL l with
    | none =>
      rw [q] at h
      cases h
    | some r =>
      rw [q] at h
      cases h
      subst e
      exact .lst hs (DenL.dp l xs r (kl.mono di.same) q)
theorem bo_eqD {d1 d2 : D} {p q : PyData} (h1 : Vp W d1 p) (h2 : Vp W d2 q) (s1 : SeqAt.shaped p = true) (s2 : SeqAt.shaped q = true) (r : R (.bl (PyData.eqv p q)) W) : Bo F T (rEqD T.K) d1 d2 W R := fun C H O di oc ow x y hx hy Q k =>
  ⟨p, q, h1.at di ow hx, h2.at di ow hy, s1, s2, k _ W H O _ r (.refl di oc ow) rfl⟩
theorem bo_neD {d1 d2 : D} {p q : PyData} (h1 : Vp W d1 p) (h2 : Vp W d2 q) (s1 : SeqAt.shaped p = true) (s2 : SeqAt.shaped q = true) (r : R (.bl (!PyData.eqv p q)) W) : Bo F T (rNeD T.K) d1 d2 W R := fun C H O di oc ow x y hx hy Q k =>
  ⟨p, q, h1.at di ow hx, h2.at di ow hy, s1, s2, k _ W H O _ r (.refl di oc ow) rfl⟩
end
mutual
/-- the datum of a value, for repr: an empty dict, too -/
inductive Dq (K : PySem.W.Frag) (H : Hp) : V → PyData → Prop
  | qn : Dq K H .non .none
  | qb (y : Bool) : Dq K H (.bl y) (.bool y)
  | qi (n : Int) : Dq K H (.int n) (.int n)
  | qs (t : Str) : Dq K H (.str t) (.str t)
  | ql {p : Addr} {vs : List V} {qs : List PyData} : SqL K H p vs → DqL K H vs qs → Dq K H (.ref p) (.list qs)
  | qt {p : Addr} {vs : List V} {qs : List PyData} : SqT K H p vs → DqL K H vs qs → Dq K H (.ref p) (.tuple qs)
  | qd {p : Addr} : H p = some (.dK []) → Dq K H (.ref p) (.dict [])
inductive DqL (K : PySem.W.Frag) (H : Hp) : List V → List PyData → Prop
  | n : DqL K H [] []
  | c {x : V} {vs : List V} {q : PyData} {qs : List PyData} : Dq K H x q → DqL K H vs qs → DqL K H (x :: vs) (q :: qs)
end
section
variable {K : PySem.W.Frag} {H : Hp}
mutual
theorem Dp.q : ∀ (p : PyData) (x : V), Dp K H x p → Dq K H x p
  | .none, _, h => by cases h; exact .qn
  | .bool b, _, h => by cases h; exact .qb b
  | .int i, _, h => by cases h; exact .qi i
  | .str s, _, h => by cases h; exact .qs s
  | .list l, _, h => by
    cases h with
    | lst a b => exact .ql a (DpL.q l _ b)
  | .tuple l, _, h => by
    cases h with
    | tup a b => exact .qt a (DpL.q l _ b)
  | .dict _, _, h => by cases h
theorem DpL.q : ∀ (l : List PyData) (xs : List V), DpAll K H xs l → DqL K H xs l
  | [], _, h => by cases h; exact .n
  | p :: l, _, h => by
    cases h with
    | cons a b => exact .c (Dp.q p _ a) (DpL.q l _ b)
end
end
/-- a value whose repr the heap tells -/
def Told (P : Program) (w : World) (hp : Heap) (u : Value) (p : PyData) : Prop := ∃ ads bs, Reads hp u p ads ∧ ReadAtMost hp p.depth bs ∧ ReprK P w bs hp p.depth u p.shown
def ToldL (P : Program) (w : World) (hp : Heap) (us : List Value) (ps : List PyData) : Prop := ∃ ads bs, ReadsAll hp us ps ads ∧ ReadAtMost hp (PyData.depthAll ps) bs ∧ ReprAllK P w bs hp (PyData.depthAll ps) us (PyData.shownAll ps)
theorem ToldL.c {P : Program} {w : World} {hp : Heap} {u : Value} {us : List Value} {p : PyData} {ps : List PyData} (h1 : Told P w hp u p) (h2 : ToldL P w hp us ps) : ToldL P w hp (u :: us) (p :: ps) := by
  obtain ⟨a1, b1, r1, m1, k1⟩ := h1
  obtain ⟨a2, b2, r2, m2, k2⟩ := h2
  have l1 : p.depth ≤ PyData.depthAll (p :: ps) := by simp only [PyData.depthAll]; omega
  have l2 : PyData.depthAll ps ≤ PyData.depthAll (p :: ps) := by simp only [PyData.depthAll]; omega
  refine ⟨a1 ++ a2, b1 ++ b2, .cons r1 r2, (m1.mono l1).append (m2.mono l2), ?_⟩
  simp only [PyData.shownAll]
  exact .cons ((k1.more fun _ z => List.mem_append_left _ z).level_le l1) (k2.more_le (fun _ z => List.mem_append_right _ z) l2)
section
variable {X : Cx} {pins : List (Addr × Obj)} {σ : L2.St} {H : Hp} {s : Shared}
/-- an empty dict in the heap -/
theorem dk_nil {p : Addr} (I : Inv X pins σ H s) (h : H p = some (.dK [])) : ∃ o n, s.heap.get? p = some o ∧ o.cls = .type "dict" ∧ o.data = .dict #[] n ∧ (p == sysModules) = false := by
  obtain ⟨_, hn, vs, rel, o, es, n, ho, hx, hd, _, hp, _⟩ := dk_of I.hok h
  cases rel
  have e : es = #[] := by
    obtain ⟨l⟩ := es
    have hp : Pairs _ l [] := hp
    cases hp
    rfl
  exact ⟨o, n, ho, hx.1, e ▸ hd, hn⟩
mutual
theorem Dq.told (I : Inv X pins σ H s) : ∀ (p : PyData) (x : V) (u : Value), Dq X.K H x p → RelV x u → p.showable = true → p.shown.length ≤ sizeLine → Told X.prog X.w s.heap u p
  | .none, _, _, h, r, _, _ => by
    cases h
    cases r
    refine ⟨_, [], .none, (fun _ z => nomatch z), ?_⟩
    simp only [PyData.shown]
    exact .of_is .none _ _ _
  | .bool b, _, _, h, r, _, _ => by
    cases h
    cases r
    refine ⟨_, [], .bool b, (fun _ z => nomatch z), ?_⟩
    simp only [PyData.shown]
    exact .of_is (.bool b) _ _ _
  | .int i, _, _, h, r, hs, _ => by
    cases h
    obtain ⟨t, rfl⟩ := r
    have hi : i.natAbs.log2 < 1920 := by simpa [PyData.showable] using hs
    refine ⟨_, [], .int i t, (fun _ z => nomatch z), ?_⟩
    simp only [PyData.shown]
    exact .of_is (.int t hi) _ _ _
  | .str y, _, _, h, r, _, hz => by
    cases h
    obtain ⟨t, rfl⟩ := r
    have hy : (reprText y).length ≤ sizeLine := by simpa only [PyData.shown] using hz
    refine ⟨_, [], .str y t, (fun _ z => nomatch z), ?_⟩
    simp only [PyData.shown]
    exact .of_is (.str y t hy) _ _ _
  | .list l, _, _, h, r, hs, hz => by
    cases h with
    | ql sq q =>
      cases r
      obtain ⟨its, rv, ⟨o, n, ho, hc, _, hd⟩, _⟩ := I.list sq
      have hl : (listText (PyData.shownAll l)).length ≤ sizeLine := by simpa only [PyData.shown] using hz
      obtain ⟨ads, bs, rd, am, k⟩ := DqL.told I l _ its q rv (by simpa [PyData.showable] using hs) fun t ht => Nat.le_trans (listText_mem_le ht) hl
      have whole : Reads s.heap _ (.list l) _ := .list ho hc hd rd
      have out := not_mem_of_deeper whole (by simp only [PyData.depth]; omega) am
      refine ⟨_, _, whole, .cons whole (by simp only [PyData.depth]; omega) am, ?_⟩
      simp only [PyData.shown, PyData.depth]
      cases its with
      | nil =>
        cases rd
        exact ReprK.listEmpty ho hc hd
      | cons y t => exact ReprK.list ho hc hd out (by simpa using k.length_eq) fun i z e => k.item i z (by simpa using e)
  | .tuple l, _, _, h, r, hs, hz => by
    cases h with
    | qt sq q =>
      cases r
      obtain ⟨its, rv, ⟨o, ho, hc, n, hd⟩, _⟩ := I.tuple sq
      have hl : (tupleText (PyData.shownAll l)).length ≤ sizeLine := by simpa only [PyData.shown] using hz
      obtain ⟨ads, bs, rd, am, k⟩ := DqL.told I l _ its q rv (by simpa [PyData.showable] using hs) fun t ht => Nat.le_trans (tupleText_mem_le ht) hl
      have whole : Reads s.heap _ (.tuple l) _ := .tuple ho hc hd rd
      have out := not_mem_of_deeper whole (by simp only [PyData.depth]; omega) am
      refine ⟨_, _, whole, .cons whole (by simp only [PyData.depth]; omega) am, ?_⟩
      simp only [PyData.shown, PyData.depth]
      exact ReprK.tuple ho hc hd out k
  | .dict _, _, _, h, r, _, _ => by
    cases h with
    | qd hd =>
      cases r
      obtain ⟨o, n, ho, hc, hd, hn⟩ := dk_nil I hd
      have whole : Reads s.heap _ (.dict []) _ := .dict ho hc hd .nil .nil
      have am : ReadAtMost s.heap 0 [] := fun _ z => nomatch z
      refine ⟨_, _, whole, .cons whole (Nat.zero_le _) am, ?_⟩
      simp only [PyData.shown, PyData.depth, PyData.shownKv]
      exact ReprK.dict ho hc hd hn (fun z => nomatch z) .nil
theorem DqL.told (I : Inv X pins σ H s) : ∀ (ps : List PyData) (xs : List V) (us : List Value), DqL X.K H xs ps → Vals xs us → PyData.showableAll ps = true → (∀ t ∈ PyData.shownAll ps, t.length ≤ sizeLine) → ToldL X.prog X.w s.heap us ps
  | [], _, _, h, r, _, _ => by
    cases h
    cases r
    refine ⟨_, [], .nil, (fun _ z => nomatch z), ?_⟩
    simp only [PyData.shownAll]
    exact .nil
  | p :: ps, _, _, h, r, hs, hz => by
    cases h with
    | c q1 q2 =>
      cases r with
      | cons r1 r2 =>
        have hs : p.showable = true ∧ PyData.showableAll ps = true := by simpa [PyData.showableAll] using hs
        simp only [PyData.shownAll] at hz
        exact ToldL.c (Dq.told I p _ _ q1 r1 hs.1 (hz _ List.mem_cons_self)) (DqL.told I ps _ _ q2 r2 hs.2 fun t ht => hz t (List.mem_cons_of_mem _ ht))
end
end
structure ShwQ (p : PyData) : Prop where
  sh : p.showable = true
  dp : p.depth ≤ 30
  sz : p.shown.length ≤ sizeLine
structure Shw (p : PyData) : Prop where
  sh : p.showable = true
  nd : p.hasDict = false
  dp : p.depth ≤ 30
  sz : p.shown.length ≤ sizeLine
theorem Shw.q {p : PyData} (h : Shw p) : ShwQ p := ⟨h.sh, h.dp, h.sz⟩
def rRep (K : PySem.W.Frag) : List V → Hp → VK → Prop := fun xs H Q => ∃ x p, xs = [x] ∧ Dq K H x p ∧ ShwQ p ∧ Q (.str p.shown) H
theorem call_repr_data {X : Cx} (hg : X.A.guards = some []) (hu : X.A.units + 64 < cLine) : CallR X (.builtin "repr") (rRep X.K) := by
  intro pins s σ H xs us Q I r h
  obtain ⟨x, p, rfl, hp, hs, q⟩ := h
  obtain ⟨u, rfl, rx⟩ := vals1 r
  have fin : ∀ t tk, EP X pins σ Q (.str p.shown t) { s with toks := tk } := fun t tk => ⟨.str p.shown, H, I.tok _, ⟨_, rfl⟩, q⟩
  have fin2 : ∀ h' t tk, (∀ b o, s.heap.get? b = some o → h'.get? b = some o) → EP X pins σ Q (.str p.shown t) { s with heap := h', toks := tk } := fun h' t tk hk => ⟨.str p.shown, H, I.kept (t' := tk) hk, ⟨_, rfl⟩, q⟩
  have hdp := hs.dp
  cases hp with
  | qn =>
    cases rx
    exact PySem.P.repr_of_none (fin _ _)
  | qb b =>
    cases rx
    refine PySem.P.repr_of_bool ?_
    have e : (if b then "True" else "False" : Str) = (PyData.bool b).shown := by cases b <;> rfl
    exact fin _ _
  | qi i =>
    obtain ⟨t, rfl⟩ := rx
    have h1 : i.natAbs.log2 < 1920 := by simpa [PyData.showable] using hs.sh
    exact PySem.P.repr_of_int h1 (fin _ _)
  | qs z =>
    obtain ⟨t, rfl⟩ := rx
    exact PySem.P.repr_of_str (fin _ _) (by simpa [PyData.shown] using hs.sz)
  | ql sq ql =>
    rename_i a vs l
    cases rx
    obtain ⟨its, rv, ⟨o, n, ho, hc, _, hd⟩, _⟩ := I.list sq
    have hl : (listText (PyData.shownAll l)).length ≤ sizeLine := by simpa only [PyData.shown] using hs.sz
    obtain ⟨ads, bs, rd, am, k⟩ := DqL.told I l _ its ql rv (by simpa [PyData.showable] using hs.sh) fun t ht => Nat.le_trans (listText_mem_le ht) hl
    have whole : Reads s.heap _ (.list l) _ := .list ho hc hd rd
    have out := not_mem_of_deeper whole (by simp only [PyData.depth]; omega) am
    simp only [PyData.depth] at hdp
    simp only [PyData.shown] at fin2
    refine call_repr_slot (by omega) ⟨o, ho, hc⟩ F.slot_list_repr.toG ?_
    cases its with
    | nil =>
      cases rd
      simp only [PyData.shownAll, listText_nil] at fin2
      exact call_list_repr_empty ⟨o, ho, hc⟩ ho hd ⟨_, _, rfl, fin2 _ _ _ fun _ _ e => e⟩
    | cons y t => exact call_list_reprK (h₀ := s.heap) ho hc hd out (by simpa using k.length_eq) (fun i z e => k.item i z (by simpa using e)) hg (fun b _ => Clear.nil b) (by show X.A.units + 1 + _ < _; omega) (fun _ _ e => e) (fun h' u tk hk => ⟨_, _, rfl, fin2 h' u tk hk⟩) hl
  | qt sq ql =>
    rename_i a vs l
    cases rx
    obtain ⟨its, rv, ⟨o, ho, hc, n, hd⟩, _⟩ := I.tuple sq
    have hl : (tupleText (PyData.shownAll l)).length ≤ sizeLine := by simpa only [PyData.shown] using hs.sz
    obtain ⟨ads, bs, rd, am, k⟩ := DqL.told I l _ its ql rv (by simpa [PyData.showable] using hs.sh) fun t ht => Nat.le_trans (tupleText_mem_le ht) hl
    have whole : Reads s.heap _ (.tuple l) _ := .tuple ho hc hd rd
    have out := not_mem_of_deeper whole (by simp only [PyData.depth]; omega) am
    simp only [PyData.depth] at hdp
    simp only [PyData.shown] at fin2
    refine call_repr_slot (by omega) ⟨o, ho, hc⟩ F.slot_tuple_repr ?_
    exact call_tuple_reprK (h₀ := s.heap) ho hc hd out k hg (fun b _ => Clear.nil b) (by show X.A.units + 1 + _ < _; omega) (fun _ _ e => e) (fun h' u tk hk => ⟨_, _, rfl, fin2 h' u tk hk⟩) hl
  | qd hd =>
    rename_i a
    cases rx
    obtain ⟨o, n, ho, hc, hd, hn⟩ := dk_nil I hd
    simp only [PyData.shown, PyData.shownKv] at fin2
    refine call_repr_slot (by omega) ⟨o, ho, hc⟩ F.slot_dict_repr ?_
    exact call_dict_reprK (h₀ := s.heap) (as := []) (d := 0) ho hc hd hn (fun z => nomatch z) .nil hg (fun b _ => Clear.nil b) (by show X.A.units + 1 + _ < _; omega) (fun _ _ e => e) (fun h' u tk hk => ⟨_, _, rfl, fin2 h' u tk hk⟩) (by simpa only [PyData.shown, PyData.shownKv] using hs.sz)
section
variable {F : FmKit} {T : Kx} {W : Om} {R : D → Om → Prop}
theorem ca_repr {d : D} {p : PyData} (h : Vp W d p) (hs : Shw p) (r : R (.str p.shown) W) : Ca F T (rRep T.K) [d] W R := ca_one fun C H O di oc ow x k Q q =>
  ⟨x, p, rfl, Dp.q p x (h.at di ow k), hs.q, q _ W H O _ r (.refl di oc ow) rfl⟩
end
def FnG (P : Program) (w : World) (K : PySem.W.Frag) (mg : Str → Option Value) (base : Heap) (k : Nat) (f : Addr) (sp : Sp) : Prop :=
  ∀ (A : Around) (outer : List Env) (s : Shared) (H : Hp) (us : List Value) (vs : List V) (Q : VK), A.guards = some [] → Room k A → Env0 P w K mg base A outer s H → Vals vs us → sp vs H Q E0 → codeAny (model P w) A (.call (.ref f) ⟨us, []⟩) (CR CX0 outer P w H s Q E0) s
section
variable {P : Program} {w : World} {K : PySem.W.Frag} {mg : Str → Option Value} {base : Heap}
theorem Fun.okG {x qual : Str} {st : Stmt} {f : Addr} {fd : FuncData} {N ps : List Str} {k : Nat} {sp : Sp} (Fn : Fun K x qual st f fd) (S : FnScope N ps (defScope st)) (len : ∀ vs H Q E, sp vs H Q E → vs.length = ps.length)
    (hb : ∀ (kV doc pm : Value) (an : Option Addr) (cdv ct : Value) (us : List Value), us.length = ps.length → bindArgs (PySem.W.fnOf x qual (defArgs st) (defBody st) (defScope st) .none kV doc pm an cdv ct) ⟨us, []⟩ = pure (ps.zip us))
    (hbody : ∀ (cdv : Value) (A : Around) (outer : List Env) (s : Shared) (H : Hp) (vs : List V) (Q : VK), (A.deeper (envOfC qual (defScope st) s.heap.objs.size f cdv)).guards = some [] → Room k (A.deeper (envOfC qual (defScope st) s.heap.objs.size f cdv)) → sp vs H Q E0 →
      ∃ t, PSs (cxOf CX0 P w K mg base N qual (defScope st) f cdv A outer s H E0).nox (defBody st) t ∧ t { nx := fun _ H' => Q .non H', rt := Q } (start N vs) H) : FnG P w K mg base (k + 1) f sp := by
  obtain ⟨oc, od, kV, doc, pm, an, cdv, ct, osl, rfl, lk, hcd⟩ := Fn.ex
  intro A outer s H us vs Q hg hr e0 r hsp
  have hl := len _ _ _ _ hsp
  refine StX.run_bnd lk hcd S hr e0 (G := fun xs H2 => xs = vs ∧ H2 = H) (fun A' Ex Q' h => ?_) fun s2 H2 xs ⟨e1, e2⟩ hr' => ?_
  · rw [hb kV doc pm an cdv ct us (by rw [← r.length]; exact hl)]
    exact wpAny_pure (h s H vs us e0 Un.refl rfl (fun _ _ z => z) r hl ⟨rfl, rfl⟩)
  · subst e1 e2
    obtain ⟨t, ht, q⟩ := hbody cdv A outer s2 _ _ Q hg hr' hsp
    exact ⟨t, ht.nox, q⟩
theorem run_fnG {X : Cx} {k : Nat} {f : Addr} {sp : Sp} {pins : List (Addr × Obj)} {σ : L2.St} {H : Hp} {s : Shared} {us : List Value} {vs : List V} {Q : VK} (Fn : FnG X.prog X.w X.K X.mg X.base k f sp) (hg : X.A.guards = some []) (hr : Room k X.A) (I : Inv X pins σ H s) (r : Vals vs us) (h : sp vs H Q E0) :
    wpAny (model X.prog X.w) X.A (call (.ref f) us) (EP X pins σ Q) X.xe s := by
  refine wpAny_call (codeAny_mono (Fn X.A X.stack s H us vs Q hg hr I.env0 r h) fun r s' hq => ?_)
  cases r with
  | error e => exact False.elim hq
  | ok fl =>
    cases fl with
    | ret u => exact I.after hq
    | next => exact False.elim hq
    | brk => exact False.elim hq
    | cont => exact False.elim hq
/-- f(e, ..), f such a def -/
theorem pe_callG {X : Cx} {k : Nat} {f : Addr} {sp : Sp} {x : Str} {p pos : Pos} {e : Expr} {es : List Expr} {t : TA} (Fn : FnG X.prog X.w X.K X.mg X.base k f sp) (hgd : X.A.guards = some []) (hr : Room k X.A) (hg : Gl X x) (hm : X.mg x = some (.ref f)) (hk : PySem.W.keepIn X.K (.ref f) = true)
    (ha : PA X (e :: es) t) (hdb : (x == ("__debug__" : Str)) = false := by decide)
    (he : starEach (e :: es) X.env = (false, eval e X.env) :: starEach es X.env := by rfl) (hpl : (backTo pos (starEach es X.env)).any (·.1) = false := by rfl) : PE X (.Call (.Name x p) (e :: es) [] pos) (tCall sp [] E0 t) := by
  refine ⟨fun pins s σ H Q I h => ?_⟩
  refine wpAny_Call_Name_kw (ld_glob I hg hm ?_ hdb)
  refine PySem.W.callWith_K (h₀ := X.base) I.ok.mod.kin hk (thn (ha.run pos pins s σ H _ I h) fun us s1 ⟨vs, H1, I1, r, q⟩ => ⟨I1.kIn, ?_⟩) he hpl
  have q : sp (vs ++ []) H1 Q E0 := q
  rw [List.append_nil] at q
  exact run_fnG Fn hgd hr I1 r q
end
theorem lawG {P : Program} {w : World} {K : PySem.W.Frag} {mg mb : Str → Option Value} {k : Nat} {fa a : Addr} {sp : Sp} {s1 : Shared} {vs : List Value} {ns : List Int}
    (KX : K.In s1.heap) (hns : s1.heap.Ns mainGlobals mg) (hb : s1.heap.Ns builtinsNs mb) (hbb : ∀ x : Str, x ≠ "__name__" → mb x = bootBuiltins x) (hlim : s1.heap.NoLimit) (hg : s1.gens = #[])
    (ha : s1.heap.get? a = some { cls := .type "list", data := .seq vs.toArray }) (hi : IntsAre vs ns) (hl : ns.length ≤ sizeLine) (hr : Room k callerA)
    (Fn : ∀ base : Heap, K.In base → base.Ns mainGlobals mg → FnG P w K mg base k fa sp)
    (hsp : ∀ H : Hp, Only H → SqL K H a (ns.map V.int) → sp [.ref a] H (fun v _ => v = .bl true) E0) :
    codeAny (model P w) callerA (.call (.ref fa) ⟨[.ref a], []⟩) (fun r s' => r = .ok (.ret (.bool true)) ∧ OldK s1.heap s'.heap ∧ s'.os = s1.os ∧ AllBare s'.gens) s1 := by
  have rv := vals_ints hi
  have lenV := hi.length
  have core : ∀ H : Hp, Only H → SqL K H a (ns.map V.int) → HOk P w H s1.heap → (∀ b, H b ≠ none → b = a) → (H a ≠ none → K.lookup a = none) →
      codeAny (model P w) callerA (.call (.ref fa) ⟨[.ref a], []⟩) (fun r s' => r = .ok (.ret (.bool true)) ∧ OldK s1.heap s'.heap ∧ s'.os = s1.os ∧ AllBare s'.gens) s1 := by
    intro H hO hS hok hA hK
    have one : ∀ {b : Addr}, H b ≠ none → b = a := fun z => hA _ z
    have free : ∀ {b : Addr}, (b = a → False) → H b = none := fun {b} z => by
      cases q : H b with
      | none => rfl
      | some u => exact (z (one (by rw [q]; simp))).elim
    have notA : ∀ {b : Addr} {o : Obj} {es : Array DictEntry} {ep : Nat}, s1.heap.get? b = some o → o.data = .dict es ep → H b = none := fun {b o es ep} e d => free fun z => by
      subst z
      rw [ha] at e
      cases e
      cases (show Data.seq vs.toArray _ = Data.dict es ep from d)
    have nsK : ∀ {b : Addr} {m : Str → Option Value}, s1.heap.Ns b m → (hidT s1.heap H).Ns b m := fun ⟨o, es, ep, e, d, r⟩ => ⟨o, es, ep, hidT_get e (notA e d), d, r⟩
    have hKb : K.In (hidT s1.heap H) := fun b o e => hidT_get (KX b o e) (by
      cases q : H b with
      | none => rfl
      | some u =>
        have eb : b = a := one (by rw [q]; simp)
        subst eb
        rw [hK (by rw [q]; simp)] at e
        cases e)
    have hM : Mod K mg (hidT s1.heap H) := ⟨hKb, nsK hns, ⟨mb, nsK hb, hbb⟩, let ⟨mc, h1, h2⟩ := hlim; ⟨mc, nsK h1, h2⟩⟩
    have e0 : Env0 P w K mg (hidT s1.heap H) callerA [] s1 H := ⟨rfl, hM, fun b o e => of_hidT e, Nat.le_of_eq (hidT_size _ _), trivial, fun b hb => absurd (show b ∈ ([] : List Addr) from hb) (by simp), hok, .of_eq hg⟩
    refine codeAny_mono (Fn _ hKb (nsK hns) callerA [] s1 H [.ref a] [.ref a] _ rfl hr e0 (.cons rfl .nil) (hsp H hO hS)) fun r s' h => ?_
    cases r with
    | error e => exact False.elim h
    | ok fl =>
      cases fl with
      | next => exact False.elim h
      | brk => exact False.elim h
      | cont => exact False.elim h
      | ret u =>
        obtain ⟨v, H', os, bare, un, hok', r', q⟩ := h
        have ev : v = .bl true := q
        subst ev
        obtain rfl : u = Value.bool true := r'
        refine ⟨rfl, OldK.of_keep fun b o e => ?_, os, bare⟩
        cases q : H b with
        | none => exact un.keep b o e q (by intro z; exact absurd (show b ∈ ([] : List Addr) from z) (by simp)) (by simp)
        | some u =>
          rcases hO b with z | ⟨ob, xs, z⟩
          · rw [q] at z
            cases z
          · obtain ⟨e1, _⟩ := hok b _ z
            obtain ⟨e2, _⟩ := hok' b _ (un.frzs b ob _ z)
            rw [e] at e1
            cases e1
            exact e2
  cases hk : K.lookup a with
  | some o =>
    have e := KX a o hk
    rw [ha] at e
    cases e
    exact core (fun _ => none) (fun _ => .inl rfl) (.inr ⟨_, vs.toArray, _, hk, rfl, rfl, rfl, by rw [List.size_toArray, lenV]; exact hl, by simpa using rv⟩) (fun b u z => nomatch (show (none : Option HO) = some u from z)) (fun b z => absurd rfl z) fun z => absurd rfl z
  | none =>
    refine core (fun b => if b = a then some (.frz { cls := .type "list", data := .seq vs.toArray } (.lst (ns.map V.int))) else none) (fun b => ?_) (.inl (.inr ⟨{ cls := .type "list", data := .seq vs.toArray }, if_pos rfl⟩)) (fun b u z => ?_) (fun b z => ?_) fun _ => hk
    · by_cases hb : b = a
      · exact .inr ⟨_, _, if_pos hb⟩
      · exact .inl (if_neg hb)
    · by_cases hb : b = a
      · have e := (if_pos hb).symm.trans z
        cases e
        subst hb
        exact ⟨ha, by rw [List.length_map]; exact hl, vs, _, rv, ha⟩
      · cases (if_neg hb).symm.trans z
    · by_cases hb : b = a
      · exact hb
      · exact absurd (if_neg hb) z
end N
set_option Elab.async false
set_option linter.all false
set_option maxRecDepth 100000
namespace N
open PySem PySem.Spec PyProof.Rows L2
def startD (N : List Str) (ds : List D) : Gm := ds.map some ++ List.replicate (N.length - ds.length) none
section
variable {F : FmKit} {T : Kx} {H : Hp}
theorem DenL.lo {N : List Str} {ds : List D} {vs : List V} (k : DenL F T H ds vs) : Lo F T H (startD N ds) (L2.start N vs) := by
  refine ⟨?_, fun i d h => ?_⟩
  · unfold L2.start startD
    simp [k.len]
  · unfold startD at h
    unfold L2.start
    by_cases hi : i < ds.length
    · rw [List.getElem?_append_left (by simpa using hi), List.getElem?_map] at h
      cases e : ds[i]? with
      | none =>
        rw [e] at h
        cases h
      | some d' =>
        rw [e] at h
        cases h
        obtain ⟨v, hv, kv⟩ := k.get e
        refine ⟨v, ?_, kv⟩
        rw [List.getElem?_append_left (by rw [List.length_map, k.len]; exact hi), List.getElem?_map, hv]
        rfl
    · rw [List.getElem?_append_right (by simpa using hi), List.getElem?_replicate] at h
      split at h <;> cases h
end
section
variable {P : Program} {w : World} {K : PySem.W.Frag} {mg : Str → Option Value} {base : Heap} {F : FmKit} {cl : Nat → Addr} {S : FS}
theorem spN_len {n : Nat} (len : ∀ ds W post, S ds W post → ds.length = n) : ∀ vs H Q E, spN F ⟨K, cl⟩ S vs H Q E → vs.length = n := fun vs H Q E ⟨ds, W, C, H1, O, post, _, _, _, _, k, h, _⟩ => by
  rw [k.len]
  exact len ds W post h
/-- the end of a body meets the wish of the call -/
theorem body_run {N : List Str} {t : TS} {vs : List V} {H : Hp} {Q : VK} {E : XK} (h : spN F ⟨K, cl⟩ S vs H Q E) (b : ∀ ds W post, S ds W post → Sw F ⟨K, cl⟩ t (startD N ds) W (E_ post)) : t { nx := fun _ H' => Q .non H', rt := Q } (L2.start N vs) H := by
  obtain ⟨ds, W, C, H1, O, post, e, di, oc, ow, k, hs, q⟩ := h
  subst e
  exact b ds W post hs C H1 O _ ⟨di, oc, k.lo, ow⟩ _ ⟨fun G W' H' O' σ' r n l => q .non W' H' O' .non r n rfl, fun d W' H' O' v r n kd => q d W' H' O' v r n kd, fun _ _ _ _ _ z => z.elim, fun _ _ _ _ _ z => z.elim⟩
theorem okD {x qual : Str} {st : Stmt} {f : Addr} {fd : FuncData} {N ps : List Str} {k : Nat} (Fn : Fun K x qual st f fd) (Sc : FnScope N ps (defScope st)) (len : ∀ ds W post, S ds W post → ds.length = ps.length)
    (body : ∀ (cdv : Value) (A : Around) (outer : List Env) (s : Shared) (H : Hp) (E : XK), Room k (A.deeper (envOfC qual (defScope st) s.heap.objs.size f cdv)) →
      ∃ t, PSs (cxOf CX0 P w K mg base N qual (defScope st) f cdv A outer s H E).nox (defBody st) t ∧ ∀ ds W post, S ds W post → Sw F ⟨K, cl⟩ t (startD N ds) W (E_ post)) : FnOk P w K mg base CX0 (k + 1) f fd ps (spN F ⟨K, cl⟩ S) :=
  Fn.ok Sc (spN_len len) fun cdv A outer s H vs Q E hr h => let ⟨t, ht, b⟩ := body cdv A outer s H E hr; ⟨t, ht, body_run h b⟩
theorem okG {x qual : Str} {st : Stmt} {f : Addr} {fd : FuncData} {N ps : List Str} {k : Nat} (Fn : Fun K x qual st f fd) (Sc : FnScope N ps (defScope st)) (len : ∀ ds W post, S ds W post → ds.length = ps.length)
    (hb : ∀ (kV doc pm : Value) (an : Option Addr) (cdv ct : Value) (us : List Value), us.length = ps.length → bindArgs (PySem.W.fnOf x qual (defArgs st) (defBody st) (defScope st) .none kV doc pm an cdv ct) ⟨us, []⟩ = pure (ps.zip us))
    (body : ∀ (cdv : Value) (A : Around) (outer : List Env) (s : Shared) (H : Hp), (A.deeper (envOfC qual (defScope st) s.heap.objs.size f cdv)).guards = some [] → Room k (A.deeper (envOfC qual (defScope st) s.heap.objs.size f cdv)) →
      ∃ t, PSs (cxOf CX0 P w K mg base N qual (defScope st) f cdv A outer s H E0).nox (defBody st) t ∧ ∀ ds W post, S ds W post → Sw F ⟨K, cl⟩ t (startD N ds) W (E_ post)) : FnG P w K mg base (k + 1) f (spN F ⟨K, cl⟩ S) :=
  Fun.okG Fn Sc (spN_len len) hb fun cdv A outer s H vs Q hg hr h => let ⟨t, ht, b⟩ := body cdv A outer s H hg hr; ⟨t, ht, body_run h b⟩
/-- a def with a star behind n names -/
def starS (n : Nat) (S : FS) : FS := fun ds W post => n ≤ ds.length ∧ ds.length ≤ 1000 ∧ S (ds.take n ++ [.tup (ds.drop n)]) W post
theorem okS {x qual : Str} {st : Stmt} {f : Addr} {fd : FuncData} {N ps : List Str} {k : Nat} {pv : Str} (Fn : Fun K x qual st f fd) (Sc : FnScope N (ps ++ [pv]) (defScope st))
    (hb : ∀ (kV doc pm : Value) (an : Option Addr) (cdv ct : Value) (us rest : List Value), us.length = ps.length → bindArgs (PySem.W.fnOf x qual (defArgs st) (defBody st) (defScope st) .none kV doc pm an cdv ct) ⟨us ++ rest, []⟩ = (newTuple rest >>= fun t => pure (ps.zip us ++ [(pv, t)])))
    (body : ∀ (cdv : Value) (A : Around) (outer : List Env) (s : Shared) (H : Hp) (E : XK), Room k (A.deeper (envOfC qual (defScope st) s.heap.objs.size f cdv)) →
      ∃ t, PSs (cxOf CX0 P w K mg base N qual (defScope st) f cdv A outer s H E) (defBody st) t ∧ ∀ ds W post, S ds W post → Sw F ⟨K, cl⟩ t (startD N ds) W (E_ post)) : FnR P w K mg base CX0 (k + 1) f (spN F ⟨K, cl⟩ (starS ps.length S)) := by
  obtain ⟨oc, od, kV, doc, pm, an, cdv, ct, osl, rfl, lk, hcd⟩ := Fn.ex
  have h := StX.fn_star (CX := CX0) (P := P) (w := w) (mg := mg) (base := base) (k := k) (N := N) (ps := ps) (sp := spN F ⟨K, cl⟩ S) lk hcd Sc StX.cxUp_none (hb kV doc pm an cdv ct) (fun A outer s H vs Q E hr h => let ⟨t, ht, b⟩ := body cdv A outer s H E hr; ⟨t, ht, body_run h b⟩)
  refine fun A outer s H us vs Q E hr e0 r hsp => h A outer s H us vs Q E hr e0 r ?_
  obtain ⟨ds, W, C, H1, O, post, e, di, oc, ow, kl, ⟨h1, h2, h3⟩, q⟩ := hsp
  have hl := kl.len
  refine ⟨vs.take ps.length, vs.drop ps.length, (List.take_append_drop _ _).symm, by rw [List.length_take, hl]; omega, ?_, fun p hp => ?_⟩
  · have := sizeLine_eq
    rw [List.length_drop, hl]
    omega
  · subst e
    obtain ⟨n2, e2, s2⟩ := (Nx.refl (F := F) (T := ⟨K, cl⟩) di oc ow).newF (o := .tup (vs.drop ps.length)) hp
    rw [e2]
    exact ⟨_, W, C, _, O, post, rfl, n2.dis, n2.oc, n2.own, ((kl.take ps.length).mono s2).app (.one (d := .tup (ds.drop ps.length)) ⟨p, _, rfl, SqT.of upd_same, (kl.drop ps.length).mono s2⟩), h3, fun d W' H' O' v r n k => q d W' H' O' v r (n2.trans n) k⟩
end
end N
set_option Elab.async false
set_option linter.all false
set_option maxRecDepth 100000
namespace N
open PySem PySem.Spec PyProof.Rows L2
open C8 (Cal Met Mak pe_c pe_mt pe_mt0 pe_mk)
/-- the built-in names that a text uses are not hidden -/
structure Blt (mg : Str → Option Value) : Prop where
  len : mg "len" = none
  int : mg "int" = none
  str : mg "str" = none
  range : mg "range" = none
  list : mg "list" = none
  tuple : mg "tuple" = none
  dict : mg "dict" = none
  set : mg "set" = none
  sorted : mg "sorted" = none
  isinstance : mg "isinstance" = none
  repr : mg "repr" = none
  max : mg "max" = none
  min : mg "min" = none
  sum : mg "sum" = none
  all : mg "all" = none
  any : mg "any" = none
  zip : mg "zip" = none
  enumerate : mg "enumerate" = none
  bool : mg "bool" = none
  reversed : mg "reversed" = none
  type : mg "type" = none
theorem bt_int : bootBuiltins "int" = some (.type "int") := by decide +kernel
theorem bt_str : bootBuiltins "str" = some (.type "str") := by decide +kernel
theorem bt_list : bootBuiltins "list" = some (.type "list") := by decide +kernel
theorem bt_tuple : bootBuiltins "tuple" = some (.type "tuple") := by decide +kernel
theorem bt_set : bootBuiltins "set" = some (.type "set") := by decide +kernel
theorem bt_dict : bootBuiltins "dict" = some (.type "dict") := by decide +kernel
theorem bt_len : bootBuiltins "len" = some (.builtin "len") := by decide +kernel
theorem bt_sorted : bootBuiltins "sorted" = some (.builtin "sorted") := by decide +kernel
theorem bt_isinstance : bootBuiltins "isinstance" = some (.builtin "isinstance") := by decide +kernel
theorem bt_repr : bootBuiltins "repr" = some (.builtin "repr") := by decide +kernel
theorem bt_max : bootBuiltins "max" = some (.builtin "max") := by decide +kernel
theorem bt_bool : bootBuiltins "bool" = some (.type "bool") := by decide +kernel
theorem bt_all : bootBuiltins "all" = some (.builtin "all") := by decide +kernel
theorem bt_any : bootBuiltins "any" = some (.builtin "any") := by decide +kernel
section
variable {P : Program} {w : World} {K : PySem.W.Frag} {mg : Str → Option Value} {base : Heap} {F : FmKit} {cl : Nat → Addr} {S : FS}
/-- a def of the module, by its promise -/
theorem calD {x : Str} {st : Stmt} {f : Addr} {fd : FuncData} {N ps : List Str} {k : Nat} (hm : mg x = some (.ref f)) (Fn : Fun K x x st f fd) (Sc : FnScope N ps (defScope st)) (len : ∀ ds W post, S ds W post → ds.length = ps.length)
    (hb : ∀ (kV doc pm : Value) (an : Option Addr) (cdv ct : Value) (us : List Value), us.length = ps.length → bindArgs (PySem.W.fnOf x x (defArgs st) (defBody st) (defScope st) .none kV doc pm an cdv ct) ⟨us, []⟩ = pure (ps.zip us))
    (body : ∀ (cdv : Value) (A : Around) (outer : List Env) (s : Shared) (H : Hp) (E : XK), Room k (A.deeper (envOfC x (defScope st) s.heap.objs.size f cdv)) →
      ∃ t, PSs (cxOf CX0 P w K mg base N x (defScope st) f cdv A outer s H E).nox (defBody st) t ∧ ∀ ds W post, S ds W post → Sw F ⟨K, cl⟩ t (startD N ds) W (E_ post)) : Cal P w K mg base (k + 1) x (spN F ⟨K, cl⟩ S) [] :=
  ⟨f, fd, ps, [], okD Fn Sc len body, hm, Fn.kp, Fn.binds hb, .nil⟩
/-- .. that knows that no guard runs -/
structure CalG (P : Program) (w : World) (K : PySem.W.Frag) (mg : Str → Option Value) (base : Heap) (k : Nat) (x : Str) (sp : Sp) : Prop where
  ex : ∃ f : Addr, FnG P w K mg base k f sp ∧ mg x = some (.ref f) ∧ PySem.W.keepIn K (.ref f) = true
theorem calG {x : Str} {st : Stmt} {f : Addr} {fd : FuncData} {N ps : List Str} {k : Nat} (hm : mg x = some (.ref f)) (Fn : Fun K x x st f fd) (Sc : FnScope N ps (defScope st)) (len : ∀ ds W post, S ds W post → ds.length = ps.length)
    (hb : ∀ (kV doc pm : Value) (an : Option Addr) (cdv ct : Value) (us : List Value), us.length = ps.length → bindArgs (PySem.W.fnOf x x (defArgs st) (defBody st) (defScope st) .none kV doc pm an cdv ct) ⟨us, []⟩ = pure (ps.zip us))
    (body : ∀ (cdv : Value) (A : Around) (outer : List Env) (s : Shared) (H : Hp), (A.deeper (envOfC x (defScope st) s.heap.objs.size f cdv)).guards = some [] → Room k (A.deeper (envOfC x (defScope st) s.heap.objs.size f cdv)) →
      ∃ t, PSs (cxOf CX0 P w K mg base N x (defScope st) f cdv A outer s H E0).nox (defBody st) t ∧ ∀ ds W post, S ds W post → Sw F ⟨K, cl⟩ t (startD N ds) W (E_ post)) : CalG P w K mg base (k + 1) x (spN F ⟨K, cl⟩ S) :=
  ⟨f, okG Fn Sc len hb body, hm, Fn.kp⟩
/-- a method of the class C -/
theorem metD {m qual : Str} {C : Addr} {st : Stmt} {f : Addr} {fd : FuncData} {N ps : List Str} {k : Nat} (c : Cls K C) (me : Meth K C m f) (Fn : Fun K m qual st f fd) (Sc : FnScope N ps (defScope st)) (len : ∀ ds W post, S ds W post → ds.length = ps.length)
    (hb : ∀ (kV doc pm : Value) (an : Option Addr) (cdv ct : Value) (us : List Value), us.length = ps.length → bindArgs (PySem.W.fnOf m qual (defArgs st) (defBody st) (defScope st) .none kV doc pm an cdv ct) ⟨us, []⟩ = pure (ps.zip us))
    (body : ∀ (cdv : Value) (A : Around) (outer : List Env) (s : Shared) (H : Hp) (E : XK), Room k (A.deeper (envOfC qual (defScope st) s.heap.objs.size f cdv)) →
      ∃ t, PSs (cxOf CX0 P w K mg base N qual (defScope st) f cdv A outer s H E).nox (defBody st) t ∧ ∀ ds W post, S ds W post → Sw F ⟨K, cl⟩ t (startD N ds) W (E_ post)) : Met P w K mg base (k + 1) C m (spN F ⟨K, cl⟩ S) [] :=
  ⟨f, fd, ps, [], c, me, okD Fn Sc len body, Fn.binds hb, .nil⟩
/-- an own method by its promise: operators, str, len -/
structure Opn (P : Program) (w : World) (K : PySem.W.Frag) (mg : Str → Option Value) (base : Heap) (k : Nat) (C : Addr) (m : Str) (sp : Sp) : Prop where
  ex : ∃ (f : Addr) (fd : FuncData) (ps : List Str), Own2 K C m f ∧ FnOk P w K mg base CX0 k f fd ps sp ∧ Binds K fd ps []
theorem opnD {m qual : Str} {C : Addr} {st : Stmt} {f : Addr} {fd : FuncData} {N ps : List Str} {k : Nat} (o : Own2 K C m f) (Fn : Fun K m qual st f fd) (Sc : FnScope N ps (defScope st)) (len : ∀ ds W post, S ds W post → ds.length = ps.length)
    (hb : ∀ (kV doc pm : Value) (an : Option Addr) (cdv ct : Value) (us : List Value), us.length = ps.length → bindArgs (PySem.W.fnOf m qual (defArgs st) (defBody st) (defScope st) .none kV doc pm an cdv ct) ⟨us, []⟩ = pure (ps.zip us))
    (body : ∀ (cdv : Value) (A : Around) (outer : List Env) (s : Shared) (H : Hp) (E : XK), Room k (A.deeper (envOfC qual (defScope st) s.heap.objs.size f cdv)) →
      ∃ t, PSs (cxOf CX0 P w K mg base N qual (defScope st) f cdv A outer s H E).nox (defBody st) t ∧ ∀ ds W post, S ds W post → Sw F ⟨K, cl⟩ t (startD N ds) W (E_ post)) : Opn P w K mg base (k + 1) C m (spN F ⟨K, cl⟩ S) :=
  ⟨f, fd, ps, o, okD Fn Sc len body, Fn.binds hb⟩
/-- a class whose __init__ has a star -/
structure MakR (P : Program) (w : World) (K : PySem.W.Frag) (mg : Str → Option Value) (base : Heap) (k : Nat) (x : Str) (C : Addr) (sp : Sp) : Prop where
  ex : ∃ f : Addr, Mk K C f ∧ FnR P w K mg base CX0 k f sp ∧ mg x = some (.ref C)
end
section
variable {X : Cx} {k j : Nat} {x : Str} {C : Addr} {sp : Sp} {e : Expr} {es : List Expr} {t : TA} {p pos : Pos} {F : FmKit} {T : Kx} {S : FS}
theorem pe_cg (c : CalG X.prog X.w X.K X.mg X.base k x sp) (hgd : X.A.guards = some []) (hr : Room j X.A) (hk : k ≤ j) (hg : Gl X x) (ha : PA X (e :: es) t) (hdb : (x == ("__debug__" : Str)) = false := by decide)
    (he : starEach (e :: es) X.env = (false, eval e X.env) :: starEach es X.env := by rfl) (hpl : (backTo pos (starEach es X.env)).any (·.1) = false := by rfl) : PE X (.Call (.Name x p) (e :: es) [] pos) (tCall sp [] E0 t) := by
  obtain ⟨f, h, hm, hk'⟩ := c.ex
  exact pe_callG h hgd (hr.mono hk) hg hm hk' ha hdb he hpl
theorem pe_c0 {dvs : List V} (c : Cal X.prog X.w X.K X.mg X.base k x sp dvs) (hr : Room j X.A) (hk : k ≤ j) (hg : Gl X x) (hdb : (x == ("__debug__" : Str)) = false := by decide) : PE X (.Call (.Name x p) [] [] pos) (tCall sp dvs E0 tNil) := by
  obtain ⟨f, fd, ps, ds, h, hm, kp, b, d⟩ := c.ex
  exact pe_call0 h (hr.mono hk) hg hm kp b d pass0 hdb
theorem pe_mkR (c : MakR X.prog X.w X.K X.mg X.base k x C sp) (hr : Room j X.A) (hk : k + 1 ≤ j) (hg : Gl X x) (ha : PA X (e :: es) t) (hdb : (x == ("__debug__" : Str)) = false := by decide)
    (he : starEach (e :: es) X.env = (false, eval e X.env) :: starEach es X.env := by rfl) (hpl : (backTo pos (starEach es X.env)).any (·.1) = false := by rfl) : PE X (.Call (.Name x p) (e :: es) [] pos) (StX.tMakeR C sp E0 t) := by
  obtain ⟨f, m, h, hm⟩ := c.ex
  exact StX.pe_makeR m h (hr.mono hk) hg hm pass0 ha hdb he hpl
theorem op_opn {op : Operator} (o : Opn X.prog X.w X.K X.mg X.base k C (PySem.dunder op.info.2) sp) (hr : Room j X.A) (hk : k ≤ j) (hc : PySem.W.selfFirst X.K C = true) : OpR X (binaryOp op) (rOwn2 C sp E0) := by
  obtain ⟨f, fd, ps, o2, h, b⟩ := o.ex
  exact op_own h (hr.mono hk) o2 hc b pass0
def rStrO (C : Addr) (sp : Sp) : List V → Hp → VK → Prop := fun xs H Q => ∃ a dx fs, xs = [.ref a] ∧ H a = some (.ins C dx fs) ∧ sp [.ref a] H (fun v H' => (∃ z, v = .str z) ∧ Q v H') E0
theorem call_str_opn (o : Opn X.prog X.w X.K X.mg X.base k C "__str__" sp) (hr : Room j X.A) (hk : k + 2 ≤ j) : CallR X (.type "str") (rStrO C sp) := by
  obtain ⟨f, fd, ps, o2, h, b⟩ := o.ex
  exact call_own_str h (hr.mono hk) o2 b pass0
def rLenO (C : Addr) (sp : Sp) : List V → Hp → VK → Prop := fun xs H Q => ∃ a dx fs, xs = [.ref a] ∧ H a = some (.ins C dx fs) ∧ sp [.ref a] H (fun v H' => (∃ n : Int, v = .int n ∧ 0 ≤ n ∧ n < 2 ^ 63) ∧ Q v H') E0
theorem call_len_opn (o : Opn X.prog X.w X.K X.mg X.base k C "__len__" sp) (hr : Room j X.A) (hk : k + 1 ≤ j) : CallR X (.builtin "len") (rLenO C sp) := by
  obtain ⟨f, fd, ps, o2, h, b⟩ := o.ex
  exact call_own_len h (hr.mono hk) o2 b pass0
end
section
variable {F : FmKit} {T : Kx} {C H H' O O' : Hp} {G : Gm} {W W' : Om} {R : D → Om → Prop} {S : FS} {ta : TE} {c : Nat}
/-- an operator of the own class -/
theorem bo_own {d e : D} {ns ms : List Str} {l m : List D} (i1 : Inst F W d c ns l) (i2 : Inst F W e c ms m) (h : Hand S [d, e] W R) : Bo F T (rOwn2 (T.cl c) (spN F T S) E0) d e W R := fun C H O di oc ow x y hx hy Q q => by
  obtain ⟨a, dx, fs, ex, ha, _⟩ := i1.at di ow hx
  obtain ⟨b, dy, gs, ey, hb, _⟩ := i2.at di ow hy
  exact ⟨a, b, dx, dy, fs, gs, ex, ey, ha, hb, h.run di oc ow ⟨x, _, rfl, hx, .one hy⟩ q⟩
theorem ev_un {r : V → Hp → VK → Prop} (h : Ev F T ta G W fun d W1 => Ca F T (fun xs H Q => ∃ x, xs = [x] ∧ r x H Q) [d] W1 R) : Ev F T (tUn r ta) G W R := fun C H O σ w Q q =>
  h C H O σ w _ fun d W1 H1 O1 x h1 n1 k1 => by
    obtain ⟨y, e, hr⟩ := h1 C H1 O1 n1.dis n1.oc n1.own [x] (.one k1) Q fun d W' H' O' v rr n k => q d W' H' O' v rr (n1.trans n) k
    cases e
    exact hr
theorem ca_own1 {d : D} {ns : List Str} {l : List D} (i1 : Inst F W d c ns l) (h : Hand S [d] W R) : Ca F T (fun xs H Q => ∃ x, xs = [x] ∧ rOwn1 (T.cl c) (spN F T S) E0 x H Q) [d] W R := ca_one fun C H O di oc ow x k Q q => by
  obtain ⟨a, dx, fs, ex, ha, _⟩ := i1.at di ow k
  exact ⟨x, rfl, a, dx, fs, ex, ha, h.run di oc ow (.one k) q⟩
theorem ca_strO {d : D} {ns : List Str} {l : List D} (i1 : Inst F W d c ns l) (h : Hand S [d] W fun d' W' => (∃ z, d' = .str z) ∧ R d' W') : Ca F T (rStrO (T.cl c) (spN F T S)) [d] W R := ca_one fun C H O di oc ow x k Q q => by
  obtain ⟨a, dx, fs, ex, ha, _⟩ := i1.at di ow k
  subst ex
  refine ⟨a, dx, fs, rfl, ha, h.run di oc ow (.one k) fun d' W' H' O' v ⟨⟨z, ez⟩, r⟩ n kd => ⟨⟨z, ?_⟩, q d' W' H' O' v r n kd⟩⟩
  subst ez
  exact kd
theorem ca_lenO {d : D} {ns : List Str} {l : List D} (i1 : Inst F W d c ns l) (h : Hand S [d] W fun d' W' => (∃ n : Int, d' = .int n ∧ 0 ≤ n ∧ n < 2 ^ 63) ∧ R d' W') : Ca F T (rLenO (T.cl c) (spN F T S)) [d] W R := ca_one fun C H O di oc ow x k Q q => by
  obtain ⟨a, dx, fs, ex, ha, _⟩ := i1.at di ow k
  subst ex
  refine ⟨a, dx, fs, rfl, ha, h.run di oc ow (.one k) fun d' W' H' O' v ⟨⟨z, ez, h0, h1⟩, r⟩ n kd => ⟨⟨z, ?_, h0, h1⟩, q d' W' H' O' v r n kd⟩⟩
  subst ez
  exact kd
end
end N
set_option Elab.async false
set_option linter.all false
set_option maxRecDepth 100000
namespace N
open PySem PySem.Spec PyProof.Rows L2
section
variable {F : FmKit} {T : Kx} {C H H' O O' : Hp} {G : Gm} {W W' : Om} {R : D → Om → Prop} {S : FS} {ta tb te : TE} {tr : TA} {c : Nat} {t u : TT} {Z : Bool → Om → Prop} {ts tz : TS} {E : En}
theorem bo_I0 {g : Int → Int → V} {i j : Int} (h : R (.vl (g i j)) W) : Bo F T (rI0 g) (.int i) (.int j) W R := op_sc fun H Q k => ⟨i, j, rfl, rfl, k _ h⟩
theorem bo_I {Cc : Int → Int → Prop} {g : Int → Int → V} {i j : Int} (hc : Cc i j) (h : R (.vl (g i j)) W) : Bo F T (rI Cc g) (.int i) (.int j) W R := op_sc fun H Q k => ⟨i, j, rfl, rfl, hc, k _ h⟩
theorem bo_eq {x y : V} (hs : scal x y = true) (h : R (.bl (decide (x = y))) W) : Bo F T rEq (.vl x) (.vl y) W R := op_sc fun H Q k => ⟨hs, k _ h⟩
theorem bo_ne {x y : V} (hs : scal x y = true) (h : R (.bl (!decide (x = y))) W) : Bo F T rNe (.vl x) (.vl y) W R := op_sc fun H Q k => ⟨hs, k _ h⟩
theorem dec_int (i j : Int) : decide (V.int i = V.int j) = decide (i = j) := by
  by_cases h : i = j
  · subst h
    simp
  · rw [decide_eq_false h, decide_eq_false (fun e => h (V.int.inj e))]
theorem dec_str (i j : Str) : decide (V.str i = V.str j) = decide (i = j) := by
  by_cases h : i = j
  · subst h
    simp
  · rw [decide_eq_false h, decide_eq_false (fun e => h (V.str.inj e))]
theorem dec_bl (i j : Bool) : decide (V.bl i = V.bl j) = decide (i = j) := by cases i <;> cases j <;> decide
theorem bo_eqI {i j : Int} (h : R (.bl (decide (i = j))) W) : Bo F T rEq (.int i) (.int j) W R := bo_eq rfl (by rw [dec_int]; exact h)
theorem bo_neI {i j : Int} (h : R (.bl (!decide (i = j))) W) : Bo F T rNe (.int i) (.int j) W R := bo_ne rfl (by rw [dec_int]; exact h)
theorem bo_eqS {i j : Str} (h : R (.bl (decide (i = j))) W) : Bo F T rEq (.str i) (.str j) W R := bo_eq rfl (by rw [dec_str]; exact h)
theorem bo_neS {i j : Str} (h : R (.bl (!decide (i = j))) W) : Bo F T rNe (.str i) (.str j) W R := bo_ne rfl (by rw [dec_str]; exact h)
theorem bo_eqB {i j : Bool} (h : R (.bl (decide (i = j))) W) : Bo F T rEq (.bl i) (.bl j) W R := bo_eq rfl (by rw [dec_bl]; exact h)
theorem bo_neB {i j : Bool} (h : R (.bl (!decide (i = j))) W) : Bo F T rNe (.bl i) (.bl j) W R := bo_ne rfl (by rw [dec_bl]; exact h)
theorem ca_int {i : Int} (h : R (.int i) W) : Ca F T (fun xs H Q => (∃ i, xs = [.int i] ∧ Q (.int i) H) ∨ ∃ k, xs = [.bl k] ∧ Q (.int (if k then 1 else 0)) H) [.int i] W R := cl_sc (xs := [.int i]) fun H Q k => .inl ⟨i, rfl, k _ h⟩
theorem ca_intB {b : Bool} (h : R (.int (if b then 1 else 0)) W) : Ca F T (fun xs H Q => (∃ i, xs = [.int i] ∧ Q (.int i) H) ∨ ∃ k, xs = [.bl k] ∧ Q (.int (if k then 1 else 0)) H) [.bl b] W R := cl_sc (xs := [.bl b]) fun H Q k => .inr ⟨b, rfl, k _ h⟩
theorem ca_max2 {i j : Int} (h : R (.int (if j > i then j else i)) W) : Ca F T (fun xs H Q => ∃ i j, xs = [.int i, .int j] ∧ Q (.int (if j > i then j else i)) H) [.int i, .int j] W R := cl_sc (xs := [.int i, .int j]) fun H Q k => ⟨i, j, rfl, k _ h⟩
theorem ca_min2 {i j : Int} (h : R (.int (if j < i then j else i)) W) : Ca F T (fun xs H Q => ∃ i j, xs = [.int i, .int j] ∧ Q (.int (if j < i then j else i)) H) [.int i, .int j] W R := cl_sc (xs := [.int i, .int j]) fun H Q k => ⟨i, j, rfl, k _ h⟩
/-- a chain of comparisons -/
theorem ev_chain {r r' : R2} {tc : TE} (h : Ev F T ta G W fun d1 W1 => Ev F T tb G W1 fun d2 W2 => Bo F T r d1 d2 W2 fun z W3 => ∃ b, z = .bl b ∧ if b = true then Ev F T tc G W3 fun d3 W4 => Bo F T r' d2 d3 W4 R else R (.bl false) W3) : Ev F T (tChain r r' ta tb tc) G W R := fun C H O σ w Q q =>
  h C H O σ w _ fun d1 W1 H1 O1 x h1 n1 k1 => h1 C H1 O1 σ (w.step n1) _ fun d2 W2 H2 O2 y h2 n2 k2 =>
    h2 C H2 O2 n2.dis n2.oc n2.own x y (k1.mono n2.ext) k2 _ fun z W3 H3 O3 v ⟨b, ez, hb⟩ n3 k3 => by
      subst ez
      have k3 : v = .bl b := k3
      refine ⟨b, k3, ?_⟩
      cases b with
      | true => exact hb C H3 O3 σ (((w.step n1).step n2).step n3) _ fun d3 W4 H4 O4 zv h4 n4 k4 => h4 C H4 O4 n4.dis n4.oc n4.own y zv ((k2.mono n3.ext).mono n4.ext) k4 Q fun d W' H' O' v rr n k => q d W' H' O' v rr ((((n1.trans n2).trans n3).trans n4).trans n) k
      | false => exact q _ W3 H3 O3 _ hb ((n1.trans n2).trans n3) rfl
theorem et_chain {r r' : R2} {tc : TE} (h : Ev F T (tChain r r' ta tb tc) G W fun d W1 => ∃ b, d = .bl b ∧ Z b W1) : EvT F T (tTest (tChain r r' ta tb tc)) G W Z := et_test h
theorem if_so {c : Bool} {A B : Prop} (hc : c = true) (h : A) : if c = true then A else B := by rw [if_pos hc]; exact h
theorem if_not {c : Bool} {A B : Prop} (hc : c = false) (h : B) : if c = true then A else B := by rw [if_neg (by rw [hc]; exact Bool.false_ne_true)]; exact h
theorem if_dec {p A B : Prop} [Decidable p] (h1 : p → A) (h2 : ¬ p → B) : if decide p = true then A else B := by
  by_cases h : p
  · exact if_so (decide_eq_true h) (h1 h)
  · exact if_not (decide_eq_false h) (h2 h)
/-- slices of lists, in plain data -/
def cutD (xs : List D) (lo hi : Option Int) : List D := (xs.drop (HT.sIx xs.length 0 lo)).take (HT.sIx xs.length xs.length hi - HT.sIx xs.length 0 lo)
theorem DenL.cut {l : List D} {xs : List V} (k : DenL F T H l xs) (lo hi : Option Int) : DenL F T H (cutD l lo hi) (cutV xs lo hi) := by
  unfold cutD cutV
  rw [k.len]
  exact (k.drop _).take _
theorem eo_none {Y : Option Int → Om → Prop} (h : Y none W) : EvO F T tNoPart G W Y := fun C H O σ w Q q => q none W H O h w.nx
theorem eo_some {Y : Option Int → Om → Prop} (h : Ev F T te G W fun d W1 => ∃ i, d = .int i ∧ Y (some i) W1) : EvO F T (tPart te) G W Y := fun C H O σ w Q q =>
  h C H O σ w _ fun d W1 H1 O1 x ⟨i, e, y⟩ n k => by
    subst e
    exact ⟨i, k, q (some i) W1 H1 O1 y n⟩
theorem ev_sl {r : V → Option Int → Option Int → Hp → VK → Prop} {tl th : TO} (h : Ev F T te G W fun d W1 => EvO F T tl G W1 fun lo W2 => EvO F T th G W2 fun hi W3 => Ca F T (fun xs H Q => ∃ x, xs = [x] ∧ r x lo hi H Q) [d] W3 R) : Ev F T (tSl r te tl th) G W R := fun C H O σ w Q q =>
  h C H O σ w _ fun d W1 H1 O1 x h1 n1 k1 => h1 C H1 O1 σ (w.step n1) _ fun lo W2 H2 O2 h2 n2 => h2 C H2 O2 σ ((w.step n1).step n2) _ fun hi W3 H3 O3 h3 n3 => by
    obtain ⟨y, e, hr⟩ := h3 C H3 O3 n3.dis n3.oc n3.own [x] (.one ((k1.mono n2.ext).mono n3.ext)) Q fun d W' H' O' v rr n k => q d W' H' O' v rr (((n1.trans n2).trans n3).trans n) k
    cases e
    exact hr
theorem ca_slL {d : D} {l : List D} {lo hi : Option Int} (hv : Vl W d l) (r : ∀ p, p ∉ akeys W → R (.adr p) ((p, .lst (cutD l lo hi)) :: W)) : Ca F T (fun xs H Q => ∃ x, xs = [x] ∧ rSlL T.K x lo hi H Q) [d] W R := ca_one fun C H O di oc ow x k Q q => by
  obtain ⟨a, xs, e, hs, kl⟩ := hv.sq ow di k
  subst e
  refine ⟨_, rfl, a, xs, rfl, hs, fun p hp => ?_⟩
  obtain ⟨n2, e, np⟩ := (Nx.refl di oc ow).newO (od := .lst (cutD l lo hi)) (o := .lst (cutV xs lo hi)) hp ⟨_, rfl, kl.cut lo hi⟩
  rw [e]
  exact q (.adr p) _ _ _ _ (r p np) n2 rfl
theorem ev_revL (h : Ev F T te G W fun d W1 => ∃ l, Vl W1 d l ∧ ∀ p, p ∉ akeys W1 → R (.adr p) ((p, .lst l.reverse) :: W1)) : Ev F T (tRevL T.K te) G W R := fun C H O σ w Q q =>
  h C H O σ w _ fun d W1 H1 O1 x ⟨l, hv, r⟩ n k => by
    obtain ⟨a, xs, e, hs, kl⟩ := hv.sq n.own n.dis k
    subst e
    refine ⟨a, xs, rfl, hs, fun p hp => ?_⟩
    obtain ⟨n2, e, np⟩ := n.newO (od := .lst l.reverse) (o := .lst xs.reverse) hp ⟨_, rfl, kl.reverse⟩
    rw [e]
    exact q (.adr p) _ _ _ _ (r p np) n2 rfl
/-- membership in a flat sequence -/
theorem bo_in {neg : Bool} {x : V} {d : D} {xs : List V} (hv : Vs W d (xs.map .vl)) (hx : flatV x = true) (ha : xs.all flatV = true) (r : R (.bl (if neg then !inV x xs else inV x xs)) W) : Bo F T (rIn T.K neg) (.vl x) d W R := fun C H O di oc ow x' y hx' hy Q q => by
  have hx' : x' = x := hx'
  subst hx'
  obtain ⟨a, ys, e, hs, kl⟩ := hv.sq ow di hy
  have kl := DenL.vls_inv kl
  subst kl
  exact ⟨a, ys, e, hs, hx, ha, q _ W H O _ r (.refl di oc ow) rfl⟩
end
theorem canLay_ints : ∀ ns : List Int, PyData.canLayAll0 (ns.map .int) = true
  | [] => rfl
  | n :: ns => by
    rw [List.map_cons, PyData.canLayAll0, canLay_ints ns]
    rfl
theorem depth_ints : ∀ ns : List Int, PyData.depthAll (ns.map .int) = 0
  | [] => rfl
  | n :: ns => by
    rw [List.map_cons, PyData.depthAll, depth_ints ns]
    rfl
theorem shaped_ints (ns : List Int) : SeqAt.shaped (.list (ns.map .int)) = true := by
  unfold SeqAt.shaped
  rw [PyData.canLay0, canLay_ints, PyData.depth, depth_ints]
  decide
theorem eqv_nil {ds : List PyData} : (PyData.list ds).eqv (.list []) = ds.isEmpty := by
  cases ds with
  | nil => simp [PyData.eqv, PyData.eqvAll]
  | cons d ds => simp [PyData.eqv, PyData.eqvAll]
theorem vp_ints {W : Om} {d : D} {ns : List Int} (h : Vl W d (ns.map D.int)) : Vp W d (.list (ns.map .int)) := .inr ⟨_, h, pd_lst (pdL_map D.int .int (fun _ => rfl) ns)⟩
theorem vp_nil {W : Om} : Vp W (.lst []) (.list []) := .inl rfl
end N
set_option Elab.async false
set_option linter.all false
set_option maxRecDepth 100000
namespace N
open PySem PySem.Spec PyProof.Rows L2
theorem str_ext {x y : Str} (h : x.cps.toList = y.cps.toList) : x = y := by
  cases x
  cases y
  congr 1
  exact Array.toList_inj.mp h
theorem str_app (x y : Str) : (x ++ y).cps.toList = x.cps.toList ++ y.cps.toList := by
  show (x.cps ++ y.cps).toList = _
  rw [Array.toList_append]
theorem str_len (x : Str) : x.length = x.cps.toList.length := by
  show x.cps.size = _
  rw [Array.length_toList]
theorem str_app_len (x y : Str) : (x ++ y).length = x.length + y.length := by rw [str_len, str_app, List.length_append, ← str_len, ← str_len]
def ltS (x y : Str) : Bool := ltCps x.cps.toList y.cps.toList
theorem ltCps_irrefl : ∀ a : List Nat, ltCps a a = false
  | [] => rfl
  | a :: r => by simp [ltCps, ltCps_irrefl r]
theorem ltCps_trans : ∀ {a b c : List Nat}, ltCps a b = true → ltCps b c = true → ltCps a c = true
  | [], [], c, h, _ => by simp [ltCps] at h
  | [], _ :: _, [], _, h => by simp [ltCps] at h
  | [], _ :: _, _ :: _, _, _ => rfl
  | _ :: _, [], _, h, _ => by simp [ltCps] at h
  | _ :: _, _ :: _, [], _, h => by simp [ltCps] at h
  | x :: a, y :: b, z :: c, h1, h2 => by
    simp only [ltCps, Bool.or_eq_true, decide_eq_true_eq, Bool.and_eq_true, beq_iff_eq] at h1 h2 ⊢
    rcases h1 with h1 | ⟨h1, h3⟩ <;> rcases h2 with h2 | ⟨h2, h4⟩
    · exact .inl (by omega)
    · exact .inl (by omega)
    · exact .inl (by omega)
    · exact .inr ⟨by omega, ltCps_trans h3 h4⟩
theorem ltCps_total : ∀ {a b : List Nat}, ltCps a b = false → ltCps b a = false → a = b
  | [], [], _, _ => rfl
  | [], _ :: _, h, _ => by simp [ltCps] at h
  | _ :: _, [], _, h => by simp [ltCps] at h
  | x :: a, y :: b, h1, h2 => by
    simp only [ltCps, Bool.or_eq_false_iff, decide_eq_false_iff_not, Bool.and_eq_false_iff, beq_eq_false_iff_ne] at h1 h2
    have e : x = y := by omega
    subst e
    rw [ltCps_total (h1.2.resolve_left (by simp)) (h2.2.resolve_left (by simp))]
theorem ltS_irrefl (x : Str) : ltS x x = false := ltCps_irrefl _
theorem ltS_trans {x y z : Str} (h : ltS x y = true) (k : ltS y z = true) : ltS x z = true := ltCps_trans h k
theorem ltS_total {x y : Str} (h : ltS x y = false) (k : ltS y x = false) : x = y := str_ext (ltCps_total h k)
theorem ltS_of {x y : Str} (h : ltS y x = false) (ne : x ≠ y) : ltS x y = true := by
  cases e : ltS x y with
  | true => rfl
  | false => exact absurd (ltS_total e h) ne
theorem rising_all : ∀ {l : List Str} {p : Str}, risingS p l = true → (p :: l).Nodup → (p :: l).Pairwise (fun a b => ltS a b = true)
  | [], p, _, _ => by simp
  | x :: l, p, h, nd => by
    unfold risingS at h
    rw [Bool.and_eq_true] at h
    have h1 : ltS x p = false := by simpa [ltS] using h.1
    rw [List.nodup_cons] at nd
    have ih := rising_all h.2 nd.2
    have px : ltS p x = true := ltS_of h1 (fun e => nd.1 (by rw [e]; exact List.mem_cons_self))
    rw [List.pairwise_cons]
    refine ⟨fun y hy => ?_, ih⟩
    rcases List.mem_cons.mp hy with e | e
    · subst e
      exact px
    · exact ltS_trans px ((List.pairwise_cons.mp ih).1 y e)
theorem sorted_all : ∀ {l : List Str}, sortedS l = true → l.Nodup → l.Pairwise (fun a b => ltS a b = true)
  | [], _, _ => List.Pairwise.nil
  | _ :: _, h, nd => rising_all h nd
/-- two strictly ascending lists with the same members are one -/
theorem asc_ext {α : Type} {lt : α → α → Prop} (ir : ∀ a, ¬ lt a a) (tr : ∀ a b c, lt a b → lt b c → lt a c) : ∀ {l m : List α}, l.Pairwise lt → m.Pairwise lt → (∀ x, x ∈ l ↔ x ∈ m) → l = m
  | [], [], _, _, _ => rfl
  | [], b :: m, _, _, h => absurd ((h b).mpr List.mem_cons_self) (by simp)
  | a :: l, [], _, _, h => absurd ((h a).mp List.mem_cons_self) (by simp)
  | a :: l, b :: m, hl, hm, h => by
    rw [List.pairwise_cons] at hl hm
    have e : a = b := by
      rcases List.mem_cons.mp ((h a).mp List.mem_cons_self) with e | e
      · exact e
      · rcases List.mem_cons.mp ((h b).mpr List.mem_cons_self) with e2 | e2
        · exact e2.symm
        · exact absurd (tr _ _ _ (hl.1 _ e2) (hm.1 _ e)) (ir a)
    subst e
    congr 1
    refine asc_ext ir tr hl.2 hm.2 fun x => ⟨fun hx => ?_, fun hx => ?_⟩
    · rcases List.mem_cons.mp ((h x).mp (List.mem_cons_of_mem _ hx)) with e | e
      · subst e
        exact absurd (hl.1 _ hx) (ir x)
      · exact e
    · rcases List.mem_cons.mp ((h x).mpr (List.mem_cons_of_mem _ hx)) with e | e
      · subst e
        exact absurd (hm.1 _ hx) (ir x)
      · exact e
theorem perm_map_inv {α β : Type} {f : α → β} : ∀ {l : List α} {ys : List β}, ys.Perm (l.map f) → ∃ l' : List α, l'.Perm l ∧ ys = l'.map f
  | [], ys, h => ⟨[], List.Perm.refl _, by simpa using h⟩
  | a :: l, ys, h => by
    have hm : f a ∈ ys := h.mem_iff.mpr (by simp)
    obtain ⟨s, t, e⟩ := List.append_of_mem hm
    subst e
    have h2 : (s ++ t).Perm (l.map f) := by
      have h3 : (f a :: (s ++ t)).Perm (f a :: l.map f) := List.perm_middle.symm.trans (by simpa using h)
      exact (List.perm_cons _).mp h3
    obtain ⟨l', p, e⟩ := perm_map_inv h2
    obtain ⟨l1, l2, e1, e2, e3⟩ := List.map_eq_append_iff.mp e.symm
    subst e1 e2 e3
    exact ⟨l1 ++ a :: l2, List.perm_middle.trans ((List.perm_cons _).mpr p), by simp⟩
def insN (n : Nat) : List Nat → List Nat
  | [] => [n]
  | m :: r => if n = m then m :: r else if n < m then n :: m :: r else m :: insN n r
def unite (x y : Str) : Str := if x = y then x else ⟨((x.cps.toList ++ y.cps.toList).foldr insN []).toArray⟩
namespace Fm
def kind : Fm → Str
  | .at _ => "atom"
  | .no => "no"
  | .imp _ _ => "if"
  | .all _ => "all"
def many : Fm → Nat
  | .at _ => 1
  | .no => 1
  | .imp a b => 1 + a.many + b.many
  | .all a => 1 + a.many
def deep : Fm → Nat
  | .at _ => 0
  | .no => 0
  | .imp a b => max a.deep b.deep
  | .all a => 1 + a.deep
def atoms : Fm → Str
  | .at c => ⟨#[c]⟩
  | .no => ""
  | .imp a b => unite a.atoms b.atoms
  | .all a => a.atoms
/-- the atoms outside of all all-parts -/
def outer : Fm → Str
  | .at c => ⟨#[c]⟩
  | .no => ""
  | .imp a b => unite a.outer b.outer
  | .all _ => ""
def spell : Fm → Str
  | .at c => ⟨#[c]⟩
  | .no => "no"
  | .imp a b => "(" ++ a.spell ++ " > " ++ b.spell ++ ")"
  | .all a => "all " ++ a.spell
def ins (g : Fm) : List Fm → List Fm
  | [] => [g]
  | h :: r => if g = h then h :: r else if ltS g.spell h.spell then g :: h :: r else h :: ins g r
def merge (xs ys : List Fm) : List Fm := if xs = [] then ys else if ys = [] then xs else (xs ++ ys).foldr ins []
def alls : Fm → List Fm
  | .at _ => []
  | .no => []
  | .imp a b => merge a.alls b.alls
  | .all a => merge a.alls [.all a]
/-- the length of the text -/
def sz : Fm → Nat
  | .at _ => 1
  | .no => 2
  | .imp a b => 5 + a.sz + b.sz
  | .all a => 4 + a.sz
/-- no atom in it -/
def bare : Fm → Prop
  | .at _ => False
  | .no => True
  | .imp a b => a.bare ∧ b.bare
  | .all a => a.bare
theorem spell_len : ∀ f : Fm, f.spell.length = f.sz
  | .at _ => rfl
  | .no => rfl
  | .imp a b => by
    have h1 : ("(" : Str).length = 1 := rfl
    have h2 : (" > " : Str).length = 3 := rfl
    have h3 : (")" : Str).length = 1 := rfl
    simp only [spell, sz, str_app_len, spell_len a, spell_len b, h1, h2, h3]
    omega
  | .all a => by
    have h1 : ("all " : Str).length = 4 := rfl
    simp only [spell, sz, str_app_len, spell_len a, h1]
def ltF (f g : Fm) : Prop := ltS f.spell g.spell = true
def cs (f : Fm) : List Nat := f.spell.cps.toList
theorem cs_imp (a b : Fm) : cs (.imp a b) = 40 :: (a.cs ++ (32 :: 62 :: 32 :: (b.cs ++ [41]))) := by
  have h1 : ("(" : Str).cps.toList = [40] := rfl
  have h2 : (" > " : Str).cps.toList = [32, 62, 32] := rfl
  have h3 : (")" : Str).cps.toList = [41] := rfl
  simp [cs, spell, str_app, h1, h2, h3]
theorem cs_all (a : Fm) : cs (.all a) = 97 :: 108 :: 108 :: 32 :: a.cs := by
  have h1 : ("all " : Str).cps.toList = [97, 108, 108, 32] := rfl
  simp [cs, spell, str_app, h1]
theorem cs_no : cs .no = [110, 111] := rfl
theorem cs_at (c : Nat) : cs (.at c) = [c] := rfl
/-- behind a formula stands nothing, a blank or a bracket -/
def stop (r : List Nat) : Prop := ∀ c t, r = c :: t → c = 32 ∨ c = 41
/-- letters -/
def okL : Fm → Prop
  | .at c => (65 ≤ c ∧ c ≤ 90) ∨ (97 ≤ c ∧ c ≤ 122)
  | .no => True
  | .imp a b => a.okL ∧ b.okL
  | .all a => a.okL
theorem bare_ok : ∀ {f : Fm}, f.bare → f.okL
  | .at _, h => h.elim
  | .no, _ => trivial
  | .imp _ _, h => ⟨bare_ok h.1, bare_ok h.2⟩
  | .all a, h => bare_ok (f := a) h
theorem cs_inj : ∀ (f g : Fm), f.okL → g.okL → ∀ r s : List Nat, stop r → stop s → f.cs ++ r = g.cs ++ s → f = g ∧ r = s
  | .at c, .at d, _, _, r, s, _, _, h => by
    rw [cs_at, cs_at] at h
    injection h with h1 h2
    exact ⟨by rw [h1], h2⟩
  | .at c, .no, _, _, r, s, hr, _, h => by
    rw [cs_at, cs_no] at h
    injection h with h1 h2
    rcases hr 111 s h2 with e | e <;> cases e
  | .at c, .imp a b, hc, _, r, s, hr, _, h => by
    rw [cs_at, cs_imp] at h
    injection h with h1 h2
    simp only [okL] at hc
    omega
  | .at c, .all a, _, _, r, s, hr, _, h => by
    rw [cs_at, cs_all] at h
    injection h with h1 h2
    rcases hr _ _ h2 with e | e <;> cases e
  | .no, .at d, _, _, r, s, _, hs, h => by
    rw [cs_at, cs_no] at h
    injection h with h1 h2
    rcases hs 111 r h2.symm with e | e <;> cases e
  | .no, .no, _, _, r, s, _, _, h => by
    rw [cs_no] at h
    simp at h
    exact ⟨rfl, h⟩
  | .no, .imp a b, _, _, r, s, _, _, h => by
    rw [cs_no, cs_imp] at h
    injection h with h1 h2
    cases h1
  | .no, .all a, _, _, r, s, _, _, h => by
    rw [cs_no, cs_all] at h
    injection h with h1 h2
    cases h1
  | .imp a b, .at d, _, hd, r, s, _, hs, h => by
    rw [cs_at, cs_imp] at h
    injection h with h1 h2
    simp only [okL] at hd
    omega
  | .imp a b, .no, _, _, r, s, _, _, h => by
    rw [cs_no, cs_imp] at h
    injection h with h1 h2
    cases h1
  | .imp a b, .all c, _, _, r, s, _, _, h => by
    rw [cs_all, cs_imp] at h
    injection h with h1 h2
    cases h1
  | .all a, .at d, _, _, r, s, _, hs, h => by
    rw [cs_at, cs_all] at h
    injection h with h1 h2
    rcases hs _ _ h2.symm with e | e <;> cases e
  | .all a, .no, _, _, r, s, _, _, h => by
    rw [cs_no, cs_all] at h
    injection h with h1 h2
    cases h1
  | .all a, .imp b c, _, _, r, s, _, _, h => by
    rw [cs_all, cs_imp] at h
    injection h with h1 h2
    cases h1
  | .all a, .all b, ha, hb, r, s, hr, hs, h => by
    rw [cs_all, cs_all] at h
    simp only [List.cons_append, List.cons.injEq, true_and] at h
    obtain ⟨e, e2⟩ := cs_inj a b ha hb r s hr hs h
    exact ⟨by rw [e], e2⟩
  | .imp a b, .imp c d, ha, hb, r, s, hr, hs, h => by
    rw [cs_imp, cs_imp] at h
    simp only [List.cons_append, List.append_assoc, List.cons.injEq, true_and] at h
    obtain ⟨e, e2⟩ := cs_inj a c ha.1 hb.1 _ _ (by intro c t e; injection e with e; exact .inl e.symm) (by intro c t e; injection e with e; exact .inl e.symm) h
    subst e
    simp only [List.cons.injEq, true_and] at e2
    obtain ⟨e3, e4⟩ := cs_inj b d ha.2 hb.2 _ _ (by intro c t e; injection e with e; exact .inr e.symm) (by intro c t e; injection e with e; exact .inr e.symm) e2
    subst e3
    simp at e4
    exact ⟨rfl, e4⟩
theorem spell_inj {f g : Fm} (hf : f.okL) (hg : g.okL) (h : f.spell = g.spell) : f = g := by
  refine (cs_inj f g hf hg [] [] (by intro c t e; cases e) (by intro c t e; cases e) ?_).1
  simp [cs, h]
def asc (l : List Fm) : Prop := l.Pairwise ltF
theorem ltF_irrefl (f : Fm) : ¬ ltF f f := by
  unfold ltF
  rw [ltS_irrefl]
  exact Bool.false_ne_true
theorem ltF_trans (f g h : Fm) : ltF f g → ltF g h → ltF f h := fun a b => ltS_trans a b
theorem asc_eq {l m : List Fm} (h : asc l) (k : asc m) (e : ∀ x, x ∈ l ↔ x ∈ m) : l = m := asc_ext ltF_irrefl ltF_trans h k e
theorem mem_ins {g x : Fm} : ∀ {l : List Fm}, x ∈ ins g l ↔ x = g ∨ x ∈ l
  | [] => by simp [ins]
  | h :: r => by
    unfold ins
    split
    · rename_i e
      subst e
      simp
    · split
      · simp
      · rw [List.mem_cons, mem_ins, List.mem_cons]
        constructor
        · rintro (h | h | h)
          · exact .inr (.inl h)
          · exact .inl h
          · exact .inr (.inr h)
        · rintro (h | h | h)
          · exact .inr (.inl h)
          · exact .inl h
          · exact .inr (.inr h)
theorem asc_ins {g : Fm} (hg : g.okL) : ∀ {l : List Fm}, asc l → (∀ x ∈ l, okL x) → asc (ins g l)
  | [], _, _ => by simp [ins, asc]
  | h :: r, hl, ho => by
    unfold asc at hl
    rw [List.pairwise_cons] at hl
    unfold ins
    split
    · exact List.pairwise_cons.mpr hl
    · rename_i ne
      split
      · rename_i lt
        refine List.pairwise_cons.mpr ⟨fun y hy => ?_, List.pairwise_cons.mpr hl⟩
        rcases List.mem_cons.mp hy with e | e
        · subst e
          exact lt
        · exact ltF_trans _ _ _ lt (hl.1 y e)
      · rename_i nlt
        refine List.pairwise_cons.mpr ⟨fun y hy => ?_, asc_ins hg hl.2 fun x hx => ho x (List.mem_cons_of_mem _ hx)⟩
        rcases mem_ins.mp hy with e | e
        · subst e
          refine ltS_of (by simpa using nlt) fun e => ne ?_
          exact (spell_inj (ho _ List.mem_cons_self) hg e).symm
        · exact hl.1 y e
theorem mem_fold {x : Fm} : ∀ {l : List Fm}, x ∈ l.foldr ins [] ↔ x ∈ l
  | [] => by simp
  | g :: l => by rw [List.foldr_cons, mem_ins, mem_fold, List.mem_cons]
theorem asc_fold : ∀ {l : List Fm}, (∀ x ∈ l, okL x) → asc (l.foldr ins [])
  | [], _ => List.Pairwise.nil
  | g :: l, h => asc_ins (h g List.mem_cons_self) (asc_fold fun x hx => h x (List.mem_cons_of_mem _ hx)) fun x hx => h x (List.mem_cons_of_mem _ (mem_fold.mp hx))
theorem mem_merge {x : Fm} {l m : List Fm} : x ∈ merge l m ↔ x ∈ l ∨ x ∈ m := by
  unfold merge
  split
  · rename_i e
    subst e
    simp
  · split
    · rename_i e
      subst e
      simp
    · rw [mem_fold, List.mem_append]
theorem asc_merge {l m : List Fm} (hl : asc l) (hm : asc m) (ol : ∀ x ∈ l, okL x) (om : ∀ x ∈ m, okL x) : asc (merge l m) := by
  unfold merge
  split
  · exact hm
  · split
    · exact hl
    · refine asc_fold fun x hx => ?_
      rcases List.mem_append.mp hx with h | h
      · exact ol x h
      · exact om x h
theorem alls_sub : ∀ {f : Fm}, f.okL → (∀ x ∈ f.alls, okL x) ∧ asc f.alls
  | .at _, _ => ⟨fun _ h => by simp [alls] at h, List.Pairwise.nil⟩
  | .no, _ => ⟨fun _ h => by simp [alls] at h, List.Pairwise.nil⟩
  | .imp a b, h => by
    obtain ⟨h1, h2⟩ := alls_sub h.1
    obtain ⟨h3, h4⟩ := alls_sub h.2
    exact ⟨fun x hx => (mem_merge.mp hx).elim (h1 x) (h3 x), asc_merge h2 h4 h1 h3⟩
  | .all a, h => by
    obtain ⟨h1, h2⟩ := alls_sub (f := a) h
    have h3 : ∀ x ∈ [Fm.all a], okL x := fun x hx => by
      rw [List.mem_singleton] at hx
      subst hx
      exact h
    exact ⟨fun x hx => (mem_merge.mp hx).elim (h1 x) (h3 x), asc_merge h2 (by simp [asc]) h1 h3⟩
end Fm
/-- the kit of formulas -/
@[reducible] def FK : FmKit where
  kind := Fm.kind
  many f := (f.many : Nat)
  deep f := (f.deep : Nat)
  atoms := Fm.atoms
  bare := Fm.outer
  spell := Fm.spell
  alls := Fm.alls
end N
set_option Elab.async false
set_option linter.all false
set_option maxRecDepth 100000
namespace N
open PySem PySem.Spec PyProof.Rows L2
open C8 (InsC)
theorem len_ok {n : Nat} (h : n ≤ 1000) : n ≤ sizeLine := by
  have := sizeLine_eq
  omega
section
variable {F : FmKit} {T : Kx} {C H H' O O' : Hp} {G : Gm} {W W' : Om} {σ : L2.St} {a p : Addr} {d : D} {l : List D}
  {te ta tb : TE} {t u : TT} {R R' : D → Om → Prop} {Z : Bool → Om → Prop} {tr tk : TA} {ts tz : TS}
/-- an owned cell is let go -/
theorem ev_drp (h : Ev F T te G W fun d W' => ∃ W2, W2.Sublist W' ∧ R d W2) : Ev F T te G W R := fun C H O σ w Q q => h C H O σ w Q fun d W' H' O' v ⟨W2, s, r⟩ n k => q d W2 H' O' v r ⟨n.ext, n.dis, n.oc, n.own.sub s⟩ k
theorem ca_drp {r : List V → Hp → VK → Prop} {ds : List D} (h : Ca F T r ds W fun d W' => ∃ W2, W2.Sublist W' ∧ R d W2) : Ca F T r ds W R := fun C H O di oc ow xs hx Q q => h C H O di oc ow xs hx Q fun d W' H' O' v ⟨W2, s, r⟩ n k => q d W2 H' O' v r ⟨n.ext, n.dis, n.oc, n.own.sub s⟩ k
def TyD (F : FmKit) (T : Kx) (W : Om) (d : D) (t : Value) : Prop := ∀ (C H O : Hp), Dis O H → Ow F T H C O W → ∀ x, Den F T H d x → TyX T.K (ov O H) x t
theorem ca_isi {c : V} {t u : Value} {b : Bool} (hc : ClsV c u) (ht : TyD F T W d t) (e : PySem.W.kitOne T.K t u = some b) (r : R (.bl b) W) : Ca F T (rIsi T.K) [d, .vl c] W R := ca_two fun C H O di oc ow x y hx hy Q q => by
  have hy : y = c := hy
  subst hy
  exact ⟨x, y, t, u, b, rfl, hc, ht C H O di ow x hx, e, q _ W H O _ r (.refl di oc ow) rfl⟩
theorem tyd_str {s : Str} : TyD F T W (.str s) (.type "str") := fun C H O di ow x k => by
  have k : x = .str s := k
  subst k
  exact .base (.str s)
theorem tyd_int {i : Int} : TyD F T W (.int i) (.type "int") := fun C H O di ow x k => by
  have k : x = .int i := k
  subst k
  exact .base (.int i)
theorem tyd_ins {c : Nat} {ns : List Str} (i : Inst F W d c ns l) (z : InsC T.K (T.cl c)) : TyD F T W d (.ref (T.cl c)) := fun C H O di ow x k => by
  obtain ⟨a, dx, fs, e, h1, h2, h3⟩ := i.at di ow k
  subst e
  exact .base (.ins h1 z.cl z.ha z.hn z.htk z.hm)
theorem isi_str {R : D → Om → Prop} {s : Str} (r : R (.bl true) W) : Ca F T (rIsi T.K) [.str s, .vl (.ty "str")] W R := ca_isi (.ty "str") tyd_str (by unfold PySem.W.kitOne; rfl) r
theorem isi_ins {c : Nat} {ns : List Str} (i : Inst F W d c ns l) (z : InsC T.K (T.cl c)) (r : R (.bl true) W) : Ca F T (rIsi T.K) [d, .adr (T.cl c)] W R := ca_isi (.own _) (tyd_ins i z) z.me r
theorem bo_addS {x y : Str} (hl : x.length + y.length ≤ sizeLine) (r : R (.str (x ++ y)) W) : Bo F T (fun x y H Q => ∃ i j, x = .str i ∧ y = .str j ∧ i.length + j.length ≤ sizeLine ∧ Q (.str (i ++ j)) H) (.str x) (.str y) W R :=
  op_sc fun H Q k => ⟨x, y, rfl, rfl, hl, k _ r⟩
theorem ev_fmt (h : Ev F T te G W fun d W1 => ∃ y : Str, d = .str y ∧ y.length ≤ sizeLine ∧ R (.str y) W1) : Ev F T (tFmt te) G W R := fun C H O σ w Q q =>
  h C H O σ w _ fun d W1 H1 O1 x ⟨y, e, hl, r⟩ n k => by
    subst e
    have k : x = .str y := k
    exact .inl ⟨y, k, hl, q _ W1 H1 O1 _ r n rfl⟩
/-- the parts of an f-string -/
def EvJ (F : FmKit) (T : Kx) : List TE → Str → Gm → Om → (Str → Om → Prop) → Prop
  | [], acc, _, W, Y => Y acc W
  | te :: ts, acc, G, W, Y => Ev F T te G W fun d W1 => ∃ y : Str, d = .str y ∧ (acc ++ y).length ≤ sizeLine ∧ EvJ F T ts (acc ++ y) G W1 Y
theorem EvJ.run {Y : Str → Om → Prop} : ∀ {ts : List TE} {acc : Str} {W : Om} {H O : Hp}, EvJ F T ts acc G W Y → Wd F T C G W H O σ → ∀ Q : Str → Hp → Prop, (∀ z W' H' O', Y z W' → Nx F T C W' H H' O' → Q z (ov O' H')) → tJs ts acc σ (ov O H) Q
  | [], acc, W, H, O, h, w, Q, q => q acc W H O h w.nx
  | te :: ts, acc, W, H, O, h, w, Q, q => h C H O σ w _ fun d W1 H1 O1 x ⟨y, e, hl, r⟩ n k => by
    subst e
    have k : x = .str y := k
    exact ⟨y, k, hl, EvJ.run r (w.step n) Q fun z W' H' O' yy n2 => q z W' H' O' yy (n.trans n2)⟩
theorem ev_joined {es : List TE} (h : EvJ F T es Str.empty G W fun z W' => R (.str z) W') : Ev F T (fun σ H Q => tJs es Str.empty σ H fun out H1 => Q (.str out) H1) G W R := fun C H O σ w Q q =>
  h.run w _ fun z W' H' O' y n => q _ W' H' O' _ y n rfl
theorem bo_catA {xs ys : List D} (hl : xs.length + ys.length ≤ sizeLine) (r : R (.tup (xs ++ ys)) W) : Bo F T (rCatA T.K) (.tup xs) (.tup ys) W R := fun C H O di oc ow x y hx hy Q q => by
  obtain ⟨a, us, ex, hs, kl⟩ := hx
  obtain ⟨b, vs, ey, ht, km⟩ := hy
  have n := Nx.refl di oc ow
  refine ⟨a, b, us, vs, ex, ey, Same.sqT di.same hs, Same.sqT di.same ht, by rw [kl.len, km.len]; exact hl, fun e => ?_, fun _ e => ?_, fun _ _ p hp => ?_⟩
  · subst e
    have e : xs = [] := by
      have := kl.len
      simpa using this.symm
    subst e
    exact q _ W H O _ r n ⟨b, vs, rfl, ht, km⟩
  · subst e
    have e : ys = [] := by
      have := km.len
      simpa using this.symm
    subst e
    exact q _ W H O _ r n ⟨a, us, rfl, hs, by rw [List.append_nil]; exact kl⟩
  · obtain ⟨n2, e2, s2⟩ := n.newF (o := .tup (us ++ vs)) hp
    rw [e2]
    exact q _ W _ O _ r n2 ⟨p, _, rfl, SqT.of upd_same, (kl.mono s2).app (km.mono s2)⟩
theorem bo_knin {dd : Addr} {z : Str} {r0 : Option Value} (e : PySem.W.nsIn T.K dd z = some r0) (r : R (.bl (!r0.isSome)) W) :
    Bo F T (fun x y H Q => ∃ (z : Str) (r : Option Value), x = .str z ∧ y = .ref dd ∧ PySem.W.nsIn T.K dd z = some r ∧ Q (.bl (!r.isSome)) H) (.str z) (.adr dd) W R := op_sc fun H Q k => ⟨z, r0, rfl, rfl, e, k _ r⟩
theorem bo_kix {w : World} {dd : Addr} {z : Str} {v : V} (e : KDct T.K w dd z v) (r : R (.vl v) W) : Bo F T (rIxD T.K w) (.adr dd) (.str z) W R := op_sc fun H Q k => ⟨dd, z, v, rfl, rfl, e, k _ r⟩
theorem ca_sortedD {ps : List (Key × D)} {ks : List Str} (hv : Vd W d ps) (hk : ps.map (·.1) = ks.map Sum.inr) (hl : ks.length < 64) (r : ∀ ys : List Str, ys.Perm ks → sortedS ys = true → R (.lst (ys.map D.str)) W) :
    Ca F T (fun xs H Q => ∃ (a : Addr) (kvs : List (Key × V)) (ks : List Str), xs = [.ref a] ∧ Rd H a (.dK kvs) ∧ kvs.map (·.1) = ks.map Sum.inr ∧ ks.length < 64 ∧
      ∀ ys p, ys.Perm ks → sortedS ys = true → H p = none → Q (.ref p) (upd H p (.lst (ys.map V.str)))) [d] W R := ca_one fun C H O di oc ow x k Q q => by
  obtain ⟨a, kvs, e, h1, h2, h3, h4⟩ := hv.at di ow k
  refine ⟨a, kvs, ks, by rw [e], .inl h1, h2.trans hk, hl, fun ys p hp hs hn => ?_⟩
  obtain ⟨n2, e2, s2⟩ := (Nx.refl (F := F) (T := T) di oc ow).newF (o := .lst (ys.map V.str)) hn
  rw [e2]
  refine q _ W _ O _ (r ys hp hs) n2 ⟨p, _, rfl, upd_same, ?_⟩
  have := DenL.vls (F := F) (T := T) (H := upd H p (.lst (ys.map V.str))) (ys.map V.str)
  rw [List.map_map] at this
  exact this
end
end N
set_option Elab.async false
set_option linter.all false
set_option maxRecDepth 100000
set_option maxHeartbeats 4000000
namespace N
open PySem PySem.Spec PyProof.Rows L2
def txOf (e : Int × Value) : Str := match e.2 with
  | .str k _ => k
  | _ => Str.empty
def GoodT (w : World) (e : Int × Value) : Prop := ∃ k tk, e.2 = Value.str k tk ∧ e.1 = hashStr w k
/-- the set of texts at a -/
def SetT (w : World) (h : Heap) (a : Addr) (M : Str → Bool) (n : Nat) : Prop :=
  ∃ o es ep t, h.get? a = some o ∧ o.ExactSet ∧ o.data = .set es ep t ∧ (∀ e ∈ es.toList, GoodT w e) ∧ (es.toList.map txOf).Nodup ∧ (∀ k, M k = true ↔ k ∈ es.toList.map txOf) ∧
    es.size < scanBound ∧ t.fits es.size = true ∧ es.size = n ∧ Ris t.place.toList ∧ (w.params.followText "set-order" = true ∨ t.led = true)
section
variable {P : Program} {w : World} {h h' : Heap} {a : Addr} {M : Str → Bool} {n : Nat}
theorem SetT.at (R : SetT w h a M n) (k : ∀ o, h.get? a = some o → h'.get? a = some o) : SetT w h' a M n := let ⟨o, es, ep, t, ho, r⟩ := R; ⟨o, es, ep, t, k o ho, r⟩
theorem SetT.lt (R : SetT w h a M n) : a < h.objs.size := let ⟨_, _, _, _, ho, _⟩ := R; Heap.lt_size ho
theorem SetT.congr {M' : Str → Bool} (R : SetT w h a M n) (e : ∀ k, M' k = M k) : SetT w h a M' n := (funext e : M' = M) ▸ R
theorem goodT_elems {l : List (Int × Value)} (g : ∀ e ∈ l, GoodT w e) : ElemsOf (strKind P w) l := fun e he => by
  obtain ⟨k, tk, h1, h2⟩ := g e he
  refine ⟨⟨k, ?_, h2⟩, by rw [h1]; rfl⟩
  rw [h1]
  exact strKind_is P w k tk
theorem goodT_is {e : Int × Value} (g : GoodT w e) (k : Str) : (strKind P w).is k e.2 = true ↔ txOf e = k := by
  obtain ⟨k0, tk, h1, _⟩ := g
  unfold txOf
  rw [h1]
  constructor
  · intro h
    obtain ⟨u, hu⟩ := Value.isStrOf_shape (show Value.isStrOf k (Value.str k0 tk) = true from h)
    injection hu
  · intro h
    have h : k0 = k := h
    subst h
    exact strKind_is P w _ _
theorem goodT_mem {l : List (Int × Value)} (g : ∀ e ∈ l, GoodT w e) (k : Str) : k ∈ l.map txOf ↔ ∃ e ∈ l, (strKind P w).is k e.2 = true := by
  rw [List.mem_map]
  exact ⟨fun ⟨e, he, q⟩ => ⟨e, he, (goodT_is (g e he) k).2 q⟩, fun ⟨e, he, q⟩ => ⟨e, he, (goodT_is (g e he) k).1 q⟩⟩
end
section
variable {P : Program} {w : World} {A : Around} {E : Value → Shared → Prop} {s : Shared} {a : Addr} {M : Str → Bool} {n : Nat}
theorem setT_tail {g : Bool → Sem Unit} (hg : ∀ (b : Bool) (z : Shared) (Z : Unit → Shared → Prop), Z () z → wpAny (model P w) A (g b) Z E z)
    {o : Obj} {es : Array (Int × Value)} {ep : Nat} {t : SetTable} (ho : s.heap.get? a = some o) (hex : o.ExactSet) (hd : o.data = .set es ep t)
    {es1 : Array (Int × Value)} {t2 : SetTable} {M' : Str → Bool} (g1 : ∀ e ∈ es1.toList, GoodT w e) (nd1 : (es1.toList.map txOf).Nodup) (m1 : ∀ k, M' k = true ↔ k ∈ es1.toList.map txOf)
    (hb1 : es1.size < scanBound) (hf2 : t2.fits es1.size = true) (hr : Ris t2.place.toList) (hl : w.params.followText "set-order" = true ∨ t2.led = true) {wd : Bool} {R : Option Bool → Shared → Prop}
    (hR : ∀ h', Heap.SameBut a s.heap h' → SetT w h' a M' es1.size → R (some true) { s with heap := h' }) :
    wpAny (model P w) A (do
        storeSet a es1 t2
        if (!wd && t2.tooFull) = true then do
            g (relayAll t2 es1 (SetTable.grown es1.size)).2.2
            storeSet a (relayAll t2 es1 (SetTable.grown es1.size)).1 (relayAll t2 es1 (SetTable.grown es1.size)).2.1
            pure (some true)
          else pure (some true)) R E s := by
  refine wpAny_bind (wpAny_storeSet_of ho hd ?_ (fits_of_scanBound hb1))
  have o1 := store_at (es' := es1) (t' := t2) ho hd
  have b1 := Heap.SameBut.update s.heap a (Obj.putSet es1 t2)
  split
  · have pm := relayAll_perm t2 es1 (SetTable.grown es1.size)
    have f3 := relayAll_fits t2 es1 (SetTable.grown es1.size)
    have r3 := relayAll_ris t2 es1 (SetTable.grown es1.size)
    have l3 := relayAll_led t2 es1 (SetTable.grown es1.size)
    generalize relayAll t2 es1 (SetTable.grown es1.size) = Y at pm f3 r3 l3 ⊢
    obtain ⟨es2, t3, gave⟩ := Y
    dsimp only at pm f3 r3 l3 ⊢
    have hz : es2.size = es1.size := by rw [← Array.length_toList, pm.length_eq, Array.length_toList]
    have b2 : es2.size < scanBound := hz ▸ hb1
    refine wpAny_bind (hg _ _ _ (wpAny_bind (wpAny_storeSet_of o1 rfl (wpAny_pure (hR _ (b1.trans (Heap.SameBut.update _ a _)) ?_)) (fits_of_scanBound b2))))
    exact ⟨_, es2, _, t3, store_at (es' := es2) (t' := t3) o1 rfl, hex, rfl, fun e he => g1 e (pm.mem_iff.mp he), (pm.map txOf).nodup_iff.mpr nd1, fun k => (m1 k).trans (pm.map txOf).mem_iff.symm, b2, f3, hz, r3, hl.imp id fun z => l3.trans z⟩
  · exact wpAny_pure (hR _ b1 ⟨_, es1, _, t2, o1, hex, rfl, g1, nd1, m1, hb1, hf2, rfl, hr, hl⟩)
theorem setT_add_hashed {k : Str} {tk : Tok} {Q : Bool → Shared → Prop} (R : SetT w s.heap a M n) (room : n + 1 < scanBound)
    (hQ : ∀ h', Heap.SameBut a s.heap h' → SetT w h' a (fun j => M j || decide (j = k)) (if M k = true then n else n + 1) → Q (!M k) { s with heap := h' }) :
    wpAny (model P w) A (setAddHashed a (.str k tk) ((strKind P w).hash k)) Q E s := by
  obtain ⟨o, es, ep, t, ho, hex, hd, g, nd, hm, hb, hf, hn, hr, hl⟩ := R
  have hk : (strKind P w).is k (.str k tk) = true := strKind_is P w k tk
  have sc : (Value.str k tk).scannable = true := rfl
  have hel : ElemsOf (strKind P w) es.toList := goodT_elems g
  unfold setAddHashed setAddHashedIn
  refine wpAny_holding (wpAny_bind (wpAny_setState_of ho hd hf ?_))
  dsimp only
  rw [byScan_of sc hb hel]
  simp only [↓reduceIte]
  unfold setAddByScan
  refine wpAny_bind (wpAny_bind (wpAny_rule (wpAny_bind (wpAny_setScan_of hk ho hd hf hel ?_))))
  cases hfi : List.findIdx? (fun e => (strKind P w).is k e.2) es.toList with
  | some j =>
    dsimp only
    obtain ⟨hj, pj, _⟩ := List.findIdx?_eq_some_iff_getElem.mp hfi
    have hM : M k = true := (hm k).2 ((goodT_mem (P := P) g k).2 ⟨es.toList[j], List.getElem_mem hj, pj⟩)
    refine wpAny_pure (wpAny_pure ?_)
    have q := hQ s.heap (Heap.SameBut.refl a s.heap) ⟨o, es, ep, t, ho, hex, hd, g, nd, fun i => by
      rw [Bool.or_eq_true, decide_eq_true_eq, ← hm i]
      exact ⟨fun z => z.elim id (fun e => e ▸ hM), .inl⟩, hb, hf, by rw [if_pos hM]; exact hn, hr, hl⟩
    rw [hM] at q
    exact q
  | none =>
    dsimp only
    have nk : k ∉ es.toList.map txOf := fun z => by
      obtain ⟨e, he, q⟩ := (goodT_mem (P := P) g k).1 z
      have c := List.findIdx?_eq_none_iff.mp hfi e he
      rw [q] at c
      cases c
    have hM : M k = false := by
      cases q : M k with
      | false => rfl
      | true => exact absurd ((hm k).1 q) nk
    have gw : ∀ (b : Bool) {z : Shared} {Z : Unit → Shared → Prop}, Z () z → wpAny (model P w) A (match b with | true => rule "set.scan.the-table-gave-way" | false => pure ()) Z E z :=
      fun b z Z q => by cases b <;> first | exact wpAny_pure q | exact wpAny_rule q
    have pm := layNew_perm t es ((strKind P w).hash k) (.str k tk)
    have f1 := layNew_fits t es ((strKind P w).hash k) (.str k tk)
    have r1 := layNew_ris t es ((strKind P w).hash k) (.str k tk) hr
    have l1 := layNew_led t es ((strKind P w).hash k) (.str k tk)
    generalize layNew t es ((strKind P w).hash k) (.str k tk) = Y at pm f1 r1 l1 ⊢
    obtain ⟨es1, t1, wd, gave⟩ := Y
    dsimp only at pm f1 r1 l1 ⊢
    rw [Array.toList_push] at pm
    have pc : es1.toList.Perm (((strKind P w).hash k, Value.str k tk) :: es.toList) := pm.trans (List.perm_append_singleton _ _)
    have pk : (es1.toList.map txOf).Perm (k :: es.toList.map txOf) := pc.map txOf
    have g1 : ∀ e ∈ es1.toList, GoodT w e := fun e he => by
      rcases List.mem_cons.mp (pc.mem_iff.mp he) with z | z
      · rw [z]; exact ⟨k, tk, rfl, rfl⟩
      · exact g e z
    have nd1 : (es1.toList.map txOf).Nodup := pk.nodup_iff.mpr (List.nodup_cons.mpr ⟨nk, nd⟩)
    have m1 : ∀ i, (M i || decide (i = k)) = true ↔ i ∈ es1.toList.map txOf := fun i => by
      rw [Bool.or_eq_true, decide_eq_true_eq, hm i, pk.mem_iff, List.mem_cons]
      exact Or.comm
    have hz : es1.size = n + 1 := by rw [← Array.length_toList, pc.length_eq, List.length_cons, Array.length_toList, hn]
    have hb1 : es1.size < scanBound := hz ▸ room
    have hled : w.params.followText "set-order" = true ∨ t1.led = true := hl.imp id fun z => l1.trans z
    have fin : ∀ h', Heap.SameBut a s.heap h' → SetT w h' a (fun j => M j || decide (j = k)) es1.size → Q true { s with heap := h' } := fun h' sb r => by
      have q := hQ h' sb
      rw [hM] at q
      rw [hz] at r
      exact q r
    refine wpAny_bind (gw _ ?_)
    split
    · refine wpAny_bind ?_
      rw [hashByValue_scannable 8 sc]
      refine wpAny_pure (setT_tail ?_ ho hex hd g1 nd1 m1 hb1 ?_ ?_ ?_ ?_)
      · intro b z Z q; cases b <;> first | exact wpAny_pure q | exact wpAny_rule q
      · first | (split <;> first | exact f1 | exact SetTable.fits_plain_off f1) | exact f1
      · first | (split <;> exact r1) | exact r1
      · first | (split <;> exact hled) | exact hled
      · intro h' sb r; dsimp only; exact wpAny_pure (fin h' sb r)
    · refine wpAny_bind (wpAny_pure ?_)
      simp only [↓reduceIte]
      refine setT_tail ?_ ho hex hd g1 nd1 m1 hb1 f1 r1 hled ?_
      · intro b z Z q; cases b <;> first | exact wpAny_pure q | exact wpAny_rule q
      · intro h' sb r; dsimp only; exact wpAny_pure (fin h' sb r)
theorem setT_new_at {h : Heap} {ks : List Str} (ho : h.get? a = some { cls := .type "set", dict := none, data := .set #[] 0 (.fresh 0 0 (!w.params.followText "set-order")) }) : SetT w h a (fun j => decide (j ∈ ks.take 0)) 0 :=
  ⟨_, #[], 0, _, ho, ⟨rfl, rfl, rfl⟩, rfl, (fun e he => by simp at he), (by simp), (fun k => by simp), (by decide), (by rfl), rfl, List.Pairwise.nil, by
    show _ ∨ (!w.params.followText "set-order") = true
    cases w.params.followText "set-order"
    · exact .inr rfl
    · exact .inl rfl⟩
theorem setT_loop {I : Addr} {fp wr : List Addr} {G : Array GenState → Array GenState → Prop} {n : Nat} {Pv : Nat → Value → Prop} {St : Nat → Shared → Prop} {R : Result → Shared → Prop}
    (W : WalksS P w A.in1 I fp wr G n Pv St) (Z : Addr) (hZ : Z ∉ fp) (ks : List Str) (hn : n = ks.length) (hb : ks.length + 1 < scanBound) (hval : ∀ i v, Pv i v → ∃ k t, ks[i]? = some k ∧ v = .str k t) :
    ∀ (j i : Nat) (s : Shared), n - i = j → i ≤ n → St i s → (∃ c, c ≤ i ∧ SetT w s.heap Z (fun j => decide (j ∈ ks.take i)) c) →
      (∀ s' c, Moved (Z :: wr) G s s' → c ≤ n → SetT w s'.heap Z (fun j => decide (j ∈ ks)) c → R (.ok (.ret .none)) s') →
      codeAny (model P w) A (.builtin "set.update.loop" ⟨[.ref Z, .ref I], []⟩) R s := by
  have hw : Z ∉ wr := fun h => hZ (W.sub _ h)
  have sub : ∀ b ∈ wr, b ∈ Z :: wr := fun b hb => List.mem_cons_of_mem _ hb
  intro j
  induction j with
  | zero =>
    intro i s hj hi hst ⟨c, hc, hS⟩ hR
    have e : i = n := by omega
    subst e
    refine codeAny_builtin F.entry_set_update_loop ?_
    rw [Around.under_plainId F.plain_set_update_loop _]
    show wpAny _ A.in1 (pyNext (.ref I) >>= _) _ _ s
    refine wpAny_bind (W.done s _ _ hst fun s' hm => (show wpAny _ A.in1 (ret Value.none) _ _ s' from ?_))
    rw [List.take_of_length_le (show ks.length ≤ i by omega)] at hS
    exact wpAny_pure (hR s' c (hm.mono sub) hc (hS.at fun o e => hm.heap Z o hw e))
  | succ j ih =>
    intro i s hj hi hst ⟨c, hc, hS⟩ hR
    have lt : i < n := by omega
    refine codeAny_builtin F.entry_set_update_loop ?_
    rw [Around.under_plainId F.plain_set_update_loop _]
    show wpAny _ A.in1 (pyNext (.ref I) >>= _) _ _ s
    refine wpAny_bind (W.item i s _ _ lt hst fun v s' hP hst' hm => ?_)
    obtain ⟨z, t, hz, rfl⟩ := hval i v hP
    have hS' : SetT w s'.heap Z (fun j => decide (j ∈ ks.take i)) c := hS.at fun o e => hm.heap Z o hw e
    show wpAny _ A.in1 (holding [Value.str z t] (setAdd Z (.str z t)) >>= _) _ _ s'
    unfold setAdd
    refine wpAny_bind (wpAny_holding (wpAny_holding (wpAny_bind ((strKind P w).pyHash (k := z) (strKind_is _ _ _ _) ?_))))
    refine setT_add_hashed (s := { s' with toks := s'.toks + 1 }) hS' (by omega) fun h' sb hS2 => ?_
    have hS3 : SetT w h' Z (fun j => decide (j ∈ ks.take (i + 1))) (if decide (z ∈ ks.take i) = true then c else c + 1) := hS2.congr fun j => by
      rw [List.take_add_one, hz]
      simp [List.mem_append]
    have hc3 : (if decide (z ∈ ks.take i) = true then c else c + 1) ≤ i + 1 := by split <;> omega
    refine wpAny_pure ⟨plainId_quiet F.plain_set_update_loop _, ih (i + 1) _ (by omega) lt (W.frame _ s' _ _ hst' (Nat.le_succ _) fun b hb o e => ?_) ⟨_, hc3, hS3⟩ fun s'' c2 m2 hc2 hS4 => ?_⟩
    · rw [sb.2 b (fun h : b = Z => hZ (by rw [← h]; exact hb))]; exact e
    · refine hR s'' c2 (Moved.trans W.gtrans ((hm.mono sub).then_heap (Nat.le_succ _) fun b o hb e => ?_) m2) hc2 hS4
      rw [sb.2 b (fun h : b = Z => hb (by rw [h]; exact List.mem_cons_self))]; exact e
end
end N
set_option Elab.async false
set_option linter.all false
set_option maxRecDepth 100000
set_option maxHeartbeats 4000000
namespace N
open PySem PySem.Spec PyProof.Rows L2
section
variable {P : Program} {w : World} {A : Around} {E : Value → Shared → Prop} {s : Shared}
abbrev newSetObj (w : World) : Obj := { cls := .type "set", dict := none, data := .set #[] 0 (.fresh 0 0 (!w.params.followText "set-order")) }
theorem set_made (x : Value) {Q : Value → Shared → Prop} (hh : A.handled = none)
    (up : ∀ (A' : Around) (Z : Unit → Shared → Prop), A'.handled = none → (∀ (h' : Heap) (tk : Nat), (∀ b o, s.heap.get? b = some o → h'.get? b = some o) → Q (.ref s.heap.objs.size) { s with heap := h', toks := tk } → Z () { s with heap := h', toks := tk }) →
      wpAny (model P w) A' (Builtin.Frozenset.updateFrom "set.__init__" s.heap.objs.size x) Z E { s with heap := s.heap.push (newSetObj w) }) :
    wpAny (model P w) A (call (.type "set") [x]) Q E s := by
  obtain ⟨c, tl, hmro⟩ := F.called_set.mro
  have hmade := F.called_set.made
  have hsub := F.called_set.sub
  refine wpAny_call (codeAny_of_tree ?_)
  show wpAny _ _ (callAny (.type "set") _) _ _ _
  refine wpAny_pure ⟨Code.quiet_builtin _ (by decide +kernel), codeAny_builtin F.entry_type_call ?_⟩
  rw [Around.under_plain (weight_type_call_type "set" [x] []) rfl]
  have h1 := F.called_set.notType
  have h2 := F.called_set.canCreate
  have hct := F.typeCall_set_1 x
  repeat (any_goals (first | assumption | wp_step))
  refine codeAny_mono (code_set_led1 x (E := E) (Q₁ := fun obj z => obj = .ref s.heap.objs.size ∧ z = { s with heap := s.heap.push (newSetObj w) }) ⟨rfl, rfl⟩) fun r z hr => ?_
  cases r with
  | error e => exact hr
  | ok fl =>
    cases fl with
    | ret obj =>
      obtain ⟨rfl, rfl⟩ := hr
      have hS : (s.heap.push (newSetObj w)).get? s.heap.objs.size = some (newSetObj w) := Heap.get?_push_size _ rfl
      have hT : Shared.TypeIs { s with heap := s.heap.push (newSetObj w) } (.ref s.heap.objs.size) "set" := ⟨_, hS, rfl⟩
      have hli := F.called_set.init.lookup
      have hbi := F.called_set.init.bind (.ref s.heap.objs.size)
      repeat (any_goals (first | assumption | wp_step))
      refine codeAny_mono (codeAny_call_builtin (R := wants (fun r z => r = .none ∧ ∃ h' tk, z = { s with heap := h', toks := tk } ∧ (∀ b o, s.heap.get? b = some o → h'.get? b = some o) ∧ Q (.ref s.heap.objs.size) z) E) F.called_set.init.plain F.entry_set_init (check_set_init_1 hT ?_)) fun r2 z2 hr2 => ?_
      · unfold Builtin.«set.__init__» noKeywords
        generalize hU : Builtin.Frozenset.updateFrom = U
        wp_walk
        subst hU
        refine up _ _ (by first | exact hh | simp [hh]) fun h' tk k q => ?_
        show wpAny _ _ (ret Value.none) _ _ _
        exact wpAny_pure ⟨rfl, h', tk, rfl, k, q⟩
      · cases r2 with
        | error e => exact hr2
        | ok fl2 =>
          cases fl2 with
          | ret r =>
            obtain ⟨rfl, h', tk, rfl, hk', hq⟩ := hr2
            repeat (any_goals (first | assumption | wp_step))
          | _ => exact hr2.elim
    | _ => exact hr.elim
end
end N
set_option Elab.async false
set_option linter.all false
set_option maxRecDepth 100000
set_option maxHeartbeats 4000000
namespace N
open PySem PySem.Spec PyProof.Rows L2
section
variable {P : Program} {w : World} {A : Around} {E : Value → Shared → Prop} {s : Shared}
theorem strsAre_get : ∀ {us : List Value} {xs : List Str}, StrsAre us xs → ∀ (i : Nat) (v : Value), us[i]? = some v → ∃ k t, xs[i]? = some k ∧ v = .str k t
  | _, _, .nil, i, v, h => by simp at h
  | _, _, .cons x t r, 0, v, h => ⟨x, t, rfl, (Option.some.inj h).symm⟩
  | _, _, .cons x t r, i + 1, v, h => strsAre_get r i v h
theorem set_of_strs {l : Addr} {items : Array Value} (ks : List Str) {Q : Value → Shared → Prop} (hh : A.handled = none) (hl : s.heap.IsList l items) (hit : StrsAre items.toList ks) (hb : ks.length + 1 < scanBound)
    (h : ∀ (h' : Heap) (tk c : Nat), SetT w h' s.heap.objs.size (fun j => decide (j ∈ ks)) c → c ≤ ks.length → (∀ b o, s.heap.get? b = some o → h'.get? b = some o) → Q (.ref s.heap.objs.size) { s with heap := h', toks := tk }) :
    wpAny (model P w) A (call (.type "set") [.ref l]) Q E s := by
  have hz : items.size = ks.length := by rw [← Array.length_toList, StrsAre.length hit]
  refine set_made (.ref l) hh fun A' Z hA fin => ?_
  obtain ⟨ol, hol, hcl, nl, hdl⟩ := hl
  obtain ⟨ocls, odict, odata, oslots⟩ := ol
  simp only at hcl hdl
  subst hcl; subst hdl
  have hol2 : (s.heap.push (newSetObj w)).get? l = some { cls := .type "list", dict := odict, data := .seq items nl, slots := oslots } := Heap.get?_push_of_some _ hol
  have hT : Shared.TypeIs { s with heap := s.heap.push (newSetObj w) } (.ref l) "list" := ⟨_, hol2, rfl⟩
  have hl1 : (s.heap.push (newSetObj w)).IsList l items := ⟨_, hol2, rfl, nl, rfl⟩
  have hS : (s.heap.push (newSetObj w)).get? s.heap.objs.size = some (newSetObj w) := Heap.get?_push_size _ rfl
  have q1 := F.sub_list_set
  have q2 := F.sub_list_frozenset
  have q3 : (Value.type "list" == Value.type "dict") = false := by decide
  unfold Builtin.Frozenset.updateFrom
  generalize hPI : pyIter = PI
  wp_walk
  subst hPI
  refine wpAny_pyIter_list hl1 ?_
  refine wpAny_bind (wpAny_runValue ?_)
  have hlS : l < s.heap.objs.size := Heap.lt_size hol
  have hA3 : A'.in1.handled = none := by simp [hA]
  have neI : l ≠ (s.heap.push (newSetObj w)).objs.size := by
    rw [Heap.size_push]; exact Nat.ne_of_lt (Nat.lt_succ_of_lt hlS)
  have nf : s.heap.objs.size ∉ [(s.heap.push (newSetObj w)).objs.size, l] := by
    rw [Heap.size_push]; simp only [List.mem_cons, List.mem_singleton, List.not_mem_nil, or_false, not_or]
    exact ⟨Nat.ne_of_lt (Nat.lt_succ_self _), Nat.ne_of_gt hlS⟩
  have hval : ∀ (i : Nat) (v : Value), items[i]? = some v → ∃ k t, ks[i]? = some k ∧ v = .str k t := fun i v hv => strsAre_get hit i v (by rw [Array.getElem?_toList]; exact hv)
  refine setT_loop ((Walks.list hA3 _ l neI items).toS) s.heap.objs.size nf ks hz hb hval (items.size - 0) 0 _ (by omega) (Nat.zero_le _)
    ⟨⟨_, Heap.get?_push_size _ rfl, rfl, rfl⟩, (hl1.push _)⟩ ⟨0, Nat.le_refl 0, setT_new_at (Heap.get?_push_of_some _ hS)⟩ fun s' c hm hc hM => ?_
  obtain ⟨h', g2, d', tk', os'⟩ := s'
  have eg : g2 = s.gens := hm.gens
  have ed : d' = s.drawn := hm.drawn
  have eo : os' = s.os := hm.os
  subst eg; subst ed; subst eo
  show wpAny _ _ _ _ _ _
  have k : ∀ b o, s.heap.get? b = some o → h'.get? b = some o := fun b o e => by
    have hb0 : b < s.heap.objs.size := Heap.lt_size e
    refine hm.heap b o ?_ (Heap.get?_push_of_some _ (Heap.get?_push_of_some _ e))
    rw [Heap.size_push]
    simp only [List.mem_cons, List.mem_singleton, List.not_mem_nil, or_false, not_or]
    exact ⟨Nat.ne_of_lt hb0, Nat.ne_of_lt (Nat.lt_succ_of_lt hb0)⟩
  exact wpAny_pure (fin h' tk' k (h h' tk' c hM (hz ▸ hc) k))
def signs (x : Str) : List Str := x.cps.toList.map fun c => ⟨#[c]⟩
theorem set_of_text {x : Str} {t : Tok} {Q : Value → Shared → Prop} (hh : A.handled = none) (hb : x.length + 1 < scanBound)
    (h : ∀ (h' : Heap) (tk c : Nat), SetT w h' s.heap.objs.size (fun j => decide (j ∈ signs x)) c → c ≤ x.length → (∀ b o, s.heap.get? b = some o → h'.get? b = some o) → Q (.ref s.heap.objs.size) { s with heap := h', toks := tk }) :
    wpAny (model P w) A (call (.type "set") [.str x t]) Q E s := by
  have hz : x.cps.size = (signs x).length := by unfold signs; rw [List.length_map, Array.length_toList]
  refine set_made (.str x t) hh fun A' Z hA fin => ?_
  have hS : (s.heap.push (newSetObj w)).get? s.heap.objs.size = some (newSetObj w) := Heap.get?_push_size _ rfl
  have q1 := F.sub_str_set
  have q2 := F.sub_str_frozenset
  have q3 : (Value.type "str" == Value.type "dict") = false := by decide
  unfold Builtin.Frozenset.updateFrom
  generalize hPI : pyIter = PI
  wp_walk
  subst hPI
  refine wpAny_pyIter_str fun o St W hst => ?_
  refine wpAny_bind (wpAny_runValue ?_)
  have hA3 : A'.in1.handled = none := by simp [hA]
  have nf : s.heap.objs.size ∉ [(s.heap.push (newSetObj w)).objs.size] := by
    rw [Heap.size_push]; simp only [List.mem_singleton]
    exact Nat.ne_of_lt (Nat.lt_succ_self _)
  have hval : ∀ (i : Nat) (v : Value), SignAt x i v → ∃ k t, (signs x)[i]? = some k ∧ v = .str k t := fun i v ⟨c, u, hc, e⟩ => by
    refine ⟨⟨#[c]⟩, u, ?_, e⟩
    unfold signs
    rw [List.getElem?_map, Array.getElem?_toList, hc]
    rfl
  refine setT_loop ((W A'.in1 hA3).toS) s.heap.objs.size nf (signs x) hz (by rw [← hz]; exact hb) hval (x.cps.size - 0) 0 _ (by omega) (Nat.zero_le _)
    hst ⟨0, Nat.le_refl 0, setT_new_at (Heap.get?_push_of_some _ hS)⟩ fun s' c hm hc hM => ?_
  obtain ⟨h', g2, d', tk', os'⟩ := s'
  have eg : g2 = s.gens := hm.gens
  have ed : d' = s.drawn := hm.drawn
  have eo : os' = s.os := hm.os
  subst eg; subst ed; subst eo
  show wpAny _ _ _ _ _ _
  have k : ∀ b o, s.heap.get? b = some o → h'.get? b = some o := fun b o e => by
    have hb0 : b < s.heap.objs.size := Heap.lt_size e
    refine hm.heap b o ?_ (Heap.get?_push_of_some _ (Heap.get?_push_of_some _ e))
    rw [Heap.size_push]
    simp only [List.mem_cons, List.mem_singleton, List.not_mem_nil, or_false, not_or]
    exact ⟨Nat.ne_of_lt hb0, Nat.ne_of_lt (Nat.lt_succ_of_lt hb0)⟩
  exact wpAny_pure (fin h' tk' k (h h' tk' c hM hc k))
theorem sorted_setT {a : Addr} {M : Str → Bool} {n : Nat} {Q : Value → Shared → Prop} (R : SetT w s.heap a M n) (hh : A.handled = none)
    (hQ : ∀ s' p (out : Array Value) (c : Nat) (ks : List Str), (∀ b o, s.heap.get? b = some o → s'.heap.get? b = some o) → s'.gens = s.gens → s'.os = s.os → s.heap.objs.size ≤ p →
      s'.heap.get? p = some (seqObj "list" out c) → StrsAre out.toList ks → sortedS ks = true → ks.Nodup → (∀ k, k ∈ ks ↔ M k = true) → ks.length = n → Q (.ref p) s') :
    wpAny (model P w) A (call (.builtin "sorted") [.ref a]) Q E s := by
  obtain ⟨o, es, ep, t, ho, hex, hd, g, nd, hm, hb, hf, hn, hr, hl⟩ := R
  refine Calls.call_function_entry kind_sorted plain_sorted entry_sorted (args_sorted1 _) ?_
  unfold Builtin.«sorted»
  refine wpAny_bind (m := checkCount "sorted" 1 1 _) (wpAny_pure (wpAny_bind (collect_set (A := A.in1) hh ⟨o, ho, hex.1, hd⟩ hf hb hr hl fun s1 vs k1 hz g1 o1 pm => ?_)))
  have hvl : vs.length = n := by rw [pm.length_eq, List.length_map, Array.length_toList]; exact hn
  have hI : StrsAre vs (vs.map strOf) := strsAre_map vs fun v hv => by
    obtain ⟨e, he, q⟩ := List.mem_map.mp (pm.mem_iff.mp hv)
    obtain ⟨k, tk, h1, _⟩ := g e he
    exact ⟨k, tk, by rw [← q]; exact h1⟩
  have pk : (vs.map strOf).Perm (es.toList.map txOf) := by
    have q := pm.map strOf
    rw [List.map_map] at q
    exact q
  have hs : vs.length ≤ sizeLine := by
    have : scanBound = 4096 := rfl
    rw [sizeLine_eq, hvl, ← hn]
    omega
  refine wpAny_bind (wpAny_newList ?_ hs)
  have hoL : (s1.heap.push (seqObj "list" vs.toArray 0)).get? s1.heap.objs.size = some (seqObj "list" vs.toArray 0) := Heap.get?_push_size _ rfl
  refine wpAny_bind (wpAny_holding (wpAny_call_entry slot_list_sort ⟨_, hoL, rfl⟩ entry_list_sort (list_sort_treeKAny strKind_oneLt hoL hI.keysOf (fun v₁ v₂ rest e => keyKind_strs (by rw [← e]; exact hI)) hs fun st' hp ht => ⟨_, rfl, ?_⟩) (args_list_sort _)))
  obtain ⟨ss, h1, h2, h3⟩ := sorted_out_str hI hp ht
  obtain ⟨c, hc⟩ := sortedHeap_at (vs := vs) (out := (arrOf st').map (·.2)) hoL
  have pn : ss.Perm (es.toList.map txOf) := h2.trans pk
  refine wpAny_pure ⟨_, rfl, hQ _ s1.heap.objs.size _ c ss (fun b u e => ?_) g1 o1 hz hc h1 h3 (pn.nodup_iff.mpr nd) (fun k => by rw [pn.mem_iff, ← hm k]) ?_⟩
  · have q := k1 b u e
    have hlt := Heap.lt_size q
    show (sortedHeap (s1.heap.push (seqObj "list" vs.toArray 0)) s1.heap.objs.size vs _).get? b = some u
    rw [sortedHeap_old (Nat.ne_of_lt hlt) (by rw [size_push']; exact Nat.lt_succ_of_lt hlt)]
    exact Heap.get?_push_of_some _ q
  · rw [pn.length_eq, List.length_map, Array.length_toList]; exact hn
end
end N
set_option Elab.async false
set_option linter.all false
set_option maxRecDepth 100000
set_option maxHeartbeats 4000000
namespace N
open PySem PySem.Spec PyProof.Rows L2
def SetTO (w : World) (a : Addr) (M : Str → Bool) (n : Nat) : HO := .ext fun h => SetT w h a M n
theorem setTO_new {w : World} {P : Program} {H : Hp} {h : Heap} {a : Addr} {M : Str → Bool} {n : Nat} (R : SetT w h a M n) : ObjOk P w H h a (SetTO w a M n) :=
  ⟨R, (let ⟨o, _, _, _, ho, _⟩ := R; ⟨o, ho⟩), fun h1 h2 p k => SetT.at p k⟩
theorem setTO_get {X : Cx} {pins : List (Addr × Obj)} {σ : L2.St} {H : Hp} {s : Shared} {a : Addr} {M : Str → Bool} {n : Nat} (I : Inv X pins σ H s) (ha : H a = some (SetTO X.w a M n)) : SetT X.w s.heap a M n := (I.hok a _ ha).1
def rSetT (K : PySem.W.Frag) (w : World) : List V → Hp → VK → Prop := fun xs H Q => ∃ (v : V) (ks : List Str), xs = [v] ∧ ((∃ l, v = .ref l ∧ SqL K H l (ks.map V.str)) ∨ ∃ x, v = .str x ∧ ks = signs x) ∧ ks.length + 1 < 4096 ∧
  ∀ a c, c ≤ ks.length → H a = none → Q (.ref a) (upd H a (SetTO w a (fun j => decide (j ∈ ks)) c))
theorem cr_setT {X : Cx} (hc : X.calm = true) : CallR X (.type "set") (rSetT X.K X.w) := by
  intro pins s σ H xs us Q I r h
  obtain ⟨v, ks, rfl, hv, hz, q⟩ := h
  have hn : H s.heap.objs.size = none := I.hok.fresh (Nat.le_refl _)
  have fin : ∀ (h' : Heap) (tk c : Nat), SetT X.w h' s.heap.objs.size (fun j => decide (j ∈ ks)) c → c ≤ ks.length → (∀ b o, s.heap.get? b = some o → h'.get? b = some o) → EP X pins σ Q (.ref s.heap.objs.size) { s with heap := h', toks := tk } := fun h' tk c R hc' k =>
    ⟨.ref s.heap.objs.size, upd H s.heap.objs.size (SetTO X.w s.heap.objs.size (fun j => decide (j ∈ ks)) c), I.laid (t' := tk) k (Nat.le_refl _) (setTO_new R), rfl, q _ c hc' hn⟩
  rcases hv with ⟨l, rfl, hl⟩ | ⟨x, rfl, rfl⟩
  · rw [Vals.ref1 r]
    obtain ⟨its, rv, pl, hlen⟩ := I.list hl
    exact set_of_strs (P := X.prog) (w := X.w) ks (I.ok.hd hc) pl.isList (by simpa using rv.strs) hz fin
  · obtain ⟨u, rfl, rx⟩ := vals1 r
    obtain ⟨t, rfl⟩ := rx
    have e : (signs x).length = x.length := by unfold signs; rw [List.length_map, ← str_len]
    rw [e] at hz fin
    exact set_of_text (P := X.prog) (w := X.w) (I.ok.hd hc) hz fin
def rSortedT (w : World) : List V → Hp → VK → Prop := fun xs H Q => ∃ (a : Addr) (M : Str → Bool) (n : Nat), xs = [.ref a] ∧ H a = some (SetTO w a M n) ∧ n ≤ 5000 ∧
  ∀ (ks : List Str) (p : Addr), sortedS ks = true → ks.Nodup → (∀ k, k ∈ ks ↔ M k = true) → ks.length = n → H p = none → Q (.ref p) (upd H p (.lst (ks.map V.str)))
theorem cr_sortedT {X : Cx} (hc : X.calm = true) : CallR X (.builtin "sorted") (rSortedT X.w) := by
  intro pins s σ H vs us Q I r h
  obtain ⟨a, M, n, rfl, ha, hn, q⟩ := h
  have R := setTO_get I ha
  rw [Vals.ref1 r]
  refine sorted_setT R (I.ok.hd hc) fun s' p out c ks k g o hp hg hi hs hd hm hl => ?_
  have hlen : (ks.map V.str).length ≤ sizeLine := by rw [List.length_map, hl, sizeLine_eq]; omega
  have hf : H p = none := I.hok.fresh hp
  have J : Inv X pins σ (upd H p (.lst (ks.map V.str))) { s with heap := s'.heap, gens := s'.gens, drawn := s'.drawn, toks := s'.toks } :=
    I.call (ch := []) (Un.laid k hp hf) (I.hok.laid k hp ⟨hlen, out.toList, c, vals_of_strs hi, hg⟩) (by rw [g]; exact I.bare) (fun _ z => nomatch z)
  have e : s' = { s with heap := s'.heap, gens := s'.gens, drawn := s'.drawn, toks := s'.toks } := by
    cases s'
    cases s
    cases o
    rfl
  rw [e]
  exact ⟨.ref p, _, J, rfl, q ks p hs hd hm hl hf⟩
def insS (k : Str) : List Str → List Str
  | [] => [k]
  | m :: r => if k = m then m :: r else if ltS k m then k :: m :: r else m :: insS k r
def ascS (l : List Str) : List Str := l.foldr insS []
theorem mem_insS {k x : Str} : ∀ {l : List Str}, x ∈ insS k l ↔ x = k ∨ x ∈ l
  | [] => by simp [insS]
  | m :: r => by
    unfold insS
    split
    · rename_i e
      subst e
      simp
    · split
      · simp
      · rw [List.mem_cons, mem_insS, List.mem_cons]
        constructor
        · rintro (h | h | h)
          · exact .inr (.inl h)
          · exact .inl h
          · exact .inr (.inr h)
        · rintro (h | h | h)
          · exact .inr (.inl h)
          · exact .inl h
          · exact .inr (.inr h)
theorem mem_ascS {x : Str} : ∀ {l : List Str}, x ∈ ascS l ↔ x ∈ l
  | [] => by simp [ascS]
  | k :: l => by
    show x ∈ insS k (ascS l) ↔ _
    rw [mem_insS, mem_ascS, List.mem_cons]
def AscS (l : List Str) : Prop := l.Pairwise fun a b => ltS a b = true
theorem asc_insS {k : Str} : ∀ {l : List Str}, AscS l → AscS (insS k l)
  | [], _ => by simp [insS, AscS]
  | m :: r, h => by
    obtain ⟨h1, h2⟩ := List.pairwise_cons.mp h
    unfold insS
    split
    · exact h
    · rename_i ne
      split
      · rename_i lt
        refine List.pairwise_cons.mpr ⟨fun y hy => ?_, h⟩
        rcases List.mem_cons.mp hy with e | e
        · rw [e]
          exact lt
        · exact ltS_trans lt (h1 y e)
      · rename_i nl
        refine List.pairwise_cons.mpr ⟨fun y hy => ?_, asc_insS h2⟩
        rcases mem_insS.mp hy with e | e
        · rw [e]
          exact ltS_of (by simpa using nl) (fun q => ne q.symm)
        · exact h1 y e
theorem asc_ascS : ∀ l : List Str, AscS (ascS l)
  | [] => List.Pairwise.nil
  | k :: l => asc_insS (asc_ascS l)
theorem ascS_ext {l m : List Str} (h : AscS l) (k : AscS m) (e : ∀ x, x ∈ l ↔ x ∈ m) : l = m := asc_ext (lt := fun a b => ltS a b = true) (fun a => by rw [ltS_irrefl]; exact Bool.false_ne_true) (fun _ _ _ a b => ltS_trans a b) h k e
theorem ascS_of {l m : List Str} (h : AscS l) (e : ∀ x, x ∈ l ↔ x ∈ m) : l = ascS m := ascS_ext h (asc_ascS m) fun x => by rw [e, mem_ascS]
theorem ascS_sorted {l m : List Str} (hs : sortedS l = true) (nd : l.Nodup) (e : ∀ x, x ∈ l ↔ x ∈ m) : l = ascS m := ascS_of (sorted_all hs nd) e
theorem ascS_len (l : List Str) : (ascS l).length ≤ l.length := by
  have ins : ∀ (k : Str) (m : List Str), (insS k m).length ≤ m.length + 1 := fun k m => by
    induction m with
    | nil => simp [insS]
    | cons x r ih =>
      unfold insS
      split
      · simp
      · split
        · simp
        · simp only [List.length_cons]
          omega
  induction l with
  | nil => simp [ascS]
  | cons k l ih =>
    have := ins k (ascS l)
    show (insS k (ascS l)).length ≤ l.length + 1
    omega
section
variable {F : FmKit} {T : Kx} {C H H' O O' : Hp} {G : Gm} {W W' : Om} {R : D → Om → Prop} {d : D} {w : World} {te to : TE}
theorem den_strs (ks : List Str) : DenL F T H (ks.map D.str) (ks.map V.str) := by
  have := DenL.vls (F := F) (T := T) (H := H) (ks.map V.str)
  rw [List.map_map] at this
  exact this
theorem den_strs_inv {ks : List Str} {xs : List V} (kl : DenL F T H (ks.map D.str) xs) : xs = ks.map V.str := by
  rw [show ks.map D.str = (ks.map V.str).map D.vl by rw [List.map_map]; rfl] at kl
  exact DenL.vls_inv kl
theorem ca_setT {ks : List Str} (hv : Vl W d (ks.map D.str) ∨ ∃ x, d = .str x ∧ ks = signs x) (hz : ks.length < 4000) (r : ∀ p c, p ∉ akeys W → c ≤ ks.length → R (.adr p) ((p, .any (SetTO w p (fun j => decide (j ∈ ks)) c)) :: W)) : Ca F T (rSetT T.K w) [d] W R := ca_one fun C H O di oc ow x k Q q => by
  refine ⟨x, ks, rfl, ?_, by omega, fun p c hc hp => ?_⟩
  · rcases hv with hv | ⟨z, rfl, rfl⟩
    · obtain ⟨a, xs, e, hs, kl⟩ := hv.sq ow di k
      rw [den_strs_inv kl] at hs
      exact .inl ⟨a, e, hs⟩
    · exact .inr ⟨z, k, rfl⟩
  · obtain ⟨n2, e2, np⟩ := (Nx.refl (F := F) (T := T) di oc ow).newO (od := .any (SetTO w p (fun j => decide (j ∈ ks)) c)) (o := SetTO w p (fun j => decide (j ∈ ks)) c) hp rfl
    rw [e2]
    exact q _ _ H _ _ (r p c np hc) n2 rfl
theorem ca_sortedT {p : Addr} {ks : List Str} {c : Nat} (hn : c ≤ 5000) (r : R (.lst ((ascS ks).map D.str)) W) : Ca F T (rSortedT w) [.adr p] ((p, .any (SetTO w p (fun j => decide (j ∈ ks)) c)) :: W) R := ca_one fun C H O di oc ow x k Q q => by
  have k : x = .ref p := k
  have h1 : O p = some (SetTO w p (fun j => decide (j ∈ ks)) c) := (ow.at_ p _ List.mem_cons_self).2
  refine ⟨p, _, c, by rw [k], ov_own h1, hn, fun ys p2 hs nd hm hl hp2 => ?_⟩
  obtain ⟨n2, e2, s2⟩ := (Nx.refl (F := F) (T := T) di oc ow).newF (o := .lst (ys.map V.str)) hp2
  rw [e2]
  have e : ys = ascS ks := ascS_sorted hs nd fun x => by rw [hm]; simp
  refine q _ W _ _ _ r ⟨n2.ext, n2.dis, n2.oc, n2.own.tail⟩ ?_
  rw [e]
  exact ⟨p2, (ascS ks).map V.str, rfl, by rw [← e]; exact upd_same, den_strs _⟩
/-- sep.join(texts) -/
theorem ev_join (h : Ev F T to G W fun d W1 => ∃ a : Str, d = .str a ∧ Ev F T te G W1 fun d2 W2 => ∃ ys : List Str, Vs W2 d2 (ys.map D.str) ∧ (ys.map (·.length)).sum + ys.length * a.length ≤ 16777216 ∧ R (.str (Txt.join a ys)) W2) :
    Ev F T (tM1 (fun x xs H Q => ∃ a p, ∃ ys : List Str, x = .str a ∧ xs = [.ref p] ∧ (SqL T.K H p (ys.map V.str) ∨ SqT T.K H p (ys.map V.str)) ∧ (ys.map (·.length)).sum + ys.length * a.length ≤ 16777216 ∧ Q (.str (Txt.join a ys)) H) to te) G W R := fun C H O σ w Q q =>
  h C H O σ w _ fun d W1 H1 O1 x ⟨a, e, h1⟩ n1 k1 => by
    subst e
    have k1 : x = .str a := k1
    refine ⟨⟨a, k1⟩, h1 C H1 O1 σ (w.step n1) _ fun d2 W2 H2 O2 y ⟨ys, hv, hz, r⟩ n2 k2 => ?_⟩
    obtain ⟨p, xs, e, hs, kl⟩ := hv.sq n2.own n2.dis k2
    rw [den_strs_inv kl] at hs
    exact ⟨a, p, ys, k1, by rw [e], hs, hz, q _ W2 H2 O2 _ r (n1.trans n2) rfl⟩
end
theorem ltS_sign (a b : Nat) : ltS ⟨#[a]⟩ ⟨#[b]⟩ = decide (a < b) := by simp [ltS, ltCps]
def sg (c : Nat) : Str := ⟨#[c]⟩
theorem sg_inj {a b : Nat} (h : sg a = sg b) : a = b := by
  have : [a] = [b] := congrArg (fun z : Str => z.cps.toList) h
  exact (List.cons.inj this).1
theorem insS_sg (c : Nat) : ∀ l : List Nat, insS (sg c) (l.map sg) = (insN c l).map sg
  | [] => rfl
  | m :: r => by
    rw [List.map_cons, insS, insN]
    by_cases e : c = m
    · subst e
      rw [if_pos rfl, if_pos rfl]
      rfl
    · rw [if_neg (fun h => e (sg_inj h)), if_neg e]
      by_cases lt : c < m
      · rw [if_pos (by rw [show ltS (sg c) (sg m) = decide (c < m) from ltS_sign c m]; simpa using lt), if_pos lt]
        rfl
      · rw [if_neg (by rw [show ltS (sg c) (sg m) = decide (c < m) from ltS_sign c m]; simpa using lt), if_neg lt, insS_sg c r]
        rfl
theorem ascS_sg : ∀ l : List Nat, ascS (l.map sg) = (l.foldr insN []).map sg
  | [] => rfl
  | c :: l => by
    show insS (sg c) (ascS (l.map sg)) = _
    rw [ascS_sg l, insS_sg]
    rfl
theorem join_nil_sg : ∀ l : List Nat, Txt.join "" (l.map sg) = ⟨l.toArray⟩ := fun l => by
  rw [show Txt.join "" (l.map sg) = Str.join "" (l.map sg) from PySem.StrLaws.glued_eq_join _ _]
  induction l with
  | nil => rfl
  | cons a l ih =>
    cases l with
    | nil => rfl
    | cons b r =>
      show (sg a ++ ("" : Str) ++ Str.join "" ((b :: r).map sg)) = _
      rw [ih]
      refine str_ext ?_
      rw [str_app, str_app]
      rfl
theorem insN_mem {c x : Nat} : ∀ {l : List Nat}, x ∈ insN c l ↔ x = c ∨ x ∈ l
  | [] => by simp [insN]
  | m :: r => by
    unfold insN
    split
    · rename_i e
      subst e
      simp
    · split
      · simp
      · rw [List.mem_cons, insN_mem, List.mem_cons]
        constructor
        · rintro (h | h | h)
          · exact .inr (.inl h)
          · exact .inl h
          · exact .inr (.inr h)
        · rintro (h | h | h)
          · exact .inr (.inl h)
          · exact .inl h
          · exact .inr (.inr h)
def ascN (l : List Nat) : List Nat := l.foldr insN []
theorem mem_ascN {x : Nat} : ∀ {l : List Nat}, x ∈ ascN l ↔ x ∈ l
  | [] => by simp [ascN]
  | k :: l => by
    show x ∈ insN k (ascN l) ↔ _
    rw [insN_mem, mem_ascN, List.mem_cons]
theorem asc_insN {k : Nat} : ∀ {l : List Nat}, l.Pairwise (· < ·) → (insN k l).Pairwise (· < ·)
  | [], _ => by simp [insN]
  | m :: r, h => by
    obtain ⟨h1, h2⟩ := List.pairwise_cons.mp h
    unfold insN
    split
    · exact h
    · rename_i ne
      split
      · rename_i lt
        refine List.pairwise_cons.mpr ⟨fun y hy => ?_, h⟩
        rcases List.mem_cons.mp hy with e | e
        · rw [e]
          exact lt
        · exact Nat.lt_trans lt (h1 y e)
      · rename_i nl
        refine List.pairwise_cons.mpr ⟨fun y hy => ?_, asc_insN h2⟩
        rcases insN_mem.mp hy with e | e
        · rw [e]
          omega
        · exact h1 y e
theorem asc_ascN : ∀ l : List Nat, (ascN l).Pairwise (· < ·)
  | [] => List.Pairwise.nil
  | k :: l => asc_insN (asc_ascN l)
theorem ascN_ext {l m : List Nat} (h : l.Pairwise (· < ·)) (k : m.Pairwise (· < ·)) (e : ∀ x, x ∈ l ↔ x ∈ m) : l = m := asc_ext (fun a => Nat.lt_irrefl a) (fun _ _ _ a b => Nat.lt_trans a b) h k e
/-- the letters of a text -/
abbrev lets (x : Str) : List Nat := x.cps.toList
theorem unite_asc {x y : Str} (hx : (lets x).Pairwise (· < ·)) : (lets (unite x y)).Pairwise (· < ·) := by
  unfold unite
  split
  · exact hx
  · exact asc_ascN _
theorem mem_unite {x y : Str} {c : Nat} : c ∈ lets (unite x y) ↔ c ∈ lets x ∨ c ∈ lets y := by
  unfold unite
  split
  · rename_i e
    subst e
    exact ⟨.inl, fun h => h.elim id id⟩
  · show c ∈ ascN (lets x ++ lets y) ↔ _
    rw [mem_ascN, List.mem_append]
end N
set_option Elab.async false
set_option linter.all false
set_option maxRecDepth 100000
namespace N
open PySem PySem.Spec PyProof.Rows L2
open C8 (InsC)
/-- the class Formula as the top has made it -/
structure CZ (K : PySem.W.Frag) (C : Addr) (ns : List Str) : Prop where
  cls : Cls K C
  nos : ∀ n ∈ ns, NoAttr K C n
  ins : InsC K C
  sf : PySem.W.selfFirst K C = true
  ist : PySem.W.kitOne K (.type "str") (.ref C) = some false
abbrev FZ (K : PySem.W.Frag) (C : Addr) : Prop := CZ K C fmNames
inductive FldF : Str → Fm → D → Prop
  | kind (f : Fm) : FldF "kind" f (.str f.kind)
  | parts (f : Fm) : FldF "parts" f (.tup (partsD f))
  | many (f : Fm) : FldF "many" f (.int (f.many : Nat))
  | deep (f : Fm) : FldF "deepest" f (.int (f.deep : Nat))
  | atoms (f : Fm) : FldF "atoms" f (.str f.atoms)
  | bare (f : Fm) : FldF "bare" f (.str f.outer)
  | spell (f : Fm) : FldF "spelled" f (.str f.spell)
  | alls (f : Fm) : FldF "alls_known" f (.tup (f.alls.map .fm))
theorem FldF.look {n : Str} {f : Fm} {z : D} (h : FldF n f z) : n ∈ fmNames ∧ (fmNames.zip (fmVals FK f)).lookup n = some z := by
  cases h <;> exact ⟨by decide +kernel, rfl⟩
section
variable {T : Kx} {C H H' O O' : Hp} {G : Gm} {W W' : Om} {σ : L2.St} {a p : Addr} {d : D} {l : List D} {ta : TE} {R : D → Om → Prop}
theorem ev_fmF {n : Str} (zf : FZ T.K (T.cl 0)) (h : Ev FK T ta G W fun d W1 => ∃ f z, d = .fm f ∧ FldF n f z ∧ R z W1) : Ev FK T (tFld T.K ta n) G W R :=
  ev_fld (h.imp fun d W1 ⟨f, z, e, k, r⟩ => by
    subst e
    exact ⟨0, fmNames, fmVals FK f, z, .fm f, zf.cls, zf.nos n k.look.1, k.look.2, r⟩)
/-- something with a text -/
def Spl (W : Om) (d : D) (g : Fm) : Prop := ∃ ns l, Inst FK W d 0 ns l ∧ (ns.zip l).lookup ("spelled" : Str) = some (.str g.spell)
theorem spl_fm (f : Fm) : Spl W (.fm f) f := ⟨_, _, .fm f, (FldF.spell f).look.2⟩
theorem Spl.up {W2 : Om} {g : Fm} (h : Spl W d g) (s : ∀ x ∈ W, x ∈ W2) : Spl W2 d g := by
  obtain ⟨ns, l, i, e⟩ := h
  refine ⟨ns, l, ?_, e⟩
  cases i with
  | fm f => exact .fm f
  | obj c ns l => exact .obj _ _ _
  | own a c ns l m => exact .own _ _ _ _ (s _ m)
theorem ev_spl {g : Fm} (zf : FZ T.K (T.cl 0)) (h : Ev FK T ta G W fun d W1 => Spl W1 d g ∧ R (.str g.spell) W1) : Ev FK T (tFld T.K ta "spelled") G W R :=
  ev_fld (h.imp fun d W1 ⟨⟨ns, l, i, e⟩, r⟩ => ⟨0, ns, l, _, i, zf.cls, zf.nos "spelled" (by decide +kernel), e, r⟩)
end
namespace Fm
theorem nodup_asc {l : List Fm} (h : asc l) : l.Nodup := h.imp fun {a b} k e => by
  subst e
  exact ltF_irrefl _ k
theorem len_le {l m : List Fm} (h : l.Nodup) (s : ∀ x ∈ l, x ∈ m) : l.length ≤ m.length := by
  induction l generalizing m with
  | nil => exact Nat.zero_le _
  | cons a l ih =>
    rw [List.nodup_cons] at h
    obtain ⟨p, q, e⟩ := List.append_of_mem (s a List.mem_cons_self)
    subst e
    have := ih (m := p ++ q) h.2 fun x hx => by
      have h1 := s x (List.mem_cons_of_mem _ hx)
      rw [List.mem_append, List.mem_cons] at h1
      rw [List.mem_append]
      rcases h1 with h1 | h1 | h1
      · exact .inl h1
      · subst h1
        exact absurd hx h.1
      · exact .inr h1
    simp at this ⊢
    omega
theorem asc_len {l : List Nat} {lo n : Nat} (h : l.Pairwise (· < ·)) (b : ∀ x ∈ l, lo ≤ x ∧ x < lo + n) : l.length ≤ n := by
  have nd : l.Nodup := h.imp fun q e => by omega
  have key : ∀ (l m : List Nat), l.Nodup → (∀ x ∈ l, x ∈ m) → l.length ≤ m.length := fun l => by
    induction l with
    | nil => intros; exact Nat.zero_le _
    | cons a l ih =>
      intro m h s
      rw [List.nodup_cons] at h
      obtain ⟨p, q, e⟩ := List.append_of_mem (s a List.mem_cons_self)
      subst e
      have := ih (p ++ q) h.2 fun x hx => by
        have h1 := s x (List.mem_cons_of_mem _ hx)
        rw [List.mem_append, List.mem_cons] at h1
        rw [List.mem_append]
        rcases h1 with h1 | h1 | h1
        · exact .inl h1
        · subst h1
          exact absurd hx h.1
        · exact .inr h1
      simp at this ⊢
      omega
  have := key l (List.range' lo n) nd fun x hx => by
    rw [List.mem_range'_1]
    exact b x hx
  simpa using this
theorem atoms_asc : ∀ f : Fm, (lets f.atoms).Pairwise (· < ·)
  | .at c => List.pairwise_singleton _ _
  | .no => List.Pairwise.nil
  | .imp a b => unite_asc (atoms_asc a)
  | .all a => atoms_asc a
theorem outer_asc : ∀ f : Fm, (lets f.outer).Pairwise (· < ·)
  | .at c => List.pairwise_singleton _ _
  | .no => List.Pairwise.nil
  | .imp a b => unite_asc (outer_asc a)
  | .all a => List.Pairwise.nil
theorem atoms_lets : ∀ {f : Fm}, f.okL → ∀ c ∈ lets f.atoms, (65 ≤ c ∧ c ≤ 90) ∨ (97 ≤ c ∧ c ≤ 122)
  | .at d, h, c, hc => by
    have : c = d := List.mem_singleton.mp hc
    subst this
    exact h
  | .no, _, c, hc => by cases hc
  | .imp a b, h, c, hc => (mem_unite.mp hc).elim (atoms_lets h.1 c) (atoms_lets h.2 c)
  | .all a, h, c, hc => atoms_lets (f := a) h c hc
theorem outer_sub : ∀ {f : Fm}, ∀ c ∈ lets f.outer, c ∈ lets f.atoms
  | .at d, c, hc => hc
  | .no, c, hc => hc
  | .imp a b, c, hc => mem_unite.mpr ((mem_unite.mp hc).imp (outer_sub c) (outer_sub c))
  | .all a, c, hc => by cases hc
theorem atoms_len {f : Fm} (h : f.okL) : f.atoms.length ≤ 58 := by
  rw [str_len]
  exact asc_len (atoms_asc f) (lo := 65) fun x hx => by
    have := atoms_lets h x hx
    omega
theorem outer_len {f : Fm} (h : f.okL) : f.outer.length ≤ 58 := by
  rw [str_len]
  exact asc_len (outer_asc f) (lo := 65) fun x hx => by
    have := atoms_lets h x (outer_sub x hx)
    omega
/-- small enough for the walk -/
structure okF (f : Fm) : Prop where
  ok : f.okL
  sz : f.sz ≤ 1000000
  alls : f.alls.length < 64
theorem okF.l {a b : Fm} (h : okF (.imp a b)) : okF a := ⟨h.ok.1, by have := h.sz; unfold Fm.sz at this; omega, Nat.lt_of_le_of_lt (len_le (nodup_asc (alls_sub h.ok.1).2) fun x hx => mem_merge.mpr (.inl hx)) h.alls⟩
theorem okF.r {a b : Fm} (h : okF (.imp a b)) : okF b := ⟨h.ok.2, by have := h.sz; unfold Fm.sz at this; omega, Nat.lt_of_le_of_lt (len_le (nodup_asc (alls_sub h.ok.2).2) fun x hx => mem_merge.mpr (.inr hx)) h.alls⟩
theorem okF.a {a : Fm} (h : okF (.all a)) : okF a := ⟨h.ok, by have := h.sz; unfold Fm.sz at this; omega, Nat.lt_of_le_of_lt (len_le (nodup_asc (alls_sub (f := a) h.ok).2) fun x hx => mem_merge.mpr (.inl hx)) h.alls⟩
end Fm
theorem kind_at {f : Fm} : f.kind = ("atom" : Str) ↔ ∃ c, f = .at c := by
  cases f with
  | «at» c => exact ⟨fun _ => ⟨c, rfl⟩, fun _ => rfl⟩
  | no => exact ⟨fun h => absurd h (by decide +kernel), fun ⟨c, h⟩ => by cases h⟩
  | imp a b => exact ⟨fun h => absurd (show ("if" : Str) = "atom" from h) (by decide +kernel), fun ⟨c, h⟩ => by cases h⟩
  | all a => exact ⟨fun h => absurd (show ("all" : Str) = "atom" from h) (by decide +kernel), fun ⟨c, h⟩ => by cases h⟩
theorem parts_fm : ∀ {f : Fm}, (∀ c, f ≠ .at c) → ∀ d ∈ partsD f, ∃ g, d = .fm g
  | .at c, h, _, _ => absurd rfl (h c)
  | .no, _, d, h => by simp [partsD] at h
  | .imp a b, _, d, h => by
    simp [partsD] at h
    rcases h with h | h
    · exact ⟨a, h⟩
    · exact ⟨b, h⟩
  | .all a, _, d, h => by
    simp [partsD] at h
    exact ⟨a, h⟩
section
variable {T : Kx} {x : Addr} {n : Str} {z : D} {ns : List Str} {l : List D} {R : Om → Prop}
theorem rcv_new (zf : FZ T.K (T.cl 0)) (hn : n ∈ fmNames) (h : n ∉ ns) (hl : ns.length < 1000) (r : R [(x, .ins 0 (ns ++ [n]) (l ++ [z]))]) : Rcv FK T (.adr x) z n [(x, .ins 0 ns l)] R :=
  ⟨x, 0, ns, l, [], [], _, _, rfl, rfl, zf.cls, zf.nos n hn, hl, .new ns l h, r⟩
theorem rcv_at (j : Nat) (zf : FZ T.K (T.cl 0)) (hn : n ∈ fmNames) (h : ns.Nodup) (hj : ns[j]? = some n) (hl : ns.length < 1000) (r : R [(x, .ins 0 ns (l.set j z))]) : Rcv FK T (.adr x) z n [(x, .ins 0 ns l)] R :=
  ⟨x, 0, ns, l, [], [], _, _, rfl, rfl, zf.cls, zf.nos n hn, hl, .at ns l j h hj, r⟩
end
theorem allsD_of {x : Addr} {f : Fm} : ∀ {e : List (D × Fm)}, (∀ p ∈ e, p.1 = .fm p.2 ∨ (p.1 = .adr x ∧ p.2 = f)) → AllsD x f (e.map (·.1)) (e.map (·.2))
  | [], _ => rfl
  | p :: e, h => ⟨p.2, _, rfl, h p List.mem_cons_self, allsD_of fun q hq => h q (List.mem_cons_of_mem _ hq)⟩
theorem fm_map (l : List Fm) : (l.map fun g => (D.fm g, g)).map (·.1) = l.map .fm := by rw [List.map_map]; rfl
theorem fm_map2 (l : List Fm) : (l.map fun g => (D.fm g, g)).map (·.2) = l := by rw [List.map_map]; exact List.map_id l
theorem max_int (m n : Nat) : (if (n : Int) > (m : Int) then (n : Int) else (m : Int)) = ((max m n : Nat) : Int) := by
  split <;> omega
theorem empty_app (x : Str) : Str.empty ++ x = x := str_ext (by rw [str_app]; rfl)
@[reducible] def kvE (l : List (D × Fm)) : List (Key × D) := l.map fun p => (Sum.inr p.2.spell, p.1)
theorem kvE_keys (l : List (D × Fm)) : (kvE l).map (·.1) = (l.map fun p => p.2.spell).map Sum.inr := by simp [kvE]
theorem getG_kvE : ∀ {l : List (D × Fm)} {p : D × Fm}, p ∈ l → (l.map fun p => p.2.spell).Nodup → getG (kvE l) (Sum.inr p.2.spell) = some p.1
  | [], p, h, _ => by simp at h
  | q :: l, p, h, nd => by
    rw [List.map_cons, List.nodup_cons] at nd
    unfold getG kvE
    rw [List.map_cons, List.find?_cons]
    by_cases e : (Sum.inr q.2.spell : Key) = Sum.inr p.2.spell
    · simp only [e, decide_true, Option.map_some]
      rcases List.mem_cons.mp h with h | h
      · rw [h]
      · refine absurd (List.mem_map.mpr ⟨p, h, ?_⟩) nd.1
        exact (Sum.inr.inj e).symm
    · simp only [e, decide_false]
      rcases List.mem_cons.mp h with h | h
      · exact absurd (by rw [h]) e
      · exact getG_kvE h nd.2
theorem put_kvE {l : List (D × Fm)} {d : D} {g : Fm} (ol : ∀ p ∈ l, p.2.okL) (og : g.okL) : ∃ l', putG (kvE l) (Sum.inr g.spell) d = kvE l' ∧ (∀ p ∈ l', p ∈ l ∨ p = (d, g)) ∧ (∀ x ∈ l.map (·.2), x ∈ l'.map (·.2)) ∧ g ∈ l'.map (·.2) ∧ l'.length ≤ l.length + 1 := by
  unfold putG
  split
  · rename_i ha
    refine ⟨l.map fun q => if q.2.spell = g.spell then (d, q.2) else q, ?_, fun p hp => ?_, fun x hx => ?_, ?_, by simp⟩
    · simp only [kvE, List.map_map]
      refine List.map_congr_left fun q hq => ?_
      by_cases e : q.2.spell = g.spell
      · simp [Function.comp, e]
      · simp [Function.comp, e]
    · obtain ⟨q, hq, e⟩ := List.mem_map.mp hp
      by_cases h : q.2.spell = g.spell
      · rw [if_pos h] at e
        rw [Fm.spell_inj (ol q hq) og h] at e
        exact .inr e.symm
      · rw [if_neg h] at e
        subst e
        exact .inl hq
    · obtain ⟨q, hq, e⟩ := List.mem_map.mp hx
      refine List.mem_map.mpr ⟨_, List.mem_map.mpr ⟨q, hq, rfl⟩, ?_⟩
      split
      · exact e
      · exact e
    · rw [List.any_eq_true] at ha
      obtain ⟨z, hz, e⟩ := ha
      obtain ⟨q, hq, e2⟩ := List.mem_map.mp hz
      subst e2
      have e := Sum.inr.inj (of_decide_eq_true e)
      refine List.mem_map.mpr ⟨_, List.mem_map.mpr ⟨q, hq, rfl⟩, ?_⟩
      rw [if_pos e]
      exact Fm.spell_inj (ol q hq) og e
  · refine ⟨l ++ [(d, g)], by simp [kvE], fun p hp => ?_, fun x hx => ?_, by simp, by simp⟩
    · rcases List.mem_append.mp hp with h | h
      · exact .inl h
      · exact .inr (List.mem_singleton.mp h)
    · rw [List.map_append]
      exact List.mem_append_left _ hx
theorem merge_of {l m : List Fm} {e : List (D × Fm)} (hl : l ≠ []) (hm : m ≠ []) (ol : ∀ x ∈ l ++ m, x.okL) (hs : sortedS (e.map fun p => p.2.spell) = true) (nd : (e.map fun p => p.2.spell).Nodup) (h : ∀ x, x ∈ e.map (·.2) ↔ x ∈ l ++ m) : e.map (·.2) = Fm.merge l m := by
  unfold Fm.merge
  rw [if_neg hl, if_neg hm]
  refine Fm.asc_eq ?_ (Fm.asc_fold ol) fun x => by rw [h x, Fm.mem_fold]
  have := sorted_all hs nd
  rw [List.pairwise_map] at this
  unfold Fm.asc
  rw [List.pairwise_map]
  exact this
def isLet (x : Str) : Bool := match lets x with
  | [c] => decide ((65 ≤ c ∧ c ≤ 90) ∨ (97 ≤ c ∧ c ≤ 122))
  | _ => false
theorem isLet_sg (c : Nat) : isLet (sg c) = decide ((65 ≤ c ∧ c ≤ 90) ∨ (97 ≤ c ∧ c ≤ 122)) := rfl
theorem isLet_long {x : Str} (h : x.length ≠ 1) : isLet x = false := by
  unfold isLet
  split
  · rename_i c e
    rw [str_len, show x.cps.toList = [c] from e] at h
    exact absurd rfl h
  · rfl
theorem one_sign {x : Str} (h : x.length = 1) : ∃ c, x = sg c := by
  rw [str_len] at h
  match e : x.cps.toList, h with
  | [c], _ => exact ⟨c, str_ext e⟩
theorem in_letters (c : Nat) : decide (c ∈ ("ABCDEFGHIJKLMNOPQRSTUVWXYZabcdefghijklmnopqrstuvwxyz" : Str).cps.toList) = isLet (sg c) := by
  rw [isLet_sg]
  have e : ("ABCDEFGHIJKLMNOPQRSTUVWXYZabcdefghijklmnopqrstuvwxyz" : Str).cps.toList = List.range' 65 26 ++ List.range' 97 26 := by decide +kernel
  rw [e]
  congr 1
  rw [List.mem_append, List.mem_range'_1, List.mem_range'_1]
  simp only [eq_iff_iff]
  omega
def S_isatom : FS := fun ds W post => ∃ x : Str, ds = [.str x] ∧ W = [] ∧ x.length ≤ 16777216 ∧ post (.bl (isLet x)) []
def S_united : FS := fun ds W post => ∃ x y : Str, ds = [.str x, .str y] ∧ x.length + y.length < 4000 ∧ W = [] ∧ post (.str (unite x y)) []
def S_merged : FS := fun ds W post => ∃ e1 e2 : List (D × Fm), ds = [.tup (e1.map (·.1)), .tup (e2.map (·.1))] ∧ (∀ p ∈ e1 ++ e2, p.2.okL ∧ Spl W p.1 p.2) ∧ e1.length < 64 ∧ e2.length < 64 ∧ (Fm.merge (e1.map (·.2)) (e2.map (·.2))).length < 64 ∧
  ∀ e' : List (D × Fm), e'.map (·.2) = Fm.merge (e1.map (·.2)) (e2.map (·.2)) → (∀ p ∈ e', p ∈ e1 ++ e2) → post (.tup (e'.map (·.1))) W
def S_init : FS := fun ds W post => ∃ (x : Addr) (f : Fm), ds = [.adr x, .str f.kind, .tup (partsD f)] ∧ W = [(x, .ins 0 [] [])] ∧ f.okF ∧
  ∀ al, AllsD x f al f.alls → post .non [(x, .ins 0 fmNames [.str f.kind, .tup (partsD f), .int (f.many : Nat), .int (f.deep : Nat), .str f.atoms, .str f.outer, .str f.spell, .tup al])]
end N
set_option Elab.async false
set_option linter.all false
set_option maxRecDepth 100000
namespace N
open PySem PySem.Spec PyProof.Rows L2
theorem relV_ref (a : Addr) : RelV (.ref a) (.ref a) := rfl
theorem relV_ty (s : String) : RelV (.ty s) (.type s) := rfl
section
variable {X : Cx} {K : PySem.W.Frag}
theorem pe_fldK {e : Expr} {f : Str} {pos : Pos} {ta : TE} (hK : X.K = K) (h : PE X e ta) (hb : attributeBase e f X.env (eval e X.env) = eval e X.env) : PE X (e.Attribute f pos) (tFld K ta f) := hK ▸ pe_fld h hb
theorem ix_listK (hK : X.K = K) : IxR X (rIxL K) := hK ▸ ix_list
theorem ix_tupK (hK : X.K = K) : IxR X (rIxT K) := hK ▸ ix_tup
theorem op_in_seqK (hK : X.K = K) : OpR X (compareOp .In) (rIn K false) := hK ▸ op_in_seq
theorem op_notIn_seqK (hK : X.K = K) : OpR X (compareOp .NotIn) (rIn K true) := hK ▸ op_notIn_seq
theorem pg_tupK {pos : Pos} {es : List Expr} {k : Nat} {t : TGs} {n : Nat} (hK : X.K = K) (hc : X.calm = true) (h : PGs X es t) (h1 : (assignEach es X.env).length = n := by rfl) (h2 : List.findIdx? (fun x => x.1) (assignEach es X.env) = none := by rfl) : PG X (Expr.Tuple es k pos) (gTup K n t) := hK ▸ pg_tup hc h h1 h2
end
def tIfT (tc ta tb : TT) : TT := fun σ H Q => tc σ H fun c H1 => if c = true then ta σ H1 Q else tb σ H1 Q
theorem pt_ifE {X : Cx} {c a b : Expr} {tc ta tb : TT} {pos : Pos} (hc : PT X c tc) (ha : PT X a ta) (hb : PT X b tb) : PT X (.IfExp c a b pos) (tIfT tc ta tb) := by
  refine ⟨fun pins s σ H Q I h => ?_⟩
  rw [PySem.arm_isTrue_IfExp]
  refine wpAny_bind (thn (hc.run pins s σ H _ I h) fun d s1 ⟨H1, I1, q1⟩ => ?_)
  cases d with
  | true => exact ha.run pins s1 σ H1 Q I1 q1
  | false => exact hb.run pins s1 σ H1 Q I1 q1
theorem et_ifE {F : FmKit} {T : Kx} {tc ta tb : TT} {G : Gm} {W : Om} {S : Bool → Om → Prop} (h : EvT F T tc G W fun c W1 => if c = true then EvT F T ta G W1 S else EvT F T tb G W1 S) : EvT F T (tIfT tc ta tb) G W S := fun C H O σ w Q q =>
  h C H O σ w _ fun c W1 H1 O1 s n => by
    cases c with
    | true => exact s C H1 O1 σ (w.step n) _ fun b W2 H2 O2 s2 n2 => q b W2 H2 O2 s2 (n.trans n2)
    | false => exact s C H1 O1 σ (w.step n) _ fun b W2 H2 O2 s2 n2 => q b W2 H2 O2 s2 (n.trans n2)
end N
set_option Elab.async false
set_option linter.all false
set_option maxRecDepth 100000
namespace N
open PySem PySem.Spec PyProof.Rows L2
open C8 (InsC Cal)
namespace Fm
abbrev neg (f : Fm) : Fm := .imp f .no
abbrev conj (f g : Fm) : Fm := neg (.imp f (neg g))
end Fm
section
variable {T : Kx} {C H H' O O' : Hp} {G : Gm} {W W' : Om} {σ : L2.St} {a p : Addr} {d : D} {l : List D} {ta : TE} {tr : TA} {R : D → Om → Prop} {S : FS} {E : XK}
/-- Formula(kind, ..) -/
theorem ev_mkF (h : EvA FK T tr G W fun ds W1 => ∃ f : Fm, ds = .str f.kind :: partsD f ∧ f.okF ∧ R (.fm f) W1) : Ev FK T (StX.tMakeR (T.cl 0) (spN FK T (starS 2 S_init)) E tr) G W R :=
  ev_fz (ev_makeR (fun C H O σ w Q q => h C H O σ w Q fun ds W1 H1 O1 vs ⟨f, e, hf, r⟩ n k => q ds W1 H1 O1 vs (fun x hx => by
    subst e
    refine ⟨[(x, .ins 0 [] [])], W1, List.Perm.refl _, by simp, ?_, x, f, rfl, rfl, hf, fun al ha => ⟨rfl, x, _, W1, .fm f, rfl, List.Perm.refl _, .fm f al ha, r⟩⟩
    have : (partsD f).length ≤ 2 := by cases f <;> simp [partsD]
    simp
    omega) n k))
theorem ev_inv (h : Ev FK T ta G W fun d W1 => ∃ f, d = .fm f ∧ Hand S [.fm f] W1 R) : Ev FK T (tUn (rOwn1 (T.cl 0) (spN FK T S) E) ta) G W R :=
  ev_un (h.imp fun d W1 ⟨f, e, hh⟩ => by
    subst e
    exact ca_own1 (.fm f) hh)
theorem bo_fm2 {f g : Fm} (h : Hand S [.fm f, .fm g] W R) : Bo FK T (rOwn2 (T.cl 0) (spN FK T S) E) (.fm f) (.fm g) W R := bo_own (.fm f) (.fm g) h
theorem ca_strF {f : Fm} (h : Hand S [.fm f] W fun d' W' => (∃ z, d' = .str z) ∧ R d' W') : Ca FK T (rStrO (T.cl 0) (spN FK T S)) [.fm f] W R := ca_strO (.fm f) h
theorem ev_prpF (h : Ev FK T ta G W fun d W1 => ∃ f, d = .fm f ∧ Hand S [.fm f] W1 R) : Ev FK T (tProp (T.cl 0) (spN FK T S) [] E ta) G W R :=
  ev_prop (h.imp fun d W1 ⟨f, e, hh⟩ => by
    subst e
    exact ⟨_, _, .fm f, hh⟩)
theorem ca_strS {s : Str} (h : R (.str s) W) : Ca FK T (fun xs H Q => ∃ a, xs = [.str a] ∧ Q (.str a) H) [.str s] W R := cl_sc (xs := [.str s]) fun H Q k => ⟨s, rfl, k _ h⟩
theorem ev_isN_fm {f : Fm} (h : Ev FK T ta G W fun d W1 => d = .fm f ∧ R (.bl false) W1) : Ev FK T (tIsN ta) G W R :=
  ev_isN (h.imp fun d W1 ⟨e, r⟩ => ⟨false, fun H v k => by
    subst e
    obtain ⟨a, e, _⟩ := k
    subst e
    rfl, r⟩)
end
/-- a property by the promise of its getter -/
structure Prp (P : Program) (w : World) (K : PySem.W.Frag) (mg : Str → Option Value) (base : Heap) (k : Nat) (C : Addr) (m : Str) (sp : Sp) : Prop where
  ex : ∃ (p g : Addr) (fd : FuncData) (ps : List Str), PropOf K C m p g ∧ FnOk P w K mg base C8.CX0 k g fd ps sp ∧ Binds K fd ps []
theorem prpD {P : Program} {w : World} {K : PySem.W.Frag} {mg : Str → Option Value} {base : Heap} {F : FmKit} {cl : Nat → Addr} {S : FS} {m qual : Str} {C p : Addr} {st : Stmt} {f : Addr} {fd : FuncData} {N ps : List Str} {k : Nat} (o : PropOf K C m p f) (Fn : Fun K m qual st f fd) (Sc : FnScope N ps (defScope st)) (len : ∀ ds W post, S ds W post → ds.length = ps.length)
    (hb : ∀ (kV doc pm : Value) (an : Option Addr) (cdv ct : Value) (us : List Value), us.length = ps.length → bindArgs (PySem.W.fnOf m qual (defArgs st) (defBody st) (defScope st) .none kV doc pm an cdv ct) ⟨us, []⟩ = pure (ps.zip us))
    (body : ∀ (cdv : Value) (A : Around) (outer : List Env) (s : Shared) (H : Hp) (E : XK), Room k (A.deeper (envOfC qual (defScope st) s.heap.objs.size f cdv)) →
      ∃ t, PSs (cxOf C8.CX0 P w K mg base N qual (defScope st) f cdv A outer s H E).nox (defBody st) t ∧ ∀ ds W post, S ds W post → Sw F ⟨K, cl⟩ t (startD N ds) W (E_ post)) : Prp P w K mg base (k + 1) C m (spN F ⟨K, cl⟩ S) :=
  ⟨p, f, fd, ps, o, okD Fn Sc len body, Fn.binds hb⟩
theorem pe_prp {X : Cx} {k j : Nat} {C : Addr} {f : Str} {sp : Sp} {e : Expr} {pos : Pos} {ta : TE} (c : Prp X.prog X.w X.K X.mg X.base k C f sp) (cls : Cls X.K C) (hr : Room j X.A) (hk : k + 1 ≤ j) (he : PE X e ta) (hab : attributeBase e f X.env (eval e X.env) = eval e X.env := by rfl) :
    PE X (e.Attribute f pos) (tProp C sp [] E0 ta) := by
  obtain ⟨p, g, fd, ps, o, h, b⟩ := c.ex
  exact pe_prop he cls o h (hr.mono hk) b .nil pass0 hab
def S_no : FS := fun ds W post => ds = [] ∧ W = [] ∧ post (.fm .no) []
def S_every : FS := fun ds W post => ∃ f : Fm, ds = [.fm f] ∧ W = [] ∧ (Fm.all f).okF ∧ post (.fm (.all f)) []
def S_shr : FS := fun ds W post => ∃ f g : Fm, ds = [.fm f, .fm g] ∧ W = [] ∧ (Fm.imp f g).okF ∧ post (.fm (Fm.imp f g)) []
/-- a formula, or the atom of a letter -/
def Opd (d : D) (f : Fm) : Prop := d = .fm f ∨ ∃ c, ((65 ≤ c ∧ c ≤ 90) ∨ (97 ≤ c ∧ c ≤ 122)) ∧ d = .str (sg c) ∧ f = .at c
def S_opd : FS := fun ds W post => ∃ (d : D) (f : Fm), ds = [d] ∧ W = [] ∧ Opd d f ∧ post (.fm f) []
def S_str : FS := fun ds W post => ∃ f : Fm, ds = [.fm f] ∧ W = [] ∧ post (.str f.spell) []
end N
set_option Elab.async false
set_option linter.all false
set_option maxRecDepth 100000
namespace N
open PySem PySem.Spec PyProof.Rows L2
section
variable {F : FmKit} {T : Kx} {C H H' O O' : Hp} {G : Gm} {W W' : Om} {R : D → Om → Prop} {d : D}
theorem bo_inSg {c : Nat} {z : Str} (r : R (.bl (decide (c ∈ z.cps.toList))) W) : Bo F T (fun x y H Q => ∃ (c : Nat) (z : Str), x = .str ⟨#[c]⟩ ∧ y = .str z ∧ Q (.bl (decide (c ∈ z.cps.toList))) H) (.str (sg c)) (.str z) W R := op_sc fun H Q k => ⟨c, z, rfl, rfl, k _ r⟩
theorem isi_strF {s : Str} {c : Nat} {ns : List Str} (z : CZ T.K (T.cl c) ns) (r : R (.bl false) W) : Ca F T (rIsi T.K) [.str s, .adr (T.cl c)] W R := ca_isi (.own _) tyd_str z.ist r
end
end N
set_option Elab.async false
set_option linter.all false
set_option maxRecDepth 100000
namespace N
open PySem PySem.Spec PyProof.Rows L2
open C8 (Cal)
structure Ok1 (k n : Nat) (d : PyData) : Prop where
  lv : PyData.leavesShort 13 d = true
  sh : d.showable = true
  nd : d.hasDict = false
  dp : d.depth ≤ k
  wt : d.weight ≤ n
theorem ok_all {k n : Nat} : ∀ {l : List PyData}, (∀ d ∈ l, Ok1 k n d) → PyData.leavesShortAll 13 l = true ∧ PyData.showableAll l = true ∧ PyData.hasDictAll l = false ∧ PyData.depthAll l ≤ k ∧ PyData.weightAll l ≤ l.length * (n + 1)
  | [], _ => ⟨rfl, rfl, rfl, Nat.zero_le _, by simp [PyData.weightAll]⟩
  | d :: l, h => by
    have h1 := h d List.mem_cons_self
    obtain ⟨h2, h3, h4, h5, h6⟩ := ok_all (l := l) fun x hx => h x (List.mem_cons_of_mem _ hx)
    refine ⟨by simp [PyData.leavesShortAll, h1.lv, h2], by simp [PyData.showableAll, h1.sh, h3], by simp [PyData.hasDictAll, h1.nd, h4], ?_, ?_⟩
    · have := h1.dp
      simp only [PyData.depthAll]
      omega
    · have := h1.wt
      simp only [PyData.weightAll, List.length_cons, Nat.succ_mul]
      omega
theorem ok_tup {k n : Nat} {l : List PyData} (h : ∀ d ∈ l, Ok1 k n d) : Ok1 (k + 1) (l.length * (n + 1) + 1) (.tuple l) := by
  obtain ⟨h2, h3, h4, h5, h6⟩ := ok_all h
  refine ⟨by simp [PyData.leavesShort, h2], by simp [PyData.showable, h3], by simp [PyData.hasDict, h4], ?_, ?_⟩
  · simp only [PyData.depth]
    omega
  · simp only [PyData.weight]
    omega
theorem short_ints : ∀ n : Nat, n < 100 → (PyData.int (n : Nat)).shown.length ≤ 13 := by decide +kernel
theorem wt_ints : ∀ n : Nat, n < 100 → (PyData.int (n : Nat)).weight ≤ 8 := by decide +kernel
theorem ok_int {i : Int} (h0 : 0 ≤ i) (h1 : i < 100) : Ok1 0 8 (.int i) := by
  obtain ⟨n, rfl⟩ := Int.eq_ofNat_of_zero_le h0
  refine ⟨by simpa [PyData.leavesShort] using short_ints n (by omega), ?_, rfl, Nat.le_refl _, wt_ints n (by omega)⟩
  simp only [PyData.showable, decide_eq_true_eq, Int.natAbs_natCast]
  have : n.log2 ≤ n := Nat.log2_le_self n
  omega
theorem Ok1.up {k n k' n' : Nat} {d : PyData} (h : Ok1 k n d) (hk : k ≤ k') (hn : n ≤ n') : Ok1 k' n' d := ⟨h.lv, h.sh, h.nd, Nat.le_trans h.dp hk, Nat.le_trans h.wt hn⟩
theorem Ok1.shw {k n : Nat} {d : PyData} (h : Ok1 k n d) (hk : k ≤ 30) (hn : n ≤ 100000) : Shw d := ⟨h.sh, h.nd, Nat.le_trans h.dp hk, by
  have h1 := PyData.shown_le 13 (by decide) d h.lv
  have h2 := h.wt
  have := sizeLine_eq
  omega⟩
/-- data one behind the other -/
structure OkL (k n : Nat) (l : List PyData) : Prop where
  lv : PyData.leavesShortAll 13 l = true
  sh : PyData.showableAll l = true
  nd : PyData.hasDictAll l = false
  dp : PyData.depthAll l ≤ k
  wt : PyData.weightAll l ≤ n
theorem okL_nil {k n : Nat} : OkL k n [] := ⟨rfl, rfl, rfl, Nat.zero_le _, Nat.zero_le _⟩
theorem okL_cons {k n m : Nat} {d : PyData} {l : List PyData} (h : Ok1 k n d) (t : OkL k m l) : OkL k (n + 1 + m) (d :: l) := by
  refine ⟨by simp [PyData.leavesShortAll, h.lv, t.lv], by simp [PyData.showableAll, h.sh, t.sh], by simp [PyData.hasDictAll, h.nd, t.nd], ?_, ?_⟩
  · have := h.dp
    have := t.dp
    simp only [PyData.depthAll]
    omega
  · have := h.wt
    have := t.wt
    simp only [PyData.weightAll]
    omega
theorem OkL.lst {k n : Nat} {l : List PyData} (h : OkL k n l) : Ok1 (k + 1) n (.list l) := by
  refine ⟨by simp [PyData.leavesShort, h.lv], by simp [PyData.showable, h.sh], by simp [PyData.hasDict, h.nd], ?_, ?_⟩
  · have := h.dp
    simp only [PyData.depth]
    omega
  · have := h.wt
    simp only [PyData.weight]
    omega
theorem OkL.tup {k n : Nat} {l : List PyData} (h : OkL k n l) : Ok1 (k + 1) n (.tuple l) := by
  refine ⟨by simp [PyData.leavesShort, h.lv], by simp [PyData.showable, h.sh], by simp [PyData.hasDict, h.nd], ?_, ?_⟩
  · have := h.dp
    simp only [PyData.depth]
    omega
  · have := h.wt
    simp only [PyData.weight]
    omega
theorem OkL.up {k n k' n' : Nat} {l : List PyData} (h : OkL k n l) (hk : k ≤ k') (hn : n ≤ n') : OkL k' n' l := ⟨h.lv, h.sh, h.nd, Nat.le_trans h.dp hk, Nat.le_trans h.wt hn⟩
theorem ok_str {x : Str} (h : ∀ c ∈ lets x, c < 16 ^ 8) : Ok1 0 x.length (.str x) := by
  refine ⟨?_, rfl, rfl, Nat.le_refl _, Nat.le_refl _⟩
  simp only [PyData.leavesShort, List.all_eq_true, decide_eq_true_eq]
  exact h
section
variable {F : FmKit} {T : Kx} {C H H' O O' : Hp} {G : Gm} {W W' : Om} {R : D → Om → Prop} {d e : D} {l m : List D} {te : TE} {t : TT}
theorem ei_imp {wi : TI} {Y Z : List D → Om → Prop} (h : EvI F T wi G W Y) (i : ∀ l W', Y l W' → Z l W') : EvI F T wi G W Z := fun C H O σ w Q q => h C H O σ w Q fun J ds W' H' O' y => q J ds W' H' O' (i _ _ y)
/-- list, tuple or text by a place -/
theorem bo_ixSq {i : Int} {z : D} (hv : Vs W d l) (hi : atI l i = some z) (r : R z W) : Bo F T (rIx T.K) d (.int i) W R := fun C H O di oc ow x y hx hy Q q => by
  obtain ⟨a, xs, e, hs, kl⟩ := hv.sq ow di hx
  have hy : y = .int i := hy
  obtain ⟨v, ev, kv⟩ := kl.atI hi
  subst e hy
  rcases hs with hs | hs
  · exact .inl ⟨a, xs, i, v, rfl, rfl, hs, ev, q z W H O v r (.refl di oc ow) kv⟩
  · exact .inr (.inl ⟨a, xs, i, v, rfl, rfl, hs, ev, q z W H O v r (.refl di oc ow) kv⟩)
theorem bo_ixSqS {i : Int} {x : Str} {c : Nat} (hl : x.length ≤ sizeLine) (hi : atI (lets x) i = some c) (r : R (.str (sg c)) W) : Bo F T (rIx T.K) (.str x) (.int i) W R := op_sc fun H Q k => .inr (.inr ⟨x, i, c, rfl, rfl, hl, hi, k _ r⟩)
/-- lists joined, frozen -/
theorem bo_cat (h1 : Vt W d l) (h2 : Vt W e m) (hl : l.length + m.length ≤ sizeLine) (r : R (.lst (l ++ m)) W) : Bo F T rCat d e W R := fun C H O di oc ow x y hx hy Q k => by
  obtain ⟨a, us, ea, ha, ku⟩ := h1.at ow di hx
  obtain ⟨b, vs, eb, hb, kv⟩ := h2.at ow di hy
  refine ⟨a, b, us, vs, ea, eb, ha, hb, by rw [ku.len, kv.len]; exact hl, fun z hz => ?_⟩
  obtain ⟨n2, e2, s2⟩ := (Nx.refl (F := F) (T := T) di oc ow).newF (o := .lst (us ++ vs)) hz
  rw [e2]
  exact k _ _ _ _ _ r n2 ⟨z, _, rfl, upd_same, (ku.mono s2).app (kv.mono s2)⟩
/-- a comprehension, frozen -/
theorem ev_lcF {vs : List Nat} {wi : TI} {g : TG} (h : EvI F T wi G W fun ds W1 => ∃ I : Nat → List D → Om → Prop, I 0 [] W1 ∧
      (∀ i d acc W', ds[i]? = some d → I i acc W' → Tw F T vs g d (wipeG G vs) fun G2 => EvT F T t G2 W' fun b W2 => if b = true then Ev F T te G2 W2 (fun z W3 => acc.length < sizeLine ∧ I (i + 1) (acc ++ [z]) W3) else I (i + 1) acc W2) ∧
      (∀ acc W', I ds.length acc W' → R (.lst acc) W')) : Ev F T (tLc wi g t te vs) G W R :=
  ev_fz (ev_lc (ei_imp h fun ds W1 ⟨I, h1, h2, h3⟩ => ⟨I, h1, h2, fun acc W' hi p hp => ⟨p, _, W', _, rfl, List.Perm.refl _, .lst _, h3 acc W' hi⟩⟩))
/-- .. each item by itself -/
theorem ev_lcM {vs : List Nat} {wi : TI} {g : TG} (h : EvI F T wi G W fun ds W1 => ∃ es : List D, (∀ (i : Nat) (d e : D), ds[i]? = some d → es[i]? = some e → Tw F T vs g d (wipeG G vs) fun G2 => EvT F T t G2 W1 fun b W2 => b = true ∧ Ev F T te G2 W2 (fun z W3 => z = e ∧ W3 = W1)) ∧ es.length = ds.length ∧ es.length ≤ sizeLine ∧ R (.lst es) W1) : Ev F T (tLc wi g t te vs) G W R :=
  ev_lcF (ei_imp h fun ds W1 ⟨es, h3, h1, h2, h4⟩ => ⟨fun i acc W' => W' = W1 ∧ acc = es.take i, ⟨rfl, by simp⟩, fun i d acc W' hd ⟨e1, e2⟩ => by
    subst e1 e2
    have hi : i < ds.length := (List.getElem?_eq_some_iff.mp hd).1
    have he : es[i]? = some es[i] := List.getElem?_eq_getElem (by omega)
    refine fun H H1 σ v lo s k Q q => h3 i d es[i] hd he H H1 σ v lo s k Q fun G2 σ2 et l2 w2 => q G2 σ2 (fun C H O σ w Q q => et C H O σ w Q fun b W2 H2 O2 ⟨e, ev⟩ n => q b W2 H2 O2 ?_ n) l2 w2
    subst e
    rw [if_pos rfl]
    refine ev.imp fun z W3 ⟨e1, e2⟩ => ⟨by rw [List.length_take]; omega, e2, ?_⟩
    rw [e1, List.take_add_one, he]
    rfl, fun acc W' ⟨e1, e2⟩ => by
    subst e1 e2
    rw [← h1, List.take_length]
    exact h4⟩)
/-- .. with a test -/
theorem ev_lcP {vs : List Nat} {wi : TI} {g : TG} (h : EvI F T wi G W fun ds W1 => ∃ es : List (Bool × D), (∀ (i : Nat) (d : D) (e : Bool × D), ds[i]? = some d → es[i]? = some e → Tw F T vs g d (wipeG G vs) fun G2 => EvT F T t G2 W1 fun b W2 => b = e.1 ∧ if b = true then Ev F T te G2 W2 (fun z W3 => z = e.2 ∧ W3 = W1) else W2 = W1) ∧ es.length = ds.length ∧ es.length ≤ sizeLine ∧ R (.lst ((es.filter (·.1)).map (·.2))) W1) : Ev F T (tLc wi g t te vs) G W R :=
  ev_lcF (ei_imp h fun ds W1 ⟨es, h3, h1, h2, h4⟩ => ⟨fun i acc W' => W' = W1 ∧ acc = ((es.take i).filter (·.1)).map (·.2), ⟨rfl, by simp⟩, fun i d acc W' hd ⟨e1, e2⟩ => by
    subst e1 e2
    have hi : i < ds.length := (List.getElem?_eq_some_iff.mp hd).1
    have he : es[i]? = some es[i] := List.getElem?_eq_getElem (by omega)
    refine fun H H1 σ v lo s k Q q => h3 i d es[i] hd he H H1 σ v lo s k Q fun G2 σ2 et l2 w2 => q G2 σ2 (fun C H O σ w Q q => et C H O σ w Q fun b W2 H2 O2 ⟨e, ev⟩ n => q b W2 H2 O2 ?_ n) l2 w2
    have hf : ((es.take (i + 1)).filter (·.1)) = (es.take i).filter (·.1) ++ if es[i].1 = true then [es[i]] else [] := by
      rw [List.take_add_one, he, List.filter_append]
      congr 1
      simp only [Option.toList_some, List.filter_cons, List.filter_nil]
    have hl : (((es.take i).filter (·.1)).map (·.2)).length < sizeLine := by
      have := List.length_filter_le (fun z : Bool × D => z.1) (es.take i)
      rw [List.length_take] at this
      rw [List.length_map]
      omega
    cases b with
    | true =>
      rw [if_pos rfl] at ev
      refine if_so rfl ?_
      refine ev.imp fun z W3 ⟨e1, e2⟩ => ⟨hl, e2, ?_⟩
      rw [hf, if_pos e.symm, List.map_append, e1]
      rfl
    | false =>
      rw [if_neg Bool.false_ne_true] at ev
      refine if_not rfl ?_
      refine ⟨ev, ?_⟩
      rw [hf, if_neg (by rw [← e]; exact Bool.false_ne_true), List.append_nil], fun acc W' ⟨e1, e2⟩ => by
    subst e1 e2
    rw [← h1, List.take_length]
    exact h4⟩)
end
theorem cut63 {xs : List D} (h : xs.length ≤ 63) : cutD xs none (some 63) = xs := by
  unfold cutD
  have e1 : HT.sIx xs.length 0 none = 0 := rfl
  have e2 : HT.sIx xs.length xs.length (some 63) = min 63 xs.length := HT.sIx_nat _ _ 63
  rw [e1, e2, List.drop_zero]
  exact List.take_of_length_le (by omega)
/-- a deck at a, c draws done, all that belongs to it in W -/
abbrev Deck := Addr → Int → Om → Prop
def S_deck (Dk : Deck) : FS := fun ds W post => ∃ ns : List Int, ds = [.scr (ns.map V.int)] ∧ W = [] ∧ ns.length ≤ 63 ∧ ∀ (a : Addr) (W' : Om), Dk a 0 W' → post (.adr a) W'
def S_draw (Dk : Deck) : FS := fun ds W post => ∃ (a : Addr) (c n : Int), ds = [.adr a, .int n] ∧ Dk a c W ∧ 0 < n ∧ n < 1073741824 ∧ c < 2 ^ 60 ∧
  ∀ (z : Int) (W' : Om), 0 ≤ z → z < n → Dk a (c + 1) W' → post (.int z) W'
def S_pick (Dk : Deck) : FS := fun ds W post => ∃ (a : Addr) (c : Int) (m : D), ds = [.adr a, m] ∧ Dk a c W ∧ c < 2 ^ 60 ∧
  ((∃ l : List D, (m = .lst l ∨ m = .tup l) ∧ l ≠ [] ∧ l.length ≤ 1000000 ∧ ∀ z ∈ l, ∀ W', Dk a (c + 1) W' → post z W') ∨
   ∃ x : Str, m = .str x ∧ x.length ≠ 0 ∧ x.length ≤ 1000000 ∧ ∀ q ∈ lets x, ∀ W', Dk a (c + 1) W' → post (.str (sg q)) W')
theorem at_of_draw {α : Type} {l : List α} {z : Int} (h0 : 0 ≤ z) (h1 : z < l.length) : ∃ y ∈ l, atI l z = some y := by
  have hz : z.toNat < l.length := by omega
  refine ⟨l[z.toNat], List.getElem_mem hz, ?_⟩
  unfold atI ixN
  rw [if_pos h0, if_pos h1]
  simp [hz]
/-- what is asked of law: a list of at most 63 ints in, True out -/
def spTop (K : PySem.W.Frag) : Sp := fun vs H Q _ => ∃ (a : Addr) (ns : List Int), vs = [.ref a] ∧ SqL K H a (ns.map V.int) ∧ ns.length ≤ 63 ∧ ∀ H', Q (.bl true) H'
def S_law : FS := fun ds W post => ∃ ns : List Int, ds = [.scr (ns.map V.int)] ∧ W = [] ∧ ns.length ≤ 63 ∧ ∀ W', post (.bl true) W'
theorem top_sp {K : PySem.W.Frag} {cl : Nat → Addr} {vs : List V} {H : Hp} {Q : VK} {E : XK} (h : spTop K vs H Q E) : spN FK ⟨K, cl⟩ S_law vs H Q E := by
  obtain ⟨a, ns, rfl, hs, hl, q⟩ := h
  refine ⟨[.scr (ns.map V.int)], [], fun _ => none, H, fun _ => none, fun d W' => d = .bl true, ?_, ?_, fun _ _ e => e, ⟨List.nodup_nil, fun _ _ h => by cases h⟩, ⟨_, _, rfl, ⟨a, rfl, hs⟩, rfl⟩, ⟨ns, rfl, rfl, hl, fun W' => rfl⟩, fun d W' H' O' v e n kd => ?_⟩
  · funext b
    rfl
  · intro b o e
    cases e
  · subst e
    have kd : v = .bl true := kd
    subst kd
    exact q _
end N
set_option Elab.async false
set_option linter.all false
set_option maxRecDepth 100000
namespace L2
open PySem PySem.Spec PyProof.Rows
end L2
namespace N
open PySem L2
theorem ev_neg {F : FmKit} {T : Kx} {G : Gm} {W : Om} {R : D → Om → Prop} {ta : TE} {g : Int → V} (h : Ev F T ta G W fun d W1 => ∃ i : Int, d = .int i ∧ R (.vl (g i)) W1) : Ev F T (tUn (rU g) ta) G W R :=
  ev_un (h.imp fun d W1 ⟨i, e, r⟩ => by
    subst e
    exact cl_sc (xs := [.int i]) fun H Q k => ⟨.int i, rfl, i, rfl, k _ r⟩)
end N
set_option Elab.async false
set_option linter.all false
set_option maxRecDepth 100000
namespace N
open PySem PySem.Spec PyProof.Rows L2
section
variable (F : FmKit) (T : Kx)
def EvPs : List (TE × TE) → Gm → Om → List (Key × D) → (List (Key × D) → Om → Prop) → Prop
  | [], _, W, acc, Y => Y acc W
  | (tk, tv) :: r, G, W, acc, Y => Ev F T tk G W fun y W1 => Ev F T tv G W1 fun z W2 => ∃ k, y = kD k ∧ EvPs r G W2 (acc ++ [(k, z)]) Y
end
def mergeG (ps : List (Key × D)) : List (Key × D) := ps.foldl (fun acc kv => putG acc kv.1 kv.2) []
section
variable {F : FmKit} {T : Kx} {C H H' O O' : Hp} {G : Gm} {W W' : Om} {R : D → Om → Prop} {σ : L2.St} {d e : D} {l m : List D} {te : TE} {t : TT}
theorem EvPs.run {Y : List (Key × D) → Om → Prop} : ∀ {trs : List (TE × TE)} {acc : List (Key × D)} {W : Om} {H O : Hp}, EvPs F T trs G W acc Y → Wd F T C G W H O σ → ∀ Q : List (V × V) → Hp → Prop,
    (∀ (ps : List (Key × D)) (kvs : List (Key × V)) W' H' O', Y (acc ++ ps) W' → Nx F T C W' H H' O' → kvs.map (·.1) = ps.map (·.1) → DenL F T H' (ps.map (·.2)) (kvs.map (·.2)) → ps.length = trs.length → Q (kvs.map fun kv => (kV kv.1, kv.2)) (ov O' H')) → tPairs trs σ (ov O H) Q
  | [], acc, W, H, O, h, w, Q, q => q [] [] W H O (by rw [List.append_nil]; exact h) w.nx rfl rfl rfl
  | (tk, tv) :: r, acc, W, H, O, h, w, Q, q => h C H O σ w _ fun y W1 H1 O1 yv h1 n1 k1 => h1 C H1 O1 σ (w.step n1) _ fun z W2 H2 O2 zv ⟨k, ek, h2⟩ n2 k2 => by
    subst ek
    have k1 : yv = kV k := k1
    subst k1
    refine EvPs.run h2 ((w.step n1).step n2) _ fun ps kvs W' H' O' y n3 e1 e2 e3 => ?_
    refine q ((k, z) :: ps) ((k, zv) :: kvs) W' H' O' (by simpa using y) ((n1.trans n2).trans n3) (by simp [e1]) ⟨zv, _, rfl, k2.mono n3.ext, e2⟩ (by simp [e3])
theorem mergeK_keys : ∀ {ps : List (Key × D)} {kvs : List (Key × V)} {acc : List (Key × D)} {av : List (Key × V)}, kvs.map (·.1) = ps.map (·.1) → av.map (·.1) = acc.map (·.1) → (acc.map (·.1)).Nodup → DenL F T H (ps.map (·.2)) (kvs.map (·.2)) → DenL F T H (acc.map (·.2)) (av.map (·.2)) →
    (mergeK av kvs).map (·.1) = (ps.foldl (fun acc kv => putG acc kv.1 kv.2) acc).map (·.1) ∧ ((ps.foldl (fun acc kv => putG acc kv.1 kv.2) acc).map (·.1)).Nodup ∧ DenL F T H ((ps.foldl (fun acc kv => putG acc kv.1 kv.2) acc).map (·.2)) ((mergeK av kvs).map (·.2))
  | [], [], acc, av, _, e, nd, _, k => ⟨e, nd, k⟩
  | [], _ :: _, _, _, h, _, _, _, _ => by simp at h
  | _ :: _, [], _, _, h, _, _, _, _ => by simp at h
  | (k, z) :: ps, (j, v) :: kvs, acc, av, h, e, nd, ⟨w, r, e1, k1, k2⟩, ka => by
    simp only [List.map_cons, List.cons.injEq] at h e1
    obtain ⟨h1, h2⟩ := h
    obtain ⟨e1, e2⟩ := e1
    subst h1 e1 e2
    exact mergeK_keys (ps := ps) (kvs := kvs) (acc := putG acc j z) (av := putK av j v) h2 ((putG_V av j v) ▸ putG_keys (z := v) (y := z) e) (putG_nodup nd) k2 ((putG_V av j v) ▸ putG_den k1 e ka)
/-- {k: e, ..} -/
theorem ev_disp {trs : List (TE × TE)} (h : EvPs F T trs G W [] fun ps W' => ps.length ≤ 15 ∧ ∀ p, p ∉ akeys W' → R (.adr p) ((p, .dp (mergeG ps)) :: W')) : Ev F T (tDisp trs) G W R := fun C H O σ w Q q p hp => by
  obtain ⟨n0, e0, cp⟩ := w.nx.hide (o := .dK []) hp
  rw [e0]
  refine EvPs.run h ⟨n0.dis, n0.oc, w.loc, n0.own⟩ _ fun ps kvs W' H' O' y n e1 e2 e3 => ?_
  have hO : ov O' H' p = some (.dK []) := ov_own (n.oc p _ upd_same)
  have hl : kvs.length = ps.length := by
    have := congrArg List.length e1
    rwa [List.length_map, List.length_map] at this
  obtain ⟨y1, y2⟩ := y
  refine ⟨hO, kvs, rfl, by rw [hl]; exact y1, ?_⟩
  obtain ⟨n6, e6⟩ := Nx.rehide (o' := .dK (mergeK [] kvs)) n cp
  rw [e6]
  obtain ⟨m1, m2, m3⟩ := mergeK_keys (F := F) (T := T) (H := H') (acc := []) (av := []) e1 rfl List.nodup_nil e2 (show DenL F T H' (([] : List (Key × D)).map (·.2)) (([] : List (Key × V)).map (·.2)) from rfl)
  obtain ⟨n7, np⟩ := n6.show (od := .dp (mergeG ps)) cp ⟨mergeK [] kvs, rfl, m1, m2, m3⟩
  exact q (.adr p) _ H' _ _ (y2 p np) n7 rfl
theorem ca_slF {lo hi : Option Int} (hv : Vl W d l) (r : R (.lst (cutD l lo hi)) W) : Ca F T (fun xs H Q => ∃ x, xs = [x] ∧ rSlL T.K x lo hi H Q) [d] W R :=
  ca_fz (ca_slL hv fun p hp => ⟨p, _, W, _, rfl, List.Perm.refl _, .lst _, r⟩)
theorem ev_revF (h : Ev F T te G W fun d W1 => ∃ l, Vl W1 d l ∧ R (.lst l.reverse) W1) : Ev F T (tRevL T.K te) G W R :=
  ev_fz (ev_revL (h.imp fun d W1 ⟨l, hv, r⟩ => ⟨l, hv, fun p hp => ⟨p, _, W1, _, rfl, List.Perm.refl _, .lst _, r⟩⟩))
end
section
variable {F : FmKit} {T : Kx} {G : Gm} {W : Om} {R : D → Om → Prop}
theorem eps_nil {acc : List (Key × D)} {Y : List (Key × D) → Om → Prop} (h : Y acc W) : EvPs F T [] G W acc Y := h
theorem eps_cons {tk tv : TE} {r : List (TE × TE)} {acc : List (Key × D)} {Y : List (Key × D) → Om → Prop} (h : Ev F T tk G W fun y W1 => Ev F T tv G W1 fun z W2 => ∃ k, y = kD k ∧ EvPs F T r G W2 (acc ++ [(k, z)]) Y) : EvPs F T ((tk, tv) :: r) G W acc Y := h
theorem exk_str {s : Str} {Z : Key → Prop} (h : Z (Sum.inr s)) : ∃ k, D.vl (.str s) = kD k ∧ Z k := ⟨_, rfl, h⟩
theorem exk_int {i : Int} {Z : Key → Prop} (h : Z (Sum.inl i)) : ∃ k, D.vl (.int i) = kD k ∧ Z k := ⟨_, rfl, h⟩
theorem dg_str {d : D} {s : Str} {ps : List (Key × D)} {z : D} {Y : D → Prop} (hv : Vd W d ps) (hg : getG ps (Sum.inr s) = some z) (r : Y z) : ∃ ps k z, Vd W d ps ∧ D.vl (.str s) = kD k ∧ getG ps k = some z ∧ Y z := ⟨ps, _, z, hv, rfl, hg, r⟩
end
theorem putG_new {α : Type} {ps : List (Key × α)} {k : Key} {z : α} (h : k ∉ ps.map (·.1)) : putG ps k z = ps ++ [(k, z)] := by
  unfold putG
  rw [if_neg]
  intro e
  rw [List.any_eq_true] at e
  obtain ⟨q, hq, e⟩ := e
  exact h (List.mem_map.mpr ⟨q, hq, of_decide_eq_true e⟩)
theorem getG_hd {α : Type} (k : Key) (z : α) (ps : List (Key × α)) : getG ((k, z) :: ps) k = some z := by
  unfold getG
  rw [List.find?_cons, decide_eq_true rfl]
  rfl
theorem getG_tl {α : Type} {k j : Key} {y : α} {ps : List (Key × α)} {r : Option α} (h : decide (j = k) = false) (e : getG ps k = r) : getG ((j, y) :: ps) k = r := by
  rw [← e]
  unfold getG
  rw [List.find?_cons, h]
theorem mergeG_acc : ∀ {ps acc : List (Key × D)}, ((acc ++ ps).map (·.1)).Nodup → ps.foldl (fun acc kv => putG acc kv.1 kv.2) acc = acc ++ ps
  | [], acc, _ => by simp
  | p :: ps, acc, h => by
    rw [List.foldl_cons]
    have hn : p.1 ∉ acc.map (·.1) := fun z => by
      rw [List.map_append, List.nodup_append] at h
      exact h.2.2 _ z _ (by simp) rfl
    rw [putG_new hn, mergeG_acc (by simpa using h)]
    simp
theorem mergeG_nd {ps : List (Key × D)} (h : (ps.map (·.1)).Nodup) : mergeG ps = ps := by
  unfold mergeG
  rw [mergeG_acc (by simpa using h)]
  rfl
end N
set_option Elab.async false
set_option linter.all false
set_option maxRecDepth 100000
namespace N
open PySem PySem.Spec PyProof.Rows L2
section
variable {F : FmKit} {T : Kx} {C H H' O O' : Hp} {G : Gm} {W W' : Om} {R : D → Om → Prop} {d e : D} {l m : List D} {te : TE} {t : TT}
theorem den_ints_inv {ns : List Int} {xs : List V} (kl : DenL F T H (ns.map D.int) xs) : xs = ns.map V.int := by
  rw [show ns.map D.int = (ns.map V.int).map D.vl by rw [List.map_map]; rfl] at kl
  exact DenL.vls_inv kl
theorem den_bls_inv {bs : List Bool} {xs : List V} (kl : DenL F T H (bs.map D.bl) xs) : xs = bs.map V.bl := by
  rw [show bs.map D.bl = (bs.map V.bl).map D.vl by rw [List.map_map]; rfl] at kl
  exact DenL.vls_inv kl
theorem ca_max {ns : List Int} {m : Int} (hv : Vl W d (ns.map D.int)) (hm : m ∈ ns) (hy : ∀ y ∈ ns, y ≤ m) (r : R (.int m) W) : Ca F T (rMax T.K) [d] W R := ca_one fun C H O di oc ow x k Q q => by
  obtain ⟨a, xs, e, hs, kl⟩ := hv.sq ow di k
  rw [den_ints_inv kl] at hs
  refine ⟨a, ns, by rw [e], hs, List.length_pos_of_mem hm, fun m' h1 h2 => ?_⟩
  have : m' = m := Int.le_antisymm (hy _ h1) (h2 _ hm)
  subst this
  exact q _ W H O _ r (.refl di oc ow) rfl
theorem ca_any {bs : List Bool} (hv : Vl W d (bs.map D.bl)) (r : R (.bl (bs.any id)) W) : Ca F T (rAny T.K) [d] W R := ca_one fun C H O di oc ow x k Q q => by
  obtain ⟨a, xs, e, hs, kl⟩ := hv.sq ow di k
  rw [den_bls_inv kl] at hs
  exact ⟨a, bs, by rw [e], hs, q _ W H O _ r (.refl di oc ow) rfl⟩
theorem ca_all {bs : List Bool} (hv : Vl W d (bs.map D.bl)) (r : R (.bl (bs.all id)) W) : Ca F T (rAll T.K) [d] W R := ca_one fun C H O di oc ow x k Q q => by
  obtain ⟨a, xs, e, hs, kl⟩ := hv.sq ow di k
  rw [den_bls_inv kl] at hs
  exact ⟨a, bs, by rw [e], hs, q _ W H O _ r (.refl di oc ow) rfl⟩
theorem cut_all {α : Type} {xs : List α} {a b : Nat} (h : a = 0 ∧ b = xs.length) : (xs.drop a).take (b - a) = xs := by
  obtain ⟨rfl, rfl⟩ := h
  simp
/-- a slice of a tuple -/
theorem ca_slT {lo hi : Option Int} (r : R (.tup (cutD l lo hi)) W) : Ca F T (fun xs H Q => ∃ x, xs = [x] ∧ rSlA T.K x lo hi H Q) [.tup l] W R := ca_one fun C H O di oc ow x k Q q => by
  obtain ⟨a, xs, e, hs, kl⟩ := id k
  refine ⟨x, rfl, a, xs, e, Same.sqT di.same hs, fun h => ?_, fun h p hp => ?_⟩
  · subst e
    refine q (.tup (cutD l lo hi)) W H O _ r (.refl di oc ow) ?_
    have : cutD l lo hi = l := cut_all (by rw [kl.len] at h; exact h)
    rw [this]
    exact k
  · obtain ⟨n2, e2, s2⟩ := (Nx.refl (F := F) (T := T) di oc ow).newF (o := .tup (cutV xs lo hi)) hp
    rw [e2]
    exact q _ _ _ _ _ r n2 ⟨p, _, rfl, SqT.of upd_same, (kl.cut lo hi).mono s2⟩
/-- a slice of a text -/
theorem ca_slS {lo hi : Option Int} {x : Str} (hl : x.length ≤ sizeLine) (r : R (.str (cutS x lo hi)) W) : Ca F T (fun xs H Q => ∃ x, xs = [x] ∧ rSlS x lo hi H Q) [.str x] W R := cl_sc (xs := [.str x]) fun H Q k => ⟨_, rfl, x, rfl, hl, k _ r⟩
theorem bo_inT2 {neg : Bool} {x a b : V} (hx : flatV x = true) (ha : flatV a = true) (hb : flatV b = true) (r : R (.bl (if neg then !inV x [a, b] else inV x [a, b])) W) : Bo F T (rIn T.K neg) (.vl x) (.tup [.vl a, .vl b]) W R :=
  bo_in (xs := [a, b]) (.inr rfl) hx (by simp [ha, hb]) r
end
theorem inV_str {x : Str} : ∀ {l : List Str}, inV (.str x) (l.map V.str) = decide (x ∈ l)
  | [] => rfl
  | a :: l => by
    have ih := inV_str (x := x) (l := l)
    unfold inV at ih ⊢
    rw [List.map_cons, List.any_cons, ih]
    have : eqV (V.str a) (V.str x) = decide (x = a) := by
      show (a == x) = _
      rw [Bool.eq_iff_iff]
      simp
      exact eq_comm
    rw [this]
    rw [Bool.eq_iff_iff]
    simp
theorem inV_int' {h : Int} : ∀ {l : List Int}, inV (.int h) (l.map V.int) = decide (h ∈ l)
  | [] => rfl
  | a :: l => by
    have ih := inV_int' (h := h) (l := l)
    unfold inV at ih ⊢
    rw [List.map_cons, List.any_cons, ih]
    have : eqV (V.int a) (V.int h) = decide (h = a) := by
      show (a == h) = _
      rw [Bool.eq_iff_iff]
      simp
      exact eq_comm
    rw [this]
    rw [Bool.eq_iff_iff]
    simp
section
variable (F : FmKit) (T : Kx)
def Unr (vs : List Nat) (g : TG) (t : TT) (te : TE) (G0 : Gm) (Y : List D → Om → Prop) : List D → List D → Om → Prop
  | [], acc, W => Y acc W
  | d :: ds, acc, W => Tw F T vs g d G0 fun G2 => EvT F T t G2 W fun b W2 => if b = true then Ev F T te G2 W2 (fun z W3 => acc.length < sizeLine ∧ Unr vs g t te G0 Y ds (acc ++ [z]) W3) else Unr vs g t te G0 Y ds acc W2
def Swu (g : TG) (ts : TS) (E : En) : List D → Gm → Om → Prop
  | [], G, W => E.nx G W
  | d :: ds, G, W => Tg F T g d G fun G2 => Sw F T ts G2 W { E with nx := Swu g ts E ds, ct := Swu g ts E ds, bk := E.nx }
end
section
variable {F : FmKit} {T : Kx} {G : Gm} {W : Om} {R : D → Om → Prop} {te : TE} {t : TT} {vs : List Nat} {wi : TI} {g : TG} {ts : TS} {E : En} {d : D} {ds acc : List D} {Y : List D → Om → Prop}
theorem unr_nil (h : Y acc W) : Unr F T vs g t te G Y [] acc W := h
theorem unr_cons (h : Tw F T vs g d G fun G2 => EvT F T t G2 W fun b W2 => if b = true then Ev F T te G2 W2 (fun z W3 => acc.length < sizeLine ∧ Unr F T vs g t te G Y ds (acc ++ [z]) W3) else Unr F T vs g t te G Y ds acc W2) : Unr F T vs g t te G Y (d :: ds) acc W := h
theorem swu_nil (h : E.nx G W) : Swu F T g ts E [] G W := h
theorem swu_cons (h : Tg F T g d G fun G2 => Sw F T ts G2 W { E with nx := Swu F T g ts E ds, ct := Swu F T g ts E ds, bk := E.nx }) : Swu F T g ts E (d :: ds) G W := h
theorem ev_lcU (h : EvI F T wi G W fun ds W1 => Unr F T vs g t te (wipeG G vs) (fun acc W' => R (.lst acc) W') ds [] W1) : Ev F T (tLc wi g t te vs) G W R :=
  ev_lcF (ei_imp h fun ds W1 u => ⟨fun i acc W' => Unr F T vs g t te (wipeG G vs) (fun acc W' => R (.lst acc) W') (ds.drop i) acc W', u, fun i d acc W' hd u => by
    have e : ds.drop i = d :: ds.drop (i + 1) := by
      have hi : i < ds.length := (List.getElem?_eq_some_iff.mp hd).1
      rw [List.drop_eq_getElem_cons hi]
      congr 1
      rw [List.getElem?_eq_getElem hi] at hd
      exact Option.some.inj hd
    have u : Unr F T vs g t te (wipeG G vs) (fun acc W' => R (.lst acc) W') (ds.drop i) acc W' := u
    rw [e] at u
    exact u, fun acc W' u => by
    have u : Unr F T vs g t te (wipeG G vs) (fun acc W' => R (.lst acc) W') (ds.drop ds.length) acc W' := u
    rw [List.drop_length] at u
    exact u⟩)
theorem acc_ok (h : acc.length ≤ 1000 := by simp) : acc.length < sizeLine := by
  have := sizeLine_eq
  omega
end
section
variable {F : FmKit} {T : Kx} {W : Om} {R : D → Om → Prop}
theorem ca_intBt {b : Bool} (hb : b = true) (h : R (.int 1) W) : Ca F T (fun xs H Q => (∃ i, xs = [.int i] ∧ Q (.int i) H) ∨ ∃ k, xs = [.bl k] ∧ Q (.int (if k then 1 else 0)) H) [.bl b] W R := ca_intB (by rw [hb]; exact h)
theorem ca_intBf {b : Bool} (hb : b = false) (h : R (.int 0) W) : Ca F T (fun xs H Q => (∃ i, xs = [.int i] ∧ Q (.int i) H) ∨ ∃ k, xs = [.bl k] ∧ Q (.int (if k then 1 else 0)) H) [.bl b] W R := ca_intB (by rw [hb]; exact h)
end
section
variable {F : FmKit} {T : Kx} {C H H' O O' : Hp} {W : Om} {R : D → Om → Prop} {S : FS} {l : List D}
theorem tyd_tup : TyD F T W (.tup l) (.type "tuple") := fun C H O di ow x k => by
  obtain ⟨a, xs, e, hs, kl⟩ := k
  subst e
  rcases Same.sqT di.same hs with (h | ⟨o, h⟩) | ⟨o, its, n, h1, h2, _⟩
  · exact .base (.tup h)
  · exact .fTuple h
  · exact .kTuple h1 h2
theorem isi_tup (r : R (.bl true) W) : Ca F T (rIsi T.K) [.tup l, .vl (.ty "tuple")] W R := ca_isi (.ty "tuple") tyd_tup (by unfold PySem.W.kitOne; rfl) r
theorem isi_fm {f : Fm} {ns : List Str} (z : CZ T.K (T.cl 0) ns) (r : R (.bl true) W) : Ca FK T (rIsi T.K) [.fm f, .adr (T.cl 0)] W R := isi_ins (.fm f) z.ins r
theorem ca_lenF {f : Fm} (h : Hand S [.fm f] W fun d' W' => (∃ n : Int, d' = .int n ∧ 0 ≤ n ∧ n < 2 ^ 63) ∧ R d' W') : Ca FK T (rLenO (T.cl 0) (spN FK T S)) [.fm f] W R := ca_lenO (.fm f) h
end
theorem pdL_strs (l : List Str) : pdL (l.map D.str) = some (l.map .str) := pdL_map D.str .str (fun _ => rfl) l
end N
set_option Elab.async false
set_option linter.all false
set_option maxRecDepth 100000
namespace N
open PySem PySem.Spec PyProof.Rows L2 PySem.SeqAt
def rNeE (K : PySem.W.Frag) : R2 := fun x y H Q => ∃ (a b : Addr) (xs : List V), x = .ref a ∧ y = .ref b ∧ SqL K H a xs ∧ SqL K H b [] ∧ Q (.bl (!xs.isEmpty)) H
def rEqE (K : PySem.W.Frag) : R2 := fun x y H Q => ∃ (a b : Addr) (xs : List V), x = .ref a ∧ y = .ref b ∧ SqL K H a xs ∧ SqL K H b [] ∧ Q (.bl xs.isEmpty) H
theorem op_neE {X : Cx} (hu' : X.A.units + 64 < cLine) : OpR X (compareOp .NotEq) (rNeE X.K) := by
  have hu : X.A.units < cLine := Nat.lt_of_le_of_lt (Nat.le_add_right _ _) hu'
  intro pins s σ H x y v u Q I rx ry h
  obtain ⟨a, b, xs, rfl, rfl, ha, hb, q⟩ := h
  cases rx
  cases ry
  obtain ⟨its, r1, p1, _⟩ := I.list ha
  obtain ⟨its2, r2, p2, _⟩ := I.list hb
  cases r2
  cases r1 with
  | nil =>
    have := RcNeAt.lists (e := fun _ => true) p1.isList p2.isList rfl hu (fun j h1 _ => absurd h1 (Nat.not_lt_zero _)) X.prog X.w (E := X.xe) (Q := EP X pins σ Q) ⟨.bl false, H, I, rfl, q⟩
    exact this
  | cons h t =>
    exact RcNeAt.lists_lengths p1.isList p2.isList (by simp) hu X.prog X.w (E := X.xe) (Q := EP X pins σ Q) ⟨.bl true, H, I, rfl, q⟩
theorem op_eqE {X : Cx} (hu' : X.A.units + 64 < cLine) : OpR X (compareOp .Eq) (rEqE X.K) := by
  have hu : X.A.units < cLine := Nat.lt_of_le_of_lt (Nat.le_add_right _ _) hu'
  intro pins s σ H x y v u Q I rx ry h
  obtain ⟨a, b, xs, rfl, rfl, ha, hb, q⟩ := h
  cases rx
  cases ry
  obtain ⟨its, r1, p1, _⟩ := I.list ha
  obtain ⟨its2, r2, p2, _⟩ := I.list hb
  cases r2
  cases r1 with
  | nil => exact eq_listAt (e := fun _ => true) p1.isList p2.isList rfl hu (fun j h1 _ => absurd h1 (Nat.not_lt_zero _)) ⟨.bl true, H, I, rfl, q⟩
  | cons h t => exact eq_list_lengthsAt p1.isList p2.isList (by simp) hu ⟨.bl false, H, I, rfl, q⟩
section
variable {F : FmKit} {T : Kx} {C H H' O O' : Hp} {G : Gm} {W W' : Om} {R : D → Om → Prop} {d e : D} {l m : List D} {te : TE} {t : TT} {tr : TA}
theorem den_empty {l : List D} {xs : List V} (kl : DenL F T H l xs) : xs.isEmpty = l.isEmpty := by
  have := kl.len
  cases l <;> cases xs <;> simp at this ⊢
theorem bo_neE (h1 : Vl W d l) (h2 : Vl W e []) (r : R (.bl (!l.isEmpty)) W) : Bo F T (rNeE T.K) d e W R := fun C H O di oc ow x y hx hy Q k => by
  obtain ⟨a, xs, ea, ha, ka⟩ := h1.sq ow di hx
  obtain ⟨b, ys, eb, hb, kb⟩ := h2.sq ow di hy
  have kb : ys = [] := kb
  subst kb
  refine ⟨a, b, xs, ea, eb, ha, hb, ?_⟩
  rw [den_empty ka]
  exact k _ W H O _ r (.refl di oc ow) rfl
theorem bo_eqE (h1 : Vl W d l) (h2 : Vl W e []) (r : R (.bl l.isEmpty) W) : Bo F T (rEqE T.K) d e W R := fun C H O di oc ow x y hx hy Q k => by
  obtain ⟨a, xs, ea, ha, ka⟩ := h1.sq ow di hx
  obtain ⟨b, ys, eb, hb, kb⟩ := h2.sq ow di hy
  have kb : ys = [] := kb
  subst kb
  refine ⟨a, b, xs, ea, eb, ha, hb, ?_⟩
  rw [den_empty ka]
  exact k _ W H O _ r (.refl di oc ow) rfl
/-- l.extend(m) -/
theorem ev_extend {to : TE} (h : Ev F T to G W fun d W0 => ∃ a l0 W01 W02, d = .adr a ∧ W0 = W01 ++ (a, .lst l0) :: W02 ∧ EvA F T tr G W0 fun ds W' => ∃ l m W1 W2, W' = W1 ++ (a, .lst l) :: W2 ∧ ds = [.lst m] ∧ l.length + m.length ≤ sizeLine ∧ R .non (W1 ++ (a, .lst (l ++ m)) :: W2)) :
    Ev F T (tBM T.K "list" rExtend to tr) G W R := ev_bm (h.imp fun d W0 ⟨a, l0, W01, W02, e1, e2, ha⟩ => by
  subst e1
  refine ⟨fun C H O di oc ow x kx => ?_, ?_⟩
  · have kx : x = .ref a := kx
    subst kx e2
    obtain ⟨xs, e, _⟩ := own_lst ow
    exact .inl ⟨rfl, xs, SqL.of (ov_own e)⟩
  · refine fun C H O σ w Q q => ha C H O σ w Q fun ds W' H' O' vs ⟨l, m, W1, W2, e3, e4, hl, r⟩ n k => q ds W' H' O' vs ?_ n k
    subst e3 e4
    intro C H O di oc ow x vs kx kv Q q
    have kx : x = .ref a := kx
    obtain ⟨v, r', ev, ⟨b, zs, eb, hb, kz⟩, er⟩ := kv
    have er : r' = [] := er
    subst kx ev er eb
    obtain ⟨xs, e, kl⟩ := own_lst ow
    refine ⟨a, b, xs, zs, rfl, rfl, ov_own e, di.same _ _ hb, by rw [kl.len, kz.len]; exact hl, ?_⟩
    obtain ⟨n2, e2⟩ := (Nx.refl di oc ow).write (o := .lst (xs ++ zs)) (od2 := .lst (l ++ m)) ⟨_, rfl, kl.app kz⟩
    rw [e2]
    exact q .non _ _ _ _ r n2 rfl)
end
end N
set_option Elab.async false
set_option linter.all false
set_option maxRecDepth 100000
namespace N
open PySem PySem.Spec PyProof.Rows L2
open C8 (Cal Met Mak InsC pe_c pe_mt pe_mt0 pe_mk)
section
variable {X : Cx} {k j : Nat} {x m : Str} {C : Addr} {sp : Sp} {e o : Expr} {es : List Expr} {t ta : TA} {p pos apos : Pos}
/-- a method called by names alone -/
structure MetK (P : Program) (w : World) (K : PySem.W.Frag) (mg : Str → Option Value) (base : Heap) (k : Nat) (C : Addr) (m : Str) (ks : List Str) (gV : List V → List V → List V) (sp : Sp) : Prop where
  ex : ∃ (f : Addr) (fd : FuncData) (ps : List Str) (g : List Value → List Value → List Value), Cls K C ∧ Meth K C m f ∧ FnOk P w K mg base CX0 k f fd ps sp ∧ KBn K fd ps 1 ks g gV
def tMethKw (C : Addr) (m : Str) (n : Nat) (sp : Sp) (gV : List V → List V → List V) (ta : TE) (tk : TA) : TE := fun σ H Q => ta σ H fun x H1 => ∃ a dx fs, x = V.ref a ∧ H1 a = some (.ins C dx fs) ∧ fs.lookup m = none ∧ tk σ H1 fun zs H2 => zs.length = n ∧ sp (gV [.ref a] zs) H2 Q E0
theorem pe_mtk {pl : Sem Bool} {ta : TE} {tk : TA} {ks : List Str} {gV : List V → List V → List V} {kws : List Keyword} (c : MetK X.prog X.w X.K X.mg X.base k C m ks gV sp) (hr : Room j X.A) (hk : k ≤ j) (he : PE X o ta) (hkw : PK X kws tk)
    (hall : (backToKw pos (keywordEach kws X.env)).all (·.1.isSome) = true := by rfl) (hks : (backToKw pos (keywordEach kws X.env)).filterMap (·.1) = ks := by rfl)
    (hpl : ((backTo pos (starEach [] X.env)).any (·.1) || (backToKw pos (keywordEach kws X.env)).any (·.1.isNone)) = false := by rfl)
    (ht : eval (.Call (.Attribute o m apos) [] kws pos) X.env = (do
      let ov ← eval o X.env
      standAt apos.atName
      let (f, first) ← holding [ov] (getMethod ov m pl)
      callWith pos f first (backTo pos (starEach [] X.env)) (backToKw pos (keywordEach kws X.env))) := by rfl) :
    PE X (.Call (.Attribute o m apos) [] kws pos) (tMethKw C m ks.length sp gV ta tk) := by
  obtain ⟨f, fd, ps, g, hc, hm, F, hb⟩ := c.ex
  refine ⟨fun pins s σ H Q I h => ?_⟩
  refine PySem.W.methodCall_KW (pl := pl) (thn (he.run pins s σ H _ I h) fun u s1 ⟨x, H1, I1, rx, a, dx, fs, ex, ea, l, q⟩ => ?_) ht
  subst ex
  obtain rfl : u = Value.ref a := rx
  refine getmeth_ok I1 ea hc hm l ?_
  refine PySem.W.callWith_KW0 (first := [.ref a]) (h₀ := X.base) I.ok.mod.kin hm.kp hall ?_ hpl
  refine thn (hkw.run pos pins s1 σ H1 _ I1 q) fun ws s2 ⟨zs, H2, I2, rz, l2, q2⟩ => ⟨I2.kIn, ?_⟩
  rw [hks]
  exact run_fnN (us := [.ref a]) (vs := [.ref a]) F (hr.mono hk) hb pass0 I2 (.cons rfl .nil) rz rfl l2 q2
theorem kb1_of {K : PySem.W.Frag} {x qual : Str} {st : Stmt} {f : Addr} {fd : FuncData} {ps ks : List Str} {g : List Value → List Value → List Value} {gV : List V → List V → List V} (Fn : Fun K x qual st f fd)
    (h : ∀ (kV doc pm : Value) (an : Option Addr) (cdv ct u : Value) (ws : List Value), ws.length = ks.length → bindArgs (PySem.W.fnOf x qual (defArgs st) (defBody st) (defScope st) .none kV doc pm an cdv ct) ⟨[u], ks.zip ws⟩ = pure (ps.zip (g [u] ws)))
    (rel : ∀ {vs : List V} {us : List Value} {zs : List V} {ws : List Value}, Vals vs us → Vals zs ws → Vals (gV vs zs) (g us ws)) : KBn K fd ps 1 ks g gV := by
  obtain ⟨oc, od, kV, doc, pm, an, cdv, ct, osl, rfl, lk, hcd⟩ := Fn.ex
  refine ⟨fun s us ws _ h1 h2 => ?_, rel⟩
  obtain ⟨u, rfl⟩ : ∃ u, us = [u] := List.length_eq_one_iff.mp h1
  exact .of_eq (h kV doc pm an cdv ct u ws h2)
end
section
variable {P : Program} {w : World} {K : PySem.W.Frag} {mg : Str → Option Value} {base : Heap} {F : FmKit} {cl : Nat → Addr} {S : FS}
/-- a method called both by places and by names -/
theorem metDK {m qual : Str} {C : Addr} {st : Stmt} {f : Addr} {fd : FuncData} {N ps ks : List Str} {g : List Value → List Value → List Value} {gV : List V → List V → List V} {k : Nat} (c : Cls K C) (me : Meth K C m f) (Fn : Fun K m qual st f fd) (Sc : FnScope N ps (defScope st)) (len : ∀ ds W post, S ds W post → ds.length = ps.length)
    (hb : ∀ (kV doc pm : Value) (an : Option Addr) (cdv ct : Value) (us : List Value), us.length = ps.length → bindArgs (PySem.W.fnOf m qual (defArgs st) (defBody st) (defScope st) .none kV doc pm an cdv ct) ⟨us, []⟩ = pure (ps.zip us))
    (kb : KBn K fd ps 1 ks g gV)
    (body : ∀ (cdv : Value) (A : Around) (outer : List Env) (s : Shared) (H : Hp) (E : XK), Room k (A.deeper (envOfC qual (defScope st) s.heap.objs.size f cdv)) →
      ∃ t, PSs (cxOf CX0 P w K mg base N qual (defScope st) f cdv A outer s H E).nox (defBody st) t ∧ ∀ ds W post, S ds W post → Sw F ⟨K, cl⟩ t (startD N ds) W (E_ post)) :
    Met P w K mg base (k + 1) C m (spN F ⟨K, cl⟩ S) [] ∧ MetK P w K mg base (k + 1) C m ks gV (spN F ⟨K, cl⟩ S) :=
  have ok := okD Fn Sc len body
  ⟨⟨f, fd, ps, [], c, me, ok, Fn.binds hb, .nil⟩, ⟨f, fd, ps, g, c, me, ok, kb⟩⟩
end
section
variable {F : FmKit} {T : Kx} {C H H' O O' : Hp} {G : Gm} {W W' : Om} {R : D → Om → Prop} {σ : L2.St} {d e : D} {l m : List D} {te ta tb tx : TE} {t : TT} {tr tk : TA} {S : FS}
theorem ev_mtk {c n : Nat} {m : Str} {gV : List V → List V → List V} (h : Ev F T ta G W fun d W1 => ∃ ns l, Inst F W1 d c ns l ∧ m ∉ ns ∧ EvA F T tk G W1 fun ds W2 => ds.length = n ∧ ∃ as, (∀ H x zs, Den F T H d x → DenL F T H ds zs → DenL F T H as (gV [x] zs)) ∧ Hand S as W2 R) : Ev F T (tMethKw (T.cl c) m n (spN F T S) gV ta tk) G W R := fun C H O σ w Q q =>
  h C H O σ w _ fun d W1 H1 O1 x ⟨ns, l, i, hm, ha⟩ n1 k1 => by
    obtain ⟨a, dx, fs, e, h1, h2, h3⟩ := i.at n1.dis n1.own k1
    subst e
    refine ⟨a, dx, fs, rfl, h1, look_none (by rw [h2]; exact hm), ha C H1 O1 σ (w.step n1) _ fun ds W2 H2 O2 vs ⟨hl, as, hg, hh⟩ n2 k2 => ⟨by rw [k2.len]; exact hl, ?_⟩⟩
    exact hh.run n2.dis n2.oc n2.own (hg H2 _ vs (k1.mono n2.ext) k2) fun d W' H' O' v r n3 kd => q d W' H' O' v r ((n1.trans n2).trans n3) kd
/-- *e among the arguments -/
theorem ea_star {R : List D → Om → Prop} (h : Ev F T te G W fun d W1 => ∃ l, (Vl W1 d l ∨ d = .tup l) ∧ EvA F T tr G W1 fun ds W2 => R (l ++ ds) W2) : EvA F T (StX.tStar T.K te tr) G W R := fun C H O σ w Q q =>
  h C H O σ w _ fun d W1 H1 O1 x ⟨l, hv, ha⟩ n1 k1 => by
    have : ∃ p xs, x = V.ref p ∧ (SqT T.K (ov O1 H1) p xs ∨ SqL T.K (ov O1 H1) p xs) ∧ DenL F T H1 l xs := by
      rcases hv with hv | rfl
      · obtain ⟨p, xs, e, hs, kl⟩ := hv.sq n1.own n1.dis k1
        exact ⟨p, xs, e, .inr hs, kl⟩
      · obtain ⟨p, xs, e, hs, kl⟩ := k1
        exact ⟨p, xs, e, .inl (Same.sqT n1.dis.same hs), kl⟩
    obtain ⟨p, xs, e, hs, kl⟩ := this
    refine ⟨p, xs, e, hs, ha C H1 O1 σ (w.step n1) _ fun ds W2 H2 O2 vs r n2 k2 => ?_⟩
    exact q _ W2 H2 O2 _ r (n1.trans n2) ((kl.mono n2.ext).app k2)
theorem sw_par3 {E : En} {i j l : Nat} {ta : TA} (h : EvA F T ta G W fun ds W' => ∃ d1 d2 d3, ds = [d1, d2, d3] ∧ E.nx (((G.set i (some d1)).set j (some d2)).set l (some d3)) W') : Sw F T (tPar3 i j l ta) G W E := fun C H O σ w B b =>
  h C H O σ w _ fun ds W' H' O' vs ⟨d1, d2, d3, e, r⟩ n k => by
    subst e
    obtain ⟨v1, r1, e1, k1, v2, r2, e2, k2, v3, r3, e3, k3, e4⟩ := k
    have e4 : r3 = [] := e4
    subst e4 e3 e2 e1
    exact ⟨v1, v2, v3, rfl, b.nx _ W' H' O' _ r n ((((w.loc.mono n.ext).set k1).set k2).set k3)⟩
/-- dict(pairs) -/
def rDictP (K : PySem.W.Frag) : List V → Hp → VK → Prop := fun xs H Q => ∃ (a : Addr) (ps : List Addr) (kvs : List (Key × V)), xs = [.ref a] ∧ SqL K H a (ps.map V.ref) ∧ Paired (fun p kv => SqT K H p [kV kv.1, kv.2]) ps kvs ∧ ∀ p, H p = none → Q (.ref p) (upd H p (.dK (mergeK [] kvs)))
theorem den_pairs (di : Dis O H) : ∀ {ps : List (Key × D)} {xs : List V}, DenL F T H (ps.map fun p => .tup [kD p.1, p.2]) xs → ∃ (as : List Addr) (kvs : List (Key × V)), xs = as.map V.ref ∧ Paired (fun p kv => SqT T.K (ov O H) p [kV kv.1, kv.2]) as kvs ∧ kvs.map (·.1) = ps.map (·.1) ∧ DenL F T H (ps.map (·.2)) (kvs.map (·.2))
  | [], xs, k => by
    have k : xs = [] := k
    subst k
    exact ⟨[], [], rfl, .nil, rfl, rfl⟩
  | (key, z) :: ps, xs, ⟨v, r, e, ⟨a, us, e1, hs, k1⟩, k2⟩ => by
    obtain ⟨as, kvs, e2, h1, h2, h3⟩ := den_pairs di (ps := ps) k2
    obtain ⟨u1, r1, e3, q1, u2, r2, e4, q2, e5⟩ := k1
    have e5 : r2 = [] := e5
    have q1 : u1 = kV key := q1
    subst e5 e4 e3 e1 e2 q1 e
    exact ⟨a :: as, (key, u2) :: kvs, rfl, .cons (Same.sqT di.same hs) h1, by simp [h2], ⟨u2, _, rfl, q2, h3⟩⟩
theorem ca_dictP {ps : List (Key × D)} (hv : Vl W d (ps.map fun p => .tup [kD p.1, p.2])) (h : ∀ p, p ∉ akeys W → R (.adr p) ((p, .dp (mergeG ps)) :: W)) : Ca F T (rDictP T.K) [d] W R := ca_one fun C H O di oc ow x hx Q q => by
  obtain ⟨a, xs, e, ha, ka⟩ := hv.sq ow di hx
  obtain ⟨as, kvs, e2, h1, h2, h3⟩ := den_pairs di ka
  subst e2
  refine ⟨a, as, kvs, by rw [e], ha, h1, fun p hp => ?_⟩
  obtain ⟨m1, m2, m3⟩ := mergeK_keys (F := F) (T := T) (H := H) (acc := []) (av := []) h2 rfl List.nodup_nil h3 (show DenL F T H (([] : List (Key × D)).map (·.2)) (([] : List (Key × V)).map (·.2)) from rfl)
  obtain ⟨n2, e3, np⟩ := (Nx.refl di oc ow).newO (od := .dp (mergeG ps)) (o := .dK (mergeK [] kvs)) hp ⟨mergeK [] kvs, rfl, m1, m2, m3⟩
  rw [e3]
  exact q (.adr p) _ _ _ _ (h p np) n2 rfl
end
section
variable {X : Cx}
theorem cr_dictP (hcalm : X.calm = true) : CallR X (.type "dict") (rDictP X.K) := call_dictP hcalm
end
section
variable {F : FmKit} {T : Kx} {G : Gm} {W : Om} {R : D → Om → Prop}
/-- {k: e, ..}, frozen at once -/
theorem ev_dispF {trs : List (TE × TE)} (h : EvPs F T trs G W [] fun ps W' => ps.length ≤ 15 ∧ R (.dp (mergeG ps)) W') : Ev F T (tDisp trs) G W R := by
  have up : ∀ (trs : List (TE × TE)) (W : Om) (acc : List (Key × D)) (Y Z : List (Key × D) → Om → Prop), (∀ ps W', Y ps W' → Z ps W') → EvPs F T trs G W acc Y → EvPs F T trs G W acc Z := by
    intro trs
    induction trs with
    | nil => exact fun W acc Y Z i h => i _ _ h
    | cons t trs ih => exact fun W acc Y Z i h => Ev.imp h fun y W1 h1 => Ev.imp h1 fun z W2 ⟨k, e, h2⟩ => ⟨k, e, ih _ _ _ _ i h2⟩
  exact ev_fz (ev_disp (up _ _ _ _ _ (fun ps W' ⟨h1, h2⟩ => ⟨h1, fun p hp => ⟨p, _, W', _, rfl, List.Perm.refl _, .dct _ _, h2⟩⟩) h))
end
end N
set_option Elab.async false
set_option linter.all false
set_option maxRecDepth 100000
set_option maxHeartbeats 1000000
namespace PySem
open Sem (wp)
/-- a zip that stands, strict -/
abbrev StrictZip (hp : Heap) (z ins held : Addr) (v : Value) : Prop := hp.get? z = some { cls := .type "zip", data := .fields #[v, .bool false, .bool true, .ref ins, .ref held] }
section
variable {prog : Program} {w : World} {A : Around} {E : Value → Shared → Prop} {s : Shared} {z ins held j1 j2 : Addr} {f1 f2 : List Addr} {n i : Nat} {P1 P2 P : Nat → Value → Prop} {S1 S2 St : Nat → Heap → Prop} {u1 u2 : Value} {it : Addr} {fp : List Addr}
theorem orEnd_more {Q : Option Value → Shared → Prop} (D : Draws prog w A it fp n P St) (hi : i < n) (st : St i s.heap) (q : ∀ x hp tk, P i x → St (i + 1) hp → Heap.SameBut it s.heap hp → Q (some x) { s with heap := hp, toks := tk }) :
    wpAny (model prog w) A (Builtin.SmallTypes.nextOrEnd (.ref it)) Q E s :=
  wpAny_bind (wpAny_attempt (D.item i s _ _ hi st fun x hp tk a b c => wpAny_pure (q x hp tk a b c)))
theorem orEnd_none {Q : Option Value → Shared → Prop} (D : Draws prog w A it fp n P St) (st : St n s.heap) (q : ∀ hp, Heap.ExtBut it s.heap hp → Q none { s with heap := hp }) :
    wpAny (model prog w) A (Builtin.SmallTypes.nextOrEnd (.ref it)) Q E s :=
  wpAny_bind (wpAny_attempt (D.done s _ _ st fun hp e k ⟨o, ho, hc⟩ => wpAny_bind (wpAny_isInstance (T := "StopIteration") (b := true) ⟨o, ho, hc⟩ isSubtype_stop (wpAny_pure (q hp k)))))
theorem strict_more {Q : Value → Shared → Prop} (S : ZipSep2 z ins held j1 j2 f1 f2) (D1 : Draws prog w A j1 f1 n P1 S1) (D2 : Draws prog w A j2 f2 n P2 S2)
    (hz : StrictZip s.heap z ins held .none) (hI : IsTupOf2 s.heap ins (.ref j1) (.ref j2)) (hO : IsTupOf2 s.heap held u1 u2) (k1 : S1 i s.heap) (k2 : S2 i s.heap) (hi : i < n)
    (q : ∀ x y hp tk, P1 i x → P2 i y → StrictZip hp z ins held (rawInt s.heap.objs.size) → IsTupOf2 hp held x y → S1 (i + 1) hp → S2 (i + 1) hp → IsTupOf2 hp s.heap.objs.size x y → hp.objs.size = s.heap.objs.size + 1 →
      (∀ c o, c ∉ [z, held, j1, j2] → s.heap.get? c = some o → hp.get? c = some o) → Q (.ref s.heap.objs.size) { s with heap := hp, toks := tk }) :
    wpAny (model prog w) A (Builtin.«zip.__next__» ⟨[.ref z], []⟩) (fun fin s' => ∃ v, fin = .done (.ret v) ∧ Q v s') E s := by
  obtain ⟨h0, g, d, t0, os⟩ := s
  simp only at hz hI hO k1 k2 q
  have af : ∀ {k : Nat} {x : Value} {Q : Value → Shared → Prop} {E : Value → Shared → Prop}, (#[Value.none, .bool false, .bool true, .ref ins, .ref held] : Array Value)[k]? = some x → Q x ⟨h0, g, d, t0, os⟩ → wpAny (model prog w) A (field (.ref z) k) Q E ⟨h0, g, d, t0, os⟩ := fun e q => wpAny_field hz rfl e q
  have ast : ∀ {Q : Unit → Shared → Prop} {E : Value → Shared → Prop}, (∀ h1, StrictZip h1 z ins held .ellipsis → Heap.SameBut z h0 h1 → Q () ⟨h1, g, d, t0, os⟩) → wpAny (model prog w) A (setField (.ref z) 0 .ellipsis) Q E ⟨h0, g, d, t0, os⟩ := fun q => wpAny_setField_rec hz (by simp) fun h1 a b => q h1 a b
  wp_walk using wpAny_seqItems hI rfl, ast, wpAny_onRaise
  intro h1 z1 b1
  have r1 : ∀ {Q : Option Value → Shared → Prop} {E : Value → Shared → Prop}, (∀ x hp tk, P1 i x → S1 (i + 1) hp → Heap.SameBut j1 h1 hp → Q (some x) ⟨hp, g, d, tk, os⟩) → wpAny (model prog w) A (Builtin.SmallTypes.nextOrEnd (.ref j1)) Q E ⟨h1, g, d, t0, os⟩ := fun q => orEnd_more D1 hi (D1.over k1 b1 S.zf1) q
  wp_walk using wpAny_onRaise, r1
  intro x h2 t2 px k1 b2
  have o2 : IsTupOf2 h2 held u1 u2 := b2.extBut _ _ S.Ti1 (b1.extBut _ _ S.TOz hO)
  have r2 : ∀ {k : Nat} {x : Value} {Q : Unit → Shared → Prop} {E : Value → Shared → Prop}, (∀ hp, hp.get? held = some { cls := .type "tuple", data := .seq ((#[u1, u2] : Array Value).setIfInBounds k x) } → Heap.SameBut held h2 hp → Q () ⟨hp, g, d, t2, os⟩) → wpAny (model prog w) A (updateSeq held (·.setIfInBounds k x)) Q E ⟨h2, g, d, t2, os⟩ := fun q => updateSeq_IsTupOf2 o2 q
  wp_walk using wpAny_seqItems o2 rfl, r2
  intro h3 o3 b3
  replace o3 : IsTupOf2 h3 held x u2 := o3
  have r3 : ∀ {Q : Option Value → Shared → Prop} {E : Value → Shared → Prop}, (∀ x hp tk, P2 i x → S2 (i + 1) hp → Heap.SameBut j2 h3 hp → Q (some x) ⟨hp, g, d, tk, os⟩) → wpAny (model prog w) A (Builtin.SmallTypes.nextOrEnd (.ref j2)) Q E ⟨h3, g, d, t2, os⟩ := fun q => orEnd_more D2 hi (D2.over (D2.over (D2.over k2 b1 S.zf2) b2 S.sep1_2) b3 S.Tf2) q
  wp_walk using wpAny_onRaise, r3
  intro y h4 t4 py k2 b4
  have o4 : IsTupOf2 h4 held x u2 := b4.extBut _ _ S.Ti2 o3
  have r4 : ∀ {k : Nat} {v : Value} {Q : Unit → Shared → Prop} {E : Value → Shared → Prop}, (∀ hp, hp.get? held = some { cls := .type "tuple", data := .seq ((#[x, u2] : Array Value).setIfInBounds k v) } → Heap.SameBut held h4 hp → Q () ⟨hp, g, d, t4, os⟩) → wpAny (model prog w) A (updateSeq held (·.setIfInBounds k v)) Q E ⟨h4, g, d, t4, os⟩ := fun q => updateSeq_IsTupOf2 o4 q
  wp_walk using wpAny_seqItems o4 rfl, r4
  intro h5 o5 b5
  replace o5 : IsTupOf2 h5 held x y := o5
  have sz : h5.objs.size = h0.objs.size := by rw [b5.1, b4.1, b3.1, b2.1, b1.1]
  have z5 : StrictZip h5 z ins held .ellipsis := b5.extBut _ _ S.TOz.symm (b4.extBut _ _ S.zi2 (b3.extBut _ _ S.TOz.symm (b2.extBut _ _ S.zi1 z1)))
  have lt : z < h5.objs.size := Heap.lt_size z5
  have z6 : StrictZip (h5.push { cls := .type "tuple", data := .seq #[x, y] }) z ins held .ellipsis := Heap.get?_push_of_some _ z5
  have r6 : ∀ {hp : Heap} {f : Value} {v : Value} {Q : Unit → Shared → Prop} {E : Value → Shared → Prop}, StrictZip hp z ins held f → (∀ hq, StrictZip hq z ins held v → Heap.SameBut z hp hq → Q () ⟨hq, g, d, t4, os⟩) → wpAny (model prog w) A (setField (.ref z) 0 v) Q E ⟨hp, g, d, t4, os⟩ := fun a q => wpAny_setField_rec a (by simp) fun hq b c => q hq b c
  have r7 : ∀ {hp : Heap} {f : Value} {Q : Unit → Shared → Prop} {E : Value → Shared → Prop}, StrictZip hp z ins held f → (∀ hq, StrictZip hq z ins held f → Heap.SameBut z hp hq → Q () ⟨hq, g, d, t4, os⟩) → wpAny (model prog w) A (setField (.ref z) 1 (.bool false)) Q E ⟨hp, g, d, t4, os⟩ := fun a q => wpAny_setField_rec a (by simp) fun hq b c => q hq b c
  wp_walk using wpAny_seqItems o5 rfl, r6 z6
  intro h7 z7 b7
  refine r7 z7 fun h8 z8 b8 => wpAny_pure ⟨_, rfl, ?_⟩
  have up : ∀ c o, c ≠ z → h5.get? c = some o → h8.get? c = some o := fun c o ne e => b8.extBut _ _ ne (b7.extBut _ _ ne (Heap.get?_push_of_some _ e))
  have new : IsTupOf2 h8 h5.objs.size x y := b8.extBut _ _ (Nat.ne_of_gt lt) (b7.extBut _ _ (Nat.ne_of_gt lt) (Heap.get?_push_size _ rfl))
  have e8 : h8.objs.size = h5.objs.size + 1 := by rw [b8.1, b7.1, Heap.size_push]
  rw [sz] at z8 new e8
  have a1 : S1 (i + 1) h8 := D1.frame _ _ _ (D1.over (D1.over (D1.over k1 b3 S.Tf1) b4 S.sep2_1) b5 S.Tf1) fun b hb o e => up b o (fun q => S.zf1 (q ▸ hb)) e
  have a2 : S2 (i + 1) h8 := D2.frame _ _ _ (D2.over k2 b5 S.Tf2) fun b hb o e => up b o (fun q => S.zf2 (q ▸ hb)) e
  rw [sz]
  refine q x y h8 t4 px py z8 (up _ _ S.TOz o5) a1 a2 new e8 fun c o nc e => ?_
  simp only [List.mem_cons, List.not_mem_nil, or_false, not_or] at nc
  obtain ⟨cz, cT, c1, c2⟩ := nc
  exact up c o cz (b5.extBut _ _ cT (b4.extBut _ _ c2 (b3.extBut _ _ cT (b2.extBut _ _ c1 (b1.extBut _ _ cz e)))))
theorem strict_none {Q : Fin → Shared → Prop} (hh : A.handled = none) (S : ZipSep2 z ins held j1 j2 f1 f2) (D1 : Draws prog w A j1 f1 n P1 S1) (D2 : Draws prog w A j2 f2 n P2 S2)
    (hz : StrictZip s.heap z ins held .none) (hI : IsTupOf2 s.heap ins (.ref j1) (.ref j2)) (k1 : S1 n s.heap) (k2 : S2 n s.heap)
    (q : ∀ hp tk e, (∀ c o, c ∉ [z, held, j1, j2] → s.heap.get? c = some o → hp.get? c = some o) → (∃ o, hp.get? e = some o ∧ o.cls = .type "StopIteration") → E (.ref e) { s with heap := hp, toks := tk }) :
    wpAny (model prog w) A (Builtin.«zip.__next__» ⟨[.ref z], []⟩) Q E s := by
  obtain ⟨h0, g, d, t0, os⟩ := s
  simp only at hz hI k1 k2 q
  have ast : ∀ {hp : Heap} {v f : Value} {Q : Unit → Shared → Prop} {E : Value → Shared → Prop}, StrictZip hp z ins held f → (∀ h1, StrictZip h1 z ins held v → Heap.SameBut z hp h1 → Q () ⟨h1, g, d, t0, os⟩) → wpAny (model prog w) A (setField (.ref z) 0 v) Q E ⟨hp, g, d, t0, os⟩ := fun a q => wpAny_setField_rec a (by simp) fun h1 a b => q h1 a b
  wp_walk using wpAny_seqItems hI rfl, ast hz, wpAny_onRaise
  intro h1 z1 b1
  have r1 : ∀ {Q : Option Value → Shared → Prop} {E : Value → Shared → Prop}, (∀ hp, Heap.ExtBut j1 h1 hp → Q none ⟨hp, g, d, t0, os⟩) → wpAny (model prog w) A (Builtin.SmallTypes.nextOrEnd (.ref j1)) Q E ⟨h1, g, d, t0, os⟩ := fun q => orEnd_none D1 (D1.over k1 b1 S.zf1) q
  wp_walk using wpAny_onRaise, r1
  intro h2 b2
  have z2 : StrictZip h2 z ins held .ellipsis := b2 _ _ S.zi1 z1
  wp_walk using ast z2
  intro h3 z3 b3
  have r2 : ∀ {Q : Option Value → Shared → Prop} {E : Value → Shared → Prop}, (∀ hp, Heap.ExtBut j2 h3 hp → Q none ⟨hp, g, d, t0, os⟩) → wpAny (model prog w) A (Builtin.SmallTypes.nextOrEnd (.ref j2)) Q E ⟨h3, g, d, t0, os⟩ := fun q => orEnd_none D2 (D2.over (D2.frame _ _ _ (D2.over k2 b1 S.zf2) fun b hb o e => b2 b o (fun x => S.sep1_2 (x ▸ hb)) e) b3 S.zf2) q
  wp_walk using r2
  intro h4 b4
  wp_walk
  simp only [raiseNew]
  refine wpAny_bind (wpAny_handled ?_)
  rw [hh]
  refine wpAny_bind (wpAny_pure (wpAny_throw ?_))
  refine q _ _ _ (fun c o nc e => ?_) ⟨_, Heap.get?_push_size _ rfl, rfl⟩
  simp only [List.mem_cons, List.not_mem_nil, or_false, not_or] at nc
  obtain ⟨cz, cT, c1, c2⟩ := nc
  exact Heap.get?_push_of_some _ (Heap.get?_push_of_some _ (b4 _ _ c2 (b3.extBut _ _ cz (b2 _ _ c1 (b1.extBut _ _ cz e)))))
theorem next_more {Q : Option Value → Shared → Prop} (S : ZipSep2 z ins held j1 j2 f1 f2) (D1 : Draws prog w A.in1 j1 f1 n P1 S1) (D2 : Draws prog w A.in1 j2 f2 n P2 S2)
    (hz : StrictZip s.heap z ins held .none) (hI : IsTupOf2 s.heap ins (.ref j1) (.ref j2)) (hO : IsTupOf2 s.heap held u1 u2) (k1 : S1 i s.heap) (k2 : S2 i s.heap) (hi : i < n)
    (q : ∀ x y hp tk, P1 i x → P2 i y → StrictZip hp z ins held (rawInt s.heap.objs.size) → IsTupOf2 hp held x y → S1 (i + 1) hp → S2 (i + 1) hp → IsTupOf2 hp s.heap.objs.size x y → hp.objs.size = s.heap.objs.size + 1 →
      (∀ c o, c ∉ [z, held, j1, j2] → s.heap.get? c = some o → hp.get? c = some o) → Q (some (.ref s.heap.objs.size)) { s with heap := hp, toks := tk }) : wpAny (model prog w) A (pyNext (.ref z)) Q E s :=
  have ty : s.TypeIs (.ref z) "zip" := ⟨_, hz, rfl⟩
  wpAny_bind (wpAny_attempt (wpAny_callSpecial?_slot (name := Str.ofString "__next__") ty F.slot_zip_next (wpAny_call_entry F.slot_zip_next ty F.entry_zip_next
    (strict_more S D1 D2 hz hI hO k1 k2 hi fun x y hp tk a b c d e f g h l => wpAny_pure (q x y hp tk a b c d e f g h l)) (F.args_zip_next_1 _))))
theorem next_none {Q : Option Value → Shared → Prop} (hh : A.handled = none) (S : ZipSep2 z ins held j1 j2 f1 f2) (D1 : Draws prog w A.in1 j1 f1 n P1 S1) (D2 : Draws prog w A.in1 j2 f2 n P2 S2)
    (hz : StrictZip s.heap z ins held .none) (hI : IsTupOf2 s.heap ins (.ref j1) (.ref j2)) (k1 : S1 n s.heap) (k2 : S2 n s.heap)
    (q : ∀ hp tk, (∀ c o, c ∉ [z, held, j1, j2] → s.heap.get? c = some o → hp.get? c = some o) → Q none { s with heap := hp, toks := tk }) : wpAny (model prog w) A (pyNext (.ref z)) Q E s :=
  have ty : s.TypeIs (.ref z) "zip" := ⟨_, hz, rfl⟩
  wpAny_bind (wpAny_attempt (wpAny_callSpecial?_slot (name := Str.ofString "__next__") ty F.slot_zip_next (wpAny_call_entry F.slot_zip_next ty F.entry_zip_next
    (strict_none (show A.in1.handled = none from hh) S D1 D2 hz hI k1 k2 fun hp tk e k ⟨o, ho, hc⟩ => wpAny_bind (wpAny_isInstance (T := "StopIteration") (b := true) ⟨o, ho, hc⟩ isSubtype_stop (wpAny_pure (q _ _ k)))) (F.args_zip_next_1 _))))
theorem go_strict {elts : List Expr} {kk : Nat} {pos : Pos} {T : Addr} {Q : Unit → Shared → Prop} (hz : StrictZip s.heap z ins held (rawInt T)) (q : ∀ hp, StrictZip hp z ins held .none → Heap.SameBut z s.heap hp → Q () { s with heap := hp }) :
    wpAny (model prog w) A (letOwnedTupleGo (.Tuple elts kk pos) (.ref z) (.ref T)) Q E s := by
  unfold letOwnedTupleGo
  refine wpAny_bind (wpAny_load hz ?_)
  refine wpAny_ite_true (by simp) ?_
  exact wpAny_bind (wpAny_rule (wpAny_setField_rec hz (by simp) fun hp a b => q hp a b))
theorem iter_strict {v : Value} {Q : Value → Shared → Prop} (hz : StrictZip s.heap z ins held v) (q : Q (.ref z) s) : wpAny (model prog w) A (pyIter (.ref z)) Q E s :=
  have ty : s.TypeIs (.ref z) "zip" := ⟨_, hz, rfl⟩
  wpAny_pyIter_slot ty F.slot_zip_iter (wpAny_call_entry F.slot_zip_iter ty F.entry_zip_iter (wpAny_pure ⟨_, rfl, "zip", _, ty, F.slot_zip_next.lookup, q⟩) (F.args_zip_iter_1 _))
end
end PySem
set_option Elab.async false
set_option linter.all false
set_option maxRecDepth 100000
set_option maxHeartbeats 1000000
namespace N
open PySem PySem.Spec PyProof.Rows L2
open C8 (Cal Met Mak InsC pe_c pe_mt pe_mt0 pe_mk)
inductive Kd
  | lst (a : Addr)
  | tup (a : Addr)
  | txt (x : Str)
def Kd.v : Kd → V
  | .lst a => .ref a
  | .tup a => .ref a
  | .txt x => .str x
def Kd.src (K : PySem.W.Frag) (H : Hp) : Kd → List V → Prop
  | .lst a, xs => SqL K H a xs
  | .tup a, xs => SqT K H a xs
  | .txt x, xs => xs = x.cps.toList.map fun c => V.str ⟨#[c]⟩
def Kd.at (k : Kd) (t : Tok) (it : Addr) (i : Nat) (h : Heap) : Prop := match k with
  | .lst a => h.IsListIter it a i
  | .tup a => h.IsTupleIter it a i
  | .txt x => h.IsStrIter it (strIterType x) x t i
def Kd.low (k : Kd) (b : Nat) : Prop := match k with
  | .lst a => a < b
  | .tup a => a < b
  | .txt _ => True
theorem Kd.keep {k : Kd} {t : Tok} {it : Addr} {i : Nat} {h h' : Heap} (s : k.at t it i h) (e : ∀ o, h.get? it = some o → h'.get? it = some o) : k.at t it i h' := by
  cases k with
  | lst a => exact Heap.IsListIter.at s e
  | tup a => exact Heap.IsTupleIter.at s e
  | txt x =>
    obtain ⟨o, ho, r⟩ := s
    exact ⟨o, e o ho, r⟩
theorem Kd.obj {k : Kd} {t : Tok} {it : Addr} {i : Nat} {h : Heap} (s : k.at t it i h) : ∃ o, h.get? it = some o ∧ ∀ v, o.data ≠ .cell v := by
  cases k with
  | lst a =>
    obtain ⟨o, e, _, d⟩ := s
    exact ⟨o, e, fun v q => by rw [d] at q; cases q⟩
  | tup a =>
    obtain ⟨o, e, _, d⟩ := s
    exact ⟨o, e, fun v q => by rw [d] at q; cases q⟩
  | txt x =>
    obtain ⟨o, e, _, d⟩ := s
    exact ⟨o, e, fun v q => by rw [d] at q; cases q⟩
section
variable {X : Cx} {pins : List (Addr × Obj)} {σ : L2.St} {H : Hp} {s : Shared}
theorem Kd.inj {k : Kd} {xs ys : List V} (I : Inv X pins σ H s) (h : k.src X.K H xs) (h' : k.src X.K H ys) : xs = ys := by
  cases k with
  | lst a => exact I.list_inj h h'
  | tup a => exact I.tuple_inj h h'
  | txt x => exact Eq.trans h (Eq.symm h')
/-- the iterator over a source, as it stands now -/
theorem Kd.draws {k : Kd} {t : Tok} {it : Addr} {xs : List V} (I : Inv X pins σ H s) (hc : X.calm = true) (hs : k.src X.K H xs) {b : Nat} (hl : k.low b) (hb : b ≤ it) :
    ∃ (fp : List Addr) (P : Nat → Value → Prop) (St : Nat → Heap → Prop), Draws X.prog X.w X.A.in1 it fp xs.length P St ∧ it ∈ fp ∧ (∀ c ∈ fp, c = it ∨ c < b) ∧ (∀ i, k.at t it i s.heap → St i s.heap) ∧ (∀ i h, St i h → k.at t it i h) ∧ ∀ i v, P i v → ∃ x, xs[i]? = some x ∧ RelV x v := by
  have hh : X.A.in1.handled = none := I.ok.hd hc
  cases k with
  | lst a =>
    obtain ⟨its, rv, p, _⟩ := I.list hs
    have ne : a ≠ it := Nat.ne_of_lt (Nat.lt_of_lt_of_le hl hb)
    have D := Draws.list (prog := X.prog) (w := X.w) hh it a ne its.toArray
    have e : its.toArray.size = xs.length := by simp [rv.length]
    rw [e] at D
    refine ⟨_, _, _, D, by simp, fun c hc => ?_, fun i st => ⟨st, p.isList⟩, fun i h st => st.1, fun i v h => ?_⟩
    · simp at hc
      rcases hc with e | e
      · exact .inl e
      · subst e
        exact .inr hl
    · have h : its[i]? = some v := by simpa using h
      have hi : i < xs.length := by
        have := (List.getElem?_eq_some_iff.mp h).1
        rw [rv.length]
        exact this
      obtain ⟨u, hu, ru⟩ := rv.get (List.getElem?_eq_getElem hi)
      rw [h] at hu
      cases hu
      exact ⟨_, List.getElem?_eq_getElem hi, ru⟩
  | tup a =>
    obtain ⟨its, rv, p, _⟩ := I.tuple hs
    have ne : a ≠ it := Nat.ne_of_lt (Nat.lt_of_lt_of_le hl hb)
    have D := Draws.tuple (prog := X.prog) (w := X.w) hh it a ne its.toArray
    have e : its.toArray.size = xs.length := by simp [rv.length]
    rw [e] at D
    refine ⟨_, _, _, D, by simp, fun c hc => ?_, fun i st => ⟨st, p⟩, fun i h st => st.1, fun i v h => ?_⟩
    · simp at hc
      rcases hc with e | e
      · exact .inl e
      · subst e
        exact .inr hl
    · have h : its[i]? = some v := by simpa using h
      have hi : i < xs.length := by
        have := (List.getElem?_eq_some_iff.mp h).1
        rw [rv.length]
        exact this
      obtain ⟨u, hu, ru⟩ := rv.get (List.getElem?_eq_getElem hi)
      rw [h] at hu
      cases hu
      exact ⟨_, List.getElem?_eq_getElem hi, ru⟩
  | txt x =>
    have hs : xs = x.cps.toList.map fun c => V.str ⟨#[c]⟩ := hs
    subst hs
    have D := Draws.text (prog := X.prog) (w := X.w) hh it x t
    have e : (x.cps.toList.map fun c => V.str ⟨#[c]⟩).length = x.cps.size := by simp
    rw [e]
    refine ⟨_, _, _, D, by simp, fun c hc => .inl (by simpa using hc), fun i st => st, fun i h st => st, fun i v ⟨c, u, h1, h2⟩ => ?_⟩
    refine ⟨.str ⟨#[c]⟩, ?_, u, h2⟩
    rw [List.getElem?_map]
    have : x.cps.toList[i]? = some c := by simpa using h1
    rw [this]
    rfl
end
def ZAt (strict : Bool) (h : Heap) (z ins held : Addr) (v : Value) : Prop := if strict then StrictZip h z ins held v else IsZip h z ins held v
def ItzK (K : PySem.W.Frag) (k1 k2 : Kd) (strict : Bool) : It :=
  ⟨fun i H => ∃ xs ys : List V, k1.src K H xs ∧ k2.src K H ys ∧ i < xs.length ∧ i < ys.length ∧ (strict = true → xs.length = ys.length),
    fun i H v H' => ∃ T x y, v = .ref T ∧ H T = none ∧ H' = upd H T (.tup [x, y]) ∧ (∀ xs, k1.src K H xs → xs[i]? = some x) ∧ ∀ ys, k2.src K H ys → ys[i]? = some y,
    fun i H => ∃ xs ys : List V, k1.src K H xs ∧ k2.src K H ys ∧ i ≤ xs.length ∧ i ≤ ys.length ∧ (i = xs.length ∨ i = ys.length) ∧ (strict = true → xs.length = ys.length)⟩
theorem ne_add {b c d : Nat} (h : c ≠ d) : b + c ≠ b + d := by omega
theorem zno {b k : Nat} (h : k ≠ 0) (_ : 0 ≠ k) : ¬ (b + k = b ∨ b + k < b) := by omega
theorem zno2 {b k : Nat} (h : k ≠ 1) : ¬ (b + k = b + 1 ∨ b + k < b) := by omega
theorem zsep {b : Nat} {f1 f2 : List Addr} (m1 : b ∈ f1) (m2 : b + 1 ∈ f2) (h1 : ∀ c ∈ f1, c = b ∨ c < b) (h2 : ∀ c ∈ f2, c = b + 1 ∨ c < b) : ZipSep2 (b + 4) (b + 2) (b + 3) b (b + 1) f1 f2 where
  TIz := ne_add (by decide)
  TOz := ne_add (by decide)
  TITO := ne_add (by decide)
  TIi1 := ne_add (c := 2) (d := 0) (by decide)
  mem1 := m1
  zf1 := fun h => zno (by decide) (by decide) (h1 _ h)
  Tf1 := fun h => zno (by decide) (by decide) (h1 _ h)
  TIi2 := ne_add (by decide)
  mem2 := m2
  zf2 := fun h => zno2 (by decide) (h2 _ h)
  Tf2 := fun h => zno2 (by decide) (h2 _ h)
  sep1_2 := fun h => zno2 (k := 0) (by decide) (h2 _ h)
  sep2_1 := fun h => zno (by decide) (by decide) (h1 _ h)
theorem turn_zipK {P : Program} {w : World} {K : PySem.W.Frag} {elts : List Expr} {kk : Nat} {tpos : Pos} {k1 k2 : Kd} {u1 u2 : Tok} {strict : Bool} {b : Nat} (l1 : k1.low b) (l2 : k2.low b) :
    Turn P w K (.Tuple elts kk tpos) (ItzK K k1 k2 strict) [b + 4, b + 2, b + 3, b, b + 1] (b + 4) (fun i h => ZAt strict h (b + 4) (b + 2) (b + 3) .none ∧ IsTupOf2 h (b + 2) (.ref b) (.ref (b + 1)) ∧ (∃ u v, IsTupOf2 h (b + 3) u v) ∧ k1.at u1 b i h ∧ k2.at u2 (b + 1) i h) where
  mem := by simp
  obj := fun i h st c hc => by
    obtain ⟨hz, hI, ⟨x, y, hO⟩, s1, s2⟩ := st
    simp only [List.mem_cons, List.not_mem_nil, or_false] at hc
    rcases hc with rfl | rfl | rfl | rfl | rfl
    · cases strict
      · exact ⟨_, hz, fun v q => nomatch q⟩
      · exact ⟨_, hz, fun v q => nomatch q⟩
    · exact ⟨_, hI, fun v q => nomatch q⟩
    · exact ⟨_, hO, fun v q => nomatch q⟩
    · exact Kd.obj s1
    · exact Kd.obj s2
  keep := fun i h h' st k => by
    obtain ⟨hz, hI, ⟨x, y, hO⟩, s1, s2⟩ := st
    refine ⟨?_, k _ (by simp) _ hI, ⟨x, y, k _ (by simp) _ hO⟩, Kd.keep s1 fun o e => k _ (by simp) o e, Kd.keep s2 fun o e => k _ (by simp) o e⟩
    cases strict
    · exact k (b + 4) (by simp) _ hz
    · exact k (b + 4) (by simp) _ hz
  item := by
    intro X hP hw hK hc i pins s σ H E I hf st hg
    subst hP hw hK
    obtain ⟨hz, hI, ⟨x0, y0, hO⟩, s1, s2⟩ := st
    obtain ⟨xs, ys, hx, hy, i1, i2, hst⟩ := hg
    obtain ⟨f1, P1, S1, D1, m1, b1, t1, o1, v1⟩ := Kd.draws (t := u1) (it := b) I hc hx l1 (Nat.le_refl _)
    obtain ⟨f2, P2, S2, D2, m2, b2, t2, o2, v2⟩ := Kd.draws (t := u2) (it := b + 1) I hc hy l2 (Nat.le_succ _)
    have S := zsep m1 m2 b1 b2
    have lt : b + 4 < s.heap.objs.size := by cases strict <;> exact Heap.lt_size hz
    have fin : ∀ (x y : Value) (h' h2 : Heap) (tk : Tok), P1 i x → P2 i y → ZAt strict h2 (b + 4) (b + 2) (b + 3) .none → Heap.SameBut (b + 4) h' h2 → IsTupOf2 h' (b + 3) x y → S1 (i + 1) h' → S2 (i + 1) h' → IsTupOf2 h' s.heap.objs.size x y →
        (∀ c o, c ≠ b + 4 → c ≠ b + 3 → c ≠ b → c ≠ b + 1 → s.heap.get? c = some o → h'.get? c = some o) →
        ∃ (v : V) (H' : Hp), Inv X pins σ H' { s with heap := h2, toks := tk } ∧ RelV v (.ref s.heap.objs.size) ∧ (ItzK X.K k1 k2 strict).yld i H v H' ∧
          (ZAt strict h2 (b + 4) (b + 2) (b + 3) .none ∧ IsTupOf2 h2 (b + 2) (.ref b) (.ref (b + 1)) ∧ (∃ u v, IsTupOf2 h2 (b + 3) u v) ∧ k1.at u1 b (i + 1) h2 ∧ k2.at u2 (b + 1) (i + 1) h2) ∧ ∀ c ∈ [b + 4, b + 2, b + 3, b, b + 1], H' c = none := by
      intro x y h' h2 tk px py z2 sb o' a1 a2 new kp
      obtain ⟨u, gu, ru⟩ := v1 i x px
      obtain ⟨v, gv, rv⟩ := v2 i y py
      have up : ∀ c o, c ≠ b + 4 → h'.get? c = some o → h2.get? c = some o := fun c o ne e => (sb.2 c ne).trans e
      have new2 : IsTupOf2 h2 s.heap.objs.size x y := up _ _ (Nat.ne_of_gt lt) new
      have ok : ObjOk X.prog X.w (upd H s.heap.objs.size (.tup [u, v])) h2 s.heap.objs.size (.tup [u, v]) :=
        ⟨by show 2 ≤ sizeLine; decide, [x, y], .cons ru (.cons rv .nil), ⟨_, new2, rfl, _, rfl⟩⟩
      have I1 : Inv X pins σ (upd H s.heap.objs.size (.tup [u, v])) { s with heap := h2, toks := tk } :=
        I.turnedNew (t' := tk) (ch := [b + 4, b + 2, b + 3, b, b + 1]) (fun c o hb q => up c o (fun q' => hb (by simp [q'])) (kp c o (fun q' => hb (by simp [q'])) (fun q' => hb (by simp [q'])) (fun q' => hb (by simp [q'])) (fun q' => hb (by simp [q'])) q)) hf (Nat.le_refl _) ok
      refine ⟨.ref s.heap.objs.size, _, I1, rfl, ⟨_, u, v, rfl, I.hok.fresh (Nat.le_refl _), rfl, fun l hl => by rw [Kd.inj I hl hx]; exact gu, fun l hl => by rw [Kd.inj I hl hy]; exact gv⟩, ⟨z2, ?_, ⟨x, y, up _ _ (ne_add (by decide)) o'⟩, ?_, ?_⟩, fun c hcm => ?_⟩
      · exact up _ _ (ne_add (by decide)) (kp _ _ (ne_add (by decide)) (ne_add (by decide)) (ne_add (c := 2) (d := 0) (by decide)) (ne_add (by decide)) hI)
      · exact Kd.keep (o1 _ _ a1) fun o e => up _ _ (ne_add (c := 0) (d := 4) (by decide)) e
      · exact Kd.keep (o2 _ _ a2) fun o e => up _ _ (ne_add (by decide)) e
      · have hlt : c < s.heap.objs.size := by
          simp only [List.mem_cons, List.not_mem_nil, or_false] at hcm
          have lt : (b : Nat) + 4 < s.heap.objs.size := lt
          rcases hcm with rfl | rfl | rfl | rfl | rfl
          · exact lt
          · exact Nat.lt_trans (Nat.add_lt_add_left (by decide) b) lt
          · exact Nat.lt_trans (Nat.add_lt_add_left (by decide) b) lt
          · exact Nat.lt_of_le_of_lt (Nat.le_add_right _ 4) lt
          · exact Nat.lt_trans (Nat.add_lt_add_left (by decide) b) lt
        rw [upd_ne (Nat.ne_of_lt hlt)]
        exact (hf c hcm).1
    cases strict with
    | false =>
      refine wpAny_pyNext_zipD2_item S D1 D2 hz hI hO (t1 _ s1) (t2 _ s2) i1 i2 fun x y h' tk px py z' o' a1 a2 new _ kp => ?_
      exact ⟨_, rfl, wpAny_letOwnedTupleGo_zip (s := { s with heap := h', toks := tk }) z' fun h2 z2 sb => fin x y h' h2 tk px py z2 sb o' a1 a2 new kp⟩
    | true =>
      have e := hst rfl
      rw [← e] at D2
      refine next_more S D1 D2 hz hI hO (t1 _ s1) (t2 _ s2) i1 fun x y h' tk px py z' o' a1 a2 new _ kp => ?_
      exact ⟨_, rfl, go_strict (s := { s with heap := h', toks := tk }) z' fun h2 z2 sb => fin x y h' h2 tk px py z2 sb o' a1 a2 new fun c o c1 c2 c3 c4 q => kp c o (by simp only [List.mem_cons, List.not_mem_nil, or_false, not_or]; exact ⟨c1, c2, c3, c4⟩) q⟩
  done := by
    intro X hP hw hK hc i pins s σ H E I hf st hg
    subst hP hw hK
    obtain ⟨hz, hI, ⟨x0, y0, hO⟩, s1, s2⟩ := st
    obtain ⟨xs, ys, hx, hy, i1, i2, he, hst⟩ := hg
    obtain ⟨f1, P1, S1, D1, m1, b1, t1, o1, v1⟩ := Kd.draws (t := u1) (it := b) I hc hx l1 (Nat.le_refl _)
    obtain ⟨f2, P2, S2, D2, m2, b2, t2, o2, v2⟩ := Kd.draws (t := u2) (it := b + 1) I hc hy l2 (Nat.le_succ _)
    have S := zsep m1 m2 b1 b2
    cases strict with
    | false => exact wpAny_pyNext_zipD2_end S D1 D2 hz hI hO (t1 _ s1) (t2 _ s2) i1 i2 he fun h' tk k => ⟨rfl, I.turnedL (t' := tk) (ch := [b + 4, b + 2, b + 3, b, b + 1]) (fun c o hb q =>
        k c o (fun q' => hb (by simp [q'])) (fun q' => hb (by simp [q'])) (fun q' => hb (by simp [q'])) (fun q' => hb (by simp [q'])) q) hf⟩
    | true =>
      have e := hst rfl
      have ei : i = xs.length := by omega
      subst ei
      rw [← e] at D2
      exact next_none (I.ok.hd hc) S D1 D2 hz hI (t1 _ s1) (t2 _ s2) fun h' tk k => ⟨rfl, I.turnedL (t' := tk) (ch := [b + 4, b + 2, b + 3, b, b + 1]) (fun c o hb q => k c o (fun q' => hb (by simp only [List.mem_cons, List.not_mem_nil, or_false] at q' ⊢; rcases q' with h | h | h | h <;> simp [h])) q) hf⟩
  self := fun A i s Q E st h => by
    cases strict
    · exact wpAny_pyIter_zip st.1 h
    · exact iter_strict st.1 h
end N
set_option Elab.async false
set_option linter.all false
set_option maxRecDepth 100000
set_option maxHeartbeats 1000000
namespace PySem
open Sem (wp)
theorem tc_strict (a b : Value) : checkTypeCall "zip" ⟨[a, b], [(Str.ofString "strict", .bool true)]⟩ = pure () := by kernel_rfl
theorem nc_strict (a b : Value) : checkBuiltinCall "zip.__new__" ⟨[.type "zip", a, b], [(Str.ofString "strict", .bool true)]⟩ = pure () := by kernel_rfl
theorem ao_strict (obj a b : Value) : argsOk "object.__init__" ⟨[obj, a, b], [(Str.ofString "strict", .bool true)]⟩ := by unfold argsOk; kernel_rfl
def zs1 (h : Heap) (p q : Obj) : Heap := (h.push p).push q
def zs2 (h : Heap) (p q : Obj) : Heap := (zs1 h p q).push { cls := .type "tuple", data := .seq #[.ref h.objs.size, .ref (h.push p).objs.size] }
def zs3 (h : Heap) (p q : Obj) : Heap := (zs2 h p q).push { cls := .type "tuple", data := .seq #[.none, .none] }
def zs4 (h : Heap) (p q : Obj) : Heap := (zs3 h p q).push { cls := .type "zip", data := .fields #[.none, .bool false, .bool true, .ref (zs1 h p q).objs.size, .ref (zs2 h p q).objs.size] }
theorem meets_strict {v1 v2 : Value} {p q : Obj} {H1 H2 : Heap → Prop} (B1 : Begins v1 p H1) (B2 : Begins v2 q H2) :
    Meets (Builtin.«zip.__new__» ⟨[.type "zip", v1, v2], [(Str.ofString "strict", .bool true)]⟩) (fun _ R s => (H1 s.heap ∧ H2 s.heap) ∧ R (.ok (.ret (.ref (zs3 s.heap p q).objs.size))) { s with heap := zs4 s.heap p q }) :=
  .of_wp fun prog w A R s h => by
    obtain ⟨hp, g, d, tk, os⟩ := s
    obtain ⟨⟨a1, a2⟩, h⟩ := h
    have hsub := sub_zip
    have q1 : ∀ {A' : Around} {E : Value → Shared → Prop} {Q : Value → Shared → Prop}, Q (.ref hp.objs.size) ⟨hp.push p, g, d, tk, os⟩ → wpAny (model prog w) A' (pyIter v1) Q E ⟨hp, g, d, tk, os⟩ :=
      fun z => B1.iter prog w _ _ ⟨hp, g, d, tk, os⟩ _ a1 z
    have q2 : ∀ {A' : Around} {E : Value → Shared → Prop} {Q : Value → Shared → Prop}, Q (.ref (hp.push p).objs.size) ⟨(hp.push p).push q, g, d, tk, os⟩ → wpAny (model prog w) A' (pyIter v2) Q E ⟨hp.push p, g, d, tk, os⟩ :=
      fun z => B2.iter prog w _ _ ⟨hp.push p, g, d, tk, os⟩ _ (B2.keeps _ _ a2 fun b o e => Heap.get?_push_of_some _ e) z
    wp_walk using q1, q2
    exact ⟨_, rfl, h⟩
section
variable {prog : Program} {w : World} {A : Around} {E : Value → Shared → Prop} {s : Shared}
theorem strict_begins {v1 v2 : Value} {p q : Obj} {H1 H2 : Heap → Prop} {Q : Value → Shared → Prop} (B1 : Begins v1 p H1) (B2 : Begins v2 q H2) (a1 : H1 s.heap) (a2 : H2 s.heap) {b : Nat} (hb : b = s.heap.objs.size)
    (h : ∀ h', StrictZip h' (b + 4) (b + 2) (b + 3) .none → IsTupOf2 h' (b + 2) (.ref b) (.ref (b + 1)) → IsTupOf2 h' (b + 3) .none .none → h'.get? b = some p → h'.get? (b + 1) = some q →
      (∀ c o, s.heap.get? c = some o → h'.get? c = some o) → Q (.ref (b + 4)) { s with heap := h' }) : wpAny (model prog w) A (call (.type "zip") [v1, v2] [(Str.ofString "strict", .bool true)]) Q E s := by
  subst hb
  refine callType_newKw F.called_zip (by decide) (tc_strict _ _) (nc_strict _ _) (fun obj => ao_strict obj _ _) F.entry_zip_new (meets_strict B1 B2) ⟨⟨a1, a2⟩, ?_⟩
  have e0 : (s.heap.push p).objs.size = s.heap.objs.size + 1 := Heap.size_push ..
  have e1 : (zs1 s.heap p q).objs.size = s.heap.objs.size + 2 := by unfold zs1; rw [Heap.size_push, e0]
  have e2 : (zs2 s.heap p q).objs.size = s.heap.objs.size + 3 := by unfold zs2; rw [Heap.size_push, e1]
  have e3 : (zs3 s.heap p q).objs.size = s.heap.objs.size + 4 := by unfold zs3; rw [Heap.size_push, e2]
  have up0 : ∀ c o, s.heap.get? c = some o → (s.heap.push p).get? c = some o := fun c o e => Heap.get?_push_of_some _ e
  have up1 : ∀ c o, (s.heap.push p).get? c = some o → (zs1 s.heap p q).get? c = some o := fun c o e => Heap.get?_push_of_some _ e
  have up2 : ∀ c o, (zs1 s.heap p q).get? c = some o → (zs2 s.heap p q).get? c = some o := fun c o e => Heap.get?_push_of_some _ e
  have up3 : ∀ c o, (zs2 s.heap p q).get? c = some o → (zs3 s.heap p q).get? c = some o := fun c o e => Heap.get?_push_of_some _ e
  have up4 : ∀ c o, (zs3 s.heap p q).get? c = some o → (zs4 s.heap p q).get? c = some o := fun c o e => Heap.get?_push_of_some _ e
  have gZ : (zs4 s.heap p q).get? (s.heap.objs.size + 4) = some { cls := .type "zip", data := .fields #[.none, .bool false, .bool true, .ref (s.heap.objs.size + 2), .ref (s.heap.objs.size + 3)] } := by
    have := Heap.get?_push_size (zs3 s.heap p q) (o := { cls := .type "zip", data := .fields #[.none, .bool false, .bool true, .ref (zs1 s.heap p q).objs.size, .ref (zs2 s.heap p q).objs.size] }) rfl
    rw [e3, e1, e2] at this
    unfold zs4
    rw [e1, e2]
    exact this
  have gO : (zs3 s.heap p q).get? (s.heap.objs.size + 3) = some { cls := .type "tuple", data := .seq #[.none, .none] } := by
    have := Heap.get?_push_size (zs2 s.heap p q) (o := { cls := .type "tuple", data := .seq #[.none, .none] }) rfl
    rw [e2] at this
    exact this
  have gT : (zs2 s.heap p q).get? (s.heap.objs.size + 2) = some { cls := .type "tuple", data := .seq #[.ref s.heap.objs.size, .ref (s.heap.objs.size + 1)] } := by
    have := Heap.get?_push_size (zs1 s.heap p q) (o := { cls := .type "tuple", data := .seq #[.ref s.heap.objs.size, .ref (s.heap.push p).objs.size] }) rfl
    rw [e1, e0] at this
    unfold zs2
    rw [e0]
    exact this
  have g1 : (s.heap.push p).get? s.heap.objs.size = some p := Heap.get?_push_size _ B1.free
  have g2 : (zs1 s.heap p q).get? (s.heap.objs.size + 1) = some q := by
    have := Heap.get?_push_size (s.heap.push p) (o := q) B2.free
    rw [e0] at this
    exact this
  show _ ∧ _
  rw [e3]
  exact ⟨⟨_, gZ, rfl⟩, h _ gZ (up4 _ _ (up3 _ _ gT)) (up4 _ _ gO) (up4 _ _ (up3 _ _ (up2 _ _ (up1 _ _ g1)))) (up4 _ _ (up3 _ _ (up2 _ _ g2))) fun c o e => up4 _ _ (up3 _ _ (up2 _ _ (up1 _ _ (up0 _ _ e))))⟩
end
end PySem
namespace N
open PySem PySem.Spec PyProof.Rows L2
open C8 (Cal Met Mak InsC pe_c pe_mt pe_mt0 pe_mk)
section
variable {X : Cx} {pins : List (Addr × Obj)} {σ : L2.St} {H : Hp} {s : Shared}
theorem Kd.begins {k : Kd} {xs : List V} {u : Value} (I : Inv X pins σ H s) (hs : k.src X.K H xs) (r : RelV k.v u) :
    k.low s.heap.objs.size ∧ ∃ (t : Tok) (o : Obj) (Hq : Heap → Prop), Begins u o Hq ∧ Hq s.heap ∧ ∀ (h : Heap) (it : Addr), h.get? it = some o → k.at t it 0 h := by
  cases k with
  | lst a =>
    cases r
    obtain ⟨its, rv, p, _⟩ := I.list hs
    exact ⟨p.lt, default, _, _, begins_list a its.toArray, p.isList, fun h it e => ⟨_, e, rfl, rfl⟩⟩
  | tup a =>
    cases r
    obtain ⟨its, rv, p, _⟩ := I.tuple hs
    obtain ⟨o, ho, _⟩ := id p
    exact ⟨Heap.lt_size ho, default, _, _, begins_tuple a its.toArray, p, fun h it e => ⟨_, e, rfl, rfl⟩⟩
  | txt x =>
    obtain ⟨t, rfl⟩ := r
    exact ⟨trivial, t, _, _, begins_text x t, trivial, fun h it e => ⟨_, e, rfl, rfl⟩⟩
end
def iZipK (K : PySem.W.Frag) (strict : Bool) (ta : TA) : TI := fun σ H R => ta σ H fun vs H1 => ∃ (k1 k2 : Kd) (xs ys : List V), vs = [k1.v, k2.v] ∧ k1.src K H1 xs ∧ k2.src K H1 ys ∧ R (ItzK K k1 k2 strict) H1
theorem pi_zipK {X : Cx} {e e2 : Expr} {ta : TA} {p pos tpos : Pos} {elts : List Expr} {kk : Nat} (hg : Gl X "zip") (hm : X.mg "zip" = none) (ha : PA X [e, e2] ta)
    (hs : starEach [e, e2] X.env = (false, eval e X.env) :: starEach [e2] X.env := by rfl) (hpl : (backTo pos (starEach [e2] X.env)).any (·.1) = false := by rfl) :
    PI X (.Tuple elts kk tpos) (.Call (.Name "zip" p) [e, e2] [] pos) (iZipK X.K false ta) := by
  refine ⟨fun pins s σ H R I h => ?_⟩
  refine Call_ (ld_blt I hg hm PyProof.Rows.boot_zip (PyProof.Rows.callWith_type1 (thn (ha.run pos pins s σ H _ I h) fun us s1 ⟨vs, H1, I1, r1, q1⟩ => ?_) hs hpl))
  obtain ⟨k1, k2, xs, ys, ex, hx, hy, q⟩ := q1
  subst ex
  cases r1 with
  | cons r rr =>
    cases rr with
    | cons r' rr =>
      cases rr
      obtain ⟨l1, t1, o1, G1, B1, g1, z1⟩ := Kd.begins I1 hx r
      obtain ⟨l2, t2, o2, G2, B2, g2, z2⟩ := Kd.begins I1 hy r'
      refine zip_begins2 B1 B2 g1 g2 fun h' hz hI hO e1 e2 _ kp => wpAny_pyIter_zip hz ?_
      have I2 : Inv X pins σ H1 { s1 with heap := h' } := I1.kept (t' := s1.toks) kp
      refine ⟨_, _, _, _, H1, rfl, I2, turn_zipK (b := s1.heap.objs.size) (strict := false) (u1 := t1) (u2 := t2) l1 l2, ⟨hz, hI, ⟨_, _, hO⟩, z1 _ _ e1, z2 _ _ e2⟩, fun c hc => ?_, q⟩
      have le : s1.heap.objs.size ≤ c := by
        simp only [List.mem_cons, List.not_mem_nil, or_false] at hc
        rcases hc with rfl | rfl | rfl | rfl | rfl
        · exact Nat.le_add_right _ _
        · exact Nat.le_add_right _ _
        · exact Nat.le_add_right _ _
        · exact Nat.le_refl _
        · exact Nat.le_add_right _ _
      exact I1.fpOk le (I1.hok.fresh le)
theorem pi_zipS {X : Cx} {e e2 : Expr} {ta tk : TA} {p pos tpos : Pos} {elts : List Expr} {kk : Nat} {kws : List Keyword} (hg : Gl X "zip") (hm : X.mg "zip" = none) (ha : PA X [e, e2] ta) (hk : PK X kws tk)
    (hall : (backToKw pos (keywordEach kws X.env)).all (·.1.isSome) = true := by rfl) (hks : (backToKw pos (keywordEach kws X.env)).filterMap (·.1) = [Str.ofString "strict"] := by rfl)
    (hs : starEach [e, e2] X.env = (false, eval e X.env) :: starEach [e2] X.env := by rfl)
    (hpl : ((backTo pos (starEach [e, e2] X.env)).any (·.1) || (backToKw pos (keywordEach kws X.env)).any (·.1.isNone)) = false := by rfl) :
    PI X (.Tuple elts kk tpos) (.Call (.Name "zip" p) [e, e2] kws pos) (fun σ H R => ta σ H fun vs H1 => tk σ H1 fun zs H2 => zs = [.bl true] ∧ ∃ (k1 k2 : Kd) (xs ys : List V), vs = [k1.v, k2.v] ∧ k1.src X.K H2 xs ∧ k2.src X.K H2 ys ∧ R (ItzK X.K k1 k2 true) H2) := by
  refine ⟨fun pins s σ H R I h => ?_⟩
  refine wpAny_Call_Name_kw (ld_blt I hg hm PyProof.Rows.boot_zip ?_)
  refine PySem.W.callWith_of (P := fun _ => True) hpl (fun h _ => ⟨Keeper.machine, .inr (.inl rfl), .of_pure rfl⟩) ?_
  refine evalArgs_kw2 hall (thn (ha.run pos pins s σ H _ I h) fun us s1 ⟨vs, H1, I1, r1, q1⟩ => thn (hk.run pos pins s1 σ H1 _ I1 q1) fun ws s2 ⟨zs, H2, I2, r2, ez, q2⟩ => ⟨trivial, ?_⟩) hs
  obtain ⟨k1, k2, xs, ys, ex, hx, hy, q⟩ := q2
  subst ez ex
  rw [hks]
  obtain ⟨w, rfl, rw'⟩ := vals1 r2
  cases rw'
  cases r1 with
  | cons r rr =>
    cases rr with
    | cons r' rr =>
      cases rr
      obtain ⟨l1, t1, o1, G1, B1, g1, z1⟩ := Kd.begins I2 hx r
      obtain ⟨l2, t2, o2, G2, B2, g2, z2⟩ := Kd.begins I2 hy r'
      refine strict_begins B1 B2 g1 g2 rfl fun h' hz hI hO e1 e2 kp => iter_strict hz ?_
      have I3 : Inv X pins σ H2 { s2 with heap := h' } := I2.kept (t' := s2.toks) kp
      refine ⟨_, _, _, _, H2, rfl, I3, turn_zipK (b := s2.heap.objs.size) (strict := true) (u1 := t1) (u2 := t2) l1 l2, ⟨hz, hI, ⟨_, _, hO⟩, z1 _ _ e1, z2 _ _ e2⟩, fun c hc => ?_, q⟩
      have le : s2.heap.objs.size ≤ c := by
        simp only [List.mem_cons, List.not_mem_nil, or_false] at hc
        rcases hc with rfl | rfl | rfl | rfl | rfl
        · exact Nat.le_add_right _ _
        · exact Nat.le_add_right _ _
        · exact Nat.le_add_right _ _
        · exact Nat.le_refl _
        · exact Nat.le_add_right _ _
      exact I2.fpOk le (I2.hok.fresh le)
def iZipS (K : PySem.W.Frag) (ta tk : TA) : TI := fun σ H R => ta σ H fun vs H1 => tk σ H1 fun zs H2 => zs = [.bl true] ∧ ∃ (k1 k2 : Kd) (xs ys : List V), vs = [k1.v, k2.v] ∧ k1.src K H2 xs ∧ k2.src K H2 ys ∧ R (ItzK K k1 k2 true) H2
section
variable {F : FmKit} {T : Kx} {C H H' O O' : Hp} {G : Gm} {W W' : Om} {R : D → Om → Prop} {d e : D} {l m : List D} {ta tk : TA}
/-- a datum that zip takes: list, tuple, text; nothing that is still written -/
def Zs (d : D) (l : List D) : Prop := d = .lst l ∨ d = .tup l ∨ ∃ x : Str, d = .str x ∧ l = x.cps.toList.map fun c => D.str ⟨#[c]⟩
def pairs2 (l m : List D) : List D := (l.zip m).map fun p => .tup [p.1, p.2]
theorem den_chars (x : Str) : DenL F T H (x.cps.toList.map fun c => D.str ⟨#[c]⟩) (x.cps.toList.map fun c => V.str ⟨#[c]⟩) := by
  induction x.cps.toList with
  | nil => rfl
  | cons c cs ih => exact ⟨_, _, rfl, rfl, ih⟩
/-- the source at the machine; it stands -/
theorem Zs.kd {x : V} (h : Zs d l) (k : Den F T H d x) : ∃ (kd : Kd) (xs : List V), x = kd.v ∧ DenL F T H l xs ∧ ∀ H2 O2, Same H H2 → Dis O2 H2 → kd.src T.K (ov O2 H2) xs := by
  rcases h with rfl | rfl | ⟨z, rfl, rfl⟩
  · obtain ⟨a, xs, e, hs, kl⟩ := k
    exact ⟨.lst a, xs, e, kl, fun H2 O2 s di => di.same.seq (s.seq (SqL.of hs))⟩
  · obtain ⟨a, xs, e, hs, kl⟩ := k
    exact ⟨.tup a, xs, e, kl, fun H2 O2 s di => Same.sqT di.same (Same.sqT s hs)⟩
  · have k : x = .str z := k
    exact ⟨.txt z, _, k, den_chars z, fun _ _ _ _ => rfl⟩
theorem pairs2_len : (pairs2 l m).length = min l.length m.length := by simp [pairs2]
theorem pairs2_get {i : Nat} {z : D} (h : (pairs2 l m)[i]? = some z) : ∃ x y, l[i]? = some x ∧ m[i]? = some y ∧ z = .tup [x, y] := by
  unfold pairs2 at h
  rw [List.getElem?_map] at h
  obtain ⟨p, hp, e⟩ := Option.map_eq_some_iff.mp h
  rw [List.getElem?_zip_eq_some] at hp
  exact ⟨p.1, p.2, hp.1, hp.2, e.symm⟩
/-- the walk over a zip -/
theorem wk_zip {H1 : Hp} {k1 k2 : Kd} {xs ys : List V} {strict : Bool} (a1 : DenL F T H1 l xs) (a2 : DenL F T H1 m ys) (s1 : ∀ H2 O2, Same H1 H2 → Dis O2 H2 → k1.src T.K (ov O2 H2) xs) (s2 : ∀ H2 O2, Same H1 H2 → Dis O2 H2 → k2.src T.K (ov O2 H2) ys) (e : strict = true → l.length = m.length) :
    Wk F T (ItzK T.K k1 k2 strict) H1 (pairs2 l m) := fun i H2 O2 s di => by
  refine ⟨fun d hd => ?_, fun ei => ?_⟩
  · obtain ⟨x, y, hx, hy, rfl⟩ := pairs2_get hd
    obtain ⟨u, hu, ku⟩ := a1.get hx
    obtain ⟨v, hv, kv⟩ := a2.get hy
    have i1 := (List.getElem?_eq_some_iff.mp hu).1
    have i2 := (List.getElem?_eq_some_iff.mp hv).1
    refine ⟨⟨xs, ys, s1 _ _ s di, s2 _ _ s di, i1, i2, fun z => by rw [a1.len, a2.len]; exact e z⟩, fun w X ⟨Tp, u', v', e1, e2, e3, e4, e5⟩ => ?_⟩
    have hu' := e4 xs (s1 _ _ s di)
    have hv' := e5 ys (s2 _ _ s di)
    rw [hu] at hu'
    rw [hv] at hv'
    cases hu'
    cases hv'
    obtain ⟨h1, h2⟩ := ov_none e2
    have sm := same_upd (o := .tup [u, v]) h2
    refine ⟨upd H2 Tp (.tup [u, v]), sm, di.updH h1, by rw [e3, ov_updH h1], Tp, _, e1, SqT.of upd_same, ?_⟩
    exact ⟨u, _, rfl, (ku.mono s).mono sm, v, _, rfl, (kv.mono s).mono sm, rfl⟩
  · rw [pairs2_len] at ei
    have h1 := a1.len
    have h2 := a2.len
    exact ⟨xs, ys, s1 _ _ s di, s2 _ _ s di, by omega, by omega, by omega, fun z => by rw [h1, h2]; exact e z⟩
theorem ei_zipK {Y : List D → Om → Prop} (h : EvA F T ta G W fun ds W1 => ∃ d e l m, ds = [d, e] ∧ Zs d l ∧ Zs e m ∧ Y (pairs2 l m) W1) : EvI F T (iZipK T.K false ta) G W Y := fun C H O σ w Q q =>
  h C H O σ w _ fun ds W1 H1 O1 us ⟨d, e, l, m, ed, z1, z2, y⟩ n k => by
    subst ed
    obtain ⟨x, r, e1, k1, x2, r2, e2, k2, e3⟩ := k
    have e3 : r2 = [] := e3
    subst e3 e2 e1
    obtain ⟨kd1, xs, ex, a1, s1⟩ := z1.kd k1
    obtain ⟨kd2, ys, ey, a2, s2⟩ := z2.kd k2
    subst ex ey
    exact ⟨kd1, kd2, xs, ys, rfl, s1 _ _ (.refl _) n.dis, s2 _ _ (.refl _) n.dis, q _ _ W1 H1 O1 y n (wk_zip a1 a2 s1 s2 fun z => by cases z)⟩
theorem ei_zipS {Y : List D → Om → Prop} (h : EvA F T ta G W fun ds W1 => EvA F T tk G W1 fun zs W2 => zs = [.bl true] ∧ ∃ d e l m, ds = [d, e] ∧ Zs d l ∧ Zs e m ∧ l.length = m.length ∧ Y (pairs2 l m) W2) : EvI F T (iZipS T.K ta tk) G W Y := fun C H O σ w Q q =>
  h C H O σ w _ fun ds W1 H1 O1 us h1 n1 k => h1 C H1 O1 σ (w.step n1) _ fun zs W2 H2 O2 vs ⟨ez, d, e, l, m, ed, z1, z2, el, y⟩ n2 kz => by
    subst ed ez
    obtain ⟨x, r, e1, k1, x2, r2, e2, k2, e3⟩ := k
    obtain ⟨b, r3, e4, k3, e5⟩ := kz
    have e3 : r2 = [] := e3
    have e5 : r3 = [] := e5
    have k3 : b = .bl true := k3
    subst e3 e2 e1 e5 k3 e4
    obtain ⟨kd1, xs, ex, a1, s1⟩ := z1.kd (k1.mono n2.ext)
    obtain ⟨kd2, ys, ey, a2, s2⟩ := z2.kd (k2.mono n2.ext)
    subst ex ey
    exact ⟨rfl, kd1, kd2, xs, ys, rfl, s1 _ _ (.refl _) n2.dis, s2 _ _ (.refl _) n2.dis, q _ _ W2 H2 O2 y (n1.trans n2) (wk_zip a1 a2 s1 s2 fun _ => el)⟩
end
end N
set_option Elab.async false
set_option linter.all false
set_option maxRecDepth 100000
set_option maxHeartbeats 1000000
namespace N
open PySem PySem.Spec PyProof.Rows L2
open C8 (Cal Met Mak InsC pe_c pe_mt pe_mt0 pe_mk)
def rLtS : R2 := fun x y H Q => ∃ a b : Str, x = .str a ∧ y = .str b ∧ Q (.bl (decide (a.cps.toList < b.cps.toList))) H
def r2Or (r r' : R2) : R2 := fun x y H Q => r x y H Q ∨ r' x y H Q
def tDUpd (td ty : TE) : TE := fun σ H Q => td σ H fun x H1 => ∃ a, x = .ref a ∧ IsD H1 a ∧ ty σ H1 fun y H2 => ∃ b kvs more, y = .ref b ∧ H2 a = some (.dK kvs) ∧ Rd H2 b (.dK more) ∧ a ≠ b ∧ kvs.length + more.length ≤ sizeLine ∧ Q .non (upd H2 a (.dK (mergeK kvs more)))
section
variable {X : Cx} {o e : Expr} {apos cpos : Pos} {td ty : TE}
theorem op_lt_str : OpR X (compareOp .Lt) rLtS := by
  intro pins s σ H x y v u Q I rx ry h
  obtain ⟨a, b, rfl, rfl, q⟩ := h
  obtain ⟨t, rfl⟩ := rx
  obtain ⟨t', rfl⟩ := ry
  exact PyProof.Rows.lt_str ⟨.bl (decide (a.cps.toList < b.cps.toList)), H, I, rfl, q⟩
theorem op_or {f : Value → Value → Sem Value} {r r' : R2} (h : OpR X f r) (h' : OpR X f r') : OpR X f (r2Or r r') := fun pins s σ H x y v u Q I rx ry z => z.elim (h pins s σ H x y v u Q I rx ry) (h' pins s σ H x y v u Q I rx ry)
theorem length_mergeKK (kvs more : List (Key × V)) : (mergeK kvs more).length ≤ kvs.length + more.length := by
  have := length_mergeK more kvs
  omega
theorem pe_dupd (ho : PE X o td) (he : PE X e ty) (m : M1 X o "update" apos e cpos) : PE X (.Call (.Attribute o "update" apos) [e] [] cpos) (tDUpd td ty) := by
  refine ⟨fun pins s σ H Q I h => ?_⟩
  refine wpAny_Call_method m.base m.few m.line PySem.F.plainAttrs_dict PySem.F.slot_dict_update PySem.F.type_dict_update (thn (ho.run pins s σ H _ I h) fun u s1 ⟨x, H1, I1, rx, a, ex, d, q1⟩ => ?_)
  subst ex
  obtain rfl : u = Value.ref a := rx
  obtain ⟨t1, t2, _⟩ := isD_at I1 d
  refine ⟨t1, t2, ?_⟩
  rw [m.trees]
  refine Calls.callWith_builtin rfl (Calls.evalArgs_plain (Calls.spliced_cons (thn (he.run pins s1 σ H1 _ I1 q1) fun iv s2 ⟨y, H2, I2, ry, b, kvs, more, ey, ea, eb, ne, hl, q2⟩ => Calls.spliced_nil ?_)))
  subst ey
  obtain rfl : iv = Value.ref b := ry
  obtain ⟨z1, lo1, vs, rel1, dd1⟩ := dk_of I2.hok ea
  obtain ⟨z2, lo2, ws, rel2, dd2⟩ := dk_rd I2.hok eb
  refine call_meetsIn PySem.F.slot_dict_update dd1.typeIs PySem.F.entry_dict_update (PySem.F.args_dict_update_2 _ _) (meets_dict_update (mixKind X.prog X.w) a b ne lo2) ⟨vs, ws, dd1, dd2, by rw [← rel1.length, ← rel2.length]; exact hl, fun h' dd' _ hs => ?_⟩
  have he : ∃ q, h'.get? a = some q := let ⟨q, _, _, hq, _⟩ := dd'; ⟨q, hq⟩
  have I3 := d_write (t' := s2.toks) (ob := .dK (mergeK kvs more)) I2 (by rw [ea]; exact True.intro) hs he (dk_new (Nat.le_trans (length_mergeKK _ _) hl) lo1 (KV.merge rel2 rel1) dd')
  exact ⟨.non, _, I3, rfl, q2⟩
end
def upG (ps qs : List (Key × D)) : List (Key × D) := qs.foldl (fun acc kv => putG acc kv.1 kv.2) ps
section
variable {F : FmKit} {T : Kx} {C H H' O O' : Hp} {G : Gm} {W W' : Om} {R : D → Om → Prop} {d e : D} {l m : List D} {te ta tb : TE}
/-- d.update(e), e a dict that is not written any more -/
theorem ev_dupd (h : Ev F T ta G W fun d W1 => (∃ ps, Vd W1 d ps) ∧ Ev F T tb G W1 fun e W2 => ∃ a ps qs Wa Wb, d = .adr a ∧ W2 = Wa ++ (a, .dp ps) :: Wb ∧ e = .dp qs ∧ ps.length + qs.length ≤ sizeLine ∧ R .non (Wa ++ (a, .dp (upG ps qs)) :: Wb)) : Ev F T (tDUpd ta tb) G W R := fun C H O σ w Q q =>
  h C H O σ w _ fun d W1 H1 O1 x ⟨⟨ps0, hv0⟩, h1⟩ n1 k1 => by
    obtain ⟨a, kvs0, ex, ha0, _⟩ := hv0.at n1.dis n1.own k1
    refine ⟨a, ex, .inl ⟨kvs0, .inl ha0⟩, h1 C H1 O1 σ (w.step n1) _ fun e W2 H2 O2 yv ⟨a', ps, qs, Wa, Wb, ed, ew, ee, hl, r⟩ n2 k2 => ?_⟩
    subst ed ew ee
    have k1 : x = .ref a' := k1
    rw [k1] at ex
    cases ex
    obtain ⟨b, more, ey, hb, e3, e4, kl2⟩ := k2
    obtain ⟨_, kvs, oa, e1, e2, kl⟩ := n2.own.at_ a _ (List.mem_append_right _ List.mem_cons_self)
    have ha : O2 a = some (.dK kvs) := oa
    have ne : a ≠ b := fun e => by
      subst e
      have := n2.dis a _ ha
      rw [hb] at this
      cases this
    have l1 : kvs.length = ps.length := by
      have := congrArg List.length e1
      rwa [List.length_map, List.length_map] at this
    have l2 : more.length = qs.length := by
      have := congrArg List.length e3
      rwa [List.length_map, List.length_map] at this
    refine ⟨b, kvs, more, ey, ov_own ha, .inl (n2.dis.same _ _ hb), ne, by rw [l1, l2]; exact hl, ?_⟩
    obtain ⟨m1, m2, m3⟩ := mergeK_keys (F := F) (T := T) (H := H2) (acc := ps) (av := kvs) e3 e1 e2 kl2 kl
    obtain ⟨n3, e5⟩ := (n1.trans n2).write (o := .dK (mergeK kvs more)) (od2 := .dp (upG ps qs)) ⟨mergeK kvs more, rfl, m1, m2, m3⟩
    rw [e5]
    exact q .non _ _ _ _ r n3 rfl
theorem ca_sortedDI {ps : List (Key × D)} {ks : List Int} (hv : Vd W d ps) (hk : ps.map (·.1) = ks.map Sum.inl) (hl : ks.length < 64) (r : ∀ ys : List Int, ys.Perm ks → ys.Pairwise (· ≤ ·) → R (.lst (ys.map D.int)) W) :
    Ca F T (fun xs H Q => ∃ (a : Addr) (kvs : List (Key × V)) (ks : List Int), xs = [.ref a] ∧ Rd H a (.dK kvs) ∧ kvs.map (·.1) = ks.map Sum.inl ∧ ks.length < 64 ∧
      ∀ (ys : List Int) (p : Addr), ys.Perm ks → ys.Pairwise (· ≤ ·) → H p = none → Q (.ref p) (upd H p (.lst (ys.map V.int)))) [d] W R := ca_one fun C H O di oc ow x k Q q => by
  obtain ⟨a, kvs, e, h1, h2, h3, h4⟩ := hv.at di ow k
  refine ⟨a, kvs, ks, by rw [e], .inl h1, h2.trans hk, hl, fun ys p hp hs hn => ?_⟩
  obtain ⟨n2, e2, s2⟩ := (Nx.refl (F := F) (T := T) di oc ow).newF (o := .lst (ys.map V.int)) hn
  rw [e2]
  refine q _ W _ O _ (r ys hp hs) n2 ⟨p, _, rfl, upd_same, ?_⟩
  have := DenL.vls (F := F) (T := T) (H := upd H p (.lst (ys.map V.int))) (ys.map V.int)
  rw [List.map_map] at this
  exact this
theorem bo_orL {r r' : R2} (h : Bo F T r d e W R) : Bo F T (r2Or r r') d e W R := fun C H O di oc ow x y hx hy Q q => .inl (h C H O di oc ow x y hx hy Q q)
theorem bo_orR {r r' : R2} (h : Bo F T r' d e W R) : Bo F T (r2Or r r') d e W R := fun C H O di oc ow x y hx hy Q q => .inr (h C H O di oc ow x y hx hy Q q)
theorem bo_ltS {a b : Str} (r : R (.bl (decide (a.cps.toList < b.cps.toList))) W) : Bo F T rLtS (.str a) (.str b) W R := op_sc fun H Q k => ⟨a, b, rfl, rfl, k _ r⟩
theorem ca_slOrL {r r' : V → Option Int → Option Int → Hp → VK → Prop} {lo hi : Option Int} (h : Ca F T (fun xs H Q => ∃ x, xs = [x] ∧ r x lo hi H Q) [d] W R) : Ca F T (fun xs H Q => ∃ x, xs = [x] ∧ (r x lo hi H Q ∨ r' x lo hi H Q)) [d] W R := fun C H O di oc ow vs k Q q =>
  let ⟨x, e, z⟩ := h C H O di oc ow vs k Q q; ⟨x, e, .inl z⟩
theorem ca_slOrR {r r' : V → Option Int → Option Int → Hp → VK → Prop} {lo hi : Option Int} (h : Ca F T (fun xs H Q => ∃ x, xs = [x] ∧ r' x lo hi H Q) [d] W R) : Ca F T (fun xs H Q => ∃ x, xs = [x] ∧ (r x lo hi H Q ∨ r' x lo hi H Q)) [d] W R := fun C H O di oc ow vs k Q q =>
  let ⟨x, e, z⟩ := h C H O di oc ow vs k Q q; ⟨x, e, .inr z⟩
end
end N
set_option Elab.async false
set_option linter.all false
set_option maxRecDepth 100000
set_option maxHeartbeats 1000000
namespace PySem
open Sem (wp)
theorem tc_enum (a : Value) : checkTypeCall "enumerate" ⟨[a], []⟩ = pure () := by kernel_rfl
theorem nc_enum (a : Value) : checkBuiltinCall "enumerate.__new__" ⟨[.type "enumerate", a], []⟩ = pure () := by kernel_rfl
theorem ao_enum (obj a : Value) : argsOk "object.__init__" ⟨[obj, a], []⟩ := by unfold argsOk; kernel_rfl
theorem meets_enum {v : Value} {p : Obj} {Hp : Heap → Prop} (B : Begins v p Hp) :
    Meets (Builtin.«enumerate.__new__» ⟨[.type "enumerate", v], []⟩) (fun _ R s => Hp s.heap ∧ R (.ok (.ret (.ref (s.heap.push p).objs.size))) { s with heap := (s.heap.push p).push { cls := .type "enumerate", data := .fields #[.none, .bool false, .ref s.heap.objs.size, rawInt 0, .none, .none] } }) :=
  .of_wp fun prog w A R s h => by
    obtain ⟨hp, g, d, tk, os⟩ := s
    obtain ⟨a1, h⟩ := h
    have hsub := sub_enumerate
    have q1 : ∀ {A' : Around} {E : Value → Shared → Prop} {Q : Value → Shared → Prop}, Q (.ref hp.objs.size) ⟨hp.push p, g, d, tk, os⟩ → wpAny (model prog w) A' (pyIter v) Q E ⟨hp, g, d, tk, os⟩ :=
      fun z => B.iter prog w _ _ ⟨hp, g, d, tk, os⟩ _ a1 z
    wp_walk using q1
    refine wpAny_stack_any fun st => wpAny_pure ?_
    split
    · rename_i c _ _ _ _ _
      cases (c == Value.type "enumerate") <;> (wp_walk using q1; exact ⟨_, rfl, h⟩)
    · wp_walk using q1
      exact ⟨_, rfl, h⟩
section
variable {prog : Program} {w : World} {A : Around} {E : Value → Shared → Prop} {s : Shared}
theorem enum1_begins {v : Value} {p : Obj} {Hq : Heap → Prop} {Q : Value → Shared → Prop} (B : Begins v p Hq) (a1 : Hq s.heap)
    (h : ∀ h', IsEnum h' (s.heap.objs.size + 1) s.heap.objs.size 0 .none → h'.get? s.heap.objs.size = some p → (∀ c o, s.heap.get? c = some o → h'.get? c = some o) → Q (.ref (s.heap.objs.size + 1)) { s with heap := h' }) :
    wpAny (model prog w) A (call (.type "enumerate") [v]) Q E s := by
  refine callType_new F.called_enumerate (by decide) (tc_enum _) (nc_enum _) (fun obj => ao_enum obj _) F.entry_enumerate_new (meets_enum B) ⟨a1, ?_⟩
  have e0 : (s.heap.push p).objs.size = s.heap.objs.size + 1 := Heap.size_push ..
  show _ ∧ _
  have g := Heap.get?_push_size (s.heap.push p) (o := { cls := .type "enumerate", data := .fields #[.none, .bool false, .ref s.heap.objs.size, rawInt 0, .none, .none] }) rfl
  rw [e0] at g ⊢
  exact ⟨⟨_, g, rfl⟩, h _ g (Heap.get?_push_of_some _ (Heap.get?_push_size _ B.free)) fun c o e => Heap.get?_push_of_some _ (Heap.get?_push_of_some _ e)⟩
end
end PySem
namespace N
open PySem PySem.Spec PyProof.Rows L2
open C8 (Cal Met Mak InsC pe_c pe_mt pe_mt0 pe_mk)
def IteK (K : PySem.W.Frag) (k : Kd) (c : Int) : It :=
  ⟨fun i H => ∃ xs : List V, k.src K H xs ∧ i < xs.length,
    fun i H v H' => ∃ T x, v = .ref T ∧ H T = none ∧ H' = upd H T (.tup [.int (c + (i : Nat)), x]) ∧ ∀ xs, k.src K H xs → xs[i]? = some x,
    fun i H => ∃ xs : List V, k.src K H xs ∧ i = xs.length⟩
theorem turn_enumK {P : Program} {w : World} {K : PySem.W.Frag} {elts : List Expr} {kk : Nat} {tpos : Pos} {k : Kd} {c : Int} {u1 : Tok} {b : Nat} (l1 : k.low b) :
    Turn P w K (.Tuple elts kk tpos) (IteK K k c) [b + 1, b] (b + 1) (fun i h => (∃ old, IsEnum h (b + 1) b (c + (i : Nat)) old) ∧ k.at u1 b i h) where
  mem := by simp
  obj := fun i h st d hd => by
    obtain ⟨⟨old, he⟩, s1⟩ := st
    simp only [List.mem_cons, List.not_mem_nil, or_false] at hd
    rcases hd with rfl | rfl
    · exact ⟨_, he, fun v q => nomatch q⟩
    · exact Kd.obj s1
  keep := fun i h h' st z => by
    obtain ⟨⟨old, he⟩, s1⟩ := st
    exact ⟨⟨old, z _ (by simp) _ he⟩, Kd.keep s1 fun o e => z _ (by simp) o e⟩
  item := by
    intro X hP hw hK hc i pins s σ H E I hf st hg
    subst hP hw hK
    obtain ⟨⟨old, he⟩, s1⟩ := st
    obtain ⟨xs, hx, hi⟩ := hg
    obtain ⟨f1, P1, S1, D1, m1, b1, t1, o1, v1⟩ := Kd.draws (t := u1) (it := b) I hc hx l1 (Nat.le_refl _)
    have lt : b + 1 < s.heap.objs.size := Heap.lt_size he
    refine wpAny_pyNext_enum_itemC D1 he (t1 _ s1) hi (ne_add (c := 1) (d := 0) (by decide)) (fun h => zno (by decide) (by decide) (b1 _ h)) fun x h' tk px ho a1 hT _ kp => ?_
    refine ⟨_, rfl, wpAny_letOwnedTupleGo_enum (s := { s with heap := h', toks := tk + 1 }) ho fun h2 he2 sb => ?_⟩
    obtain ⟨u, gu, ru⟩ := v1 i x px
    have up : ∀ d o, d ≠ b + 1 → h'.get? d = some o → h2.get? d = some o := fun d o ne e => (sb.2 d ne).trans e
    have new2 : h2.get? s.heap.objs.size = some { cls := .type "tuple", data := .seq #[.int (c + (i : Nat)) tk, x] } := up _ _ (Nat.ne_of_gt lt) hT
    have ok : ObjOk X.prog X.w (upd H s.heap.objs.size (.tup [.int (c + (i : Nat)), u])) h2 s.heap.objs.size (.tup [.int (c + (i : Nat)), u]) :=
      ⟨by show 2 ≤ sizeLine; decide, [.int (c + (i : Nat)) tk, x], .cons ⟨_, rfl⟩ (.cons ru .nil), ⟨_, new2, rfl, _, rfl⟩⟩
    have I1 : Inv X pins σ (upd H s.heap.objs.size (.tup [.int (c + (i : Nat)), u])) { s with heap := h2, toks := tk + 1 } :=
      I.turnedNew (t' := tk + 1) (ch := [b + 1, b]) (fun d o hb q => up d o (fun q' => hb (by simp [q'])) (kp d o (fun q' => hb (by simp [q'])) (fun q' => hb (by simp [q'])) q)) hf (Nat.le_refl _) ok
    refine ⟨.ref s.heap.objs.size, _, I1, rfl, ⟨_, u, rfl, I.hok.fresh (Nat.le_refl _), rfl, fun l hl => by rw [Kd.inj I hl hx]; exact gu⟩, ⟨⟨x, ?_⟩, ?_⟩, fun d hd => ?_⟩
    · have e1 : c + ((i + 1 : Nat) : Int) = c + (i : Nat) + 1 := by omega
      rw [e1]
      exact he2
    · exact Kd.keep (o1 _ _ a1) fun o e => up _ _ (ne_add (c := 0) (d := 1) (by decide)) e
    · have hlt : d < s.heap.objs.size := by
        simp only [List.mem_cons, List.not_mem_nil, or_false] at hd
        rcases hd with rfl | rfl
        · exact lt
        · exact Nat.lt_of_succ_lt lt
      rw [upd_ne (Nat.ne_of_lt hlt)]
      exact (hf d hd).1
  done := by
    intro X hP hw hK hc i pins s σ H E I hf st hg
    subst hP hw hK
    obtain ⟨⟨old, he⟩, s1⟩ := st
    obtain ⟨xs, hx, rfl⟩ := hg
    obtain ⟨f1, P1, S1, D1, m1, b1, t1, o1, v1⟩ := Kd.draws (t := u1) (it := b) I hc hx l1 (Nat.le_refl _)
    exact wpAny_pyNext_enum_endD D1 he (t1 _ s1) fun h' z => ⟨rfl, I.turnedL (t' := s.toks) (ch := [b + 1, b]) (fun d o hb q => z d o (fun q' => hb (by simp [q'])) q) hf⟩
  self := fun A i s Q E st h => let ⟨⟨_, he⟩, _⟩ := st; wpAny_pyIter_enum he h
def iEnumK (K : PySem.W.Frag) (ta : TA) : TI := fun σ H R => ta σ H fun vs H1 => ∃ (k : Kd) (xs : List V), vs = [k.v] ∧ k.src K H1 xs ∧ R (IteK K k 0) H1
theorem pi_enumK {X : Cx} {e : Expr} {ta : TA} {p pos tpos : Pos} {elts : List Expr} {kk : Nat} (hg : Gl X "enumerate") (hm : X.mg "enumerate" = none) (ha : PA X [e] ta) (hs : starEach [e] X.env = [(false, eval e X.env)] := by rfl) :
    PI X (.Tuple elts kk tpos) (.Call (.Name "enumerate" p) [e] [] pos) (iEnumK X.K ta) := by
  refine ⟨fun pins s σ H R I h => ?_⟩
  refine Call_ (ld_blt I hg hm boot_enumerate (PyProof.Rows.callWith_type1 (thn (ha.run pos pins s σ H _ I h) fun us s1 ⟨vs, H1, I1, r1, q1⟩ => ?_) hs rfl))
  obtain ⟨k, xs, ex, hx, q⟩ := q1
  subst ex
  cases r1 with
  | cons r rr =>
    cases rr
    obtain ⟨l1, t1, o1, G1, B1, g1, z1⟩ := Kd.begins I1 hx r
    refine enum1_begins B1 g1 fun h' he e1 kp => wpAny_pyIter_enum he ?_
    have I2 : Inv X pins σ H1 { s1 with heap := h' } := I1.kept (t' := s1.toks) kp
    refine ⟨_, _, _, _, H1, rfl, I2, turn_enumK (b := s1.heap.objs.size) (c := 0) (u1 := t1) l1, ⟨⟨.none, he⟩, z1 _ _ e1⟩, fun d hd => ?_, q⟩
    have le : s1.heap.objs.size ≤ d := by
      simp only [List.mem_cons, List.not_mem_nil, or_false] at hd
      rcases hd with rfl | rfl
      · exact Nat.le_add_right _ _
      · exact Nat.le_refl _
    exact I1.fpOk le (I1.hok.fresh le)
section
variable {F : FmKit} {T : Kx} {C H H' O O' : Hp} {G : Gm} {W W' : Om} {R : D → Om → Prop} {l : List D} {ta tk : TA}
theorem wk_enum {H1 : Hp} {k : Kd} {xs : List V} {c : Nat} (a1 : DenL F T H1 l xs) (s1 : ∀ H2 O2, Same H1 H2 → Dis O2 H2 → k.src T.K (ov O2 H2) xs) : Wk F T (IteK T.K k (c : Nat)) H1 (pairsD c l) := fun i H2 O2 s di => by
  refine ⟨fun d hd => ?_, fun ei => ?_⟩
  · obtain ⟨x, hx, rfl⟩ := pairsD_get hd
    obtain ⟨u, hu, ku⟩ := a1.get hx
    refine ⟨⟨xs, s1 _ _ s di, (List.getElem?_eq_some_iff.mp hu).1⟩, fun w X ⟨Tp, u', e1, e2, e3, e4⟩ => ?_⟩
    have hu' := e4 xs (s1 _ _ s di)
    rw [hu] at hu'
    cases hu'
    obtain ⟨h1, h2⟩ := ov_none e2
    have ec : ((c + i : Nat) : Int) = (c : Int) + (i : Nat) := by omega
    have sm := same_upd (o := .tup [.int ((c : Nat) + (i : Nat)), u]) h2
    refine ⟨upd H2 Tp (.tup [.int ((c : Nat) + (i : Nat)), u]), sm, di.updH h1, by rw [e3, ov_updH h1], Tp, _, e1, SqT.of upd_same, ?_⟩
    rw [ec]
    exact ⟨_, _, rfl, rfl, u, _, rfl, (ku.mono s).mono sm, rfl⟩
  · rw [pairsD_len] at ei
    exact ⟨xs, s1 _ _ s di, by rw [a1.len]; exact ei⟩
theorem ei_enumK {Y : List D → Om → Prop} (h : EvA F T ta G W fun ds W1 => ∃ d l, ds = [d] ∧ Zs d l ∧ Y (pairsD 0 l) W1) : EvI F T (iEnumK T.K ta) G W Y := fun C H O σ w Q q =>
  h C H O σ w _ fun ds W1 H1 O1 us ⟨d, l, ed, z1, y⟩ n k => by
    subst ed
    obtain ⟨x, r, e1, k1, e2⟩ := k
    have e2 : r = [] := e2
    subst e2 e1
    obtain ⟨kd1, xs, ex, a1, s1⟩ := z1.kd k1
    subst ex
    exact ⟨kd1, xs, rfl, s1 _ _ (.refl _) n.dis, q _ _ W1 H1 O1 y n (wk_enum (c := 0) a1 s1)⟩
end
end N
set_option Elab.async false
set_option linter.all false
set_option maxRecDepth 100000
namespace N
open PySem PySem.Spec PyProof.Rows L2
namespace Fm
def tr : Fm → D
  | .at c => .tup [.str "atom", .str (sg c)]
  | .no => .tup [.str "no"]
  | .imp a b => .tup [.str "if", a.tr, b.tr]
  | .all a => .tup [.str "all", a.tr]
def ht : Fm → Nat
  | .at _ => 0
  | .no => 0
  | .imp a b => 1 + max a.ht b.ht
  | .all a => 1 + a.ht
theorem sz_ht : ∀ f : Fm, f.sz + 5 ≤ 7 * 2 ^ f.ht
  | .at _ => by simp [sz, ht]
  | .no => by simp [sz, ht]
  | .imp a b => by
    have h1 := sz_ht a
    have h2 := sz_ht b
    have l1 : 2 ^ a.ht ≤ 2 ^ max a.ht b.ht := Nat.pow_le_pow_right (by omega) (Nat.le_max_left _ _)
    have l2 : 2 ^ b.ht ≤ 2 ^ max a.ht b.ht := Nat.pow_le_pow_right (by omega) (Nat.le_max_right _ _)
    simp only [sz, ht, Nat.pow_add, Nat.pow_one]
    omega
  | .all a => by
    have h1 := sz_ht a
    have : 1 ≤ 2 ^ a.ht := Nat.one_le_two_pow
    simp only [sz, ht, Nat.pow_add, Nat.pow_one]
    omega
theorem many_sz : ∀ f : Fm, f.many ≤ f.sz
  | .at _ => Nat.le_refl _
  | .no => by simp [many, sz]
  | .imp a b => by
    have := many_sz a
    have := many_sz b
    simp only [many, sz]
    omega
  | .all a => by
    have := many_sz a
    simp only [many, sz]
    omega
/-- few unlike all-parts -/
def few (k : Nat) (f : Fm) : Prop := ∃ L : List Fm, L.length ≤ k ∧ ∀ g ∈ f.alls, g ∈ L
theorem few.len {k : Nat} {f : Fm} (h : few k f) (ok : f.okL) : f.alls.length ≤ k := by
  obtain ⟨L, h1, h2⟩ := h
  exact Nat.le_trans (len_le (nodup_asc (alls_sub ok).2) h2) h1
theorem few.up {k j : Nat} {f : Fm} (h : few k f) (hk : k ≤ j) : few j f := let ⟨L, h1, h2⟩ := h; ⟨L, by omega, h2⟩
theorem few.imp {k j : Nat} {f g : Fm} (h : few k f) (h' : few j g) : few (k + j) (.imp f g) := by
  obtain ⟨L, h1, h2⟩ := h
  obtain ⟨M, h3, h4⟩ := h'
  refine ⟨L ++ M, by rw [List.length_append]; omega, fun x hx => ?_⟩
  rw [List.mem_append]
  exact (mem_merge.mp hx).imp (h2 x) (h4 x)
theorem few.same {k : Nat} {f : Fm} (h : few k f) : few k (.imp f f) := by
  obtain ⟨L, h1, h2⟩ := h
  exact ⟨L, h1, fun x hx => (mem_merge.mp hx).elim (h2 x) (h2 x)⟩
theorem few.all {k : Nat} {f : Fm} (h : few k f) : few (k + 1) (.all f) := by
  obtain ⟨L, h1, h2⟩ := h
  refine ⟨.all f :: L, by rw [List.length_cons]; omega, fun x hx => ?_⟩
  rw [List.mem_cons]
  rcases mem_merge.mp hx with h | h
  · exact .inr (h2 x h)
  · exact .inl (List.mem_singleton.mp h)
theorem few.at (c : Nat) : few 0 (.at c) := ⟨[], Nat.le_refl _, fun x hx => by simp [alls] at hx⟩
theorem few.no : few 0 .no := ⟨[], Nat.le_refl _, fun x hx => by simp [alls] at hx⟩
theorem few_ht : ∀ f : Fm, few (2 ^ f.ht - 1) f
  | .at c => (few.at c).up (by omega)
  | .no => few.no.up (by omega)
  | .imp a b => by
    have l1 : 2 ^ a.ht ≤ 2 ^ max a.ht b.ht := Nat.pow_le_pow_right (by omega) (Nat.le_max_left _ _)
    have l2 : 2 ^ b.ht ≤ 2 ^ max a.ht b.ht := Nat.pow_le_pow_right (by omega) (Nat.le_max_right _ _)
    refine ((few_ht a).imp (few_ht b)).up ?_
    simp only [ht, Nat.pow_add, Nat.pow_one]
    omega
  | .all a => by
    have : 1 ≤ 2 ^ a.ht := Nat.one_le_two_pow
    refine (few_ht a).all.up ?_
    simp only [ht, Nat.pow_add, Nat.pow_one]
    omega
end Fm
def letters (p : Str) : Prop := ∀ c ∈ lets p, (65 ≤ c ∧ c ≤ 90) ∨ (97 ≤ c ∧ c ≤ 122)
def S_text (j : Nat) : FS := fun ds W post => ∃ f : Fm, ds = [f.tr] ∧ W = [] ∧ f.ht < j ∧ f.sz ≤ 1000000 ∧ post (.str f.spell) []
def S_built (j : Nat) : FS := fun ds W post => ∃ f : Fm, ds = [f.tr] ∧ W = [] ∧ f.ht < j ∧ f.okF ∧ post (.fm f) []
theorem str_nat (n : Nat) : (((n + 1 : Nat) : Int) - 1) = (n : Int) := by omega
end N
set_option Elab.async false
set_option linter.all false
set_option maxRecDepth 100000
namespace N
open PySem PySem.Spec PyProof.Rows L2
namespace Fm
def inner : Fm → List Fm
  | .imp a b => [a, b]
  | .all a => [a]
  | _ => []
def subs : Fm → List Fm
  | .at c => [.at c]
  | .no => [.no]
  | .imp a b => .imp a b :: (subs a ++ subs b)
  | .all a => .all a :: subs a
theorem subs_len : ∀ f : Fm, (subs f).length = f.many
  | .at _ => rfl
  | .no => rfl
  | .imp a b => by
    simp only [subs, List.length_cons, List.length_append, subs_len a, subs_len b, many]
    omega
  | .all a => by
    simp only [subs, List.length_cons, subs_len a, many]
    omega
theorem subs_self (f : Fm) : f ∈ subs f := by cases f <;> simp [subs]
theorem inner_subs {p : Fm} : ∀ {f g : Fm}, g ∈ subs f → p ∈ inner g → p ∈ subs f
  | .at c, g, h, hp => by
    simp only [subs, List.mem_singleton] at h
    subst h
    simp [inner] at hp
  | .no, g, h, hp => by
    simp only [subs, List.mem_singleton] at h
    subst h
    simp [inner] at hp
  | .imp a b, g, h, hp => by
    simp only [subs, List.mem_cons, List.mem_append] at h ⊢
    rcases h with rfl | h | h
    · simp only [inner, List.mem_cons, List.not_mem_nil, or_false] at hp
      rcases hp with rfl | rfl
      · exact .inr (.inl (subs_self _))
      · exact .inr (.inr (subs_self _))
    · exact .inr (.inl (inner_subs h hp))
    · exact .inr (.inr (inner_subs h hp))
  | .all a, g, h, hp => by
    simp only [subs, List.mem_cons] at h ⊢
    rcases h with rfl | h
    · simp only [inner, List.mem_cons, List.not_mem_nil, or_false] at hp
      subst hp
      exact .inr (subs_self _)
    · exact .inr (inner_subs h hp)
theorem okF.subs : ∀ {f g : Fm}, f.okF → g ∈ subs f → g.okF
  | .at c, g, hf, h => by
    simp only [Fm.subs, List.mem_singleton] at h
    exact h ▸ hf
  | .no, g, hf, h => by
    simp only [Fm.subs, List.mem_singleton] at h
    exact h ▸ hf
  | .imp a b, g, hf, h => by
    simp only [Fm.subs, List.mem_cons, List.mem_append] at h
    rcases h with rfl | h | h
    · exact hf
    · exact okF.subs hf.l h
    · exact okF.subs hf.r h
  | .all a, g, hf, h => by
    simp only [Fm.subs, List.mem_cons] at h
    rcases h with rfl | h
    · exact hf
    · exact okF.subs hf.a h
theorem inner_sz {p g : Fm} (h : p ∈ inner g) : p.sz < g.sz := by
  cases g with
  | «at» c => simp [inner] at h
  | no => simp [inner] at h
  | imp a b =>
    simp only [inner, List.mem_cons, List.not_mem_nil, or_false] at h
    simp only [sz]
    rcases h with rfl | rfl <;> omega
  | all a =>
    simp only [inner, List.mem_cons, List.not_mem_nil, or_false] at h
    subst h
    simp only [sz]
    omega
theorem inner_len (g : Fm) : (inner g).length ≤ 2 := by cases g <;> simp [inner]
/-- each one behind those within it -/
inductive Cl : List Fm → Prop
  | nil : Cl []
  | snoc {l : List Fm} {g : Fm} : Cl l → (∀ p ∈ inner g, p ∈ l) → Cl (l ++ [g])
theorem Cl.take {l : List Fm} (h : Cl l) : ∀ i g, l[i]? = some g → ∀ p ∈ inner g, p ∈ l.take i := by
  induction h with
  | nil => intro i g h; simp at h
  | @snoc l g h hp ih =>
    intro i x hx p px
    by_cases hi : i < l.length
    · rw [List.getElem?_append_left hi] at hx
      rw [List.take_append_of_le_length (by omega)]
      exact ih i x hx p px
    · rw [List.getElem?_append_right (by omega)] at hx
      have e : i = l.length := by
        have := (List.getElem?_eq_some_iff.mp hx).1
        simp at this
        omega
      subst e
      simp at hx
      subst hx
      simp
      exact hp p px
structure PW (f : Fm) (K F : List Fm) (L : List (Fm × Bool)) : Prop where
  kn : K.Nodup
  ks : ∀ g ∈ K, g ∈ subs f
  ls : ∀ x ∈ L, x.1 ∈ subs f
  kf : ∀ g, g ∈ K ↔ g ∈ F ∨ (g, true) ∈ L
  fn : F.Nodup
  dj : ∀ g ∈ F, (g, true) ∉ L
  cl : Cl F
  up : ∀ A h B, L = A ++ (h, true) :: B → (∀ x ∈ B, x.1.sz < h.sz) ∧ ∀ p ∈ inner h, p ∈ F ∨ ∃ b, (p, b) ∈ B
  bt : (∃ B, L = (f, true) :: B) ∨ (L = [] ∧ ∃ F', F = F' ++ [f]) ∨ (L = [(f, false)] ∧ K = [])
  ln : L.length ≤ 2 * K.length + 1
theorem PW.start (f : Fm) : PW f [] [] [(f, false)] where
  kn := List.nodup_nil
  ks := by simp
  ls := by simp [subs_self]
  kf := by simp
  fn := List.nodup_nil
  dj := by simp
  cl := .nil
  up := by
    intro A h B e
    have : (h, true) ∈ [(f, false)] := by rw [e]; simp
    simp at this
  bt := .inr (.inr ⟨rfl, rfl⟩)
  ln := by simp
section
variable {f g h : Fm} {K F : List Fm} {L : List (Fm × Bool)}
theorem PW.low (s : PW f K F (L ++ [(h, true)])) : (h, true) ∉ L := fun m => by
  obtain ⟨A, B, e⟩ := List.append_of_mem m
  have := (s.up A h (B ++ [(h, true)]) (by rw [e]; simp)).1 (h, true) (by simp)
  exact Nat.lt_irrefl _ this
theorem PW.pop_true (s : PW f K F (L ++ [(h, true)])) : PW f K (F ++ [h]) L where
  kn := s.kn
  ks := s.ks
  ls := fun x hx => s.ls x (List.mem_append_left _ hx)
  kf := fun g => by
    rw [s.kf g]
    simp only [List.mem_append, List.mem_singleton, Prod.mk.injEq, and_true]
    constructor
    · rintro (h | h | h)
      · exact .inl (.inl h)
      · exact .inr h
      · exact .inl (.inr h)
    · rintro ((h | h) | h)
      · exact .inl h
      · exact .inr (.inr h)
      · exact .inr (.inl h)
  fn := by
    rw [List.nodup_append]
    refine ⟨s.fn, by simp, fun a ha b hb e => ?_⟩
    simp at hb
    subst hb e
    exact s.dj a ha (by simp)
  dj := fun g hg m => by
    rcases List.mem_append.mp hg with h | h
    · exact s.dj g h (List.mem_append_left _ m)
    · simp at h
      subst h
      exact s.low m
  cl := .snoc s.cl fun p hp => ((s.up L h [] rfl).2 p hp).elim id fun ⟨b, z⟩ => by simp at z
  up := fun A h' B e => by
    obtain ⟨u1, u2⟩ := s.up A h' (B ++ [(h, true)]) (by rw [e]; simp)
    refine ⟨fun x hx => u1 x (List.mem_append_left _ hx), fun p hp => ?_⟩
    rcases u2 p hp with z | ⟨b, z⟩
    · exact .inl (List.mem_append_left _ z)
    · rcases List.mem_append.mp z with z | z
      · exact .inr ⟨b, z⟩
      · simp at z
        exact .inl (by simp [z.1])
  bt := by
    rcases s.bt with ⟨B, e⟩ | ⟨e, _⟩ | ⟨e, _⟩
    · cases L with
      | nil =>
        simp at e
        exact .inr (.inl ⟨rfl, F, by rw [e.1]⟩)
      | cons x L =>
        simp at e
        exact .inl ⟨L, by rw [e.1]⟩
    · simp at e
    · cases L with
      | nil => simp at e
      | cons x L => simp at e
  ln := by
    have := s.ln
    rw [List.length_append] at this
    simp at this
    omega
theorem PW.pop_known (s : PW f K F (L ++ [(g, false)])) (hk : g ∈ K) : PW f K F L where
  kn := s.kn
  ks := s.ks
  ls := fun x hx => s.ls x (List.mem_append_left _ hx)
  kf := fun x => by
    rw [s.kf x]
    simp
  fn := s.fn
  dj := fun x hx m => s.dj x hx (List.mem_append_left _ m)
  cl := s.cl
  up := fun A h B e => by
    obtain ⟨u1, u2⟩ := s.up A h (B ++ [(g, false)]) (by rw [e]; simp)
    refine ⟨fun x hx => u1 x (List.mem_append_left _ hx), fun p hp => ?_⟩
    rcases u2 p hp with z | ⟨b, z⟩
    · exact .inl z
    · rcases List.mem_append.mp z with z | z
      · exact .inr ⟨b, z⟩
      · simp at z
        obtain ⟨rfl, rfl⟩ := z
        rcases (s.kf p).mp hk with y | y
        · exact .inl y
        · rcases List.mem_append.mp y with y | y
          · rw [e] at y
            rcases List.mem_append.mp y with y | y
            · obtain ⟨A1, A2, e2⟩ := List.append_of_mem y
              have := (s.up A1 p (A2 ++ (h, true) :: B ++ [(p, false)]) (by rw [e, e2]; simp)).1 (h, true) (by simp)
              have := inner_sz hp
              simp only at *
              omega
            · rcases List.mem_cons.mp y with y | y
              · cases y
                exact absurd (inner_sz hp) (Nat.lt_irrefl _)
              · exact .inr ⟨true, y⟩
          · simp at y
  bt := by
    rcases s.bt with ⟨B, e⟩ | ⟨e, _⟩ | ⟨e, ek⟩
    · cases L with
      | nil => simp at e
      | cons x L =>
        simp at e
        exact .inl ⟨L, by rw [e.1]⟩
    · simp at e
    · rw [ek] at hk
      simp at hk
  ln := by
    have := s.ln
    rw [List.length_append] at this
    simp at this
    omega
theorem PW.pop_new (s : PW f K F (L ++ [(g, false)])) (hk : g ∉ K) : PW f (K ++ [g]) F (L ++ [(g, true)] ++ (inner g).map (·, false)) where
  kn := by
    rw [List.nodup_append]
    refine ⟨s.kn, by simp, fun a ha b hb e => ?_⟩
    simp at hb
    subst hb e
    exact hk ha
  ks := fun x hx => by
    rcases List.mem_append.mp hx with h | h
    · exact s.ks x h
    · simp at h
      subst h
      exact s.ls (x, false) (by simp)
  ls := fun x hx => by
    have hg : g ∈ subs f := s.ls (g, false) (by simp)
    rcases List.mem_append.mp hx with h | h
    · rcases List.mem_append.mp h with h | h
      · exact s.ls x (List.mem_append_left _ h)
      · simp at h
        subst h
        exact hg
    · obtain ⟨p, hp, e⟩ := List.mem_map.mp h
      subst e
      exact inner_subs hg hp
  kf := fun x => by
    have := s.kf x
    simp only [List.mem_append, List.mem_singleton, Prod.mk.injEq, Bool.true_eq_false, and_false, or_false, List.mem_map, and_true, exists_false, Bool.false_eq_true] at this ⊢
    rw [this]
    constructor
    · rintro ((h | h) | h)
      · exact .inl h
      · exact .inr (.inl h)
      · exact .inr (.inr h)
    · rintro (h | h | h)
      · exact .inl (.inl h)
      · exact .inl (.inr h)
      · exact .inr h
  fn := s.fn
  dj := fun x hx m => by
    simp only [List.mem_append, List.mem_singleton, Prod.mk.injEq, and_true, List.mem_map, Bool.false_eq_true, and_false, exists_false, or_false] at m
    rcases m with m | m
    · exact s.dj x hx (List.mem_append_left _ m)
    · subst m
      exact hk ((s.kf x).mpr (.inl hx))
  cl := s.cl
  up := fun A h B e => by
    have hM : ∀ x ∈ (inner g).map (·, false), x.2 = false := fun x hx => by
      obtain ⟨p, _, e⟩ := List.mem_map.mp hx
      subst e
      rfl
    rw [List.append_assoc, List.append_eq_append_iff] at e
    rcases e with ⟨a', e1, e2⟩ | ⟨c', e1, e2⟩
    · cases a' with
      | nil =>
        simp at e2
        obtain ⟨e2, e3⟩ := e2
        subst e2 e3
        refine ⟨fun x hx => ?_, fun p hp => .inr ⟨false, List.mem_map.mpr ⟨p, hp, rfl⟩⟩⟩
        obtain ⟨p, hp, e⟩ := List.mem_map.mp hx
        subst e
        exact inner_sz hp
      | cons y a' =>
        simp at e2
        have : (h, true) ∈ (inner g).map (·, false) := by rw [e2.2]; simp
        exact absurd (hM _ this) (by simp)
    · cases c' with
      | nil =>
        simp at e2
        obtain ⟨e2, e3⟩ := e2
        subst e2 e3
        refine ⟨fun x hx => ?_, fun p hp => .inr ⟨false, List.mem_map.mpr ⟨p, hp, rfl⟩⟩⟩
        obtain ⟨p, hp, e⟩ := List.mem_map.mp hx
        subst e
        exact inner_sz hp
      | cons y c' =>
        simp at e2
        obtain ⟨e2, e3⟩ := e2
        subst e2 e3
        obtain ⟨u1, u2⟩ := s.up A h (c' ++ [(g, false)]) (by rw [e1]; simp)
        have hg := u1 (g, false) (by simp)
        refine ⟨fun x hx => ?_, fun p hp => ?_⟩
        · rcases List.mem_append.mp hx with z | z
          · exact u1 x (List.mem_append_left _ z)
          · rcases List.mem_cons.mp z with z | z
            · subst z
              exact hg
            · obtain ⟨p, hp, e⟩ := List.mem_map.mp z
              subst e
              exact Nat.lt_trans (inner_sz hp) hg
        · rcases u2 p hp with z | ⟨b, z⟩
          · exact .inl z
          · rcases List.mem_append.mp z with z | z
            · exact .inr ⟨b, List.mem_append_left _ z⟩
            · simp at z
              exact .inr ⟨true, by simp [z.1]⟩
  bt := by
    rcases s.bt with ⟨B, e⟩ | ⟨e, _⟩ | ⟨e, _⟩
    · cases L with
      | nil => simp at e
      | cons x L =>
        simp at e
        exact .inl ⟨L ++ (g, true) :: (inner g).map (·, false), by rw [e.1]; simp⟩
    · simp at e
    · cases L with
      | nil =>
        simp at e
        exact .inl ⟨(inner g).map (·, false), by rw [e]; rfl⟩
      | cons x L => simp at e
  ln := by
    have := s.ln
    have := inner_len g
    simp only [List.length_append, List.length_cons, List.length_nil, List.length_map] at *
    omega
theorem PW.room (s : PW f K F L) : K.length ≤ f.many := by
  rw [← subs_len f]
  exact len_le s.kn s.ks
theorem PW.floor (s : PW f K F L) : F.length ≤ f.many := by
  rw [← subs_len f]
  exact len_le s.fn fun g hg => s.ks g ((s.kf g).mpr (.inl hg))
theorem PW.fin (s : PW f K F []) : (∃ F', F = F' ++ [f]) ∧ Cl F ∧ F.Nodup ∧ ∀ g ∈ F, g ∈ subs f := by
  refine ⟨?_, s.cl, s.fn, fun g hg => s.ks g ((s.kf g).mpr (.inl hg))⟩
  rcases s.bt with ⟨B, e⟩ | ⟨_, h⟩ | ⟨e, _⟩
  · simp at e
  · exact h
  · simp at e
end
/-- others in the place of atoms -/
def sub (σ : Nat → Fm) : Fm → Fm
  | .at c => σ c
  | .no => .no
  | .imp a b => .imp (a.sub σ) (b.sub σ)
  | .all a => .all (a.sub σ)
end Fm
def S_within : FS := fun ds W post => ∃ f : Fm, ds = [.fm f] ∧ W = [] ∧ f.okF ∧ ∀ l : List Fm, (∃ l', l = l' ++ [f]) → Fm.Cl l → l.Nodup → (∀ g ∈ l, g ∈ Fm.subs f) → post (.lst (l.map .fm)) []
/-- formulas as the keys of a dict -/
def kns (K : List Fm) : List (Key × D) := K.map fun g => (Sum.inr g.spell, .bl true)
theorem getG_none {ps : List (Key × D)} {k : Key} (h : k ∉ ps.map (·.1)) : getG ps k = none := by
  unfold getG
  rw [List.find?_eq_none.mpr fun q hq => by
    rw [decide_eq_true_eq]
    exact fun e => h (List.mem_map.mpr ⟨q, hq, e⟩)]
  rfl
theorem getG_mem {ps : List (Key × D)} {k : Key} (h : k ∈ ps.map (·.1)) : (getG ps k).isSome = true := by
  obtain ⟨q, hq, e⟩ := List.mem_map.mp h
  unfold getG
  rw [Option.isSome_map, List.find?_isSome]
  exact ⟨q, hq, by rw [decide_eq_true_eq]; exact e⟩
theorem kns_keys {K : List Fm} {g : Fm} (hK : ∀ x ∈ K, x.okL) (hg : g.okL) : (Sum.inr g.spell : Key) ∈ (kns K).map (·.1) ↔ g ∈ K := by
  unfold kns
  rw [List.map_map, List.mem_map]
  constructor
  · rintro ⟨x, hx, e⟩
    have : x.spell = g.spell := by simpa using e
    exact Fm.spell_inj (hK x hx) hg this ▸ hx
  · exact fun h => ⟨g, h, rfl⟩
theorem getG_kns {K : List Fm} {g : Fm} (hK : ∀ x ∈ K, x.okL) (hg : g.okL) : (getG (kns K) (Sum.inr g.spell)).isSome = decide (g ∈ K) := by
  by_cases h : g ∈ K
  · rw [getG_mem ((kns_keys hK hg).mpr h), decide_eq_true h]
  · rw [getG_none (fun z => h ((kns_keys hK hg).mp z)), decide_eq_false h]
    rfl
theorem put_kns {K : List Fm} {g : Fm} (hK : ∀ x ∈ K, x.okL) (hg : g.okL) (h : g ∉ K) : putG (kns K) (Sum.inr g.spell) (.bl true) = kns (K ++ [g]) := by
  rw [putG_new (fun z => h ((kns_keys hK hg).mp z))]
  simp [kns]
/-- a table of formulas by their texts -/
def kvF (v : Fm → D) (l : List Fm) : List (Key × D) := l.map fun g => (Sum.inr g.spell, v g)
theorem kvF_keys {v : Fm → D} {l : List Fm} {g : Fm} (hl : ∀ x ∈ l, x.okL) (hg : g.okL) : (Sum.inr g.spell : Key) ∈ (kvF v l).map (·.1) ↔ g ∈ l := by
  rw [← kns_keys hl hg]
  simp [kvF, kns]
theorem put_kvF {v : Fm → D} {l : List Fm} {g : Fm} (hl : ∀ x ∈ l, x.okL) (hg : g.okL) (h : g ∉ l) : putG (kvF v l) (Sum.inr g.spell) (v g) = kvF v (l ++ [g]) := by
  rw [putG_new (fun z => h ((kvF_keys hl hg).mp z))]
  simp [kvF]
theorem getG_kvF {v : Fm → D} {l : List Fm} {g : Fm} (hl : ∀ x ∈ l, x.okL) (hg : g ∈ l) : getG (kvF v l) (Sum.inr g.spell) = some (v g) := by
  have h1 := getG_mem ((kvF_keys (v := v) hl (hl g hg)).mpr hg)
  obtain ⟨z, hz⟩ := Option.isSome_iff_exists.mp h1
  have h2 := hz
  unfold getG at h2
  obtain ⟨q, hq, e⟩ := Option.map_eq_some_iff.mp h2
  have h3 := List.mem_of_find?_eq_some hq
  have h4 := List.find?_some hq
  rw [decide_eq_true_eq] at h4
  obtain ⟨x, hx, e2⟩ := List.mem_map.mp h3
  subst e2
  have e3 : x.spell = g.spell := by simpa using h4
  have := Fm.spell_inj (hl x hx) (hl g hg) e3
  subst this
  rw [hz, ← e]
end N
set_option Elab.async false
set_option linter.all false
set_option maxRecDepth 100000
namespace N
open PySem PySem.Spec PyProof.Rows L2
open C8 (Cal Met Mak InsC pe_c pe_mt pe_mt0 pe_mk)
theorem makD {P : Program} {w : World} {K : PySem.W.Frag} {mg : Str → Option Value} {base : Heap} {F : FmKit} {cl : Nat → Addr} {S : FS} {x qual : Str} {C : Addr} {st : Stmt} {f : Addr} {fd : FuncData} {N ps : List Str} {k : Nat} (M : Mk K C f) (hm : mg x = some (.ref C)) (Fn : Fun K "__init__" qual st f fd) (Sc : FnScope N ps (defScope st)) (len : ∀ ds W post, S ds W post → ds.length = ps.length)
    (hb : ∀ (kV doc pm : Value) (an : Option Addr) (cdv ct : Value) (us : List Value), us.length = ps.length → bindArgs (PySem.W.fnOf "__init__" qual (defArgs st) (defBody st) (defScope st) .none kV doc pm an cdv ct) ⟨us, []⟩ = pure (ps.zip us))
    (body : ∀ (cdv : Value) (A : Around) (outer : List Env) (s : Shared) (H : Hp) (E : XK), Room k (A.deeper (envOfC qual (defScope st) s.heap.objs.size f cdv)) →
      ∃ t, PSs (cxOf CX0 P w K mg base N qual (defScope st) f cdv A outer s H E).nox (defBody st) t ∧ ∀ ds W post, S ds W post → Sw F ⟨K, cl⟩ t (startD N ds) W (E_ post)) : Mak P w K mg base (k + 1) x C (spN F ⟨K, cl⟩ S) [] :=
  ⟨f, fd, ps, [], M, okD Fn Sc len body, hm, Fn.binds hb, .nil⟩
def wbNames : List Str := ["below", "atoms", "all_beneath", "all_heights"]
structure Wb where
  below : List (List Nat)
  atoms : List Str
abbrev natD (k : Nat) : D := .int (k : Nat)
abbrev rowD (r : List Nat) : D := .tup (r.map natD)
abbrev rowsD (rs : List (List Nat)) : D := .tup (rs.map rowD)
abbrev atomsD (l : List Str) : D := .tup (l.map .str)
/-- the points beneath each one, by the points directly below -/
def bensF (rs : List (List Nat)) : List (List Nat) := rs.foldl (fun acc r => acc ++ [ascN (r ++ (r.map fun k => acc.getD k []).flatten)]) []
def hgtF (rs : List (List Nat)) : List Nat := rs.foldl (fun acc r => acc ++ [((r.map fun k => 1 + acc.getD k 0)).foldl max 0]) []
structure rowsOk (rs : List (List Nat)) : Prop where
  asc : ∀ (i : Nat) (r : List Nat), rs[i]? = some r → r.Pairwise (· < ·) ∧ ∀ k ∈ r, k < i
  few : rs.length ≤ 63
theorem rowsOk.take {rs : List (List Nat)} (h : rowsOk rs) (n : Nat) : rowsOk (rs.take n) where
  asc := fun i r hr => by
    rw [List.getElem?_take] at hr
    split at hr
    · exact h.asc i r hr
    · cases hr
  few := Nat.le_trans (by rw [List.length_take]; exact Nat.min_le_right _ _) h.few
theorem bensF_snoc (rs : List (List Nat)) (r : List Nat) : bensF (rs ++ [r]) = bensF rs ++ [ascN (r ++ (r.map fun k => (bensF rs).getD k []).flatten)] := by
  unfold bensF
  rw [List.foldl_append]
  rfl
theorem hgtF_snoc (rs : List (List Nat)) (r : List Nat) : hgtF (rs ++ [r]) = hgtF rs ++ [((r.map fun k => 1 + (hgtF rs).getD k 0)).foldl max 0] := by
  unfold hgtF
  rw [List.foldl_append]
  rfl
theorem snoc_ind {α : Type} {P : List α → Prop} (h0 : P []) (h1 : ∀ l a, P l → P (l ++ [a])) (l : List α) : P l := by
  rw [← List.reverse_reverse l]
  induction l.reverse with
  | nil => exact h0
  | cons a l ih =>
    rw [List.reverse_cons]
    exact h1 _ a ih
theorem bensF_len (rs : List (List Nat)) : (bensF rs).length = rs.length := by
  induction rs using snoc_ind with
  | h0 => rfl
  | h1 rs r ih => rw [bensF_snoc, List.length_append, List.length_append, ih]; rfl
theorem hgtF_len (rs : List (List Nat)) : (hgtF rs).length = rs.length := by
  induction rs using snoc_ind with
  | h0 => rfl
  | h1 rs r ih => rw [hgtF_snoc, List.length_append, List.length_append, ih]; rfl
structure Wb.ok (w : Wb) : Prop where
  rows : rowsOk w.below
  some_ : w.below ≠ []
  len : w.atoms.length = w.below.length
  lets : ∀ s ∈ w.atoms, letters s ∧ (N.lets s).Pairwise (· < ·)
def Wb.d (w : Wb) : D := .obj 1 wbNames [rowsD w.below, atomsD w.atoms, .lst ((bensF w.below).map rowD), .lst ((hgtF w.below).map natD)]
def S_ascend : FS := fun ds W post => ∃ d, ds = [d] ∧ W = [] ∧ post (.bl true) [] ∧ ((∃ r : List Nat, d = rowD r ∧ r.length ≤ 100 ∧ r.Pairwise (· < ·)) ∨ ∃ s : Str, d = .str s ∧ s.length ≤ 100 ∧ (lets s).Pairwise (· < ·))
def S_isbelow : FS := fun ds W post => ∃ (i : Nat) (r : List Nat), ds = [natD i, rowD r] ∧ W = [] ∧ i ≤ 63 ∧ r.Pairwise (· < ·) ∧ (∀ k ∈ r, k < i) ∧ post (.bl true) []
def S_arebelow : FS := fun ds W post => ∃ rs : List (List Nat), ds = [rowsD rs] ∧ W = [] ∧ rowsOk rs ∧ rs ≠ [] ∧ post (.bl true) []
def S_isletters : FS := fun ds W post => ∃ s : Str, ds = [.str s] ∧ W = [] ∧ letters s ∧ (lets s).Pairwise (· < ·) ∧ post (.bl true) []
def S_areletters : FS := fun ds W post => ∃ l : List Str, ds = [.int (l.length : Nat), atomsD l] ∧ W = [] ∧ l.length ≤ 63 ∧ (∀ s ∈ l, letters s ∧ (lets s).Pairwise (· < ·)) ∧ post (.bl true) []
def S_beneathby : FS := fun ds W post => ∃ rs : List (List Nat), ds = [rowsD rs] ∧ W = [] ∧ rowsOk rs ∧ post (.lst ((bensF rs).map rowD)) []
def S_heightsby : FS := fun ds W post => ∃ rs : List (List Nat), ds = [rowsD rs] ∧ W = [] ∧ rowsOk rs ∧ post (.lst ((hgtF rs).map natD)) []
def S_initW : FS := fun ds W post => ∃ (x : Addr) (w : Wb), ds = [.adr x, rowsD w.below, atomsD w.atoms] ∧ W = [(x, .ins 1 [] [])] ∧ w.ok ∧
  post .non [(x, .ins 1 wbNames [rowsD w.below, atomsD w.atoms, .lst ((bensF w.below).map rowD), .lst ((hgtF w.below).map natD)])]
section
variable {F : FmKit} {T : Kx} {G : Gm} {W : Om} {R : D → Om → Prop} {tr : TA} {E : XK} {x : Addr} {z : D} {n : Str} {ns : List Str} {l : List D}
theorem ev_mkW (h : EvA F T tr G W fun ds W1 => ∃ w : Wb, ds = [rowsD w.below, atomsD w.atoms] ∧ w.ok ∧ R w.d W1) : Ev F T (tMake (T.cl 1) (spN F T S_initW) [] E tr) G W R :=
  ev_fz (ev_make (fun C H O σ w Q q => h C H O σ w Q fun ds W1 H1 O1 vs ⟨wb, e, hw, r⟩ n k => q ds W1 H1 O1 vs (fun x hx => by
    subst e
    exact ⟨[(x, .ins 1 [] [])], W1, List.Perm.refl _, x, wb, rfl, rfl, hw, rfl, x, _, W1, wb.d, rfl, List.Perm.refl _, .obj _ _ _, r⟩) n k))
end
theorem cutD_d1 (l : List D) : cutD l (some 1) none = l.drop 1 := by
  unfold cutD
  rw [show HT.sIx l.length 0 (some 1) = min 1 l.length from HT.sIx_nat l.length 0 1, show HT.sIx l.length l.length none = l.length from rfl]
  rw [List.take_of_length_le (by simp)]
  cases l <;> simp
theorem cutD_init (l : List D) : cutD l none (some (-1)) = l.take (l.length - 1) := by
  unfold cutD
  have e : HT.sIx l.length l.length (some (-1)) = l.length - 1 := by
    show (if (-1 : Int) < 0 then (-1 + (l.length : Int)).toNat else min (-1 : Int).toNat l.length) = _
    rw [if_pos (by decide)]
    omega
  rw [e, show HT.sIx l.length 0 none = 0 from rfl]
  simp
theorem cutS_d1 (s : Str) : (cutS s (some 1) none).cps.toList = (lets s).drop 1 := by
  unfold cutS
  rw [show HT.sIx s.length 0 (some 1) = min 1 s.length from HT.sIx_nat s.length 0 1, show HT.sIx s.length s.length none = s.length from rfl]
  have e : s.length = (lets s).length := str_len s
  rw [e]
  show ((lets s).drop _).take _ = _
  rw [List.take_of_length_le (by simp)]
  cases lets s <;> simp
theorem cutS_init (s : Str) : (cutS s none (some (-1))).cps.toList = (lets s).take ((lets s).length - 1) := by
  unfold cutS
  have e : s.length = (lets s).length := str_len s
  have e2 : HT.sIx s.length s.length (some (-1)) = s.length - 1 := by
    show (if (-1 : Int) < 0 then (-1 + (s.length : Int)).toNat else min (-1 : Int).toNat s.length) = _
    rw [if_pos (by decide)]
    omega
  rw [e2, show HT.sIx s.length 0 none = 0 from rfl, e]
  show ((lets s).drop 0).take _ = _
  simp
/-- neighbours in an ascending list -/
theorem adj {l : List Nat} (h : l.Pairwise (· < ·)) {i x y : Nat} (h1 : (l.take (l.length - 1))[i]? = some x) (h2 : (l.drop 1)[i]? = some y) : x < y := by
  rw [List.getElem?_take] at h1
  rw [List.getElem?_drop] at h2
  split at h1
  · rw [List.pairwise_iff_getElem] at h
    obtain ⟨a1, a2⟩ := List.getElem?_eq_some_iff.mp h1
    obtain ⟨b1, b2⟩ := List.getElem?_eq_some_iff.mp h2
    have := h i (1 + i) a1 b1 (by omega)
    rw [a2, b2] at this
    exact this
  · cases h1
theorem all_yes (n : Nat) : ((List.replicate n true).all id) = true := by simp
theorem yes_bl (n : Nat) : (List.replicate n true).map D.bl = List.replicate n (D.bl true) := by simp
theorem map_take_sub (l : List Nat) : (l.map natD).take ((l.map natD).length - 1) = (l.take (l.length - 1)).map natD := by rw [List.length_map, List.map_take]
theorem map_drop_1 (l : List Nat) : (l.map natD).drop 1 = (l.drop 1).map natD := by rw [List.map_drop]
section
variable {F : FmKit} {T : Kx} {W : Om} {R : D → Om → Prop}
theorem isi_int {i : Int} (r : R (.bl true) W) : Ca F T (rIsi T.K) [.int i, .vl (.ty "int")] W R := ca_isi (.ty "int") tyd_int (by unfold PySem.W.kitOne; rfl) r
theorem isi_intB {i : Int} (r : R (.bl false) W) : Ca F T (rIsi T.K) [.int i, .vl (.ty "bool")] W R := ca_isi (.ty "bool") tyd_int (by unfold PySem.W.kitOne; first | rfl | decide +kernel) r
end
theorem letters_len {s : Str} (hl : letters s) (hp : (lets s).Pairwise (· < ·)) : s.length ≤ 100 := by
  have h1 := hp.imp (S := (· ≠ ·)) fun h => Nat.ne_of_lt h
  have h2 := List.Nodup.length_le_of_subset (l₁ := (lets s).map (· - 30)) (l₂ := List.range 100) ?_ fun x hx => ?_
  · rw [List.length_range, List.length_map, ← str_len] at h2
    exact h2
  · rw [List.Nodup, List.pairwise_map]
    refine hp.imp_of_mem fun {a b} ha hb h => ?_
    have := hl a ha
    have := hl b hb
    omega
  · obtain ⟨c, hc, rfl⟩ := List.mem_map.mp hx
    have := hl c hc
    rw [List.mem_range]
    omega
/-- ints as the keys of a dict -/
def kni (ks : List Nat) : List (Key × D) := ks.map fun (k : Nat) => ((Sum.inl (k : Int) : Key), D.bl true)
theorem kni_keys (ks : List Nat) (k : Nat) : (Sum.inl (k : Int) : Key) ∈ (kni ks).map (·.1) ↔ k ∈ ks := by
  unfold kni
  rw [List.map_map, List.mem_map]
  constructor
  · rintro ⟨x, hx, e⟩
    have : (x : Int) = k := by simpa using e
    have : x = k := by omega
    exact this ▸ hx
  · exact fun h => ⟨k, h, rfl⟩
theorem kni_map (ks : List Nat) : (kni ks).map (·.1) = (ks.map fun (k : Nat) => (k : Int)).map Sum.inl := by
  unfold kni
  rw [List.map_map, List.map_map]
  rfl
/-- one key more, or none -/
def insK (ks : List Nat) (k : Nat) : List Nat := if k ∈ ks then ks else ks ++ [k]
theorem putG_old {v : D} {ps : List (Key × D)} {k : Key} (hv : ∀ p ∈ ps, p.2 = v) (h : k ∈ ps.map (·.1)) : putG ps k v = ps := by
  unfold putG
  obtain ⟨q, hq, e⟩ := List.mem_map.mp h
  rw [if_pos (List.any_eq_true.mpr ⟨q, hq, by rw [decide_eq_true_eq]; exact e⟩)]
  refine (List.map_congr_left fun p hp => ?_).trans (List.map_id ps)
  split
  · rw [← hv p hp]
    rfl
  · rfl
theorem put_kni (ks : List Nat) (k : Nat) : putG (kni ks) (Sum.inl (k : Int)) (.bl true) = kni (insK ks k) := by
  unfold insK
  split
  · next h =>
    exact putG_old (fun p hp => by
      obtain ⟨x, _, rfl⟩ := List.mem_map.mp hp
      rfl) ((kni_keys ks k).mpr h)
  · next h =>
    rw [putG_new (fun z => h ((kni_keys ks k).mp z))]
    simp [kni]
theorem mem_insK {ks : List Nat} {k x : Nat} : x ∈ insK ks k ↔ x ∈ ks ∨ x = k := by
  unfold insK
  split
  · next h =>
    constructor
    · exact .inl
    · rintro (h1 | rfl)
      · exact h1
      · exact h
  · simp
theorem nodup_insK {ks : List Nat} {k : Nat} (h : ks.Nodup) : (insK ks k).Nodup := by
  unfold insK
  split
  · exact h
  · next hk =>
    rw [List.nodup_append]
    refine ⟨h, by simp, fun a ha b hb e => ?_⟩
    simp at hb
    subst hb e
    exact hk ha
theorem up_kni (ks ms : List Nat) : upG (kni ks) (kni ms) = kni (ms.foldl insK ks) := by
  unfold upG
  induction ms generalizing ks with
  | nil => rfl
  | cons m ms ih =>
    show (kni ms).foldl _ (putG (kni ks) (Sum.inl (m : Int)) (.bl true)) = _
    rw [put_kni]
    exact ih _
theorem mem_fold_ins {ms : List Nat} : ∀ {ks : List Nat} {x : Nat}, x ∈ ms.foldl insK ks ↔ x ∈ ks ∨ x ∈ ms := by
  induction ms with
  | nil => intro ks x; simp
  | cons m ms ih =>
    intro ks x
    show x ∈ ms.foldl insK (insK ks m) ↔ _
    rw [ih, mem_insK, List.mem_cons]
    constructor
    · rintro ((h | h) | h)
      · exact .inl h
      · exact .inr (.inl h)
      · exact .inr (.inr h)
    · rintro (h | h | h)
      · exact .inl (.inl h)
      · exact .inl (.inr h)
      · exact .inr h
theorem nodup_fold_ins {ms : List Nat} : ∀ {ks : List Nat}, ks.Nodup → (ms.foldl insK ks).Nodup := by
  induction ms with
  | nil => intro ks h; exact h
  | cons m ms ih => exact fun h => ih (nodup_insK h)
theorem sorted_kni {ks ms : List Nat} {ys : List Int} (nd : ks.Nodup) (hp : ys.Perm (ks.map fun (k : Nat) => (k : Int))) (hs : ys.Pairwise (· ≤ ·)) (hm : ∀ x, x ∈ ks ↔ x ∈ ms) : ys = (ascN ms).map fun (k : Nat) => (k : Int) := by
  obtain ⟨zs, hz, rfl⟩ := perm_map_inv hp
  congr 1
  refine ascN_ext ?_ (asc_ascN ms) fun x => by rw [hz.mem_iff, hm x, mem_ascN]
  have n2 : zs.Nodup := hz.nodup_iff.mpr nd
  rw [List.pairwise_map] at hs
  exact (hs.and n2).imp fun ⟨a, b⟩ => by omega
theorem bensF_low {rs : List (List Nat)} : rowsOk rs → ∀ (i : Nat) (b : List Nat), (bensF rs)[i]? = some b → ∀ x ∈ b, x < i := by
  induction rs using snoc_ind with
  | h0 => intro _ i b h; simp [bensF] at h
  | h1 rs r ih =>
    intro ok i b h x hx
    have ok2 : rowsOk rs := by
      have := ok.take rs.length
      simpa using this
    rw [bensF_snoc] at h
    by_cases hi : i < (bensF rs).length
    · rw [List.getElem?_append_left hi] at h
      exact ih ok2 i b h x hx
    · rw [List.getElem?_append_right (by omega)] at h
      have e : i = rs.length := by
        have := (List.getElem?_eq_some_iff.mp h).1
        rw [bensF_len] at *
        simp at this
        omega
      subst e
      rw [bensF_len] at h
      simp at h
      subst h
      rw [mem_ascN, List.mem_append] at hx
      have hr := (ok.asc rs.length r (by simp)).2
      rcases hx with h | h
      · exact hr x h
      · obtain ⟨l, hl, hx2⟩ := List.mem_flatten.mp h
        obtain ⟨k, hk, rfl⟩ := List.mem_map.mp hl
        have hk2 := hr k hk
        have hb : (bensF rs)[k]? = some ((bensF rs).getD k []) := by
          rw [List.getD_eq_getElem?_getD, List.getElem?_eq_getElem (by rw [bensF_len]; exact hk2)]
          rfl
        have := ih ok2 k _ hb x hx2
        omega
theorem low_len {ks : List Nat} {j : Nat} (nd : ks.Nodup) (h : ∀ x ∈ ks, x < j) : ks.length ≤ j := by
  have h2 := List.Nodup.length_le_of_subset (l₁ := ks) (l₂ := List.range j) nd fun x hx => List.mem_range.mpr (h x hx)
  rwa [List.length_range] at h2
theorem kni_len (ks : List Nat) : (kni ks).length = ks.length := by simp [kni]
theorem at_row {bs : List (List Nat)} {k : Nat} (h : k < bs.length) : atI (bs.map rowD) ((k : Nat) : Int) = some (rowD (bs.getD k [])) := by
  unfold atI ixN
  rw [if_pos (by omega), if_pos (by rw [List.length_map]; omega)]
  simp [h]
theorem fold_max : ∀ (ls : List Nat) (a : Nat), ls.foldl max a ∈ a :: ls ∧ ∀ y ∈ a :: ls, y ≤ ls.foldl max a
  | [], a => by simp
  | b :: ls, a => by
    obtain ⟨h1, h2⟩ := fold_max ls (max a b)
    show ls.foldl max (max a b) ∈ _ ∧ ∀ y ∈ _, y ≤ ls.foldl max (max a b)
    have h3 := h2 (max a b) List.mem_cons_self
    refine ⟨?_, fun y hy => ?_⟩
    · rcases List.mem_cons.mp h1 with e | e
      · rw [e]
        rcases Nat.le_total a b with h | h
        · rw [Nat.max_eq_right h]
          simp
        · rw [Nat.max_eq_left h]
          simp
      · exact List.mem_cons_of_mem _ (List.mem_cons_of_mem _ e)
    · simp only [List.mem_cons] at hy
      rcases hy with rfl | rfl | hy
      · omega
      · omega
      · exact h2 y (List.mem_cons_of_mem _ hy)
theorem at_nat {hs : List Nat} {k : Nat} (h : k < hs.length) : atI (hs.map natD) ((k : Nat) : Int) = some (natD (hs.getD k 0)) := by
  unfold atI ixN
  rw [if_pos (by omega), if_pos (by rw [List.length_map]; omega)]
  simp [h]
section
variable {F : FmKit} {T : Kx} {RR : Om → Prop} {x : Addr} {z : D} {n : Str} {ns nm : List Str} {l : List D} {c : Nat}
theorem rcv_newC (zf : CZ T.K (T.cl c) nm) (hn : n ∈ nm) (h : n ∉ ns) (hl : ns.length < 1000) (r : RR [(x, .ins c (ns ++ [n]) (l ++ [z]))]) : Rcv F T (.adr x) z n [(x, .ins c ns l)] RR :=
  ⟨x, c, ns, l, [], [], _, _, rfl, rfl, zf.cls, zf.nos n hn, hl, .new ns l h, r⟩
end
def S_lenW : FS := fun ds W post => ∃ w : Wb, ds = [w.d] ∧ W = [] ∧ w.below.length ≤ 63 ∧ post (.int (w.below.length : Nat)) []
inductive FldW : Str → Wb → D → Prop
  | below (w : Wb) : FldW "below" w (rowsD w.below)
  | atoms (w : Wb) : FldW "atoms" w (atomsD w.atoms)
  | bens (w : Wb) : FldW "all_beneath" w (.lst ((bensF w.below).map rowD))
  | hgts (w : Wb) : FldW "all_heights" w (.lst ((hgtF w.below).map natD))
end N
set_option Elab.async false
set_option linter.all false
set_option maxRecDepth 100000
namespace N
open PySem PySem.Spec PyProof.Rows L2
open C8 (Cal Met Mak InsC pe_c pe_mt pe_mt0 pe_mk)
/-- a def of the text with defaults -/
abbrev FunT (K : PySem.W.Frag) (x qual : Str) (st : Stmt) (dvs : List V) (f : Addr) (fd : FuncData) : Prop := FunD K x qual (defArgs st) (defBody st) (defScope st) dvs [] f fd
section
variable {P : Program} {w : World} {K : PySem.W.Frag} {mg : Str → Option Value} {base : Heap} {F : FmKit} {cl : Nat → Addr} {S : FS}
/-- every argument is written -/
theorem FunT.all {x qual : Str} {st : Stmt} {dvs : List V} {f : Addr} {fd : FuncData} {ps : List Str} (Fn : FunT K x qual st dvs f fd) (hd : dvs ≠ [])
    (h : ∀ (T : Addr) (kV doc pm : Value) (an : Option Addr) (cdv ct : Value) (us its : List Value), us.length = ps.length → its.length = dvs.length →
      ∃ k, bindArgs (PySem.W.fnOf x qual (defArgs st) (defBody st) (defScope st) (.ref T) kV doc pm an cdv ct) ⟨us, []⟩ = seqItems? (.ref T) >>= k ∧ k (some its.toArray) = pure (ps.zip us)) : Binds K fd ps [] := by
  obtain ⟨ds, r, b⟩ := FunD.binds1 (ps := ps) Fn ps.length dvs.length hd (by omega) (fun T kV doc pm an cdv ct us its h1 h2 => by
    obtain ⟨k, e1, e2⟩ := h T kV doc pm an cdv ct us its h1 h2
    refine ⟨k, e1, ?_⟩
    rw [e2, List.drop_of_length_le (by omega), List.append_nil])
  rw [List.drop_of_length_le (Nat.le_refl _)] at r
  cases r
  exact b
end
theorem inst_wb {F : FmKit} {W : Om} (w : Wb) : Inst F W w.d 1 wbNames [rowsD w.below, atomsD w.atoms, .lst ((bensF w.below).map rowD), .lst ((hgtF w.below).map natD)] := .obj _ _ _
/-- a field of a formula or of a web -/
theorem ev_fwF {T : Kx} {G : Gm} {W : Om} {R : D → Om → Prop} {ta : TE} {n : Str} (zf : FZ T.K (T.cl 0)) (zw : CZ T.K (T.cl 1) wbNames)
    (h : Ev FK T ta G W fun d W1 => (∃ f z, d = .fm f ∧ FldF n f z ∧ R z W1) ∨ ∃ w z, d = Wb.d w ∧ FldW n w z ∧ R z W1) : Ev FK T (tFld T.K ta n) G W R :=
  ev_fld (h.imp fun d W1 hh => by
    rcases hh with ⟨f, z, e, k, r⟩ | ⟨w, z, e, f, r⟩
    · subst e
      exact ⟨0, fmNames, fmVals FK f, z, .fm f, zf.cls, zf.nos n k.look.1, k.look.2, r⟩
    · subst e
      refine ⟨1, wbNames, _, z, .obj _ _ _, zw.cls, ?_, ?_, r⟩
      · cases f <;> exact zw.nos _ (by decide +kernel)
      · cases f <;> rfl)
end N
set_option Elab.async false
set_option linter.all false
set_option maxRecDepth 100000
set_option maxHeartbeats 4000000
set_option Elab.async false
set_option linter.all false
set_option maxRecDepth 100000
set_option maxHeartbeats 4000000
namespace N
open PySem PySem.Spec PyProof.Rows L2
def rSetL (K : PySem.W.Frag) (w : World) : List V → Hp → VK → Prop := fun xs H Q => ∃ (l : Addr) (ns : List Int), xs = [.ref l] ∧ SqL K H l (ns.map V.int) ∧ ns.length < 4000 ∧ ∀ a c, c ≤ ns.length → H a = none → Q (.ref a) (upd H a (SetO w a (fun j => decide (j ∈ ns)) c))
/-- whole numbers from 0 on, as data -/
def castI (ns : List Nat) : List Int := ns.map fun (k : Nat) => (k : Int)
theorem castI_inv {ys : List Int} {ns : List Nat} (hs : ys.Pairwise (· < ·)) (hm : ∀ k, k ∈ ys ↔ k ∈ castI ns) : ys = castI (ascN ns) := by
  have e : ys = castI (ys.map Int.toNat) := by
    unfold castI
    rw [List.map_map]
    refine (List.map_id ys).symm.trans (List.map_congr_left fun y hy => ?_)
    obtain ⟨k, _, rfl⟩ := List.mem_map.mp ((hm y).mp hy)
    simp
  have hmem : ∀ x : Nat, x ∈ ys.map Int.toNat ↔ x ∈ ns := fun x => by
    constructor
    · intro h
      obtain ⟨y, hy, rfl⟩ := List.mem_map.mp h
      obtain ⟨k, hk, rfl⟩ := List.mem_map.mp ((hm y).mp hy)
      simpa using hk
    · intro h
      exact List.mem_map.mpr ⟨(x : Int), (hm _).mpr (List.mem_map.mpr ⟨x, h, rfl⟩), by simp⟩
  have asc : (ys.map Int.toNat).Pairwise (· < ·) := by
    rw [e] at hs
    unfold castI at hs
    rw [List.pairwise_map] at hs
    exact hs.imp fun h => by omega
  rw [e]
  congr 1
  exact ascN_ext asc (asc_ascN ns) fun x => by rw [hmem, mem_ascN]
end N
set_option Elab.async false
set_option linter.all false
set_option maxRecDepth 100000
set_option maxHeartbeats 4000000
namespace N
open PySem PySem.Spec PyProof.Rows L2
section
variable {F : FmKit} {T : Kx} {C H H' O O' : Hp} {G : Gm} {W W' : Om} {R : D → Om → Prop} {σ : L2.St} {d e : D} {l m : List D} {te ta tb to ti : TE}
/-- o[i] = e of a list -/
theorem ta_subL {RR : Gm → Om → Prop} (h : Ev F T to G W fun o W1 => Ev F T ti G W1 fun i W2 => ∃ p l k j W3 W4, o = .adr p ∧ i = .int k ∧ W2 = W3 ++ (p, .lst l) :: W4 ∧ L2.ixN l.length k = some j ∧ RR G (W3 ++ (p, .lst (l.set j d)) :: W4)) :
    Ta F T (gSub to ti L2.rSetL) d G W RR := fun C H O σ w v k Q q =>
  h C H O σ w _ fun o W1 H1 O1 ov' h1 n1 k1 => h1 C H1 O1 σ (w.step n1) _ fun i W2 H2 O2 iv ⟨p, l, kk, j, W3, W4, e1, e2, e3, hj, r⟩ n2 k2 => by
    subst e1 e2 e3
    have k1 : ov' = .ref p := k1
    have k2 : iv = .int kk := k2
    subst k1 k2
    have nx := n1.trans n2
    obtain ⟨xs, e, kl⟩ := own_lst n2.own
    have kv := (k.mono n1.ext).mono n2.ext
    obtain ⟨n3, e3⟩ := nx.write (o := .lst (xs.set j v)) (od2 := .lst (l.set j d)) ⟨_, rfl, kl.set kv⟩
    refine ⟨p, xs, kk, j, rfl, rfl, ov_own e, by rw [kl.len]; exact hj, ?_⟩
    rw [e3]
    exact q G _ _ _ σ r n3 (w.loc.mono nx.ext)
theorem ca_listF (hv : Vs W d l) (r : R (.lst l) W) : Ca F T (fun xs H Q => ∃ p ys, xs = [.ref p] ∧ (SqL T.K H p ys ∨ SqT T.K H p ys) ∧ ∀ q, H q = none → Q (.ref q) (upd H q (.lst ys))) [d] W R :=
  ca_fz (ca_list hv fun p hp => ⟨p, _, W, _, rfl, List.Perm.refl _, .lst _, r⟩)
/-- sorted of a list of ints -/
theorem ca_sortedIL {ns : List Int} (hv : Vl W d (ns.map D.int)) (r : ∀ ys : List Int, ys.Perm ns → ys.Pairwise (· ≤ ·) → R (.lst (ys.map D.int)) W) : Ca F T (L2.rSortedI T.K) [d] W R := ca_one fun C H O di oc ow x k Q q => by
  obtain ⟨a, xs, e, hs, kl⟩ := hv.sq ow di k
  have : xs = ns.map V.int := by
    have := kl
    rw [show ns.map D.int = (ns.map V.int).map D.vl by rw [List.map_map]; rfl] at this
    exact DenL.vls_inv this
  subst this
  refine ⟨a, ns, by rw [e], hs, fun ys p hp hs2 hn => ?_⟩
  obtain ⟨n2, e2, s2⟩ := (Nx.refl (F := F) (T := T) di oc ow).newF (o := .lst (ys.map V.int)) hn
  rw [e2]
  refine q _ W _ O _ (r ys hp hs2) n2 ⟨p, _, rfl, upd_same, ?_⟩
  have := DenL.vls (F := F) (T := T) (H := upd H p (.lst (ys.map V.int))) (ys.map V.int)
  rw [List.map_map] at this
  exact this
theorem ca_sortedNL {ns : List Nat} (hv : Vl W d (ns.map natD)) (nd : ns.Nodup) (r : R (.lst ((ascN ns).map natD)) W) : Ca F T (L2.rSortedI T.K) [d] W R :=
  ca_sortedIL (ns := castI ns) (by unfold castI; rw [List.map_map]; exact hv) fun ys hp hs => by
    have e : ys = castI (ascN ns) := castI_inv (by
      have n2 : ys.Nodup := hp.nodup_iff.mpr (by
        unfold castI
        exact nd.map (f := fun k : Nat => (k : Int)) fun x y e h => e (by omega))
      exact (hs.and n2).imp fun ⟨a, b⟩ => by omega) fun k => hp.mem_iff
    rw [e]
    unfold castI
    rw [List.map_map]
    exact r
end
end N
set_option Elab.async false
set_option linter.all false
set_option maxRecDepth 100000
set_option maxHeartbeats 4000000
namespace N
open PySem PySem.Spec PyProof.Rows L2
theorem sub_str_str : isSubtype (.type "str") (.type "str") = pure true := by rw [isSubtype_type]; kernel_rfl
section
variable {P : Program} {w : World} {A : Around} {E : Value → Shared → Prop} {s : Shared}
theorem strsAre_of_get {us : List Value} {xs : List Str} (hl : us.length = xs.length) (h : ∀ (i : Nat) (v : Value), us[i]? = some v → ∃ k t, xs[i]? = some k ∧ v = .str k t) : StrsAre us xs := by
  induction us generalizing xs with
  | nil =>
    cases xs with
    | nil => exact .nil
    | cons x xs => cases hl
  | cons u us ih =>
    cases xs with
    | nil => cases hl
    | cons x xs =>
      obtain ⟨k, t, e1, rfl⟩ := h 0 u rfl
      have e1 : some x = some k := e1
      cases e1
      exact .cons x t (ih (by simpa using hl) fun i v hv => h (i + 1) v hv)
theorem collect_text {x : Str} {t : Tok} {Q : List Value → Shared → Prop} (hh : A.handled = none) (hb : x.length ≤ sizeLine)
    (hQ : ∀ s' out, (∀ b o, s.heap.get? b = some o → s'.heap.get? b = some o) → s.heap.objs.size ≤ s'.heap.objs.size → s'.gens = s.gens → s'.os = s.os → StrsAre out (signs x) → Q out s') :
    wpAny (model P w) A (collect (.str x t)) Q E s := by
  unfold collect
  refine wpAny_bind (wpAny_runValue (codeAny_builtin F.entry_proto_collect ?_))
  rw [Around.under_plainId F.plain_proto_collect _]
  show wpAny _ A.in1 (newList [] >>= fun l => again (.builtin "list.__iadd__" ⟨[l, .str x t], []⟩)) _ _ s
  refine wpAny_bind (wpAny_newObj_type ?_)
  refine wpAny_pure ⟨plainId_quiet F.plain_list_iadd _, codeAny_builtin F.entry_list_iadd ?_⟩
  rw [Around.under_plainId F.plain_list_iadd _]
  have hS : (s.heap.push { cls := .type "list", data := .seq ([] : List Value).toArray }).get? s.heap.objs.size = some { cls := .type "list", data := .seq ([] : List Value).toArray } := Heap.get?_push_size _ rfl
  have hz1 : (s.heap.push { cls := .type "list", data := .seq ([] : List Value).toArray }).objs.size = s.heap.objs.size + 1 := size_push' _ _
  show wpAny _ A.in1 (Builtin.List.listExtendWith (.ref s.heap.objs.size) (.str x t) (.ref s.heap.objs.size)) _ _ _
  unfold Builtin.List.listExtendWith
  refine wpAny_bind (wpAny_typeOf (T := "str") (typeIs_str _ _ _) ?_)
  have h1 : Builtin.List.listSameRef (.ref s.heap.objs.size) (.str x t) = false := rfl
  have h2 : (Value.type "str" == Value.type "list") = false := by decide
  have h3 : (Value.type "str" == Value.type "tuple") = false := by decide
  simp only [h1, h2, h3, Bool.or_false, Bool.false_eq_true, if_false]
  refine wpAny_bind (wpAny_pyIter_str fun o St W hst => ?_)
  refine wpAny_bind (wpAny_holding ?_)
  unfold Builtin.List.listLengthHint
  refine wpAny_bind (wpAny_specialOf (typeIs_str _ _ _) F.slot_str_len.lookup ?_)
  (generalize hid : ("str.__len__" : String) = id0; (fail_if_success (clear hid id0)); wp_delta; rw [show splitId id0 = some ("str", "__len__") from by subst hid; decide +kernel]; subst hid)
  refine wpAny_bind (wpAny_isInstance (b := true) (typeIs_str _ _ _) sub_str_str ?_)
  show wpAny _ A.in1 (typeOf (.str x t) >>= _) _ _ _
  refine wpAny_bind (wpAny_typeOf (T := "str") (typeIs_str _ _ _) ?_)
  refine wpAny_pure ?_
  refine wpAny_ite_false (by decide +kernel) ?_
  have hI : (s.heap.push { cls := .type "list", data := .seq ([] : List Value).toArray }).objs.size = s.heap.objs.size + 1 := hz1
  have hS2 : ((s.heap.push { cls := .type "list", data := .seq ([] : List Value).toArray }).push o).get? s.heap.objs.size = some { cls := .type "list", data := .seq ([] : List Value).toArray } := Heap.get?_push_of_some _ hS
  have hSf : s.heap.objs.size ∉ [(s.heap.push { cls := .type "list", data := .seq ([] : List Value).toArray }).objs.size] := by
    rw [hz1, List.mem_singleton]
    omega
  refine wpAny_pure ⟨plainId_quiet F.plain_extend_loop _, codeAny_extend_loopS (W A.in1 hh).toS hb _ hSf _ x.cps.size 0 _ _ _ rfl (Nat.zero_le _) hst hS2 (ItemsOf.nil (SignAt x)) fun s' acc' c' hm hS' hacc => ?_⟩
  show wpAny _ A (load s.heap.objs.size >>= _) _ _ s'
  refine wpAny_bind (wpAny_load hS' ?_)
  refine wpAny_pure ?_
  show Q acc'.toList s'
  refine hQ s' _ (fun b u e => ?_) (Nat.le_of_lt (Heap.lt_size hS')) hm.gens hm.os ?_
  · have hbl : b < s.heap.objs.size := Heap.lt_size e
    refine hm.heap b u (fun z => ?_) (Heap.get?_push_of_some _ (Heap.get?_push_of_some _ e))
    rcases List.mem_cons.mp z with z | z
    · exact Nat.ne_of_lt hbl z
    · have z := List.mem_singleton.mp z
      exact Nat.ne_of_lt (Nat.lt_succ_of_lt hbl) (z.trans hz1)
  · refine strsAre_of_get ?_ fun i v hv => ?_
    · unfold signs
      rw [Array.length_toList, hacc.1, List.length_map, Array.length_toList]
    · rw [Array.getElem?_toList] at hv
      obtain ⟨c, u, hc, e⟩ := hacc.2 i v hv
      refine ⟨⟨#[c]⟩, u, ?_, e⟩
      unfold signs
      rw [List.getElem?_map, Array.getElem?_toList, hc]
      rfl
theorem sorted_text {x : Str} {t : Tok} {Q : Value → Shared → Prop} (hh : A.handled = none) (hb : x.length ≤ sizeLine)
    (hQ : ∀ s' p (out : Array Value) (c : Nat) (ks : List Str), (∀ b o, s.heap.get? b = some o → s'.heap.get? b = some o) → s'.gens = s.gens → s'.os = s.os → s.heap.objs.size ≤ p →
      s'.heap.get? p = some (seqObj "list" out c) → StrsAre out.toList ks → sortedS ks = true → ks.Perm (signs x) → Q (.ref p) s') :
    wpAny (model P w) A (call (.builtin "sorted") [.str x t]) Q E s := by
  refine Calls.call_function_entry kind_sorted plain_sorted entry_sorted (args_sorted1 _) ?_
  unfold Builtin.«sorted»
  refine wpAny_bind (m := checkCount "sorted" 1 1 _) (wpAny_pure (wpAny_bind (collect_text (A := A.in1) hh hb fun s1 vs k1 hz g1 o1 hI => ?_)))
  have hvl : vs.length = (signs x).length := hI.length
  have hs : vs.length ≤ sizeLine := by
    rw [hvl]
    unfold signs
    rw [List.length_map, Array.length_toList]
    exact hb
  refine wpAny_bind (wpAny_newList ?_ hs)
  have hoL : (s1.heap.push (seqObj "list" vs.toArray 0)).get? s1.heap.objs.size = some (seqObj "list" vs.toArray 0) := Heap.get?_push_size _ rfl
  refine wpAny_bind (wpAny_holding (wpAny_call_entry slot_list_sort ⟨_, hoL, rfl⟩ entry_list_sort (list_sort_treeKAny strKind_oneLt hoL hI.keysOf (fun v₁ v₂ rest e => keyKind_strs (by rw [← e]; exact hI)) hs fun st' hp ht => ⟨_, rfl, ?_⟩) (args_list_sort _)))
  obtain ⟨ss, h1, h2, h3⟩ := sorted_out_str hI hp ht
  obtain ⟨c, hc⟩ := sortedHeap_at (vs := vs) (out := (arrOf st').map (·.2)) hoL
  refine wpAny_pure ⟨_, rfl, hQ _ s1.heap.objs.size _ c ss (fun b u e => ?_) g1 o1 hz hc h1 h3 h2⟩
  have q := k1 b u e
  have hlt := Heap.lt_size q
  show (sortedHeap (s1.heap.push (seqObj "list" vs.toArray 0)) s1.heap.objs.size vs _).get? b = some u
  rw [sortedHeap_old (Nat.ne_of_lt hlt) (by rw [size_push']; exact Nat.lt_succ_of_lt hlt)]
  exact Heap.get?_push_of_some _ q
end
def rSortedX : List V → Hp → VK → Prop := fun vs H Q => ∃ x : Str, vs = [V.str x] ∧ x.length ≤ 5000 ∧ ∀ (ks : List Str) (p : Addr), sortedS ks = true → ks.Perm (signs x) → H p = none → Q (.ref p) (upd H p (.lst (ks.map V.str)))
theorem cr_sortedX {X : Cx} (hc : X.calm = true) : CallR X (.builtin "sorted") rSortedX := by
  intro pins s σ H vs us Q I r h
  obtain ⟨x, rfl, hx, q⟩ := h
  obtain ⟨u, rfl, t, rfl⟩ := vals1 r
  have h16 := sizeLine_eq
  refine sorted_text (I.ok.hd hc) (by omega) fun s' p out c ks k g o hp hg hi hs hm => ?_
  have hlen : (ks.map V.str).length ≤ sizeLine := by
    rw [List.length_map, hm.length_eq]
    unfold signs
    rw [List.length_map, Array.length_toList]
    show x.length ≤ _
    omega
  have hn : H p = none := I.hok.fresh hp
  have J : Inv X pins σ (upd H p (.lst (ks.map V.str))) { s with heap := s'.heap, gens := s'.gens, drawn := s'.drawn, toks := s'.toks } :=
    I.call (ch := []) (Un.laid k hp hn) (I.hok.laid k hp ⟨hlen, out.toList, c, vals_of_strs hi, hg⟩) (by rw [g]; exact I.bare) (fun _ z => nomatch z)
  have e : s' = { s with heap := s'.heap, gens := s'.gens, drawn := s'.drawn, toks := s'.toks } := by
    cases s'
    cases s
    cases o
    rfl
  rw [e]
  exact ⟨.ref p, _, J, rfl, q ks p hs hm hn⟩
/-- sorted of a text of unlike signs -/
theorem sorted_signs {x : Str} {ks : List Str} (hs : sortedS ks = true) (hp : ks.Perm (signs x)) (nd : (lets x).Nodup) : ks = (ascN (lets x)).map sg := by
  have e1 : signs x = (lets x).map sg := rfl
  have n2 : (signs x).Nodup := by
    rw [e1]
    exact nd.map (f := sg) fun a b e h => e (sg_inj h)
  rw [ascS_sorted (m := signs x) hs (hp.nodup_iff.mpr n2) fun z => hp.mem_iff, e1, ascS_sg]
  rfl
section
variable {F : FmKit} {T : Kx} {G : Gm} {W W' : Om} {R : D → Om → Prop}
theorem ca_sortedX {x : Str} (hx : x.length ≤ 5000) (nd : (lets x).Nodup) (r : R (.lst ((ascN (lets x)).map fun c => .str (sg c))) W) : Ca F T rSortedX [.str x] W R := ca_one fun C H O di oc ow v k Q q => by
  have k : v = .str x := k
  refine ⟨x, by rw [k], hx, fun ys p hs hp hn => ?_⟩
  obtain ⟨n2, e2, s2⟩ := (Nx.refl (F := F) (T := T) di oc ow).newF (o := .lst (ys.map V.str)) hn
  rw [e2]
  refine q _ W _ O _ r n2 ⟨p, _, rfl, upd_same, ?_⟩
  rw [sorted_signs hs hp nd]
  have := den_strs (F := F) (T := T) (H := upd H p (.lst (((ascN (lets x)).map sg).map V.str))) ((ascN (lets x)).map sg)
  rw [show ((ascN (lets x)).map fun c => D.str (sg c)) = ((ascN (lets x)).map sg).map D.str by rw [List.map_map]; rfl]
  exact this
end
end N
set_option Elab.async false
set_option linter.all false
set_option maxRecDepth 100000
namespace N
open PySem PySem.Spec PyProof.Rows L2
theorem getD_snoc_lt {α : Type} {l : List α} {a d : α} {i : Nat} (h : i < l.length) : (l ++ [a]).getD i d = l.getD i d := by
  rw [List.getD_eq_getElem?_getD, List.getD_eq_getElem?_getD, List.getElem?_append_left h]
theorem getD_snoc_eq {α : Type} {l : List α} {a d : α} {i : Nat} (h : i = l.length) : (l ++ [a]).getD i d = a := by
  subst h
  rw [List.getD_eq_getElem?_getD, List.getElem?_append_right (Nat.le_refl _)]
  simp
theorem rowsOk.init {rs : List (List Nat)} {r : List Nat} (h : rowsOk (rs ++ [r])) : rowsOk rs := by
  have := h.take rs.length
  simpa using this
theorem rowsOk.at_ {rs : List (List Nat)} (h : rowsOk rs) {i : Nat} (hi : i < rs.length) : (rs.getD i []).Pairwise (· < ·) ∧ ∀ k ∈ rs.getD i [], k < i :=
  h.asc i _ (by rw [List.getD_eq_getElem?_getD, List.getElem?_eq_getElem hi]; rfl)
theorem bens_at {rs : List (List Nat)} : rowsOk rs → ∀ {i : Nat}, i < rs.length → (bensF rs).getD i [] = ascN (rs.getD i [] ++ ((rs.getD i []).map fun k => (bensF rs).getD k []).flatten) := by
  induction rs using snoc_ind with
  | h0 => intro _ i h; cases h
  | h1 rs r ih =>
    intro ok i hi
    rw [bensF_snoc]
    have hl := bensF_len rs
    rw [List.length_append] at hi
    have hi : i < rs.length + 1 := hi
    rcases Nat.lt_or_eq_of_le (Nat.le_of_lt_succ hi) with h | h
    · rw [getD_snoc_lt (by omega), getD_snoc_lt h, ih ok.init h]
      congr 3
      refine List.map_congr_left fun k hk => ?_
      have := (ok.init.at_ h).2 k hk
      rw [getD_snoc_lt (by omega)]
    · rw [getD_snoc_eq (by omega), getD_snoc_eq h]
      congr 3
      refine List.map_congr_left fun k hk => ?_
      have := (ok.asc rs.length r (by simp)).2 k hk
      rw [getD_snoc_lt (by omega)]
theorem bens_mem {rs : List (List Nat)} (ok : rowsOk rs) {i x : Nat} (hi : i < rs.length) : x ∈ (bensF rs).getD i [] ↔ x ∈ rs.getD i [] ∨ ∃ k ∈ rs.getD i [], x ∈ (bensF rs).getD k [] := by
  rw [bens_at ok hi, mem_ascN, List.mem_append, List.mem_flatten]
  refine or_congr Iff.rfl ⟨fun ⟨l, h1, h2⟩ => ?_, fun ⟨k, h1, h2⟩ => ⟨_, List.mem_map.mpr ⟨k, h1, rfl⟩, h2⟩⟩
  obtain ⟨k, h3, rfl⟩ := List.mem_map.mp h1
  exact ⟨k, h3, h2⟩
theorem bens_lt {rs : List (List Nat)} (ok : rowsOk rs) {i x : Nat} (hi : i < rs.length) (h : x ∈ (bensF rs).getD i []) : x < i :=
  bensF_low ok i _ (by rw [List.getD_eq_getElem?_getD, List.getElem?_eq_getElem (by rw [bensF_len]; exact hi)]; rfl) x h
theorem bens_least {rs : List (List Nat)} (ok : rowsOk rs) (M : Nat → Prop) (cl : ∀ m, m < rs.length → M m → ∀ k ∈ rs.getD m [], M k) : ∀ (i : Nat), i < rs.length → (∀ k ∈ rs.getD i [], M k) → ∀ x ∈ (bensF rs).getD i [], M x := by
  intro i
  induction i using Nat.strongRecOn with
  | ind i ih =>
    intro hi h x hx
    rcases (bens_mem ok hi).mp hx with h1 | ⟨k, h1, h2⟩
    · exact h x h1
    · have hk := (ok.at_ hi).2 k h1
      exact ih k hk (by omega) (cl k (by omega) (h k h1)) x h2
theorem bens_trans {rs : List (List Nat)} (ok : rowsOk rs) {x k : Nat} : ∀ (i : Nat), i < rs.length → k ∈ (bensF rs).getD i [] → x ∈ (bensF rs).getD k [] → x ∈ (bensF rs).getD i [] := by
  intro i
  induction i using Nat.strongRecOn with
  | ind i ih =>
    intro hi h hx
    rcases (bens_mem ok hi).mp h with h1 | ⟨q, h1, h2⟩
    · exact (bens_mem ok hi).mpr (.inr ⟨k, h1, hx⟩)
    · have hq := (ok.at_ hi).2 q h1
      exact (bens_mem ok hi).mpr (.inr ⟨q, h1, ih q hq (by omega) h2 hx⟩)
theorem bens_row {rs : List (List Nat)} (ok : rowsOk rs) {i x k : Nat} (hi : i < rs.length) (h : k ∈ (bensF rs).getD i []) (hx : x ∈ rs.getD k []) : x ∈ (bensF rs).getD i [] := by
  have := bens_lt ok hi h
  exact bens_trans ok i hi h ((bens_mem ok (by omega)).mpr (.inl hx))
theorem bens_asc {rs : List (List Nat)} (ok : rowsOk rs) {i : Nat} (hi : i < rs.length) : ((bensF rs).getD i []).Pairwise (· < ·) := by
  rw [bens_at ok hi]
  exact asc_ascN _
/-- the ways, gone one by one -/
structure WW (rs : List (List Nat)) (i : Nat) (met wait : List Nat) : Prop where
  nd : met.Nodup
  ms : ∀ x ∈ met, x ∈ (bensF rs).getD i []
  ws : ∀ x ∈ wait, x ∈ (bensF rs).getD i []
  top : ∀ k ∈ rs.getD i [], k ∈ met ∨ k ∈ wait
  cl : ∀ m ∈ met, ∀ k ∈ rs.getD m [], k ∈ met ∨ k ∈ wait
theorem WW.start {rs : List (List Nat)} (ok : rowsOk rs) {i : Nat} (hi : i < rs.length) : WW rs i [] (rs.getD i []) :=
  ⟨List.nodup_nil, by simp, fun x hx => (bens_mem ok hi).mpr (.inl hx), fun k hk => .inr hk, by simp⟩
theorem WW.new {rs : List (List Nat)} (ok : rowsOk rs) {i k : Nat} {met wait : List Nat} (hi : i < rs.length) (w : WW rs i met (wait ++ [k])) (h : k ∉ met) : WW rs i (met ++ [k]) (wait ++ rs.getD k []) := by
  have hk := w.ws k (by simp)
  have mv : ∀ x, x ∈ met ∨ x ∈ wait ++ [k] → x ∈ met ++ [k] ∨ x ∈ wait ++ rs.getD k [] := fun x hx => by
    simp only [List.mem_append, List.mem_singleton] at hx ⊢
    rcases hx with h | h | h
    · exact .inl (.inl h)
    · exact .inr (.inl h)
    · exact .inl (.inr h)
  refine ⟨?_, fun x hx => ?_, fun x hx => ?_, fun x hx => mv x (w.top x hx), fun m hm x hx => ?_⟩
  · rw [List.nodup_append]
    refine ⟨w.nd, by simp, fun a ha b hb e => ?_⟩
    rw [List.mem_singleton] at hb
    subst hb e
    exact h ha
  · rcases List.mem_append.mp hx with h1 | h1
    · exact w.ms x h1
    · rw [List.mem_singleton] at h1
      exact h1 ▸ hk
  · rcases List.mem_append.mp hx with h1 | h1
    · exact w.ws x (by simp [h1])
    · exact bens_row ok hi hk h1
  · rcases List.mem_append.mp hm with h1 | h1
    · exact mv x (w.cl m h1 x hx)
    · rw [List.mem_singleton] at h1
      subst h1
      exact .inr (List.mem_append_right _ hx)
theorem WW.fin {rs : List (List Nat)} (ok : rowsOk rs) {i : Nat} {met : List Nat} (hi : i < rs.length) (w : WW rs i met []) : ascN met = (bensF rs).getD i [] := by
  refine ascN_ext (asc_ascN _) (bens_asc ok hi) fun x => ?_
  rw [mem_ascN]
  constructor
  · exact w.ms x
  · refine fun hx => bens_least ok (· ∈ met) (fun m hm hmm k hk => ?_) i hi (fun k hk => ?_) x hx
    · exact (w.cl m hmm k hk).resolve_right (by simp)
    · exact (w.top k hk).resolve_right (by simp)
theorem WW.few {rs : List (List Nat)} (ok : rowsOk rs) {i : Nat} {met wait : List Nat} (hi : i < rs.length) (w : WW rs i met wait) : met.length ≤ i :=
  low_len w.nd fun x hx => bens_lt ok hi (w.ms x hx)
theorem rowsOk.nil : rowsOk [] := ⟨fun i r h => by simp at h, by simp⟩
theorem rowsOk.snoc {rs : List (List Nat)} {r : List Nat} (h : rowsOk rs) (h1 : r.Pairwise (· < ·)) (h2 : ∀ k ∈ r, k < rs.length) (hl : rs.length < 63) : rowsOk (rs ++ [r]) := by
  refine ⟨fun i q hq => ?_, by simp; omega⟩
  by_cases hi : i < rs.length
  · rw [List.getElem?_append_left hi] at hq
    exact h.asc i q hq
  · rw [List.getElem?_append_right (by omega)] at hq
    have e : i - rs.length = 0 := by
      have := (List.getElem?_eq_some_iff.mp hq).1
      simp at this
      omega
    rw [e] at hq
    have hq : some r = some q := hq
    cases hq
    have e : i = rs.length := by omega
    subst e
    exact ⟨h1, h2⟩
theorem sg_sum : ∀ m : List Nat, ((m.map sg).map (·.length)).sum = m.length
  | [] => rfl
  | c :: m => by
    have := sg_sum m
    simp only [List.map_cons, List.sum_cons, List.length_cons]
    rw [this]
    show 1 + _ = _
    omega
theorem at_map {α : Type} {f : α → D} {bs : List α} {k : Nat} {d : α} (h : k < bs.length) : atI (bs.map f) ((k : Nat) : Int) = some (f (bs.getD k d)) := by
  unfold atI ixN
  rw [if_pos (by omega), if_pos (by rw [List.length_map]; omega)]
  simp [h]
theorem ixN_nat {n k : Nat} (h : k < n) : L2.ixN n ((k : Nat) : Int) = some k := by
  unfold L2.ixN
  rw [if_pos (by omega), if_pos (by omega)]
  simp
theorem dec_castI {q : Nat} {met : List Nat} : decide ((q : Int) ∈ castI met) = decide (q ∈ met) := by
  have : ((q : Int) ∈ castI met) ↔ q ∈ met := by
    unfold castI
    rw [List.mem_map]
    constructor
    · rintro ⟨x, hx, e⟩
      have : x = q := by omega
      exact this ▸ hx
    · exact fun h => ⟨q, h, rfl⟩
  by_cases h : q ∈ met
  · rw [decide_eq_true h, decide_eq_true (this.mpr h)]
  · rw [decide_eq_false h, decide_eq_false (fun z => h (this.mp z))]
def rowP (r : List Nat) : PyData := .tuple (r.map fun k => .int (k : Nat))
theorem pd_row (r : List Nat) : (rowD r).pd = some (rowP r) := pd_tup (pdL_map _ _ (fun _ => rfl) r)
theorem rowP_ok {r : List Nat} (hl : r.length ≤ 63) (h : ∀ k ∈ r, k < 64) : Ok1 1 600 (rowP r) :=
  (ok_tup (k := 0) (n := 8) (fun d hd => by
    obtain ⟨k, hk, rfl⟩ := List.mem_map.mp hd
    have := h k hk
    exact ok_int (by omega) (by omega))).up (Nat.le_refl _) (by rw [List.length_map]; omega)
theorem bens_len {rs : List (List Nat)} (ok : rowsOk rs) {i : Nat} (hi : i < rs.length) : ((bensF rs).getD i []).length ≤ i :=
  low_len ((bens_asc ok hi).imp fun h => Nat.ne_of_lt h) fun x hx => bens_lt ok hi hx
theorem eqself {α : Type} {x : α} {i : Decidable (x = x)} : (@decide (x = x) i) = true := by
  cases i with
  | isTrue h => rfl
  | isFalse h => exact absurd rfl h
theorem neself {α : Type} {x : α} {i : Decidable (x = x)} : (!@decide (x = x) i) = false := by
  cases i with
  | isTrue h => rfl
  | isFalse h => exact absurd rfl h
end N
set_option Elab.async false
set_option linter.all false
set_option maxRecDepth 100000
namespace N
open PySem PySem.Spec PyProof.Rows L2
section
variable {F : FmKit} {T : Kx} {C H H' O O' : Hp} {G : Gm} {W W' : Om} {σ : L2.St} {d : D}
theorem tg_lst {n : Nat} {gs : TGs} {ds : List D} {Z : Gm → Prop} (hn : ds.length = n) (h : Tgs F T gs ds G Z) : Tg F T (gLst T.K n gs) (.lst ds) G Z := fun H H1 σ v l e k Q q => by
  obtain ⟨a, xs, ev, hs, kl⟩ := k
  exact ⟨a, xs, ev, SqL.of (e a _ hs), by rw [kl.len, hn], h H H1 σ xs l e kl Q q⟩
end
theorem pi_zipT {X : Cx} {e e2 : Expr} {ta tk : TA} {p pos tpos : Pos} {elts : List Expr} {kk : Nat} {kws : List Keyword} (hg : Gl X "zip") (hm : X.mg "zip" = none) (ha : PA X [e, e2] ta) (hk : PK X kws tk)
    (hall : (backToKw pos (keywordEach kws X.env)).all (·.1.isSome) = true := by rfl) (hks : (backToKw pos (keywordEach kws X.env)).filterMap (·.1) = [Str.ofString "strict"] := by rfl)
    (hs : starEach [e, e2] X.env = (false, eval e X.env) :: starEach [e2] X.env := by rfl)
    (hpl : ((backTo pos (starEach [e, e2] X.env)).any (·.1) || (backToKw pos (keywordEach kws X.env)).any (·.1.isNone)) = false := by rfl) :
    PI X (.Tuple elts kk tpos) (.Call (.Name "zip" p) [e, e2] kws pos) (iZipS X.K ta tk) := pi_zipS hg hm ha hk hall hks hs hpl
def allV (rs : List (List Nat)) (vs : List Bool) : List Bool := rs.foldl (fun acc r => acc ++ [r.all fun k => vs.getD k false && acc.getD k false]) []
theorem allV_snoc (rs : List (List Nat)) (r : List Nat) (vs : List Bool) : allV (rs ++ [r]) vs = allV rs vs ++ [r.all fun k => vs.getD k false && (allV rs vs).getD k false] := by
  unfold allV
  rw [List.foldl_append]
  rfl
theorem allV_len (rs : List (List Nat)) (vs : List Bool) : (allV rs vs).length = rs.length := by
  induction rs using snoc_ind with
  | h0 => rfl
  | h1 rs r ih => rw [allV_snoc, List.length_append, List.length_append, ih]; rfl
theorem allV_row {rs : List (List Nat)} {vs : List Bool} : rowsOk rs → ∀ {i : Nat}, i < rs.length → (allV rs vs).getD i false = (rs.getD i []).all fun k => vs.getD k false && (allV rs vs).getD k false := by
  induction rs using snoc_ind with
  | h0 => intro _ i h; cases h
  | h1 rs r ih =>
    intro ok i hi
    rw [allV_snoc]
    have hl := allV_len rs vs
    rw [List.length_append] at hi
    have hi : i < rs.length + 1 := hi
    have cong : ∀ (l : List Nat), (∀ k ∈ l, k < rs.length) → (l.all fun k => vs.getD k false && (allV rs vs).getD k false) = l.all fun k => vs.getD k false && (allV rs vs ++ [r.all fun k => vs.getD k false && (allV rs vs).getD k false]).getD k false := fun l h => by
      rw [Bool.eq_iff_iff, List.all_eq_true, List.all_eq_true]
      refine forall_congr' fun k => forall_congr' fun hk => ?_
      rw [getD_snoc_lt (by have := h k hk; omega)]
    rcases Nat.lt_or_eq_of_le (Nat.le_of_lt_succ hi) with h | h
    · rw [getD_snoc_lt (by omega), getD_snoc_lt h, ih ok.init h]
      exact cong _ fun k hk => by have := (ok.init.at_ h).2 k hk; omega
    · rw [getD_snoc_eq (by omega), getD_snoc_eq h]
      exact cong _ fun k hk => (ok.asc rs.length r (by simp)).2 k hk
theorem allV_at {rs : List (List Nat)} {vs : List Bool} (ok : rowsOk rs) : ∀ i : Nat, i < rs.length → (allV rs vs).getD i false = ((bensF rs).getD i []).all fun k => vs.getD k false := by
  intro i
  induction i using Nat.strongRecOn with
  | ind i ih =>
    intro hi
    rw [allV_row ok hi, Bool.eq_iff_iff, List.all_eq_true, List.all_eq_true]
    constructor
    · intro h x hx
      rcases (bens_mem ok hi).mp hx with h1 | ⟨k, h1, h2⟩
      · have := h x h1
        rw [Bool.and_eq_true] at this
        exact this.1
      · have hk := (ok.at_ hi).2 k h1
        have := h k h1
        rw [Bool.and_eq_true, ih k hk (by omega), List.all_eq_true] at this
        exact this.2 x h2
    · intro h k hk
      have hki := (ok.at_ hi).2 k hk
      rw [Bool.and_eq_true, ih k hki (by omega), List.all_eq_true]
      exact ⟨h k ((bens_mem ok hi).mpr (.inl hk)), fun x hx => h x ((bens_mem ok hi).mpr (.inr ⟨k, hk, hx⟩))⟩
/-- the values of a formula at the points -/
def Wb.vals (w : Wb) : Fm → List Bool
  | .at c => w.atoms.map fun s => decide (c ∈ lets s)
  | .no => w.below.map fun _ => false
  | .imp a b => List.zipWith (fun x y => !x || y) (w.vals a) (w.vals b)
  | .all a => allV w.below (w.vals a)
theorem Wb.vals_len {w : Wb} (h : w.atoms.length = w.below.length) : ∀ f : Fm, (w.vals f).length = w.below.length
  | .at c => by unfold Wb.vals; rw [List.length_map, h]
  | .no => by unfold Wb.vals; rw [List.length_map]
  | .imp a b => by unfold Wb.vals; rw [List.length_zipWith, vals_len h a, vals_len h b, Nat.min_self]
  | .all a => by unfold Wb.vals; rw [allV_len]
abbrev blsD (l : List Bool) : D := .lst (l.map .bl)
def S_allvalsW : FS := fun ds W post => ∃ (w : Wb) (vs : List Bool), ds = [w.d, blsD vs] ∧ W = [] ∧ w.ok ∧ vs.length = w.below.length ∧ post (blsD (allV w.below vs)) []
def S_valuesW : FS := fun ds W post => ∃ (w : Wb) (d : D) (f : Fm), ds = [w.d, d] ∧ W = [] ∧ w.ok ∧ Opd d f ∧ f.okF ∧ post (blsD (w.vals f)) []
def S_whereW : FS := fun ds W post => ∃ (w : Wb) (d : D) (f : Fm), ds = [w.d, d] ∧ W = [] ∧ w.ok ∧ Opd d f ∧ f.okF ∧ post (rowD ((List.range w.below.length).filter fun i => (w.vals f).getD i false)) []
theorem at_bl {bs : List Bool} {k : Nat} (h : k < bs.length) : atI (bs.map D.bl) ((k : Nat) : Int) = some (.bl (bs.getD k false)) := at_map h
end N
set_option Elab.async false
set_option linter.all false
set_option maxRecDepth 100000
set_option maxHeartbeats 4000000
namespace N
open PySem PySem.Spec PyProof.Rows L2
section
variable {X : Cx} {CX : CXT} {k : Nat} {f C : Addr} {fd : FuncData} {ps : List Str} {sp : Sp} {E : XK}
theorem notFirst_self {K : PySem.W.Frag} {C : Addr} : PySem.W.notFirst K C (.ref C) = true := by
  unfold PySem.W.notFirst
  simp
/-- x == y by the own __eq__ -/
theorem op_eqO (F : FnOk X.prog X.w X.K X.mg X.base CX k f fd ps sp) (hr : Room k X.A) (o : Own2 X.K C "__eq__" f) (hb : Binds X.K fd ps []) (hx : Passes CX X E) : OpR X (compareOp .Eq) (rOwn2 C (fun vs H Q E => sp vs H (fun v H' => (∃ b, v = .bl b) ∧ Q v H') E) E) := by
  intro pins s σ H x y v u Q I rx ry hq
  obtain ⟨a, b, dx, dy, fs, gs, rfl, rfl, ha, hb', q⟩ := hq
  cases rx
  cases ry
  obtain ⟨od, J⟩ := inst_of I ha
  obtain ⟨od', J'⟩ := inst_of I hb'
  obtain ⟨m, hF⟩ := I.fr
  show wpAny _ _ (richCompare .Eq (.ref a) (.ref b)) _ _ _
  refine PySem.W.cmp_K (op := .Eq) (tb := .ref C) hr.units0 hF I.ok.mod.kin J J'.type notFirst_self o.at_ o.fn ?_
  refine wpAny_mono (run_fn (us := [.ref a, .ref b]) (vs := [.ref a, .ref b]) F hr hb .nil hx I (.cons rfl (.cons rfl .nil)) (by exact q)) (fun w s' z => ?_) fun _ _ x => x
  obtain ⟨z', H', I', rz, ⟨b, rfl⟩, qz⟩ := z
  exact SlX.cmpback rz ⟨.bl b, H', I', rz, qz⟩
/-- the class has no own __ne__ -/
structure NeC (K : PySem.W.Frag) (C : Addr) : Prop where
  ne : PySem.W.findIn K (.ref C) "__ne__" = some (some (.builtin "object.__ne__"))
  ob : PySem.W.mroIn K C (.type "object") = some true
def rEqO (C : Addr) (sp : Sp) (E : XK) : R2 := rOwn2 C (fun vs H Q E => sp vs H (fun v H' => (∃ b, v = .bl b) ∧ Q v H') E) E
theorem op_eq_opn {j : Nat} (o : Opn X.prog X.w X.K X.mg X.base k C "__eq__" sp) (hr : Room j X.A) (hk : k ≤ j) : OpR X (compareOp .Eq) (rEqO C sp E0) := by
  obtain ⟨f, fd, ps, o2, h, b⟩ := o.ex
  exact op_eqO h (hr.mono hk) o2 b pass0
end
section
variable {F : FmKit} {T : Kx} {C H H' O O' : Hp} {G : Gm} {W W' : Om} {R : D → Om → Prop} {S : FS} {c : Nat}
theorem bo_eqO {d e : D} {ns ms : List Str} {l m : List D} (i1 : Inst F W d c ns l) (i2 : Inst F W e c ms m) (h : Hand S [d, e] W fun d' W' => (∃ b, d' = .bl b) ∧ R d' W') : Bo F T (rEqO (T.cl c) (spN F T S) E0) d e W R := fun C H O di oc ow x y hx hy Q q => by
  obtain ⟨a, dx, fs, ex, ha, _⟩ := i1.at di ow hx
  obtain ⟨b, dy, gs, ey, hb, _⟩ := i2.at di ow hy
  refine ⟨a, b, dx, dy, fs, gs, ex, ey, ha, hb, h.run di oc ow ⟨x, _, rfl, hx, .one hy⟩ fun d' W' H' O' v ⟨⟨z, e⟩, r⟩ n k => ?_⟩
  subst e
  exact ⟨⟨z, k⟩, q _ W' H' O' v r n k⟩
end
end N
set_option Elab.async false
set_option linter.all false
set_option maxRecDepth 100000
namespace N
open PySem PySem.Spec PyProof.Rows L2
theorem vals_at {w : Wb} (hw : w.ok) {f : Fm} {i : Nat} (hi : i < w.below.length) : (w.vals (.all f)).getD i false = ((bensF w.below).getD i []).all fun k => (w.vals f).getD k false := allV_at hw.rows i hi
theorem vals_ext {vs us : List Bool} {n : Nat} (h1 : vs.length = n) (h2 : us.length = n) (h : ∀ i, i < n → vs.getD i false = us.getD i false) : vs = us := by
  refine List.ext_getElem (h1.trans h2.symm) fun i a b => ?_
  have := h i (by omega)
  rw [List.getD_eq_getElem?_getD, List.getD_eq_getElem?_getD, List.getElem?_eq_getElem a, List.getElem?_eq_getElem b] at this
  exact this
theorem getD_map {α : Type} {β : Type} {f : α → β} {l : List α} {i : Nat} {d : α} {e : β} (h : i < l.length) : (l.map f).getD i e = f (l.getD i d) := by
  rw [List.getD_eq_getElem?_getD, List.getD_eq_getElem?_getD, List.getElem?_map, List.getElem?_eq_getElem h]
  rfl
theorem getD_zip {α β γ : Type} {f : α → β → γ} {l : List α} {m : List β} {i : Nat} {d : α} {e : β} {z : γ} (h : i < l.length) (h2 : i < m.length) : (List.zipWith f l m).getD i z = f (l.getD i d) (m.getD i e) := by
  rw [List.getD_eq_getElem?_getD, List.getD_eq_getElem?_getD, List.getD_eq_getElem?_getD, List.getElem?_zipWith, List.getElem?_eq_getElem h, List.getElem?_eq_getElem h2]
  rfl
section
variable {w : Wb} (hl : w.atoms.length = w.below.length)
include hl
theorem vals_imp {f g : Fm} {i : Nat} (hi : i < w.below.length) : (w.vals (.imp f g)).getD i false = (!(w.vals f).getD i false || (w.vals g).getD i false) := by
  show (List.zipWith _ _ _).getD i false = _
  rw [getD_zip (d := false) (e := false) (by rw [Wb.vals_len hl]; exact hi) (by rw [Wb.vals_len hl]; exact hi)]
theorem vals_no {i : Nat} (hi : i < w.below.length) : (w.vals .no).getD i false = false := by
  show (w.below.map fun _ => false).getD i false = false
  rw [getD_map (d := []) hi]
end
def blsP (l : List Bool) : PyData := .list (l.map .bool)
theorem pd_bls (l : List Bool) : (blsD l).pd = some (blsP l) := pd_lst (pdL_map _ _ (fun _ => rfl) l)
theorem okF10 {k : Nat} {f : Fm} (h : f.okL) (ht : f.ht ≤ 12) (hf : Fm.few k f) (hk : k ≤ 63) : f.okF := by
  refine ⟨h, ?_, Nat.lt_of_le_of_lt (hf.len h) (by omega)⟩
  have h1 := Fm.sz_ht f
  have h2 : 2 ^ f.ht ≤ 2 ^ 12 := Nat.pow_le_pow_right (by omega) ht
  have e : (2 : Nat) ^ 12 = 4096 := by decide
  omega
/-- drawn formulas -/
structure sm10 (f : Fm) : Prop where
  ok : f.okL
  ht : f.ht ≤ 5
theorem sm10.few {f : Fm} (h : sm10 f) : Fm.few 31 f := (Fm.few_ht f).up (by
  have : (2 : Nat) ^ f.ht ≤ 2 ^ 5 := Nat.pow_le_pow_right (by omega) h.ht
  omega)
theorem sm10.okF {f : Fm} (h : sm10 f) : f.okF := okF10 h.ok (Nat.le_trans h.ht (by decide)) h.few (by decide)
theorem sm10.neg {f : Fm} (h : sm10 f) : (Fm.neg f).okF := okF10 ⟨h.ok, trivial⟩ (by have := h.ht; simp only [Fm.neg, Fm.ht]; omega) (h.few.imp Fm.few.no) (by decide)
theorem sm10.imp {f g : Fm} (h : sm10 f) (k : sm10 g) : (Fm.imp f g).okF := okF10 ⟨h.ok, k.ok⟩ (by have := h.ht; have := k.ht; simp only [Fm.ht]; omega) (h.few.imp k.few) (by decide)
theorem sm10.conj {f g : Fm} (h : sm10 f) (k : sm10 g) : (Fm.conj f g).okF :=
  okF10 ⟨⟨h.ok, k.ok, trivial⟩, trivial⟩ (by have := h.ht; have := k.ht; simp only [Fm.conj, Fm.neg, Fm.ht]; omega) ((h.few.imp (k.few.imp Fm.few.no)).imp Fm.few.no) (by decide)
theorem sm10.all {f g : Fm} (h : sm10 f) (k : sm10 g) : (Fm.all (.imp f g)).okF :=
  okF10 (show (Fm.all (.imp f g)).okL from ⟨h.ok, k.ok⟩) (by have := h.ht; have := k.ht; simp only [Fm.ht]; omega) (h.few.imp k.few).all (by decide)
section
variable {F : FmKit} {T : Kx} {G : Gm} {W : Om} {R : D → Om → Prop} {ta tb : TE}
theorem ev_tupRg2 (h : Ev F T ta G W fun d W1 => Ev F T tb G W1 fun e W2 => ∃ i j : Int, d = .int i ∧ e = .int j ∧ RgOk i j ∧ R (.tup ((rgV i j).map .vl)) W2) : Ev F T (tTupRg (tRg2 ta tb)) G W R := fun C H O σ w Q q =>
  h C H O σ w _ fun d W1 H1 O1 x h1 n1 k1 => h1 C H1 O1 σ (w.step n1) _ fun e W2 H2 O2 y ⟨i, j, e1, e2, ok, r⟩ n2 k2 => by
    subst e1 e2
    have k1 : x = .int i := k1
    have k2 : y = .int j := k2
    refine ⟨i, j, k1, k2, ok, fun p hp => ?_⟩
    obtain ⟨n3, e3, s3⟩ := (n1.trans n2).newF (o := .tup (rgV i j)) hp
    rw [e3]
    exact q _ W2 _ _ _ r n3 ⟨p, _, rfl, SqT.of upd_same, .vls _⟩
end
/-- the two parts of a web as data -/
def webP (w : Wb) : PyData := .list [.tuple (w.below.map rowP), .tuple (w.atoms.map .str)]
theorem pd_rows (rs : List (List Nat)) : (rowsD rs).pd = some (.tuple (rs.map rowP)) := pd_tup (pdL_map _ _ pd_row rs)
theorem pd_atoms (l : List Str) : (atomsD l).pd = some (.tuple (l.map .str)) := pd_tup (pdL_map _ _ (fun _ => rfl) l)
theorem web_pd (w : Wb) : (D.lst [rowsD w.below, atomsD w.atoms]).pd = some (webP w) := pd_lst (pdL_cons (pd_rows _) (pdL_cons (pd_atoms _) rfl))
theorem rowsP_ok {rs : List (List Nat)} (h : rowsOk rs) : Ok1 2 37864 (.tuple (rs.map rowP)) :=
  (ok_tup (k := 1) (n := 600) (fun d hd => by
    obtain ⟨r, hr, rfl⟩ := List.mem_map.mp hd
    obtain ⟨i, hi, e⟩ := List.getElem_of_mem hr
    obtain ⟨h1, h2⟩ := h.asc i r (by rw [List.getElem?_eq_getElem hi, e])
    have hf := h.few
    exact rowP_ok (by have := low_len (h1.imp fun h => Nat.ne_of_lt h) h2; omega) (fun k hk => by have := h2 k hk; omega))).up (Nat.le_refl _) (by rw [List.length_map]; have := h.few; omega)
theorem atomsP_ok {w : Wb} (h : w.ok) : Ok1 1 6500 (.tuple (w.atoms.map .str)) :=
  (ok_tup (k := 0) (n := 100) (fun d hd => by
    obtain ⟨s, hs, rfl⟩ := List.mem_map.mp hd
    obtain ⟨h1, h2⟩ := h.lets s hs
    exact (ok_str fun c hc => by have := h1 c hc; omega).up (Nat.le_refl _) (letters_len h1 h2))).up (Nat.le_refl _) (by rw [List.length_map]; have := h.rows.few; have := h.len; omega)
theorem web_shw {w : Wb} (h : w.ok) : Shw (webP w) :=
  ((okL_cons (rowsP_ok h.rows) (okL_cons ((atomsP_ok h).up (by decide) (Nat.le_refl _)) (okL_nil (n := 0)))).lst).shw (by decide) (by decide)
end N
set_option Elab.async false
set_option linter.all false
set_option maxRecDepth 100000
namespace N
open PySem PySem.Spec PyProof.Rows L2
/-- the place of a number in a list -/
def idxL : List Nat → Nat → Nat
  | [], _ => 0
  | a :: l, x => if a = x then 0 else idxL l x + 1
/-- a point and all beneath it -/
def keptL (w : Wb) (k : Nat) : List Nat := (bensF w.below).getD k [] ++ [k]
def Wb.cut (w : Wb) (k : Nat) : Wb := ⟨(keptL w k).map fun o => (w.below.getD o []).map (idxL (keptL w k)), (keptL w k).map fun o => w.atoms.getD o ""⟩
def Wb.top (w : Wb) (s : Str) (r : List Nat) : Wb := ⟨w.below ++ [r], w.atoms ++ [s]⟩
def Wb.join (w u : Wb) : Wb := ⟨w.below ++ u.below.map fun r => r.map (w.below.length + ·), w.atoms ++ u.atoms⟩
theorem canLay_allD : ∀ {l : List PyData}, (∀ d ∈ l, d.canLay0 = true) → PyData.canLayAll0 l = true
  | [], _ => rfl
  | d :: l, h => by
    rw [PyData.canLayAll0, h d List.mem_cons_self, canLay_allD fun x hx => h x (List.mem_cons_of_mem _ hx)]
    rfl
theorem canLay_row (r : List Nat) : (rowP r).canLay0 = true := by
  unfold rowP
  rw [PyData.canLay0]
  exact canLay_allD fun d hd => by
    obtain ⟨k, _, rfl⟩ := List.mem_map.mp hd
    rfl
theorem shaped_rows {rs : List (List Nat)} (h : rowsOk rs) : SeqAt.shaped (.tuple (rs.map rowP)) = true := by
  unfold SeqAt.shaped
  rw [Bool.and_eq_true, decide_eq_true_eq]
  refine ⟨?_, Nat.le_trans (rowsP_ok h).dp (by decide)⟩
  rw [PyData.canLay0]
  exact canLay_allD fun d hd => by
    obtain ⟨r, _, rfl⟩ := List.mem_map.mp hd
    exact canLay_row r
theorem strOk_letters {s : Str} (h : letters s) : PyData.strOk s = true := by
  unfold PyData.strOk
  simp only [Array.all_eq_true, decide_eq_true_eq]
  intro i hi
  have := h s.cps[i] (by simp [lets])
  omega
theorem shaped_atoms {w : Wb} (h : w.ok) : SeqAt.shaped (.tuple (w.atoms.map .str)) = true := by
  unfold SeqAt.shaped
  rw [Bool.and_eq_true, decide_eq_true_eq]
  refine ⟨?_, Nat.le_trans (atomsP_ok h).dp (by decide)⟩
  rw [PyData.canLay0]
  exact canLay_allD fun d hd => by
    obtain ⟨s, hs, rfl⟩ := List.mem_map.mp hd
    rw [PyData.canLay0]
    exact strOk_letters (h.lets s hs).1
theorem eqv_rows {rs : List (List Nat)} (h : rowsOk rs) : PyData.eqv (.tuple (rs.map rowP)) (.tuple (rs.map rowP)) = true := SeqAt.eqv_refl _ (SeqAt.canLay_of_shaped (shaped_rows h))
theorem eqv_atoms {w : Wb} (h : w.ok) : PyData.eqv (.tuple (w.atoms.map .str)) (.tuple (w.atoms.map .str)) = true := SeqAt.eqv_refl _ (SeqAt.canLay_of_shaped (shaped_atoms h))
def S_eqW : FS := fun ds W post => ∃ w : Wb, ds = [w.d, w.d] ∧ W = [] ∧ w.ok ∧ post (.bl true) []
end N
set_option Elab.async false
set_option linter.all false
set_option maxRecDepth 100000
set_option Elab.async false
set_option linter.all false
set_option maxRecDepth 100000
namespace N
open PySem L2
@[reducible] def OD.lp (z : Obj) (kvs : List (Key × V)) (ps : List (Key × D)) : OD := .lk z kvs (ps.map (·.1)) (ps.map (·.2))
section
variable {F : FmKit} {T : Kx} {C H H' O O' : Hp} {G : Gm} {W W' W1 W2 : Om} {σ : St} {R : D → Om → Prop} {te td t1 t2 : TE} {t : TT} {vs : List Nat} {a : Addr} {ps : List (Key × D)} {cell : Addr × OD}
theorem sw_lock {ts : TS} {E : En} (h : ∀ od kvs, Sw F T ts G (W1 ++ (a, .lp od kvs ps) :: W2) { nx := fun G' W' => ∃ W3 W4, W' = W3 ++ (a, .lp od kvs ps) :: W4 ∧ E.nx G' (W3 ++ (a, .dp ps) :: W4), rt := fun d W' => ∃ W3 W4, W' = W3 ++ (a, .lp od kvs ps) :: W4 ∧ E.rt d (W3 ++ (a, .dp ps) :: W4), bk := fun G' W' => ∃ W3 W4, W' = W3 ++ (a, .lp od kvs ps) :: W4 ∧ E.bk G' (W3 ++ (a, .dp ps) :: W4), ct := fun G' W' => ∃ W3 W4, W' = W3 ++ (a, .lp od kvs ps) :: W4 ∧ E.ct G' (W3 ++ (a, .dp ps) :: W4) }) : Sw F T (tLock ts) G (W1 ++ (a, .dp ps) :: W2) E := fun C H O σ w B b => by
  obtain ⟨hC, kvs, hO, f1, f2, kl⟩ := w.own.at_ a _ (List.mem_append_right _ List.mem_cons_self)
  refine ⟨a, .dK kvs, ov_own hO, trivial, fun od => ?_⟩
  obtain ⟨n1, e1⟩ := w.nx.write (o := .frz od (.dK kvs)) (od2 := .lp od kvs ps) ⟨rfl, f1, f2, kl⟩
  rw [e1]
  have back : ∀ (W3 W4 : Om) (H' O' : Hp), Nx F T C (W3 ++ (a, .lp od kvs ps) :: W4) H H' O' → ov O' H' a = some (.frz od (.dK kvs)) ∧ Nx F T C (W3 ++ (a, .dp ps) :: W4) H H' (upd O' a (.dK kvs)) ∧ upd (ov O' H') a (.dK kvs) = ov (upd O' a (.dK kvs)) H' := fun W3 W4 H' O' n => by
    obtain ⟨_, g1, g2, g3, kl'⟩ := n.own.at_ a _ (List.mem_append_right _ List.mem_cons_self)
    obtain ⟨n2, e2⟩ := n.write (o := .dK kvs) (od2 := .dp ps) ⟨kvs, rfl, g2, g3, kl'⟩
    exact ⟨ov_own g1, n2, e2⟩
  refine h od kvs C H _ σ ⟨n1.dis, n1.oc, w.loc, n1.own⟩ _ ⟨fun G' W' H' O' σ' ⟨W3, W4, e, r⟩ n l => ?_, fun d W' H' O' v ⟨W3, W4, e, r⟩ n k => ?_, fun G' W' H' O' σ' ⟨W3, W4, e, r⟩ n l => ?_, fun G' W' H' O' σ' ⟨W3, W4, e, r⟩ n l => ?_⟩
  all_goals
    subst e
    obtain ⟨g1, n2, e2⟩ := back _ _ _ _ n
  · exact ⟨g1, by rw [e2]; exact b.nx _ _ _ _ _ r n2 l⟩
  · exact ⟨g1, by rw [e2]; exact b.rt _ _ _ _ _ r n2 k⟩
  · exact ⟨g1, by rw [e2]; exact b.bk _ _ _ _ _ r n2 l⟩
  · exact ⟨g1, by rw [e2]; exact b.ct _ _ _ _ _ r n2 l⟩
/-- an iterator over data, as long as a cell stands -/
def WkC (F : FmKit) (T : Kx) (J : It) (H0 : Hp) (cell : Addr × OD) (ds : List D) : Prop :=
  ∀ (i : Nat) (H O C : Hp) (W : Om), Same H0 H → Dis O H → Ow F T H C O W → cell ∈ W →
    (∀ d, ds[i]? = some d → J.go i (ov O H) ∧ ∀ x H2, J.yld i (ov O H) x H2 → ∃ H', Same H H' ∧ Dis O H' ∧ H2 = ov O H' ∧ Den F T H' d x) ∧ (i = ds.length → J.stop i (ov O H))
def EvIC (F : FmKit) (T : Kx) (wi : TI) (G : Gm) (W : Om) (cell : Addr × OD) (R : List D → Om → Prop) : Prop :=
  ∀ (C H O : Hp) (σ : St), Wd F T C G W H O σ → ∀ Q : It → Hp → Prop, (∀ J ds W' H' O', R ds W' → Nx F T C W' H H' O' → WkC F T J H' cell ds → Q J (ov O' H')) → wi σ (ov O H) Q
theorem den_lk {i : Nat} {z : D} : ∀ {ps : List (Key × D)} {kvs : List (Key × V)}, kvs.map (·.1) = ps.map (·.1) → DenL F T H (ps.map (·.2)) (kvs.map (·.2)) → ∀ {i : Nat} {k : Key} {z : D}, ps[i]? = some (k, z) → ∃ v, kvs[i]? = some (k, v) ∧ Den F T H z v := fun {ps kvs} h kl {i k z} hp => by
  obtain ⟨v, hv, kz⟩ := kl.get (i := i) (d := z) (by rw [List.getElem?_map, hp]; rfl)
  rw [List.getElem?_map] at hv
  obtain ⟨⟨k', v'⟩, hkv, e⟩ := Option.map_eq_some_iff.mp hv
  have e : v' = v := e
  subst e
  have h1 : (kvs.map (·.1))[i]? = (ps.map (·.1))[i]? := by rw [h]
  rw [List.getElem?_map, List.getElem?_map, hkv, hp] at h1
  have h1 : k' = k := Option.some.inj h1
  subst h1
  exact ⟨v', hkv, kz⟩
theorem len_lk {ps : List (Key × D)} {kvs : List (Key × V)} (h : kvs.map (·.1) = ps.map (·.1)) : kvs.length = ps.length := by
  have := congrArg List.length h
  rwa [List.length_map, List.length_map] at this
theorem ei_itemsL {od : Obj} {kvs : List (Key × V)} {Y : List D → Om → Prop} (h : Ev F T td G W fun d W1 => d = .adr a ∧ (a, .lp od kvs ps) ∈ W1 ∧ Y (ps.map fun p => .tup [kD p.1, p.2]) W1) : EvIC F T (iItems td) G W (a, .lp od kvs ps) Y := fun C H O σ w Q q =>
  h C H O σ w _ fun d W1 H1 O1 v ⟨e, hm, y⟩ n k => by
    subst e
    have k : v = .ref a := k
    obtain ⟨_, g1, g2, _, _⟩ := n.own.at_ a _ hm
    refine ⟨a, od, kvs, k, ov_own g1, q _ _ W1 H1 O1 y n fun i H2 O2 C2 W2 s di ow hc => ?_⟩
    obtain ⟨_, j1, j2, _, kl⟩ := ow.at_ a _ hc
    refine ⟨fun d hd => ?_, fun e => ⟨ov_own j1, by rw [e, List.length_map, len_lk j2]; exact Nat.le_refl _⟩⟩
    rw [List.getElem?_map] at hd
    obtain ⟨⟨key, z⟩, hp, rfl⟩ := Option.map_eq_some_iff.mp hd
    obtain ⟨u, hu, kz⟩ := den_lk (i := 0) (z := z) j2 kl hp
    refine ⟨⟨ov_own j1, (List.getElem?_eq_some_iff.mp hu).1⟩, fun x X ⟨Tp, k', v', e0, e1, e2, e3⟩ => ?_⟩
    rw [hu] at e0
    cases e0
    obtain ⟨h1, h2⟩ := ov_none e2
    have sm := same_upd (o := .tup [kV key, u]) h2
    refine ⟨upd H2 Tp (.tup [kV key, u]), sm, di.updH h1, by rw [e3, ov_updH h1], ?_⟩
    exact ⟨Tp, _, e1, SqT.of upd_same, _, _, rfl, rfl, .one (kz.mono sm)⟩
theorem ei_keysL {od : Obj} {kvs : List (Key × V)} {Y : List D → Om → Prop} (h : Ev F T td G W fun d W1 => d = .adr a ∧ (a, .lp od kvs ps) ∈ W1 ∧ Y (ps.map fun p => kD p.1) W1) : EvIC F T (iKeys td) G W (a, .lp od kvs ps) Y := fun C H O σ w Q q =>
  h C H O σ w _ fun d W1 H1 O1 v ⟨e, hm, y⟩ n k => by
    subst e
    have k : v = .ref a := k
    obtain ⟨_, g1, g2, _, _⟩ := n.own.at_ a _ hm
    refine ⟨a, od, k, .inl ⟨kvs, ov_own g1, q _ _ W1 H1 O1 y n fun i H2 O2 C2 W2 s di ow hc => ?_⟩⟩
    obtain ⟨_, j1, j2, _, kl⟩ := ow.at_ a _ hc
    refine ⟨fun d hd => ?_, fun e => ⟨ov_own j1, by rw [e, List.length_map, len_lk j2]; exact Nat.le_refl _⟩⟩
    rw [List.getElem?_map] at hd
    obtain ⟨⟨key, z⟩, hp, rfl⟩ := Option.map_eq_some_iff.mp hd
    obtain ⟨u, hu, kz⟩ := den_lk (i := 0) (z := z) j2 kl hp
    refine ⟨⟨ov_own j1, (List.getElem?_eq_some_iff.mp hu).1⟩, fun x X ⟨e3, k', v', e0, e1⟩ => ?_⟩
    rw [hu] at e0
    cases e0
    exact ⟨H2, Same.refl _, di, e3, e1⟩
/-- a comprehension along a locked dict -/
theorem ev_lcL {wi : TI} {g : TG} (h : EvIC F T wi G W cell fun ds W1 => ∃ I : Nat → List D → Om → Prop, I 0 [] W1 ∧ (∀ i acc W', I i acc W' → cell ∈ W') ∧
      (∀ i d acc W', ds[i]? = some d → I i acc W' → Tw F T vs g d (wipeG G vs) fun G2 => EvT F T t G2 W' fun b W2 => if b = true then Ev F T te G2 W2 (fun z W3 => acc.length < sizeLine ∧ I (i + 1) (acc ++ [z]) W3) else I (i + 1) acc W2) ∧
      (∀ acc W', I ds.length acc W' → ∀ p, p ∉ akeys W' → R (.adr p) ((p, .lst acc) :: W'))) : Ev F T (tLc wi g t te vs) G W R := fun C H O σ w Q q =>
  h C H O σ w _ fun J ds W1 H1 O1 ⟨I, i0, ic, turn, fin⟩ n1 wk Dp hD => by
    obtain ⟨n0, e0, cp⟩ := n1.hide (o := .lst []) hD
    refine ⟨fun i m X => m = ds.length - i ∧ i ≤ ds.length ∧ ∃ acc av W' H' O', X = ov O' H' ∧ Nx F T (upd C Dp (.lst av)) W' H1 H' O' ∧ DenL F T H' acc av ∧ I i acc W', ⟨ds.length, by simp, Nat.zero_le _, [], [], W1, H1, _, e0, n0, rfl, i0⟩, ?_⟩
    rintro i m X ⟨rfl, hi, acc, av, W', H', O', rfl, n, ka, ii⟩
    have k := wk i H' O' _ _ n.ext n.dis n.own (ic _ _ _ ii)
    have lo1 := (w.loc.mono n1.ext).mono n.ext
    by_cases hlt : i < ds.length
    · obtain ⟨k1, k2⟩ := k.1 ds[i] (by simp [hlt])
      refine .inr ⟨k1, fun X2 => ∃ acc av W2 H2 O2, X2 = ov O2 H2 ∧ Nx F T (upd C Dp (.lst av)) W2 H1 H2 O2 ∧ DenL F T H2 acc av ∧ I (i + 1) acc W2, fun X2 y => ⟨ds.length - (i + 1), by omega, rfl, hlt, y⟩, fun x X2 y => ?_⟩
      obtain ⟨H2, s2, d2, rfl, kx⟩ := k2 x X2 y
      refine turn i ds[i] acc W' (by simp [hlt]) ii H2 _ _ x ((lo1.mono s2).wipe vs) d2.same kx _ fun G3 σ3 et l3 wz => ⟨wz.trans wipe_wipe, ?_⟩
      refine et (upd C Dp (.lst av)) H2 O' σ3 ⟨d2, n.oc, l3, n.own.mono s2⟩ _ fun b W3 H3 O3 r3 n3 => ?_
      have n03 : Nx F T (upd C Dp (.lst av)) W3 H1 H3 O3 := ⟨(n.ext.trans s2).trans n3.ext, n3.dis, n3.oc, n3.own⟩
      cases b with
      | false => exact ⟨acc, av, W3, H3, O3, rfl, n03, (ka.mono s2).mono n3.ext, r3⟩
      | true =>
        refine r3 (upd C Dp (.lst av)) H3 O3 σ3 ⟨n3.dis, n3.oc, l3.mono n3.ext, n3.own⟩ _ fun z W4 H4 O4 v ⟨hz, i4⟩ n4 k4 => ?_
        have hO : ov O4 H4 Dp = some (.lst av) := ov_own (n4.oc Dp _ upd_same)
        have ka4 := ((ka.mono s2).mono n3.ext).mono n4.ext
        refine ⟨av, hO, by rw [ka.len]; exact hz, ?_⟩
        obtain ⟨n5, e5⟩ := Nx.rehide (o' := .lst (av ++ [v])) (n03.trans n4) cp
        exact ⟨acc ++ [z], av ++ [v], W4, H4, _, e5, n5, ka4.app (.one k4), i4⟩
    · have e : i = ds.length := by omega
      subst e
      refine .inl ⟨k.2 rfl, ?_⟩
      obtain ⟨n6, np⟩ := n.show (od := .lst acc) cp ⟨av, rfl, ka⟩
      exact q (.adr Dp) _ H' O' _ (fin acc W' ii Dp np) (Nx.trans ⟨n1.ext, n1.dis, n1.oc, n1.own⟩ n6) rfl
theorem eic_imp {wi : TI} {Y Z : List D → Om → Prop} (h : EvIC F T wi G W cell Y) (i : ∀ ds W1, Y ds W1 → Z ds W1) : EvIC F T wi G W cell Z := fun C H O σ w Q q => h C H O σ w Q fun J ds W' H' O' y n k => q J ds W' H' O' (i ds W' y) n k
theorem ev_lcLF {wi : TI} {g : TG} (h : EvIC F T wi G W cell fun ds W1 => ∃ I : Nat → List D → Om → Prop, I 0 [] W1 ∧ (∀ i acc W', I i acc W' → cell ∈ W') ∧
      (∀ i d acc W', ds[i]? = some d → I i acc W' → Tw F T vs g d (wipeG G vs) fun G2 => EvT F T t G2 W' fun b W2 => if b = true then Ev F T te G2 W2 (fun z W3 => acc.length < sizeLine ∧ I (i + 1) (acc ++ [z]) W3) else I (i + 1) acc W2) ∧
      (∀ acc W', I ds.length acc W' → R (.lst acc) W')) : Ev F T (tLc wi g t te vs) G W R :=
  ev_fz (ev_lcL (eic_imp h fun ds W1 ⟨I, h1, h0, h2, h3⟩ => ⟨I, h1, h0, h2, fun acc W' hi p hp => ⟨p, _, W', _, rfl, List.Perm.refl _, .lst _, h3 acc W' hi⟩⟩))
/-- .. with a test, each item by itself -/
theorem ev_lcPL {wi : TI} {g : TG} (h : EvIC F T wi G W cell fun ds W1 => cell ∈ W1 ∧ ∃ es : List (Bool × D), (∀ (i : Nat) (d : D) (e : Bool × D), ds[i]? = some d → es[i]? = some e → Tw F T vs g d (wipeG G vs) fun G2 => EvT F T t G2 W1 fun b W2 => b = e.1 ∧ if b = true then Ev F T te G2 W2 (fun z W3 => z = e.2 ∧ W3 = W1) else W2 = W1) ∧ es.length = ds.length ∧ es.length ≤ sizeLine ∧ R (.lst ((es.filter (·.1)).map (·.2))) W1) : Ev F T (tLc wi g t te vs) G W R :=
  ev_lcLF (eic_imp h fun ds W1 ⟨hc, es, h3, h1, h2, h4⟩ => ⟨fun i acc W' => W' = W1 ∧ acc = ((es.take i).filter (·.1)).map (·.2), ⟨rfl, by simp⟩, fun i acc W' hi => hi.1 ▸ hc, fun i d acc W' hd ⟨e1, e2⟩ => by
    subst e1 e2
    have hi : i < ds.length := (List.getElem?_eq_some_iff.mp hd).1
    have he : es[i]? = some es[i] := List.getElem?_eq_getElem (by omega)
    refine fun H H1 σ v lo s k Q q => h3 i d es[i] hd he H H1 σ v lo s k Q fun G2 σ2 et l2 w2 => q G2 σ2 (fun C H O σ w Q q => et C H O σ w Q fun b W2 H2 O2 ⟨e, ev⟩ n => q b W2 H2 O2 ?_ n) l2 w2
    have hf : ((es.take (i + 1)).filter (·.1)) = (es.take i).filter (·.1) ++ if es[i].1 = true then [es[i]] else [] := by
      rw [List.take_add_one, he, List.filter_append]
      congr 1
      simp only [Option.toList_some, List.filter_cons, List.filter_nil]
    have hl : (((es.take i).filter (·.1)).map (·.2)).length < sizeLine := by
      have := List.length_filter_le (fun z : Bool × D => z.1) (es.take i)
      rw [List.length_take] at this
      rw [List.length_map]
      omega
    cases b with
    | true =>
      rw [if_pos rfl] at ev
      refine if_so rfl ?_
      refine ev.imp fun z W3 ⟨e1, e2⟩ => ⟨hl, e2, ?_⟩
      rw [hf, if_pos e.symm, List.map_append, e1]
      rfl
    | false =>
      rw [if_neg Bool.false_ne_true] at ev
      refine if_not rfl ?_
      refine ⟨ev, ?_⟩
      rw [hf, if_neg (by rw [← e]; exact Bool.false_ne_true), List.append_nil], fun acc W' ⟨e1, e2⟩ => by
    subst e1 e2
    rw [← h1, List.take_length]
    exact h4⟩)
/-- reads while it is locked -/
theorem lk_get {od : Obj} {kvs : List (Key × V)} {k : Key} {z : D} (hm : (a, .lp od kvs ps) ∈ W) (ow : Ow F T H C O W) (hg : getG ps k = some z) : ∃ v, DGet (ov O H) a (kV k) (some v) ∧ Den F T H z v := by
  obtain ⟨_, g1, g2, _, kl⟩ := ow.at_ a _ hm
  rcases getG_den (k := k) g2 kl with ⟨h1, _⟩ | ⟨z', v, h1, h2, kz⟩
  · rw [h1] at hg
    cases hg
  · rw [h1] at hg
    cases hg
    exact ⟨v, .inl ⟨kvs, k, .inr ⟨od, ov_own g1⟩, rfl, h2.symm⟩, kz⟩
theorem ev_dgetL (h : Ev F T t1 G W fun d W1 => Ev F T t2 G W1 fun y W2 => ∃ a od kvs ps k z, d = .adr a ∧ (a, .lp od kvs ps) ∈ W2 ∧ y = kD k ∧ getG ps k = some z ∧ R z W2) : Ev F T (tDGet t1 t2) G W R := fun C H O σ w Q q =>
  h C H O σ w _ fun d W1 H1 O1 x h1 n1 k1 => h1 C H1 O1 σ (w.step n1) _ fun y W2 H2 O2 yv ⟨a, od, kvs, ps, k, z, e, hm, ey, hg, r⟩ n2 k2 => by
    subst e ey
    have k1 : x = .ref a := k1
    have k2 : yv = kV k := k2
    subst k1 k2
    obtain ⟨v, g, kz⟩ := lk_get hm n2.own hg
    exact ⟨a, v, rfl, g, q z W2 H2 O2 v r (n1.trans n2) kz⟩
end
section
variable {X : Cx} {K : PySem.W.Frag} {o e : Expr} {to te : TE}
theorem pe_joinK {apos pos : Pos} (hK : X.K = K) (ho : PE X o to) (he : PE X e te) (hs : starEach [e] X.env = [(false, eval e X.env)] := by rfl) (hbase : attributeBase o "join" X.env (eval o X.env) = eval o X.env := by rfl) (hline : (apos.endLine == pos.line) = true := by rfl) :
    PE X (.Call (.Attribute o "join" apos) [e] [] pos) (tM1 (fun x xs H Q => ∃ a p, ∃ ys : List Str, x = .str a ∧ xs = [.ref p] ∧ (SqL K H p (ys.map V.str) ∨ SqT K H p (ys.map V.str)) ∧
      (ys.map (·.length)).sum + ys.length * a.length ≤ 16777216 ∧ Q (.str (Txt.join a ys)) H) to te) := hK ▸ pe_join ho he hs hbase hline
end
section
variable {F : FmKit} {T : Kx} {C H H' O O' : Hp} {G : Gm} {W W' W1 W2 : Om} {σ : St} {R : D → Om → Prop}
/-- sorted of a list of unlike signs -/
theorem ca_sortedSL {d : D} {ns : List Nat} (hv : Vl W d (ns.map fun c => D.str (sg c))) (nd : ns.Nodup) (hl : ns.length < 64) (r : R (.lst ((ascN ns).map fun c => D.str (sg c))) W) : Ca F T (rSortedS T.K) [d] W R := ca_one fun C H O di oc ow x k Q q => by
  obtain ⟨a, xs, e, hs, kl⟩ := hv.sq ow di k
  rw [show (ns.map fun c => D.str (sg c)) = (ns.map sg).map D.str by rw [List.map_map]; rfl] at kl
  have exs := den_strs_inv kl
  subst exs
  refine ⟨a, ns.map sg, by rw [e], hs, by rw [List.length_map]; exact hl, fun ys p hp hss hn => ?_⟩
  obtain ⟨n2, e2, s2⟩ := (Nx.refl (F := F) (T := T) di oc ow).newF (o := .lst (ys.map V.str)) hn
  rw [e2]
  refine q _ W _ O _ r n2 ⟨p, _, rfl, upd_same, ?_⟩
  have n3 : (ns.map sg).Nodup := nd.map (f := sg) fun a b e h => e (sg_inj h)
  have ey : ys = (ascN ns).map sg := by
    rw [ascS_sorted (m := ns.map sg) hss (hp.nodup_iff.mpr n3) fun z => hp.mem_iff, ascS_sg]
    rfl
  rw [ey]
  have := den_strs (F := F) (T := T) (H := upd H p (.lst (((ascN ns).map sg).map V.str))) ((ascN ns).map sg)
  rw [show ((ascN ns).map fun c => D.str (sg c)) = ((ascN ns).map sg).map D.str by rw [List.map_map]; rfl]
  exact this
theorem bo_notInSg {c : Nat} {z : Str} (r : R (.bl (!decide (c ∈ z.cps.toList))) W) : Bo F T (fun x y H Q => ∃ (c : Nat) (z : Str), x = .str ⟨#[c]⟩ ∧ y = .str z ∧ Q (.bl (!decide (c ∈ z.cps.toList))) H) (.str (sg c)) (.str z) W R := op_sc fun H Q k => ⟨c, z, rfl, rfl, k _ r⟩
end
end N
set_option Elab.async false
set_option linter.all false
set_option maxRecDepth 100000
namespace N
open PySem PySem.Spec PyProof.Rows L2
def ltr (c : Nat) : Prop := (65 ≤ c ∧ c ≤ 90) ∨ (97 ≤ c ∧ c ≤ 122)
theorem ltrs_few {l : List Nat} (nd : l.Nodup) (h : ∀ c ∈ l, ltr c) : l.length ≤ 52 := by
  have h2 := List.Nodup.length_le_of_subset (l₂ := (List.range 26).map (· + 65) ++ (List.range 26).map (· + 97)) nd fun x hx => ?_
  · simpa using h2
  · rw [List.mem_append, List.mem_map, List.mem_map]
    rcases h x hx with h | h
    · exact .inl ⟨x - 65, List.mem_range.mpr (by omega), by omega⟩
    · exact .inr ⟨x - 97, List.mem_range.mpr (by omega), by omega⟩
/-- the letters at a point, some of them by values -/
def keepL (ks : List Nat) (s : Str) : List Nat := (lets s).filter fun c => !decide (c ∈ ks)
def putL (vs : List (Nat × List Bool)) (k : Nat) : List Nat := (vs.filter fun p => p.2.getD k false).map (·.1)
def markS (vs : List (Nat × List Bool)) (k : Nat) (s : Str) : Str := ⟨(ascN (keepL (vs.map (·.1)) s ++ putL vs k)).toArray⟩
def markA (vs : List (Nat × List Bool)) (as : List Str) : List Str := (List.range as.length).map fun k => markS vs k (as.getD k "")
def valsT (w : Wb) (rs : List (Nat × Fm)) : List (Nat × List Bool) := rs.map fun p => (p.1, w.vals p.2)
def Wb.mark (w : Wb) (rs : List (Nat × Fm)) : Wb := ⟨w.below, markA (valsT w rs) w.atoms⟩
theorem valsT_keys (w : Wb) (rs : List (Nat × Fm)) : (valsT w rs).map (·.1) = rs.map (·.1) := by
  unfold valsT
  rw [List.map_map]
  rfl
theorem mark_mem {vs : List (Nat × List Bool)} {k : Nat} {s : Str} : ∀ c ∈ keepL (vs.map (·.1)) s ++ putL vs k, c ∈ lets s ∨ c ∈ vs.map (·.1) := fun c hc => by
  rcases List.mem_append.mp hc with h | h
  · exact .inl (List.mem_filter.mp h).1
  · obtain ⟨p, hp, rfl⟩ := List.mem_map.mp h
    exact .inr (List.mem_map.mpr ⟨p, (List.mem_filter.mp hp).1, rfl⟩)
theorem mark_nd {vs : List (Nat × List Bool)} {k : Nat} {s : Str} (hs : (lets s).Nodup) (nd : (vs.map (·.1)).Nodup) : (keepL (vs.map (·.1)) s ++ putL vs k).Nodup := by
  rw [List.nodup_append]
  refine ⟨hs.sublist List.filter_sublist, nd.sublist (List.filter_sublist.map _), fun a ha b hb e => ?_⟩
  subst e
  have h1 := (List.mem_filter.mp ha).2
  obtain ⟨p, hp, e⟩ := List.mem_map.mp hb
  have h2 : a ∈ vs.map (·.1) := List.mem_map.mpr ⟨p, (List.mem_filter.mp hp).1, e⟩
  simp only [h2, decide_true, Bool.not_true, Bool.false_eq_true] at h1
theorem mark_few {vs : List (Nat × List Bool)} {k : Nat} {s : Str} (hs : letters s) (h : (lets s).Nodup) (nd : (vs.map (·.1)).Nodup) (hv : ∀ c ∈ vs.map (·.1), ltr c) : (keepL (vs.map (·.1)) s ++ putL vs k).length ≤ 52 :=
  ltrs_few (mark_nd h nd) fun c hc => (mark_mem c hc).elim (fun h => hs c h) (hv c)
theorem asc_nd {l : List Nat} (h : l.Pairwise (· < ·)) : l.Nodup := h.imp (S := (· ≠ ·)) fun h => Nat.ne_of_lt h
theorem markS_ok {vs : List (Nat × List Bool)} {k : Nat} {s : Str} (hs : letters s) (hv : ∀ c ∈ vs.map (·.1), ltr c) : letters (markS vs k s) ∧ (lets (markS vs k s)).Pairwise (· < ·) :=
  ⟨fun c hc => (mark_mem c (mem_ascN.mp (show c ∈ ascN _ from hc))).elim (fun h => hs c h) (hv c), asc_ascN _⟩
theorem markA_len (vs : List (Nat × List Bool)) (as : List Str) : (markA vs as).length = as.length := by simp [markA]
theorem mark_ok {w : Wb} (hw : w.ok) {rs : List (Nat × Fm)} (hv : ∀ c ∈ rs.map (·.1), ltr c) : (w.mark rs).ok := by
  refine ⟨hw.rows, hw.some_, by show (markA _ _).length = _; rw [markA_len]; exact hw.len, fun s hs => ?_⟩
  obtain ⟨k, hk, rfl⟩ := List.mem_map.mp (show s ∈ markA (valsT w rs) w.atoms from hs)
  have hk := List.mem_range.mp hk
  have hm : w.atoms.getD k "" ∈ w.atoms := by
    rw [List.getD_eq_getElem?_getD, List.getElem?_eq_getElem hk]
    exact List.getElem_mem hk
  exact markS_ok (hw.lets _ hm).1 (by rw [valsT_keys]; exact hv)
def stripS (z s : Str) : Str := ⟨((lets s).filter fun c => !decide (c ∈ lets z)).toArray⟩
def Wb.strip (w : Wb) (z : Str) : Wb := ⟨w.below, w.atoms.map (stripS z)⟩
theorem strip_ok {w : Wb} (hw : w.ok) (z : Str) : (w.strip z).ok := by
  refine ⟨hw.rows, hw.some_, by simp [Wb.strip, hw.len], fun s hs => ?_⟩
  obtain ⟨u, hu, rfl⟩ := List.mem_map.mp (show s ∈ w.atoms.map (stripS z) from hs)
  obtain ⟨h1, h2⟩ := hw.lets u hu
  exact ⟨fun c hc => h1 c (List.mem_filter.mp (show c ∈ List.filter _ _ from hc)).1, h2.sublist List.filter_sublist⟩
theorem low_ascN (l : List Nat) : (ascN l).length ≤ l.length := List.Nodup.length_le_of_subset (asc_nd (asc_ascN l)) fun x hx => mem_ascN.mp hx
theorem cat_mark (vs : List (Nat × List Bool)) (k : Nat) (s : Str) : ((lets s).filter fun c => !decide (c ∈ vs.map (·.1))).map (fun c => D.str (sg c)) ++ (vs.filter fun p => p.2.getD k false).map (fun p => D.str (sg p.1)) = (keepL (vs.map (·.1)) s ++ putL vs k).map fun c => D.str (sg c) := by
  rw [List.map_append]
  unfold putL keepL
  rw [List.map_map]
  rfl
theorem cat_len {vs : List (Nat × List Bool)} {k n m : Nat} {s : Str} (h1 : (lets s).length ≤ n) (h2 : vs.length ≤ m) : (((lets s).filter fun c => !decide (c ∈ vs.map (·.1))).map (fun c => D.str (sg c))).length + ((vs.filter fun p => p.2.getD k false).map (fun p => D.str (sg p.1))).length ≤ n + m := by
  rw [List.length_map, List.length_map]
  have := List.length_filter_le (fun c => !decide (c ∈ vs.map (·.1))) (lets s)
  have := List.length_filter_le (fun p : Nat × List Bool => p.2.getD k false) vs
  omega
/-- tables by letters -/
def tabL {α : Type} (f : α → D) (rs : List (Nat × α)) : List (Key × D) := rs.map fun p => (Sum.inr (sg p.1), f p.2)
theorem tabL_keys {α : Type} (f : α → D) (rs : List (Nat × α)) : (tabL f rs).map (·.1) = (rs.map (·.1)).map fun c => Sum.inr (sg c) := by
  unfold tabL
  rw [List.map_map, List.map_map]
  rfl
theorem tabL_nd {α : Type} {f : α → D} {rs : List (Nat × α)} (nd : (rs.map (·.1)).Nodup) : ((tabL f rs).map (·.1)).Nodup := by
  rw [tabL_keys]
  exact nd.map (f := fun c => (Sum.inr (sg c) : Key)) fun a b e h => e (sg_inj (Sum.inr.inj h))
theorem getG_nd {α : Type} {k : Key} {z : α} : ∀ {ps : List (Key × α)}, (ps.map (·.1)).Nodup → (k, z) ∈ ps → getG ps k = some z
  | [], _, h => by cases h
  | p :: ps, nd, h => by
    rw [List.map_cons, List.nodup_cons] at nd
    unfold getG
    rw [List.find?_cons]
    rcases List.mem_cons.mp h with e | h
    · subst e
      simp
    · have hne : ¬ p.1 = k := fun e => nd.1 (List.mem_map.mpr ⟨(k, z), h, e.symm⟩)
      simp only [hne, decide_false]
      exact getG_nd nd.2 h
theorem getG_tabL {α : Type} {f : α → D} {rs : List (Nat × α)} {c : Nat} {x : α} (nd : (rs.map (·.1)).Nodup) (h : (c, x) ∈ rs) : getG (tabL f rs) (Sum.inr (sg c)) = some (f x) :=
  getG_nd (tabL_nd nd) (List.mem_map.mpr ⟨(c, x), h, rfl⟩)
theorem isSome_tabL {α : Type} {f : α → D} {c : Nat} : ∀ {rs : List (Nat × α)}, (getG (tabL f rs) (Sum.inr (sg c))).isSome = decide (c ∈ rs.map (·.1))
  | [] => rfl
  | p :: rs => by
    have ih := isSome_tabL (f := f) (c := c) (rs := rs)
    unfold getG tabL at *
    rw [List.map_cons, List.find?_cons, List.map_cons]
    by_cases e : p.1 = c
    · subst e
      simp
    · have e2 : ¬ (Sum.inr (sg p.1) : Key) = Sum.inr (sg c) := fun h => e (sg_inj (Sum.inr.inj h))
      have e3 : ¬ c = p.1 := fun h => e h.symm
      simp only [e2, decide_false, List.mem_cons, e3, false_or]
      exact ih
theorem tab_put {α : Type} {f : α → D} {rs : List (Nat × α)} {c : Nat} {x : α} (h : c ∉ rs.map (·.1)) : putG (tabL f rs) (Sum.inr (sg c)) (f x) = tabL f (rs ++ [(c, x)]) := by
  rw [putG_new]
  · unfold tabL
    rw [List.map_append]
    rfl
  · rw [tabL_keys]
    intro hm
    obtain ⟨d, hd, e⟩ := List.mem_map.mp hm
    exact h (sg_inj (Sum.inr.inj e) ▸ hd)
theorem flt_tab {α : Type} {q : α → Bool} {f : α → D} : ∀ l : List α, ((l.map fun x => (q x, f x)).filter (·.1)).map (·.2) = (l.filter q).map f
  | [] => rfl
  | x :: l => by
    have ih := flt_tab (q := q) (f := f) l
    rw [List.map_cons, List.filter_cons, List.filter_cons]
    cases hq : q x <;> simp [ih]
/-- the promises -/
def S_markedW : FS := fun ds W post => ∃ (w : Wb) (es : List (Nat × D × Fm)), ds = [w.d, .tup (es.map fun e => .tup [.str (sg e.1), e.2.1])] ∧ W = [] ∧ w.ok ∧
  (∀ e ∈ es, Opd e.2.1 e.2.2 ∧ e.2.2.okF ∧ ltr e.1) ∧ (es.map (·.1)).Nodup ∧ post (w.mark (es.map fun e => (e.1, e.2.2))).d []
def S_withoutW : FS := fun ds W post => ∃ (w : Wb) (z : Str), ds = [w.d, .str z] ∧ W = [] ∧ w.ok ∧ post (w.strip z).d []
end N
set_option Elab.async false
set_option linter.all false
set_option maxRecDepth 100000
set_option maxHeartbeats 1000000
set_option Elab.async false
set_option linter.all false
set_option maxRecDepth 100000
set_option maxHeartbeats 1000000
namespace N
open PySem PySem.Spec PyProof.Rows L2
open C8 (Cal Met Mak InsC pe_c pe_mt pe_mt0 pe_mk)
def getA {α : Type} (as : List (NestedKey × Addr × α)) (k : NestedKey) : Option α := (as.find? fun z => decide (z.1 = k)).map (·.2.2)
section
variable {X : Cx} {pins : List (Addr × Obj)} {σ : L2.St} {H : Hp} {s : Shared} {p : Addr} {as : List (NestedKey × Addr × V)}
mutual
theorem NkV.is (I : L2.Inv X pins σ H s) : ∀ (k : NestedKey) (v : V) (u : Value), NkV X.K H k v → RelV v u → NestedIs s.heap k u
  | .none, _, u, h, r => by
    have h : _ = V.non := h
    subst h
    obtain rfl : u = .none := r
    exact .none
  | .num i, _, u, h, r => by
    rcases h with h | ⟨b, h, hi⟩
    · subst h
      obtain ⟨t, rfl⟩ := r
      exact .int i t
    · subst h
      obtain rfl : u = .bool b := r
      exact .bool hi
  | .text x, _, u, h, r => by
    have h : _ = V.str x := h
    subst h
    obtain ⟨t, rfl⟩ := r
    exact .text x t
  | .tup ks, _, u, ⟨a, xs, e, hs, hl⟩, r => by
    subst e
    obtain rfl : u = .ref a := r
    obtain ⟨its, r2, ⟨o, ho, hc, n, hd⟩, hz⟩ := I.tuple hs
    exact .tup ho hc hd (by rw [List.toList_toArray]; exact NkL.is I ks xs its hl r2)
theorem NkL.is (I : L2.Inv X pins σ H s) : ∀ (ks : List NestedKey) (xs : List V) (us : List Value), NkL X.K H ks xs → Vals xs us → NestedAll s.heap ks us
  | [], _, us, h, r => by
    have h : _ = [] := h
    subst h
    cases r
    exact .nil
  | k :: ks, _, us, ⟨v, t, e, h1, h2⟩, r => by
    subst e
    cases r with
    | cons r1 r2 => exact .cons (NkV.is I k v _ h1 r1) (NkL.is I ks t _ h2 r2)
end
abbrev NkPd : List (NestedKey × Addr × V) → List (NestedKey × Addr × Value) → Prop := Paired (fun (a : NestedKey × Addr × V) (u : NestedKey × Addr × Value) => a.1 = u.1 ∧ a.2.1 = u.2.1 ∧ RelV a.2.2 u.2.2)
theorem NkPd.keys : ∀ {as : List (NestedKey × Addr × V)} {us : List (NestedKey × Addr × Value)}, NkPd as us → us.map (·.1) = as.map (·.1)
  | [], _, h => by cases h; rfl
  | a :: as, _, h => by
    cases h with
    | cons h1 h2 => rw [List.map_cons, List.map_cons, NkPd.keys h2, h1.1]
theorem NkPd.get {k : NestedKey} : ∀ {as : List (NestedKey × Addr × V)} {us : List (NestedKey × Addr × Value)}, NkPd as us → (atKey us k = none ∧ getA as k = none) ∨ ∃ q v, atKey us k = some q ∧ getA as k = some v ∧ RelV v q.2
  | [], _, h => by cases h; exact .inl ⟨rfl, rfl⟩
  | a :: as, _, h => by
    cases h with
    | cons h1 h2 =>
      rename_i u us
      obtain ⟨e1, e2, e3⟩ := h1
      unfold atKey getA
      rw [List.find?_cons, List.find?_cons, ← e1]
      by_cases e : a.1 = k
      · rw [decide_eq_true e]
        exact .inr ⟨_, _, rfl, rfl, e3⟩
      · rw [decide_eq_false e]
        exact NkPd.get h2
theorem NkPd.snoc {a : NestedKey × Addr × V} {u : NestedKey × Addr × Value} (h1 : a.1 = u.1 ∧ a.2.1 = u.2.1 ∧ RelV a.2.2 u.2.2) : ∀ {as : List (NestedKey × Addr × V)} {us : List (NestedKey × Addr × Value)}, NkPd as us → NkPd (as ++ [a]) (us ++ [u])
  | [], _, h => by cases h; exact .cons h1 .nil
  | b :: as, _, h => by
    cases h with
    | cons h2 h3 => exact .cons h2 (NkPd.snoc h1 h3)
end
end N
set_option Elab.async false
set_option linter.all false
set_option maxRecDepth 100000
set_option maxHeartbeats 4000000
set_option Elab.async false
set_option linter.all false
set_option maxRecDepth 100000
set_option maxHeartbeats 4000000
set_option Elab.async false
set_option linter.all false
set_option maxRecDepth 100000
set_option maxHeartbeats 1000000
namespace N
open PySem PySem.Spec PyProof.Rows L2
/-- a class: the letters, the classes beneath, the height -/
abbrev Ent := Str × List Nat × Nat
def posE (es : List Ent) (s : Str) (r : List Nat) : Option Nat := es.findIdx? fun e => decide (e.1 = s ∧ e.2.1 = r)
def stepC (w : Wb) (st : List Ent × List Nat) (i : Nat) : List Ent × List Nat :=
  match posE st.1 (w.atoms.getD i "") (ascN (((bensF w.below).getD i []).map fun j => st.2.getD j 0)) with
  | some k => (st.1, st.2 ++ [k])
  | none => (st.1 ++ [(w.atoms.getD i "", ascN (((bensF w.below).getD i []).map fun j => st.2.getD j 0), (hgtF w.below).getD i 0)], st.2 ++ [st.1.length])
/-- the first points of a web -/
def webAt (es : List Ent) (w : Wb) (i : Nat) : List Ent × List Nat := (List.range i).foldl (stepC w) (es, [])
def webCl (es : List Ent) (w : Wb) : List Ent × List Nat := webAt es w w.below.length
def allC (ws : List Wb) : List Ent × List (List Nat) := ws.foldl (fun st w => ((webCl st.1 w).1, st.2 ++ [(webCl st.1 w).2])) ([], [])
theorem webAt_zero (es : List Ent) (w : Wb) : webAt es w 0 = (es, []) := rfl
theorem webAt_succ (es : List Ent) (w : Wb) (i : Nat) : webAt es w (i + 1) = stepC w (webAt es w i) i := by
  unfold webAt
  rw [List.range_succ, List.foldl_append]
  rfl
theorem stepC_old {w : Wb} {st : List Ent × List Nat} {i k : Nat} (h : posE st.1 (w.atoms.getD i "") (ascN (((bensF w.below).getD i []).map fun j => st.2.getD j 0)) = some k) : stepC w st i = (st.1, st.2 ++ [k]) := by
  unfold stepC
  rw [h]
theorem stepC_new {w : Wb} {st : List Ent × List Nat} {i : Nat} (h : posE st.1 (w.atoms.getD i "") (ascN (((bensF w.below).getD i []).map fun j => st.2.getD j 0)) = none) : stepC w st i = (st.1 ++ [(w.atoms.getD i "", ascN (((bensF w.below).getD i []).map fun j => st.2.getD j 0), (hgtF w.below).getD i 0)], st.2 ++ [st.1.length]) := by
  unfold stepC
  rw [h]
theorem webAt_len (es : List Ent) (w : Wb) : ∀ i, (webAt es w i).2.length = i ∧ (webAt es w i).1.length ≤ es.length + i
  | 0 => ⟨rfl, Nat.le_refl _⟩
  | i + 1 => by
    have ⟨h1, h2⟩ := webAt_len es w i
    rw [webAt_succ]
    cases e : posE (webAt es w i).1 (w.atoms.getD i "") (ascN (((bensF w.below).getD i []).map fun j => (webAt es w i).2.getD j 0)) with
    | some k =>
      rw [stepC_old e]
      simp only [List.length_append, List.length_cons, List.length_nil]
      omega
    | none =>
      rw [stepC_new e]
      simp only [List.length_append, List.length_cons, List.length_nil]
      omega
theorem allC_snoc (ws : List Wb) (w : Wb) : allC (ws ++ [w]) = ((webCl (allC ws).1 w).1, (allC ws).2 ++ [(webCl (allC ws).1 w).2]) := by
  unfold allC
  rw [List.foldl_append]
  rfl
section
variable {F : FmKit} {T : Kx} {C H H' O O' : Hp} {G : Gm} {W W' : Om} {R : D → Om → Prop} {a x : Addr} {od : OD} {d d' : D} {ts : TS} {E : En}
theorem DenL.swap {b : D} {v : V} : ∀ {l : List D} {vs : List V} {j : Nat}, DenL F T H l vs → l[j]? = some (.adr a) → Den F T H d' (.ref a) → DenL F T H (l.set j d') vs
  | [], vs, j, _, h, _ => by simp at h
  | b :: l, vs, 0, ⟨v, r, e, h1, h2⟩, h, k => by
    have e2 : b = .adr a := by simpa using h
    subst e2
    have h1 : v = .ref a := h1
    subst h1
    exact ⟨_, r, e, k, h2⟩
  | b :: l, vs, j + 1, ⟨v, r, e, h1, h2⟩, h, k => by
    refine ⟨v, r, e, h1, ?_⟩
    exact DenL.swap (b := b) (v := v) h2 (by simpa using h) k
end
theorem posE_snoc {es : List Ent} {s : Str} {r : List Nat} (h : Nat) (hn : posE es s r = none) : posE (es ++ [(s, r, h)]) s r = some es.length := by
  unfold posE at hn ⊢
  rw [List.findIdx?_append, hn]
  simp
end N
set_option Elab.async false
set_option linter.all false
set_option maxRecDepth 100000
set_option maxHeartbeats 1000000
namespace N
open PySem PySem.Spec PyProof.Rows L2
theorem allC_len (ws : List Wb) : (allC ws).2.length = ws.length := by
  induction ws using snoc_ind with
  | h0 => rfl
  | h1 ws w ih => rw [allC_snoc, List.length_append, List.length_append, ih]; rfl
end N
set_option Elab.async false
set_option linter.all false
set_option maxRecDepth 100000
set_option maxHeartbeats 4000000
set_option Elab.async false
set_option linter.all false
set_option maxRecDepth 100000
set_option maxHeartbeats 1000000
namespace N
open PySem PySem.Spec PyProof.Rows L2
/-- the number of a point's class -/
def clsN (ws : List Wb) (i p : Nat) : Nat := ((allC ws).2.getD i []).getD p 0
end N
set_option Elab.async false
set_option linter.all false
set_option maxRecDepth 100000
set_option maxHeartbeats 1000000
namespace N
open PySem PySem.Spec PyProof.Rows L2
theorem posE_app {es : List Ent} {s : Str} {r : List Nat} {k : Nat} (l : List Ent) (h : posE es s r = some k) : posE (es ++ l) s r = some k := by
  unfold posE at h ⊢
  rw [List.findIdx?_append, h]
  rfl
/-- equal places, equal keys -/
theorem posE_inj {es : List Ent} {s s' : Str} {r r' : List Nat} {k : Nat} (h : posE es s r = some k) (h' : posE es s' r' = some k) : s = s' ∧ r = r' := by
  unfold posE at h h'
  obtain ⟨h1, h2, _⟩ := List.findIdx?_eq_some_iff_getElem.mp h
  obtain ⟨h3, h4, _⟩ := List.findIdx?_eq_some_iff_getElem.mp h'
  have h2 := of_decide_eq_true h2
  have h4 := of_decide_eq_true h4
  exact ⟨h2.1.symm.trans h4.1, h2.2.symm.trans h4.2⟩
/-- the key of a point, by numbers -/
def keyA (w : Wb) (ns : List Nat) (p : Nat) : Str × List Nat := (w.atoms.getD p "", ascN (((bensF w.below).getD p []).map fun j => ns.getD j 0))
theorem bens_low {w : Wb} (hw : w.ok) {p : Nat} : ∀ x ∈ (bensF w.below).getD p [], x < p := fun x hx => by
  rw [List.getD_eq_getElem?_getD] at hx
  cases e : (bensF w.below)[p]? with
  | none => rw [e] at hx; simp at hx
  | some b =>
    rw [e] at hx
    exact bensF_low hw.rows p b e x hx
theorem keyA_snoc {w : Wb} (hw : w.ok) (ns : List Nat) (k p : Nat) (hp : p ≤ ns.length) : keyA w (ns ++ [k]) p = keyA w ns p := by
  unfold keyA
  congr 2
  refine List.map_congr_left fun x hx => ?_
  have := bens_low hw x hx
  rw [List.getD_eq_getElem?_getD, List.getD_eq_getElem?_getD, List.getElem?_append_left (by omega)]
/-- what holds of the points that are met -/
theorem webAt_pos {w : Wb} (hw : w.ok) (es : List Ent) : ∀ i, (∃ l, (webAt es w i).1 = es ++ l) ∧ ∀ p, p < i → posE (webAt es w i).1 (keyA w (webAt es w i).2 p).1 (keyA w (webAt es w i).2 p).2 = some ((webAt es w i).2.getD p 0)
  | 0 => ⟨⟨[], by simp [webAt_zero]⟩, fun p h => absurd h (Nat.not_lt_zero _)⟩
  | i + 1 => by
    obtain ⟨⟨l, hl⟩, hp⟩ := webAt_pos hw es i
    obtain ⟨n1, n2⟩ := webAt_len es w i
    rw [webAt_succ]
    have e0 : (w.atoms.getD i "", ascN (((bensF w.below).getD i []).map fun j => (webAt es w i).2.getD j 0)) = keyA w (webAt es w i).2 i := rfl
    cases e : posE (webAt es w i).1 (w.atoms.getD i "") (ascN (((bensF w.below).getD i []).map fun j => (webAt es w i).2.getD j 0)) with
    | some k =>
      rw [stepC_old e]
      refine ⟨⟨l, hl⟩, fun p hlt => ?_⟩
      show posE (webAt es w i).1 (keyA w ((webAt es w i).2 ++ [k]) p).1 (keyA w ((webAt es w i).2 ++ [k]) p).2 = some (((webAt es w i).2 ++ [k]).getD p 0)
      rw [keyA_snoc hw _ _ _ (by omega)]
      by_cases h : p < i
      · rw [hp p h, List.getD_eq_getElem?_getD, List.getD_eq_getElem?_getD, List.getElem?_append_left (by omega)]
      · have h : p = i := by omega
        subst h
        rw [List.getD_eq_getElem?_getD, List.getElem?_append_right (by omega), n1]
        simp only [Nat.sub_self, List.getElem?_cons_zero, Option.getD_some]
        exact e
    | none =>
      rw [stepC_new e]
      refine ⟨⟨l ++ [_], by rw [hl, List.append_assoc]⟩, fun p hlt => ?_⟩
      show posE ((webAt es w i).1 ++ [_]) (keyA w ((webAt es w i).2 ++ [_]) p).1 (keyA w ((webAt es w i).2 ++ [_]) p).2 = some (((webAt es w i).2 ++ [_]).getD p 0)
      rw [keyA_snoc hw _ _ _ (by omega)]
      by_cases h : p < i
      · rw [posE_app _ (hp p h), List.getD_eq_getElem?_getD, List.getD_eq_getElem?_getD, List.getElem?_append_left (by omega)]
      · have h : p = i := by omega
        subst h
        rw [List.getD_eq_getElem?_getD (l := (webAt es w p).2 ++ [(webAt es w p).1.length]), List.getElem?_append_right (by omega), n1]
        simp only [Nat.sub_self, List.getElem?_cons_zero, Option.getD_some]
        exact posE_snoc _ e
theorem allC_pos (ws : List Wb) (hws : ∀ w ∈ ws, w.ok) : ∀ (i : Nat) (w : Wb) (p : Nat), ws[i]? = some w → p < w.below.length → posE (allC ws).1 (keyA w ((allC ws).2.getD i []) p).1 (keyA w ((allC ws).2.getD i []) p).2 = some (clsN ws i p) := by
  induction ws using snoc_ind with
  | h0 => intro i w p h; simp at h
  | h1 ws v ih =>
    intro i w p h hp
    have hl := allC_len ws
    have ih := ih fun w hw => hws w (List.mem_append_left _ hw)
    have hv := hws v (by simp)
    obtain ⟨⟨l, hl2⟩, h2⟩ := webAt_pos hv (allC ws).1 v.below.length
    unfold clsN
    rw [allC_snoc]
    by_cases hi : i < ws.length
    · rw [List.getElem?_append_left hi] at h
      have e : ((allC ws).2 ++ [(webCl (allC ws).1 v).2]).getD i [] = (allC ws).2.getD i [] := by
        rw [List.getD_eq_getElem?_getD, List.getD_eq_getElem?_getD, List.getElem?_append_left (by omega)]
      show posE (webCl (allC ws).1 v).1 (keyA w (((allC ws).2 ++ [(webCl (allC ws).1 v).2]).getD i []) p).1 (keyA w (((allC ws).2 ++ [(webCl (allC ws).1 v).2]).getD i []) p).2 = some ((((allC ws).2 ++ [(webCl (allC ws).1 v).2]).getD i []).getD p 0)
      rw [e]
      have : (webCl (allC ws).1 v).1 = (allC ws).1 ++ l := hl2
      rw [this]
      exact posE_app _ (ih i w p h hp)
    · rw [List.getElem?_append_right (by omega)] at h
      have hi2 : i = ws.length := by
        rcases Nat.lt_or_ge (i - ws.length) 1 with q | q
        · omega
        · rw [List.getElem?_eq_none (by simpa using q)] at h
          cases h
      subst hi2
      have h : v = w := by simpa using h
      subst h
      have e : ((allC ws).2 ++ [(webCl (allC ws).1 v).2]).getD ws.length [] = (webCl (allC ws).1 v).2 := by
        rw [List.getD_eq_getElem?_getD, List.getElem?_append_right (by omega), hl]
        simp
      show posE (webCl (allC ws).1 v).1 (keyA v (((allC ws).2 ++ [(webCl (allC ws).1 v).2]).getD ws.length []) p).1 (keyA v (((allC ws).2 ++ [(webCl (allC ws).1 v).2]).getD ws.length []) p).2 = some ((((allC ws).2 ++ [(webCl (allC ws).1 v).2]).getD ws.length []).getD p 0)
      rw [e]
      exact h2 p hp
/-- two points have one class where the letters and the classes beneath are the same -/
theorem cls_iff {ws : List Wb} (hws : ∀ w ∈ ws, w.ok) {i j p q : Nat} {w v : Wb} (hi : ws[i]? = some w) (hj : ws[j]? = some v) (hp : p < w.below.length) (hq : q < v.below.length) :
    clsN ws i p = clsN ws j q ↔ w.atoms.getD p "" = v.atoms.getD q "" ∧ ∀ x, (∃ a ∈ (bensF w.below).getD p [], clsN ws i a = x) ↔ (∃ b ∈ (bensF v.below).getD q [], clsN ws j b = x) := by
  have h1 := allC_pos ws hws i w p hi hp
  have h2 := allC_pos ws hws j v q hj hq
  have asc : ∀ {a b : List Nat}, ascN a = ascN b ↔ ∀ x, x ∈ a ↔ x ∈ b := fun {a b} => by
    constructor
    · intro e x
      rw [← mem_ascN, e, mem_ascN]
    · intro h
      exact ascN_ext (asc_ascN a) (asc_ascN b) fun x => by rw [mem_ascN, mem_ascN, h]
  have mm : ∀ (w : Wb) (i p x : Nat), x ∈ (((bensF w.below).getD p []).map fun j => ((allC ws).2.getD i []).getD j 0) ↔ ∃ a ∈ (bensF w.below).getD p [], clsN ws i a = x := fun w i p x => by
    rw [List.mem_map]
    exact Iff.rfl
  constructor
  · intro e
    rw [e] at h1
    obtain ⟨g1, g2⟩ := posE_inj h1 h2
    refine ⟨g1, fun x => ?_⟩
    rw [← mm, ← mm]
    exact asc.mp g2 x
  · rintro ⟨g1, g2⟩
    have e1 : (keyA w ((allC ws).2.getD i []) p).1 = (keyA v ((allC ws).2.getD j []) q).1 := g1
    have e2 : (keyA w ((allC ws).2.getD i []) p).2 = (keyA v ((allC ws).2.getD j []) q).2 := asc.mpr fun x => by rw [mm, mm]; exact g2 x
    rw [e1, e2, h2] at h1
    exact (Option.some.inj h1).symm
end N
set_option Elab.async false
set_option linter.all false
set_option maxRecDepth 100000
set_option maxHeartbeats 1000000
namespace N
open PySem PySem.Spec PyProof.Rows L2
structure Bis (u w : Wb) (R : Nat → Nat → Prop) : Prop where
  dom : ∀ i p, R i p → i < u.below.length ∧ p < w.below.length
  at_ : ∀ i p, R i p → u.atoms.getD i "" = w.atoms.getD p ""
  forth : ∀ i p, R i p → ∀ a ∈ (bensF u.below).getD i [], ∃ b ∈ (bensF w.below).getD p [], R a b
  back : ∀ i p, R i p → ∀ b ∈ (bensF w.below).getD p [], ∃ a ∈ (bensF u.below).getD i [], R a b
theorem vals_atom {w : Wb} (hw : w.ok) {c i : Nat} (hi : i < w.below.length) : (w.vals (.at c)).getD i false = decide (c ∈ lets (w.atoms.getD i "")) := by
  have hl := hw.len
  show (w.atoms.map fun s => decide (c ∈ lets s)).getD i false = _
  rw [getD_map (f := fun s : PySem.Str => decide (c ∈ lets s)) (l := w.atoms) (d := ("" : PySem.Str)) (by omega)]
section
variable {u w : Wb} {R : Nat → Nat → Prop} (hu : u.ok) (hw : w.ok) (B : Bis u w R)
include hu hw B
theorem Bis.vals : ∀ (f : Fm) (i p : Nat), R i p → (u.vals f).getD i false = (w.vals f).getD p false
  | .at c, i, p, r => by
    obtain ⟨h1, h2⟩ := B.dom i p r
    rw [vals_atom hu h1, vals_atom hw h2, B.at_ i p r]
  | .no, i, p, r => by
    obtain ⟨h1, h2⟩ := B.dom i p r
    rw [vals_no hu.len h1, vals_no hw.len h2]
  | .imp f g, i, p, r => by
    obtain ⟨h1, h2⟩ := B.dom i p r
    rw [vals_imp hu.len h1, vals_imp hw.len h2, Bis.vals f i p r, Bis.vals g i p r]
  | .all f, i, p, r => by
    obtain ⟨h1, h2⟩ := B.dom i p r
    rw [vals_at hu h1, vals_at hw h2, Bool.eq_iff_iff, List.all_eq_true, List.all_eq_true]
    constructor
    · intro h b hb
      obtain ⟨a, ha, r2⟩ := B.back i p r b hb
      rw [← Bis.vals f a b r2]
      exact h a ha
    · intro h a ha
      obtain ⟨b, hb, r2⟩ := B.forth i p r a ha
      rw [Bis.vals f a b r2]
      exact h b hb
theorem Bis.cls {i p : Nat} (r : R i p) : clsN [u, w] 0 i = clsN [u, w] 1 p := by
  have hws : ∀ x ∈ [u, w], x.ok := by simp [hu, hw]
  let Q : Nat → Nat → Nat → Nat → Prop := fun i p j q => i = 0 ∧ j = 1 ∧ R p q
  have key : ∀ m p q, p < m → R p q → clsN [u, w] 0 p = clsN [u, w] 1 q := by
    intro m
    induction m with
    | zero => intro p q h; exact absurd h (Nat.not_lt_zero _)
    | succ m ih =>
      intro p q hm r
      obtain ⟨h1, h2⟩ := B.dom p q r
      refine (cls_iff hws (i := 0) (j := 1) rfl rfl h1 h2).mpr ⟨B.at_ p q r, fun x => ⟨?_, ?_⟩⟩
      · rintro ⟨a, ha, e⟩
        obtain ⟨b, hb, r2⟩ := B.forth p q r a ha
        have := bens_low hu a ha
        exact ⟨b, hb, by rw [← e, ih a b (by omega) r2]⟩
      · rintro ⟨b, hb, e⟩
        obtain ⟨a, ha, r2⟩ := B.back p q r b hb
        have := bens_low hu a ha
        exact ⟨a, ha, by rw [← e, ih a b (by omega) r2]⟩
  exact key (i + 1) i p (Nat.lt_succ_self _) r
end
/-- what is marked at a point -/
theorem lets_markS {vs : List (Nat × List Bool)} {k : Nat} {s : Str} {c : Nat} : c ∈ lets (markS vs k s) ↔ (c ∈ lets s ∧ c ∉ vs.map (·.1)) ∨ ∃ x ∈ vs, x.1 = c ∧ x.2.getD k false = true := by
  show c ∈ ascN _ ↔ _
  rw [mem_ascN, List.mem_append]
  refine or_congr ?_ ?_
  · unfold keepL
    rw [List.mem_filter]
    simp
  · unfold putL
    rw [List.mem_map]
    constructor
    · rintro ⟨x, hx, e⟩
      obtain ⟨h1, h2⟩ := List.mem_filter.mp hx
      exact ⟨x, h1, e, h2⟩
    · rintro ⟨x, hx, e, h⟩
      exact ⟨x, List.mem_filter.mpr ⟨hx, h⟩, e⟩
theorem markS_ext {vs us : List (Nat × List Bool)} {k j : Nat} {s : Str} (hk : ∀ c, c ∈ vs.map (·.1) ↔ c ∈ us.map (·.1)) (hv : ∀ c, (∃ x ∈ vs, x.1 = c ∧ x.2.getD k false = true) ↔ ∃ x ∈ us, x.1 = c ∧ x.2.getD j false = true) : markS vs k s = markS us j s := by
  have e : ascN (keepL (vs.map (·.1)) s ++ putL vs k) = ascN (keepL (us.map (·.1)) s ++ putL us j) := ascN_ext (asc_ascN _) (asc_ascN _) fun c => by
    have h1 := lets_markS (vs := vs) (k := k) (s := s) (c := c)
    have h2 := lets_markS (vs := us) (k := j) (s := s) (c := c)
    have h1 : c ∈ ascN (keepL (vs.map (·.1)) s ++ putL vs k) ↔ _ := h1
    have h2 : c ∈ ascN (keepL (us.map (·.1)) s ++ putL us j) ↔ _ := h2
    rw [h1, h2, hk c, hv c]
  unfold markS
  rw [e]
theorem mark_at {w : Wb} {rs : List (Nat × Fm)} {i : Nat} (hi : i < w.atoms.length) : (w.mark rs).atoms.getD i "" = markS (valsT w rs) i (w.atoms.getD i "") := by
  show (markA (valsT w rs) w.atoms).getD i "" = _
  unfold markA
  rw [List.getD_eq_getElem?_getD, List.getElem?_map, List.getElem?_range hi]
  rfl
/-- marks at points that see the same -/
theorem mark_pts {u w : Wb} {i p : Nat} {rs qs : List (Nat × Fm)} (hi : i < u.atoms.length) (hp : p < w.atoms.length) (ha : u.atoms.getD i "" = w.atoms.getD p "") (hm : ∀ x, x ∈ rs ↔ x ∈ qs) (hv : ∀ f, (u.vals f).getD i false = (w.vals f).getD p false) : (u.mark rs).atoms.getD i "" = (w.mark qs).atoms.getD p "" := by
  rw [mark_at hi, mark_at hp, ha]
  refine markS_ext (fun c => ?_) fun c => ?_
  · rw [valsT_keys, valsT_keys, List.mem_map, List.mem_map]
    exact ⟨fun ⟨x, hx, e⟩ => ⟨x, (hm x).mp hx, e⟩, fun ⟨x, hx, e⟩ => ⟨x, (hm x).mpr hx, e⟩⟩
  · unfold valsT
    constructor
    · rintro ⟨y, hy, e, h⟩
      obtain ⟨x, hx, rfl⟩ := List.mem_map.mp hy
      exact ⟨_, List.mem_map.mpr ⟨x, (hm x).mp hx, rfl⟩, e, by rw [← hv]; exact h⟩
    · rintro ⟨y, hy, e, h⟩
      obtain ⟨x, hx, rfl⟩ := List.mem_map.mp hy
      exact ⟨_, List.mem_map.mpr ⟨x, (hm x).mpr hx, rfl⟩, e, by rw [hv]; exact h⟩
theorem Bis.mark {u w : Wb} {R : Nat → Nat → Prop} (hu : u.ok) (hw : w.ok) (B : Bis u w R) {rs qs : List (Nat × Fm)} (hm : ∀ x, x ∈ rs ↔ x ∈ qs) : Bis (u.mark rs) (w.mark qs) R :=
  ⟨B.dom, fun i p r => mark_pts (by rw [hu.len]; exact (B.dom i p r).1) (by rw [hw.len]; exact (B.dom i p r).2) (B.at_ i p r) hm fun f => B.vals hu hw f i p r, B.forth, B.back⟩
end N
set_option Elab.async false
set_option linter.all false
set_option maxRecDepth 100000
set_option maxHeartbeats 1000000
set_option Elab.async false
set_option linter.all false
set_option maxRecDepth 100000
set_option maxHeartbeats 1000000
set_option Elab.async false
set_option linter.all false
set_option maxRecDepth 100000
set_option maxHeartbeats 1000000
set_option Elab.async false
set_option linter.all false
set_option maxRecDepth 100000
set_option maxHeartbeats 1000000
namespace N
open PySem PySem.Spec PyProof.Rows L2
open C8 (Cal Met Mak InsC pe_c pe_mt pe_mt0 pe_mk)
open TL (numL numL_lt numL_step numL_digits numL_ne int_num split_join joinL tl_join join_eq tl_num)
theorem str_lets (x : Str) : x.length = (lets x).length := str_len x
/-- a number's text -/
def numS (n : Nat) : Str := Str.ofString (toString ((n : Nat) : Int))
theorem numS_lets (n : Nat) : lets (numS n) = numL n := tl_num n
theorem numL_two {n : Nat} (h : 10 ≤ n) (h2 : n < 100) : numL n = [48 + n / 10, 48 + n % 10] := by
  rw [numL_step h, numL_lt (by omega)]
  rfl
theorem numS_len {n : Nat} (h : n < 100) : (numS n).length ≤ 2 ∧ (numS n).length ≠ 0 := by
  rw [str_lets, numS_lets]
  by_cases h2 : n < 10
  · rw [numL_lt h2]
    simp
  · rw [numL_two (by omega) h]
    simp
/-- the word of the letters -/
def wordL (s : Str) : Str := if s = "" then "-" else s
def lineL (s : Str) (r : List Nat) : List Str := wordL s :: r.map numS
def lineS (s : Str) (r : List Nat) : Str := Txt.join " " (lineL s r)
def Wb.lines (w : Wb) : List Str := List.zipWith lineS w.atoms w.below
def Wb.text (w : Wb) : Str := Txt.join "\n" w.lines
theorem sum_len {ps : List Str} {n : Nat} (h : ∀ p ∈ ps, p.length ≤ n) : (ps.map (·.length)).sum ≤ ps.length * n := by
  induction ps with
  | nil => simp
  | cons p ps ih =>
    have h1 := h p List.mem_cons_self
    have h2 := ih fun z hz => h z (List.mem_cons_of_mem _ hz)
    rw [List.map_cons, List.sum_cons, List.length_cons, Nat.add_mul, Nat.one_mul]
    omega
theorem word_len {s : Str} (h : s.length ≤ 100) : (wordL s).length ≤ 100 := by
  unfold wordL
  split
  · decide
  · exact h
structure LineOk (s : Str) (r : List Nat) : Prop where
  lets : letters s
  asc : (N.lets s).Pairwise (· < ·)
  few : r.length ≤ 63
  low : ∀ k ∈ r, k < 63
theorem LineOk.len {s : Str} {r : List Nat} (h : LineOk s r) : s.length ≤ 100 := letters_len h.lets h.asc
theorem LineOk.part {s : Str} {r : List Nat} (h : LineOk s r) : ∀ p ∈ lineL s r, p.length ≤ 100 := fun p hp => by
  rcases List.mem_cons.mp hp with rfl | hp
  · exact word_len h.len
  · obtain ⟨n, hn, rfl⟩ := List.mem_map.mp hp
    have := (numS_len (n := n) (by have := h.low n hn; omega)).1
    omega
theorem LineOk.parts {s : Str} {r : List Nat} (h : LineOk s r) : (lineL s r).length ≤ 64 := by
  have := h.few
  simp [lineL]
  omega
theorem LineOk.sum {s : Str} {r : List Nat} (h : LineOk s r) : ((lineL s r).map (·.length)).sum + (lineL s r).length * (" " : Str).length ≤ 16777216 := by
  have h1 := sum_len h.part
  have h2 := h.parts
  have h3 : (" " : Str).length = 1 := rfl
  rw [h3]
  have := Nat.mul_le_mul_right 100 h2
  omega
theorem Wb.ok.line {w : Wb} (hw : w.ok) {i : Nat} {s : Str} {r : List Nat} (h1 : w.atoms[i]? = some s) (h2 : w.below[i]? = some r) : LineOk s r where
  lets := (hw.lets s (List.mem_of_getElem? h1)).1
  asc := (hw.lets s (List.mem_of_getElem? h1)).2
  few := by
    obtain ⟨a, b⟩ := hw.rows.asc i r h2
    have h3 := low_len (a.imp fun h => Nat.ne_of_lt h) b
    have := hw.rows.few
    have := (List.getElem?_eq_some_iff.mp h2).1
    omega
  low := fun k hk => by
    have h3 := (hw.rows.asc i r h2).2 k hk
    have := hw.rows.few
    have := (List.getElem?_eq_some_iff.mp h2).1
    omega
end N
namespace N
open PySem PySem.Spec PyProof.Rows L2
theorem strOk_low {s : Str} (h : ∀ c ∈ lets s, c < 200) : PyData.strOk s = true := by
  unfold PyData.strOk
  simp only [Array.all_eq_true, decide_eq_true_eq]
  intro i hi
  have := h s.cps[i] (by simp [lets])
  omega
end N
set_option Elab.async false
set_option linter.all false
set_option maxRecDepth 100000
set_option maxHeartbeats 1000000
namespace N
open PySem PySem.Spec PyProof.Rows L2
abbrev Mk15 := Sum Str Nat
abbrev mk0 : Mk15 := .inr 0
end N
set_option Elab.async false
set_option linter.all false
set_option maxRecDepth 100000
set_option maxHeartbeats 1000000
set_option Elab.async false
set_option linter.all false
set_option maxRecDepth 100000
set_option maxHeartbeats 1000000
set_option Elab.async false
set_option linter.all false
set_option maxRecDepth 100000
set_option maxHeartbeats 1000000
namespace N
open PySem PySem.Spec PyProof.Rows L2
theorem getD_of {α : Type} {l : List α} {i : Nat} {x d : α} (h : l[i]? = some x) : l.getD i d = x := by
  rw [List.getD_eq_getElem?_getD, h]
  rfl
theorem some_of {α : Type} {l : List α} {i : Nat} {d : α} (h : i < l.length) : l[i]? = some (l.getD i d) := by
  rw [List.getD_eq_getElem?_getD, List.getElem?_eq_getElem h]
  rfl
end N
namespace N
open PySem PySem.Spec PyProof.Rows L2
theorem filt_empty (l : List Nat) (q : Nat → Bool) : ((l.filter fun x => !q x).map natD).isEmpty = l.all q := by
  induction l with
  | nil => rfl
  | cons a l ih =>
    rw [List.filter_cons, List.all_cons]
    cases h : q a with
    | true => simpa using ih
    | false => simp
end N
namespace N
open PySem PySem.Spec PyProof.Rows L2
def whr (w : Wb) (f : Fm) : List Nat := (List.range w.below.length).filter fun i => (w.vals f).getD i false
end N
namespace N
theorem filt_pairs56 (l : List Nat) (q : Nat → Bool) : ((l.map fun x => ((q x, natD x) : Bool × D)).filter (·.1)).map (·.2) = (l.filter q).map natD := by
  rw [List.filter_map, List.map_map]
  rfl
end N
set_option Elab.async false
set_option linter.all false
set_option maxRecDepth 100000
set_option maxHeartbeats 4000000
set_option Elab.async false
set_option linter.all false
set_option maxRecDepth 100000
set_option maxHeartbeats 1000000
namespace N
open PySem PySem.Spec PyProof.Rows L2 PpSet
theorem filt_pairs (l : List Nat) (q : Nat → Bool) : ((l.map fun x => ((q x, natD x) : Bool × D)).filter (·.1)).map (·.2) = (l.filter q).map natD := by
  rw [List.filter_map, List.map_map]
  rfl
end N
set_option Elab.async false
set_option linter.all false
set_option maxRecDepth 100000
set_option maxHeartbeats 1000000
namespace N
open PySem PySem.Spec PyProof.Rows L2
theorem Bis.symm {u w : Wb} {R : Nat → Nat → Prop} (B : Bis u w R) : Bis w u fun p i => R i p :=
  ⟨fun p i r => (B.dom i p r).symm, fun p i r => (B.at_ i p r).symm, fun p i r => B.back i p r, fun p i r => B.forth i p r⟩
theorem Bis.comp {u v w : Wb} {R S : Nat → Nat → Prop} (B : Bis u v R) (C : Bis v w S) : Bis u w fun i p => ∃ j, R i j ∧ S j p :=
  ⟨fun i p ⟨j, r, s⟩ => ⟨(B.dom i j r).1, (C.dom j p s).2⟩, fun i p ⟨j, r, s⟩ => (B.at_ i j r).trans (C.at_ j p s), fun i p ⟨j, r, s⟩ a ha => by
    obtain ⟨b, hb, r2⟩ := B.forth i j r a ha
    obtain ⟨c, hc, s2⟩ := C.forth j p s b hb
    exact ⟨c, hc, b, r2, s2⟩, fun i p ⟨j, r, s⟩ c hc => by
    obtain ⟨b, hb, s2⟩ := C.back j p s c hc
    obtain ⟨a, ha, r2⟩ := B.back i j r b hb
    exact ⟨a, ha, b, r2, s2⟩⟩
end N
namespace N
open PySem PySem.Spec PyProof.Rows L2
theorem eqv_strs : ∀ A B : List Str, PyData.eqv (.list (A.map .str)) (.list (B.map .str)) = decide (A = B) := by
  have h : ∀ A B : List Str, PyData.eqvAll (A.map .str) (B.map .str) = decide (A = B) := by
    intro A
    induction A with
    | nil =>
      intro B
      cases B with
      | nil => rfl
      | cons b B => simp [PyData.eqvAll]
    | cons a A ih =>
      intro B
      cases B with
      | nil => simp [PyData.eqvAll]
      | cons b B =>
        rw [List.map_cons, List.map_cons, PyData.eqvAll, ih B, PyData.eqv, Bool.eq_iff_iff]
        simp
  intro A B
  rw [PyData.eqv]
  exact h A B
theorem shaped_strs {A : List Str} (h : ∀ s ∈ A, letters s) : SeqAt.shaped (.list (A.map .str)) = true := by
  unfold SeqAt.shaped
  rw [Bool.and_eq_true, decide_eq_true_eq]
  have hd : ∀ A : List Str, PyData.depthAll (A.map .str) = 0 := fun A => by
    induction A with
    | nil => rfl
    | cons a A ih => rw [List.map_cons, PyData.depthAll, ih]; rfl
  refine ⟨?_, by rw [PyData.depth, hd]; decide⟩
  rw [PyData.canLay0]
  exact canLay_allD fun d hd => by
    obtain ⟨s, hs, rfl⟩ := List.mem_map.mp hd
    rw [PyData.canLay0]
    exact strOk_letters (h s hs)
end N
set_option Elab.async false
set_option linter.all false
set_option maxRecDepth 100000
set_option maxHeartbeats 1000000
namespace N
open PySem PySem.Spec PyProof.Rows L2
structure rlOk (rs : List (Nat × Fm)) : Prop where
  some_ : rs ≠ []
  few : rs.length ≤ 4
  asc : (rs.map (·.1)).Pairwise (· < ·)
  cap : ∀ p ∈ rs, 65 ≤ p.1 ∧ p.1 ≤ 90
  form : ∀ p ∈ rs, p.2.okF
  bare : ∀ p ∈ rs, ∀ c ∈ lets p.2.outer, c ∉ rs.map (·.1)
theorem rlOk.ltrs {rs : List (Nat × Fm)} (h : rlOk rs) : ∀ c ∈ rs.map (·.1), ltr c := fun c hc => by
  obtain ⟨p, hp, rfl⟩ := List.mem_map.mp hc
  exact .inl (h.cap p hp)
def marksS (rs : List (Nat × Fm)) : Str := ⟨(rs.map (·.1)).toArray⟩
def turnsW (rs : List (Nat × Fm)) : Nat → Wb → Wb
  | 0, w => w
  | n + 1, w => (turnsW rs n w).mark rs
def Wb.rul (w : Wb) (rs : List (Nat × Fm)) : Wb := turnsW rs w.below.length (w.strip (marksS rs))
theorem turns_below (rs : List (Nat × Fm)) (w : Wb) : ∀ n, (turnsW rs n w).below = w.below
  | 0 => rfl
  | n + 1 => turns_below rs w n
theorem turns_ok {rs : List (Nat × Fm)} (hr : ∀ c ∈ rs.map (·.1), ltr c) {w : Wb} (hw : w.ok) : ∀ n, (turnsW rs n w).ok
  | 0 => hw
  | n + 1 => mark_ok (turns_ok hr hw n) hr
theorem rul_ok {rs : List (Nat × Fm)} (hr : rlOk rs) {w : Wb} (hw : w.ok) : (w.rul rs).ok := turns_ok hr.ltrs (strip_ok hw _) _
theorem rul_below (rs : List (Nat × Fm)) (w : Wb) : (w.rul rs).below = w.below := turns_below rs _ _
/-- letters that are no marks stay -/
theorem mark_free {w : Wb} {rs : List (Nat × Fm)} {i c : Nat} (hi : i < w.atoms.length) (hc : c ∉ rs.map (·.1)) : c ∈ lets ((w.mark rs).atoms.getD i "") ↔ c ∈ lets (w.atoms.getD i "") := by
  rw [mark_at hi, lets_markS, valsT_keys]
  constructor
  · rintro (h | ⟨x, hx, e, _⟩)
    · exact h.1
    · have : x.1 ∈ (valsT w rs).map (·.1) := List.mem_map.mpr ⟨x, hx, rfl⟩
      rw [valsT_keys, e] at this
      exact absurd this hc
  · intro h
    exact .inl ⟨h, hc⟩
theorem turns_free {rs : List (Nat × Fm)} {w : Wb} (hr : ∀ c ∈ rs.map (·.1), ltr c) (hw : w.ok) {i c : Nat} (hi : i < w.below.length) (hc : c ∉ rs.map (·.1)) : ∀ n, c ∈ lets ((turnsW rs n w).atoms.getD i "") ↔ c ∈ lets (w.atoms.getD i "")
  | 0 => Iff.rfl
  | n + 1 => by
    have ok := turns_ok hr hw n
    exact (mark_free (by rw [ok.len, turns_below]; exact hi) hc).trans (turns_free hr hw hi hc n)
/-- what a form says at a point: the letters outside of all, and what lies beneath -/
theorem vals_out {u w : Wb} (hu : u.ok) (hw : w.ok) {i p : Nat} (hi : i < u.below.length) (hp : p < w.below.length)
    (forth : ∀ a ∈ (bensF u.below).getD i [], ∃ b ∈ (bensF w.below).getD p [], ∀ g, (u.vals g).getD a false = (w.vals g).getD b false)
    (back : ∀ b ∈ (bensF w.below).getD p [], ∃ a ∈ (bensF u.below).getD i [], ∀ g, (u.vals g).getD a false = (w.vals g).getD b false) :
    ∀ f : Fm, (∀ c ∈ lets f.outer, c ∈ lets (u.atoms.getD i "") ↔ c ∈ lets (w.atoms.getD p "")) → (u.vals f).getD i false = (w.vals f).getD p false
  | .at c, h => by
    rw [vals_atom hu hi, vals_atom hw hp]
    exact decide_eq_decide.mpr (h c (by show c ∈ lets (sg c); simp [lets, sg]))
  | .no, _ => by rw [vals_no hu.len hi, vals_no hw.len hp]
  | .imp f g, h => by
    rw [vals_imp hu.len hi, vals_imp hw.len hp, vals_out hu hw hi hp forth back f fun c hc => h c (mem_unite.mpr (.inl hc)), vals_out hu hw hi hp forth back g fun c hc => h c (mem_unite.mpr (.inr hc))]
  | .all f, _ => by
    rw [vals_at hu hi, vals_at hw hp, Bool.eq_iff_iff, List.all_eq_true, List.all_eq_true]
    constructor
    · intro h b hb
      obtain ⟨a, ha, e⟩ := back b hb
      rw [← e]
      exact h a ha
    · intro h a ha
      obtain ⟨b, hb, e⟩ := forth a ha
      rw [e]
      exact h b hb
theorem mark_pts2 {u w : Wb} {i p : Nat} {rs : List (Nat × Fm)} (hi : i < u.atoms.length) (hp : p < w.atoms.length) (ha : ∀ c, c ∉ rs.map (·.1) → (c ∈ lets (u.atoms.getD i "") ↔ c ∈ lets (w.atoms.getD p ""))) (hv : ∀ x ∈ rs, (u.vals x.2).getD i false = (w.vals x.2).getD p false) : (u.mark rs).atoms.getD i "" = (w.mark rs).atoms.getD p "" := by
  rw [mark_at hi, mark_at hp]
  have e : ascN (keepL ((valsT u rs).map (·.1)) (u.atoms.getD i "") ++ putL (valsT u rs) i) = ascN (keepL ((valsT w rs).map (·.1)) (w.atoms.getD p "") ++ putL (valsT w rs) p) := ascN_ext (asc_ascN _) (asc_ascN _) fun c => by
    have h1 := lets_markS (vs := valsT u rs) (k := i) (s := u.atoms.getD i "") (c := c)
    have h2 := lets_markS (vs := valsT w rs) (k := p) (s := w.atoms.getD p "") (c := c)
    have h1 : c ∈ ascN (keepL ((valsT u rs).map (·.1)) (u.atoms.getD i "") ++ putL (valsT u rs) i) ↔ _ := h1
    have h2 : c ∈ ascN (keepL ((valsT w rs).map (·.1)) (w.atoms.getD p "") ++ putL (valsT w rs) p) ↔ _ := h2
    rw [h1, h2, valsT_keys, valsT_keys]
    refine or_congr ?_ ?_
    · exact ⟨fun ⟨a, b⟩ => ⟨(ha c b).mp a, b⟩, fun ⟨a, b⟩ => ⟨(ha c b).mpr a, b⟩⟩
    · unfold valsT
      constructor
      · rintro ⟨y, hy, e, h⟩
        obtain ⟨x, hx, rfl⟩ := List.mem_map.mp hy
        exact ⟨_, List.mem_map.mpr ⟨x, hx, rfl⟩, e, by rw [← hv x hx]; exact h⟩
      · rintro ⟨y, hy, e, h⟩
        obtain ⟨x, hx, rfl⟩ := List.mem_map.mp hy
        exact ⟨_, List.mem_map.mpr ⟨x, hx, rfl⟩, e, by rw [hv x hx]; exact h⟩
  unfold markS
  rw [e]
/-- marks hang on what lies beneath alone -/
theorem turns_pts {rs : List (Nat × Fm)} (hr : ∀ c ∈ rs.map (·.1), ltr c) (hb : ∀ p ∈ rs, ∀ c ∈ lets p.2.outer, c ∉ rs.map (·.1)) {u w : Wb} (hu : u.ok) (hw : w.ok) {R : Nat → Nat → Prop} (B : Bis u w R) :
    ∀ (k i p n m : Nat), i < k → R i p → i < n → p < m → (turnsW rs n u).atoms.getD i "" = (turnsW rs m w).atoms.getD p "" := by
  intro k
  induction k with
  | zero => intro i p n m h; exact absurd h (Nat.not_lt_zero _)
  | succ k ih =>
    intro i p n m hk r hn hm
    obtain ⟨n, rfl⟩ : ∃ x, n = x + 1 := ⟨n - 1, by omega⟩
    obtain ⟨m, rfl⟩ : ∃ x, m = x + 1 := ⟨m - 1, by omega⟩
    obtain ⟨d1, d2⟩ := B.dom i p r
    have ou := turns_ok hr hu n
    have ow := turns_ok hr hw m
    have bu := turns_below rs u n
    have bw := turns_below rs w m
    have BB : Bis (turnsW rs n u) (turnsW rs m w) fun a b => R a b ∧ a < i ∧ b < p := by
      refine ⟨fun a b h => by rw [bu, bw]; exact B.dom a b h.1, fun a b h => ih a b n m (by omega) h.1 (by omega) (by omega), fun a b h x hx => ?_, fun a b h y hy => ?_⟩
      · rw [bu] at hx
        obtain ⟨y, hy, r2⟩ := B.forth a b h.1 x hx
        have := bens_low hu x hx
        have := bens_low hw y hy
        exact ⟨y, by rw [bw]; exact hy, r2, by omega, by omega⟩
      · rw [bw] at hy
        obtain ⟨x, hx, r2⟩ := B.back a b h.1 y hy
        have := bens_low hu x hx
        have := bens_low hw y hy
        exact ⟨x, by rw [bu]; exact hx, r2, by omega, by omega⟩
    have hfree : ∀ c, c ∉ rs.map (·.1) → (c ∈ lets ((turnsW rs n u).atoms.getD i "") ↔ c ∈ lets ((turnsW rs m w).atoms.getD p "")) := fun c hc => by
      rw [turns_free hr hu d1 hc n, turns_free hr hw d2 hc m, B.at_ i p r]
    refine mark_pts2 (by rw [ou.len, bu]; exact d1) (by rw [ow.len, bw]; exact d2) hfree fun x hx => ?_
    refine vals_out ou ow (by rw [bu]; exact d1) (by rw [bw]; exact d2) (fun a ha => ?_) (fun b hb2 => ?_) x.2 fun c hc => hfree c (hb x hx c hc)
    · rw [bu] at ha
      obtain ⟨b, hb2, r2⟩ := B.forth i p r a ha
      have := bens_low hu a ha
      have := bens_low hw b hb2
      exact ⟨b, by rw [bw]; exact hb2, fun g => BB.vals ou ow g a b ⟨r2, by omega, by omega⟩⟩
    · rw [bw] at hb2
      obtain ⟨a, ha, r2⟩ := B.back i p r b hb2
      have := bens_low hu a ha
      have := bens_low hw b hb2
      exact ⟨a, by rw [bu]; exact ha, fun g => BB.vals ou ow g a b ⟨r2, by omega, by omega⟩⟩
theorem Bis.rul {u w : Wb} (hu : u.ok) (hw : w.ok) {R : Nat → Nat → Prop} {rs : List (Nat × Fm)} (hr : rlOk rs) (B : Bis (u.strip (marksS rs)) (w.strip (marksS rs)) R) : Bis (u.rul rs) (w.rul rs) R := by
  refine ⟨fun i p r => by rw [rul_below, rul_below]; exact B.dom i p r, fun i p r => ?_, fun i p r a ha => ?_, fun i p r b hb => ?_⟩
  · obtain ⟨h1, h2⟩ := B.dom i p r
    exact turns_pts hr.ltrs hr.bare (strip_ok hu _) (strip_ok hw _) B (i + 1) i p _ _ (Nat.lt_succ_self _) r h1 h2
  · rw [rul_below] at ha ⊢
    exact B.forth i p r a ha
  · rw [rul_below] at hb ⊢
    exact B.back i p r b hb
/-- the marked web holds its own marks -/
theorem rul_fix {w : Wb} (hw : w.ok) {rs : List (Nat × Fm)} (hr : rlOk rs) : (w.rul rs).mark rs = w.rul rs := by
  have hs := strip_ok hw (marksS rs)
  have ok := rul_ok hr hw
  have okm := mark_ok ok hr.ltrs
  have self : Bis (w.strip (marksS rs)) (w.strip (marksS rs)) fun i p => i = p ∧ i < w.below.length :=
    ⟨fun i p ⟨e, h⟩ => ⟨h, by rw [← e]; exact h⟩, fun i p ⟨e, h⟩ => by rw [e], fun i p ⟨e, h⟩ a ha => ⟨a, by rw [← e]; exact ha, rfl, by have := bens_low hs a ha; omega⟩, fun i p ⟨e, h⟩ b hb => ⟨b, by rw [e]; exact hb, rfl, by have := bens_low hs b hb; omega⟩⟩
  have ea : ((w.rul rs).mark rs).atoms = (w.rul rs).atoms := by
    have l1 : ((w.rul rs).mark rs).atoms.length = w.below.length := by rw [okm.len]; exact congrArg List.length (rul_below rs w)
    have l2 : (w.rul rs).atoms.length = w.below.length := by rw [ok.len, rul_below]
    refine List.ext_getElem? fun i => ?_
    by_cases hi : i < w.below.length
    · rw [some_of (d := ("" : Str)) (by rw [l1]; exact hi), some_of (d := ("" : Str)) (by rw [l2]; exact hi)]
      exact congrArg some (turns_pts hr.ltrs hr.bare hs hs self (i + 1) i i (w.below.length + 1) w.below.length (Nat.lt_succ_self _) ⟨rfl, hi⟩ (by omega) hi)
    · rw [List.getElem?_eq_none (by rw [l1]; omega), List.getElem?_eq_none (by rw [l2]; omega)]
  have eb : ((w.rul rs).mark rs).below = (w.rul rs).below := rfl
  cases g1 : (w.rul rs).mark rs with
  | mk a b =>
    cases g2 : w.rul rs with
    | mk x y =>
      rw [g1, g2] at ea eb
      exact congr (congrArg Wb.mk eb) ea
end N
set_option Elab.async false
set_option linter.all false
set_option maxRecDepth 100000
set_option maxHeartbeats 1000000
namespace N
open PySem PySem.Spec PyProof.Rows L2
section
variable {X : Cx} {pins : List (Addr × Obj)} {σ : L2.St} {H : Hp} {s : Shared}
/-- an object that stands, and was told by nobody so far, is told now -/
theorem inv_adopt {p : Addr} {ob : HO} (I : Inv X pins σ H s) (f : FpOk X pins H p) (hp : ∃ o, s.heap.get? p = some o) (new : ObjOk X.prog X.w (upd H p ob) s.heap p ob) : Inv X pins σ (upd H p ob) s := by
  have hn : H p = none := f.1
  refine I.step (h' := s.heap) (t' := s.toks) (g' := s.gens) (d' := s.drawn) (ch := [p]) (fun b hb => ?_) (fun b o _ _ _ e _ => e) (fun b o _ _ _ e _ => ⟨o.slots, e⟩)
    (fun b o hb e n => ?_) (fun b o _ e => ⟨o, e⟩) (fun b xs e => ?_) (fun b o u e => ?_) (fun b ps e => ⟨#[], ?_⟩) (fun m hm => hm) (fun b u e => ?_) I.bare
  · rw [List.mem_singleton] at hb
    subst hb
    exact ⟨f.2.2.2.1, f.2.1, f.2.2.2.2.1, f.2.2.2.2.2⟩
  · rw [upd_ne (fun z => hb (by rw [z]; exact List.mem_singleton.mpr rfl))]
    exact n
  · rw [upd_ne (ne_of_none e hn)]; exact e
  · rw [upd_ne (ne_of_none e hn)]; exact e
  · rw [upd_ne (ne_of_none e hn), e]; simp
  · by_cases hb : b = p
    · subst hb
      rw [upd_same] at e
      cases e
      exact new
    · rw [upd_ne hb] at e
      exact (I.hok b u e).stay (fun c v _ q => q) (fun c q => by rw [upd_ne (ne_of_none q hn)]; exact q) fun c xs q => by rw [upd_ne (ne_of_none q hn)]; exact q
theorem pairs_of2 (I : Inv X pins σ H s) : ∀ {ps : List Addr} {kvs : List (Key × V)}, Paired (fun p kv => SqT X.K H p [kV kv.1, kv.2]) ps kvs →
    ∃ (vps : List (Value × Value)) (prs : List (Key × Value)), KV kvs prs ∧ vps.length = ps.length ∧ prs.length = ps.length ∧ ∀ (j : Nat) (k v : Value), vps[j]? = some (k, v) → ∃ (b : Addr) (key : Key), ps[j]? = some b ∧ IsTup s.heap b #[k, v] ∧ prs[j]? = some (key, v) ∧ (mixKind X.prog X.w).is key k = true
  | _, _, .nil => ⟨[], [], .nil, rfl, rfl, fun j k v e => by simp at e⟩
  | _, _, .cons (a := p) (b := kv) h t => by
    obtain ⟨vps, prs, r, hl, hl2, hp⟩ := pairs_of2 I t
    obtain ⟨its, rv, ht, _⟩ := I.tuple h
    obtain ⟨u, y, ei, ru, ry⟩ := vals2 rv
    subst ei
    refine ⟨(u, y) :: vps, (kv.1, y) :: prs, .cons ⟨rfl, ry⟩ r, by rw [List.length_cons, List.length_cons, hl], by rw [List.length_cons, List.length_cons, hl2], fun j k v e => ?_⟩
    cases j with
    | zero =>
      have e' : (u, y) = (k, v) := Option.some.inj e
      cases e'
      exact ⟨p, kv.1, rfl, ht, rfl, kV_is ru⟩
    | succ j =>
      obtain ⟨b, key, e1, e2, e3, e4⟩ := hp j k v (by simpa using e)
      exact ⟨b, key, by simpa using e1, e2, by simpa using e3, e4⟩
theorem dict_tuple (I : Inv X pins σ H s) (hcalm : X.calm = true) {a : Addr} {ps : List Addr} {kvs : List (Key × V)} (hpl : PlainSeq "tuple" s.heap a (ps.map Value.ref).toArray) (hp : Paired (fun p kv => SqT X.K H p [kV kv.1, kv.2]) ps kvs) (hz : ps.length ≤ sizeLine) {Q : Value → Shared → Prop}
    (q : ∀ d s', Inv X pins σ (upd H d (.dK (mergeK [] kvs))) s' → H d = none → d ≠ a → Q (.ref d) s') : wpAny (model X.prog X.w) X.A (call (.type "dict") [.ref a]) Q X.xe s := by
  obtain ⟨vps, prs, rel, hl, hl2, hpr⟩ := pairs_of2 I hp
  have items : PairItems s.heap (ps.map Value.ref).toArray (fun j => ps.getD j 0) vps := by
    refine ⟨by simp [hl], fun j k v e => ?_⟩
    obtain ⟨b, key, e1, e2, _, _⟩ := hpr j k v e
    have eb : ps.getD j 0 = b := by rw [List.getD_eq_getElem?_getD, e1]; rfl
    refine ⟨by simp [e1], ?_⟩
    show PairAt s.heap (ps.getD j 0) k v
    rw [eb]
    exact .inl e2
  have have_ : PairsHave (mixKind X.prog X.w) vps.length (PairRel vps) prs := by
    refine ⟨by rw [hl, hl2], fun i key v r => ?_⟩
    obtain ⟨b, k, _, _, e3, e4⟩ := hpr i key v r
    exact ⟨k, e3, e4⟩
  have hlt : a < s.heap.objs.size := by
    obtain ⟨o, n, ho, _⟩ := hpl
    exact Heap.lt_size ho
  refine PySem.call_dict_pairs (knd := mixKind X.prog X.w) (kvs := prs) (PairArg.tuple a (ps.map Value.ref).toArray (fun j => ps.getD j 0) vps) (I.ok.hd hcalm) ⟨hpl, items⟩ have_ (by rw [hl]; exact hz) fun h' tk hd' k => ?_
  have hm : (s.heap.objs.size == sysModules) = false := beq_eq_false_iff_ne.mpr (Nat.ne_of_gt I.big)
  have hlen : (mergeK [] kvs).length ≤ sizeLine := by
    refine Nat.le_trans (length_mergeK kvs []) ?_
    rw [List.length_nil, Nat.zero_add, rel.length, hl2]
    exact hz
  exact q s.heap.objs.size _ (I.laid (t' := tk) (fun b o e => k b o (by simp) e) (Nat.le_refl _) (show ObjOk X.prog X.w _ _ _ (.dK (mergeK [] kvs)) from ⟨hlen, hm, merged [] prs, KV.merge rel .nil, hd'⟩)) (I.hok.fresh (Nat.le_refl _)) (Nat.ne_of_gt hlt)
end
theorem sqT_ins {K : PySem.W.Frag} {H : Hp} {a C dx : Addr} {fs gs : List (Str × V)} {b : Addr} {xs : List V} (ea : H a = some (.ins C dx fs)) (h : SqT K H b xs) : SqT K (upd H a (.ins C dx gs)) b xs := by
  rcases h with (h | ⟨o, h⟩) | h
  · exact .inl (.inl (by rw [upd_ne (fun z => by rw [z, ea] at h; cases h)]; exact h))
  · exact .inl (.inr ⟨o, by rw [upd_ne (fun z => by rw [z, ea] at h; cases h)]; exact h⟩)
  · exact .inr h
theorem paired_imp {α β : Type} {r r' : α → β → Prop} (i : ∀ a b, r a b → r' a b) : ∀ {as : List α} {bs : List β}, Paired r as bs → Paired r' as bs
  | _, _, .nil => .nil
  | _, _, .cons h t => .cons (i _ _ h) (paired_imp i t)
theorem putF_len {f : Str} {v : V} : ∀ fs : List (Str × V), (putF f v fs).length ≤ fs.length + 1
  | [] => Nat.le_refl _
  | (g, x) :: r => by
    unfold putF
    split
    · simp
    · have := putF_len (f := f) (v := v) r
      simp only [List.length_cons]
      omega
/-- the tuple as an object -/
def tupO (ps : List Addr) : Obj := { cls := .type "tuple", data := .seq (ps.map Value.ref).toArray }
def sTupDict (K : PySem.W.Frag) (te ta : TE) (f g : Str) : TS := fun D σ H => te σ H fun v H1 => ∃ l ps kvs a C dx fs, v = .ref l ∧ SqL K H1 l (ps.map V.ref) ∧ Paired (fun p kv => SqT K H1 p [kV kv.1, kv.2]) ps kvs ∧ (∀ H2, ta σ H2 fun x H' => x = .ref a ∧ H' = H2) ∧ H1 a = some (.ins C dx fs) ∧ Cls K C ∧ NoAttr K C f ∧ NoAttr K C g ∧ fs.length < 900 ∧
  ∀ p d, H1 p = none → H1 d = none → d ≠ p → D.nx σ (upd (upd (upd H1 p (.frz (tupO ps) (.tup (ps.map V.ref)))) d (.dK (mergeK [] kvs))) a (.ins C dx (putF g (.ref d) (putF f (.ref p) fs))))
theorem pss_tupdict {X : Cx} {e o o2 o3 : Expr} {te ta : TE} {u : TS} {f g : Str} {n1 n2 c1 c2 a1 a2 q1 q2 q3 : Pos} {rest : List Stmt} (hgt : Gl X "tuple") (hmt : X.mg "tuple" = none) (hgd : Gl X "dict") (hmd : X.mg "dict" = none) (hcalm : X.calm = true)
    (he : PE X e te) (ha : PE X o ta) (ha2 : PE X o2 ta) (ha3 : PE X o3 ta) (hr : PSs X rest u)
    (hs1 : swapsWith (.Call (.Name "tuple" n1) [e] [] c1) (some (.Attribute o f q1)) a1.line X.env = pure false) (hs2 : swapsWith (.Call (.Name "dict" n2) [.Attribute o3 f q3] [] c2) (some (.Attribute o2 g q2)) a2.line X.env = pure false)
    (hb : attributeBase o3 f X.env (eval o3 X.env) = eval o3 X.env)
    (h1 : starEach [e] X.env = (false, eval e X.env) :: starEach [] X.env := by rfl) (h2 : (backTo c1 (starEach [] X.env)).any (·.1) = false := by rfl)
    (h3 : starEach [.Attribute o3 f q3] X.env = (false, eval (.Attribute o3 f q3) X.env) :: starEach [] X.env := by rfl) (h4 : (backTo c2 (starEach [] X.env)).any (·.1) = false := by rfl) :
    PSs X (.Assign [.Attribute o f q1] (.Call (.Name "tuple" n1) [e] [] c1) a1 :: .Assign [.Attribute o2 g q2] (.Call (.Name "dict" n2) [.Attribute o3 f q3] [] c2) a2 :: rest) (tSeq (sTupDict X.K te ta f g) u) := by
  refine ⟨fun pins s σ H D I h => ?_⟩
  refine wpAny_execs_cons (plainObj_wpAny_Assign_Attribute (Call_ (ld_blt I hgt hmt PyProof.Rows.boot_tuple (PyProof.Rows.callWith_type1 ?_ h1 h2))) hs1)
  rw [h1]
  show wpAny _ _ (spliced ((false, eval e X.env) :: backTo c1 (starEach [] X.env))) _ _ s
  refine Calls.spliced_cons (thn (he.run pins s σ H _ I h) fun u0 s1 ⟨v, H1, I1, r1, l, ps, kvs, a, C, dx, fs, ev, hl, hp, hself, ea, hc, nf, ng, hlen, q⟩ => ?_)
  subst ev
  obtain rfl : u0 = Value.ref l := r1
  refine wpAny_pure ?_
  obtain ⟨its, rv, pl, hz⟩ := I1.list hl
  have ei := refs_at rv
  subst ei
  rw [List.length_map] at hz
  refine call_tuple_list pl.isList (fun h' kp => ?_) (by simp only [List.size_toArray, List.length_map] <;> omega)
  have I2 : Inv X pins σ H1 { s1 with heap := h' } := I1.kept (t' := s1.toks) kp
  have f1 : FpOk X pins H1 h'.objs.size := I2.fpOk (Nat.le_refl _) (I2.hok.fresh (Nat.le_refl _))
  have I3 : Inv X pins σ H1 { s1 with heap := h'.push { cls := .type "tuple", data := .seq (ps.map Value.ref).toArray } } := I2.kept (t' := s1.toks) fun b o e => Heap.get?_push_of_some _ e
  have I4 : Inv X ((h'.objs.size, { cls := .type "tuple", data := .seq (ps.map Value.ref).toArray }) :: pins) σ H1 { s1 with heap := h'.push { cls := .type "tuple", data := .seq (ps.map Value.ref).toArray } } := I3.pins_of fun x hx => by
    rcases List.mem_cons.mp hx with e | e
    · subst e
      exact ⟨Heap.get?_push_size _ rfl, f1.1, f1.2.1, f1.2.2.1, fun v e => nomatch e⟩
    · exact I3.pin x (List.mem_append_right _ e)
  generalize hP : h'.objs.size = P at *
  have npa : P ≠ a := fun z => by rw [← z, f1.1] at ea; cases ea
  refine thn (ha.run _ _ σ H1 _ I4 (hself H1)) fun ov s2 ⟨x, H2, I5, rx, ex, eh⟩ => ?_
  subst ex eh
  obtain rfl : ov = Value.ref a := rx
  refine setattr_ok (y := .ref P) I5 ea hc nf (by omega) rfl fun s3 I6 => ?_
  show wpAny _ _ (execs (_ :: rest) _) _ _ s3
  refine wpAny_execs_cons (plainObj_wpAny_Assign_Attribute (Call_ (ld_blt I6 hgd hmd PyProof.Rows.boot_dict (PyProof.Rows.callWith_type1 ?_ h3 h4))) hs2)
  rw [h3]
  show wpAny _ _ (spliced ((false, eval (.Attribute o3 f q3) X.env) :: backTo c2 (starEach [] X.env))) _ _ s3
  refine Calls.spliced_cons (attr_of hb (thn (ha3.run _ _ σ _ _ I6 (hself _)) fun u4 s4 ⟨x, H4, I7, rx, ex, eh⟩ => ?_))
  subst ex eh
  obtain rfl : u4 = Value.ref a := rx
  refine getattr_ok (v := .ref P) I7 upd_same hc nf (by rw [lookup_putF, if_pos rfl]) fun u5 s5 I8 r5 => ?_
  obtain rfl : u5 = Value.ref P := r5
  refine wpAny_pure ?_
  have gp := (I8.pin (P, _) (List.mem_append_right _ List.mem_cons_self)).1
  refine dict_tuple I8 hcalm (ps := ps) (kvs := kvs) ⟨_, _, gp, rfl, rfl, rfl⟩ (paired_imp (fun b kv h => sqT_ins ea h) hp) hz fun d s6 I9 nd ne => ?_
  have nda : d ≠ a := fun z => by rw [z, upd_same] at nd; cases nd
  rw [upd_ne nda] at nd
  refine thn (ha2.run _ _ σ _ _ I9 (hself _)) fun ov s7 ⟨x, H7, I10, rx, ex, eh⟩ => ?_
  subst ex eh
  obtain rfl : ov = Value.ref a := rx
  refine setattr_ok (y := .ref d) (fs := putF f (.ref P) fs) I10 (by rw [upd_ne (Ne.symm nda)]; exact upd_same) hc ng (by have := putF_len (f := f) (v := .ref P) fs; omega) rfl fun s8 I11 => ?_
  have pp := I11.pin (P, _) (List.mem_append_right _ List.mem_cons_self)
  have I12 : Inv X pins σ _ s8 := I11.pins_of fun x hx => I11.pin x (List.mem_append_right _ (List.mem_cons_of_mem _ hx))
  have I13 := inv_adopt (p := P) (ob := .frz (tupO ps) (.tup (ps.map V.ref))) I12 ⟨pp.2.1, f1.2⟩ ⟨_, pp.1⟩ ⟨pp.1, by rw [List.length_map]; exact hz, ps.map Value.ref, rv, ⟨_, pp.1, rfl, _, rfl⟩⟩
  have eH : upd (upd (upd (upd H2 a (.ins C dx (putF f (.ref P) fs))) d (.dK (mergeK [] kvs))) a (.ins C dx (putF g (.ref d) (putF f (.ref P) fs)))) P (.frz (tupO ps) (.tup (ps.map V.ref))) = upd (upd (upd H2 P (.frz (tupO ps) (.tup (ps.map V.ref)))) d (.dK (mergeK [] kvs))) a (.ins C dx (putF g (.ref d) (putF f (.ref P) fs))) := by
    funext c
    by_cases e1 : c = a
    · subst e1
      rw [upd_ne (Ne.symm npa), upd_same, upd_same]
    · rw [upd_ne (H := upd (upd H2 P _) d _) e1]
      by_cases e2 : c = P
      · subst e2
        rw [upd_same, upd_ne (Ne.symm ne), upd_same]
      · rw [upd_ne e2, upd_ne e1]
        by_cases e3 : c = d
        · subst e3
          rw [upd_same, upd_same]
        · rw [upd_ne e3, upd_ne e1, upd_ne e3, upd_ne e2]
  rw [eH] at I13
  exact hr.run pins s8 σ _ D I13 (q P d f1.1 nd ne)
section
variable {F : FmKit} {T : Kx} {G : Gm} {W : Om} {E : En} {te : TE}
/-- .. plainly: an owned instance gets the tuple, and the table of its pairs -/
theorem sw_tupdict {i : Nat} {f g : Str} (h : Ev F T te G W fun d W1 => ∃ a c ns l W2 W3 ps, G[i]? = some (some (.adr a)) ∧ W1 = W2 ++ (a, .ins c ns l) :: W3 ∧ d = .lst (ps.map fun p : Key × D => .tup [kD p.1, p.2]) ∧ Cls T.K (T.cl c) ∧ NoAttr T.K (T.cl c) f ∧ NoAttr T.K (T.cl c) g ∧ ns.length < 900 ∧ f ∉ ns ∧ g ∉ ns ++ [f] ∧
    E.nx G (W2 ++ (a, .ins c (ns ++ [f] ++ [g]) (l ++ [.tupz (ps.map fun p => .tup [kD p.1, p.2])] ++ [.dct ((mergeG ps).map (·.1)) ((mergeG ps).map (·.2))])) :: W3)) : Sw F T (sTupDict T.K te (tVar i) f g) G W E := fun C H O σ w B b =>
  h C H O σ w _ fun d0 W1 H1 O1 v ⟨a, c, ns, l, W2, W3, ps, hg, eW, ed, hc, nf, ng, hl, f1, f2, r⟩ n1 k1 => by
    subst eW ed
    obtain ⟨p0, xs, ev, hs, kl⟩ := k1
    obtain ⟨as, kvs, e2, hp, hk, hd⟩ := den_pairs n1.dis kl
    subst e2
    obtain ⟨_, dx, fs, o1, o2, o3⟩ := n1.own.at_ a _ (List.mem_append_right _ List.mem_cons_self)
    have hself : ∃ u, σ[i]? = some (some u) ∧ u = .ref a := by
      obtain ⟨u, e, k⟩ := w.loc.at_ i _ hg
      exact ⟨u, e, k⟩
    obtain ⟨u, hu, eu⟩ := hself
    subst eu
    have hfl : fs.length = ns.length := by rw [← o2, List.length_map]
    refine ⟨p0, as, kvs, a, T.cl c, dx, fs, ev, n1.dis.same.seq (SqL.of hs), hp, fun H2 => ⟨_, hu, rfl, rfl⟩, ov_own o1, hc, nf, ng, by rw [hfl]; exact hl, fun p d hpn hdn hne => ?_⟩
    obtain ⟨n2, e2, s2⟩ := n1.newF (o := .frz (tupO as) (.tup (as.map V.ref))) hpn
    rw [e2]
    obtain ⟨n3, e3, s3⟩ := n2.newF (o := .dK (mergeK [] kvs)) (p := d) (by rw [← e2, upd_ne hne]; exact hdn)
    rw [e3]
    obtain ⟨m1, m2, m3⟩ := mergeK_keys (F := F) (T := T) (H := H1) (acc := []) (av := []) hk rfl List.nodup_nil hd (show DenL F T H1 (([] : List (Key × D)).map (·.2)) (([] : List (Key × V)).map (·.2)) from rfl)
    have kt : Den F T (upd (upd H1 p (.frz (tupO as) (.tup (as.map V.ref)))) d (.dK (mergeK [] kvs))) (.tupz (ps.map fun p => .tup [kD p.1, p.2])) (.ref p) := ⟨p, _, tupO as, rfl, s3 _ _ upd_same, rfl, (kl.mono s2).mono s3⟩
    have kd : Den F T (upd (upd H1 p (.frz (tupO as) (.tup (as.map V.ref)))) d (.dK (mergeK [] kvs))) (.dct ((mergeG ps).map (·.1)) ((mergeG ps).map (·.2))) (.ref d) := ⟨d, _, rfl, upd_same, m1, m2, (m3.mono s2).mono s3⟩
    have f3 : f ∉ fs.map (·.1) := by rw [o2]; exact f1
    have ef : putF f (.ref p) fs = fs ++ [(f, .ref p)] := putF_new f3
    have f4 : g ∉ (fs ++ [(f, V.ref p)]).map (·.1) := by rw [List.map_append, o2]; exact f2
    have eg : putF g (.ref d) (putF f (.ref p) fs) = fs ++ [(f, .ref p)] ++ [(g, .ref d)] := by rw [ef]; exact putF_new f4
    rw [eg]
    obtain ⟨n4, e4⟩ := n3.write (o := .ins (T.cl c) dx (fs ++ [(f, V.ref p)] ++ [(g, V.ref d)])) (od2 := .ins c (ns ++ [f] ++ [g]) (l ++ [.tupz (ps.map fun p => .tup [kD p.1, p.2])] ++ [.dct ((mergeG ps).map (·.1)) ((mergeG ps).map (·.2))])) ⟨dx, _, rfl, by rw [List.map_append, List.map_append, o2]; rfl, by
      rw [List.map_append, List.map_append]
      exact ((((o3.mono s2).mono s3).app (.one kt)).app (.one kd))⟩
    rw [e4]
    exact b.nx G _ _ _ σ r n4 (w.loc.mono ((n1.ext.trans s2).trans s3))
end
theorem Den.weak {F : FmKit} {T : Kx} {H : Hp} {l : List D} {v : V} (h : Den F T H (.tupz l) v) : Den F T H (.tup l) v := by
  obtain ⟨a, xs, o, e, h1, _, k⟩ := h
  exact ⟨a, xs, e, .inl (.inr ⟨o, h1⟩), k⟩
end N
set_option Elab.async false
set_option linter.all false
set_option maxRecDepth 100000
set_option maxHeartbeats 1000000
namespace N
open PySem PySem.Spec PyProof.Rows L2
def rlNames : List Str := ["rows", "forms_by_mark"]
abbrev rowsR (rs : List (Nat × Fm)) : D := .tup (rs.map fun p => .tup [.str (sg p.1), .fm p.2])
abbrev rowsZ (rs : List (Nat × Fm)) : D := .tupz (rs.map fun p => .tup [.str (sg p.1), .fm p.2])
def rlPs (rs : List (Nat × Fm)) : List (Key × D) := rs.map fun p => ((Sum.inr (sg p.1) : Key), .fm p.2)
def rlD (rs : List (Nat × Fm)) : D := .obj 3 rlNames [rowsZ rs, .dct ((rlPs rs).map (·.1)) ((rlPs rs).map (·.2))]
abbrev argR (es : List (Nat × D × Fm)) : D := .tup (es.map fun e => .tup [.str (sg e.1), e.2.1])
def rsOf (es : List (Nat × D × Fm)) : List (Nat × Fm) := es.map fun e => (e.1, e.2.2)
theorem rlPs_pairs (rs : List (Nat × Fm)) : (rlPs rs).map (fun p => D.tup [kD p.1, p.2]) = rs.map fun p => D.tup [.str (sg p.1), .fm p.2] := by
  unfold rlPs
  rw [List.map_map]
  rfl
theorem rlPs_merge {rs : List (Nat × Fm)} (h : rlOk rs) : mergeG (rlPs rs) = rlPs rs := by
  refine mergeG_nd ?_
  unfold rlPs
  rw [List.map_map, List.nodup_iff_pairwise_ne, List.pairwise_map]
  have := h.asc
  rw [List.pairwise_map] at this
  exact this.imp fun {a b} lt e => by
    have e : Sum.inr (sg a.1) = (Sum.inr (sg b.1) : Key) := e
    have := sg_inj (Sum.inr.inj e)
    omega
theorem caps_in {c : Nat} (h1 : 65 ≤ c) (h2 : c ≤ 90) : decide (c ∈ ("ABCDEFGHIJKLMNOPQRSTUVWXYZ" : Str).cps.toList) = true := by
  have h : ∀ c ∈ List.range 91, 65 ≤ c → decide (c ∈ ("ABCDEFGHIJKLMNOPQRSTUVWXYZ" : Str).cps.toList) = true := by decide +kernel
  exact h c (List.mem_range.mpr (by omega)) h1
def S_ismark : FS := fun ds W post => ∃ c : Nat, ds = [.str (sg c)] ∧ W = [] ∧ 65 ≤ c ∧ c ≤ 90 ∧ post (.bl true) []
def S_isrule : FS := fun ds W post => ∃ (c : Nat) (d : D) (f : Fm), ds = [.tup [.str (sg c), d]] ∧ W = [] ∧ 65 ≤ c ∧ c ≤ 90 ∧ Opd d f ∧ post (.bl true) []
def S_checkrows : FS := fun ds W post => ∃ es : List (Nat × D × Fm), ds = [argR es] ∧ W = [] ∧ (∀ e ∈ es, Opd e.2.1 e.2.2) ∧ rlOk (rsOf es) ∧ post .non []
def S_initRu : FS := fun ds W post => ∃ (x : Addr) (es : List (Nat × D × Fm)), ds = [.adr x, argR es] ∧ W = [(x, .ins 3 [] [])] ∧ (∀ e ∈ es, Opd e.2.1 e.2.2) ∧ rlOk (rsOf es) ∧
  post .non [(x, .ins 3 rlNames [rowsZ (rsOf es), .dct ((rlPs (rsOf es)).map (·.1)) ((rlPs (rsOf es)).map (·.2))])]
def S_marksRu : FS := fun ds W post => ∃ rs : List (Nat × Fm), ds = [rlD rs] ∧ W = [] ∧ rlOk rs ∧ post (.str (marksS rs)) []
def S_markedRu : FS := fun ds W post => ∃ (rs : List (Nat × Fm)) (w : Wb), ds = [rlD rs, w.d] ∧ W = [] ∧ rlOk rs ∧ w.ok ∧ post (w.rul rs).d []
section
variable {F : FmKit} {T : Kx} {G : Gm} {W : Om} {R : D → Om → Prop} {tr : TA} {E : XK}
theorem ev_mkRu (h : EvA F T tr G W fun ds W1 => ∃ es : List (Nat × D × Fm), ds = [argR es] ∧ (∀ e ∈ es, Opd e.2.1 e.2.2) ∧ rlOk (rsOf es) ∧ R (rlD (rsOf es)) W1) : Ev F T (tMake (T.cl 3) (spN F T S_initRu) [] E tr) G W R :=
  ev_fz (ev_make (fun C H O σ w Q q => h C H O σ w Q fun ds W1 H1 O1 vs ⟨es, e, he, hr, r⟩ n k => q ds W1 H1 O1 vs (fun x hx => by
    subst e
    exact ⟨[(x, .ins 3 [] [])], W1, List.Perm.refl _, x, es, rfl, rfl, he, hr, rfl, x, _, W1, rlD (rsOf es), rfl, List.Perm.refl _, .obj _ _ _, r⟩) n k))
end
end N
set_option Elab.async false
set_option linter.all false
set_option maxRecDepth 100000
set_option maxHeartbeats 1000000
namespace N
open PySem PySem.Spec PyProof.Rows L2
def rListDk : List V → Hp → VK → Prop := fun xs H Q => ∃ (a : Addr) (kvs : List (Key × V)), xs = [.ref a] ∧ Rd H a (.dK kvs) ∧ ∀ p, H p = none → Q (.ref p) (upd H p (.lst (kvs.map fun kv => kV kv.1)))
theorem cr_listDk {X : Cx} (hcalm : X.calm = true) : CallR X (.type "list") rListDk := call_listD hcalm
section
variable {F : FmKit} {T : Kx} {W : Om} {R : D → Om → Prop} {d : D}
theorem ca_listDk {ps : List (Key × D)} (hv : Vd W d ps) (r : R (.lst (ps.map fun p => kD p.1)) W) : Ca F T rListDk [d] W R := ca_one fun C H O di oc ow x k Q q => by
  obtain ⟨a, kvs, e, h1, h2, h3, h4⟩ := hv.at di ow k
  refine ⟨a, kvs, by rw [e], .inl h1, fun p hn => ?_⟩
  obtain ⟨n2, e2, s2⟩ := (Nx.refl (F := F) (T := T) di oc ow).newF (o := .lst (kvs.map fun kv => kV kv.1)) hn
  rw [e2]
  refine q _ W _ O _ r n2 ⟨p, _, rfl, upd_same, ?_⟩
  have := DenL.vls (F := F) (T := T) (H := upd H p (.lst (kvs.map fun kv => kV kv.1))) (kvs.map fun kv => kV kv.1)
  have e3 : (kvs.map fun kv => kV kv.1).map D.vl = ps.map fun p => kD p.1 := by
    have h5 := congrArg (List.map kD) h2
    rw [List.map_map, List.map_map] at h5
    rw [List.map_map]
    exact h5
  rwa [e3] at this
end
theorem sg_sumR : ∀ l : List Nat, ((l.map sg).map (·.length)).sum = l.length
  | [] => rfl
  | c :: l => by
    rw [List.map_cons, List.map_cons, List.sum_cons, sg_sumR l, List.length_cons]
    show 1 + l.length = _
    omega
theorem rep_anyR (n : Nat) : (List.replicate n false).any id = false := by
  rw [List.any_eq_false]
  intro x hx
  rw [List.eq_of_mem_replicate hx]
  simp
def S_getRu : FS := fun ds W post => ∃ (rs : List (Nat × Fm)) (x : Nat × Fm), ds = [rlD rs, .str (sg x.1)] ∧ W = [] ∧ rlOk rs ∧ x ∈ rs ∧ post (.fm x.2) []
/-- a field of rules -/
theorem ev_weakZ {F : FmKit} {T : Kx} {G : Gm} {W : Om} {R : D → Om → Prop} {te : TE} (h : Ev F T te G W fun d W' => R d W' ∨ ∃ l, d = .tupz l ∧ R (.tup l) W') : Ev F T te G W R := fun C H O σ w Q q =>
  h C H O σ w _ fun d W1 H1 O1 v hh n k => by
    rcases hh with r | ⟨l, rfl, r⟩
    · exact q d W1 H1 O1 v r n k
    · exact q (.tup l) W1 H1 O1 v r n (Den.weak k)
theorem ev_flR {F : FmKit} {T : Kx} {G : Gm} {W : Om} {R : D → Om → Prop} {ta : TE} {n : Str} (z : CZ T.K (T.cl 3) rlNames)
    (h : Ev F T ta G W fun d W1 => ∃ rs, d = rlD rs ∧ ((n = "rows" ∧ R (rowsR rs) W1) ∨ (n = "forms_by_mark" ∧ R (.dct ((rlPs rs).map (·.1)) ((rlPs rs).map (·.2))) W1))) : Ev F T (tFld T.K ta n) G W R :=
  ev_weakZ (ev_fld (h.imp fun d W1 hh => by
    obtain ⟨rs, rfl, h⟩ := hh
    rcases h with ⟨rfl, r⟩ | ⟨rfl, r⟩
    · exact ⟨3, rlNames, _, _, .obj _ _ _, z.cls, z.nos _ (by decide +kernel), rfl, .inr ⟨_, rfl, r⟩⟩
    · exact ⟨3, rlNames, _, _, .obj _ _ _, z.cls, z.nos _ (by decide +kernel), rfl, .inl r⟩))
end N
set_option Elab.async false
set_option linter.all false
set_option maxRecDepth 100000
set_option maxHeartbeats 4000000
namespace N
open PySem PySem.Spec PyProof.Rows L2
def rListX : List V → Hp → VK → Prop := fun vs H Q => ∃ x : Str, vs = [V.str x] ∧ x.length ≤ 5000 ∧ ∀ p, H p = none → Q (.ref p) (upd H p (.lst ((signs x).map V.str)))
theorem cr_listX {X : Cx} (hc : X.calm = true) : CallR X (.type "list") rListX := by
  intro pins s σ H vs us Q I r h
  obtain ⟨x, rfl, hx, q⟩ := h
  obtain ⟨u, rfl, t, rfl⟩ := vals1 r
  have h16 := sizeLine_eq
  refine call_list_str (I.ok.hd hc) x t (fun h' tk acc' c' k hS hI => ?_) (by show x.length ≤ _; omega)
  have hlen : ((signs x).map V.str).length ≤ sizeLine := by
    rw [List.length_map]
    unfold signs
    rw [List.length_map, Array.length_toList]
    show x.length ≤ _
    omega
  have hi : StrsAre acc'.toList (signs x) := by
    refine strsAre_of_get ?_ fun i v hv => ?_
    · unfold signs
      rw [Array.length_toList, hI.1, List.length_map, Array.length_toList]
    · rw [Array.getElem?_toList] at hv
      obtain ⟨c, u, hc, e⟩ := hI.2 i v hv
      refine ⟨⟨#[c]⟩, u, ?_, e⟩
      unfold signs
      rw [List.getElem?_map, Array.getElem?_toList, hc]
      rfl
  have hp : s.heap.objs.size ≤ s.heap.objs.size := Nat.le_refl _
  have hn : H s.heap.objs.size = none := I.hok.fresh hp
  have J : Inv X pins σ (upd H s.heap.objs.size (.lst ((signs x).map V.str))) { s with heap := h', toks := tk } :=
    I.call (ch := []) (Un.laid k hp hn) (I.hok.laid k hp ⟨hlen, acc'.toList, c', vals_of_strs hi, hS⟩) I.bare (fun _ z => nomatch z)
  exact ⟨.ref _, _, J, rfl, q _ hn⟩
section
variable {F : FmKit} {T : Kx} {G : Gm} {W W' : Om} {R : D → Om → Prop} {te : TE} {a : Addr} {od : OD} {d' : D}
theorem ca_listX {x : Str} (hx : x.length ≤ 5000) (r : R (.lst ((lets x).map fun c => .str (sg c))) W) : Ca F T rListX [.str x] W R := ca_one fun C H O di oc ow v k Q q => by
  have k : v = .str x := k
  refine ⟨x, by rw [k], hx, fun p hn => ?_⟩
  obtain ⟨n2, e2, s2⟩ := (Nx.refl (F := F) (T := T) di oc ow).newF (o := .lst ((signs x).map V.str)) hn
  rw [e2]
  refine q _ W _ O _ r n2 ⟨p, _, rfl, upd_same, ?_⟩
  have := den_strs (F := F) (T := T) (H := upd H p (.lst ((signs x).map V.str))) (signs x)
  rwa [show (signs x).map D.str = (lets x).map fun c => D.str (sg c) from by
    rw [show signs x = (lets x).map sg from rfl, List.map_map]
    rfl] at this
theorem den_last {H H' : Hp} {z z' : D} (e : Same H H') (hz : ∀ v, Den F T H z v → Den F T H' z' v) : ∀ {l : List D} {vs : List V}, DenL F T H (l ++ [z]) vs → DenL F T H' (l ++ [z']) vs
  | [], _, ⟨v, r, e1, k, h⟩ => ⟨v, r, e1, hz v k, h⟩
  | d :: l, _, ⟨v, r, e1, k, h⟩ => ⟨v, r, e1, k.mono e, den_last e hz h⟩
/-- a dict whose last value is an owned list: the list is frozen within it -/
theorem ev_fzDp {ks : List Key} {l : List D} (h : Ev F T te G W fun d W1 => ∃ W2, d = .dct ks (l ++ [.adr a]) ∧ W1.Perm ((a, od) :: W2) ∧ Fzd F a od d' ∧ R (.dct ks (l ++ [d'])) W2) : Ev F T te G W R := fun C H O σ w Q q =>
  h C H O σ w Q fun d W1 H1 O1 v ⟨W2, e, hp, z, r⟩ n k => by
    subst e
    obtain ⟨o, _, n2, e2, kd, sm⟩ := n.freeze hp z
    rw [e2]
    obtain ⟨b, kvs, e1, g1, g2, g3, g4⟩ := k
    exact q _ W2 _ _ v r n2 ⟨b, kvs, e1, sm _ _ g1, g2, g3, den_last sm (fun u hu => by
      have hu : u = .ref a := hu
      rw [hu]
      exact kd) g4⟩
end
end N
set_option Elab.async false
set_option linter.all false
set_option maxRecDepth 100000
set_option maxHeartbeats 4000000
namespace N
open PySem PySem.Spec PyProof.Rows L2
def rOwnIx (C : Addr) (sp : Sp) (E : XK) : R2 := fun x y H Q => ∃ a dx fs, x = .ref a ∧ H a = some (.ins C dx fs) ∧ sp [x, y] H Q E
section
variable {X : Cx} {k j : Nat} {C : Addr} {sp : Sp} {o e : Expr} {to te : TE}
structure Opi (P : Program) (w : World) (K : PySem.W.Frag) (mg : Str → Option Value) (base : Heap) (k : Nat) (C : Addr) (m : Str) (sp : Sp) : Prop where
  ex : ∃ (f : Addr) (fd : FuncData) (ps : List Str), Own2 K C m f ∧ PySem.W.fnIn K f = true ∧ FnOk P w K mg base CX0 k f fd ps sp ∧ Binds K fd ps []
theorem pe_ixOwn {pos : Pos} (o2 : Opi X.prog X.w X.K X.mg X.base k C "__getitem__" sp) (hr : Room j X.A) (hk : k + 1 ≤ j) (ha : PE X o to) (hb : PE X e te) (hsl : ∀ v u, subscripted e true v u = runValue (.builtin "lifetime.subscript" ⟨[v, u], []⟩) := by intro _ _; rfl) : PE X (.Subscript o e pos) (tOp (rOwnIx C sp E0) to te) := by
  obtain ⟨f, fd, ps, o2, hf, h, b⟩ := o2.ex
  refine ⟨fun pins s σ H Q I hh => ?_⟩
  refine Subscript_ (binT ha hb I hh fun v u s2 x y H2 I2 rx ry q => ?_)
  obtain ⟨a, dx, fs, rfl, ha, q⟩ := q
  cases rx
  obtain ⟨od, J⟩ := inst_of I2 ha
  obtain ⟨m, hF⟩ := I2.fr
  exact PySem.W.sub_K hF I2.ok.mod.kin J o2.at_ hf o2.fn (run_at h ((hr.mono hk).in1) rfl b pass0 I2 (vs := [V.ref a, y]) (.cons rfl (.cons ry .nil)) q) (hsl _ _)
def rSIdx : V → List V → Hp → VK → Prop := fun x xs H Q => ∃ (a b : Str) (i : Nat) (rest : List Nat), x = .str a ∧ xs = [.str b] ∧ PySem.Builtin.Str.occurrences a b 0 a.length 1 = i :: rest ∧ Q (.int i) H
theorem mt_sindex : MtR X "str.index" rSIdx := by
  intro pins s σ H x xs v us Q I rx rs h
  obtain ⟨a, b, i, rest, rfl, rfl, ho, h⟩ := h
  obtain ⟨t, rfl⟩ := rx
  cases rs with
  | cons r1 rs =>
    cases rs
    obtain ⟨u, rfl⟩ := r1
    exact PySem.SC.index ho ⟨.int i, H, I.tok _, ⟨_, rfl⟩, h⟩
theorem pe_sindex {apos pos : Pos} (ho : PE X o to) (he : PE X e te) (hs : starEach [e] X.env = [(false, eval e X.env)] := by rfl) (hbase : attributeBase o "index" X.env (eval o X.env) = eval o X.env := by rfl) (hline : (apos.endLine == pos.line) = true := by rfl) :
    PE X (.Call (.Attribute o "index" apos) [e] [] pos) (tM1 rSIdx to te) :=
  pe_m1 F.slot_str_index F.type_str_index mt_sindex ho he hs hbase hline
end
section
variable {F : FmKit} {P : Program} {w : World} {K : PySem.W.Frag} {mg : Str → Option Value} {base : Heap} {cl : Nat → Addr} {S : FS}
theorem opiD {m qual : Str} {C : Addr} {st : Stmt} {f : Addr} {fd : FuncData} {N ps : List Str} {k : Nat} (o : Own2 K C m f) (Fn : Fun K m qual st f fd) (Sc : FnScope N ps (defScope st)) (len : ∀ ds W post, S ds W post → ds.length = ps.length)
    (hb : ∀ (kV doc pm : Value) (an : Option Addr) (cdv ct : Value) (us : List Value), us.length = ps.length → bindArgs (PySem.W.fnOf m qual (defArgs st) (defBody st) (defScope st) .none kV doc pm an cdv ct) ⟨us, []⟩ = pure (ps.zip us))
    (body : ∀ (cdv : Value) (A : Around) (outer : List Env) (s : Shared) (H : Hp) (E : XK), Room k (A.deeper (envOfC qual (defScope st) s.heap.objs.size f cdv)) →
      ∃ t, PSs (cxOf CX0 P w K mg base N qual (defScope st) f cdv A outer s H E).nox (defBody st) t ∧ ∀ ds W post, S ds W post → Sw F ⟨K, cl⟩ t (startD N ds) W (E_ post)) : Opi P w K mg base (k + 1) C m (spN F ⟨K, cl⟩ S) := by
  obtain ⟨f2, fd2, ps2, o2, h, b⟩ := (opnD o Fn Sc len hb body).ex
  have e : f2 = f := by
    have h1 := o2.at_
    rw [o.at_] at h1
    cases h1
    rfl
  subst e
  refine ⟨f2, fd2, ps2, o2, ?_, h, b⟩
  obtain ⟨oc, od, _, _, _, _, _, _, osl, _, lk, _⟩ := Fn.ex
  unfold PySem.W.fnIn
  rw [lk]
end
section
variable {F : FmKit} {T : Kx} {C H H' O O' : Hp} {G : Gm} {W W' : Om} {R : D → Om → Prop} {S : FS} {to te : TE} {c : Nat}
theorem bo_ownIx {d e : D} {ns : List Str} {l : List D} (i1 : Inst F W d c ns l) (h : Hand S [d, e] W R) : Bo F T (rOwnIx (T.cl c) (spN F T S) E0) d e W R := fun C H O di oc ow x y hx hy Q q => by
  obtain ⟨a, dx, fs, ex, ha, _⟩ := i1.at di ow hx
  exact ⟨a, dx, fs, ex, ha, h.run di oc ow ⟨x, _, rfl, hx, .one hy⟩ q⟩
theorem ev_sindex (h : Ev F T to G W fun d W1 => ∃ a : Str, d = .str a ∧ Ev F T te G W1 fun d2 W2 => ∃ (b : Str) (i : Nat) (rest : List Nat), d2 = .str b ∧ PySem.Builtin.Str.occurrences a b 0 a.length 1 = i :: rest ∧ R (.int (i : Nat)) W2) : Ev F T (tM1 rSIdx to te) G W R := fun C H O σ w Q q =>
  h C H O σ w _ fun d W1 H1 O1 x ⟨a, e, h1⟩ n1 k1 => by
    subst e
    have k1 : x = .str a := k1
    refine ⟨⟨a, k1⟩, h1 C H1 O1 σ (w.step n1) _ fun d2 W2 H2 O2 y ⟨b, i, rest, e, ho, r⟩ n2 k2 => ?_⟩
    subst e
    have k2 : y = .str b := k2
    subst k1 k2
    exact ⟨a, b, i, rest, rfl, rfl, ho, q _ W2 H2 O2 _ r (n1.trans n2) rfl⟩
end
def rNeD2 (K : PySem.W.Frag) : R2 := fun x y H Q => ∃ (a b : Addr) (k1 k2 : Key) (v1 v2 u1 u2 : V) (d1 d2 e1 e2 : PyData), x = .ref a ∧ y = .ref b ∧ k1 ≠ k2 ∧ H a = some (.dK [(k1, v1), (k2, v2)]) ∧ H b = some (.dK [(k1, u1), (k2, u2)]) ∧
  Dp K H v1 d1 ∧ Dp K H v2 d2 ∧ Dp K H u1 e1 ∧ Dp K H u2 e2 ∧ SeqAt.shaped d1 = true ∧ SeqAt.shaped d2 = true ∧ SeqAt.shaped e1 = true ∧ SeqAt.shaped e2 = true ∧ Q (.bl (!(PyData.eqv d1 e1 && PyData.eqv d2 e2))) H
theorem op_ne_d2 {X : Cx} (hu1 : X.A.in1.units + 64 < cLine) : OpR X (compareOp .NotEq) (rNeD2 X.K) := by
  intro pins s σ H x y v u Q I rx ry h
  obtain ⟨a, b, k1, k2, v1, v2, u1, u2, d1, d2, e1, e2, rfl, rfl, hk, ea, eb, p1, p2, q1, q2, s1, s2, t1, t2, q⟩ := h
  obtain rfl : v = Value.ref a := rx
  obtain rfl : u = Value.ref b := ry
  obtain ⟨_, ya, va, ra, da⟩ := (show ObjOk X.prog X.w H s.heap a (.dK _) from I.hok a _ ea)
  obtain ⟨_, yb, vb, rb, db⟩ := (show ObjOk X.prog X.w H s.heap b (.dK _) from I.hok b _ eb)
  have hu : X.A.units < cLine := by have : X.A.units + 1 + 64 < cLine := hu1; omega
  cases ra with
  | @cons _ A1 _ _ ha1 ra =>
    cases ra with
    | @cons _ A2 _ _ ha2 ra =>
      cases ra
      cases rb with
      | @cons _ B1 _ _ hb1 rb =>
        cases rb with
        | @cons _ B2 _ _ hb2 rb =>
          cases rb
          obtain ⟨f1, f2⟩ := ha1
          obtain ⟨g1, g2⟩ := ha2
          obtain ⟨m1, m2⟩ := hb1
          obtain ⟨n1, n2⟩ := hb2
          obtain ⟨A1k, A1v⟩ := A1
          obtain ⟨A2k, A2v⟩ := A2
          obtain ⟨B1k, B1v⟩ := B1
          obtain ⟨B2k, B2v⟩ := B2
          dsimp only at f1 f2 g1 g2 m1 m2 n1 n2
          subst f1 g1 m1 n1
          obtain ⟨_, r1⟩ := Dp.reads I d1 v1 A1v p1 f2
          obtain ⟨_, r2⟩ := Dp.reads I d2 v2 A2v p2 g2
          obtain ⟨_, r3⟩ := Dp.reads I e1 u1 B1v q1 m2
          obtain ⟨_, r4⟩ := Dp.reads I e2 u2 B2v q2 n2
          have h1 : valueAt [(k1, B1v), (k2, B2v)] k1 = some B1v := by unfold valueAt; simp
          have h2 : valueAt [(k1, B1v), (k2, B2v)] k2 = some B2v := by unfold valueAt; simp [hk]
          refine PySem.W.keq_ne (knd := mixKind X.prog X.w) (r := PyData.eqv d1 e1 && (PyData.eqv d2 e2 && true)) ya yb da db hu (fun _ => .hit h1 (PySem.W.keq_at r1 r3 s1 t1 hu1) (.hit h2 (PySem.W.keq_at r2 r4 s2 t2 hu1) .nil)) ?_
          refine ⟨.bl _, H, I, ?_, q⟩
          simp
          rfl
section
variable {F : FmKit} {T : Kx} {C H H' O O' : Hp} {G : Gm} {W W' : Om} {R : D → Om → Prop} {E : En} {ts : TS} {wi : TI} {g : TG} {cell : Addr × OD}
theorem bo_neD2 {k1 k2 : Key} {x1 x2 y1 y2 : D} {d1 d2 e1 e2 : PyData} (hk : k1 ≠ k2) (p1 : x1.pd = some d1) (p2 : x2.pd = some d2) (q1 : y1.pd = some e1) (q2 : y2.pd = some e2) (s1 : SeqAt.shaped d1 = true) (s2 : SeqAt.shaped d2 = true) (t1 : SeqAt.shaped e1 = true) (t2 : SeqAt.shaped e2 = true)
    (r : R (.bl (!(PyData.eqv d1 e1 && PyData.eqv d2 e2))) W) : Bo F T (rNeD2 T.K) (.dp [(k1, x1), (k2, x2)]) (.dp [(k1, y1), (k2, y2)]) W R := fun C H O di oc ow x y hx hy Q q => by
  obtain ⟨a, kvs, ex, ha, f1, _, f3⟩ := hx
  obtain ⟨b, lvs, ey, hb, g1, _, g3⟩ := hy
  obtain ⟨⟨c1, v1⟩, kvs, rfl⟩ : ∃ z r, kvs = z :: r := by cases kvs with | nil => simp at f1 | cons z r => exact ⟨z, r, rfl⟩
  obtain ⟨⟨c2, v2⟩, kvs, rfl⟩ : ∃ z r, kvs = z :: r := by cases kvs with | nil => simp at f1 | cons z r => exact ⟨z, r, rfl⟩
  obtain ⟨⟨c3, u1⟩, lvs, rfl⟩ : ∃ z r, lvs = z :: r := by cases lvs with | nil => simp at g1 | cons z r => exact ⟨z, r, rfl⟩
  obtain ⟨⟨c4, u2⟩, lvs, rfl⟩ : ∃ z r, lvs = z :: r := by cases lvs with | nil => simp at g1 | cons z r => exact ⟨z, r, rfl⟩
  simp only [List.map_cons, List.map_nil, List.cons.injEq, List.map_eq_nil_iff] at f1 g1
  obtain ⟨rfl, rfl, rfl⟩ := f1
  obtain ⟨rfl, rfl, rfl⟩ := g1
  obtain ⟨_, _, m1, n1, _, _, m2, n2, _⟩ := f3
  obtain ⟨_, _, o1, r1, _, _, o2, r2, _⟩ := g3
  simp only [List.map_cons, List.map_nil, List.cons.injEq] at m1 o1
  obtain ⟨rfl, rfl⟩ := m1
  obtain ⟨rfl, rfl⟩ := o1
  simp only [List.cons.injEq] at m2 o2
  obtain ⟨rfl, _⟩ := m2
  obtain ⟨rfl, _⟩ := o2
  have sm := di.same
  exact ⟨a, b, _, _, v1, v2, u1, u2, d1, d2, e1, e2, ex, ey, hk, sm _ _ ha, sm _ _ hb, Den.dp _ _ _ (n1.mono sm) p1, Den.dp _ _ _ (n2.mono sm) p2, Den.dp _ _ _ (r1.mono sm) q1, Den.dp _ _ _ (r2.mono sm) q2, s1, s2, t1, t2, q _ W H O _ r (.refl di oc ow) rfl⟩
/-- for along a locked dict -/
theorem sw_forL (h : EvIC F T wi G W cell fun ds W1 => ∃ I : Nat → Gm → Om → Prop, I 0 G W1 ∧ (∀ i G' W', I i G' W' → cell ∈ W') ∧
      (∀ i d G' W', ds[i]? = some d → I i G' W' → Tg F T g d G' fun G2 => Sw F T ts G2 W' { E with nx := I (i + 1), ct := I (i + 1), bk := E.nx }) ∧ (∀ G' W', I ds.length G' W' → E.nx G' W')) :
    Sw F T (tFor wi g ts) G W E := fun C H O σ w B b =>
  h C H O σ w _ fun J ds W1 H1 O1 ⟨I, i0, ic, turn, fin⟩ n1 wk => by
    refine ⟨fun i m σ' X => m = ds.length - i ∧ i ≤ ds.length ∧ ∃ G' W' H' O', X = ov O' H' ∧ Nx F T C W' H1 H' O' ∧ Lo F T H' G' σ' ∧ I i G' W', ⟨ds.length, by simp, Nat.zero_le _, G, W1, H1, O1, rfl, ⟨Same.refl _, n1.dis, n1.oc, n1.own⟩, w.loc.mono n1.ext, i0⟩, ?_⟩
    rintro i m σ' X ⟨rfl, hi, G', W', H', O', rfl, n, l, ii⟩
    have k := wk i H' O' _ _ n.ext n.dis n.own (ic _ _ _ ii)
    by_cases hlt : i < ds.length
    · obtain ⟨k1, k2⟩ := k.1 ds[i] (by simp [hlt])
      refine .inr ⟨k1, fun σ2 X2 => ∃ G2 W2 H2 O2, X2 = ov O2 H2 ∧ Nx F T C W2 H1 H2 O2 ∧ Lo F T H2 G2 σ2 ∧ I (i + 1) G2 W2, fun σ2 X2 ⟨G2, W2, H2, O2, e, n2, l2, i2⟩ => ⟨ds.length - (i + 1), by omega, rfl, hlt, G2, W2, H2, O2, e, n2, l2, i2⟩, fun x X2 y => ?_⟩
      obtain ⟨H2, s2, d2, rfl, kx⟩ := k2 x X2 y
      refine turn i ds[i] G' W' (by simp [hlt]) ii H2 _ σ' x (l.mono s2) d2.same kx _ fun G3 σ3 sw l3 => ?_
      refine sw C H2 O' σ3 ⟨d2, n.oc, l3, n.own.mono s2⟩ _ ⟨fun G4 W4 H4 O4 σ4 a n4 l4 => ⟨G4, W4, H4, O4, rfl, ⟨(n.ext.trans s2).trans n4.ext, n4.dis, n4.oc, n4.own⟩, l4, a⟩, ?_, ?_, fun G4 W4 H4 O4 σ4 a n4 l4 => ⟨G4, W4, H4, O4, rfl, ⟨(n.ext.trans s2).trans n4.ext, n4.dis, n4.oc, n4.own⟩, l4, a⟩⟩
      · exact fun d W4 H4 O4 v a n4 k4 => b.rt d W4 H4 O4 v a ⟨((n1.ext.trans n.ext).trans s2).trans n4.ext, n4.dis, n4.oc, n4.own⟩ k4
      · exact fun G4 W4 H4 O4 σ4 a n4 l4 => b.nx G4 W4 H4 O4 σ4 a ⟨((n1.ext.trans n.ext).trans s2).trans n4.ext, n4.dis, n4.oc, n4.own⟩ l4
    · have e : i = ds.length := by omega
      subst e
      exact .inl ⟨k.2 rfl, b.nx G' W' H' O' σ' (fin G' W' ii) ⟨n1.ext.trans n.ext, n.dis, n.oc, n.own⟩ l⟩
/-- sorted of any short text -/
theorem ca_sortedXA {x : Str} (hx : x.length ≤ 5000) (r : ∀ ks : List Nat, ks.Perm (lets x) → R (.lst (ks.map fun c => .str (sg c))) W) : Ca F T rSortedX [.str x] W R := ca_one fun C H O di oc ow v k Q q => by
  have k : v = .str x := k
  refine ⟨x, by rw [k], hx, fun ys p hs hp hn => ?_⟩
  obtain ⟨n2, e2, s2⟩ := (Nx.refl (F := F) (T := T) di oc ow).newF (o := .lst (ys.map V.str)) hn
  rw [e2]
  have e1 : signs x = (lets x).map sg := rfl
  have hy : ys = (ys.map fun s => (lets s).headD 0).map sg := by
    rw [List.map_map]
    refine (List.map_congr_left fun s h => ?_).symm.trans (List.map_id _) |>.symm
    have h2 := hp.mem_iff.mp h
    rw [e1] at h2
    obtain ⟨c, _, rfl⟩ := List.mem_map.mp h2
    rfl
  have hp2 : (ys.map fun s => (lets s).headD 0).Perm (lets x) := by
    have := hp.map fun s => (lets s).headD 0
    rw [e1, List.map_map] at this
    have e3 : (lets x).map ((fun s => (lets s).headD 0) ∘ sg) = lets x := (List.map_congr_left fun c _ => rfl).trans (List.map_id _)
    rwa [e3] at this
  clear e2
  obtain ⟨ks, hk, hy2⟩ : ∃ ks : List Nat, ks.Perm (lets x) ∧ ys = ks.map sg := ⟨_, hp2, hy⟩
  subst hy2
  refine q _ W _ O _ (r ks hk) n2 ⟨p, _, rfl, upd_same, ?_⟩
  have := den_strs (F := F) (T := T) (H := upd H p (.lst ((ks.map sg).map V.str))) (ks.map sg)
  rwa [List.map_map (f := sg) (g := D.str)] at this
end
end N
set_option Elab.async false
set_option linter.all false
set_option maxRecDepth 100000
namespace N
open PySem PySem.Spec PyProof.Rows L2
namespace Fm
/-- ifs within one another -/
def dep : Fm → Nat
  | .imp a b => 1 + max a.dep b.dep
  | _ => 0
end Fm
end N
set_option Elab.async false
set_option linter.all false
set_option maxRecDepth 100000
set_option maxHeartbeats 1000000
namespace N
open PySem PySem.Spec PyProof.Rows L2
@[reducible] def deckW (a l : Addr) (cells : List Int) (s c : Int) : Om := [(a, .lst [.adr l, .int s, .int c]), (l, .lst (cells.map D.int))]
def DkB : Deck := fun a c W => ∃ (l : Addr) (cells : List Int) (s n : Int), W = deckW a l cells s n ∧ cells.length ≤ 64 ∧ 0 ≤ n ∧ n ≤ c
theorem DkB_mono {a : Addr} {c c' : Int} {W : Om} (h : DkB a c W) (hc : c ≤ c') : DkB a c' W := let ⟨l, cells, s, n, h1, h2, h3, h4⟩ := h; ⟨l, cells, s, n, h1, h2, h3, by omega⟩
end N
set_option Elab.async false
set_option linter.all false
set_option maxRecDepth 100000
set_option maxHeartbeats 1000000
namespace N
open PySem PySem.Spec PyProof.Rows L2
namespace Fm
/-- a tree over letters outside and letters within -/
def Frm : Fm → Str → Str → Prop
  | .at c, p, _ => c ∈ lets p
  | .no, _, _ => True
  | .imp a b, p, q => Frm a p q ∧ Frm b p q
  | .all a, p, q => Frm a (p ++ q ++ q) ""
theorem frm_bare : ∀ {f : Fm}, Frm f "" "" → f.bare
  | .at c, h => by
    have h : c ∈ lets ("" : Str) := h
    rw [show lets ("" : Str) = [] from rfl] at h
    cases h
  | .no, _ => trivial
  | .imp a b, h => ⟨frm_bare h.1, frm_bare h.2⟩
  | .all a, h => frm_bare (f := a) h
theorem few_many : ∀ f : Fm, few f.many f
  | .at c => (few.at c).up (Nat.zero_le _)
  | .no => few.no.up (Nat.zero_le _)
  | .imp a b => ((few_many a).imp (few_many b)).up (by simp only [many]; omega)
  | .all a => (few_many a).all.up (by simp only [many]; omega)
theorem sz_many : ∀ f : Fm, f.sz ≤ 5 * f.many
  | .at c => by simp [sz, many]
  | .no => by simp [sz, many]
  | .imp a b => by have := sz_many a; have := sz_many b; simp only [sz, many]; omega
  | .all a => by have := sz_many a; simp only [sz, many]; omega
theorem ht_many : ∀ f : Fm, f.ht < f.many
  | .at c => by simp [ht, many]
  | .no => by simp [ht, many]
  | .imp a b => by have := ht_many a; have := ht_many b; simp only [ht, many]; omega
  | .all a => by have := ht_many a; simp only [ht, many]; omega
/-- towers of alls -/
def belo : Nat → Fm
  | 0 => .no
  | n + 1 => .all (belo n)
theorem belo_few : ∀ n, few n (belo n)
  | 0 => few.no
  | n + 1 => (belo_few n).all
theorem belo_sz : ∀ n, (belo n).sz = 4 * n + 2
  | 0 => rfl
  | n + 1 => by simp only [belo, sz, belo_sz n]; omega
theorem belo_ht : ∀ n, (belo n).ht = n
  | 0 => rfl
  | n + 1 => by simp only [belo, ht, belo_ht n]; omega
theorem belo_bare : ∀ n, (belo n).bare
  | 0 => trivial
  | n + 1 => belo_bare n
/-- small formulas without atoms -/
structure H (n s t : Nat) (f : Fm) : Prop where
  bare : f.bare
  few : few n f
  sz : f.sz ≤ s
  ht : f.ht ≤ t
theorem H.up {n s t n' s' t' : Nat} {f : Fm} (h : H n s t f) (h1 : n ≤ n') (h2 : s ≤ s') (h3 : t ≤ t') : H n' s' t' f := ⟨h.bare, h.few.up h1, Nat.le_trans h.sz h2, Nat.le_trans h.ht h3⟩
theorem H.belo (n : Nat) : H n (4 * n + 2) n (belo n) := ⟨belo_bare n, belo_few n, Nat.le_of_eq (belo_sz n), Nat.le_of_eq (belo_ht n)⟩
theorem H.no : H 0 2 0 .no := ⟨trivial, few.no, Nat.le_refl _, Nat.le_refl _⟩
theorem H.imp {n s t n' s' t' : Nat} {f g : Fm} (h : H n s t f) (k : H n' s' t' g) : H (n + n') (5 + s + s') (1 + max t t') (.imp f g) := ⟨⟨h.bare, k.bare⟩, h.few.imp k.few, by have := h.sz; have := k.sz; simp only [Fm.sz]; omega, by have := h.ht; have := k.ht; simp only [Fm.ht]; omega⟩
theorem H.all {n s t : Nat} {f : Fm} (h : H n s t f) : H (n + 1) (4 + s) (1 + t) (.all f) := ⟨h.bare, h.few.all, by have := h.sz; simp only [Fm.sz]; omega, by have := h.ht; simp only [Fm.ht]; omega⟩
theorem H.neg {n s t : Nat} {f : Fm} (h : H n s t f) : H n (7 + s) (1 + t) (neg f) := (h.imp H.no).up (by omega) (by omega) (by omega)
abbrev H26 (f : Fm) : Prop := H 40 1000 50 f
theorem H.okF {f : Fm} (h : H26 f) : f.okF := ⟨bare_ok h.bare, by have := h.sz; omega, by have := h.few.len (bare_ok h.bare); omega⟩
theorem H.tree {f : Fm} (h : Frm f "" "") (hm : f.many ≤ 40) : H26 f := ⟨frm_bare h, (few_many f).up hm, by have := sz_many f; omega, by have := ht_many f; omega⟩
end Fm
def S_atom : FS := fun ds W post => ∃ c : Nat, ds = [.str (sg c)] ∧ W = [] ∧ (Fm.at c).okL ∧ post (.fm (.at c)) []
def S_treeB (j : Nat) : FS := fun ds W post => ∃ (a : Addr) (c : Int) (p q : Str) (n : Nat), ds = [.adr a, .str p, .str q, natD n] ∧ DkB a c W ∧ 1 ≤ n ∧ n < j ∧ j ≤ 100 ∧ p.length + 2 * q.length ≤ 1000 ∧ c + 4 * (n : Nat) < 2 ^ 59 ∧
  ∀ (f : Fm) (W' : Om), f.Frm p q → f.many ≤ n → DkB a (c + 4 * (n : Nat)) W' → post f.tr W'
end N
set_option Elab.async false
set_option linter.all false
set_option maxRecDepth 100000
set_option maxHeartbeats 1000000
namespace N
open PySem PySem.Spec PyProof.Rows L2
open C8 (Cal Met Mak InsC pe_c pe_mt pe_mt0 pe_mk)
abbrev tx (f : Fm) : List Nat := lets f.spell
theorem tx_imp (a b : Fm) : tx (.imp a b) = 40 :: (tx a ++ (32 :: 62 :: 32 :: (tx b ++ [41]))) := by
  show lets ((("(" ++ a.spell ++ " > " ++ b.spell ++ ")" : Str))) = _
  simp only [lets, TL.tl_append]
  show (([40] ++ tx a) ++ [32, 62, 32] ++ tx b) ++ [41] = _
  simp
theorem tx_all (a : Fm) : tx (.all a) = 97 :: 108 :: 108 :: 32 :: tx a := by
  show lets ("all " ++ a.spell) = _
  simp only [lets, TL.tl_append]
  rfl
inductive ItP where
  | al | l (b : Fm) | r (a : Fm)
def wt : Fm → Nat
  | .at _ => 1
  | .no => 1
  | .imp a b => 3 + wt a + wt b
  | .all a => 2 + wt a
def wk : List ItP → Nat
  | [] => 0
  | .al :: K => 1 + wk K
  | .l b :: K => 2 + wt b + wk K
  | .r _ :: K => 1 + wk K
theorem spell_len : ∀ f : Fm, f.spell.length = f.sz
  | .at _ => rfl
  | .no => rfl
  | .imp a b => by
    have h := congrArg List.length (tx_imp a b)
    have ea := spell_len a
    have eb := spell_len b
    rw [show a.spell.length = (tx a).length from str_len _] at ea
    rw [show b.spell.length = (tx b).length from str_len _] at eb
    rw [show (Fm.imp a b).spell.length = (tx (.imp a b)).length from str_len _, h]
    simp only [List.length_cons, List.length_append, List.length_nil, ea, eb]
    show _ = 5 + a.sz + b.sz
    omega
  | .all a => by
    have h := congrArg List.length (tx_all a)
    have ea := spell_len a
    rw [show a.spell.length = (tx a).length from str_len _] at ea
    rw [show (Fm.all a).spell.length = (tx (.all a)).length from str_len _, h]
    simp only [List.length_cons, ea]
    show _ = 4 + a.sz
    omega
end N
set_option Elab.async false
set_option linter.all false
set_option maxRecDepth 100000
set_option maxHeartbeats 1000000
set_option Elab.async false
set_option linter.all false
set_option maxRecDepth 100000
set_option maxHeartbeats 1000000
namespace N
open PySem PySem.Spec PyProof.Rows L2
@[reducible] def webD (w : Wb) : D := .dp [(Sum.inr "below", rowsD w.below), (Sum.inr "stand", .lst (w.atoms.map .str))]
def S_webB : FS := fun ds W post => ∃ (a : Addr) (c : Int) (p : Str) (n : Nat), ds = [.adr a, .str p, natD n] ∧ DkB a c W ∧ 0 < n ∧ n ≤ 40 ∧ letters p ∧ (lets p).Pairwise (· < ·) ∧ (lets p).length ≤ 52 ∧ c + 10000 < 2 ^ 59 ∧
  ∀ (w : Wb) (W' : Om), w.ok → w.below.length ≤ n → (∀ s ∈ w.atoms, ∀ q ∈ lets s, q ∈ lets p) → DkB a (c + 10000) W' → post (webD w) W'
def S_net : FS := fun ds W post => ∃ w : Wb, ds = [webD w] ∧ W = [] ∧ w.ok ∧ post w.d []
namespace Fm
theorem mem_belo : ∀ {k : Nat} {g : Fm}, g ∈ (belo k).alls → ∃ i, i < k ∧ g = belo (i + 1)
  | 0, g, h => by simp [belo, alls] at h
  | k + 1, g, h => by
    rcases mem_merge.mp h with h | h
    · obtain ⟨i, hi, e⟩ := mem_belo h
      exact ⟨i, by omega, e⟩
    · rw [List.mem_singleton] at h
      exact ⟨k, by omega, h⟩
/-- no other all-parts than the first sixty-one towers -/
structure Q (s d : Nat) (f : Fm) : Prop where
  bare : f.bare
  alls : ∀ g ∈ f.alls, ∃ i, i < 61 ∧ g = belo (i + 1)
  sz : f.sz ≤ s
  dep : f.dep ≤ d
theorem Q.belo {k : Nat} (h : k ≤ 61) : Q (4 * k + 2) 0 (belo k) := ⟨belo_bare k, fun g hg => let ⟨i, hi, e⟩ := mem_belo hg; ⟨i, by omega, e⟩, Nat.le_of_eq (belo_sz k), by cases k <;> exact Nat.le_refl _⟩
theorem Q.no : Q 2 0 .no := ⟨trivial, fun g h => by simp [Fm.alls] at h, Nat.le_refl _, Nat.le_refl _⟩
theorem Q.imp {s d s' d' : Nat} {f g : Fm} (h : Q s d f) (k : Q s' d' g) : Q (5 + s + s') (1 + max d d') (.imp f g) :=
  ⟨⟨h.bare, k.bare⟩, fun x hx => (mem_merge.mp hx).elim (h.alls x) (k.alls x), by have := h.sz; have := k.sz; simp only [Fm.sz]; omega, by have := h.dep; have := k.dep; simp only [Fm.dep]; omega⟩
theorem Q.up {s d s' d' : Nat} {f : Fm} (h : Q s d f) (hs : s ≤ s') (hd : d ≤ d') : Q s' d' f := ⟨h.bare, h.alls, Nat.le_trans h.sz hs, Nat.le_trans h.dep hd⟩
theorem Q.neg {s d : Nat} {f : Fm} (h : Q s d f) : Q (7 + s) (1 + d) (neg f) := (h.imp Q.no).up (by omega) (by omega)
theorem Q.conj {s d s' d' : Nat} {f g : Fm} (h : Q s d f) (k : Q s' d' g) : Q (20 + s + s') (3 + max d d') (conj f g) := ((h.imp k.neg).neg).up (by omega) (by omega)
theorem Q.few {s d : Nat} {f : Fm} (h : Q s d f) : f.alls.length ≤ 61 := by
  have h1 := len_le (nodup_asc (alls_sub (bare_ok h.bare)).2) (m := (List.range 61).map fun i => Fm.belo (i + 1)) fun x hx => by
    obtain ⟨i, hi, e⟩ := h.alls x hx
    exact List.mem_map.mpr ⟨i, by simpa using hi, e.symm⟩
  simpa using h1
theorem Q.okF {s d : Nat} {f : Fm} (h : Q s d f) (hs : s ≤ 1000000) : f.okF := ⟨bare_ok h.bare, Nat.le_trans h.sz hs, by have := h.few; omega⟩
/-- just at one height -/
def one (h : Nat) : Fm := conj (belo (h + 1)) (neg (belo h))
theorem Q.one {h : Nat} (hh : h ≤ 60) : Q (40 + 8 * h) 4 (one h) := ((Q.belo (by omega)).conj (Q.belo (by omega)).neg).up (by omega) (by omega)
end Fm
end N
set_option Elab.async false
set_option linter.all false
set_option maxRecDepth 100000
set_option maxHeartbeats 1000000
namespace N
open PySem PySem.Spec PyProof.Rows L2
theorem Bis.strip {u w : Wb} {R : Nat → Nat → Prop} (hu : u.ok) (hw : w.ok) (B : Bis u w R) (z : Str) : Bis (u.strip z) (w.strip z) R := by
  refine ⟨B.dom, fun i p r => ?_, B.forth, B.back⟩
  obtain ⟨h1, h2⟩ := B.dom i p r
  show (u.atoms.map (stripS z)).getD i "" = (w.atoms.map (stripS z)).getD p ""
  rw [getD_of (l := u.atoms.map (stripS z)) (x := stripS z (u.atoms.getD i "")) (by rw [List.getElem?_map, some_of (d := ("" : Str)) (by rw [hu.len]; exact h1)]; rfl),
    getD_of (l := w.atoms.map (stripS z)) (x := stripS z (w.atoms.getD p "")) (by rw [List.getElem?_map, some_of (d := ("" : Str)) (by rw [hw.len]; exact h2)]; rfl), B.at_ i p r]
theorem lets_eq {s t : Str} (e : lets s = lets t) : s = t := by
  cases s with
  | mk a =>
    cases t with
    | mk b =>
      have e : a.toList = b.toList := e
      exact congrArg Str.mk (Array.ext' e)
end N
set_option Elab.async false
set_option linter.all false
set_option maxRecDepth 100000
set_option maxHeartbeats 1000000
namespace N
open PySem PySem.Spec PyProof.Rows L2
theorem wb_ext {a b : Wb} (h1 : a.below = b.below) (h2 : a.atoms = b.atoms) : a = b := by
  cases a
  cases b
  exact congr (congrArg Wb.mk h1) h2
theorem list_at {l m : List Str} {n : Nat} (hl : l.length = n) (hm : m.length = n) (h : ∀ i, i < n → l.getD i "" = m.getD i "") : l = m := by
  refine List.ext_getElem? fun i => ?_
  by_cases hi : i < n
  · rw [some_of (d := ("" : Str)) (by omega), some_of (d := ("" : Str)) (l := m) (by omega), h i hi]
  · rw [List.getElem?_eq_none (by omega), List.getElem?_eq_none (by omega)]
theorem strip_at {w : Wb} {z : Str} {i : Nat} (hi : i < w.atoms.length) : (w.strip z).atoms.getD i "" = stripS z (w.atoms.getD i "") := by
  refine getD_of ?_
  show (w.atoms.map (stripS z))[i]? = _
  rw [List.getElem?_map, some_of (d := ("" : Str)) hi]
  rfl
theorem mem_strip {z s : Str} {c : Nat} : c ∈ lets (stripS z s) ↔ c ∈ lets s ∧ c ∉ lets z := by
  show c ∈ List.filter _ _ ↔ _
  rw [List.mem_filter]
  simp
theorem strip_below (w : Wb) (z : Str) : (w.strip z).below = w.below := rfl
/-- the marks taken out again -/
theorem rul_strip {w : Wb} (hw : w.ok) {rs : List (Nat × Fm)} (hr : rlOk rs) : (w.rul rs).strip (marksS rs) = w.strip (marksS rs) := by
  have hs := strip_ok hw (marksS rs)
  have ok := rul_ok hr hw
  have oks := strip_ok ok (marksS rs)
  refine wb_ext (rul_below rs w) (list_at (n := w.below.length) (by rw [oks.len, strip_below, rul_below]) (by rw [hs.len, strip_below]) fun i hi => ?_)
  have h1 : i < (w.rul rs).atoms.length := by rw [ok.len, rul_below]; exact hi
  have h2 : i < w.atoms.length := by rw [hw.len]; exact hi
  have h3 : i < (w.strip (marksS rs)).atoms.length := by rw [hs.len]; exact hi
  have m1 : ((w.rul rs).strip (marksS rs)).atoms.getD i "" ∈ ((w.rul rs).strip (marksS rs)).atoms := List.mem_of_getElem? (some_of (by rw [oks.len, strip_below, rul_below]; exact hi))
  have m2 : (w.strip (marksS rs)).atoms.getD i "" ∈ (w.strip (marksS rs)).atoms := List.mem_of_getElem? (some_of h3)
  refine lets_eq (ascN_ext (oks.lets _ m1).2 (hs.lets _ m2).2 fun c => ?_)
  rw [strip_at h1, mem_strip, strip_at h2, mem_strip]
  constructor
  · rintro ⟨a, b⟩
    have := (turns_free hr.ltrs hs (i := i) hi b w.below.length).mp a
    rw [strip_at h2, mem_strip] at this
    exact this
  · rintro ⟨a, b⟩
    refine ⟨(turns_free hr.ltrs hs (i := i) hi b w.below.length).mpr ?_, b⟩
    rw [strip_at h2, mem_strip]
    exact ⟨a, b⟩
def partW (w : Wb) (rs : List (Nat × Fm)) (i : Nat) : Wb := ⟨w.below, (w.rul rs).atoms.take i ++ (w.strip (marksS rs)).atoms.drop i⟩
section
variable {w : Wb} (hw : w.ok) {rs : List (Nat × Fm)} (hr : rlOk rs)
include hw hr
theorem rul_len : (w.rul rs).atoms.length = w.below.length := by rw [(rul_ok hr hw).len, rul_below]
omit hr in
theorem str_len2 : (w.strip (marksS rs)).atoms.length = w.below.length := (strip_ok hw _).len
theorem part_len {i : Nat} (hi : i ≤ w.below.length) : (partW w rs i).atoms.length = w.below.length := by
  show ((_ : List Str) ++ _).length = _
  rw [List.length_append, List.length_take, List.length_drop, rul_len hw hr, str_len2 hw]
  omega
theorem part_ok {i : Nat} (hi : i ≤ w.below.length) : (partW w rs i).ok := by
  refine ⟨hw.rows, hw.some_, part_len hw hr hi, fun s hs => ?_⟩
  rcases List.mem_append.mp (show s ∈ _ ++ _ from hs) with h | h
  · exact (rul_ok hr hw).lets s (List.mem_of_mem_take h)
  · exact (strip_ok hw _).lets s (List.mem_of_mem_drop h)
theorem part_low {i a : Nat} (hi : i ≤ w.below.length) (ha : a < i) : (partW w rs i).atoms.getD a "" = (w.rul rs).atoms.getD a "" := by
  show ((_ : List Str) ++ _).getD a "" = _
  rw [List.getD_eq_getElem?_getD, List.getElem?_append_left (by rw [List.length_take, rul_len hw hr]; omega), List.getElem?_take, if_pos ha, ← List.getD_eq_getElem?_getD]
theorem part_at {i : Nat} (hi : i < w.below.length) : (partW w rs i).atoms.getD i "" = (w.strip (marksS rs)).atoms.getD i "" := by
  show ((_ : List Str) ++ _).getD i "" = _
  rw [List.getD_eq_getElem?_getD, List.getElem?_append_right (by rw [List.length_take, rul_len hw hr]; omega), List.length_take, rul_len hw hr, List.getElem?_drop, List.getD_eq_getElem?_getD]
  congr 2
  omega
theorem part_zero : partW w rs 0 = w.strip (marksS rs) := wb_ext rfl rfl
theorem part_all : partW w rs w.below.length = w.rul rs := by
  refine wb_ext (rul_below rs w).symm ?_
  show (_ : List Str) ++ _ = _
  rw [List.take_of_length_le (by rw [rul_len hw hr]; exact Nat.le_refl _), List.drop_eq_nil_of_le (by rw [str_len2 hw]; exact Nat.le_refl _), List.append_nil]
theorem part_vals {i : Nat} (hi : i < w.below.length) {x : Nat × Fm} (hx : x ∈ rs) : ((partW w rs i).vals x.2).getD i false = ((w.rul rs).vals x.2).getD i false := by
  have ok := part_ok hw hr (Nat.le_of_lt hi)
  have okr := rul_ok hr hw
  have hb := rul_below rs w
  have B : Bis (partW w rs i) (w.rul rs) fun a b => a = b ∧ a < i := by
    refine ⟨fun a b ⟨e, h⟩ => ⟨by show a < w.below.length; omega, by rw [hb]; omega⟩, fun a b ⟨e, h⟩ => by rw [← e]; exact part_low hw hr (Nat.le_of_lt hi) h, fun a b ⟨e, h⟩ x hx => ?_, fun a b ⟨e, h⟩ x hx => ?_⟩
    · have := bens_low ok x hx
      exact ⟨x, by rw [hb, ← e]; exact hx, rfl, by omega⟩
    · have := bens_low okr x hx
      exact ⟨x, by rw [hb, ← e] at hx; exact hx, rfl, by omega⟩
  refine vals_out ok okr hi (by rw [hb]; exact hi) (fun a ha => ?_) (fun b hb2 => ?_) x.2 fun c hc => ?_
  · have := bens_low ok a ha
    exact ⟨a, by rw [hb]; exact ha, fun g => B.vals ok okr g a a ⟨rfl, this⟩⟩
  · have := bens_low okr b hb2
    exact ⟨b, by rw [hb] at hb2; exact hb2, fun g => B.vals ok okr g b b ⟨rfl, this⟩⟩
  · rw [part_at hw hr hi]
    exact (turns_free hr.ltrs (strip_ok hw _) (i := i) hi (hr.bare x hx c hc) w.below.length).symm
/-- what the law puts at the point i -/
def putR (w : Wb) (rs : List (Nat × Fm)) (i : Nat) : List Nat := (rs.filter fun p => ((partW w rs i).vals p.2).getD i false).map (·.1)
theorem part_step {i : Nat} (hi : i < w.below.length) : (⟨(ascN (lets ((w.strip (marksS rs)).atoms.getD i "") ++ putR w rs i)).toArray⟩ : Str) = (w.rul rs).atoms.getD i "" := by
  have h1 : i < (w.rul rs).atoms.length := by rw [rul_len hw hr]; exact hi
  have h2 : i < w.atoms.length := by rw [hw.len]; exact hi
  conv => rhs; rw [← rul_fix hw hr, mark_at h1]
  unfold markS
  congr 2
  refine ascN_ext (asc_ascN _) (asc_ascN _) fun c => ?_
  have h3 := lets_markS (vs := valsT (w.rul rs) rs) (k := i) (s := (w.rul rs).atoms.getD i "") (c := c)
  have h3 : c ∈ ascN (keepL ((valsT (w.rul rs) rs).map (·.1)) ((w.rul rs).atoms.getD i "") ++ putL (valsT (w.rul rs) rs) i) ↔ _ := h3
  rw [h3, valsT_keys, mem_ascN, List.mem_append, strip_at h2, mem_strip]
  refine or_congr ?_ ?_
  · constructor
    · rintro ⟨a, b⟩
      refine ⟨(turns_free hr.ltrs (strip_ok hw _) (i := i) hi b w.below.length).mpr ?_, b⟩
      rw [strip_at h2, mem_strip]
      exact ⟨a, b⟩
    · rintro ⟨a, b⟩
      have := (turns_free hr.ltrs (strip_ok hw _) (i := i) hi b w.below.length).mp a
      rw [strip_at h2, mem_strip] at this
      exact this
  · unfold putR valsT
    constructor
    · intro h
      obtain ⟨p, hp, rfl⟩ := List.mem_map.mp h
      obtain ⟨g1, g2⟩ := List.mem_filter.mp hp
      exact ⟨_, List.mem_map.mpr ⟨p, g1, rfl⟩, rfl, (part_vals hw hr hi g1).symm.trans g2⟩
    · rintro ⟨y, hy, rfl, h⟩
      obtain ⟨p, hp, rfl⟩ := List.mem_map.mp hy
      exact List.mem_map.mpr ⟨p, List.mem_filter.mpr ⟨hp, (part_vals hw hr hi hp).trans h⟩, rfl⟩
theorem part_set {i : Nat} (hi : i < w.below.length) : (partW w rs i).atoms.set i ((w.rul rs).atoms.getD i "") = (partW w rs (i + 1)).atoms := by
  have l1 := part_len hw hr (Nat.le_of_lt hi)
  have l2 := part_len hw hr (Nat.succ_le_of_lt hi)
  refine list_at (n := w.below.length) (by rw [List.length_set]; exact l1) l2 fun j hj => ?_
  rw [List.getD_eq_getElem?_getD, List.getElem?_set]
  by_cases e : i = j
  · subst e
    rw [if_pos rfl, if_pos (by omega), part_low hw hr hi (Nat.lt_succ_self _)]
    rfl
  · rw [if_neg e, ← List.getD_eq_getElem?_getD]
    by_cases h : j < i
    · rw [part_low hw hr (Nat.le_of_lt hi) h, part_low hw hr hi (by omega)]
    · show ((_ : List Str) ++ _).getD j "" = ((_ : List Str) ++ _).getD j ""
      rw [List.getD_eq_getElem?_getD, List.getElem?_append_right (by rw [List.length_take, rul_len hw hr]; omega), List.getD_eq_getElem?_getD, List.getElem?_append_right (by rw [List.length_take, rul_len hw hr]; omega), List.length_take, List.length_take, rul_len hw hr, List.getElem?_drop, List.getElem?_drop]
      congr 2
      omega
theorem put_nd {i : Nat} (hi : i < w.below.length) : (lets ((w.strip (marksS rs)).atoms.getD i "") ++ putR w rs i).Nodup ∧ (lets ((w.strip (marksS rs)).atoms.getD i "") ++ putR w rs i).length ≤ 52 := by
  have hs := strip_ok hw (marksS rs)
  have h2 : i < w.atoms.length := by rw [hw.len]; exact hi
  have m2 : (w.strip (marksS rs)).atoms.getD i "" ∈ (w.strip (marksS rs)).atoms := List.mem_of_getElem? (some_of (by rw [hs.len]; exact hi))
  have hnd : (rs.map (·.1)).Nodup := hr.asc.imp (S := (· ≠ ·)) fun h => Nat.ne_of_lt h
  have hsub : ∀ x ∈ putR w rs i, x ∈ rs.map (·.1) := fun x hx => by
    obtain ⟨p, hp, rfl⟩ := List.mem_map.mp hx
    exact List.mem_map.mpr ⟨p, (List.mem_filter.mp hp).1, rfl⟩
  have nd : (lets ((w.strip (marksS rs)).atoms.getD i "") ++ putR w rs i).Nodup := by
    rw [List.nodup_append]
    refine ⟨asc_nd (hs.lets _ m2).2, hnd.sublist (List.filter_sublist.map _), fun a ha b hb e => ?_⟩
    subst e
    rw [strip_at h2, mem_strip] at ha
    exact ha.2 (hsub a hb)
  refine ⟨nd, ltrs_few nd fun c hc => ?_⟩
  rcases List.mem_append.mp hc with h | h
  · exact (hs.lets _ m2).1 c h
  · exact hr.ltrs c (hsub c h)
end
theorem inst_rl {F : FmKit} {W : Om} (rs : List (Nat × Fm)) : Inst F W (rlD rs) 3 rlNames [rowsZ rs, .dct ((rlPs rs).map (·.1)) ((rlPs rs).map (·.2))] := .obj _ _ _
abbrev frmD (rs : List (Nat × Fm)) : List (Key × D) := tabL Fm.tr rs
@[reducible] def undB (rs : List (List Nat)) : D := .lst ((bensF rs).map fun b => .lst (b.map natD))
def S_underB : FS := fun ds W post => ∃ w : Wb, ds = [webD w] ∧ W = [] ∧ w.ok ∧ post (undB w.below) []
@[reducible] def wrlD (w : Wb) (m : D) : D := .dp [(Sum.inr "below", rowsD w.below), (Sum.inr "stand", m)]
def S_atB (j : Nat) : FS := fun ds W post => ∃ (w : Wb) (m : D) (k : Nat) (f : Fm), ds = [wrlD w m, undB w.below, natD k, f.tr] ∧ Vl W m (w.atoms.map .str) ∧ w.ok ∧ k < w.below.length ∧ f.ht < j ∧ j ≤ 100 ∧ post (.bl ((w.vals f).getD k false)) W
def S_markedB : FS := fun ds W post => ∃ (q : Addr) (w : Wb) (rs : List (Nat × Fm)), ds = [webD w, .adr q] ∧ W = [(q, .dp (frmD rs))] ∧ w.ok ∧ rlOk rs ∧ (∀ p ∈ rs, p.2.ht < 70) ∧ post (webD (w.rul rs)) [(q, .dp (frmD rs))]
end N
set_option Elab.async false
set_option linter.all false
set_option maxRecDepth 100000
set_option maxHeartbeats 1000000
namespace N
open PySem PySem.Spec PyProof.Rows L2
theorem lets_cat (x y : Str) : lets (x ++ y) = lets x ++ lets y := by
  show (x ++ y).cps.toList = _
  rw [str_app]
theorem frm_ok : ∀ {f : Fm} {p q : Str}, f.Frm p q → letters p → letters q → f.okL
  | .at c, p, q, h, hp, hq => hp c h
  | .no, p, q, h, hp, hq => trivial
  | .imp a b, p, q, h, hp, hq => ⟨frm_ok h.1 hp hq, frm_ok h.2 hp hq⟩
  | .all a, p, q, h, hp, hq => frm_ok (f := a) h (fun c hc => by
      rw [lets_cat, lets_cat, List.mem_append, List.mem_append] at hc
      rcases hc with (h | h) | h
      · exact hp c h
      · exact hq c h
      · exact hq c h) (fun c hc => by cases hc)
theorem frm_outer : ∀ {f : Fm} {p q : Str}, f.Frm p q → ∀ c ∈ lets f.outer, c ∈ lets p
  | .at c, p, q, h, d, hd => by
    have hd : d ∈ [c] := hd
    rw [List.mem_singleton] at hd
    exact hd ▸ h
  | .no, p, q, h, d, hd => by cases hd
  | .imp a b, p, q, h, d, hd => (mem_unite.mp hd).elim (frm_outer h.1 d) (frm_outer h.2 d)
  | .all a, p, q, h, d, hd => by cases hd
theorem frm_okF {f : Fm} {p q : Str} (h : f.Frm p q) (hp : letters p) (hq : letters q) (hm : f.many ≤ 60) : f.okF :=
  have ok := frm_ok h hp hq
  ⟨ok, by have := Fm.sz_many f; omega, by have := (Fm.few_many f).len ok; omega⟩
/-- forms drawn for marks -/
structure Drn (p s : Str) (n : Nat) (rs : List (Nat × Fm)) : Prop where
  keys : rs.map (·.1) = lets s
  frm : ∀ x ∈ rs, x.2.Frm p s ∧ x.2.many ≤ n
theorem caps_ltrs {s : Str} (hc : ∀ c ∈ lets s, 65 ≤ c ∧ c ≤ 90) : letters s := fun c h => .inl (hc c h)
theorem drn_ok {p s : Str} {n : Nat} {rs : List (Nat × Fm)} (h : Drn p s n rs) (hp : letters p) (hps : ∀ c ∈ lets p, c ∉ lets s) (hn : n ≤ 60) (h1 : (lets s).Pairwise (· < ·)) (h2 : (lets s).length ≤ 4) (h3 : lets s ≠ []) (h4 : ∀ c ∈ lets s, 65 ≤ c ∧ c ≤ 90) : rlOk rs ∧ ∀ x ∈ rs, x.2.ht < 70 := by
  have hm : ∀ x ∈ rs, x.1 ∈ lets s := fun x hx => h.keys ▸ List.mem_map.mpr ⟨x, hx, rfl⟩
  refine ⟨⟨fun e => h3 (by rw [← h.keys, e]; rfl), by rw [← h.keys, List.length_map] at h2; exact h2, by rw [h.keys]; exact h1, fun x hx => h4 _ (hm x hx), fun x hx => frm_okF (h.frm x hx).1 hp (caps_ltrs h4) (by have := (h.frm x hx).2; omega), fun x hx c hc => by rw [h.keys]; exact hps c (frm_outer (h.frm x hx).1 c hc)⟩, fun x hx => ?_⟩
  have := (h.frm x hx).2
  have := Fm.ht_many x.2
  omega
theorem shaped_rowR (r : List Nat) : SeqAt.shaped (rowP r) = true := by
  unfold SeqAt.shaped
  rw [canLay_row, Bool.true_and, decide_eq_true_eq]
  unfold rowP
  rw [PyData.depth]
  have : PyData.depthAll (r.map fun k => PyData.int (k : Nat)) = 0 := by
    induction r with
    | nil => rfl
    | cons n ns ih =>
      rw [List.map_cons, PyData.depthAll, ih]
      rfl
  rw [this]
  decide
end N
set_option Elab.async false
set_option linter.all false
set_option maxRecDepth 100000
set_option maxHeartbeats 1000000
namespace N
open PySem PySem.Spec PyProof.Rows L2
/-- the points at which a letter stands -/
def pts (u : Wb) (c : Nat) : List Nat := (List.range u.below.length).filter fun i => decide (c ∈ lets (u.atoms.getD i ""))
theorem rkeys_nd {rs : List (Nat × Fm)} (hr : rlOk rs) : (rs.map (·.1)).Nodup := hr.asc.imp (S := (· ≠ ·)) fun h => Nat.ne_of_lt h
theorem key_one {x y : Nat × Fm} (e : x.1 = y.1) : ∀ {rs : List (Nat × Fm)}, (rs.map (·.1)).Nodup → x ∈ rs → y ∈ rs → x = y
  | [], _, hx, _ => by cases hx
  | z :: rs, nd, hx, hy => by
    rw [List.map_cons, List.nodup_cons] at nd
    rcases List.mem_cons.mp hx with e1 | hx
    · rcases List.mem_cons.mp hy with e2 | hy
      · rw [e1, e2]
      · exact absurd (List.mem_map.mpr ⟨y, hy, by rw [← e, e1]⟩) nd.1
    · rcases List.mem_cons.mp hy with e2 | hy
      · exact absurd (List.mem_map.mpr ⟨x, hx, by rw [e, e2]⟩) nd.1
      · exact key_one e nd.2 hx hy
section
variable {w : Wb} (hw : w.ok) {rs : List (Nat × Fm)} (hr : rlOk rs)
include hw hr
theorem rul_mark_at {x : Nat × Fm} (hx : x ∈ rs) {i : Nat} (hi : i < w.below.length) : x.1 ∈ lets ((w.rul rs).atoms.getD i "") ↔ ((w.rul rs).vals x.2).getD i false = true := by
  have h1 : i < (w.rul rs).atoms.length := by rw [rul_len hw hr]; exact hi
  have hm : x.1 ∈ rs.map (·.1) := List.mem_map.mpr ⟨x, hx, rfl⟩
  conv => lhs; rw [← rul_fix hw hr, mark_at h1, lets_markS, valsT_keys]
  constructor
  · rintro (⟨_, h⟩ | ⟨y, hy, e, h⟩)
    · exact absurd hm h
    · obtain ⟨z, hz, rfl⟩ := List.mem_map.mp hy
      obtain rfl := key_one e.symm (rkeys_nd hr) hx hz
      exact h
  · intro h
    exact .inr ⟨_, List.mem_map.mpr ⟨x, hx, rfl⟩, rfl, h⟩
theorem rul_pts {x : Nat × Fm} (hx : x ∈ rs) : whr (w.rul rs) x.2 = pts (w.rul rs) x.1 := by
  unfold whr pts
  refine List.filter_congr fun i hi => ?_
  rw [List.mem_range, rul_below] at hi
  rw [Bool.eq_iff_iff, decide_eq_true_iff]
  exact (rul_mark_at hw hr hx hi).symm
/-- marks stand one way -/
theorem rul_uniq {u : Wb} (hu : u.ok) (eb : u.below = w.below) (es : u.strip (marksS rs) = w.strip (marksS rs)) (h : ∀ x ∈ rs, whr u x.2 = pts u x.1) : u = w.rul rs := by
  have hv := rul_ok hr hw
  have hvb := rul_below rs w
  have lu : u.atoms.length = w.below.length := by rw [hu.len, eb]
  have lv := rul_len hw hr
  have free : ∀ i, i < w.below.length → ∀ c, c ∉ rs.map (·.1) → (c ∈ lets (u.atoms.getD i "") ↔ c ∈ lets ((w.rul rs).atoms.getD i "")) := fun i hi c hc => by
    have e1 := strip_at (w := u) (z := marksS rs) (i := i) (by omega)
    have e2 := strip_at (w := w.rul rs) (z := marksS rs) (i := i) (by omega)
    rw [es, ← rul_strip hw hr, e2] at e1
    have h1 := mem_strip (z := marksS rs) (s := u.atoms.getD i "") (c := c)
    have h2 := mem_strip (z := marksS rs) (s := (w.rul rs).atoms.getD i "") (c := c)
    rw [← e1] at h1
    have hc2 : c ∉ lets (marksS rs) := hc
    constructor
    · intro h
      exact (h2.mp (h1.mpr ⟨h, hc2⟩)).1
    · intro h
      exact (h1.mp (h2.mpr ⟨h, hc2⟩)).1
  have main : ∀ k i, i < k → i < w.below.length → u.atoms.getD i "" = (w.rul rs).atoms.getD i "" := by
    intro k
    induction k with
    | zero => intro i h; exact absurd h (Nat.not_lt_zero _)
    | succ k ih =>
      intro i hk hi
      have B : Bis u (w.rul rs) fun a b => a = b ∧ a < i := by
        refine ⟨fun a b ⟨e, h⟩ => ⟨by rw [eb]; omega, by rw [hvb]; omega⟩, fun a b ⟨e, h⟩ => by rw [← e]; exact ih a (by omega) (by omega), fun a b ⟨e, h⟩ x hx => ?_, fun a b ⟨e, h⟩ x hx => ?_⟩
        · have := bens_low hu x hx
          exact ⟨x, by rw [hvb, ← eb, ← e]; exact hx, rfl, by omega⟩
        · have := bens_low hv x hx
          exact ⟨x, by rw [eb, ← hvb, e]; exact hx, rfl, by omega⟩
      have hval : ∀ x ∈ rs, (u.vals x.2).getD i false = ((w.rul rs).vals x.2).getD i false := fun x hx => by
        refine vals_out hu hv (by rw [eb]; exact hi) (by rw [hvb]; exact hi) (fun a ha => ?_) (fun b hb => ?_) x.2 fun c hc => free i hi c (hr.bare x hx c hc)
        · have := bens_low hu a ha
          exact ⟨a, by rw [hvb, ← eb]; exact ha, fun g => B.vals hu hv g a a ⟨rfl, this⟩⟩
        · have := bens_low hv b hb
          exact ⟨b, by rw [eb, ← hvb]; exact hb, fun g => B.vals hu hv g b b ⟨rfl, this⟩⟩
      have m1 : u.atoms.getD i "" ∈ u.atoms := List.mem_of_getElem? (some_of (by omega))
      have m2 : (w.rul rs).atoms.getD i "" ∈ (w.rul rs).atoms := List.mem_of_getElem? (some_of (by omega))
      refine lets_eq (ascN_ext (hu.lets _ m1).2 (hv.lets _ m2).2 fun c => ?_)
      by_cases hc : c ∈ rs.map (·.1)
      · obtain ⟨x, hx, rfl⟩ := List.mem_map.mp hc
        rw [rul_mark_at hw hr hx hi, ← hval x hx]
        have e := h x hx
        have h1 : i ∈ pts u x.1 ↔ i ∈ whr u x.2 := by rw [e]
        unfold pts whr at h1
        rw [List.mem_filter, List.mem_filter, List.mem_range, decide_eq_true_iff] at h1
        have hi2 : i < u.below.length := by rw [eb]; exact hi
        constructor
        · intro g
          exact (h1.mp ⟨hi2, g⟩).2
        · intro g
          exact (h1.mpr ⟨hi2, g⟩).2
      · exact free i hi c hc
  exact wb_ext (by rw [hvb]; exact eb) (list_at lu lv fun i hi => main (i + 1) i (Nat.lt_succ_self _) hi)
end
/-- from below: what holds at all points beneath, row by row -/
theorem all_row {w : Wb} (hw : w.ok) {f : Fm} {i : Nat} (hi : i < w.below.length) : (w.vals (.all f)).getD i false = (w.below.getD i []).all fun j => (w.vals f).getD j false && (w.vals (.all f)).getD j false := by
  have hrow : w.below[i]? = some (w.below.getD i []) := some_of hi
  have hlow : ∀ j ∈ w.below.getD i [], j < i := (hw.rows.asc i _ hrow).2
  rw [vals_at hw hi, Bool.eq_iff_iff, List.all_eq_true, List.all_eq_true]
  constructor
  · intro h j hj
    have hj2 := hlow j hj
    rw [vals_at hw (by omega : j < w.below.length), Bool.and_eq_true, List.all_eq_true]
    exact ⟨h j ((bens_mem hw.rows hi).mpr (.inl hj)), fun x hx => h x ((bens_mem hw.rows hi).mpr (.inr ⟨j, hj, hx⟩))⟩
  · intro h x hx
    rcases (bens_mem hw.rows hi).mp hx with hj | ⟨j, hj, hxj⟩
    · have := h x hj
      rw [Bool.and_eq_true] at this
      exact this.1
    · have hj2 := hlow j hj
      have := h j hj
      rw [vals_at hw (by omega : j < w.below.length), Bool.and_eq_true, List.all_eq_true] at this
      exact this.2 x hxj
end N
namespace N
open PySem PySem.Spec PyProof.Rows L2
theorem eqv_rows2 : ∀ A B : List Nat, PyData.eqv (rowP A) (rowP B) = decide (A = B) := by
  have h : ∀ A B : List Nat, PyData.eqvAll (A.map fun k => .int (k : Nat)) (B.map fun k => .int (k : Nat)) = decide (A = B) := by
    intro A
    induction A with
    | nil =>
      intro B
      cases B with
      | nil => rfl
      | cons b B => simp [PyData.eqvAll]
    | cons a A ih =>
      intro B
      cases B with
      | nil => simp [PyData.eqvAll]
      | cons b B =>
        rw [List.map_cons, List.map_cons, PyData.eqvAll, ih B, PyData.eqv, Bool.eq_iff_iff]
        simp
        omega
  intro A B
  unfold rowP
  rw [PyData.eqv]
  exact h A B
def pools19 : List Str := ["P", "PQ", "PQ", "AR", "PQR", "ABQZ"]
theorem pool19 : ∀ z ∈ pools19.map D.str, ∃ s : Str, z = .str s ∧ (lets s).Pairwise (· < ·) ∧ (lets s).length ≤ 4 ∧ lets s ≠ [] ∧ (∀ c ∈ lets s, 65 ≤ c ∧ c ≤ 90) ∧ 77 ∉ lets s := by
  intro z hz
  obtain ⟨s, hs, rfl⟩ := List.mem_map.mp hz
  refine ⟨s, rfl, ?_⟩
  simp only [pools19, List.mem_cons, List.not_mem_nil, or_false] at hs
  rcases hs with rfl | rfl | rfl | rfl | rfl | rfl <;> decide +kernel
def S_points19 : FS := fun ds W post => ∃ (w : Wb) (c : Nat), ds = [webD w, .str (sg c)] ∧ W = [] ∧ w.ok ∧ post (rowD (pts w c)) []
def S_given19 (Dk : Deck) : FS := fun ds W post => ∃ (a : Addr) (c : Int), ds = [.adr a] ∧ Dk a c W ∧ c + 1000 < 2 ^ 59 ∧ ∀ (q : Addr) (rs : List (Nat × Fm)) (W' : Om), rlOk rs → (∀ p ∈ rs, p.2.ht < 70) → Dk a (c + 1000) W' → post (.adr q) ((q, .dp (frmD rs)) :: W')
def S_moved19 (Dk : Deck) : FS := fun ds W post => ∃ (a : Addr) (c : Int) (w : Wb) (rs : List (Nat × Fm)), ds = [.adr a, webD w, .lst ((rs.map (·.1)).map fun c => .str (sg c))] ∧ Dk a c W ∧ w.ok ∧ rlOk rs ∧ c + 100 < 2 ^ 59 ∧
  ∀ (u : Wb) (W' : Om), u.ok → u.below = w.below → u.strip (marksS rs) = w.strip (marksS rs) → Dk a (c + 100) W' → post (webD u) W'
def toldL (u : Wb) (rs : List (Nat × Fm)) : List (Nat × Fm) := rs.filter fun x => decide (whr u x.2 = pts u x.1)
def S_told19 : FS := fun ds W post => ∃ (q : Addr) (u : Wb) (rs : List (Nat × Fm)), ds = [rlD rs, .adr q, u.d, webD u] ∧ W = [(q, .dp (frmD rs))] ∧ u.ok ∧ rlOk rs ∧ post (.lst ((toldL u rs).map fun x => .str (sg x.1))) [(q, .dp (frmD rs))]
def S_values19 (j : Nat) : FS := fun ds W post => ∃ (w : Wb) (f : Fm), ds = [rowsD w.below, atomsD w.atoms, f.tr] ∧ W = [] ∧ w.ok ∧ f.ht < j ∧ j ≤ 100 ∧ post (.lst ((w.vals f).map .bl)) []
def S_great19 (Dk : Deck) : FS := fun ds W post => ∃ (a q : Addr) (c : Int) (rs : List (Nat × Fm)) (Wd : Om), ds = [.adr a, .adr q] ∧ W = (q, .dp (frmD rs)) :: Wd ∧ Dk a c Wd ∧ rlOk rs ∧ (∀ p ∈ rs, p.2.ht < 70) ∧ c + 100 < 2 ^ 59 ∧ ∀ W', Dk a (c + 100) W' → post (.bl true) W'
def S_right19 (Dk : Deck) : FS := fun ds W post => ∃ (a q : Addr) (c : Int) (rs : List (Nat × Fm)) (Wd : Om), ds = [.adr a, .adr q] ∧ W = (q, .dp (frmD rs)) :: Wd ∧ Dk a c Wd ∧ rlOk rs ∧ (∀ p ∈ rs, p.2.ht < 70) ∧ c + 20000 < 2 ^ 59 ∧ ∀ W', Dk a (c + 20000) W' → post (.bl true) W'
/-- all marks are told: the marks stand -/
theorem told_all {u : Wb} {rs : List (Nat × Fm)} : toldL u rs = rs ↔ ∀ x ∈ rs, whr u x.2 = pts u x.1 := by
  unfold toldL
  rw [List.filter_eq_self]
  exact forall_congr' fun x => forall_congr' fun _ => by rw [decide_eq_true_iff]
/-- letters put in or taken out -/
theorem lets_strip {z s t : Str} (h : ∀ c, c ∉ lets z → (c ∈ lets s ↔ c ∈ lets t)) (hs : (lets s).Pairwise (· < ·)) (ht : (lets t).Pairwise (· < ·)) : stripS z s = stripS z t := by
  refine lets_eq (ascN_ext (hs.sublist List.filter_sublist) (ht.sublist List.filter_sublist) fun c => ?_)
  show c ∈ lets (stripS z s) ↔ c ∈ lets (stripS z t)
  rw [mem_strip, mem_strip]
  exact ⟨fun ⟨a, b⟩ => ⟨(h c b).mp a, b⟩, fun ⟨a, b⟩ => ⟨(h c b).mpr a, b⟩⟩
end N
namespace N
open PySem PySem.Spec PyProof.Rows L2
/-- the rows of the web of forty points -/
def rowG (r k : Nat) : List Nat := (List.range (k - (k - r))).map fun t => (k - r) + t
def rowsG (r n : Nat) : List (List Nat) := (List.range n).map (rowG r)
theorem rowG_lt {r k : Nat} : ∀ x ∈ rowG r k, x < k := fun x hx => by
  obtain ⟨t, ht, rfl⟩ := List.mem_map.mp hx
  have := List.mem_range.mp ht
  omega
theorem rowG_asc (r k : Nat) : (rowG r k).Pairwise (· < ·) := by
  unfold rowG
  rw [List.pairwise_map]
  exact List.pairwise_lt_range.imp fun h => by omega
theorem rowsG_ok {r n : Nat} (h : n ≤ 63) : rowsOk (rowsG r n) := by
  refine ⟨fun i w hw => ?_, by simp [rowsG]; omega⟩
  unfold rowsG at hw
  rw [List.getElem?_map] at hw
  obtain ⟨k, hk, rfl⟩ := Option.map_eq_some_iff.mp hw
  obtain ⟨h1, rfl⟩ := List.getElem?_eq_some_iff.mp hk
  rw [List.getElem_range] at *
  exact ⟨rowG_asc r _, rowG_lt⟩
theorem idx19 : ∀ c ∈ ([65, 77, 80, 97, 98] : List Nat), ∃ (i : Nat) (rest : List Nat), PySem.Builtin.Str.occurrences ("AMPab" : Str) (sg c) 0 ("AMPab" : Str).length 1 = i :: rest ∧ i < 5 := by
  intro c hc
  simp only [List.mem_cons, List.not_mem_nil, or_false] at hc
  rcases hc with rfl | rfl | rfl | rfl | rfl
  · exact ⟨0, [], by decide +kernel, by decide⟩
  · exact ⟨1, [], by decide +kernel, by decide⟩
  · exact ⟨2, [], by decide +kernel, by decide⟩
  · exact ⟨3, [], by decide +kernel, by decide⟩
  · exact ⟨4, [], by decide +kernel, by decide⟩
end N
namespace N
open PySem PySem.Spec PyProof.Rows L2
theorem shaped_bls19 (l : List Bool) : SeqAt.shaped (blsP l) = true := by
  unfold SeqAt.shaped blsP
  rw [Bool.and_eq_true, decide_eq_true_eq]
  have hd : ∀ A : List Bool, PyData.depthAll (A.map .bool) = 0 := fun A => by
    induction A with
    | nil => rfl
    | cons a A ih => rw [List.map_cons, PyData.depthAll, ih]; rfl
  refine ⟨?_, by rw [PyData.depth, hd]; decide⟩
  rw [PyData.canLay0]
  exact canLay_allD fun d hd => by
    obtain ⟨s, hs, rfl⟩ := List.mem_map.mp hd
    rfl
theorem eqv_bls19 (l : List Bool) : PyData.eqv (blsP l) (blsP l) = true := SeqAt.eqv_refl _ (SeqAt.canLay_of_shaped (shaped_bls19 l))
theorem eqv_strsR {A : List Str} (h : ∀ s ∈ A, letters s) : PyData.eqv (.list (A.map .str)) (.list (A.map .str)) = true := SeqAt.eqv_refl _ (SeqAt.canLay_of_shaped (shaped_strs h))
/-- the letters that are no marks -/
theorem free_eq {w : Wb} (hw : w.ok) {rs : List (Nat × Fm)} (hr : rlOk rs) {i : Nat} (hi : i < w.below.length) : (lets (w.atoms.getD i "")).filter (fun c => !decide (c ∈ rs.map (·.1))) = (lets ((w.rul rs).atoms.getD i "")).filter (fun c => !decide (c ∈ rs.map (·.1))) := by
  have e1 := strip_at (w := w) (z := marksS rs) (i := i) (by rw [hw.len]; exact hi)
  have e2 := strip_at (w := w.rul rs) (z := marksS rs) (i := i) (by rw [rul_len hw hr]; exact hi)
  rw [rul_strip hw hr, e1] at e2
  exact congrArg lets e2
theorem vals_marks {w : Wb} (hw : w.ok) {rs : List (Nat × Fm)} (hr : rlOk rs) {x : Nat × Fm} (hx : x ∈ rs) : (w.rul rs).vals x.2 = (w.rul rs).atoms.map fun s => decide (x.1 ∈ lets s) := by
  have hm := rul_ok hr hw
  have lm := rul_len hw hr
  refine vals_ext (n := w.below.length) (by rw [Wb.vals_len hm.len, rul_below]) (by rw [List.length_map, lm]) fun i hi => ?_
  rw [getD_of (l := (w.rul rs).atoms.map fun s => decide (x.1 ∈ lets s)) (x := decide (x.1 ∈ lets ((w.rul rs).atoms.getD i ""))) (by rw [List.getElem?_map, some_of (d := ("" : Str)) (by omega)]; rfl), Bool.eq_iff_iff, ← rul_mark_at hw hr hx hi, decide_eq_true_iff]
end N
namespace N
open PySem PySem.Spec PyProof.Rows L2
theorem rul_rul {w : Wb} (hw : w.ok) {rs : List (Nat × Fm)} (hr : rlOk rs) : (w.rul rs).rul rs = w.rul rs := by
  show turnsW rs (w.rul rs).below.length ((w.rul rs).strip (marksS rs)) = _
  rw [rul_strip hw hr, rul_below]
  rfl
theorem told_len {u : Wb} {rs : List (Nat × Fm)} (h : ((toldL u rs).map fun x => sg x.1) = rs.map fun x => sg x.1) : toldL u rs = rs := by
  have := congrArg List.length h
  rw [List.length_map, List.length_map] at this
  exact (List.filter_sublist (p := fun x : Nat × Fm => decide (whr u x.2 = pts u x.1)) (l := rs)).eq_of_length this
theorem sg_letters {rs : List (Nat × Fm)} (hr : rlOk rs) : ∀ s ∈ rs.map (fun x => sg x.1), letters s := fun s hs => by
  obtain ⟨x, hx, rfl⟩ := List.mem_map.mp hs
  intro c hc
  have hc : c ∈ [x.1] := hc
  rw [List.mem_singleton] at hc
  exact hc ▸ .inl (hr.cap x hx)
theorem spell_low19 : ∀ {f : Fm}, f.okL → ∀ c ∈ lets f.spell, c < 128
  | .at d, h, c, hc => by
    have : c = d := List.mem_singleton.mp hc
    subst this
    have h : (65 ≤ c ∧ c ≤ 90) ∨ (97 ≤ c ∧ c ≤ 122) := h
    omega
  | .no, _, c, hc => by
    have : c ∈ [110, 111] := hc
    simp at this
    omega
  | .imp a b, h, c, hc => by
    have hc : c ∈ Fm.cs (.imp a b) := hc
    rw [Fm.cs_imp] at hc
    simp only [List.mem_cons, List.mem_append, List.not_mem_nil, or_false] at hc
    rcases hc with h1 | h1 | h1 | h1 | h1 | h1 | h1
    · omega
    · exact spell_low19 h.1 c h1
    · omega
    · omega
    · omega
    · exact spell_low19 h.2 c h1
    · omega
  | .all a, h, c, hc => by
    have hc : c ∈ Fm.cs (.all a) := hc
    rw [Fm.cs_all] at hc
    simp only [List.mem_cons] at hc
    rcases hc with h1 | h1 | h1 | h1 | h1
    · omega
    · omega
    · omega
    · omega
    · exact spell_low19 (f := a) h c h1
def rowsP19 (rs : List (Nat × Fm)) : PyData := .list (rs.map fun x => .tuple [.str (sg x.1), .str x.2.spell])
@[reducible] def rowsD19 (rs : List (Nat × Fm)) : D := .lst (rs.map fun x => .tup [.str (sg x.1), .str x.2.spell])
theorem rows_pd19 (rs : List (Nat × Fm)) : (rowsD19 rs).pd = some (rowsP19 rs) := pd_lst (pdL_map _ _ (fun _ => pd_tup (pdL_cons rfl (pdL_cons rfl rfl))) rs)
theorem rows_shaped19 {rs : List (Nat × Fm)} (hr : rlOk rs) : SeqAt.shaped (rowsP19 rs) = true := by
  have e : ∀ rs : List (Nat × Fm), PyData.depthAll (rs.map fun x => PyData.tuple [.str (sg x.1), .str x.2.spell]) ≤ 1 := fun rs => by
    induction rs with
    | nil => exact Nat.zero_le _
    | cons n ns ih =>
      rw [List.map_cons, PyData.depthAll]
      have : (PyData.tuple [.str (sg n.1), .str n.2.spell]).depth = 1 := rfl
      omega
  unfold SeqAt.shaped rowsP19
  rw [Bool.and_eq_true, decide_eq_true_eq, PyData.canLay0, PyData.depth]
  refine ⟨canLay_allD fun d hd => ?_, by have := e rs; omega⟩
  obtain ⟨x, hx, rfl⟩ := List.mem_map.mp hd
  have h1 : PyData.strOk (sg x.1) = true := strOk_low fun c hc => by
    have hc : c ∈ [x.1] := hc
    rw [List.mem_singleton] at hc
    have := hr.cap x hx
    omega
  have h2 : PyData.strOk x.2.spell = true := strOk_low fun c hc => by
    have := spell_low19 (hr.form x hx).ok c hc
    omega
  simp [PyData.canLay0, PyData.canLayAll0, h1, h2]
end N
set_option Elab.async false
set_option linter.all false
set_option maxRecDepth 100000
set_option maxHeartbeats 4000000
namespace L2
open PySem PySem.Spec PyProof.Rows
end L2
set_option Elab.async false
set_option linter.all false
set_option maxRecDepth 100000
set_option maxHeartbeats 4000000
set_option Elab.async false
set_option linter.all false
set_option maxRecDepth 100000
set_option maxHeartbeats 2000000
namespace N
open PySem PySem.Spec PyProof.Rows L2
theorem isStrG_ok {K : Fg} {x z : Str} (h : isStrG K x z = true) : ∃ t, PySem.W.nsIn K mainGlobals x = some (some (.str z t)) := by
  unfold isStrG at h
  split at h
  · rename_i y t e
    have := of_decide_eq_true h
    subst this
    exact ⟨t, e⟩
  · cases h
theorem isIntIn_ok {K : Fg} {d : Addr} {x : Str} {i : Int} (h : isIntIn K d x i = true) : ∃ t, PySem.W.nsIn K d x = some (some (.int i t)) := by
  unfold isIntIn at h
  split at h
  · rename_i y t e
    have := of_decide_eq_true h
    subst this
    exact ⟨t, e⟩
  · cases h
theorem keysLit {P : Params} : ∀ {l : List DictEntry} {ks : List Str}, (l.all fun e => match e.key with
    | .str _ _ => true
    | _ => false) = true → (l.map fun e => match e.key with
    | .str x _ => (x, e.hash)
    | _ => (("" : Str), 0)) = ks.map (fun k => (k, PyData.keyHash P k)) → PySem.W.KeysLit P l
  | [], _, _, _ => trivial
  | e :: l, [], _, h => by cases h
  | e :: l, k :: ks, ha, h => by
    rw [List.all_cons, Bool.and_eq_true] at ha
    rw [List.map_cons, List.map_cons] at h
    obtain ⟨h1, h2⟩ := List.cons.inj h
    refine ⟨?_, keysLit ha.2 h2⟩
    have ha1 := ha.1
    split at ha1
    · rename_i x t ek
      rw [ek] at h1
      have h1 : (x, e.hash) = (k, PyData.keyHash P k) := h1
      obtain ⟨h3, h4⟩ := Prod.mk.inj h1
      subst h3
      exact ⟨x, t, ek, h4⟩
    · cases ha1
theorem isDic_ok {K : Fg} {d : Addr} {P : Params} {ks : List Str} (h : isDic K d = true) (hk : keysY K d = ks.map fun k => (k, PyData.keyHash P k)) : ∃ es n, K.lookup d = some ⟨.type "dict", none, .dict es n, #[]⟩ ∧ PySem.W.KeysLit P es.toList := by
  unfold isDic at h
  unfold keysY at hk
  split at h
  · rename_i c es n sl e
    rw [e] at hk
    simp only [Bool.and_eq_true, decide_eq_true_eq] at h
    obtain ⟨h1, h2, h3⟩ := h
    subst h1
    obtain ⟨sl⟩ := sl
    have h2 : sl = [] := List.isEmpty_iff.mp h2
    subst h2
    exact ⟨es, n, e, keysLit h3 hk⟩
  · cases h
theorem isNon_ok {v : Value} (h : isNon v = true) : v = .none := by
  cases v <;> first | rfl | cases h
theorem DefT.get {K : Fg} {d : DefT} (e : fnY K (d.at_ K) = d.val) (c : d.ok K = true) : ∃ oc od osl dV kV doc pm an cdv ct, K.lookup (d.at_ K) = some ⟨oc, od, .func (PySem.W.fnOf d.name d.qual (defArgs d.st) (defBody d.st) (defScope d.st) dV kV doc pm an cdv ct), osl⟩ ∧ PySem.W.codeIn K cdv d.qual = true ∧
    (match d.dn with
    | false => isNon dV
    | true => nonSeq K dV) = true ∧ PySem.W.keepIn K (.ref (d.at_ K)) = true := by
  obtain ⟨kp, c2⟩ := Bool.and_eq_true_iff.mp c
  unfold fnY at e
  cases q : K.lookup (d.at_ K) with
  | none =>
    rw [q] at c2
    cases c2
  | some o =>
    obtain ⟨oc, od, dt, osl⟩ := o
    rw [q] at c2 e
    cases dt with
    | func fd =>
      obtain ⟨n1, n2, n3, n4, n5, n6, n7, n8, n9, n10, n11, n12, n13, n14, n15⟩ := fd
      have e2 : (some (n1, n2, n3, n4, n5, n6, n7, n15) : He.FnW) = some (d.name, d.qual, defArgs d.st, .stmts (defBody d.st), defScope d.st, mainGlobals, [], builtinsNs) := e
      simp only [Option.some.injEq, Prod.mk.injEq] at e2
      obtain ⟨h1, h2, h3, h4, h5, h6, h7, h8⟩ := e2
      obtain ⟨c3, c4⟩ := Bool.and_eq_true_iff.mp (show (PySem.W.codeIn K n13 d.qual && (match d.dn with
    | false => isNon n8
    | true => nonSeq K n8)) = true from c2)
      subst h1 h2 h3 h4 h5 h6 h7 h8
      exact ⟨oc, od, osl, n8, n9, n10, n11, n12, n13, n14, rfl, c3, c4, kp⟩
    | _ => cases c2
theorem DefT.fun_ {K : Fg} {d : DefT} (e : fnY K (d.at_ K) = d.val) (c : d.ok K = true) (hd : d.dn = false) : ∃ fd, Fun K d.name d.qual d.st (d.at_ K) fd := by
  obtain ⟨oc, od, osl, dV, kV, doc, pm, an, cdv, ct, l, cc, dn, kp⟩ := d.get e c
  rw [hd] at dn
  obtain rfl := isNon_ok dn
  exact ⟨_, fun_mk l cc kp⟩
section
variable {ts : List (Fg → Bool)} {fn : List DefT} {dk : List DicT} {w : World} {K : Fg}
theorem SaysT.test (c : SaysT ts fn dk w K) (i : Nat) {t : Fg → Bool} (h : ts[i]? = some t := by rfl) : t K = true := by
  have c1 := (Bool.and_eq_true_iff.mp (show ((ts.all fun t => t K) && (fn.all fun d => d.ok K)) = true from congrArg (fun z : AlT => z.1) c)).1
  exact List.all_eq_true.mp c1 t (List.mem_of_getElem? h)
theorem SaysT.def_ (c : SaysT ts fn dk w K) (i : Nat) {d : DefT} (h : fn[i]? = some d) : fnY K (d.at_ K) = d.val ∧ d.ok K = true := by
  have c2 := (Bool.and_eq_true_iff.mp (show ((ts.all fun t => t K) && (fn.all fun d => d.ok K)) = true from congrArg (fun z : AlT => z.1) c)).2
  have e : fn.map (fun d => fnY K (d.at_ K)) = fn.map DefT.val := congrArg (fun z : AlT => z.2.1) c
  have e2 : (fn.map fun d => fnY K (d.at_ K))[i]? = (fn.map DefT.val)[i]? := by rw [e]
  rw [List.getElem?_map, List.getElem?_map, h] at e2
  exact ⟨Option.some.inj e2, List.all_eq_true.mp c2 d (List.mem_of_getElem? h)⟩
theorem SaysT.fun_ (c : SaysT ts fn dk w K) (i : Nat) {d : DefT} (h : fn[i]? = some d := by rfl) (hd : d.dn = false := by rfl) : ∃ fd, Fun K d.name d.qual d.st (d.at_ K) fd := DefT.fun_ (c.def_ i h).1 (c.def_ i h).2 hd
theorem SaysT.dic (c : SaysT ts fn dk w K) (i : Nat) {d : DicT} (h : dk[i]? = some d := by rfl) (hs : isDic K (d.at_ K) = true) : ∃ es n, K.lookup (d.at_ K) = some ⟨.type "dict", none, .dict es n, #[]⟩ ∧ PySem.W.KeysLit w.params es.toList := by
  have e : dk.map (fun d => keysY K (d.at_ K)) = dk.map fun d => d.keys.map fun k => (k, PyData.keyHash w.params k) := congrArg (fun z : AlT => z.2.2) c
  have e2 : (dk.map fun d => keysY K (d.at_ K))[i]? = (dk.map fun d => d.keys.map fun k => (k, PyData.keyHash w.params k))[i]? := by rw [e]
  rw [List.getElem?_map, List.getElem?_map, h] at e2
  exact isDic_ok hs (Option.some.inj e2)
end
theorem walkT {l : PySem.W.OpenLaw} {n k : Nat} {q : Program} {loose : List Str} {XP : (Str → Option Value) → Heap → Prop} {YP : World → Heap → Prop} {Sy : World → Fg → Prop} {d : DefRec} {sp : Fg → Sp}
    (hn : l.most = some n) (hn2 : n ≤ sizeLine) (hdf : d.params.defaults = []) (hr : Room k callerA) (hY : ∀ (w : World) (h : Heap), YP w h → ∃ K : Fg, K.In h ∧ Sy w K)
    (Fn : ∀ (w : World) (mg : Str → Option Value) (fa : Addr) (h : Heap) (K : Fg), K.In h → Sy w K → h.Ns mainGlobals mg → mg d.name = some (.ref fa) → ∀ base : Heap, K.In base → base.Ns mainGlobals mg → FnG l.prog w K mg base k fa (sp K))
    (hsp : ∀ (K : Fg) (H : Hp) (a : Addr) (ns : List Int), ns.length ≤ n → Only H → SqL K H a (ns.map V.int) → sp K [.ref a] H (fun v _ => v = .bl true) E0) :
    PySem.W.WalkO q loose XP YP l.row.toRowW d [] (fun f vs => PySem.call f vs) := by
  refine Att.attach_call hn hdf fun w s0 s1 mg mb fa o pm cd doc a vs ns G Y ho hd hcd hmg hobj hints hlen hg => ?_
  obtain ⟨K, KX, sy⟩ := hY w _ Y
  exact lawG KX G.T.g G.T.b G.T.builtins G.T.nolimit hg hobj hints (Nat.le_trans hlen hn2) hr (Fn w mg fa _ K KX sy G.T.g hmg) fun H hO hS => hsp K H a ns hlen hO hS
end N
set_option Elab.async false
set_option linter.all false
set_option maxRecDepth 100000
namespace N
open PySem PySem.Spec PyProof.Rows L2
open C8 (Cal Met Mak InsC pe_c pe_mt pe_mt0 pe_mk)
set_option maxHeartbeats 4000000
local macro_rules | `(tactic| walk_at "vl") => `(tactic| first | exact .inl (.inl rfl) | exact .inr ⟨_, rfl, List.mem_cons_self⟩ | exact .inr ⟨_, rfl, List.mem_cons_of_mem _ List.mem_cons_self⟩ | exact .inr ⟨_, rfl, List.mem_cons_of_mem _ (List.mem_cons_of_mem _ List.mem_cons_self)⟩ | exact .inr ⟨_, rfl, List.mem_cons_of_mem _ (List.mem_cons_of_mem _ (List.mem_cons_of_mem _ List.mem_cons_self))⟩ | exact .inl (.inr ⟨_, rfl, rfl⟩))
local macro_rules | `(tactic| walk_at "vt") => `(tactic| first | exact .inl rfl | exact .inr ⟨_, rfl, List.mem_cons_self⟩ | exact .inr ⟨_, rfl, List.mem_cons_of_mem _ List.mem_cons_self⟩ | exact .inr ⟨_, rfl, List.mem_cons_of_mem _ (List.mem_cons_of_mem _ List.mem_cons_self)⟩ | exact .inr ⟨_, rfl, List.mem_cons_of_mem _ (List.mem_cons_of_mem _ (List.mem_cons_of_mem _ List.mem_cons_self))⟩)
local macro_rules | `(tactic| walk_at "vd") => `(tactic| first | exact .inl rfl | exact .inr ⟨_, rfl, List.mem_cons_self⟩ | exact .inr ⟨_, rfl, List.mem_cons_of_mem _ List.mem_cons_self⟩ | exact .inr ⟨_, rfl, List.mem_cons_of_mem _ (List.mem_cons_of_mem _ List.mem_cons_self)⟩ | exact .inr ⟨_, rfl, List.mem_cons_of_mem _ (List.mem_cons_of_mem _ (List.mem_cons_of_mem _ List.mem_cons_self))⟩)
local macro_rules | `(tactic| walk_at "gg") => `(tactic| first | exact getG_hd _ _ _ | (refine getG_tl (by decide +kernel) ?_; walk_at "gg"))
local macro_rules | `(tactic| walk_at "vs") => `(tactic| first | exact .inr rfl | (refine .inl ?_; walk_at "vl"))
local macro_rules | `(tactic| walk_at "nc") => `(tactic| first | omega | (unfold CMul; omega) | (unfold CDiv; omega) | (unfold CPow; decide) | (show (0 : Int) < _; omega))
local macro_rules | `(tactic| walk_at "sx") => `(tactic| first
  | with_reducible refine swx_seq ?_ | with_reducible refine swx_set ?_ | with_reducible refine swx_if ?_ | with_reducible refine swx_asg ?_ | with_reducible refine swx_ret ?_ | with_reducible refine swx_drop ?_ | ((with_reducible refine' swx_raise ?h ?hc); (case hc => exact rfl)) | with_reducible refine swx_next ?_ | with_reducible refine swx_brk ?_ | with_reducible refine swx_cont ?_ | with_reducible refine swx_retN ?_ | with_reducible refine swx_par ?_ | with_reducible refine swx_fld ?_
  | with_reducible refine evx_call ?_ | with_reducible refine evx_cm ?_ | with_reducible refine evx_cmk ?_ | with_reducible refine evx_mk ?_ | with_reducible refine evx_mkk ?_ | with_reducible refine evx_of ?_)
local macro_rules | `(tactic| walk_at "s1") => `(tactic| first
  | with_reducible refine sw_seq ?_ | with_reducible refine sw_set ?_ | (with_reducible refine' ev_var ?h ?_); (case h => rfl) | with_reducible refine ev_c ?_ | with_reducible refine ev_op ?_
  | with_reducible refine bo_I0 ?_ | with_reducible refine ev_tup ?_ | with_reducible refine ev_lstF ?_ | with_reducible refine ev_cb ?_ | with_reducible refine ea_cons ?_ | with_reducible refine ea_nil ?_
  | with_reducible refine bo_eqI ?_ | with_reducible refine bo_neI ?_ | with_reducible refine bo_eqS ?_ | with_reducible refine bo_neS ?_ | with_reducible refine bo_eqB ?_ | with_reducible refine bo_neB ?_
  | with_reducible refine isi_str ?_ | (with_reducible refine' ca_intBt ?h1 ?_); (case h1 => decide +kernel) | (with_reducible refine' ca_intBf ?h1 ?_); (case h1 => decide +kernel) | with_reducible refine ca_intB ?_ | with_reducible refine ca_int ?_ | with_reducible refine ca_max2 ?_ | with_reducible refine ca_min2 ?_
  | with_reducible refine sw_if ?_ | with_reducible refine sw_ret ?_ | with_reducible refine sw_drop ?_ | with_reducible refine sw_setL ?_ | with_reducible refine sw_next ?_ | with_reducible refine sw_par ?_ | with_reducible refine ev_neg ?_ | with_reducible refine ev_mkF ?_ | with_reducible refine ev_inv ?_ | with_reducible refine ev_prpF ?_ | with_reducible refine ta_fld ?_ | with_reducible refine ta_name ?_ | (with_reducible refine' ta_tup ?hl ?_); (case hl => rfl) | with_reducible refine tas_cons ?_ | with_reducible refine tas_nil ?_
  | with_reducible refine et_ifE ?_ | with_reducible refine ev_orV ?_ | with_reducible refine ev_andV ?_ | with_reducible refine ev_notV ?_ | with_reducible refine et_or ?_ | with_reducible refine et_and ?_ | with_reducible refine sw_asgA ?_ | with_reducible refine sw_asg2 ?_ | with_reducible refine sw_asg3 ?_ | with_reducible refine sw_fld ?_ | with_reducible refine et_test ?_ | with_reducible refine et_B ?_ | with_reducible refine ⟨_, rfl, ?_⟩ | with_reducible refine ⟨_, _, rfl, ?_⟩ | with_reducible refine et_not ?_ | with_reducible refine ev_if ?_
  | (with_reducible refine' bo_ixL ?h1 ?h2 ?_); (case h1 => walk_at "vl"); (case h2 => rfl) | (with_reducible refine' bo_ixT ?h2 ?_); (case h2 => rfl) | with_reducible refine ev_call ?_ | ((with_reducible refine' ev_fwF ?hz ?hy ?_); (case hz => assumption); (case hy => assumption)) | (with_reducible refine' ev_fmF ?hz ?_; case hz => assumption) | with_reducible refine ev_fld ?_
  | with_reducible refine .inr ⟨_, _, rfl, FldW.below _, ?_⟩ | with_reducible refine .inr ⟨_, _, rfl, FldW.atoms _, ?_⟩ | with_reducible refine .inr ⟨_, _, rfl, FldW.bens _, ?_⟩ | with_reducible refine .inr ⟨_, _, rfl, FldW.hgts _, ?_⟩
  | with_reducible refine .inl ⟨_, _, rfl, FldF.kind _, ?_⟩ | with_reducible refine .inl ⟨_, _, rfl, FldF.parts _, ?_⟩ | with_reducible refine .inl ⟨_, _, rfl, FldF.many _, ?_⟩ | with_reducible refine .inl ⟨_, _, rfl, FldF.deep _, ?_⟩ | with_reducible refine .inl ⟨_, _, rfl, FldF.atoms _, ?_⟩ | with_reducible refine .inl ⟨_, _, rfl, FldF.bare _, ?_⟩ | with_reducible refine .inl ⟨_, _, rfl, FldF.spell _, ?_⟩ | with_reducible refine .inl ⟨_, _, rfl, FldF.alls _, ?_⟩
  | with_reducible refine ev_meth ?_ | ((with_reducible refine' ⟨_, _, inst_wb _, ?hm, ?_⟩); (case hm => decide +kernel)) | ((with_reducible refine' ⟨_, _, Inst.fm _, ?hm, ?_⟩); (case hm => decide +kernel))
  | with_reducible refine ⟨_, _, rfl, FldF.kind _, ?_⟩ | with_reducible refine ⟨_, _, rfl, FldF.parts _, ?_⟩ | with_reducible refine ⟨_, _, rfl, FldF.many _, ?_⟩ | with_reducible refine ⟨_, _, rfl, FldF.deep _, ?_⟩ | with_reducible refine ⟨_, _, rfl, FldF.atoms _, ?_⟩ | with_reducible refine ⟨_, _, rfl, FldF.bare _, ?_⟩ | with_reducible refine ⟨_, _, rfl, FldF.spell _, ?_⟩ | with_reducible refine ⟨_, _, rfl, FldF.alls _, ?_⟩
  | ((with_reducible refine' ⟨len_ok ?hl, ?_⟩); (case hl => exact Nat.le_of_ble_eq_true rfl))
  | (with_reducible refine' bo_I ?h1 ?_); (case h1 => walk_at "nc")
  | with_reducible refine ev_sl ?_ | with_reducible refine eo_none ?_ | with_reducible refine eo_some ?_ | (with_reducible refine' ca_slF ?h1 ?_); (case h1 => walk_at "vl") | with_reducible refine ev_revF ?_ | with_reducible refine ev_dget ?_ | with_reducible refine sw_dput ?_ | with_reducible refine ev_dispF ?_ | with_reducible refine eps_cons ?_ | with_reducible refine eps_nil ?_ | with_reducible refine exk_str ?_ | with_reducible refine exk_int ?_ | (with_reducible refine' dg_str ?h1 ?h2 ?_); (case h1 => walk_at "vd"); (case h2 => walk_at "gg")
  | with_reducible refine unr_cons ?_ | with_reducible refine unr_nil ?_ | with_reducible refine swu_cons ?_ | with_reducible refine swu_nil ?_ | with_reducible refine et_yes ?_ | with_reducible refine tg_name ?_ | (with_reducible refine' tw_name ?h1 ?_); (case h1 => simp) | ((with_reducible refine' ⟨acc_ok ?h1, ?_⟩); (case h1 => exact Nat.le_of_ble_eq_true rfl)) | with_reducible refine ei_tup ?_ | with_reducible refine ei_list ?_ | with_reducible refine ei_rng1 ?_
  | with_reducible refine ca_strF ?_ | with_reducible refine ca_lenF ?_ | with_reducible refine isi_tup ?_ | with_reducible refine isi_int ?_ | with_reducible refine isi_intB ?_ | with_reducible refine et_chain ?_ | with_reducible refine ev_chain ?_ | (with_reducible refine' isi_fm ?hz ?_; case hz => assumption)
  | (with_reducible refine' ca_len ?h1 ?_); (case h1 => walk_at "vs")
  | (with_reducible refine' if_so ?h1 ?_); (case h1 => first | rfl | decide +kernel) | (with_reducible refine' if_not ?h1 ?_); (case h1 => first | rfl | decide +kernel))
local macro_rules | `(tactic| walk_at "st") => `(tactic| repeat first | walk_at "s1" | walk_at "sx")
section
def top (i : Nat) : Stmt := PySem.Challenge.pw_allbeneath_k19_marks_stand_one_way.main.body.getD i (.Pass ⟨0, 0, 0, 0⟩)
/-- what the module has written -/
structure ZZ (K : PySem.W.Frag) (w : World) (mg : Str → Option Value) (cl : Nat → Addr) where
  g_LETTERS : ∃ u, mg "LETTERS" = some u ∧ RelV (.str "ABCDEFGHIJKLMNOPQRSTUVWXYZabcdefghijklmnopqrstuvwxyz") u
  g_ATOM : ∃ u, mg "ATOM" = some u ∧ RelV (.str "atom") u
  g_NO : ∃ u, mg "NO" = some u ∧ RelV (.str "no") u
  g_IF_formulas : ∃ u, mg "IF_formulas" = some u ∧ RelV (.str "if") u
  g_ALL_formulas : ∃ u, mg "ALL_formulas" = some u ∧ RelV (.str "all") u
  d_PARTS_OF : Addr
  e_PARTS_OF : Array DictEntry
  n_PARTS_OF : Nat
  g_PARTS_OF : mg "PARTS_OF" = some (.ref d_PARTS_OF)
  t_PARTS_OF : KDict K w d_PARTS_OF e_PARTS_OF n_PARTS_OF
  k_PARTS_OF_atom : ∃ t, PySem.W.nsIn K d_PARTS_OF "atom" = some (some (.int 1 t))
  k_PARTS_OF_no : ∃ t, PySem.W.nsIn K d_PARTS_OF "no" = some (some (.int 0 t))
  k_PARTS_OF_if : ∃ t, PySem.W.nsIn K d_PARTS_OF "if" = some (some (.int 2 t))
  k_PARTS_OF_all : ∃ t, PySem.W.nsIn K d_PARTS_OF "all" = some (some (.int 1 t))
  g_ALL_AHEAD : ∃ u, mg "ALL_AHEAD" = some u ∧ RelV (.str "all ") u
  g_BETWEEN : ∃ u, mg "BETWEEN" = some u ∧ RelV (.str " > ") u
  g_ALL_circles : ∃ u, mg "ALL_circles" = some u ∧ RelV (.str "all") u
  g_IF_circles : ∃ u, mg "IF_circles" = some u ∧ RelV (.str "if") u
  g_MOST_MARKS : ∃ u, mg "MOST_MARKS" = some u ∧ RelV (.int 4) u
  g_PAIR_PARTS : ∃ u, mg "PAIR_PARTS" = some u ∧ RelV (.int 2) u
  g_CAPITALS : ∃ u, mg "CAPITALS" = some u ∧ RelV (.str "ABCDEFGHIJKLMNOPQRSTUVWXYZ") u
  g_ROWS : ∃ u, mg "ROWS" = some u ∧ RelV (.str "rows") u
  g_ORDER : ∃ u, mg "ORDER" = some u ∧ RelV (.str "order") u
  g_DIGITS : ∃ u, mg "DIGITS" = some u ∧ RelV (.str "0123456789") u
  g_BARE : ∃ u, mg "BARE" = some u ∧ RelV (.str "-") u
  g_BLANK : ∃ u, mg "BLANK" = some u ∧ RelV (.str " ") u
  g_BREAK : ∃ u, mg "BREAK" = some u ∧ RelV (.str "\n") u
  g_Formula : mg "Formula" = some (.ref (cl 0))
  z0 : CZ K (cl 0) fmNames
  g_Web : mg "Web" = some (.ref (cl 1))
  z1 : CZ K (cl 1) wbNames
  y1 : NeC K (cl 1)
  g_Rules : mg "Rules" = some (.ref (cl 3))
  z3 : CZ K (cl 3) rlNames
abbrev s_united : Stmt := top 19
theorem sc_united : FnScope ["one", "other"] ["one", "other"] (defScope s_united) := ⟨rfl, rfl, rfl, by decide +kernel, rfl, by decide +kernel, by decide +kernel⟩
theorem c_united {P : Program} {w : World} {K : PySem.W.Frag} {mg : Str → Option Value} {base : Heap} {cl : Nat → Addr} {f : Addr} {fd : FuncData} (hm : mg "united" = some (.ref f)) (B : Blt mg) (Z : ZZ K w mg cl) (Fn : Fun K "united" "united" s_united f fd) : Cal P w K mg base 1 "united" (spN FK ⟨K, cl⟩ S_united) [] := by
  have fz := Z.z0
  have gz := Z.z1
  refine calD hm Fn sc_united (by intro ds W post h; first | (obtain ⟨rfl, _⟩ := h; rfl) | (obtain ⟨_, rfl, _⟩ := h; rfl) | (obtain ⟨_, _, rfl, _⟩ := h; rfl) | (obtain ⟨_, _, _, rfl, _⟩ := h; rfl) | (obtain ⟨_, _, _, _, rfl, _⟩ := h; rfl) | (obtain ⟨_, _, _, _, _, rfl, _⟩ := h; rfl) | (obtain ⟨_, _, _, _, _, _, rfl, _⟩ := h; rfl) | (obtain ⟨_, _, _, _, _, _, _, rfl, _⟩ := h; rfl) | (obtain ⟨_, _, _, _, _, _, _, _, rfl, _⟩ := h; rfl) | (obtain ⟨_, _, _, _, _, _, _, _, _, rfl, _⟩ := h; rfl) | (obtain ⟨_, _, _, _, _, _, _, _, _, _, rfl, _⟩ := h; rfl) | (obtain ⟨_, _, _, _, _, _, _, _, _, _, _, rfl, _⟩ := h; rfl)) (fun _ _ _ _ _ _ us hl => match us, hl with | [_, _], _ => rfl) fun cdv A outer s H E hr => ⟨_, pss_one (ps_ret (pe_ifExp (pt_cmpR op_eq (pv 0) (pv 1) (nomark _)) (pv 0) (pe_join pe_str (pe_callB (cr_sortedT rfl) (by rfl) B.sorted bt_sorted (pa_cons (pe_callTy (cr_setT rfl) (by rfl) B.set bt_set (pa_cons (pe_op op_add_str (pv 0) (pv 1)) pa_nil)) pa_nil))))), ?_⟩
  rintro ds W post ⟨x, y, rfl, hl, rfl, k⟩
  try dsimp only [cxOf, Cx.nox, Cx.wish]
  walk_at "st"
  refine if_dec (fun e => ?_) (fun e => ?_)
  · walk_at "st"
    show post _ _
    simpa [unite, e] using k
  · have h16 := sizeLine_eq
    walk_at "st"
    refine ev_join ?_
    walk_at "st"
    refine bo_addS (by omega) ?_
    try walk_at "st"
    refine ca_setT (.inr ⟨_, rfl, rfl⟩) (by unfold signs; rw [List.length_map, ← str_len, str_app_len]; omega) fun p c hp hc => ?_
    have hs : (signs (x ++ y)).length = x.length + y.length := by unfold signs; rw [List.length_map, ← str_len, str_app_len]
    walk_at "st"
    refine ca_sortedT (by omega) ⟨ascS (signs (x ++ y)), .inl (.inl (.inl rfl)), ?_, ?_⟩
    · have h1 := ascS_len (signs (x ++ y))
      have h2 : (ascS (signs (x ++ y))).map (·.length) = (ascS (signs (x ++ y))).map fun _ => 1 := List.map_congr_left fun z hz => by
        obtain ⟨c, _, e⟩ := List.mem_map.mp (mem_ascS.mp hz)
        subst e
        rfl
      rw [h2, List.map_const', List.sum_replicate_nat]
      show _ * 1 + _ * 0 ≤ _
      omega
    · have e1 : signs (x ++ y) = ((lets x ++ lets y)).map sg := by unfold signs; rw [str_app]; rfl
      rw [e1, ascS_sg, join_nil_sg]
      have e2 : unite x y = ⟨((lets x ++ lets y).foldr insN []).toArray⟩ := by unfold unite; rw [if_neg e]
      rw [← e2]
      exact k
abbrev s_merged : Stmt := top 20
theorem sc_merged : FnScope ["one", "other", "formula", "found", "text"] ["one", "other"] (defScope s_merged) := ⟨rfl, rfl, rfl, by decide +kernel, rfl, by decide +kernel, by decide +kernel⟩
theorem c_merged {P : Program} {w : World} {K : PySem.W.Frag} {mg : Str → Option Value} {base : Heap} {cl : Nat → Addr} {f : Addr} {fd : FuncData} (hm : mg "merged" = some (.ref f)) (B : Blt mg) (Z : ZZ K w mg cl) (Fn : Fun K "merged" "merged" s_merged f fd) : Cal P w K mg base 1 "merged" (spN FK ⟨K, cl⟩ S_merged) [] := by
  have fz := Z.z0
  have gz := Z.z1
  refine calD hm Fn sc_merged (by intro ds W post h; first | (obtain ⟨rfl, _⟩ := h; rfl) | (obtain ⟨_, rfl, _⟩ := h; rfl) | (obtain ⟨_, _, rfl, _⟩ := h; rfl) | (obtain ⟨_, _, _, rfl, _⟩ := h; rfl) | (obtain ⟨_, _, _, _, rfl, _⟩ := h; rfl) | (obtain ⟨_, _, _, _, _, rfl, _⟩ := h; rfl) | (obtain ⟨_, _, _, _, _, _, rfl, _⟩ := h; rfl) | (obtain ⟨_, _, _, _, _, _, _, rfl, _⟩ := h; rfl) | (obtain ⟨_, _, _, _, _, _, _, _, rfl, _⟩ := h; rfl) | (obtain ⟨_, _, _, _, _, _, _, _, _, rfl, _⟩ := h; rfl) | (obtain ⟨_, _, _, _, _, _, _, _, _, _, rfl, _⟩ := h; rfl) | (obtain ⟨_, _, _, _, _, _, _, _, _, _, _, rfl, _⟩ := h; rfl)) (fun _ _ _ _ _ _ us hl => match us, hl with | [_, _], _ => rfl) fun cdv A outer s H E hr => ⟨_, pss_cons (ps_if (PW.pt (pw_or (pt_cmpR op_eq (pe_callB call_len (by rfl) B.len bt_len (pa_cons (pv 0) pa_nil)) pe_int (nomark _)) (pw_or1 (pt_cmpR op_eq (pe_callB call_len (by rfl) B.len bt_len (pa_cons (pv 1) pa_nil)) pe_int (nomark _))))) (pss_one (ps_ret (pe_op op_catA (pv 0) (pv 1)))) (pss_nil))
 (pss_cons (ps_set (i := 3) sc_merged.nd rfl (Or.inr rfl) (pe_dc (own := [("formula", 2)]) (by rfl) sc_merged.nd (pi_tup (pe_op op_catA (pv 0) (pv 1))) (blkOk_by (own := [("formula", 2)]) (N := ["one", "other", "formula", "found", "text"]) (sc := defScope s_merged) (by decide +kernel)) (fun _ _ _ _ _ => (pg_name (i := 2) sc_merged.nd rfl (Or.inl rfl))) (fun _ _ _ _ _ => pts_nil) (fun _ _ _ _ _ => (pe_fldK (K := K) rfl (pv 2) rfl)) (fun _ _ _ _ _ => (pv 2))))
 (pss_one (ps_ret (pe_callTy call_tuple_of (by rfl) B.tuple bt_tuple (pa_cons (pe_lc (own := [("text", 4)]) (by rfl) sc_merged.nd (pi_list (pe_callB (call_sortedD rfl) (by rfl) B.sorted bt_sorted (pa_cons (pv 3) pa_nil))) (blkOk_by (own := [("text", 4)]) (N := ["one", "other", "formula", "found", "text"]) (sc := defScope s_merged) (by decide +kernel)) (fun _ _ _ _ _ => (pg_name (i := 4) sc_merged.nd rfl (Or.inl rfl))) (fun _ _ _ _ _ => pts_nil) (fun _ _ _ _ _ => (pe_dget (by exact hu_of hr) (pv 3) (pv 4) (fun _ _ => rfl)))) pa_nil))))), ?_⟩
  rintro ds W post ⟨e1, e2, rfl, hs, l1, l2, lm, k⟩
  try dsimp only [cxOf, Cx.nox, Cx.wish]
  walk_at "st"
  try refine ca_len (.inr rfl) ?_
  walk_at "st"
  refine if_dec (fun h1 => ?_) (fun h1 => ?_)
  · try refine if_so rfl ?_
    walk_at "st"
    refine bo_catA (by have := sizeLine_eq; simp; omega) ?_
    have e : e1 = [] := by simpa using h1
    subst e
    exact k e2 (by simp [Fm.merge]) (fun p h => by simpa using h)
  · walk_at "st"
    try refine ca_len (.inr rfl) ?_
    walk_at "st"
    refine if_dec (fun h2 => ?_) (fun h2 => ?_)
    · walk_at "st"
      refine bo_catA (by have := sizeLine_eq; simp; omega) ?_
      have e : e2 = [] := by simpa using h2
      subst e
      have e : e1 ≠ [] := by simpa using h1
      refine (show post (.tup (e1.map (·.1) ++ [])) W from ?_)
      rw [List.append_nil]
      exact k e1 (by simp [Fm.merge, e]) (fun p h => by simpa using h)
    · have n1 : e1 ≠ [] := by simpa using h1
      have n2 : e2 ≠ [] := by simpa using h2
      walk_at "st"
      refine ev_dc (ei_tup ?_)
      walk_at "st"
      refine bo_catA (by have := sizeLine_eq; simp; omega) ⟨_, rfl, fun i acc W' => W' = W ∧ ∃ l : List (D × Fm), acc = kvE l ∧ (l.map fun p => p.2.spell).Nodup ∧ (∀ p ∈ l, p ∈ e1 ++ e2) ∧ (∀ p ∈ (e1 ++ e2).take i, p.2 ∈ l.map (·.2)) ∧ l.length ≤ i, ⟨rfl, [], rfl, List.nodup_nil, by simp, by simp, by simp⟩, ?_, ?_⟩
      · rintro i d acc W' hd ⟨rfl, l, rfl, nd, hl, hm, hn⟩
        rw [← List.map_append, List.getElem?_map] at hd
        obtain ⟨p, hp, e⟩ := Option.map_eq_some_iff.mp hd
        subst e
        have hpm : p ∈ e1 ++ e2 := List.mem_of_getElem? hp
        refine tw_name (by simp) (et_yes ?_)
        try refine if_so rfl ?_
        refine ev_spl (g := p.2) Z.z0 ?_
        walk_at "st"
        refine ⟨(hs p hpm).2, ?_⟩
        walk_at "st"
        obtain ⟨l', e, h3, h4, h5, h6⟩ := put_kvE (d := p.1) (fun q hq => (hs q (hl q hq)).1) (hs p hpm).1
        have hi : i < (e1 ++ e2).length := (List.getElem?_eq_some_iff.mp hp).1
        refine ⟨by have := sizeLine_eq; simp at hi ⊢; omega, rfl, l', e, ?_, fun q hq => ?_, fun q hq => ?_, by omega⟩
        · have := putG_nodup (k := Sum.inr p.2.spell) (z := p.1) (ps := kvE l) (by rw [kvE_keys]; exact nd.map Sum.inr (fun a b hab => fun e => hab (Sum.inr.inj e)))
          rw [e, kvE_keys] at this
          exact List.Pairwise.of_map Sum.inr (fun a b h e => h (by rw [e])) this
        · rcases h3 q hq with h | h
          · exact hl q h
          · rw [h]
            exact hpm
        · rw [List.take_add_one, hp] at hq
          rcases List.mem_append.mp hq with h | h
          · exact h4 _ (hm q h)
          · simp at h
            subst h
            exact h5
      · rintro acc W' ⟨rfl, l, rfl, nd, hl, hm, hn⟩ p hp
        have e0 : (e1.map (·.1) ++ e2.map (·.1)).length = (e1 ++ e2).length := by simp
        rw [e0, List.take_length] at hm
        have ms : ∀ x, x ∈ l.map (·.2) ↔ x ∈ e1.map (·.2) ++ e2.map (·.2) := fun x => by
          rw [← List.map_append]
          constructor
          · intro h
            obtain ⟨q, hq, e⟩ := List.mem_map.mp h
            exact List.mem_map.mpr ⟨q, hl q hq, e⟩
          · intro h
            obtain ⟨q, hq, e⟩ := List.mem_map.mp h
            subst e
            exact hm q hq
        have ok2 : ∀ x ∈ e1.map (·.2) ++ e2.map (·.2), x.okL := fun x hx => by
          rw [← List.map_append] at hx
          obtain ⟨q, hq, e⟩ := List.mem_map.mp hx
          subst e
          exact (hs q hq).1
        have nd2 : (l.map (·.2)).Nodup := by
          have : ((l.map (·.2)).map Fm.spell).Nodup := by
            rw [List.map_map]
            exact nd
          exact List.Pairwise.of_map Fm.spell (fun a b h e => h (by rw [e])) this
        walk_at "st"
        refine ev_lc (ei_list ?_)
        walk_at "st"
        refine ca_sortedD (ps := kvE l) (ks := l.map fun p => p.2.spell) (.inr ⟨p, rfl, List.mem_cons_self⟩) (kvE_keys l) ?_ ?_
        · refine Nat.lt_of_le_of_lt ?_ lm
          have := Fm.len_le nd2 (m := Fm.merge (e1.map (·.2)) (e2.map (·.2))) fun x hx => by
            rw [Fm.mem_merge, ← List.mem_append]
            exact (ms x).mp hx
          simpa using this
        · intro ys hp2 hss
          obtain ⟨e', hpe, ey⟩ := perm_map_inv hp2
          subst ey
          refine ⟨_, rfl, fun i acc W2 => acc = (e'.take i).map (·.1) ∧ W2 = (p, .dp (kvE l)) :: W', ⟨by simp, rfl⟩, ?_, ?_⟩
          · rintro i d acc W2 hd ⟨rfl, rfl⟩
            rw [List.map_map, List.getElem?_map] at hd
            obtain ⟨q, hq, e⟩ := Option.map_eq_some_iff.mp hd
            subst e
            have hqm : q ∈ l := hpe.mem_iff.mp (List.mem_of_getElem? hq)
            refine tw_name (by simp) (et_yes ?_)
            try refine if_so rfl ?_
            refine ev_dget ?_
            walk_at "st"
            refine ⟨kvE l, Sum.inr q.2.spell, q.1, .inr ⟨p, rfl, List.mem_cons_self⟩, rfl, getG_kvE hqm nd, ?_, ?_, rfl⟩
            · have h7 := hpe.length_eq
              have := sizeLine_eq
              simp at hn ⊢
              omega
            · rw [List.take_add_one, hq]
              simp
          · rintro acc W2 ⟨rfl, rfl⟩ p2 hp3
            walk_at "st"
            refine ca_drp (ca_tup (.inr ⟨p2, rfl, List.mem_cons_self⟩) ?_)
            refine ⟨W', (List.sublist_cons_self _ _).trans (List.sublist_cons_self _ _), ?_⟩
            have e : (e'.take (List.map D.str (e'.map fun p => p.2.spell)).length) = e' := by simp
            rw [e]
            refine k e' (merge_of (by simpa using n1) (by simpa using n2) ok2 hss (hp2.nodup_iff.mpr nd) fun x => ?_) fun q hq => hl q (hpe.mem_iff.mp hq)
            rw [← ms x]
            exact (hpe.map _).mem_iff
abbrev s_is_atom : Stmt := top 18
theorem sc_is_atom : FnScope ["thing"] ["thing"] (defScope s_is_atom) := ⟨rfl, rfl, rfl, by decide +kernel, rfl, by decide +kernel, by decide +kernel⟩
theorem c_is_atom {P : Program} {w : World} {K : PySem.W.Frag} {mg : Str → Option Value} {base : Heap} {cl : Nat → Addr} {f : Addr} {fd : FuncData} (hm : mg "is_atom" = some (.ref f)) (B : Blt mg) (Z : ZZ K w mg cl) (Fn : Fun K "is_atom" "is_atom" s_is_atom f fd) : Cal P w K mg base 1 "is_atom" (spN FK ⟨K, cl⟩ S_isatom) [] := by
  have fz := Z.z0
  have gz := Z.z1
  refine calD hm Fn sc_is_atom (by intro ds W post h; first | (obtain ⟨rfl, _⟩ := h; rfl) | (obtain ⟨_, rfl, _⟩ := h; rfl) | (obtain ⟨_, _, rfl, _⟩ := h; rfl) | (obtain ⟨_, _, _, rfl, _⟩ := h; rfl) | (obtain ⟨_, _, _, _, rfl, _⟩ := h; rfl) | (obtain ⟨_, _, _, _, _, rfl, _⟩ := h; rfl) | (obtain ⟨_, _, _, _, _, _, rfl, _⟩ := h; rfl) | (obtain ⟨_, _, _, _, _, _, _, rfl, _⟩ := h; rfl) | (obtain ⟨_, _, _, _, _, _, _, _, rfl, _⟩ := h; rfl) | (obtain ⟨_, _, _, _, _, _, _, _, _, rfl, _⟩ := h; rfl) | (obtain ⟨_, _, _, _, _, _, _, _, _, _, rfl, _⟩ := h; rfl) | (obtain ⟨_, _, _, _, _, _, _, _, _, _, _, rfl, _⟩ := h; rfl)) (fun _ _ _ _ _ _ us hl => match us, hl with | [_], _ => rfl) fun cdv A outer s H E hr => ⟨_, pss_one (ps_ret (pe_and (pe_callB call_isi (by rfl) B.isinstance bt_isinstance (pa_cons (pv 0) (pa_cons (pe_bltn (by rfl) B.str bt_str (relV_ty _)) pa_nil))) (pe_and (pe_cmpR op_eq (pe_callB call_len (by rfl) B.len bt_len (pa_cons (pv 0) pa_nil)) pe_int (nomark _)) (pe_one (pe_cmpR op_in_sign (pv 0) (C8.pe_gc (by rfl) Z.g_LETTERS) rfl))))), ?_⟩
  rintro ds W post ⟨x, rfl, rfl, hl, k⟩
  try dsimp only [cxOf, Cx.nox, Cx.wish]
  walk_at "st"
  try refine if_so rfl ?_
  walk_at "st"
  refine ca_lenS (by have := sizeLine_eq; omega) ?_
  walk_at "st"
  refine if_dec (fun e => ?_) (fun e => ?_)
  · have e : x.length = 1 := by omega
    obtain ⟨c, rfl⟩ := one_sign e
    walk_at "st"
    refine bo_inSg ?_
    walk_at "st"
    rw [in_letters]
    exact k
  · rw [isLet_long (show x.length ≠ 1 by omega)] at k
    exact k
end
section
theorem kd_facts {P : Program} {w : World} {K : PySem.W.Frag} {mg : Str → Option Value} {cl : Nat → Addr} (Z : ZZ K w mg cl) (f : Fm) : (∃ r, PySem.W.nsIn K Z.d_PARTS_OF f.kind = some (some r)) ∧ KDct K w Z.d_PARTS_OF f.kind (.int ((partsD f).length : Nat)) := by
  cases f with
  | «at» c => obtain ⟨t, h⟩ := Z.k_PARTS_OF_atom; exact ⟨⟨_, h⟩, _, _, _, Z.t_PARTS_OF.at_, Z.t_PARTS_OF.lit, h, t, rfl⟩
  | no => obtain ⟨t, h⟩ := Z.k_PARTS_OF_no; exact ⟨⟨_, h⟩, _, _, _, Z.t_PARTS_OF.at_, Z.t_PARTS_OF.lit, h, t, rfl⟩
  | imp a b => obtain ⟨t, h⟩ := Z.k_PARTS_OF_if; exact ⟨⟨_, h⟩, _, _, _, Z.t_PARTS_OF.at_, Z.t_PARTS_OF.lit, h, t, rfl⟩
  | all a => obtain ⟨t, h⟩ := Z.k_PARTS_OF_all; exact ⟨⟨_, h⟩, _, _, _, Z.t_PARTS_OF.at_, Z.t_PARTS_OF.lit, h, t, rfl⟩
abbrev s_Formula___init__ : Stmt := inClass (top 21) 0
theorem sc_Formula___init__ : FnScope ["self", "kind", "parts", "part", "inner", "first", "second"] ["self", "kind", "parts"] (defScope s_Formula___init__) := ⟨rfl, rfl, rfl, by decide +kernel, rfl, by decide +kernel, by decide +kernel⟩
theorem m_Formula {P : Program} {w : World} {K : PySem.W.Frag} {mg : Str → Option Value} {base : Heap} {cl : Nat → Addr} {f : Addr} {fd : FuncData} (mk : Mk K (cl 0) f) (B : Blt mg) (Z : ZZ K w mg cl) (Fn : Fun K "__init__" "Formula.__init__" s_Formula___init__ f fd)
    (c_united : Cal P w K mg base 1 "united" (spN FK ⟨K, cl⟩ S_united) [])
    (c_merged : Cal P w K mg base 1 "merged" (spN FK ⟨K, cl⟩ S_merged) [])
    (c_is_atom : Cal P w K mg base 1 "is_atom" (spN FK ⟨K, cl⟩ S_isatom) []) : MakR P w K mg base 2 "Formula" (cl 0) (spN FK ⟨K, cl⟩ (starS 2 S_init)) := by
  have fz := Z.z0
  have gz := Z.z1
  refine ⟨f, mk, okS (ps := ["self", "kind"]) (pv := "parts") Fn sc_Formula___init__ (fun _ _ _ _ _ _ us rest hl => match us, hl, rest with | [_, _], _, [] => rfl | [_, _], _, [_] => rfl | [_, _], _, _ :: _ :: _ => rfl) fun cdv A outer s H E hr => ⟨_, PSs.nox (pss_cons (ps_if (PW.pt (pw_or (pt_not (pt_val (pe_callB call_isi (by rfl) B.isinstance bt_isinstance (pa_cons (pv 1) (pa_cons (pe_bltn (by rfl) B.str bt_str (relV_ty _)) pa_nil))))) (pw_or1 (pt_cmpR (op_notIn_kd Z.t_PARTS_OF) (pv 1) (pe_glob (by rfl) Z.g_PARTS_OF (relV_ref _)) rfl)))) (pss_one (ps_never)) (pss_nil))
 (pss_cons (ps_if (pt_cmpR op_ne (pe_callB call_len (by rfl) B.len bt_len (pa_cons (pv 2) pa_nil)) (pe_ix ix_kdict (pe_glob (by rfl) Z.g_PARTS_OF (relV_ref _)) (pv 1) (fun _ _ => rfl)) (nomark _)) (pss_one (ps_never)) (pss_nil))
 (pss_cons (ps_for PassesOwn.never rfl (pi_tup (pv 2)) (pg_name (i := 3) sc_Formula___init__.nd rfl (Or.inl rfl)) (pss_one (ps_if (pt_not (pt_ifE (pt_cmpR op_eq (pv 1) (C8.pe_gc (by rfl) Z.g_ATOM) (nomark _)) (pt_val (pe_c c_is_atom hr (by omega) (by rfl) (pa_cons (pv 3) pa_nil))) (pt_val (pe_callB call_isi (by rfl) B.isinstance bt_isinstance (pa_cons (pv 3) (pa_cons (pe_glob (by rfl) Z.g_Formula (relV_ref _)) pa_nil)))))) (pss_one (ps_never)) (pss_nil))))
 (pss_cons (ps_fld (pv 0) (pv 1) rfl)
 (pss_cons (ps_fld (pv 0) (pv 2) rfl)
 (pss_cons (ps_fld (pv 0) pe_int rfl)
 (pss_cons (ps_fld (pv 0) (pe_callTy call_int1 (by rfl) B.int bt_int (pa_cons (pe_cmpR op_eq (pv 1) (C8.pe_gc (by rfl) Z.g_ALL_formulas) (nomark _)) pa_nil)) rfl)
 (pss_cons (ps_asg2 pe_str (pg_fld (pv 0)) (pg_fld (pv 0)))
 (pss_cons (ps_asg (pe_tup (pa_cons (C8.pe_gc (by rfl) Z.g_NO) (pa_cons (pe_tup pa_nil) pa_nil))) (pg_tup (n := 2) rfl (pgs_cons (pg_fld (pv 0)) (pgs_cons (pg_fld (pv 0)) pgs_nil))))
 (pss_one (ps_if (pt_cmpR op_eq (pv 1) (C8.pe_gc (by rfl) Z.g_ATOM) (nomark _)) (pss_one (ps_asg3 (pe_ix ix_tup (pv 2) pe_int (fun _ _ => rfl)) (pg_fld (pv 0)) (pg_fld (pv 0)) (pg_fld (pv 0)))) (pss_one (ps_if (pt_cmpR op_eq (pv 1) (C8.pe_gc (by rfl) Z.g_ALL_formulas) (nomark _)) (pss_cons (ps_set (i := 4) sc_Formula___init__.nd rfl (Or.inl rfl) (pe_ix ix_tup (pv 2) pe_int (fun _ _ => rfl)))
 (pss_cons (ps_asg (pe_tup (pa_cons (pe_op op_add pe_int (pe_fld (pv 4) rfl)) (pa_cons (pe_op op_add pe_int (pe_fld (pv 4) rfl)) pa_nil))) (pg_tup (n := 2) rfl (pgs_cons (pg_fld (pv 0)) (pgs_cons (pg_fld (pv 0)) pgs_nil))))
 (pss_cons (ps_asg (pe_tup (pa_cons (pe_fld (pv 4) rfl) (pa_cons (pe_op op_add_str (C8.pe_gc (by rfl) Z.g_ALL_AHEAD) (pe_fld (pv 4) rfl)) pa_nil))) (pg_tup (n := 2) rfl (pgs_cons (pg_fld (pv 0)) (pgs_cons (pg_fld (pv 0)) pgs_nil))))
 (pss_one (ps_fld (pv 0) (pe_c c_merged hr (by omega) (by rfl) (pa_cons (pe_fld (pv 4) rfl) (pa_cons (pe_tup (pa_cons (pv 0) pa_nil)) pa_nil))) rfl))))) (pss_one (ps_if (pt_cmpR op_eq (pv 1) (C8.pe_gc (by rfl) Z.g_IF_formulas) (nomark _)) (pss_cons (ps_asg (pv 2) (pg_tup (n := 2) rfl (pgs_cons (pg_name (i := 5) sc_Formula___init__.nd rfl (Or.inl rfl)) (pgs_cons (pg_name (i := 6) sc_Formula___init__.nd rfl (Or.inl rfl)) pgs_nil))))
 (pss_cons (ps_asg (pe_tup (pa_cons (pe_op op_add (pe_op op_add pe_int (pe_fld (pv 5) rfl)) (pe_fld (pv 6) rfl)) (pa_cons (pe_callB (call_max2 rfl) (by rfl) B.max bt_max (pa_cons (pe_fld (pv 5) rfl) (pa_cons (pe_fld (pv 6) rfl) pa_nil))) pa_nil))) (pg_tup (n := 2) rfl (pgs_cons (pg_fld (pv 0)) (pgs_cons (pg_fld (pv 0)) pgs_nil))))
 (pss_cons (ps_fld (pv 0) (pe_c c_united hr (by omega) (by rfl) (pa_cons (pe_fld (pv 5) rfl) (pa_cons (pe_fld (pv 6) rfl) pa_nil))) rfl)
 (pss_cons (ps_fld (pv 0) (pe_c c_united hr (by omega) (by rfl) (pa_cons (pe_fld (pv 5) rfl) (pa_cons (pe_fld (pv 6) rfl) pa_nil))) rfl)
 (pss_cons (ps_fld (pv 0) (pe_c c_merged hr (by omega) (by rfl) (pa_cons (pe_fld (pv 5) rfl) (pa_cons (pe_fld (pv 6) rfl) pa_nil))) rfl)
 (pss_one (ps_fld (pv 0) (pe_joined (PJ.cons pe_str (PJ.cons (pe_fmt (pe_fld (pv 5) rfl)) (PJ.cons (pe_fmt (C8.pe_gc (by rfl) Z.g_BETWEEN)) (PJ.cons (pe_fmt (pe_fld (pv 6) rfl)) (PJ.cons pe_str PJ.nil)))))) rfl))))))) (pss_nil)))))))))))))))), ?_⟩, Z.g_Formula⟩
  rintro ds W post ⟨x, f, rfl, rfl, hf, k⟩
  try dsimp only [cxOf, Cx.nox, Cx.wish]
  walk_at "st"
  obtain ⟨⟨r0, hk1⟩, hk2⟩ := kd_facts (P := P) Z f
  walk_at "st"
  try refine if_not rfl ?_
  walk_at "st"
  refine bo_knin hk1 ?_
  walk_at "st"
  try refine if_not rfl ?_
  walk_at "st"
  try refine ca_len (.inr rfl) ?_
  walk_at "st"
  refine bo_kix hk2 ?_
  walk_at "st"
  refine if_not (by simp) ?_
  walk_at "st"
  refine sw_for (ei_tup ?_)
  walk_at "st"
  refine ⟨fun i G' W' => W' = [(x, .ins 0 [] [])] ∧ ∃ o, G' = [some (.adr x), some (.str f.kind), some (.tup (partsD f)), o, none, none, none], ⟨rfl, _, rfl⟩, ?_, ?_⟩
  · rintro i d G' W' hd ⟨rfl, o, rfl⟩
    refine tg_name ?_
    walk_at "st"
    refine if_dec (fun e => ?_) (fun e => ?_)
    · obtain ⟨c, rfl⟩ := kind_at.mp e
      have hd := List.mem_of_getElem? hd
      simp only [partsD, List.mem_singleton] at hd
      subst hd
      walk_at "st"
      refine hand0 ⟨_, rfl, rfl, Nat.le_of_ble_eq_true rfl, ?_⟩
      rw [show isLet ⟨#[c]⟩ = true from (isLet_sg c).trans (decide_eq_true hf.ok)]
      simp only [List.nil_append]
      walk_at "st"
      try refine if_not rfl ?_
      walk_at "st"
      exact ⟨rfl, _, rfl⟩
    · obtain ⟨g, rfl⟩ := parts_fm (fun c ec => e (kind_at.mpr ⟨c, ec⟩)) d (List.mem_of_getElem? hd)
      walk_at "st"
      try refine isi_ins (.fm g) Z.z0.ins ?_
      walk_at "st"
      try refine if_not rfl ?_
      walk_at "st"
      exact ⟨rfl, _, rfl⟩
  · rintro G' W' ⟨rfl, o, rfl⟩
    walk_at "st"
    refine rcv_new Z.z0 (by decide +kernel) (by decide +kernel) (by decide) ?_
    walk_at "st"
    refine rcv_new Z.z0 (by decide +kernel) (by decide +kernel) (by decide) ?_
    walk_at "st"
    refine rcv_new Z.z0 (by decide +kernel) (by decide +kernel) (by decide) ?_
    walk_at "st"
    refine rcv_new Z.z0 (by decide +kernel) (by decide +kernel) (by decide) ?_
    walk_at "st"
    refine rcv_new Z.z0 (by decide +kernel) (by decide +kernel) (by decide) ?_
    walk_at "st"
    refine rcv_new Z.z0 (by decide +kernel) (by decide +kernel) (by decide) ?_
    walk_at "st"
    refine rcv_new Z.z0 (by decide +kernel) (by decide +kernel) (by decide) ?_
    walk_at "st"
    refine rcv_new Z.z0 (by decide +kernel) (by decide +kernel) (by decide) ?_
    walk_at "st"
    cases f with
    | «at» c =>
      try refine if_so (show decide (("atom" : Str) = "atom") = true by decide +kernel) ?_
      simp only [partsD]
      walk_at "st"
      refine rcv_at 4 Z.z0 (by decide +kernel) (by decide +kernel) rfl (by decide) ?_
      walk_at "st"
      refine rcv_at 5 Z.z0 (by decide +kernel) (by decide +kernel) rfl (by decide) ?_
      walk_at "st"
      refine rcv_at 6 Z.z0 (by decide +kernel) (by decide +kernel) rfl (by decide) ?_
      exact k [] rfl
    | no =>
      try refine if_not (show decide (("no" : Str) = "atom") = false by decide +kernel) ?_
      walk_at "st"
      try refine if_not (by decide +kernel) ?_
      walk_at "st"
      try refine if_not (by decide +kernel) ?_
      walk_at "st"
      exact k [] rfl
    | all a =>
      try refine if_not (show decide (("all" : Str) = "atom") = false by decide +kernel) ?_
      walk_at "st"
      try refine if_so (show decide (("all" : Str) = "all") = true by decide +kernel) ?_
      simp only [partsD]
      walk_at "st"
      refine rcv_at 2 Z.z0 (by decide +kernel) (by decide +kernel) rfl (by decide) ?_
      walk_at "st"
      refine rcv_at 3 Z.z0 (by decide +kernel) (by decide +kernel) rfl (by decide) ?_
      walk_at "st"
      have hsz := hf.sz
      simp only [Fm.sz] at hsz
      have h16 := sizeLine_eq
      refine bo_addS (by rw [Fm.spell_len]; show 4 + _ ≤ _; omega) ?_
      walk_at "st"
      refine rcv_at 4 Z.z0 (by decide +kernel) (by decide +kernel) rfl (by decide) ?_
      walk_at "st"
      refine rcv_at 6 Z.z0 (by decide +kernel) (by decide +kernel) rfl (by decide) ?_
      walk_at "st"
      refine handA ⟨a.alls.map fun g => (D.fm g, g), [(.adr x, .all a)], by rw [fm_map]; rfl, ?_, ?_, by simp, ?_, ?_⟩
      · intro p hp
        rcases List.mem_append.mp hp with h | h
        · obtain ⟨g, hg, e⟩ := List.mem_map.mp h
          subst e
          exact ⟨(Fm.alls_sub (f := a) hf.a.ok).1 g hg, spl_fm g⟩
        · rw [List.mem_singleton] at h
          subst h
          exact ⟨hf.ok, _, _, .own x 0 _ _ List.mem_cons_self, rfl⟩
      · rw [List.length_map]
        exact hf.a.alls
      · rw [fm_map2]
        exact hf.alls
      · intro e' h1 h2
        rw [fm_map2] at h1
        walk_at "st"
        refine rcv_at 7 Z.z0 (by decide +kernel) (by decide +kernel) rfl (by decide) ?_
        have := allsD_of (x := x) (f := .all a) (e := e') fun p hp => by
          rcases List.mem_append.mp (h2 p hp) with h | h
          · obtain ⟨g, hg, e⟩ := List.mem_map.mp h
            subst e
            exact .inl rfl
          · rw [List.mem_singleton] at h
            subst h
            exact .inr ⟨rfl, rfl⟩
        rw [h1] at this
        exact k _ this
    | imp a b =>
      try refine if_not (show decide (("if" : Str) = "atom") = false by decide +kernel) ?_
      walk_at "st"
      try refine if_not (show decide (("if" : Str) = "all") = false by decide +kernel) ?_
      walk_at "st"
      try refine if_so (show decide (("if" : Str) = "if") = true by decide +kernel) ?_
      simp only [partsD]
      walk_at "st"
      refine rcv_at 2 Z.z0 (by decide +kernel) (by decide +kernel) rfl (by decide) ?_
      walk_at "st"
      refine rcv_at 3 Z.z0 (by decide +kernel) (by decide +kernel) rfl (by decide) ?_
      walk_at "st"
      have la := Fm.atoms_len hf.ok.1
      have lb := Fm.atoms_len hf.ok.2
      have lc := Fm.outer_len hf.ok.1
      have ld := Fm.outer_len hf.ok.2
      refine hand0 ⟨_, _, rfl, by omega, rfl, ?_⟩
      rw [List.nil_append]
      walk_at "st"
      refine rcv_at 4 Z.z0 (by decide +kernel) (by decide +kernel) rfl (by decide) ?_
      walk_at "st"
      refine hand0 ⟨_, _, rfl, by omega, rfl, ?_⟩
      rw [List.nil_append]
      walk_at "st"
      refine rcv_at 5 Z.z0 (by decide +kernel) (by decide +kernel) rfl (by decide) ?_
      walk_at "st"
      refine handA ⟨a.alls.map fun g => (D.fm g, g), b.alls.map fun g => (D.fm g, g), by rw [fm_map, fm_map]; rfl, ?_, ?_, ?_, ?_, ?_⟩
      · intro p hp
        rw [← List.map_append] at hp
        obtain ⟨g, hg, e⟩ := List.mem_map.mp hp
        subst e
        refine ⟨?_, spl_fm g⟩
        rcases List.mem_append.mp hg with h | h
        · exact (Fm.alls_sub hf.l.ok).1 g h
        · exact (Fm.alls_sub hf.r.ok).1 g h
      · rw [List.length_map]
        exact hf.l.alls
      · rw [List.length_map]
        exact hf.r.alls
      · rw [fm_map2, fm_map2]
        exact hf.alls
      · intro e' h1 h2
        rw [fm_map2, fm_map2] at h1
        walk_at "st"
        refine rcv_at 7 Z.z0 (by decide +kernel) (by decide +kernel) rfl (by decide) ?_
        have := allsD_of (x := x) (f := .imp a b) (e := e') fun p hp => by
          have h := h2 p hp
          rw [← List.map_append] at h
          obtain ⟨g, hg, e⟩ := List.mem_map.mp h
          subst e
          exact .inl rfl
        rw [h1] at this
        have k2 := k _ this
        walk_at "st"
        refine ev_joined ?_
        have hsz := hf.sz
        simp only [Fm.sz] at hsz
        have h16 := sizeLine_eq
        have l1 : ("(" : Str).length = 1 := rfl
        have l2 : (" > " : Str).length = 3 := rfl
        have l3 : (")" : Str).length = 1 := rfl
        have l4 := Fm.spell_len a
        have l5 := Fm.spell_len b
        refine ev_c ⟨_, rfl, by rw [empty_app, l1]; omega, ?_⟩
        refine ev_fmt ?_
        walk_at "st"
        refine ⟨by omega, _, rfl, by rw [empty_app, str_app_len]; omega, ?_⟩
        refine ev_fmt ?_
        walk_at "st"
        refine ⟨by rw [empty_app, str_app_len, str_app_len]; omega, ?_⟩
        refine ev_fmt ?_
        walk_at "st"
        refine ⟨by omega, _, rfl, by rw [empty_app, str_app_len, str_app_len, str_app_len]; omega, ?_⟩
        refine ev_c ⟨_, rfl, by rw [empty_app, str_app_len, str_app_len, str_app_len, str_app_len]; omega, ?_⟩
        rw [empty_app]
        refine ev_var rfl ?_
        refine rcv_at 6 Z.z0 (by decide +kernel) (by decide +kernel) rfl (by decide) ?_
        rw [max_int]
        exact k2
end
section
abbrev s_no : Stmt := top 27
theorem sc_no : FnScope [] [] (defScope s_no) := ⟨rfl, rfl, rfl, by decide +kernel, rfl, by decide +kernel, by decide +kernel⟩
theorem c_no {P : Program} {w : World} {K : PySem.W.Frag} {mg : Str → Option Value} {base : Heap} {cl : Nat → Addr} {f : Addr} {fd : FuncData} (hm : mg "no" = some (.ref f)) (B : Blt mg) (Z : ZZ K w mg cl) (Fn : Fun K "no" "no" s_no f fd)
    (m_Formula : MakR P w K mg base 2 "Formula" (cl 0) (spN FK ⟨K, cl⟩ (starS 2 S_init))) : Cal P w K mg base 5 "no" (spN FK ⟨K, cl⟩ S_no) [] := by
  have fz := Z.z0
  have gz := Z.z1
  refine calD hm Fn sc_no (by intro ds W post h; first | (obtain ⟨rfl, _⟩ := h; rfl) | (obtain ⟨_, rfl, _⟩ := h; rfl) | (obtain ⟨_, _, rfl, _⟩ := h; rfl) | (obtain ⟨_, _, _, rfl, _⟩ := h; rfl) | (obtain ⟨_, _, _, _, rfl, _⟩ := h; rfl) | (obtain ⟨_, _, _, _, _, rfl, _⟩ := h; rfl) | (obtain ⟨_, _, _, _, _, _, rfl, _⟩ := h; rfl) | (obtain ⟨_, _, _, _, _, _, _, rfl, _⟩ := h; rfl) | (obtain ⟨_, _, _, _, _, _, _, _, rfl, _⟩ := h; rfl) | (obtain ⟨_, _, _, _, _, _, _, _, _, rfl, _⟩ := h; rfl) | (obtain ⟨_, _, _, _, _, _, _, _, _, _, rfl, _⟩ := h; rfl) | (obtain ⟨_, _, _, _, _, _, _, _, _, _, _, rfl, _⟩ := h; rfl)) (fun _ _ _ _ _ _ us hl => match us, hl with | [], _ => rfl) fun cdv A outer s H E hr => ⟨_, pss_one (ps_ret (pe_mkR m_Formula hr (by omega) (by rfl) (pa_cons (C8.pe_gc (by rfl) Z.g_NO) pa_nil))), ?_⟩
  rintro ds W post ⟨rfl, rfl, k⟩
  try dsimp only [cxOf, Cx.nox, Cx.wish]
  walk_at "st"
  exact ⟨.no, rfl, ⟨trivial, by decide, by decide⟩, k⟩
abbrev s_every : Stmt := top 29
theorem sc_every : FnScope ["formula"] ["formula"] (defScope s_every) := ⟨rfl, rfl, rfl, by decide +kernel, rfl, by decide +kernel, by decide +kernel⟩
theorem c_every {P : Program} {w : World} {K : PySem.W.Frag} {mg : Str → Option Value} {base : Heap} {cl : Nat → Addr} {f : Addr} {fd : FuncData} (hm : mg "every" = some (.ref f)) (B : Blt mg) (Z : ZZ K w mg cl) (Fn : Fun K "every" "every" s_every f fd)
    (m_Formula : MakR P w K mg base 2 "Formula" (cl 0) (spN FK ⟨K, cl⟩ (starS 2 S_init))) : Cal P w K mg base 5 "every" (spN FK ⟨K, cl⟩ S_every) [] := by
  have fz := Z.z0
  have gz := Z.z1
  refine calD hm Fn sc_every (by intro ds W post h; first | (obtain ⟨rfl, _⟩ := h; rfl) | (obtain ⟨_, rfl, _⟩ := h; rfl) | (obtain ⟨_, _, rfl, _⟩ := h; rfl) | (obtain ⟨_, _, _, rfl, _⟩ := h; rfl) | (obtain ⟨_, _, _, _, rfl, _⟩ := h; rfl) | (obtain ⟨_, _, _, _, _, rfl, _⟩ := h; rfl) | (obtain ⟨_, _, _, _, _, _, rfl, _⟩ := h; rfl) | (obtain ⟨_, _, _, _, _, _, _, rfl, _⟩ := h; rfl) | (obtain ⟨_, _, _, _, _, _, _, _, rfl, _⟩ := h; rfl) | (obtain ⟨_, _, _, _, _, _, _, _, _, rfl, _⟩ := h; rfl) | (obtain ⟨_, _, _, _, _, _, _, _, _, _, rfl, _⟩ := h; rfl) | (obtain ⟨_, _, _, _, _, _, _, _, _, _, _, rfl, _⟩ := h; rfl)) (fun _ _ _ _ _ _ us hl => match us, hl with | [_], _ => rfl) fun cdv A outer s H E hr => ⟨_, pss_one (ps_ret (pe_mkR m_Formula hr (by omega) (by rfl) (pa_cons (C8.pe_gc (by rfl) Z.g_ALL_formulas) (pa_cons (pv 0) pa_nil)))), ?_⟩
  rintro ds W post ⟨f, rfl, rfl, hf, k⟩
  try dsimp only [cxOf, Cx.nox, Cx.wish]
  walk_at "st"
  exact ⟨.all f, rfl, hf, k⟩
abbrev s_as_formula : Stmt := top 22
theorem sc_as_formula : FnScope ["value"] ["value"] (defScope s_as_formula) := ⟨rfl, rfl, rfl, by decide +kernel, rfl, by decide +kernel, by decide +kernel⟩
theorem c_as_formula {P : Program} {w : World} {K : PySem.W.Frag} {mg : Str → Option Value} {base : Heap} {cl : Nat → Addr} {f : Addr} {fd : FuncData} (hm : mg "as_formula" = some (.ref f)) (B : Blt mg) (Z : ZZ K w mg cl) (Fn : Fun K "as_formula" "as_formula" s_as_formula f fd)
    (c_is_atom : Cal P w K mg base 1 "is_atom" (spN FK ⟨K, cl⟩ S_isatom) [])
    (m_Formula : MakR P w K mg base 2 "Formula" (cl 0) (spN FK ⟨K, cl⟩ (starS 2 S_init))) : Cal P w K mg base 5 "as_formula" (spN FK ⟨K, cl⟩ S_opd) [] := by
  have fz := Z.z0
  have gz := Z.z1
  refine calD hm Fn sc_as_formula (by intro ds W post h; first | (obtain ⟨rfl, _⟩ := h; rfl) | (obtain ⟨_, rfl, _⟩ := h; rfl) | (obtain ⟨_, _, rfl, _⟩ := h; rfl) | (obtain ⟨_, _, _, rfl, _⟩ := h; rfl) | (obtain ⟨_, _, _, _, rfl, _⟩ := h; rfl) | (obtain ⟨_, _, _, _, _, rfl, _⟩ := h; rfl) | (obtain ⟨_, _, _, _, _, _, rfl, _⟩ := h; rfl) | (obtain ⟨_, _, _, _, _, _, _, rfl, _⟩ := h; rfl) | (obtain ⟨_, _, _, _, _, _, _, _, rfl, _⟩ := h; rfl) | (obtain ⟨_, _, _, _, _, _, _, _, _, rfl, _⟩ := h; rfl) | (obtain ⟨_, _, _, _, _, _, _, _, _, _, rfl, _⟩ := h; rfl) | (obtain ⟨_, _, _, _, _, _, _, _, _, _, _, rfl, _⟩ := h; rfl)) (fun _ _ _ _ _ _ us hl => match us, hl with | [_], _ => rfl) fun cdv A outer s H E hr => ⟨_, pss_cons (ps_if (pt_val (pe_callB call_isi (by rfl) B.isinstance bt_isinstance (pa_cons (pv 0) (pa_cons (pe_glob (by rfl) Z.g_Formula (relV_ref _)) pa_nil)))) (pss_one (ps_ret (pv 0))) (pss_nil))
 (pss_one (ps_ret (pe_ifExp (pt_val (pe_c c_is_atom hr (by omega) (by rfl) (pa_cons (pv 0) pa_nil))) (pe_mkR m_Formula hr (by omega) (by rfl) (pa_cons (C8.pe_gc (by rfl) Z.g_ATOM) (pa_cons (pv 0) pa_nil))) pe_non))), ?_⟩
  rintro ds W post ⟨d, f, rfl, rfl, hd, k⟩
  try dsimp only [cxOf, Cx.nox, Cx.wish]
  rcases hd with rfl | ⟨c, hc, rfl, rfl⟩
  · walk_at "st"
    try refine isi_ins (.fm f) fz.ins ?_
    walk_at "st"
    try refine if_so (by first | rfl | decide +kernel | simp) ?_
    try walk_at "st"
    exact k
  · walk_at "st"
    refine isi_strF fz ?_
    walk_at "st"
    try refine if_not (by first | rfl | decide +kernel | simp) ?_
    try walk_at "st"
    refine hand0 ⟨_, rfl, rfl, Nat.le_of_ble_eq_true rfl, ?_⟩
    try simp only [List.nil_append]
    try walk_at "st"
    rw [isLet_sg, decide_eq_true hc]
    try refine if_so (by first | rfl | decide +kernel | simp) ?_
    try walk_at "st"
    exact ⟨.at c, rfl, ⟨hc, Nat.le_of_ble_eq_true rfl, Nat.lt_of_lt_of_le Nat.zero_lt_one (Nat.le_of_ble_eq_true rfl)⟩, k⟩
abbrev s_operand : Stmt := top 23
theorem sc_operand : FnScope ["value", "found"] ["value"] (defScope s_operand) := ⟨rfl, rfl, rfl, by decide +kernel, rfl, by decide +kernel, by decide +kernel⟩
theorem c_operand {P : Program} {w : World} {K : PySem.W.Frag} {mg : Str → Option Value} {base : Heap} {cl : Nat → Addr} {f : Addr} {fd : FuncData} (hm : mg "operand" = some (.ref f)) (B : Blt mg) (Z : ZZ K w mg cl) (Fn : Fun K "operand" "operand" s_operand f fd)
    (c_as_formula : Cal P w K mg base 5 "as_formula" (spN FK ⟨K, cl⟩ S_opd) []) : Cal P w K mg base 6 "operand" (spN FK ⟨K, cl⟩ S_opd) [] := by
  have fz := Z.z0
  have gz := Z.z1
  refine calD hm Fn sc_operand (by intro ds W post h; first | (obtain ⟨rfl, _⟩ := h; rfl) | (obtain ⟨_, rfl, _⟩ := h; rfl) | (obtain ⟨_, _, rfl, _⟩ := h; rfl) | (obtain ⟨_, _, _, rfl, _⟩ := h; rfl) | (obtain ⟨_, _, _, _, rfl, _⟩ := h; rfl) | (obtain ⟨_, _, _, _, _, rfl, _⟩ := h; rfl) | (obtain ⟨_, _, _, _, _, _, rfl, _⟩ := h; rfl) | (obtain ⟨_, _, _, _, _, _, _, rfl, _⟩ := h; rfl) | (obtain ⟨_, _, _, _, _, _, _, _, rfl, _⟩ := h; rfl) | (obtain ⟨_, _, _, _, _, _, _, _, _, rfl, _⟩ := h; rfl) | (obtain ⟨_, _, _, _, _, _, _, _, _, _, rfl, _⟩ := h; rfl) | (obtain ⟨_, _, _, _, _, _, _, _, _, _, _, rfl, _⟩ := h; rfl)) (fun _ _ _ _ _ _ us hl => match us, hl with | [_], _ => rfl) fun cdv A outer s H E hr => ⟨_, pss_cons (ps_set (i := 1) sc_operand.nd rfl (Or.inl rfl) (pe_c c_as_formula hr (by omega) (by rfl) (pa_cons (pv 0) pa_nil)))
 (pss_cons (ps_if (pt_cmp (pc_isN (pv 1))) (pss_one (ps_never)) (pss_nil))
 (pss_one (ps_ret (pv 1)))), ?_⟩
  rintro ds W post ⟨d, f, rfl, rfl, hd, k⟩
  try dsimp only [cxOf, Cx.nox, Cx.wish]
  walk_at "st"
  refine hand0 ⟨d, f, rfl, rfl, hd, ?_⟩
  try simp only [List.nil_append]
  try walk_at "st"
  refine ev_isN_fm (f := f) ?_
  walk_at "st"
  refine ⟨rfl, ?_⟩
  walk_at "st"
  try refine if_not (by first | rfl | decide +kernel | simp) ?_
  try walk_at "st"
  exact k
abbrev s_Formula___rshift__ : Stmt := inClass (top 21) 8
theorem sc_Formula___rshift__ : FnScope ["self", "other"] ["self", "other"] (defScope s_Formula___rshift__) := ⟨rfl, rfl, rfl, by decide +kernel, rfl, by decide +kernel, by decide +kernel⟩
theorem o_shr {P : Program} {w : World} {K : PySem.W.Frag} {mg : Str → Option Value} {base : Heap} {cl : Nat → Addr} {f : Addr} {fd : FuncData} (o : Own2 K (cl 0) "__rshift__" f) (B : Blt mg) (Z : ZZ K w mg cl) (Fn : Fun K "__rshift__" "Formula.__rshift__" s_Formula___rshift__ f fd)
    (m_Formula : MakR P w K mg base 2 "Formula" (cl 0) (spN FK ⟨K, cl⟩ (starS 2 S_init)))
    (c_operand : Cal P w K mg base 6 "operand" (spN FK ⟨K, cl⟩ S_opd) []) : Opn P w K mg base 7 (cl 0) "__rshift__" (spN FK ⟨K, cl⟩ S_shr) := by
  have fz := Z.z0
  have gz := Z.z1
  refine opnD o Fn sc_Formula___rshift__ (by intro ds W post h; first | (obtain ⟨rfl, _⟩ := h; rfl) | (obtain ⟨_, rfl, _⟩ := h; rfl) | (obtain ⟨_, _, rfl, _⟩ := h; rfl) | (obtain ⟨_, _, _, rfl, _⟩ := h; rfl) | (obtain ⟨_, _, _, _, rfl, _⟩ := h; rfl) | (obtain ⟨_, _, _, _, _, rfl, _⟩ := h; rfl) | (obtain ⟨_, _, _, _, _, _, rfl, _⟩ := h; rfl) | (obtain ⟨_, _, _, _, _, _, _, rfl, _⟩ := h; rfl) | (obtain ⟨_, _, _, _, _, _, _, _, rfl, _⟩ := h; rfl) | (obtain ⟨_, _, _, _, _, _, _, _, _, rfl, _⟩ := h; rfl) | (obtain ⟨_, _, _, _, _, _, _, _, _, _, rfl, _⟩ := h; rfl) | (obtain ⟨_, _, _, _, _, _, _, _, _, _, _, rfl, _⟩ := h; rfl)) (fun _ _ _ _ _ _ us hl => match us, hl with | [_, _], _ => rfl) fun cdv A outer s H E hr => ⟨_, pss_one (ps_ret (pe_mkR m_Formula hr (by omega) (by rfl) (pa_cons (C8.pe_gc (by rfl) Z.g_IF_formulas) (pa_cons (pv 0) (pa_cons (pe_c c_operand hr (by omega) (by rfl) (pa_cons (pv 1) pa_nil)) pa_nil))))), ?_⟩
  rintro ds W post ⟨f, g, rfl, rfl, hf, k⟩
  try dsimp only [cxOf, Cx.nox, Cx.wish]
  walk_at "st"
  refine hand0 ⟨_, g, rfl, rfl, .inl rfl, ?_⟩
  simp only [List.nil_append, List.append_nil]
  walk_at "st"
  exact ⟨_, rfl, hf, k⟩
abbrev s_Formula___str__ : Stmt := inClass (top 21) 7
theorem sc_Formula___str__ : FnScope ["self"] ["self"] (defScope s_Formula___str__) := ⟨rfl, rfl, rfl, by decide +kernel, rfl, by decide +kernel, by decide +kernel⟩
theorem o_str {P : Program} {w : World} {K : PySem.W.Frag} {mg : Str → Option Value} {base : Heap} {cl : Nat → Addr} {f : Addr} {fd : FuncData} (o : Own2 K (cl 0) "__str__" f) (B : Blt mg) (Z : ZZ K w mg cl) (Fn : Fun K "__str__" "Formula.__str__" s_Formula___str__ f fd) : Opn P w K mg base 1 (cl 0) "__str__" (spN FK ⟨K, cl⟩ S_str) := by
  have fz := Z.z0
  have gz := Z.z1
  refine opnD o Fn sc_Formula___str__ (by intro ds W post h; first | (obtain ⟨rfl, _⟩ := h; rfl) | (obtain ⟨_, rfl, _⟩ := h; rfl) | (obtain ⟨_, _, rfl, _⟩ := h; rfl) | (obtain ⟨_, _, _, rfl, _⟩ := h; rfl) | (obtain ⟨_, _, _, _, rfl, _⟩ := h; rfl) | (obtain ⟨_, _, _, _, _, rfl, _⟩ := h; rfl) | (obtain ⟨_, _, _, _, _, _, rfl, _⟩ := h; rfl) | (obtain ⟨_, _, _, _, _, _, _, rfl, _⟩ := h; rfl) | (obtain ⟨_, _, _, _, _, _, _, _, rfl, _⟩ := h; rfl) | (obtain ⟨_, _, _, _, _, _, _, _, _, rfl, _⟩ := h; rfl) | (obtain ⟨_, _, _, _, _, _, _, _, _, _, rfl, _⟩ := h; rfl) | (obtain ⟨_, _, _, _, _, _, _, _, _, _, _, rfl, _⟩ := h; rfl)) (fun _ _ _ _ _ _ us hl => match us, hl with | [_], _ => rfl) fun cdv A outer s H E hr => ⟨_, pss_one (ps_ret (pe_callTy SkE.call_str_str (by rfl) B.str bt_str (pa_cons (pe_fld (pv 0) rfl) pa_nil))), ?_⟩
  rintro ds W post ⟨f, rfl, rfl, k⟩
  try dsimp only [cxOf, Cx.nox, Cx.wish]
  walk_at "st"
  refine ca_strS ?_
  exact k
end
section
abbrev s_parts_within : Stmt := top 30
theorem sc_parts_within : FnScope ["formula", "found", "known", "waiting", "part", "is_done", "inner"] ["formula"] (defScope s_parts_within) := ⟨rfl, rfl, rfl, by decide +kernel, rfl, by decide +kernel, by decide +kernel⟩
theorem c_parts_within {P : Program} {w : World} {K : PySem.W.Frag} {mg : Str → Option Value} {base : Heap} {cl : Nat → Addr} {f : Addr} {fd : FuncData} (hm : mg "parts_within" = some (.ref f)) (B : Blt mg) (Z : ZZ K w mg cl) (Fn : Fun K "parts_within" "parts_within" s_parts_within f fd) : Cal P w K mg base 1 "parts_within" (spN FK ⟨K, cl⟩ S_within) [] := by
  have fz := Z.z0
  have gz := Z.z1
  refine calD hm Fn sc_parts_within (by intro ds W post h; first | (obtain ⟨rfl, _⟩ := h; rfl) | (obtain ⟨_, rfl, _⟩ := h; rfl) | (obtain ⟨_, _, rfl, _⟩ := h; rfl) | (obtain ⟨_, _, _, rfl, _⟩ := h; rfl) | (obtain ⟨_, _, _, _, rfl, _⟩ := h; rfl) | (obtain ⟨_, _, _, _, _, rfl, _⟩ := h; rfl) | (obtain ⟨_, _, _, _, _, _, rfl, _⟩ := h; rfl) | (obtain ⟨_, _, _, _, _, _, _, rfl, _⟩ := h; rfl) | (obtain ⟨_, _, _, _, _, _, _, _, rfl, _⟩ := h; rfl) | (obtain ⟨_, _, _, _, _, _, _, _, _, rfl, _⟩ := h; rfl) | (obtain ⟨_, _, _, _, _, _, _, _, _, _, rfl, _⟩ := h; rfl) | (obtain ⟨_, _, _, _, _, _, _, _, _, _, _, rfl, _⟩ := h; rfl)) (fun _ _ _ _ _ _ us hl => match us, hl with | [_], _ => rfl) fun cdv A outer s H E hr => ⟨_, pss_cons (ps_par3 (i := 1) (j := 2) (l := 3) (by rfl) sc_parts_within.nd rfl rfl rfl (by decide) (by decide) (by decide) rfl rfl rfl (pa_cons (pe_lst pa_nil) (pa_cons pe_dnewK (pa_cons (pe_lst (pa_cons (pe_tup (pa_cons (pv 0) (pa_cons pe_bl pa_nil))) pa_nil)) pa_nil))) (by rfl))
 (pss_cons (ps_while PassesOwn.never (pt_cmpR (op_neE hr.units) (pv 3) (pe_lst pa_nil) (nomark _)) (pss_cons (ps_asg (pe_bm0 PySem.F.plainAttrs_list PySem.F.slot_list_pop PySem.F.type_list_pop mt_pop (pv 3)) (pg_tup (n := 2) rfl (pgs_cons (pg_name (i := 4) sc_parts_within.nd rfl (Or.inl rfl)) (pgs_cons (pg_name (i := 5) sc_parts_within.nd rfl (Or.inl rfl)) pgs_nil))))
 (pss_one (ps_if (pt_val (pv 5)) (pss_one (ps_expr (pe_bm PySem.F.plainAttrs_list PySem.F.slot_list_append PySem.F.type_list_append mt_append (pv 1) (pa_cons (pv 4) pa_nil)))) (pss_one (ps_if (pt_cmp (pc_dnotin (by exact hu_of hr) (pe_fld (pv 4) rfl) (pv 2))) (pss_cons (ps_dput (by exact hu_of hr) (pv 2) (pe_fld (pv 4) rfl) pe_bl rfl)
 (pss_cons (ps_expr (pe_bm PySem.F.plainAttrs_list PySem.F.slot_list_append PySem.F.type_list_append mt_append (pv 3) (pa_cons (pe_tup (pa_cons (pv 4) (pa_cons pe_bl pa_nil))) pa_nil)))
 (pss_one (ps_if (pt_cmpR op_in_seq (pe_fld (pv 4) rfl) (pe_tup (pa_cons (C8.pe_gc (by rfl) Z.g_IF_formulas) (pa_cons (C8.pe_gc (by rfl) Z.g_ALL_formulas) pa_nil))) rfl) (pss_one (ps_expr (pe_bm PySem.F.plainAttrs_list PySem.F.slot_list_extend PySem.F.type_list_extend mt_extend (pv 3) (pa_cons (pe_lc (own := [("inner", 6)]) (by rfl) sc_parts_within.nd (pi_tup (pe_fld (pv 4) rfl)) (blkOk_by (own := [("inner", 6)]) (N := ["formula", "found", "known", "waiting", "part", "is_done", "inner"]) (sc := defScope s_parts_within) (by decide +kernel)) (fun _ _ _ _ _ => (pg_name (i := 6) sc_parts_within.nd rfl (Or.inl rfl))) (fun _ _ _ _ _ => pts_nil) (fun _ _ _ _ _ => (pe_tup (pa_cons (pv 6) (pa_cons pe_bl pa_nil))))) pa_nil)))) (pss_nil))))) (pss_nil)))))))
 (pss_one (ps_ret (pv 1)))), ?_⟩
  rintro ds W post ⟨f, rfl, rfl, hf, k⟩
  try dsimp only [cxOf, Cx.nox, Cx.wish]
  walk_at "st"
  refine sw_par3 ?_
  refine ea_cons (ev_lst ?_)
  walk_at "st"
  intro p1 hp1
  refine ea_cons (ev_dnew fun p2 hp2 => ?_)
  refine ea_cons (ev_lst ?_)
  walk_at "st"
  intro p3 hp3
  refine ea_nil ?_
  refine ⟨_, _, _, rfl, ?_⟩
  have h16 := sizeLine_eq
  have hmany := Fm.many_sz f
  have hsz := hf.sz
  refine sw_seq (sw_while (fun m G' W' => ∃ (K F : List Fm) (L : List (Fm × Bool)) (o1 o2 : Option D), Fm.PW f K F L ∧ m = 4 * (f.many - K.length) + L.length ∧ G' = [some (.fm f), some (.adr p1), some (.adr p2), some (.adr p3), o1, o2, none] ∧ W' = [(p3, .lst (L.map fun x => .tup [.fm x.1, .bl x.2])), (p2, .dp (kns K)), (p1, .lst (F.map .fm))]) _ ⟨[], [], [(f, false)], none, none, .start f, rfl, rfl, rfl⟩ ?_)
  rintro m G' W' ⟨K, F, L, o1, o2, pw, rfl, rfl, rfl⟩
  have hK := pw.room
  have hF := pw.floor
  have hL := pw.ln
  walk_at "st"
  refine bo_neE (.inr ⟨_, rfl, List.mem_cons_self⟩) (.inl (.inl rfl)) ?_
  refine ⟨_, rfl, ?_⟩
  rcases List.eq_nil_or_concat L with e | ⟨L, ⟨g, b⟩, e⟩
  · subst e
    obtain ⟨l1, l2, l3, l4⟩ := pw.fin
    refine if_not rfl ?_
    refine sw_fz (i := 1) rfl ((List.Perm.swap _ _ _).trans ((List.Perm.swap _ _ _).cons _ |>.trans (List.Perm.swap _ _ _))) (.lst _) ?_
    refine sw_drp (List.nil_sublist _) ?_
    walk_at "st"
    exact k F l1 l2 l3 l4
  · subst e
    rw [List.concat_eq_append] at pw hL ⊢
    rw [List.length_append] at hL
    simp only [List.length_cons, List.length_nil] at hL
    rw [List.length_append, List.length_singleton]
    refine if_so (by simp) ?_
    refine sw_seq (sw_asg (ev_pop ?_))
    walk_at "st"
    refine ⟨p3, L.map fun x => .tup [.fm x.1, .bl x.2], [], [(p2, .dp (kns K)), (p1, .lst (F.map .fm))], .tup [.fm g, .bl b], rfl, by simp, ?_⟩
    refine tg_tup rfl (tgs_cons (tg_name (tgs_cons (tg_name (tgs_nil ?_)))))
    have okg : ∀ x ∈ Fm.subs f, x.okL := fun x hx => (hf.subs hx).ok
    have hK2 : ∀ x ∈ K, x.okL := fun x hx => okg x (pw.ks x hx)
    have hg := okg g (pw.ls (g, b) (by simp))
    cases b with
    | true =>
      walk_at "st"
      refine ev_append ?_
      walk_at "st"
      refine ⟨p1, F.map .fm, [_, _], [], rfl, rfl, ?_⟩
      walk_at "st"
      refine ⟨F.map .fm, [_, _], [], _, rfl, rfl, by simp; omega, ?_⟩
      refine ⟨_, ?_, K, F ++ [g], L, some (.fm g), some (.bl true), pw.pop_true, rfl, rfl, by simp⟩
      omega
    | false =>
      walk_at "st"
      refine ev_dnotin ?_
      walk_at "st"
      refine ⟨kns K, Sum.inr g.spell, .inr ⟨_, rfl, by simp⟩, rfl, ?_⟩
      rw [getG_kns hK2 hg]
      by_cases hk : g ∈ K
      · rw [decide_eq_true hk]
        walk_at "st"
        refine ⟨_, ?_, K, F, L, some (.fm g), some (.bl false), pw.pop_known hk, rfl, rfl, rfl⟩
        omega
      · rw [decide_eq_false hk]
        have pw2 := pw.pop_new hk
        have hr2 := pw2.room
        rw [List.length_append, List.length_singleton] at hr2
        walk_at "st"
        refine ⟨p2, kns K, Sum.inr g.spell, [_], [_], rfl, rfl, rfl, by simp [kns]; omega, ?_⟩
        rw [put_kns hK2 hg hk]
        walk_at "st"
        refine ev_append ?_
        walk_at "st"
        refine ⟨p3, L.map fun x => .tup [.fm x.1, .bl x.2], [], _, rfl, rfl, ?_⟩
        walk_at "st"
        refine ⟨L.map fun x => .tup [.fm x.1, .bl x.2], [], _, _, rfl, rfl, by simp; omega, ?_⟩
        have step : ∀ M : List Fm, Fm.inner g = M → ∃ m', m' < 4 * (f.many - K.length) + (L.length + 1) ∧ ∃ (K' F' : List Fm) (L' : List (Fm × Bool)) (o1 o2 : Option D), Fm.PW f K' F' L' ∧ m' = 4 * (f.many - K'.length) + L'.length ∧
            [some (.fm f), some (.adr p1), some (.adr p2), some (.adr p3), some (.fm g), some (.bl false), none] = [some (.fm f), some (.adr p1), some (.adr p2), some (.adr p3), o1, o2, none] ∧
            [(p3, OD.lst ((L ++ [(g, true)] ++ M.map (·, false)).map fun x => .tup [.fm x.1, .bl x.2])), (p2, .dp (kns (K ++ [g]))), (p1, .lst (F.map .fm))] = [(p3, .lst (L'.map fun x => .tup [.fm x.1, .bl x.2])), (p2, .dp (kns K')), (p1, .lst (F'.map .fm))] := by
          intro M e
          subst e
          have := Fm.inner_len g
          refine ⟨_, ?_, K ++ [g], F, _, some (.fm g), some (.bl false), pw2, rfl, rfl, rfl⟩
          simp only [List.length_append, List.length_cons, List.length_nil, List.length_map]
          omega
        cases g with
        | «at» c =>
          walk_at "st"
          refine bo_inT2 (neg := false) rfl rfl rfl ?_
          walk_at "st"
          simpa using step [] rfl
        | no =>
          walk_at "st"
          refine bo_inT2 (neg := false) rfl rfl rfl ?_
          walk_at "st"
          simpa using step [] rfl
        | imp a b =>
          walk_at "st"
          refine bo_inT2 (neg := false) rfl rfl rfl ?_
          walk_at "st"
          refine ev_extend ?_
          walk_at "st"
          refine ⟨p3, _, [], _, rfl, rfl, ?_⟩
          refine ea_cons (ev_lcU (ei_tup ?_))
          walk_at "st"
          simp only [partsD]
          walk_at "st"
          refine ⟨_, _, [], _, rfl, rfl, by simp; omega, ?_⟩
          simpa using step [a, b] rfl
        | all a =>
          walk_at "st"
          refine bo_inT2 (neg := false) rfl rfl rfl ?_
          walk_at "st"
          refine ev_extend ?_
          walk_at "st"
          refine ⟨p3, _, [], _, rfl, rfl, ?_⟩
          refine ea_cons (ev_lcU (ei_tup ?_))
          walk_at "st"
          simp only [partsD]
          walk_at "st"
          refine ⟨_, _, [], _, rfl, rfl, by simp; omega, ?_⟩
          simpa using step [a] rfl
end
section
abbrev s_is_ascending : Stmt := top 60
theorem sc_is_ascending : FnScope ["some", "one", "other"] ["some"] (defScope s_is_ascending) := ⟨rfl, rfl, rfl, by decide +kernel, rfl, by decide +kernel, by decide +kernel⟩
theorem c_is_ascending {P : Program} {w : World} {K : PySem.W.Frag} {mg : Str → Option Value} {base : Heap} {cl : Nat → Addr} {f : Addr} {fd : FuncData} (hm : mg "is_ascending" = some (.ref f)) (B : Blt mg) (Z : ZZ K w mg cl) (Fn : Fun K "is_ascending" "is_ascending" s_is_ascending f fd) : Cal P w K mg base 1 "is_ascending" (spN FK ⟨K, cl⟩ S_ascend) [] := by
  have fz := Z.z0
  have gz := Z.z1
  refine calD hm Fn sc_is_ascending (by intro ds W post h; first | (obtain ⟨rfl, _⟩ := h; rfl) | (obtain ⟨_, rfl, _⟩ := h; rfl) | (obtain ⟨_, _, rfl, _⟩ := h; rfl) | (obtain ⟨_, _, _, rfl, _⟩ := h; rfl) | (obtain ⟨_, _, _, _, rfl, _⟩ := h; rfl) | (obtain ⟨_, _, _, _, _, rfl, _⟩ := h; rfl) | (obtain ⟨_, _, _, _, _, _, rfl, _⟩ := h; rfl) | (obtain ⟨_, _, _, _, _, _, _, rfl, _⟩ := h; rfl) | (obtain ⟨_, _, _, _, _, _, _, _, rfl, _⟩ := h; rfl) | (obtain ⟨_, _, _, _, _, _, _, _, _, rfl, _⟩ := h; rfl) | (obtain ⟨_, _, _, _, _, _, _, _, _, _, rfl, _⟩ := h; rfl) | (obtain ⟨_, _, _, _, _, _, _, _, _, _, _, rfl, _⟩ := h; rfl)) (fun _ _ _ _ _ _ us hl => match us, hl with | [_], _ => rfl) fun cdv A outer s H E hr => ⟨_, pss_one (ps_ret (pe_callB (cr_all rfl) (by rfl) B.all bt_all (pa_cons (pe_lc (own := [("one", 1), ("other", 2)]) (by rfl) sc_is_ascending.nd (pi_zipK (by rfl) B.zip (pa_cons (pe_slice (SlR.or sl_tupA sl_str) (pv 0) po_none (po_some (pe_un un_neg pe_int))) (pa_cons (pe_slice (SlR.or sl_tupA sl_str) (pv 0) (po_some pe_int) po_none) pa_nil))) (blkOk_by (own := [("one", 1), ("other", 2)]) (N := ["some", "one", "other"]) (sc := defScope s_is_ascending) (by decide +kernel)) (fun _ _ _ _ _ => (pg_tupK (K := K) rfl (n := 2) rfl (pgs_cons (pg_name (i := 1) sc_is_ascending.nd rfl (Or.inl rfl)) (pgs_cons (pg_name (i := 2) sc_is_ascending.nd rfl (Or.inl rfl)) pgs_nil)))) (fun _ _ _ _ _ => pts_nil) (fun _ _ _ _ _ => (pe_cmpR (op_or op_lt op_lt_str) (pv 1) (pv 2) (nomark _)))) pa_nil))), ?_⟩
  rintro ds W post ⟨d, rfl, rfl, k, ⟨r, rfl, hl, hp⟩ | ⟨s, rfl, hl, hp⟩⟩
  try dsimp only [cxOf, Cx.nox, Cx.wish]
  · have h16 := sizeLine_eq
    walk_at "st"
    refine ev_lcM (ei_zipK ?_)
    walk_at "st"
    refine ca_slOrL (ca_slT ?_)
    rw [cutD_init, map_take_sub]
    walk_at "st"
    refine ca_slOrL (ca_slT ?_)
    rw [cutD_d1, map_drop_1]
    walk_at "st"
    refine ⟨_, _, _, _, rfl, .inr (.inl rfl), .inr (.inl rfl), List.replicate _ (.bl true), fun i d e hd he => ?_, List.length_replicate, by rw [pairs2_len]; simp; omega, ?_⟩
    · obtain ⟨x, y, hx, hy, rfl⟩ := pairs2_get hd
      rw [List.getElem?_map] at hx hy
      obtain ⟨a, ha, rfl⟩ := Option.map_eq_some_iff.mp hx
      obtain ⟨b, hb, rfl⟩ := Option.map_eq_some_iff.mp hy
      have lt := adj hp ha hb
      have ee := List.eq_of_mem_replicate (List.mem_of_getElem? he)
      subst ee
      refine tw_tup rfl (tws_cons (tw_name (by simp) (tws_cons (tw_name (by simp) (tws_nil ?_)))))
      walk_at "st"
      refine ⟨rfl, ?_⟩
      walk_at "st"
      refine bo_orL (bo_I0 ?_)
      refine ⟨?_, rfl⟩
      rw [decide_eq_true (by omega)]
    · rw [← yes_bl]
      refine ea_nil (ca_all (.inl (.inl rfl)) ?_)
      rw [all_yes]
      exact k
  · have h16 := sizeLine_eq
    have hs : (lets s).length ≤ 100 := by rw [← str_len]; exact hl
    walk_at "st"
    refine ev_lcM (ei_zipK ?_)
    walk_at "st"
    refine ca_slOrR (ca_slS (by omega) ?_)
    walk_at "st"
    refine ca_slOrR (ca_slS (by omega) ?_)
    walk_at "st"
    refine ⟨_, _, _, _, rfl, .inr (.inr ⟨_, rfl, rfl⟩), .inr (.inr ⟨_, rfl, rfl⟩), List.replicate _ (.bl true), fun i d e hd he => ?_, List.length_replicate, by rw [List.length_replicate, pairs2_len, List.length_map, cutS_init, List.length_take]; omega, ?_⟩
    · obtain ⟨x, y, hx, hy, rfl⟩ := pairs2_get hd
      rw [List.getElem?_map] at hx hy
      rw [cutS_init] at hx
      rw [cutS_d1] at hy
      obtain ⟨a, ha, rfl⟩ := Option.map_eq_some_iff.mp hx
      obtain ⟨b, hb, rfl⟩ := Option.map_eq_some_iff.mp hy
      have lt := adj hp ha hb
      have ee := List.eq_of_mem_replicate (List.mem_of_getElem? he)
      subst ee
      refine tw_tup rfl (tws_cons (tw_name (by simp) (tws_cons (tw_name (by simp) (tws_nil ?_)))))
      walk_at "st"
      refine ⟨rfl, ?_⟩
      walk_at "st"
      refine bo_orR (bo_ltS ?_)
      refine ⟨?_, rfl⟩
      rw [decide_eq_true (by show [a] < [b]; exact List.Lex.rel lt)]
    · rw [← yes_bl]
      refine ea_nil (ca_all (.inl (.inl rfl)) ?_)
      rw [all_yes]
      exact k
abbrev s_is_below : Stmt := top 61
theorem sc_is_below : FnScope ["point", "thing", "other"] ["point", "thing"] (defScope s_is_below) := ⟨rfl, rfl, rfl, by decide +kernel, rfl, by decide +kernel, by decide +kernel⟩
theorem c_is_below {P : Program} {w : World} {K : PySem.W.Frag} {mg : Str → Option Value} {base : Heap} {cl : Nat → Addr} {f : Addr} {fd : FuncData} (hm : mg "is_below" = some (.ref f)) (B : Blt mg) (Z : ZZ K w mg cl) (Fn : Fun K "is_below" "is_below" s_is_below f fd)
    (c_is_ascending : Cal P w K mg base 1 "is_ascending" (spN FK ⟨K, cl⟩ S_ascend) []) : Cal P w K mg base 2 "is_below" (spN FK ⟨K, cl⟩ S_isbelow) [] := by
  have fz := Z.z0
  have gz := Z.z1
  refine calD hm Fn sc_is_below (by intro ds W post h; first | (obtain ⟨rfl, _⟩ := h; rfl) | (obtain ⟨_, rfl, _⟩ := h; rfl) | (obtain ⟨_, _, rfl, _⟩ := h; rfl) | (obtain ⟨_, _, _, rfl, _⟩ := h; rfl) | (obtain ⟨_, _, _, _, rfl, _⟩ := h; rfl) | (obtain ⟨_, _, _, _, _, rfl, _⟩ := h; rfl) | (obtain ⟨_, _, _, _, _, _, rfl, _⟩ := h; rfl) | (obtain ⟨_, _, _, _, _, _, _, rfl, _⟩ := h; rfl) | (obtain ⟨_, _, _, _, _, _, _, _, rfl, _⟩ := h; rfl) | (obtain ⟨_, _, _, _, _, _, _, _, _, rfl, _⟩ := h; rfl) | (obtain ⟨_, _, _, _, _, _, _, _, _, _, rfl, _⟩ := h; rfl) | (obtain ⟨_, _, _, _, _, _, _, _, _, _, _, rfl, _⟩ := h; rfl)) (fun _ _ _ _ _ _ us hl => match us, hl with | [_, _], _ => rfl) fun cdv A outer s H E hr => ⟨_, pss_cons (ps_if (pt_not (pt_val (pe_callB call_isi (by rfl) B.isinstance bt_isinstance (pa_cons (pv 1) (pa_cons (pe_bltn (by rfl) B.tuple bt_tuple (relV_ty _)) pa_nil))))) (pss_one (ps_ret pe_bl)) (pss_nil))
 (pss_cons (ps_for PassesOwn.never rfl (pi_tup (pv 1)) (pg_name (i := 2) sc_is_below.nd rfl (Or.inl rfl)) (pss_one (ps_if (PW.pt (pw_or (pt_not (pt_val (pe_callB call_isi (by rfl) B.isinstance bt_isinstance (pa_cons (pv 2) (pa_cons (pe_bltn (by rfl) B.int bt_int (relV_ty _)) pa_nil))))) (pw_or (pt_val (pe_callB call_isi (by rfl) B.isinstance bt_isinstance (pa_cons (pv 2) (pa_cons (pe_bltn (by rfl) B.bool bt_bool (relV_ty _)) pa_nil)))) (pw_or1 (pt_not (pt_chain op_le op_lt pe_int (pv 2) (pv 0))))))) (pss_one (ps_ret pe_bl)) (pss_nil))))
 (pss_one (ps_ret (pe_c c_is_ascending hr (by omega) (by rfl) (pa_cons (pv 1) pa_nil))))), ?_⟩
  rintro ds W post ⟨i, r, rfl, rfl, hi, hp, hk, k⟩
  try dsimp only [cxOf, Cx.nox, Cx.wish]
  have h16 := sizeLine_eq
  have hl : r.length ≤ 100 := by
    have h1 := hp.imp (S := (· ≠ ·)) fun h => Nat.ne_of_lt h
    have h2 := List.Nodup.length_le_of_subset (l₁ := r) (l₂ := List.range i) h1 fun x hx => List.mem_range.mpr (hk x hx)
    rw [List.length_range] at h2
    omega
  walk_at "st"
  refine sw_for (ei_tup ?_)
  walk_at "st"
  refine ⟨fun j G' W' => W' = [] ∧ ∃ o, G' = [some (natD i), some (rowD r), o], ⟨rfl, _, rfl⟩, ?_, ?_⟩
  · rintro j d G' W' hd ⟨rfl, o, rfl⟩
    rw [List.getElem?_map] at hd
    obtain ⟨x, hx, rfl⟩ := Option.map_eq_some_iff.mp hd
    have lt := hk x (List.mem_of_getElem? hx)
    walk_at "st"
    refine if_not (by simp; omega) ?_
    walk_at "st"
    exact ⟨rfl, _, rfl⟩
  · rintro G' W' ⟨rfl, o, rfl⟩
    walk_at "st"
    refine hand0 ⟨_, rfl, rfl, k, .inl ⟨r, rfl, hl, hp⟩⟩
    try simp only [List.nil_append]
    try walk_at "st"
abbrev s_are_below : Stmt := top 62
theorem sc_are_below : FnScope ["thing", "point", "below"] ["thing"] (defScope s_are_below) := ⟨rfl, rfl, rfl, by decide +kernel, rfl, by decide +kernel, by decide +kernel⟩
theorem c_are_below {P : Program} {w : World} {K : PySem.W.Frag} {mg : Str → Option Value} {base : Heap} {cl : Nat → Addr} {f : Addr} {fd : FuncData} (hm : mg "are_below" = some (.ref f)) (B : Blt mg) (Z : ZZ K w mg cl) (Fn : Fun K "are_below" "are_below" s_are_below f fd)
    (c_is_below : Cal P w K mg base 2 "is_below" (spN FK ⟨K, cl⟩ S_isbelow) []) : Cal P w K mg base 3 "are_below" (spN FK ⟨K, cl⟩ S_arebelow) [] := by
  have fz := Z.z0
  have gz := Z.z1
  refine calD hm Fn sc_are_below (by intro ds W post h; first | (obtain ⟨rfl, _⟩ := h; rfl) | (obtain ⟨_, rfl, _⟩ := h; rfl) | (obtain ⟨_, _, rfl, _⟩ := h; rfl) | (obtain ⟨_, _, _, rfl, _⟩ := h; rfl) | (obtain ⟨_, _, _, _, rfl, _⟩ := h; rfl) | (obtain ⟨_, _, _, _, _, rfl, _⟩ := h; rfl) | (obtain ⟨_, _, _, _, _, _, rfl, _⟩ := h; rfl) | (obtain ⟨_, _, _, _, _, _, _, rfl, _⟩ := h; rfl) | (obtain ⟨_, _, _, _, _, _, _, _, rfl, _⟩ := h; rfl) | (obtain ⟨_, _, _, _, _, _, _, _, _, rfl, _⟩ := h; rfl) | (obtain ⟨_, _, _, _, _, _, _, _, _, _, rfl, _⟩ := h; rfl) | (obtain ⟨_, _, _, _, _, _, _, _, _, _, _, rfl, _⟩ := h; rfl)) (fun _ _ _ _ _ _ us hl => match us, hl with | [_], _ => rfl) fun cdv A outer s H E hr => ⟨_, pss_cons (ps_if (PW.pt (pw_or (pt_not (pt_val (pe_callB call_isi (by rfl) B.isinstance bt_isinstance (pa_cons (pv 0) (pa_cons (pe_bltn (by rfl) B.tuple bt_tuple (relV_ty _)) pa_nil))))) (pw_or1 (pt_cmpR op_eq (pe_callB call_len (by rfl) B.len bt_len (pa_cons (pv 0) pa_nil)) pe_int (nomark _))))) (pss_one (ps_ret pe_bl)) (pss_nil))
 (pss_one (ps_ret (pe_callB (cr_all rfl) (by rfl) B.all bt_all (pa_cons (pe_lc (own := [("point", 1), ("below", 2)]) (by rfl) sc_are_below.nd (pi_enumK (by rfl) B.enumerate (pa_cons (pv 0) pa_nil)) (blkOk_by (own := [("point", 1), ("below", 2)]) (N := ["thing", "point", "below"]) (sc := defScope s_are_below) (by decide +kernel)) (fun _ _ _ _ _ => (pg_tupK (K := K) rfl (n := 2) rfl (pgs_cons (pg_name (i := 1) sc_are_below.nd rfl (Or.inl rfl)) (pgs_cons (pg_name (i := 2) sc_are_below.nd rfl (Or.inl rfl)) pgs_nil)))) (fun _ _ _ _ _ => pts_nil) (fun _ _ _ _ _ => (pe_c c_is_below hr (by omega) (by rfl) (pa_cons (pv 1) (pa_cons (pv 2) pa_nil))))) pa_nil)))), ?_⟩
  rintro ds W post ⟨rs, rfl, rfl, hr, hn, k⟩
  try dsimp only [cxOf, Cx.nox, Cx.wish]
  have h16 := sizeLine_eq
  have hf := hr.few
  have hne : rs.length ≠ 0 := fun e => hn (List.length_eq_zero_iff.mp e)
  walk_at "st"
  refine if_dec (fun h => ?_) (fun h => ?_)
  · exact absurd (by simpa using h) hn
  walk_at "st"
  refine ev_lcM (ei_enumK ?_)
  walk_at "st"
  refine ⟨_, _, rfl, .inr (.inl rfl), List.replicate _ (.bl true), fun i d e hd he => ?_, List.length_replicate, by rw [List.length_replicate, pairsD_len, List.length_map]; omega, ?_⟩
  · obtain ⟨x, hx, rfl⟩ := pairsD_get hd
    rw [List.getElem?_map] at hx
    obtain ⟨r, hr2, rfl⟩ := Option.map_eq_some_iff.mp hx
    obtain ⟨a1, a2⟩ := hr.asc i r hr2
    have hi := (List.getElem?_eq_some_iff.mp hr2).1
    have ee := List.eq_of_mem_replicate (List.mem_of_getElem? he)
    subst ee
    refine tw_tup rfl (tws_cons (tw_name (by simp) (tws_cons (tw_name (by simp) (tws_nil ?_)))))
    walk_at "st"
    refine ⟨rfl, ?_⟩
    walk_at "st"
    refine hand0 ⟨0 + i, r, rfl, rfl, by omega, a1, fun k hk => by have := a2 k hk; omega, rfl, rfl⟩
    try simp only [List.nil_append]
    try walk_at "st"
  · rw [← yes_bl]
    refine ea_nil (ca_all (.inl (.inl rfl)) ?_)
    rw [all_yes]
    exact k
abbrev s_is_letters : Stmt := top 63
theorem sc_is_letters : FnScope ["thing", "letter"] ["thing"] (defScope s_is_letters) := ⟨rfl, rfl, rfl, by decide +kernel, rfl, by decide +kernel, by decide +kernel⟩
theorem c_is_letters {P : Program} {w : World} {K : PySem.W.Frag} {mg : Str → Option Value} {base : Heap} {cl : Nat → Addr} {f : Addr} {fd : FuncData} (hm : mg "is_letters" = some (.ref f)) (B : Blt mg) (Z : ZZ K w mg cl) (Fn : Fun K "is_letters" "is_letters" s_is_letters f fd)
    (c_is_atom : Cal P w K mg base 1 "is_atom" (spN FK ⟨K, cl⟩ S_isatom) [])
    (c_is_ascending : Cal P w K mg base 1 "is_ascending" (spN FK ⟨K, cl⟩ S_ascend) []) : Cal P w K mg base 2 "is_letters" (spN FK ⟨K, cl⟩ S_isletters) [] := by
  have fz := Z.z0
  have gz := Z.z1
  refine calD hm Fn sc_is_letters (by intro ds W post h; first | (obtain ⟨rfl, _⟩ := h; rfl) | (obtain ⟨_, rfl, _⟩ := h; rfl) | (obtain ⟨_, _, rfl, _⟩ := h; rfl) | (obtain ⟨_, _, _, rfl, _⟩ := h; rfl) | (obtain ⟨_, _, _, _, rfl, _⟩ := h; rfl) | (obtain ⟨_, _, _, _, _, rfl, _⟩ := h; rfl) | (obtain ⟨_, _, _, _, _, _, rfl, _⟩ := h; rfl) | (obtain ⟨_, _, _, _, _, _, _, rfl, _⟩ := h; rfl) | (obtain ⟨_, _, _, _, _, _, _, _, rfl, _⟩ := h; rfl) | (obtain ⟨_, _, _, _, _, _, _, _, _, rfl, _⟩ := h; rfl) | (obtain ⟨_, _, _, _, _, _, _, _, _, _, rfl, _⟩ := h; rfl) | (obtain ⟨_, _, _, _, _, _, _, _, _, _, _, rfl, _⟩ := h; rfl)) (fun _ _ _ _ _ _ us hl => match us, hl with | [_], _ => rfl) fun cdv A outer s H E hr => ⟨_, pss_one (ps_ret (pe_and (pe_callB call_isi (by rfl) B.isinstance bt_isinstance (pa_cons (pv 0) (pa_cons (pe_bltn (by rfl) B.str bt_str (relV_ty _)) pa_nil))) (pe_and (pe_callB (cr_all rfl) (by rfl) B.all bt_all (pa_cons (pe_lc (own := [("letter", 1)]) (by rfl) sc_is_letters.nd (pi_str (pv 0)) (blkOk_by (own := [("letter", 1)]) (N := ["thing", "letter"]) (sc := defScope s_is_letters) (by decide +kernel)) (fun _ _ _ _ _ => (pg_name (i := 1) sc_is_letters.nd rfl (Or.inl rfl))) (fun _ _ _ _ _ => pts_nil) (fun _ _ _ _ _ => (pe_c c_is_atom hr (by omega) (by rfl) (pa_cons (pv 1) pa_nil)))) pa_nil)) (pe_one (pe_c c_is_ascending hr (by omega) (by rfl) (pa_cons (pv 0) pa_nil)))))), ?_⟩
  rintro ds W post ⟨s, rfl, rfl, hl, hp, k⟩
  try dsimp only [cxOf, Cx.nox, Cx.wish]
  have h16 := sizeLine_eq
  have hs : s.length ≤ 100 := letters_len hl hp
  have hs2 : (lets s).length ≤ 100 := by rw [← str_len]; exact hs
  walk_at "st"
  refine ev_lcM (ei_str ?_)
  walk_at "st"
  refine ⟨List.replicate (lets s).length (.bl true), fun i d e hd he => ?_, by rw [List.length_replicate, List.length_map], by rw [List.length_replicate]; omega, ?_⟩
  · rw [List.getElem?_map] at hd
    obtain ⟨c, hc, rfl⟩ := Option.map_eq_some_iff.mp hd
    have hc := hl c (List.mem_of_getElem? hc)
    have ee := List.eq_of_mem_replicate (List.mem_of_getElem? he)
    subst ee
    refine tw_name (by simp) ?_
    walk_at "st"
    refine ⟨rfl, ?_⟩
    walk_at "st"
    refine hand0 ⟨_, rfl, rfl, Nat.le_of_ble_eq_true rfl, ?_⟩
    try simp only [List.nil_append]
    try walk_at "st"
    rw [show (⟨#[c]⟩ : Str) = sg c from rfl, isLet_sg, decide_eq_true hc]
    simp
  · rw [← yes_bl]
    refine ea_nil (ca_all (.inl (.inl rfl)) ?_)
    rw [all_yes]
    refine ⟨_, rfl, ?_⟩
    walk_at "st"
    refine hand0 ⟨_, rfl, rfl, k, .inr ⟨s, rfl, hs, hp⟩⟩
    try simp only [List.nil_append]
    try walk_at "st"
abbrev s_are_letters : Stmt := top 64
theorem sc_are_letters : FnScope ["many", "thing", "letters"] ["many", "thing"] (defScope s_are_letters) := ⟨rfl, rfl, rfl, by decide +kernel, rfl, by decide +kernel, by decide +kernel⟩
theorem c_are_letters {P : Program} {w : World} {K : PySem.W.Frag} {mg : Str → Option Value} {base : Heap} {cl : Nat → Addr} {f : Addr} {fd : FuncData} (hm : mg "are_letters" = some (.ref f)) (B : Blt mg) (Z : ZZ K w mg cl) (Fn : Fun K "are_letters" "are_letters" s_are_letters f fd)
    (c_is_letters : Cal P w K mg base 2 "is_letters" (spN FK ⟨K, cl⟩ S_isletters) []) : Cal P w K mg base 3 "are_letters" (spN FK ⟨K, cl⟩ S_areletters) [] := by
  have fz := Z.z0
  have gz := Z.z1
  refine calD hm Fn sc_are_letters (by intro ds W post h; first | (obtain ⟨rfl, _⟩ := h; rfl) | (obtain ⟨_, rfl, _⟩ := h; rfl) | (obtain ⟨_, _, rfl, _⟩ := h; rfl) | (obtain ⟨_, _, _, rfl, _⟩ := h; rfl) | (obtain ⟨_, _, _, _, rfl, _⟩ := h; rfl) | (obtain ⟨_, _, _, _, _, rfl, _⟩ := h; rfl) | (obtain ⟨_, _, _, _, _, _, rfl, _⟩ := h; rfl) | (obtain ⟨_, _, _, _, _, _, _, rfl, _⟩ := h; rfl) | (obtain ⟨_, _, _, _, _, _, _, _, rfl, _⟩ := h; rfl) | (obtain ⟨_, _, _, _, _, _, _, _, _, rfl, _⟩ := h; rfl) | (obtain ⟨_, _, _, _, _, _, _, _, _, _, rfl, _⟩ := h; rfl) | (obtain ⟨_, _, _, _, _, _, _, _, _, _, _, rfl, _⟩ := h; rfl)) (fun _ _ _ _ _ _ us hl => match us, hl with | [_, _], _ => rfl) fun cdv A outer s H E hr => ⟨_, pss_one (ps_ret (pe_and (pe_callB call_isi (by rfl) B.isinstance bt_isinstance (pa_cons (pv 1) (pa_cons (pe_bltn (by rfl) B.tuple bt_tuple (relV_ty _)) pa_nil))) (pe_and (pe_cmpR op_eq (pe_callB call_len (by rfl) B.len bt_len (pa_cons (pv 1) pa_nil)) (pv 0) (nomark _)) (pe_one (pe_callB (cr_all rfl) (by rfl) B.all bt_all (pa_cons (pe_lc (own := [("letters", 2)]) (by rfl) sc_are_letters.nd (pi_tup (pv 1)) (blkOk_by (own := [("letters", 2)]) (N := ["many", "thing", "letters"]) (sc := defScope s_are_letters) (by decide +kernel)) (fun _ _ _ _ _ => (pg_name (i := 2) sc_are_letters.nd rfl (Or.inl rfl))) (fun _ _ _ _ _ => pts_nil) (fun _ _ _ _ _ => (pe_c c_is_letters hr (by omega) (by rfl) (pa_cons (pv 2) pa_nil)))) pa_nil)))))), ?_⟩
  rintro ds W post ⟨l, rfl, rfl, hl, hs, k⟩
  try dsimp only [cxOf, Cx.nox, Cx.wish]
  have h16 := sizeLine_eq
  walk_at "st"
  refine if_dec (fun h => ?_) (fun h => ?_)
  · walk_at "st"
    refine ev_lcM (ei_tup ?_)
    walk_at "st"
    refine ⟨List.replicate l.length (.bl true), fun i d e hd he => ?_, by simp, by rw [List.length_replicate]; omega, ?_⟩
    · rw [List.getElem?_map] at hd
      obtain ⟨s, hs2, rfl⟩ := Option.map_eq_some_iff.mp hd
      obtain ⟨a1, a2⟩ := hs s (List.mem_of_getElem? hs2)
      have ee := List.eq_of_mem_replicate (List.mem_of_getElem? he)
      subst ee
      refine tw_name (by simp) ?_
      walk_at "st"
      refine ⟨rfl, ?_⟩
      walk_at "st"
      refine hand0 ⟨s, rfl, rfl, a1, a2, rfl, rfl⟩
      try simp only [List.nil_append]
      try walk_at "st"
    · rw [← yes_bl]
      refine ea_nil (ca_all (.inl (.inl rfl)) ?_)
      rw [all_yes]
      exact k
  · exact absurd (by simp) h
abbrev s_beneath_by : Stmt := top 65
theorem sc_beneath_by : FnScope ["below", "found", "points", "met", "point", "other"] ["below"] (defScope s_beneath_by) := ⟨rfl, rfl, rfl, by decide +kernel, rfl, by decide +kernel, by decide +kernel⟩
theorem c_beneath_by {P : Program} {w : World} {K : PySem.W.Frag} {mg : Str → Option Value} {base : Heap} {cl : Nat → Addr} {f : Addr} {fd : FuncData} (hm : mg "beneath_by" = some (.ref f)) (B : Blt mg) (Z : ZZ K w mg cl) (Fn : Fun K "beneath_by" "beneath_by" s_beneath_by f fd) : Cal P w K mg base 1 "beneath_by" (spN FK ⟨K, cl⟩ S_beneathby) [] := by
  have fz := Z.z0
  have gz := Z.z1
  refine calD hm Fn sc_beneath_by (by intro ds W post h; first | (obtain ⟨rfl, _⟩ := h; rfl) | (obtain ⟨_, rfl, _⟩ := h; rfl) | (obtain ⟨_, _, rfl, _⟩ := h; rfl) | (obtain ⟨_, _, _, rfl, _⟩ := h; rfl) | (obtain ⟨_, _, _, _, rfl, _⟩ := h; rfl) | (obtain ⟨_, _, _, _, _, rfl, _⟩ := h; rfl) | (obtain ⟨_, _, _, _, _, _, rfl, _⟩ := h; rfl) | (obtain ⟨_, _, _, _, _, _, _, rfl, _⟩ := h; rfl) | (obtain ⟨_, _, _, _, _, _, _, _, rfl, _⟩ := h; rfl) | (obtain ⟨_, _, _, _, _, _, _, _, _, rfl, _⟩ := h; rfl) | (obtain ⟨_, _, _, _, _, _, _, _, _, _, rfl, _⟩ := h; rfl) | (obtain ⟨_, _, _, _, _, _, _, _, _, _, _, rfl, _⟩ := h; rfl)) (fun _ _ _ _ _ _ us hl => match us, hl with | [_], _ => rfl) fun cdv A outer s H E hr => ⟨_, pss_cons (ps_set (i := 1) sc_beneath_by.nd rfl (Or.inl rfl) (pe_lst pa_nil))
 (pss_cons (ps_for PassesOwn.never rfl (pi_tup (pv 0)) (pg_name (i := 2) sc_beneath_by.nd rfl (Or.inl rfl)) (pss_cons (ps_set (i := 3) sc_beneath_by.nd rfl (Or.inl rfl) pe_dnewK)
 (pss_cons (ps_for PassesOwn.never rfl (pi_tup (pv 2)) (pg_name (i := 4) sc_beneath_by.nd rfl (Or.inl rfl)) (pss_cons (ps_dput (by exact hu_of hr) (pv 3) (pv 4) pe_bl rfl)
 (pss_one (ps_expr (pe_dupd (pv 3) (pe_dc (own := [("other", 5)]) (by rfl) sc_beneath_by.nd (pi_tup (pe_ix ix_list (pv 1) (pv 4) (fun _ _ => rfl))) (blkOk_by (own := [("other", 5)]) (N := ["below", "found", "points", "met", "point", "other"]) (sc := defScope s_beneath_by) (by decide +kernel)) (fun _ _ _ _ _ => (pg_name (i := 5) sc_beneath_by.nd rfl (Or.inl rfl))) (fun _ _ _ _ _ => pts_nil) (fun _ _ _ _ _ => (pv 5)) (fun _ _ _ _ _ => pe_bl)) ⟨by rfl, by rfl, by rfl, by rfl⟩)))))
 (pss_one (ps_expr (pe_bm PySem.F.plainAttrs_list PySem.F.slot_list_append PySem.F.type_list_append mt_append (pv 1) (pa_cons (pe_callTy call_tuple_of (by rfl) B.tuple bt_tuple (pa_cons (pe_callB (call_sortedDI rfl) (by rfl) B.sorted bt_sorted (pa_cons (pv 3) pa_nil)) pa_nil)) pa_nil)))))))
 (pss_one (ps_ret (pv 1)))), ?_⟩
  rintro ds W post ⟨rs, rfl, rfl, hr, k⟩
  try dsimp only [cxOf, Cx.nox, Cx.wish]
  have h16 := sizeLine_eq
  refine sw_seq (sw_set (ev_lst ?_))
  walk_at "st"
  intro p1 hp1
  refine sw_seq (sw_for (ei_tup ?_))
  walk_at "st"
  refine ⟨fun j G' W' => W' = [(p1, .lst ((bensF (rs.take j)).map rowD))] ∧ ∃ o2 o3 o4, G' = [some (rowsD rs), some (.adr p1), o2, o3, o4, none], ⟨rfl, _, _, _, rfl⟩, ?_, ?_⟩
  · rintro j d G' W' hd ⟨rfl, o2, o3, o4, rfl⟩
    rw [List.getElem?_map] at hd
    obtain ⟨r, hr2, rfl⟩ := Option.map_eq_some_iff.mp hd
    obtain ⟨a1, a2⟩ := hr.asc j r hr2
    have hj := (List.getElem?_eq_some_iff.mp hr2).1
    have hf := hr.few
    have hlen : (bensF (rs.take j)).length = j := by rw [bensF_len, List.length_take]; omega
    have etk : rs.take (j + 1) = rs.take j ++ [r] := by rw [List.take_add_one, hr2]; rfl
    refine tg_name ?_
    refine sw_seq (sw_set (ev_dnew fun p2 hp2 => ?_))
    refine sw_seq (sw_for (ei_tup ?_))
    walk_at "st"
    refine ⟨fun i G' W' => ∃ ks : List Nat, ks.Nodup ∧ (∀ x, x ∈ ks ↔ x ∈ r.take i ∨ ∃ k ∈ r.take i, x ∈ (bensF (rs.take j)).getD k []) ∧ W' = [(p2, .dp (kni ks)), (p1, .lst ((bensF (rs.take j)).map rowD))] ∧ ∃ o4, G' = [some (rowsD rs), some (.adr p1), some (rowD r), some (.adr p2), o4, none], ⟨[], List.nodup_nil, by simp, rfl, _, rfl⟩, ?_, ?_⟩
    · rintro i d G' W' hd ⟨ks, nd, hm, rfl, o4, rfl⟩
      rw [List.getElem?_map] at hd
      obtain ⟨k, hk, rfl⟩ := Option.map_eq_some_iff.mp hd
      have hkj := a2 k (List.mem_of_getElem? hk)
      have hb : (bensF (rs.take j))[k]? = some ((bensF (rs.take j)).getD k []) := by
        rw [List.getD_eq_getElem?_getD, List.getElem?_eq_getElem (by omega)]
        rfl
      have hbl := bensF_low (hr.take j) k _ hb
      generalize hB : (bensF (rs.take j)).getD k [] = b at hb hbl
      have hks : ks.length ≤ j := low_len nd fun x hx => by
        rcases (hm x).mp hx with h | ⟨q, hq, h⟩
        · exact a2 x (List.mem_of_mem_take h)
        · have hq2 := a2 q (List.mem_of_mem_take hq)
          have hqb : (bensF (rs.take j))[q]? = some ((bensF (rs.take j)).getD q []) := by
            rw [List.getD_eq_getElem?_getD, List.getElem?_eq_getElem (by omega)]
            rfl
          have := bensF_low (hr.take j) q _ hqb x h
          omega
      have hbn : (b.foldl insK []).length ≤ k := low_len (nodup_fold_ins List.nodup_nil) fun x hx => hbl x ((mem_fold_ins.mp hx).resolve_left (by simp))
      walk_at "st"
      refine ⟨p2, kni ks, Sum.inl (k : Int), [], _, rfl, rfl, rfl, by rw [kni_len]; omega, ?_⟩
      rw [put_kni]
      refine sw_drop (ev_dupd ?_)
      walk_at "st"
      refine ⟨⟨_, .inr ⟨_, rfl, List.mem_cons_self⟩⟩, ?_⟩
      refine ev_fz (ev_dc (ei_tup ?_))
      walk_at "st"
      refine bo_ixL (.inr ⟨_, rfl, List.mem_cons_of_mem _ List.mem_cons_self⟩) (at_row (by omega)) ?_
      rw [hB]
      walk_at "st"
      refine ⟨fun t acc W' => W' = [(p2, .dp (kni (insK ks k))), (p1, .lst ((bensF (rs.take j)).map rowD))] ∧ acc = kni ((b.take t).foldl insK []), ⟨rfl, rfl⟩, ?_, ?_⟩
      · rintro t d acc W' hd ⟨rfl, rfl⟩
        rw [List.getElem?_map] at hd
        obtain ⟨x, hx, rfl⟩ := Option.map_eq_some_iff.mp hd
        have ht : ((b.take t).foldl insK []).length ≤ k := low_len (nodup_fold_ins List.nodup_nil) fun x hx => hbl x (List.mem_of_mem_take ((mem_fold_ins.mp hx).resolve_left (by simp)))
        refine tw_name (by simp) ?_
        walk_at "st"
        refine ⟨by rw [kni_len]; omega, rfl, ?_⟩
        rw [put_kni, List.take_add_one, hx, Option.toList_some, List.foldl_append]
        rfl
      · rintro acc W' ⟨rfl, rfl⟩ p3 hp3
        rw [List.length_map, List.take_length]
        refine ⟨p3, _, _, _, rfl, List.Perm.refl _, .dct _ _, ?_⟩
        refine ⟨p2, kni (insK ks k), kni (b.foldl insK []), [], _, rfl, rfl, rfl, ?_, ?_⟩
        · have : (insK ks k).length ≤ ks.length + 1 := by unfold insK; split <;> simp
          rw [kni_len, kni_len]
          omega
        rw [up_kni]
        refine ⟨_, nodup_fold_ins (nodup_insK nd), fun x => ?_, rfl, _, rfl⟩
        rw [mem_fold_ins, mem_insK, mem_fold_ins, hm x, List.take_add_one, hk, Option.toList_some]
        simp only [List.not_mem_nil, false_or, List.mem_append, List.mem_singleton]
        constructor
        · rintro (((h | ⟨q, h1, h2⟩) | h) | h)
          · exact .inl (.inl h)
          · exact .inr ⟨q, .inl h1, h2⟩
          · exact .inl (.inr h)
          · exact .inr ⟨k, .inr rfl, by rw [hB]; exact h⟩
        · rintro ((h | h) | ⟨q, h1 | h1, h2⟩)
          · exact .inl (.inl (.inl h))
          · exact .inl (.inr h)
          · exact .inl (.inl (.inr ⟨q, h1, h2⟩))
          · subst h1
            rw [hB] at h2
            exact .inr h2
    · rintro G' W' ⟨ks, nd, hm, rfl, o4, rfl⟩
      rw [List.length_map, List.take_length] at hm
      have hks : ks.length ≤ j := low_len nd fun x hx => by
        rcases (hm x).mp hx with h | ⟨q, hq, h⟩
        · exact a2 x h
        · have hq2 := a2 q hq
          have hqb : (bensF (rs.take j))[q]? = some ((bensF (rs.take j)).getD q []) := by
            rw [List.getD_eq_getElem?_getD, List.getElem?_eq_getElem (by omega)]
            rfl
          have := bensF_low (hr.take j) q _ hqb x h
          omega
      refine sw_drop (ev_drp (ev_append ?_))
      walk_at "st"
      refine ⟨p1, (bensF (rs.take j)).map rowD, [(p2, .dp (kni ks))], [], rfl, rfl, ?_⟩
      walk_at "st"
      refine ca_sortedDI (ks := ks.map fun (k : Nat) => (k : Int)) (.inr ⟨_, rfl, List.mem_cons_self⟩) (kni_map ks) (by rw [List.length_map]; omega) fun ys hp hs => ?_
      have e := sorted_kni (ms := r ++ (r.map fun k => (bensF (rs.take j)).getD k []).flatten) nd hp hs (fun x => by
        rw [hm x, List.mem_append, List.mem_flatten]
        refine or_congr Iff.rfl ⟨fun ⟨q, h1, h2⟩ => ⟨_, List.mem_map.mpr ⟨q, h1, rfl⟩, h2⟩, fun ⟨l, h1, h2⟩ => ?_⟩
        obtain ⟨q, h3, rfl⟩ := List.mem_map.mp h1
        exact ⟨q, h3, h2⟩)
      subst e
      walk_at "st"
      refine ca_tup (.inl (.inl rfl)) ?_
      walk_at "st"
      refine ⟨(bensF (rs.take j)).map rowD, [(p2, .dp (kni ks))], [], _, rfl, rfl, by rw [List.length_map]; omega, ?_⟩
      refine ⟨[(p1, .lst ((bensF (rs.take j)).map rowD ++ [rowD (ascN (r ++ (r.map fun k => (bensF (rs.take j)).getD k []).flatten))]))], by rw [List.map_map]; exact List.sublist_cons_self _ _, ?_⟩
      refine ⟨?_, _, _, _, rfl⟩
      rw [etk, bensF_snoc, List.map_append]
      rfl
  · rintro G' W' ⟨rfl, o2, o3, o4, rfl⟩
    rw [List.length_map, List.take_length]
    refine sw_fz (i := 1) rfl (List.Perm.refl _) (.lst _) ?_
    walk_at "st"
    exact k
abbrev s_heights_by : Stmt := top 66
theorem sc_heights_by : FnScope ["below", "found", "points", "point"] ["below"] (defScope s_heights_by) := ⟨rfl, rfl, rfl, by decide +kernel, rfl, by decide +kernel, by decide +kernel⟩
theorem c_heights_by {P : Program} {w : World} {K : PySem.W.Frag} {mg : Str → Option Value} {base : Heap} {cl : Nat → Addr} {f : Addr} {fd : FuncData} (hm : mg "heights_by" = some (.ref f)) (B : Blt mg) (Z : ZZ K w mg cl) (Fn : Fun K "heights_by" "heights_by" s_heights_by f fd) : Cal P w K mg base 1 "heights_by" (spN FK ⟨K, cl⟩ S_heightsby) [] := by
  have fz := Z.z0
  have gz := Z.z1
  refine calD hm Fn sc_heights_by (by intro ds W post h; first | (obtain ⟨rfl, _⟩ := h; rfl) | (obtain ⟨_, rfl, _⟩ := h; rfl) | (obtain ⟨_, _, rfl, _⟩ := h; rfl) | (obtain ⟨_, _, _, rfl, _⟩ := h; rfl) | (obtain ⟨_, _, _, _, rfl, _⟩ := h; rfl) | (obtain ⟨_, _, _, _, _, rfl, _⟩ := h; rfl) | (obtain ⟨_, _, _, _, _, _, rfl, _⟩ := h; rfl) | (obtain ⟨_, _, _, _, _, _, _, rfl, _⟩ := h; rfl) | (obtain ⟨_, _, _, _, _, _, _, _, rfl, _⟩ := h; rfl) | (obtain ⟨_, _, _, _, _, _, _, _, _, rfl, _⟩ := h; rfl) | (obtain ⟨_, _, _, _, _, _, _, _, _, _, rfl, _⟩ := h; rfl) | (obtain ⟨_, _, _, _, _, _, _, _, _, _, _, rfl, _⟩ := h; rfl)) (fun _ _ _ _ _ _ us hl => match us, hl with | [_], _ => rfl) fun cdv A outer s H E hr => ⟨_, pss_cons (ps_set (i := 1) sc_heights_by.nd rfl (Or.inr rfl) (pe_lst pa_nil))
 (pss_cons (ps_for PassesOwn.never rfl (pi_tup (pv 0)) (pg_name (i := 2) sc_heights_by.nd rfl (Or.inl rfl)) (pss_one (ps_expr (pe_bm PySem.F.plainAttrs_list PySem.F.slot_list_append PySem.F.type_list_append mt_append (pv 1) (pa_cons (pe_callB (cr_max rfl) (by rfl) B.max bt_max (pa_cons (pe_lst (pa_cons pe_int (StX.pa_star (pe_lc (own := [("point", 3)]) (by rfl) sc_heights_by.nd (pi_tup (pv 2)) (blkOk_by (own := [("point", 3)]) (N := ["below", "found", "points", "point"]) (sc := defScope s_heights_by) (by decide +kernel)) (fun _ _ _ _ _ => (pg_name (i := 3) sc_heights_by.nd rfl (Or.inl rfl))) (fun _ _ _ _ _ => pts_nil) (fun _ _ _ _ _ => (pe_op op_add pe_int (pe_ix (ix_listK (K := K) rfl) (pv 1) (pv 3) (fun _ _ => rfl))))) pa_nil))) pa_nil)) pa_nil)))))
 (pss_one (ps_ret (pv 1)))), ?_⟩
  rintro ds W post ⟨rs, rfl, rfl, hr, k⟩
  try dsimp only [cxOf, Cx.nox, Cx.wish]
  have h16 := sizeLine_eq
  refine sw_seq (sw_set (ev_lst ?_))
  walk_at "st"
  intro p1 hp1
  refine sw_seq (sw_for (ei_tup ?_))
  walk_at "st"
  refine ⟨fun j G' W' => W' = [(p1, .lst ((hgtF (rs.take j)).map natD))] ∧ ∃ o2, G' = [some (rowsD rs), some (.adr p1), o2, none], ⟨rfl, _, rfl⟩, ?_, ?_⟩
  · rintro j d G' W' hd ⟨rfl, o2, rfl⟩
    rw [List.getElem?_map] at hd
    obtain ⟨r, hr2, rfl⟩ := Option.map_eq_some_iff.mp hd
    obtain ⟨a1, a2⟩ := hr.asc j r hr2
    have hj := (List.getElem?_eq_some_iff.mp hr2).1
    have hf := hr.few
    have hlen : (hgtF (rs.take j)).length = j := by rw [hgtF_len, List.length_take]; omega
    have hrl : r.length ≤ j := low_len (a1.imp fun h => Nat.ne_of_lt h) a2
    have etk : rs.take (j + 1) = rs.take j ++ [r] := by rw [List.take_add_one, hr2]; rfl
    refine tg_name ?_
    refine sw_drop (ev_append ?_)
    walk_at "st"
    refine ⟨p1, (hgtF (rs.take j)).map natD, [], [], rfl, rfl, ?_⟩
    walk_at "st"
    refine ea_star (ev_lcM (ei_tup ?_))
    walk_at "st"
    refine ⟨(r.map fun k => 1 + (hgtF (rs.take j)).getD k 0).map natD, fun i d e hd he => ?_, by simp, by simp; omega, ?_⟩
    · rw [List.getElem?_map] at hd
      obtain ⟨k, hk, rfl⟩ := Option.map_eq_some_iff.mp hd
      rw [List.getElem?_map, List.getElem?_map, hk] at he
      have he : some (natD (1 + (hgtF (rs.take j)).getD k 0)) = some e := he
      have hkj := a2 k (List.mem_of_getElem? hk)
      cases he
      refine tw_name (by simp) ?_
      walk_at "st"
      refine ⟨rfl, ?_⟩
      walk_at "st"
      refine bo_ixL (.inr ⟨_, rfl, List.mem_cons_self⟩) (at_nat (by omega)) ?_
      walk_at "st"
      refine ⟨?_, rfl⟩
      show D.int _ = D.int _
      congr 1
    · refine ⟨_, .inl (.inl (.inl rfl)), ?_⟩
      walk_at "st"
      obtain ⟨m1, m2⟩ := fold_max (r.map fun k => 1 + (hgtF (rs.take j)).getD k 0) 0
      refine ⟨by simp; omega, ?_⟩
      refine ea_nil (ca_max (ns := (0 :: r.map fun k => 1 + (hgtF (rs.take j)).getD k 0).map fun (k : Nat) => (k : Int)) (m := (((r.map fun k => 1 + (hgtF (rs.take j)).getD k 0).foldl max 0 : Nat) : Int)) (.inl (.inl (by simp))) (List.mem_map.mpr ⟨_, m1, rfl⟩) (fun y hy => by
        obtain ⟨x, hx, rfl⟩ := List.mem_map.mp hy
        have := m2 x hx
        omega) ?_)
      walk_at "st"
      refine ⟨(hgtF (rs.take j)).map natD, [], [], _, rfl, rfl, by rw [List.length_map]; omega, ?_⟩
      refine ⟨?_, _, rfl⟩
      rw [etk, hgtF_snoc, List.map_append]
      rfl
  · rintro G' W' ⟨rfl, o2, rfl⟩
    rw [List.length_map, List.take_length]
    refine sw_fz (i := 1) rfl (List.Perm.refl _) (.lst _) ?_
    walk_at "st"
    exact k
end
section
abbrev s_Web___init__ : Stmt := inClass (top 67) 0
theorem sc_Web___init__ : FnScope ["self", "below", "atoms"] ["self", "below", "atoms"] (defScope s_Web___init__) := ⟨rfl, rfl, rfl, by decide +kernel, rfl, by decide +kernel, by decide +kernel⟩
theorem m_Web {P : Program} {w : World} {K : PySem.W.Frag} {mg : Str → Option Value} {base : Heap} {cl : Nat → Addr} {f : Addr} {fd : FuncData} (mk : Mk K (cl 1) f) (B : Blt mg) (Z : ZZ K w mg cl) (Fn : Fun K "__init__" "Web.__init__" s_Web___init__ f fd)
    (c_are_below : Cal P w K mg base 3 "are_below" (spN FK ⟨K, cl⟩ S_arebelow) [])
    (c_are_letters : Cal P w K mg base 3 "are_letters" (spN FK ⟨K, cl⟩ S_areletters) [])
    (c_beneath_by : Cal P w K mg base 1 "beneath_by" (spN FK ⟨K, cl⟩ S_beneathby) [])
    (c_heights_by : Cal P w K mg base 1 "heights_by" (spN FK ⟨K, cl⟩ S_heightsby) []) : Mak P w K mg base 4 "Web" (cl 1) (spN FK ⟨K, cl⟩ S_initW) [] := by
  have fz := Z.z0
  have gz := Z.z1
  refine makD mk Z.g_Web Fn sc_Web___init__ (by intro ds W post h; first | (obtain ⟨rfl, _⟩ := h; rfl) | (obtain ⟨_, rfl, _⟩ := h; rfl) | (obtain ⟨_, _, rfl, _⟩ := h; rfl) | (obtain ⟨_, _, _, rfl, _⟩ := h; rfl) | (obtain ⟨_, _, _, _, rfl, _⟩ := h; rfl) | (obtain ⟨_, _, _, _, _, rfl, _⟩ := h; rfl) | (obtain ⟨_, _, _, _, _, _, rfl, _⟩ := h; rfl) | (obtain ⟨_, _, _, _, _, _, _, rfl, _⟩ := h; rfl) | (obtain ⟨_, _, _, _, _, _, _, _, rfl, _⟩ := h; rfl) | (obtain ⟨_, _, _, _, _, _, _, _, _, rfl, _⟩ := h; rfl) | (obtain ⟨_, _, _, _, _, _, _, _, _, _, rfl, _⟩ := h; rfl) | (obtain ⟨_, _, _, _, _, _, _, _, _, _, _, rfl, _⟩ := h; rfl)) (fun _ _ _ _ _ _ us hl => match us, hl with | [_, _, _], _ => rfl) fun cdv A outer s H E hr => ⟨_, pss_cons (ps_if (pt_not (pt_val (pe_c c_are_below hr (by omega) (by rfl) (pa_cons (pv 1) pa_nil)))) (pss_one (ps_never)) (pss_nil))
 (pss_cons (ps_if (pt_not (pt_val (pe_c c_are_letters hr (by omega) (by rfl) (pa_cons (pe_callB call_len (by rfl) B.len bt_len (pa_cons (pv 1) pa_nil)) (pa_cons (pv 2) pa_nil))))) (pss_one (ps_never)) (pss_nil))
 (pss_cons (ps_fld (pv 0) (pv 1) rfl)
 (pss_cons (ps_fld (pv 0) (pv 2) rfl)
 (pss_cons (ps_fld (pv 0) (pe_c c_beneath_by hr (by omega) (by rfl) (pa_cons (pv 1) pa_nil)) rfl)
 (pss_one (ps_fld (pv 0) (pe_c c_heights_by hr (by omega) (by rfl) (pa_cons (pv 1) pa_nil)) rfl)))))), ?_⟩
  rintro ds W post ⟨x, w, rfl, rfl, hw, k⟩
  try dsimp only [cxOf, Cx.nox, Cx.wish]
  have hlen := hw.len
  have hf := hw.rows.few
  walk_at "st"
  refine hand0 ⟨w.below, rfl, rfl, hw.rows, hw.some_, ?_⟩
  try simp only [List.nil_append]
  try walk_at "st"
  refine hand0 ⟨w.atoms, by rw [List.length_map, hlen]; rfl, rfl, by omega, hw.lets, ?_⟩
  try simp only [List.nil_append]
  try walk_at "st"
  refine rcv_newC (c := 1) (nm := wbNames) Z.z1 (by decide +kernel) (by decide +kernel) (by decide) ?_
  walk_at "st"
  refine rcv_newC (c := 1) (nm := wbNames) Z.z1 (by decide +kernel) (by decide +kernel) (by decide) ?_
  walk_at "st"
  refine hand0 ⟨w.below, rfl, rfl, hw.rows, ?_⟩
  try simp only [List.nil_append]
  try walk_at "st"
  refine rcv_newC (c := 1) (nm := wbNames) Z.z1 (by decide +kernel) (by decide +kernel) (by decide) ?_
  walk_at "st"
  refine hand0 ⟨w.below, rfl, rfl, hw.rows, ?_⟩
  try simp only [List.nil_append]
  try walk_at "st"
  refine rcv_newC (c := 1) (nm := wbNames) Z.z1 (by decide +kernel) (by decide +kernel) (by decide) ?_
  exact k
end
section
abbrev s_Web___len__ : Stmt := inClass (top 67) 14
theorem sc_Web___len__ : FnScope ["self"] ["self"] (defScope s_Web___len__) := ⟨rfl, rfl, rfl, by decide +kernel, rfl, by decide +kernel, by decide +kernel⟩
theorem o_len1 {P : Program} {w : World} {K : PySem.W.Frag} {mg : Str → Option Value} {base : Heap} {cl : Nat → Addr} {f : Addr} {fd : FuncData} (o : Own2 K (cl 1) "__len__" f) (B : Blt mg) (Z : ZZ K w mg cl) (Fn : Fun K "__len__" "Web.__len__" s_Web___len__ f fd) : Opn P w K mg base 1 (cl 1) "__len__" (spN FK ⟨K, cl⟩ S_lenW) := by
  have fz := Z.z0
  have gz := Z.z1
  refine opnD o Fn sc_Web___len__ (by intro ds W post h; first | (obtain ⟨rfl, _⟩ := h; rfl) | (obtain ⟨_, rfl, _⟩ := h; rfl) | (obtain ⟨_, _, rfl, _⟩ := h; rfl) | (obtain ⟨_, _, _, rfl, _⟩ := h; rfl) | (obtain ⟨_, _, _, _, rfl, _⟩ := h; rfl) | (obtain ⟨_, _, _, _, _, rfl, _⟩ := h; rfl) | (obtain ⟨_, _, _, _, _, _, rfl, _⟩ := h; rfl) | (obtain ⟨_, _, _, _, _, _, _, rfl, _⟩ := h; rfl) | (obtain ⟨_, _, _, _, _, _, _, _, rfl, _⟩ := h; rfl) | (obtain ⟨_, _, _, _, _, _, _, _, _, rfl, _⟩ := h; rfl) | (obtain ⟨_, _, _, _, _, _, _, _, _, _, rfl, _⟩ := h; rfl) | (obtain ⟨_, _, _, _, _, _, _, _, _, _, _, rfl, _⟩ := h; rfl)) (fun _ _ _ _ _ _ us hl => match us, hl with | [_], _ => rfl) fun cdv A outer s H E hr => ⟨_, pss_one (ps_ret (pe_callB call_len (by rfl) B.len bt_len (pa_cons (pe_fld (pv 0) rfl) pa_nil))), ?_⟩
  rintro ds W post ⟨w, rfl, rfl, hl, z⟩
  try dsimp only [cxOf, Cx.nox, Cx.wish]
  walk_at "st"
  show post (D.int ((w.below.map rowD).length : Nat)) []
  rw [List.length_map]
  exact z
end
section
abbrev s_Web_all_values : Stmt := inClass (top 67) 8
theorem sc_Web_all_values : FnScope ["self", "values", "found", "points", "point"] ["self", "values"] (defScope s_Web_all_values) := ⟨rfl, rfl, rfl, by decide +kernel, rfl, by decide +kernel, by decide +kernel⟩
theorem mm_all_values1 {P : Program} {w : World} {K : PySem.W.Frag} {mg : Str → Option Value} {base : Heap} {cl : Nat → Addr} {f : Addr} {fd : FuncData} (me : Meth K (cl 1) "all_values" f) (B : Blt mg) (Z : ZZ K w mg cl) (Fn : Fun K "all_values" "Web.all_values" s_Web_all_values f fd) : Met P w K mg base 1 (cl 1) "all_values" (spN FK ⟨K, cl⟩ S_allvalsW) [] := by
  have fz := Z.z0
  have gz := Z.z1
  refine metD Z.z1.cls me Fn sc_Web_all_values (by intro ds W post h; first | (obtain ⟨rfl, _⟩ := h; rfl) | (obtain ⟨_, rfl, _⟩ := h; rfl) | (obtain ⟨_, _, rfl, _⟩ := h; rfl) | (obtain ⟨_, _, _, rfl, _⟩ := h; rfl) | (obtain ⟨_, _, _, _, rfl, _⟩ := h; rfl) | (obtain ⟨_, _, _, _, _, rfl, _⟩ := h; rfl) | (obtain ⟨_, _, _, _, _, _, rfl, _⟩ := h; rfl) | (obtain ⟨_, _, _, _, _, _, _, rfl, _⟩ := h; rfl) | (obtain ⟨_, _, _, _, _, _, _, _, rfl, _⟩ := h; rfl) | (obtain ⟨_, _, _, _, _, _, _, _, _, rfl, _⟩ := h; rfl) | (obtain ⟨_, _, _, _, _, _, _, _, _, _, rfl, _⟩ := h; rfl) | (obtain ⟨_, _, _, _, _, _, _, _, _, _, _, rfl, _⟩ := h; rfl)) (fun _ _ _ _ _ _ us hl => match us, hl with | [_, _], _ => rfl) fun cdv A outer s H E hr => ⟨_, pss_cons (ps_set (i := 2) sc_Web_all_values.nd rfl (Or.inr rfl) (pe_lst pa_nil))
 (pss_cons (ps_for PassesOwn.never rfl (pi_tup (pe_fld (pv 0) rfl)) (pg_name (i := 3) sc_Web_all_values.nd rfl (Or.inl rfl)) (pss_one (ps_expr (pe_bm PySem.F.plainAttrs_list PySem.F.slot_list_append PySem.F.type_list_append mt_append (pv 2) (pa_cons (pe_callB (cr_all rfl) (by rfl) B.all bt_all (pa_cons (pe_lc (own := [("point", 4)]) (by rfl) sc_Web_all_values.nd (pi_tup (pv 3)) (blkOk_by (own := [("point", 4)]) (N := ["self", "values", "found", "points", "point"]) (sc := defScope s_Web_all_values) (by decide +kernel)) (fun _ _ _ _ _ => (pg_name (i := 4) sc_Web_all_values.nd rfl (Or.inl rfl))) (fun _ _ _ _ _ => pts_nil) (fun _ _ _ _ _ => (pe_and (pe_ix (ix_listK (K := K) rfl) (pv 1) (pv 4) (fun _ _ => rfl)) (pe_one (pe_ix (ix_listK (K := K) rfl) (pv 2) (pv 4) (fun _ _ => rfl)))))) pa_nil)) pa_nil)))))
 (pss_one (ps_ret (pv 2)))), ?_⟩
  rintro ds W post ⟨w, vs, rfl, rfl, hw, hvl, k⟩
  try dsimp only [cxOf, Cx.nox, Cx.wish]
  have h16 := sizeLine_eq
  have hr := hw.rows
  have hf := hr.few
  refine sw_seq (sw_set (ev_lst ?_))
  walk_at "st"
  intro p1 hp1
  refine sw_seq (sw_for (ei_tup ?_))
  walk_at "st"
  refine ⟨fun j G' W' => W' = [(p1, .lst ((allV (w.below.take j) vs).map .bl))] ∧ ∃ o3, G' = [some w.d, some (blsD vs), some (.adr p1), o3, none], ⟨rfl, _, rfl⟩, ?_, ?_⟩
  · rintro j d G' W' hd ⟨rfl, o3, rfl⟩
    rw [List.getElem?_map] at hd
    obtain ⟨r, hr2, rfl⟩ := Option.map_eq_some_iff.mp hd
    obtain ⟨a1, a2⟩ := hr.asc j r hr2
    have hj := (List.getElem?_eq_some_iff.mp hr2).1
    have hlen : (allV (w.below.take j) vs).length = j := by rw [allV_len, List.length_take]; omega
    have hrl : r.length ≤ j := low_len (a1.imp fun h => Nat.ne_of_lt h) a2
    have etk : w.below.take (j + 1) = w.below.take j ++ [r] := by rw [List.take_add_one, hr2]; rfl
    refine tg_name ?_
    walk_at "st"
    refine ev_append ?_
    walk_at "st"
    refine ⟨p1, _, [], [], rfl, rfl, ?_⟩
    walk_at "st"
    refine ev_lcM (ei_tup ?_)
    walk_at "st"
    refine ⟨(r.map fun k => vs.getD k false && (allV (w.below.take j) vs).getD k false).map .bl, fun i d e hd he => ?_, by simp, by simp; omega, ?_⟩
    · rw [List.getElem?_map] at hd
      obtain ⟨q, hq, rfl⟩ := Option.map_eq_some_iff.mp hd
      rw [List.getElem?_map, List.getElem?_map, hq] at he
      have he : some (D.bl (vs.getD q false && (allV (w.below.take j) vs).getD q false)) = some e := he
      have hqj := a2 q (List.mem_of_getElem? hq)
      cases he
      refine tw_name (by simp) ?_
      walk_at "st"
      refine ⟨rfl, ?_⟩
      walk_at "st"
      refine bo_ixL (.inl (.inl rfl)) (at_bl (by omega)) ?_
      refine ⟨_, rfl, ?_⟩
      cases hv : vs.getD q false with
      | false =>
        walk_at "st"
        exact ⟨rfl, rfl⟩
      | true =>
        walk_at "st"
        refine bo_ixL (.inr ⟨_, rfl, List.mem_cons_self⟩) (at_bl (by omega)) ?_
        exact ⟨rfl, rfl⟩
    · refine ea_nil (ca_all (.inl (.inl rfl)) ?_)
      walk_at "st"
      refine ⟨_, [], [], _, rfl, rfl, by rw [List.length_map]; omega, ?_⟩
      refine ⟨?_, _, rfl⟩
      rw [etk, allV_snoc, List.map_append, List.all_map]
      rfl
  · rintro G' W' ⟨rfl, o3, rfl⟩
    rw [List.length_map, List.take_length]
    refine sw_fz (i := 2) rfl (List.Perm.refl _) (.lst _) ?_
    walk_at "st"
    exact k
abbrev s_Web_values_of : Stmt := inClass (top 67) 7
theorem sc_Web_values_of : FnScope ["self", "formula", "whole", "known", "part", "letters", "inner", "first", "second", "one", "other", "point"] ["self", "formula"] (defScope s_Web_values_of) := ⟨rfl, rfl, rfl, by decide +kernel, rfl, by decide +kernel, by decide +kernel⟩
theorem mm_values_of1 {P : Program} {w : World} {K : PySem.W.Frag} {mg : Str → Option Value} {base : Heap} {cl : Nat → Addr} {f : Addr} {fd : FuncData} (me : Meth K (cl 1) "values_of" f) (B : Blt mg) (Z : ZZ K w mg cl) (Fn : Fun K "values_of" "Web.values_of" s_Web_values_of f fd)
    (c_operand : Cal P w K mg base 6 "operand" (spN FK ⟨K, cl⟩ S_opd) [])
    (c_parts_within : Cal P w K mg base 1 "parts_within" (spN FK ⟨K, cl⟩ S_within) [])
    (mm_all_values1 : Met P w K mg base 1 (cl 1) "all_values" (spN FK ⟨K, cl⟩ S_allvalsW) []) : Met P w K mg base 7 (cl 1) "values_of" (spN FK ⟨K, cl⟩ S_valuesW) [] := by
  have fz := Z.z0
  have gz := Z.z1
  refine metD Z.z1.cls me Fn sc_Web_values_of (by intro ds W post h; first | (obtain ⟨rfl, _⟩ := h; rfl) | (obtain ⟨_, rfl, _⟩ := h; rfl) | (obtain ⟨_, _, rfl, _⟩ := h; rfl) | (obtain ⟨_, _, _, rfl, _⟩ := h; rfl) | (obtain ⟨_, _, _, _, rfl, _⟩ := h; rfl) | (obtain ⟨_, _, _, _, _, rfl, _⟩ := h; rfl) | (obtain ⟨_, _, _, _, _, _, rfl, _⟩ := h; rfl) | (obtain ⟨_, _, _, _, _, _, _, rfl, _⟩ := h; rfl) | (obtain ⟨_, _, _, _, _, _, _, _, rfl, _⟩ := h; rfl) | (obtain ⟨_, _, _, _, _, _, _, _, _, rfl, _⟩ := h; rfl) | (obtain ⟨_, _, _, _, _, _, _, _, _, _, rfl, _⟩ := h; rfl) | (obtain ⟨_, _, _, _, _, _, _, _, _, _, _, rfl, _⟩ := h; rfl)) (fun _ _ _ _ _ _ us hl => match us, hl with | [_, _], _ => rfl) fun cdv A outer s H E hr => ⟨_, pss_cons (ps_set (i := 2) sc_Web_values_of.nd rfl (Or.inl rfl) (pe_c c_operand hr (by omega) (by rfl) (pa_cons (pv 1) pa_nil)))
 (pss_cons (ps_set (i := 3) sc_Web_values_of.nd rfl (Or.inr rfl) pe_dnewK)
 (pss_cons (ps_for PassesOwn.never rfl (pi_list (pe_c c_parts_within hr (by omega) (by rfl) (pa_cons (pv 2) pa_nil))) (pg_name (i := 4) sc_Web_values_of.nd rfl (Or.inr rfl)) (pss_one (ps_if (pt_cmpR op_eq (pe_fld (pv 4) rfl) (C8.pe_gc (by rfl) Z.g_ATOM) (nomark _)) (pss_one (ps_dput (by exact hu_of hr) (pv 3) (pe_fld (pv 4) rfl) (pe_lc (own := [("letters", 5)]) (by rfl) sc_Web_values_of.nd (pi_tup (pe_fld (pv 0) rfl)) (blkOk_by (own := [("letters", 5)]) (N := ["self", "formula", "whole", "known", "part", "letters", "inner", "first", "second", "one", "other", "point"]) (sc := defScope s_Web_values_of) (by decide +kernel)) (fun _ _ _ _ _ => (pg_name (i := 5) sc_Web_values_of.nd rfl (Or.inl rfl))) (fun _ _ _ _ _ => pts_nil) (fun _ _ _ _ _ => (pe_cmpR op_in_sign (pe_ix (ix_tupK (K := K) rfl) (pe_fldK (K := K) rfl (pv 4) rfl) pe_int (fun _ _ => rfl)) (pv 5) rfl))) rfl)) (pss_one (ps_if (pt_cmpR op_eq (pe_fld (pv 4) rfl) (C8.pe_gc (by rfl) Z.g_IF_formulas) (nomark _)) (pss_cons (ps_asg (pe_lc (own := [("inner", 6)]) (by rfl) sc_Web_values_of.nd (pi_tup (pe_fld (pv 4) rfl)) (blkOk_by (own := [("inner", 6)]) (N := ["self", "formula", "whole", "known", "part", "letters", "inner", "first", "second", "one", "other", "point"]) (sc := defScope s_Web_values_of) (by decide +kernel)) (fun _ _ _ _ _ => (pg_name (i := 6) sc_Web_values_of.nd rfl (Or.inl rfl))) (fun _ _ _ _ _ => pts_nil) (fun _ _ _ _ _ => (pe_dget (by exact hu_of hr) (pv 3) (pe_fldK (K := K) rfl (pv 6) rfl) (fun _ _ => rfl)))) (pg_lst (n := 2) rfl (pgs_cons (pg_name (i := 7) sc_Web_values_of.nd rfl (Or.inl rfl)) (pgs_cons (pg_name (i := 8) sc_Web_values_of.nd rfl (Or.inl rfl)) pgs_nil))))
 (pss_one (ps_dput (by exact hu_of hr) (pv 3) (pe_fld (pv 4) rfl) (pe_lc (own := [("one", 9), ("other", 10)]) (by rfl) sc_Web_values_of.nd (pi_zipT (by rfl) B.zip (pa_cons (pv 7) (pa_cons (pv 8) pa_nil)) (pk_cons pe_bl pk_nil)) (blkOk_by (own := [("one", 9), ("other", 10)]) (N := ["self", "formula", "whole", "known", "part", "letters", "inner", "first", "second", "one", "other", "point"]) (sc := defScope s_Web_values_of) (by decide +kernel)) (fun _ _ _ _ _ => (pg_tupK (K := K) rfl (n := 2) rfl (pgs_cons (pg_name (i := 9) sc_Web_values_of.nd rfl (Or.inl rfl)) (pgs_cons (pg_name (i := 10) sc_Web_values_of.nd rfl (Or.inl rfl)) pgs_nil)))) (fun _ _ _ _ _ => pts_nil) (fun _ _ _ _ _ => (pe_or (pe_not (pv 9)) (pe_one (pv 10))))) rfl))) (pss_one (ps_if (pt_cmpR op_eq (pe_fld (pv 4) rfl) (C8.pe_gc (by rfl) Z.g_ALL_formulas) (nomark _)) (pss_one (ps_dput (by exact hu_of hr) (pv 3) (pe_fld (pv 4) rfl) (pe_mt mm_all_values1 hr (by omega) (pv 0) (pa_cons (pe_dget (by exact hu_of hr) (pv 3) (pe_fld (pe_ix ix_tup (pe_fld (pv 4) rfl) pe_int (fun _ _ => rfl)) rfl) (fun _ _ => rfl)) pa_nil)) rfl)) (pss_one (ps_dput (by exact hu_of hr) (pv 3) (pe_fld (pv 4) rfl) (pe_lc (own := [("point", 11)]) (by rfl) sc_Web_values_of.nd (pi_tup (pe_fld (pv 0) rfl)) (blkOk_by (own := [("point", 11)]) (N := ["self", "formula", "whole", "known", "part", "letters", "inner", "first", "second", "one", "other", "point"]) (sc := defScope s_Web_values_of) (by decide +kernel)) (fun _ _ _ _ _ => (pg_name (i := 11) sc_Web_values_of.nd rfl (Or.inl rfl))) (fun _ _ _ _ _ => pts_nil) (fun _ _ _ _ _ => pe_bl)) rfl)))))))))
 (pss_one (ps_ret (pe_dget (by exact hu_of hr) (pv 3) (pe_fld (pv 2) rfl) (fun _ _ => rfl)))))), ?_⟩
  rintro ds W post ⟨w, d, f, rfl, rfl, hw, hd, hf, k⟩
  try dsimp only [cxOf, Cx.nox, Cx.wish]
  have h16 := sizeLine_eq
  walk_at "st"
  refine hand0 ⟨d, f, rfl, rfl, hd, ?_⟩
  try simp only [List.nil_append]
  try walk_at "st"
  refine ev_dnew fun p2 hp2 => ?_
  refine sw_seq (sw_for (ei_list ?_))
  walk_at "st"
  have hlen := hw.len
  have hfew := hw.rows.few
  refine hand0 ⟨f, rfl, rfl, hf, fun l hl cl nd2 hsub => ?_⟩
  try simp only [List.nil_append]
  try walk_at "st"
  have okl : ∀ g ∈ l, g.okL := fun g hg => (hf.subs (hsub g hg)).ok
  have hll : l.length ≤ 1000000 := by
    have h1 := Fm.len_le nd2 hsub
    rw [Fm.subs_len] at h1
    have := Fm.many_sz f
    have := hf.sz
    omega
  refine ⟨fun i G' W' => W' = [(p2, .dp (kvF (fun g => blsD (w.vals g)) (l.take i)))] ∧
    ∃ o4 o7 o8, G' = [some w.d, some d, some (.fm f), some (.adr p2), o4, none, none, o7, o8, none, none, none], ⟨rfl, _, _, _, rfl⟩, ?_, ?_⟩
  · rintro i d2 G' W' hd2 ⟨rfl, o4, o7, o8, rfl⟩
    rw [List.getElem?_map] at hd2
    obtain ⟨g, hg, e⟩ := Option.map_eq_some_iff.mp hd2
    subst e
    have hi : i < l.length := (List.getElem?_eq_some_iff.mp hg).1
    have hgl := List.mem_of_getElem? hg
    have nin : g ∉ l.take i := fun hm => by
      obtain ⟨j, hj, e2⟩ := List.mem_take_iff_getElem.mp hm
      have h3 : l[j]? = l[i]? := by rw [hg, List.getElem?_eq_getElem (by omega), e2]
      have := (List.getElem?_inj (by omega) nd2).mp h3
      omega
    have okt : ∀ x ∈ l.take i, x.okL := fun x hx => okl x (List.mem_of_mem_take hx)
    have hput := put_kvF (v := fun g => blsD (w.vals g)) okt (okl g hgl) nin
    rw [show l.take i ++ [g] = l.take (i + 1) by rw [List.take_add_one, hg]; rfl] at hput
    have hin := cl.take i g hg
    have hklen : (kvF (fun g => blsD (w.vals g)) (l.take i)).length < sizeLine := by simp [kvF]; omega
    refine tg_name ?_
    cases g with
    | «at» c =>
      walk_at "st"
      refine ev_lcM (ei_tup ?_)
      walk_at "st"
      refine ⟨(w.vals (.at c)).map .bl, fun i d e hd he => ?_, by simp [Wb.vals], by rw [List.length_map, Wb.vals_len hlen]; omega, ?_⟩
      · rw [List.getElem?_map] at hd
        obtain ⟨s, hs, rfl⟩ := Option.map_eq_some_iff.mp hd
        have he : e = .bl (decide (c ∈ lets s)) := by
          simp only [Wb.vals, List.getElem?_map, hs] at he
          exact (Option.some.inj he).symm
        subst he
        refine tw_name (by simp) ?_
        walk_at "st"
        refine ⟨rfl, ?_⟩
        walk_at "st"
        refine bo_inSg ?_
        exact ⟨rfl, rfl⟩
      · walk_at "st"
        refine ⟨p2, _, Sum.inr (Fm.at c).spell, [], _, rfl, rfl, rfl, hklen, ?_⟩
        refine ⟨?_, _, _, _, rfl⟩
        rw [← hput]
        rfl
    | no =>
      walk_at "st"
      refine ev_lcM (ei_tup ?_)
      walk_at "st"
      refine ⟨(w.vals .no).map .bl, fun i d e hd he => ?_, by simp [Wb.vals], by rw [List.length_map, Wb.vals_len hlen]; omega, ?_⟩
      · have he : e = .bl false := by
          simp only [Wb.vals, List.getElem?_map] at he
          obtain ⟨x, hx, rfl⟩ := Option.map_eq_some_iff.mp he
          obtain ⟨y, hy, rfl⟩ := Option.map_eq_some_iff.mp hx
          rfl
        subst he
        refine tw_name (by simp) ?_
        walk_at "st"
        refine ⟨rfl, ?_⟩
        walk_at "st"
        exact ⟨rfl, rfl⟩
      · walk_at "st"
        refine ⟨p2, _, Sum.inr Fm.no.spell, [], _, rfl, rfl, rfl, hklen, ?_⟩
        refine ⟨?_, _, _, _, rfl⟩
        rw [← hput]
        rfl
    | imp a b =>
      walk_at "st"
      refine ev_lcU (ei_tup ?_)
      walk_at "st"
      simp only [partsD]
      walk_at "st"
      refine dg_str (.inr ⟨_, rfl, List.mem_cons_self⟩) (getG_kvF okt (hin a (by simp [Fm.inner]))) ?_
      walk_at "st"
      refine dg_str (.inr ⟨_, rfl, List.mem_cons_self⟩) (getG_kvF okt (hin b (by simp [Fm.inner]))) ?_
      walk_at "st"
      refine ta_tg (tg_lst rfl (tgs_cons (tg_name (tgs_cons (tg_name (tgs_nil ?_))))))
      walk_at "st"
      refine ev_lcM (ei_zipS ?_)
      walk_at "st"
      refine ⟨rfl, _, _, _, _, rfl, .inl rfl, .inl rfl, by rw [List.length_map, List.length_map, Wb.vals_len hlen, Wb.vals_len hlen], (w.vals (.imp a b)).map .bl, fun i d e hd he => ?_, by rw [List.length_map, Wb.vals_len hlen, pairs2_len, List.length_map, List.length_map, Wb.vals_len hlen, Wb.vals_len hlen, Nat.min_self], by rw [List.length_map, Wb.vals_len hlen]; omega, ?_⟩
      · obtain ⟨x, y, hx, hy, rfl⟩ := pairs2_get hd
        rw [List.getElem?_map] at hx hy
        obtain ⟨x, hx2, rfl⟩ := Option.map_eq_some_iff.mp hx
        obtain ⟨y, hy2, rfl⟩ := Option.map_eq_some_iff.mp hy
        have he : e = .bl (!x || y) := by
          simp only [Wb.vals, List.getElem?_map, List.getElem?_zipWith] at he
          rw [hx2, hy2] at he
          exact (Option.some.inj he).symm
        subst he
        refine tw_tup rfl (tws_cons (tw_name (by simp) (tws_cons (tw_name (by simp) (tws_nil ?_)))))
        walk_at "st"
        refine ⟨rfl, ?_⟩
        walk_at "st"
        cases x with
        | false =>
          refine if_so rfl ?_
          exact ⟨rfl, rfl⟩
        | true =>
          refine if_not rfl ?_
          walk_at "st"
          exact ⟨rfl, rfl⟩
      · walk_at "st"
        refine ⟨p2, _, Sum.inr (Fm.imp a b).spell, [], _, rfl, rfl, rfl, hklen, ?_⟩
        refine ⟨?_, _, _, _, rfl⟩
        rw [← hput]
        rfl
    | all a =>
      walk_at "st"
      refine dg_str (.inr ⟨_, rfl, List.mem_cons_self⟩) (getG_kvF okt (hin a (by simp [Fm.inner]))) ?_
      walk_at "st"
      refine hand0 ⟨w, w.vals a, rfl, rfl, hw, Wb.vals_len hlen a, ?_⟩
      try simp only [List.nil_append]
      try walk_at "st"
      refine ⟨p2, _, Sum.inr (Fm.all a).spell, [], _, rfl, rfl, rfl, hklen, ?_⟩
      refine ⟨?_, _, _, _, rfl⟩
      rw [← hput]
      rfl
  · rintro G' W' ⟨rfl, o4, o7, o8, rfl⟩
    rw [List.length_map, List.take_length]
    have hfl : f ∈ l := by
      obtain ⟨l', e⟩ := ‹∃ l', l = l' ++ [f]›
      rw [e]
      simp
    refine sw_ret (ev_drp ?_)
    walk_at "st"
    exact dg_str (.inr ⟨_, rfl, List.mem_cons_self⟩) (getG_kvF okl hfl) ⟨[], List.nil_sublist _, k⟩
abbrev s_Web_where : Stmt := inClass (top 67) 6
theorem sc_Web_where : FnScope ["self", "formula", "point", "value"] ["self", "formula"] (defScope s_Web_where) := ⟨rfl, rfl, rfl, by decide +kernel, rfl, by decide +kernel, by decide +kernel⟩
theorem mm_where1 {P : Program} {w : World} {K : PySem.W.Frag} {mg : Str → Option Value} {base : Heap} {cl : Nat → Addr} {f : Addr} {fd : FuncData} (me : Meth K (cl 1) "where" f) (B : Blt mg) (Z : ZZ K w mg cl) (Fn : Fun K "where" "Web.where" s_Web_where f fd)
    (mm_values_of1 : Met P w K mg base 7 (cl 1) "values_of" (spN FK ⟨K, cl⟩ S_valuesW) []) : Met P w K mg base 10 (cl 1) "where" (spN FK ⟨K, cl⟩ S_whereW) [] ∧ MetK P w K mg base 10 (cl 1) "where" ["formula"] (fun vs zs => vs ++ zs) (spN FK ⟨K, cl⟩ S_whereW) := by
  have fz := Z.z0
  have gz := Z.z1
  refine metDK Z.z1.cls me Fn sc_Web_where (by intro ds W post h; first | (obtain ⟨rfl, _⟩ := h; rfl) | (obtain ⟨_, rfl, _⟩ := h; rfl) | (obtain ⟨_, _, rfl, _⟩ := h; rfl) | (obtain ⟨_, _, _, rfl, _⟩ := h; rfl) | (obtain ⟨_, _, _, _, rfl, _⟩ := h; rfl) | (obtain ⟨_, _, _, _, _, rfl, _⟩ := h; rfl) | (obtain ⟨_, _, _, _, _, _, rfl, _⟩ := h; rfl) | (obtain ⟨_, _, _, _, _, _, _, rfl, _⟩ := h; rfl) | (obtain ⟨_, _, _, _, _, _, _, _, rfl, _⟩ := h; rfl) | (obtain ⟨_, _, _, _, _, _, _, _, _, rfl, _⟩ := h; rfl) | (obtain ⟨_, _, _, _, _, _, _, _, _, _, rfl, _⟩ := h; rfl) | (obtain ⟨_, _, _, _, _, _, _, _, _, _, _, rfl, _⟩ := h; rfl)) (fun _ _ _ _ _ _ us hl => match us, hl with | [_, _], _ => rfl) (kb1_of (g := fun us ws => us ++ ws) Fn (fun _ _ _ _ _ _ u ws hl => match ws, hl with | [_], _ => rfl) (fun h1 h2 => by first | exact h1.append h2 | exact h1.append h2.reverse)) fun cdv A outer s H E hr => ⟨_, pss_one (ps_ret (pe_callTy call_tuple_of (by rfl) B.tuple bt_tuple (pa_cons (pe_lc (own := [("point", 2), ("value", 3)]) (by rfl) sc_Web_where.nd (pi_enumK (by rfl) B.enumerate (pa_cons (pe_mt mm_values_of1 hr (by omega) (pv 0) (pa_cons (pv 1) pa_nil)) pa_nil)) (blkOk_by (own := [("point", 2), ("value", 3)]) (N := ["self", "formula", "point", "value"]) (sc := defScope s_Web_where) (by decide +kernel)) (fun _ _ _ _ _ => (pg_tupK (K := K) rfl (n := 2) rfl (pgs_cons (pg_name (i := 2) sc_Web_where.nd rfl (Or.inl rfl)) (pgs_cons (pg_name (i := 3) sc_Web_where.nd rfl (Or.inl rfl)) pgs_nil)))) (fun _ _ _ _ _ => pts_one (pt_val (pv 3))) (fun _ _ _ _ _ => (pv 2))) pa_nil))), ?_⟩
  rintro ds W post ⟨w, d, f, rfl, rfl, hw, hd, hf, k⟩
  try dsimp only [cxOf, Cx.nox, Cx.wish]
  have h16 := sizeLine_eq
  have hlen := hw.len
  have hfew := hw.rows.few
  walk_at "st"
  refine ev_lcF (ei_enumK ?_)
  walk_at "st"
  refine hand0 ⟨w, d, f, rfl, rfl, hw, hd, hf, ?_⟩
  try simp only [List.nil_append]
  try walk_at "st"
  refine ⟨_, _, rfl, .inl rfl, fun t acc W' => W' = [] ∧ acc = ((List.range t).filter fun i => (w.vals f).getD i false).map natD, ⟨rfl, rfl⟩, ?_, ?_⟩
  · rintro t d2 acc W' hd2 ⟨rfl, rfl⟩
    obtain ⟨x, hx, rfl⟩ := pairsD_get hd2
    rw [List.getElem?_map] at hx
    obtain ⟨b, hb, rfl⟩ := Option.map_eq_some_iff.mp hx
    have ht := (List.getElem?_eq_some_iff.mp hb).1
    rw [Wb.vals_len hlen] at ht
    have hg : (w.vals f).getD t false = b := by rw [List.getD_eq_getElem?_getD, hb]; rfl
    refine tw_tup rfl (tws_cons (tw_name (by simp) (tws_cons (tw_name (by simp) (tws_nil ?_)))))
    walk_at "st"
    have hfl : ((List.range t).filter fun i => (w.vals f).getD i false).length ≤ t := by
      have := List.length_filter_le (fun i => (w.vals f).getD i false) (List.range t)
      rwa [List.length_range] at this
    cases b with
    | true =>
      refine if_so rfl ?_
      walk_at "st"
      refine ⟨by rw [List.length_map]; omega, rfl, ?_⟩
      rw [List.range_succ, List.filter_append, List.map_append, List.filter_cons_of_pos (by exact hg), Nat.zero_add]
      rfl
    | false =>
      refine if_not rfl ?_
      refine ⟨rfl, ?_⟩
      rw [List.range_succ, List.filter_append, List.filter_cons_of_neg (by rw [hg]; decide)]
      simp
  · rintro acc W' ⟨rfl, rfl⟩
    rw [pairsD_len, List.length_map, Wb.vals_len hlen]
    refine ea_nil (ca_tup (.inl (.inl rfl)) k)
end
section
abbrev s_Web_marked : Stmt := inClass (top 67) 9
theorem sc_Web_marked : FnScope ["self", "rows", "letter", "formula", "values", "atoms", "point", "letters", "kept", "told", "put"] ["self", "rows"] (defScope s_Web_marked) := ⟨rfl, rfl, rfl, by decide +kernel, rfl, by decide +kernel, by decide +kernel⟩
theorem mm_marked1 {P : Program} {w : World} {K : PySem.W.Frag} {mg : Str → Option Value} {base : Heap} {cl : Nat → Addr} {f : Addr} {fd : FuncData} (me : Meth K (cl 1) "marked" f) (B : Blt mg) (Z : ZZ K w mg cl) (Fn : Fun K "marked" "Web.marked" s_Web_marked f fd)
    (m_Web : Mak P w K mg base 4 "Web" (cl 1) (spN FK ⟨K, cl⟩ S_initW) [])
    (mm_values_of1 : Met P w K mg base 7 (cl 1) "values_of" (spN FK ⟨K, cl⟩ S_valuesW) []) : Met P w K mg base 10 (cl 1) "marked" (spN FK ⟨K, cl⟩ S_markedW) [] ∧ MetK P w K mg base 10 (cl 1) "marked" ["rows"] (fun vs zs => vs ++ zs) (spN FK ⟨K, cl⟩ S_markedW) := by
  have fz := Z.z0
  have gz := Z.z1
  refine metDK Z.z1.cls me Fn sc_Web_marked (by intro ds W post h; first | (obtain ⟨rfl, _⟩ := h; rfl) | (obtain ⟨_, rfl, _⟩ := h; rfl) | (obtain ⟨_, _, rfl, _⟩ := h; rfl) | (obtain ⟨_, _, _, rfl, _⟩ := h; rfl) | (obtain ⟨_, _, _, _, rfl, _⟩ := h; rfl) | (obtain ⟨_, _, _, _, _, rfl, _⟩ := h; rfl) | (obtain ⟨_, _, _, _, _, _, rfl, _⟩ := h; rfl) | (obtain ⟨_, _, _, _, _, _, _, rfl, _⟩ := h; rfl) | (obtain ⟨_, _, _, _, _, _, _, _, rfl, _⟩ := h; rfl) | (obtain ⟨_, _, _, _, _, _, _, _, _, rfl, _⟩ := h; rfl) | (obtain ⟨_, _, _, _, _, _, _, _, _, _, rfl, _⟩ := h; rfl) | (obtain ⟨_, _, _, _, _, _, _, _, _, _, _, rfl, _⟩ := h; rfl)) (fun _ _ _ _ _ _ us hl => match us, hl with | [_, _], _ => rfl) (kb1_of (g := fun us ws => us ++ ws) Fn (fun _ _ _ _ _ _ u ws hl => match ws, hl with | [_], _ => rfl) (fun h1 h2 => by first | exact h1.append h2 | exact h1.append h2.reverse)) fun cdv A outer s H E hr => ⟨_, pss_cons (ps_set (i := 4) sc_Web_marked.nd rfl (Or.inr rfl) (pe_dc (own := [("letter", 2), ("formula", 3)]) (by rfl) sc_Web_marked.nd (pi_tup (pv 1)) (blkOk_by (own := [("letter", 2), ("formula", 3)]) (N := ["self", "rows", "letter", "formula", "values", "atoms", "point", "letters", "kept", "told", "put"]) (sc := defScope s_Web_marked) (by decide +kernel)) (fun _ _ _ _ _ => (pg_tupK (K := K) rfl (n := 2) rfl (pgs_cons (pg_name (i := 2) sc_Web_marked.nd rfl (Or.inl rfl)) (pgs_cons (pg_name (i := 3) sc_Web_marked.nd rfl (Or.inl rfl)) pgs_nil)))) (fun _ _ _ _ _ => pts_nil) (fun _ _ _ _ _ => (pv 2)) (fun _ _ _ _ _ => (pe_mt mm_values_of1 hr (by omega) (pv 0) (pa_cons (pv 3) pa_nil)))))
 (pss_cons (ps_set (i := 5) sc_Web_marked.nd rfl (Or.inl rfl) (pe_lst pa_nil))
 (pss_cons (ps_for PassesOwn.never rfl (pi_enumK (by rfl) B.enumerate (pa_cons (pe_fld (pv 0) rfl) pa_nil)) (pg_tup (n := 2) rfl (pgs_cons (pg_name (i := 6) sc_Web_marked.nd rfl (Or.inr rfl)) (pgs_cons (pg_name (i := 7) sc_Web_marked.nd rfl (Or.inl rfl)) pgs_nil))) (pss_cons (ps_setLc (i := 8) (own := [("letter", 2)]) (by rfl) sc_Web_marked.nd rfl rfl (sw_true rfl rfl rfl (by decide +kernel)) (pi_str (pv 7)) (blkOk_by (own := [("letter", 2)]) (N := ["self", "rows", "letter", "formula", "values", "atoms", "point", "letters", "kept", "told", "put"]) (sc := defScope s_Web_marked) (by decide +kernel)) (fun _ _ _ _ _ => (pg_name (i := 2) sc_Web_marked.nd rfl (Or.inl rfl))) (fun _ _ _ _ _ => pts_one (pt_cmp (pc_dnotin (by exact hu_of hr) (pv 2) (pv 4)))) (fun _ _ _ _ _ => (pv 2)))
 (pss_cons (ps_lock (ps_setLc (i := 10) (own := [("letter", 2), ("told", 9)]) (by rfl) sc_Web_marked.nd rfl rfl (sw_true rfl rfl rfl (by decide +kernel)) (pi_items (pv 4)) (blkOk_by (own := [("letter", 2), ("told", 9)]) (N := ["self", "rows", "letter", "formula", "values", "atoms", "point", "letters", "kept", "told", "put"]) (sc := defScope s_Web_marked) (by decide +kernel)) (fun _ _ _ _ _ => (pg_tupK (K := K) rfl (n := 2) rfl (pgs_cons (pg_name (i := 2) sc_Web_marked.nd rfl (Or.inl rfl)) (pgs_cons (pg_name (i := 9) sc_Web_marked.nd rfl (Or.inl rfl)) pgs_nil)))) (fun _ _ _ _ _ => pts_one (pt_val (pe_ix (ix_listK (K := K) rfl) (pv 9) (pv 6) (fun _ _ => rfl)))) (fun _ _ _ _ _ => (pv 2))))
 (pss_one (ps_expr (pe_bm PySem.F.plainAttrs_list PySem.F.slot_list_append PySem.F.type_list_append mt_append (pv 5) (pa_cons (pe_join pe_str (pe_callB cr_sortedS (by rfl) B.sorted bt_sorted (pa_cons (pe_op op_cat (pv 8) (pv 10)) pa_nil))) pa_nil)))))))
 (pss_one (ps_ret (pe_mk m_Web hr (by omega) (by rfl) (pa_cons (pe_fld (pv 0) rfl) (pa_cons (pe_callTy call_tuple_of (by rfl) B.tuple bt_tuple (pa_cons (pv 5) pa_nil)) pa_nil))))))), ?_⟩
  rintro ds W post ⟨w, es, rfl, rfl, hw, hes, nd, k⟩
  try dsimp only [cxOf, Cx.nox, Cx.wish]
  have h16 := sizeLine_eq
  have hlen := hw.len
  have hfew := hw.rows.few
  have hel : es.length ≤ 52 := by
    have := ltrs_few nd fun c hc => by
      obtain ⟨e, he, rfl⟩ := List.mem_map.mp hc
      exact (hes e he).2.2
    rwa [List.length_map] at this
  obtain ⟨rs, ers⟩ : ∃ rs : List (Nat × Fm), rs = es.map fun e => (e.1, e.2.2) := ⟨_, rfl⟩
  rw [← ers] at k
  have ekey : rs.map (·.1) = es.map (·.1) := by rw [ers, List.map_map]; rfl
  have hlt : ∀ c ∈ rs.map (·.1), ltr c := fun c hc => by
    rw [ekey] at hc
    obtain ⟨e, he, rfl⟩ := List.mem_map.mp hc
    exact (hes e he).2.2
  have nd2 : ((valsT w rs).map (·.1)).Nodup := by rw [valsT_keys, ekey]; exact nd
  have hlt2 : ∀ c ∈ (valsT w rs).map (·.1), ltr c := by rw [valsT_keys]; exact hlt
  have hvl : (valsT w rs).length = es.length := by rw [ers]; simp [valsT]
  walk_at "st"
  refine ev_dc (ei_tup ?_)
  walk_at "st"
  refine ⟨fun t acc W' => W' = [] ∧ acc = tabL blsD ((valsT w rs).take t), ⟨rfl, rfl⟩, ?_, ?_⟩
  · rintro t d acc W' hd ⟨rfl, rfl⟩
    rw [List.getElem?_map] at hd
    obtain ⟨e, he, rfl⟩ := Option.map_eq_some_iff.mp hd
    obtain ⟨h1, h2, h3⟩ := hes e (List.mem_of_getElem? he)
    have ht := (List.getElem?_eq_some_iff.mp he).1
    have hv : (valsT w rs)[t]? = some (e.1, w.vals e.2.2) := by
      rw [ers]
      simp [valsT, he]
    refine tw_tup rfl (tws_cons (tw_name (by simp) (tws_cons (tw_name (by simp) (tws_nil ?_)))))
    walk_at "st"
    refine hand0 ⟨w, e.2.1, e.2.2, rfl, rfl, hw, h1, h2, ?_⟩
    try simp only [List.nil_append]
    try walk_at "st"
    refine ⟨by simp [tabL]; omega, trivial, ?_⟩
    have nin : e.1 ∉ ((valsT w rs).take t).map (·.1) := fun hm => by
      rw [List.map_take] at hm
      obtain ⟨j, hj, e2⟩ := List.mem_take_iff_getElem.mp hm
      rw [List.length_map] at hj
      have h5 : ((valsT w rs).map (·.1))[t]? = some e.1 := by rw [List.getElem?_map, hv]; rfl
      have h4 : ((valsT w rs).map (·.1))[j]? = ((valsT w rs).map (·.1))[t]? := by rw [h5, List.getElem?_eq_getElem (by rw [List.length_map]; omega), e2]
      have := (List.getElem?_inj (by rw [List.length_map]; omega) nd2).mp h4
      omega
    rw [tab_put nin, List.take_add_one, hv]
    rfl
  rintro acc W' ⟨rfl, rfl⟩ p1 hp1
  rw [List.length_map, ← hvl, List.take_length]
  refine sw_seq (sw_set (ev_lst ?_))
  walk_at "st"
  intro p2 hp2
  refine sw_seq (sw_for (ei_enumK ?_))
  walk_at "st"
  refine ⟨_, _, rfl, .inr (.inl rfl), fun t G' W' => W' = [(p2, .lst (((List.range t).map fun k => markS (valsT w rs) k (w.atoms.getD k "")).map .str)), (p1, .dp (tabL blsD (valsT w rs)))] ∧ ∃ o6 o7 o8 o9, G' = [some w.d, some (.tup (es.map fun e => .tup [.str (sg e.1), e.2.1])), none, none, some (.adr p1), some (.adr p2), o6, o7, o8, none, o9], ⟨rfl, _, _, _, _, rfl⟩, ?_, ?_⟩
  · rintro t d G' W' hd ⟨rfl, o6, o7, o8, o9, rfl⟩
    obtain ⟨x, hx, rfl⟩ := pairsD_get hd
    rw [List.getElem?_map] at hx
    obtain ⟨s, hs, rfl⟩ := Option.map_eq_some_iff.mp hx
    have ht := (List.getElem?_eq_some_iff.mp hs).1
    obtain ⟨s1, s2⟩ := hw.lets s (List.mem_of_getElem? hs)
    have es1 : w.atoms.getD t "" = s := by rw [List.getD_eq_getElem?_getD, hs]; rfl
    have hsl := ltrs_few (asc_nd s2) s1
    rw [Nat.zero_add]
    refine tg_tup rfl (tgs_cons (tg_name (tgs_cons (tg_name (tgs_nil ?_)))))
    walk_at "st"
    refine ev_lcP (ei_str ?_)
    walk_at "st"
    refine ⟨(lets s).map fun c => (!decide (c ∈ (valsT w rs).map (·.1)), D.str (sg c)), fun i d e hd he => ?_, by simp [lets], by rw [List.length_map]; omega, ?_⟩
    · rw [List.getElem?_map] at hd
      obtain ⟨c, hc, rfl⟩ := Option.map_eq_some_iff.mp hd
      rw [List.getElem?_map, show (lets s)[i]? = some c from hc] at he
      obtain rfl := Option.some.inj he
      refine tw_name (by simp) ?_
      walk_at "st"
      refine ev_dnotin ?_
      walk_at "st"
      refine ⟨_, Sum.inr (sg c), .inr ⟨_, rfl, List.mem_cons_of_mem _ List.mem_cons_self⟩, rfl, ?_⟩
      rw [isSome_tabL]
      refine ⟨_, rfl, rfl, ?_⟩
      cases !decide (c ∈ (valsT w rs).map (·.1)) with
      | true =>
        refine if_so rfl ?_
        walk_at "st"
        exact ⟨rfl, rfl⟩
      | false => exact if_not rfl rfl
    rw [flt_tab]
    walk_at "st"
    refine sw_seq (sw_lock (W1 := [(p2, _)]) (W2 := []) fun od kvs => ?_)
    refine sw_set ?_
    refine ev_lcPL (cell := (p1, .lp od kvs (tabL blsD (valsT w rs)))) (ei_itemsL ?_)
    walk_at "st"
    refine ⟨rfl, List.mem_cons_of_mem _ List.mem_cons_self, List.mem_cons_of_mem _ List.mem_cons_self, (valsT w rs).map fun p => (p.2.getD t false, D.str (sg p.1)), fun i d e hd he => ?_, by simp [tabL], by rw [List.length_map]; omega, ?_⟩
    · unfold tabL at hd
      rw [List.map_map, List.getElem?_map] at hd
      obtain ⟨p, hp, rfl⟩ := Option.map_eq_some_iff.mp hd
      rw [List.getElem?_map, hp] at he
      obtain rfl := Option.some.inj he
      have hpl : p.2.length = w.below.length := by
        obtain ⟨q, _, rfl⟩ := List.mem_map.mp (List.mem_of_getElem? hp)
        exact Wb.vals_len hlen _
      refine tw_tup rfl (tws_cons (tw_name (by simp) (tws_cons (tw_name (by simp) (tws_nil ?_)))))
      walk_at "st"
      refine bo_ixL (.inl (.inl rfl)) (at_bl (by omega)) ?_
      refine ⟨_, rfl, rfl, ?_⟩
      cases p.2.getD t false with
      | true =>
        refine if_so rfl ?_
        walk_at "st"
        exact ⟨rfl, rfl⟩
      | false => exact if_not rfl rfl
    rw [flt_tab]
    refine ⟨[(p2, _)], [], rfl, ?_⟩
    have hmf := mark_few (k := t) s1 (asc_nd s2) nd2 hlt2
    have hmn := mark_nd (k := t) (asc_nd s2) nd2
    refine sw_next ?_
    refine sw_drop ?_
    walk_at "st"
    refine ev_append ?_
    walk_at "st"
    refine ⟨p2, _, [], [_], rfl, rfl, ?_⟩
    walk_at "st"
    refine ev_join ?_
    walk_at "st"
    refine bo_cat (.inl rfl) (.inl rfl) (Nat.le_trans (cat_len hsl (Nat.le_of_eq hvl)) (by omega)) ?_
    rw [cat_mark]
    refine ea_nil ?_
    refine ca_sortedSL (.inl (.inl rfl)) hmn (by omega) ?_
    refine ⟨(ascN (keepL ((valsT w rs).map (·.1)) s ++ putL (valsT w rs) t)).map sg, .inl (.inl (.inl (by rw [List.map_map]; rfl))), ?_, ?_⟩
    · have := low_ascN (keepL ((valsT w rs).map (·.1)) s ++ putL (valsT w rs) t)
      rw [sg_sum, List.length_map]
      show _ + _ * 0 ≤ _
      omega
    rw [join_nil_sg]
    walk_at "st"
    refine ⟨_, [], [_], _, rfl, rfl, by rw [List.length_map, List.length_map, List.length_range]; omega, ?_⟩
    refine ⟨?_, _, _, _, _, rfl⟩
    rw [List.range_succ, List.map_append, List.map_append, List.map_cons, List.map_nil, es1]
    rfl
  rintro G' W' ⟨rfl, o6, o7, o8, o9, rfl⟩
  rw [pairsD_len, List.length_map]
  refine sw_ret (ev_drp ?_)
  refine ev_mkW ?_
  walk_at "st"
  refine ca_tup (.inr ⟨_, rfl, List.mem_cons_self⟩) ?_
  refine ea_nil ⟨w.mark rs, rfl, mark_ok hw hlt, ?_⟩
  exact ⟨[], List.nil_sublist _, k⟩
abbrev s_Web_without : Stmt := inClass (top 67) 10
theorem sc_Web_without : FnScope ["self", "letters", "some", "one"] ["self", "letters"] (defScope s_Web_without) := ⟨rfl, rfl, rfl, by decide +kernel, rfl, by decide +kernel, by decide +kernel⟩
theorem mm_without1 {P : Program} {w : World} {K : PySem.W.Frag} {mg : Str → Option Value} {base : Heap} {cl : Nat → Addr} {f : Addr} {fd : FuncData} (me : Meth K (cl 1) "without" f) (B : Blt mg) (Z : ZZ K w mg cl) (Fn : Fun K "without" "Web.without" s_Web_without f fd)
    (m_Web : Mak P w K mg base 4 "Web" (cl 1) (spN FK ⟨K, cl⟩ S_initW) []) : Met P w K mg base 7 (cl 1) "without" (spN FK ⟨K, cl⟩ S_withoutW) [] ∧ MetK P w K mg base 7 (cl 1) "without" ["letters"] (fun vs zs => vs ++ zs) (spN FK ⟨K, cl⟩ S_withoutW) := by
  have fz := Z.z0
  have gz := Z.z1
  refine metDK Z.z1.cls me Fn sc_Web_without (by intro ds W post h; first | (obtain ⟨rfl, _⟩ := h; rfl) | (obtain ⟨_, rfl, _⟩ := h; rfl) | (obtain ⟨_, _, rfl, _⟩ := h; rfl) | (obtain ⟨_, _, _, rfl, _⟩ := h; rfl) | (obtain ⟨_, _, _, _, rfl, _⟩ := h; rfl) | (obtain ⟨_, _, _, _, _, rfl, _⟩ := h; rfl) | (obtain ⟨_, _, _, _, _, _, rfl, _⟩ := h; rfl) | (obtain ⟨_, _, _, _, _, _, _, rfl, _⟩ := h; rfl) | (obtain ⟨_, _, _, _, _, _, _, _, rfl, _⟩ := h; rfl) | (obtain ⟨_, _, _, _, _, _, _, _, _, rfl, _⟩ := h; rfl) | (obtain ⟨_, _, _, _, _, _, _, _, _, _, rfl, _⟩ := h; rfl) | (obtain ⟨_, _, _, _, _, _, _, _, _, _, _, rfl, _⟩ := h; rfl)) (fun _ _ _ _ _ _ us hl => match us, hl with | [_, _], _ => rfl) (kb1_of (g := fun us ws => us ++ ws) Fn (fun _ _ _ _ _ _ u ws hl => match ws, hl with | [_], _ => rfl) (fun h1 h2 => by first | exact h1.append h2 | exact h1.append h2.reverse)) fun cdv A outer s H E hr => ⟨_, pss_one (ps_ret (pe_mk m_Web hr (by omega) (by rfl) (pa_cons (pe_fld (pv 0) rfl) (pa_cons (pe_callTy call_tuple_of (by rfl) B.tuple bt_tuple (pa_cons (pe_lc (own := [("some", 2)]) (by rfl) sc_Web_without.nd (pi_tup (pe_fld (pv 0) rfl)) (blkOk_by (own := [("some", 2)]) (N := ["self", "letters", "some", "one"]) (sc := defScope s_Web_without) (by decide +kernel)) (fun _ _ _ _ _ => (pg_name (i := 2) sc_Web_without.nd rfl (Or.inl rfl))) (fun _ _ _ _ _ => pts_nil) (fun _ _ _ _ _ => (pe_joinK (K := K) rfl pe_str (pe_lc (own := [("one", 3)]) (by rfl) sc_Web_without.nd (pi_str (pv 2)) (blkOk_by (own := [("one", 3)]) (N := ["self", "letters", "some", "one"]) (sc := _) (by kernel_rfl)) (fun _ _ _ _ _ => (pg_name (i := 3) sc_Web_without.nd rfl (Or.inl rfl))) (fun _ _ _ _ _ => pts_one (pt_cmpR op_notIn_sign (pv 3) (pv 1) rfl)) (fun _ _ _ _ _ => (pv 3)))))) pa_nil)) pa_nil)))), ?_⟩
  rintro ds W post ⟨w, z, rfl, rfl, hw, k⟩
  try dsimp only [cxOf, Cx.nox, Cx.wish]
  have h16 := sizeLine_eq
  have hlen := hw.len
  have hfew := hw.rows.few
  walk_at "st"
  refine ev_mkW ?_
  walk_at "st"
  refine ev_lcM (ei_tup ?_)
  walk_at "st"
  refine ⟨(w.strip z).atoms.map .str, fun i d e hd he => ?_, by simp [Wb.strip], by simp [Wb.strip]; omega, ?_⟩
  · rw [List.getElem?_map] at hd
    obtain ⟨s, hs, rfl⟩ := Option.map_eq_some_iff.mp hd
    have he : e = .str (stripS z s) := by
      rw [show (w.strip z).atoms = w.atoms.map (stripS z) from rfl, List.getElem?_map, List.getElem?_map, hs] at he
      exact (Option.some.inj he).symm
    subst he
    obtain ⟨s1, s2⟩ := hw.lets s (List.mem_of_getElem? hs)
    have hsl := ltrs_few (asc_nd s2) s1
    refine tw_name (by simp) ?_
    walk_at "st"
    refine ⟨rfl, ?_⟩
    walk_at "st"
    refine ev_join ?_
    walk_at "st"
    refine ev_lcP (ei_str ?_)
    walk_at "st"
    refine ⟨(lets s).map fun c => (!decide (c ∈ lets z), D.str (sg c)), fun i d e hd he => ?_, by simp [lets], by rw [List.length_map]; omega, ?_⟩
    · rw [List.getElem?_map] at hd
      obtain ⟨c, hc, rfl⟩ := Option.map_eq_some_iff.mp hd
      rw [List.getElem?_map, show (lets s)[i]? = some c from hc] at he
      obtain rfl := Option.some.inj he
      refine tw_name (by simp) ?_
      walk_at "st"
      refine bo_notInSg ?_
      refine ⟨_, rfl, rfl, ?_⟩
      show if (!decide (c ∈ lets z)) = true then _ else _
      cases !decide (c ∈ lets z) with
      | true =>
        refine if_so rfl ?_
        walk_at "st"
        exact ⟨rfl, rfl⟩
      | false => exact if_not rfl rfl
    rw [flt_tab]
    have hfl := List.length_filter_le (fun c => !decide (c ∈ lets z)) (lets s)
    refine ⟨((lets s).filter fun c => !decide (c ∈ lets z)).map sg, .inl (.inl (.inl (by rw [List.map_map]; rfl))), ?_, ?_⟩
    · rw [sg_sum, List.length_map]
      show _ + _ * 0 ≤ _
      omega
    rw [join_nil_sg]
    exact ⟨rfl, rfl⟩
  refine ea_nil (ca_tup (.inl (.inl rfl)) ?_)
  exact ea_nil ⟨w.strip z, rfl, strip_ok hw z, k⟩
end
section
abbrev s_Web___eq__ : Stmt := inClass (top 67) 15
theorem sc_Web___eq__ : FnScope ["self", "other"] ["self", "other"] (defScope s_Web___eq__) := ⟨rfl, rfl, rfl, by decide +kernel, rfl, by decide +kernel, by decide +kernel⟩
theorem o_eq1 {P : Program} {w : World} {K : PySem.W.Frag} {mg : Str → Option Value} {base : Heap} {cl : Nat → Addr} {f : Addr} {fd : FuncData} (o : Own2 K (cl 1) "__eq__" f) (B : Blt mg) (Z : ZZ K w mg cl) (Fn : Fun K "__eq__" "Web.__eq__" s_Web___eq__ f fd) : Opn P w K mg base 1 (cl 1) "__eq__" (spN FK ⟨K, cl⟩ S_eqW) := by
  have fz := Z.z0
  have gz := Z.z1
  refine opnD o Fn sc_Web___eq__ (by intro ds W post h; first | (obtain ⟨rfl, _⟩ := h; rfl) | (obtain ⟨_, rfl, _⟩ := h; rfl) | (obtain ⟨_, _, rfl, _⟩ := h; rfl) | (obtain ⟨_, _, _, rfl, _⟩ := h; rfl) | (obtain ⟨_, _, _, _, rfl, _⟩ := h; rfl) | (obtain ⟨_, _, _, _, _, rfl, _⟩ := h; rfl) | (obtain ⟨_, _, _, _, _, _, rfl, _⟩ := h; rfl) | (obtain ⟨_, _, _, _, _, _, _, rfl, _⟩ := h; rfl) | (obtain ⟨_, _, _, _, _, _, _, _, rfl, _⟩ := h; rfl) | (obtain ⟨_, _, _, _, _, _, _, _, _, rfl, _⟩ := h; rfl) | (obtain ⟨_, _, _, _, _, _, _, _, _, _, rfl, _⟩ := h; rfl) | (obtain ⟨_, _, _, _, _, _, _, _, _, _, _, rfl, _⟩ := h; rfl)) (fun _ _ _ _ _ _ us hl => match us, hl with | [_, _], _ => rfl) fun cdv A outer s H E hr => ⟨_, pss_one (ps_ret (pe_and (pe_callB call_isi (by rfl) B.isinstance bt_isinstance (pa_cons (pv 1) (pa_cons (pe_glob (by rfl) Z.g_Web (relV_ref _)) pa_nil))) (pe_and (pe_cmpR (op_eqD hr.units) (pe_fld (pv 0) rfl) (pe_fld (pv 1) rfl) (nomark _)) (pe_one (pe_cmpR (op_eqD hr.units) (pe_fld (pv 0) rfl) (pe_fld (pv 1) rfl) (nomark _)))))), ?_⟩
  rintro ds W post ⟨w, rfl, rfl, hw, z⟩
  try dsimp only [cxOf, Cx.nox, Cx.wish]
  have h16 := sizeLine_eq
  walk_at "st"
  refine isi_ins (inst_wb w) gz.ins ?_
  walk_at "st"
  refine bo_eqD (.inl (pd_rows _)) (.inl (pd_rows _)) (shaped_rows hw.rows) (shaped_rows hw.rows) ?_
  rw [eqv_rows hw.rows]
  walk_at "st"
  refine bo_eqD (.inl (pd_atoms _)) (.inl (pd_atoms _)) (shaped_atoms hw) (shaped_atoms hw) ?_
  rw [eqv_atoms hw]
  exact z
end
section
abbrev s_is_mark : Stmt := top 50
theorem sc_is_mark : FnScope ["thing"] ["thing"] (defScope s_is_mark) := ⟨rfl, rfl, rfl, by decide +kernel, rfl, by decide +kernel, by decide +kernel⟩
theorem c_is_mark {P : Program} {w : World} {K : PySem.W.Frag} {mg : Str → Option Value} {base : Heap} {cl : Nat → Addr} {f : Addr} {fd : FuncData} (hm : mg "is_mark" = some (.ref f)) (B : Blt mg) (Z : ZZ K w mg cl) (Fn : Fun K "is_mark" "is_mark" s_is_mark f fd)
    (c_is_atom : Cal P w K mg base 1 "is_atom" (spN FK ⟨K, cl⟩ S_isatom) []) : Cal P w K mg base 2 "is_mark" (spN FK ⟨K, cl⟩ S_ismark) [] := by
  have fz := Z.z0
  have gz := Z.z1
  refine calD hm Fn sc_is_mark (by intro ds W post h; first | (obtain ⟨rfl, _⟩ := h; rfl) | (obtain ⟨_, rfl, _⟩ := h; rfl) | (obtain ⟨_, _, rfl, _⟩ := h; rfl) | (obtain ⟨_, _, _, rfl, _⟩ := h; rfl) | (obtain ⟨_, _, _, _, rfl, _⟩ := h; rfl) | (obtain ⟨_, _, _, _, _, rfl, _⟩ := h; rfl) | (obtain ⟨_, _, _, _, _, _, rfl, _⟩ := h; rfl) | (obtain ⟨_, _, _, _, _, _, _, rfl, _⟩ := h; rfl) | (obtain ⟨_, _, _, _, _, _, _, _, rfl, _⟩ := h; rfl) | (obtain ⟨_, _, _, _, _, _, _, _, _, rfl, _⟩ := h; rfl) | (obtain ⟨_, _, _, _, _, _, _, _, _, _, rfl, _⟩ := h; rfl) | (obtain ⟨_, _, _, _, _, _, _, _, _, _, _, rfl, _⟩ := h; rfl)) (fun _ _ _ _ _ _ us hl => match us, hl with | [_], _ => rfl) fun cdv A outer s H E hr => ⟨_, pss_one (ps_ret (pe_and (pe_c c_is_atom hr (by omega) (by rfl) (pa_cons (pv 0) pa_nil)) (pe_one (pe_cmpR op_in_sign (pv 0) (C8.pe_gc (by rfl) Z.g_CAPITALS) rfl)))), ?_⟩
  rintro ds W post ⟨c, rfl, rfl, h1, h2, k⟩
  try dsimp only [cxOf, Cx.nox, Cx.wish]
  walk_at "st"
  refine hand0 ⟨_, rfl, rfl, Nat.le_of_ble_eq_true rfl, ?_⟩
  try simp only [List.nil_append]
  try walk_at "st"
  rw [isLet_sg, decide_eq_true (Or.inl ⟨h1, h2⟩)]
  try refine if_so (by first | rfl | decide +kernel | simp) ?_
  try walk_at "st"
  walk_at "st"
  refine bo_inSg ?_
  rw [caps_in h1 h2]
  exact k
abbrev s_is_rule : Stmt := top 51
theorem sc_is_rule : FnScope ["thing"] ["thing"] (defScope s_is_rule) := ⟨rfl, rfl, rfl, by decide +kernel, rfl, by decide +kernel, by decide +kernel⟩
theorem c_is_rule {P : Program} {w : World} {K : PySem.W.Frag} {mg : Str → Option Value} {base : Heap} {cl : Nat → Addr} {f : Addr} {fd : FuncData} (hm : mg "is_rule" = some (.ref f)) (B : Blt mg) (Z : ZZ K w mg cl) (Fn : Fun K "is_rule" "is_rule" s_is_rule f fd)
    (c_is_mark : Cal P w K mg base 2 "is_mark" (spN FK ⟨K, cl⟩ S_ismark) [])
    (c_is_atom : Cal P w K mg base 1 "is_atom" (spN FK ⟨K, cl⟩ S_isatom) []) : Cal P w K mg base 3 "is_rule" (spN FK ⟨K, cl⟩ S_isrule) [] := by
  have fz := Z.z0
  have gz := Z.z1
  refine calD hm Fn sc_is_rule (by intro ds W post h; first | (obtain ⟨rfl, _⟩ := h; rfl) | (obtain ⟨_, rfl, _⟩ := h; rfl) | (obtain ⟨_, _, rfl, _⟩ := h; rfl) | (obtain ⟨_, _, _, rfl, _⟩ := h; rfl) | (obtain ⟨_, _, _, _, rfl, _⟩ := h; rfl) | (obtain ⟨_, _, _, _, _, rfl, _⟩ := h; rfl) | (obtain ⟨_, _, _, _, _, _, rfl, _⟩ := h; rfl) | (obtain ⟨_, _, _, _, _, _, _, rfl, _⟩ := h; rfl) | (obtain ⟨_, _, _, _, _, _, _, _, rfl, _⟩ := h; rfl) | (obtain ⟨_, _, _, _, _, _, _, _, _, rfl, _⟩ := h; rfl) | (obtain ⟨_, _, _, _, _, _, _, _, _, _, rfl, _⟩ := h; rfl) | (obtain ⟨_, _, _, _, _, _, _, _, _, _, _, rfl, _⟩ := h; rfl)) (fun _ _ _ _ _ _ us hl => match us, hl with | [_], _ => rfl) fun cdv A outer s H E hr => ⟨_, pss_cons (ps_if (PW.pt (pw_or (pt_not (pt_val (pe_callB call_isi (by rfl) B.isinstance bt_isinstance (pa_cons (pv 0) (pa_cons (pe_bltn (by rfl) B.tuple bt_tuple (relV_ty _)) pa_nil))))) (pw_or (pt_cmpR op_ne (pe_callB call_len (by rfl) B.len bt_len (pa_cons (pv 0) pa_nil)) (C8.pe_gc (by rfl) Z.g_PAIR_PARTS) (nomark _)) (pw_or1 (pt_not (pt_val (pe_c c_is_mark hr (by omega) (by rfl) (pa_cons (pe_ix ix_tup (pv 0) pe_int (fun _ _ => rfl)) pa_nil)))))))) (pss_one (ps_ret pe_bl)) (pss_nil))
 (pss_one (ps_ret (pe_or (pe_callB call_isi (by rfl) B.isinstance bt_isinstance (pa_cons (pe_ix ix_tup (pv 0) pe_int (fun _ _ => rfl)) (pa_cons (pe_glob (by rfl) Z.g_Formula (relV_ref _)) pa_nil))) (pe_one (pe_c c_is_atom hr (by omega) (by rfl) (pa_cons (pe_ix ix_tup (pv 0) pe_int (fun _ _ => rfl)) pa_nil)))))), ?_⟩
  rintro ds W post ⟨c, d, f, rfl, rfl, h1, h2, hd, k⟩
  try dsimp only [cxOf, Cx.nox, Cx.wish]
  walk_at "st"
  refine hand0 ⟨c, rfl, rfl, h1, h2, ?_⟩
  try simp only [List.nil_append]
  try walk_at "st"
  rcases hd with rfl | ⟨q, hq, rfl, rfl⟩
  · walk_at "st"
    try refine isi_ins (.fm f) fz.ins ?_
    walk_at "st"
    try refine if_so (by first | rfl | decide +kernel | simp) ?_
    try walk_at "st"
    exact k
  · walk_at "st"
    refine isi_strF fz ?_
    walk_at "st"
    refine hand0 ⟨_, rfl, rfl, Nat.le_of_ble_eq_true rfl, ?_⟩
    try simp only [List.nil_append]
    try walk_at "st"
    rw [isLet_sg, decide_eq_true hq]
    exact k
abbrev s_check_rows : Stmt := top 52
theorem sc_check_rows : FnScope ["rows", "item", "mark", "value", "marks", "one", "other", "letter"] ["rows"] (defScope s_check_rows) := ⟨rfl, rfl, rfl, by decide +kernel, rfl, by decide +kernel, by decide +kernel⟩
theorem c_check_rows {P : Program} {w : World} {K : PySem.W.Frag} {mg : Str → Option Value} {base : Heap} {cl : Nat → Addr} {f : Addr} {fd : FuncData} (hm : mg "check_rows" = some (.ref f)) (B : Blt mg) (Z : ZZ K w mg cl) (Fn : Fun K "check_rows" "check_rows" s_check_rows f fd)
    (c_is_rule : Cal P w K mg base 3 "is_rule" (spN FK ⟨K, cl⟩ S_isrule) [])
    (c_as_formula : Cal P w K mg base 5 "as_formula" (spN FK ⟨K, cl⟩ S_opd) []) : Cal P w K mg base 6 "check_rows" (spN FK ⟨K, cl⟩ S_checkrows) [] := by
  have fz := Z.z0
  have gz := Z.z1
  refine calD hm Fn sc_check_rows (by intro ds W post h; first | (obtain ⟨rfl, _⟩ := h; rfl) | (obtain ⟨_, rfl, _⟩ := h; rfl) | (obtain ⟨_, _, rfl, _⟩ := h; rfl) | (obtain ⟨_, _, _, rfl, _⟩ := h; rfl) | (obtain ⟨_, _, _, _, rfl, _⟩ := h; rfl) | (obtain ⟨_, _, _, _, _, rfl, _⟩ := h; rfl) | (obtain ⟨_, _, _, _, _, _, rfl, _⟩ := h; rfl) | (obtain ⟨_, _, _, _, _, _, _, rfl, _⟩ := h; rfl) | (obtain ⟨_, _, _, _, _, _, _, _, rfl, _⟩ := h; rfl) | (obtain ⟨_, _, _, _, _, _, _, _, _, rfl, _⟩ := h; rfl) | (obtain ⟨_, _, _, _, _, _, _, _, _, _, rfl, _⟩ := h; rfl) | (obtain ⟨_, _, _, _, _, _, _, _, _, _, _, rfl, _⟩ := h; rfl)) (fun _ _ _ _ _ _ us hl => match us, hl with | [_], _ => rfl) fun cdv A outer s H E hr => ⟨_, pss_cons (ps_if (PW.pt (pw_or (pt_not (pt_val (pe_callB call_isi (by rfl) B.isinstance bt_isinstance (pa_cons (pv 0) (pa_cons (pe_bltn (by rfl) B.tuple bt_tuple (relV_ty _)) pa_nil))))) (pw_or1 (pt_not (pt_chain op_le op_le pe_int (pe_callB call_len (by rfl) B.len bt_len (pa_cons (pv 0) pa_nil)) (C8.pe_gc (by rfl) Z.g_MOST_MARKS)))))) (pss_one (ps_never)) (pss_nil))
 (pss_cons (ps_for PassesOwn.never rfl (pi_tup (pv 0)) (pg_name (i := 1) sc_check_rows.nd rfl (Or.inl rfl)) (pss_one (ps_if (pt_not (pt_val (pe_c c_is_rule hr (by omega) (by rfl) (pa_cons (pv 1) pa_nil)))) (pss_one (ps_never)) (pss_nil))))
 (pss_cons (ps_set (i := 4) sc_check_rows.nd rfl (Or.inr rfl) (pe_lc (own := [("mark", 2), ("value", 3)]) (by rfl) sc_check_rows.nd (pi_tup (pv 0)) (blkOk_by (own := [("mark", 2), ("value", 3)]) (N := ["rows", "item", "mark", "value", "marks", "one", "other", "letter"]) (sc := defScope s_check_rows) (by decide +kernel)) (fun _ _ _ _ _ => (pg_tupK (K := K) rfl (n := 2) rfl (pgs_cons (pg_name (i := 2) sc_check_rows.nd rfl (Or.inl rfl)) (pgs_cons (pg_name (i := 3) sc_check_rows.nd rfl (Or.inl rfl)) pgs_nil)))) (fun _ _ _ _ _ => pts_nil) (fun _ _ _ _ _ => (pv 2))))
 (pss_cons (ps_if (pt_not (pt_val (pe_callB (cr_all rfl) (by rfl) B.all bt_all (pa_cons (pe_lc (own := [("one", 5), ("other", 6)]) (by rfl) sc_check_rows.nd (pi_zipK (by rfl) B.zip (pa_cons (pv 4) (pa_cons (pe_slice sl_list (pv 4) (po_some pe_int) po_none) pa_nil))) (blkOk_by (own := [("one", 5), ("other", 6)]) (N := ["rows", "item", "mark", "value", "marks", "one", "other", "letter"]) (sc := defScope s_check_rows) (by decide +kernel)) (fun _ _ _ _ _ => (pg_tupK (K := K) rfl (n := 2) rfl (pgs_cons (pg_name (i := 5) sc_check_rows.nd rfl (Or.inl rfl)) (pgs_cons (pg_name (i := 6) sc_check_rows.nd rfl (Or.inl rfl)) pgs_nil)))) (fun _ _ _ _ _ => pts_nil) (fun _ _ _ _ _ => (pe_cmpR op_lt_str (pv 5) (pv 6) (nomark _)))) pa_nil)))) (pss_one (ps_never)) (pss_nil))
 (pss_one (ps_for PassesOwn.never rfl (pi_tup (pv 0)) (pg_tup (n := 2) rfl (pgs_cons (pg_name (i := 2) sc_check_rows.nd rfl (Or.inl rfl)) (pgs_cons (pg_name (i := 3) sc_check_rows.nd rfl (Or.inl rfl)) pgs_nil))) (pss_one (ps_if (pt_val (pe_callB (cr_any rfl) (by rfl) B.any bt_any (pa_cons (pe_lc (own := [("letter", 7)]) (by rfl) sc_check_rows.nd (pi_str (pe_fld (pe_c c_as_formula hr (by omega) (by rfl) (pa_cons (pv 3) pa_nil)) rfl)) (blkOk_by (own := [("letter", 7)]) (N := ["rows", "item", "mark", "value", "marks", "one", "other", "letter"]) (sc := defScope s_check_rows) (by decide +kernel)) (fun _ _ _ _ _ => (pg_name (i := 7) sc_check_rows.nd rfl (Or.inl rfl))) (fun _ _ _ _ _ => pts_nil) (fun _ _ _ _ _ => (pe_cmpR (op_in_seqK (K := K) rfl) (pv 7) (pv 4) rfl))) pa_nil))) (pss_one (ps_never)) (pss_nil)))))))), ?_⟩
  rintro ds W post ⟨es, rfl, rfl, he, hr, k⟩
  try dsimp only [cxOf, Cx.nox, Cx.wish]
  have h16 := sizeLine_eq
  have hl : es.length ≤ 4 := by have := hr.few; simpa [rsOf] using this
  have hn : 1 ≤ es.length := by
    have h := List.length_pos_iff.mpr hr.some_
    rw [show (rsOf es).length = es.length from by simp [rsOf]] at h
    omega
  have cap : ∀ e ∈ es, 65 ≤ e.1 ∧ e.1 ≤ 90 := fun e h => hr.cap (e.1, e.2.2) (List.mem_map.mpr ⟨e, h, rfl⟩)
  walk_at "st"
  refine if_so (decide_eq_true (by rw [List.length_map]; omega)) ?_
  walk_at "st"
  refine if_not (by rw [decide_eq_true (show _ ≤ _ from by rw [List.length_map]; omega)]; rfl) ?_
  refine sw_next ?_
  refine sw_seq (sw_for (ei_tup ?_))
  walk_at "st"
  refine ⟨fun i G' W' => W' = [] ∧ ∃ o1, G' = [some (argR es), o1, none, none, none, none, none, none], ⟨rfl, _, rfl⟩, ?_, ?_⟩
  · rintro i d G' W' hdd ⟨rfl, o1, rfl⟩
    rw [List.getElem?_map] at hdd
    obtain ⟨e, he1, rfl⟩ := Option.map_eq_some_iff.mp hdd
    have hm := List.mem_of_getElem? he1
    refine tg_name ?_
    walk_at "st"
    refine hand0 ⟨e.1, e.2.1, e.2.2, rfl, rfl, (cap e hm).1, (cap e hm).2, he e hm, ?_⟩
    try simp only [List.nil_append]
    try walk_at "st"
    exact ⟨rfl, _, rfl⟩
  rintro G' W' ⟨rfl, o1, rfl⟩
  walk_at "st"
  refine ev_lcM (ei_tup ?_)
  walk_at "st"
  refine ⟨(es.map (·.1)).map fun c => .str (sg c), fun i d e hd he2 => ?_, by simp, by simp only [List.length_map]; omega, ?_⟩
  · rw [List.getElem?_map] at hd
    obtain ⟨q, hq, rfl⟩ := Option.map_eq_some_iff.mp hd
    rw [List.map_map, List.getElem?_map, hq] at he2
    obtain rfl := Option.some.inj he2
    refine tw_tup rfl (tws_cons (tw_name (by simp) (tws_cons (tw_name (by simp) (tws_nil ?_)))))
    walk_at "st"
    refine ⟨rfl, ?_⟩
    walk_at "st"
    exact ⟨rfl, rfl⟩
  walk_at "st"
  refine ev_lcM (ei_zipK ?_)
  walk_at "st"
  rw [cutD_d1]
  refine ⟨_, _, _, _, rfl, .inl rfl, .inl rfl, List.replicate _ (.bl true), fun i d e hd he2 => ?_, List.length_replicate, by rw [pairs2_len]; simp; omega, ?_⟩
  · obtain ⟨x, y, hx, hy, rfl⟩ := pairs2_get hd
    have ee := List.eq_of_mem_replicate (List.mem_of_getElem? he2)
    subst ee
    rw [List.getElem?_map] at hx
    rw [List.getElem?_drop, List.getElem?_map] at hy
    obtain ⟨a, ha, rfl⟩ := Option.map_eq_some_iff.mp hx
    obtain ⟨b, hb, rfl⟩ := Option.map_eq_some_iff.mp hy
    have hasc : (es.map (·.1)).Pairwise (· < ·) := by
      have h := hr.asc
      unfold rsOf at h
      rw [List.map_map] at h
      exact h
    obtain ⟨i1, e1⟩ := List.getElem?_eq_some_iff.mp ha
    obtain ⟨i2, e2⟩ := List.getElem?_eq_some_iff.mp hb
    have lt : a < b := by
      have h := (List.pairwise_iff_getElem.mp hasc) i (1 + i) i1 i2 (by omega)
      rwa [e1, e2] at h
    refine tw_tup rfl (tws_cons (tw_name (by simp) (tws_cons (tw_name (by simp) (tws_nil ?_)))))
    walk_at "st"
    refine ⟨rfl, ?_⟩
    walk_at "st"
    refine bo_ltS ?_
    refine ⟨?_, rfl⟩
    show D.bl (decide ([a] < [b])) = D.bl true
    rw [decide_eq_true (List.cons_lt_cons_iff.mpr (.inl lt))]
  rw [← yes_bl]
  refine ea_nil (ca_all (.inl (.inl rfl)) ?_)
  rw [all_yes]
  walk_at "st"
  refine sw_for (ei_tup ?_)
  walk_at "st"
  refine ⟨fun i G' W' => W' = [] ∧ ∃ o2 o3, G' = [some (argR es), o1, o2, o3, some (D.lst (List.map (fun c => D.str (sg c)) (List.map (fun x => x.fst) es))), none, none, none], ⟨rfl, _, _, rfl⟩, ?_, ?_⟩
  · rintro i d G' W' hdd ⟨rfl, o2, o3, rfl⟩
    rw [List.getElem?_map] at hdd
    obtain ⟨e, he1, rfl⟩ := Option.map_eq_some_iff.mp hdd
    have hm := List.mem_of_getElem? he1
    have hb := hr.bare (e.1, e.2.2) (List.mem_map.mpr ⟨e, hm, rfl⟩)
    refine tg_tup rfl (tgs_cons (tg_name (tgs_cons (tg_name (tgs_nil ?_)))))
    walk_at "st"
    refine ev_lcM (ei_str ?_)
    walk_at "st"
    refine hand0 ⟨e.2.1, e.2.2, rfl, rfl, he e hm, ?_⟩
    try simp only [List.nil_append]
    try walk_at "st"
    have hol : e.2.2.outer.length ≤ 58 := Fm.outer_len (hr.form (e.1, e.2.2) (List.mem_map.mpr ⟨e, hm, rfl⟩)).1
    refine ⟨(List.replicate (lets e.2.2.outer).length false).map .bl, fun j d e3 hd he3 => ?_, by simp [lets], by rw [List.length_map, List.length_replicate, ← str_lets]; omega, ?_⟩
    · rw [List.getElem?_map] at hd he3
      obtain ⟨c, hc, rfl⟩ := Option.map_eq_some_iff.mp hd
      obtain ⟨b, hb3, rfl⟩ := Option.map_eq_some_iff.mp he3
      obtain rfl := List.eq_of_mem_replicate (List.mem_of_getElem? hb3)
      have hcm : c ∉ es.map (·.1) := by
        have h := hb c (List.mem_of_getElem? hc)
        unfold rsOf at h
        rw [List.map_map] at h
        exact h
      refine tw_name (by simp) ?_
      walk_at "st"
      refine ⟨rfl, ?_⟩
      walk_at "st"
      refine bo_in (neg := false) (xs := ((es.map (·.1)).map sg).map V.str) (.inl (.inl (.inl (by simp only [List.map_map]; rfl)))) rfl (by simp [flatV]) ?_
      rw [inV_str]
      simp only [Bool.false_eq_true, if_false]
      refine ⟨?_, trivial⟩
      rw [decide_eq_false]
      intro hx
      obtain ⟨x, hx1, hx2⟩ := List.mem_map.mp hx
      exact hcm (sg_inj (b := c) hx2 ▸ hx1)
    refine ea_nil (ca_any (.inl (.inl rfl)) ?_)
    rw [rep_anyR]
    refine ⟨_, rfl, ?_⟩
    refine if_not rfl ?_
    refine sw_next ?_
    exact ⟨rfl, _, _, rfl⟩
  rintro G' W' ⟨rfl, o2, o3, rfl⟩
  walk_at "st"
  exact k
abbrev s_Rules___init__ : Stmt := inClass (top 54) 0
theorem sc_Rules___init__ : FnScope ["self", "rows", "mark", "value"] ["self", "rows"] (defScope s_Rules___init__) := ⟨rfl, rfl, rfl, by decide +kernel, rfl, by decide +kernel, by decide +kernel⟩
theorem m_Rules {P : Program} {w : World} {K : PySem.W.Frag} {mg : Str → Option Value} {base : Heap} {cl : Nat → Addr} {f : Addr} {fd : FuncData} (mk : Mk K (cl 3) f) (B : Blt mg) (Z : ZZ K w mg cl) (Fn : Fun K "__init__" "Rules.__init__" s_Rules___init__ f fd)
    (c_check_rows : Cal P w K mg base 6 "check_rows" (spN FK ⟨K, cl⟩ S_checkrows) [])
    (c_as_formula : Cal P w K mg base 5 "as_formula" (spN FK ⟨K, cl⟩ S_opd) []) : Mak P w K mg base 7 "Rules" (cl 3) (spN FK ⟨K, cl⟩ S_initRu) [] := by
  have fz := Z.z0
  have gz := Z.z1
  refine makD mk Z.g_Rules Fn sc_Rules___init__ (by intro ds W post h; first | (obtain ⟨rfl, _⟩ := h; rfl) | (obtain ⟨_, rfl, _⟩ := h; rfl) | (obtain ⟨_, _, rfl, _⟩ := h; rfl) | (obtain ⟨_, _, _, rfl, _⟩ := h; rfl) | (obtain ⟨_, _, _, _, rfl, _⟩ := h; rfl) | (obtain ⟨_, _, _, _, _, rfl, _⟩ := h; rfl) | (obtain ⟨_, _, _, _, _, _, rfl, _⟩ := h; rfl) | (obtain ⟨_, _, _, _, _, _, _, rfl, _⟩ := h; rfl) | (obtain ⟨_, _, _, _, _, _, _, _, rfl, _⟩ := h; rfl) | (obtain ⟨_, _, _, _, _, _, _, _, _, rfl, _⟩ := h; rfl) | (obtain ⟨_, _, _, _, _, _, _, _, _, _, rfl, _⟩ := h; rfl) | (obtain ⟨_, _, _, _, _, _, _, _, _, _, _, rfl, _⟩ := h; rfl)) (fun _ _ _ _ _ _ us hl => match us, hl with | [_, _], _ => rfl) fun cdv A outer s H E hr => ⟨_, pss_cons (ps_expr (pe_c c_check_rows hr (by omega) (by rfl) (pa_cons (pv 1) pa_nil)))
 (pss_tupdict (by rfl) B.tuple (by rfl) B.dict rfl (pe_lc (own := [("mark", 2), ("value", 3)]) (by rfl) sc_Rules___init__.nd (pi_tup (pv 1)) (blkOk_by (own := [("mark", 2), ("value", 3)]) (N := ["self", "rows", "mark", "value"]) (sc := defScope s_Rules___init__) (by decide +kernel)) (fun _ _ _ _ _ => (pg_tupK (K := K) rfl (n := 2) rfl (pgs_cons (pg_name (i := 2) sc_Rules___init__.nd rfl (Or.inl rfl)) (pgs_cons (pg_name (i := 3) sc_Rules___init__.nd rfl (Or.inl rfl)) pgs_nil)))) (fun _ _ _ _ _ => pts_nil) (fun _ _ _ _ _ => (pe_tup (pa_cons (pv 2) (pa_cons (pe_c c_as_formula hr (by omega) (by rfl) (pa_cons (pv 3) pa_nil)) pa_nil))))) (pv 0) (pv 0) (pv 0) (pss_nil) rfl rfl rfl), ?_⟩
  rintro ds W post ⟨x, es, rfl, rfl, he, hr, k⟩
  try dsimp only [cxOf, Cx.nox, Cx.wish]
  have h16 := sizeLine_eq
  walk_at "st"
  refine hand0 ⟨es, rfl, rfl, he, hr, ?_⟩
  try simp only [List.nil_append]
  try walk_at "st"
  refine sw_seq (sw_tupdict (ev_lcM (ei_tup ?_)))
  walk_at "st"
  refine ⟨(rsOf es).map fun p => .tup [.str (sg p.1), .fm p.2], fun i d e hd he2 => ?_, by simp [rsOf], by have := hr.few; rw [List.length_map]; omega, ?_⟩
  · rw [List.getElem?_map] at hd
    obtain ⟨q, hq, rfl⟩ := Option.map_eq_some_iff.mp hd
    unfold rsOf at he2
    rw [List.map_map, List.getElem?_map, hq] at he2
    obtain rfl := Option.some.inj he2
    refine tw_tup rfl (tws_cons (tw_name (by simp) (tws_cons (tw_name (by simp) (tws_nil ?_)))))
    walk_at "st"
    refine ⟨rfl, ?_⟩
    walk_at "st"
    refine hand0 ⟨q.2.1, q.2.2, rfl, rfl, he q (List.mem_of_getElem? hq), ?_⟩
    try simp only [List.nil_append]
    try walk_at "st"
    walk_at "st"
    exact ⟨rfl, rfl⟩
  refine ⟨x, 3, [], [], [], [], rlPs (rsOf es), rfl, rfl, congrArg D.lst (rlPs_pairs _).symm, Z.z3.cls, Z.z3.nos _ (by decide +kernel), Z.z3.nos _ (by decide +kernel), by decide, by decide, by decide, ?_⟩
  rw [rlPs_merge hr, rlPs_pairs]
  refine sw_next ?_
  refine sw_next ?_
  exact k
abbrev s_Rules_marks : Stmt := inClass (top 54) 1
theorem sc_Rules_marks : FnScope ["self"] ["self"] (defScope s_Rules_marks) := ⟨rfl, rfl, rfl, by decide +kernel, rfl, by decide +kernel, by decide +kernel⟩
theorem p_marks3 {P : Program} {w : World} {K : PySem.W.Frag} {mg : Str → Option Value} {base : Heap} {cl : Nat → Addr} {f : Addr} {fd : FuncData} {p : Addr} (o : PropOf K (cl 3) "marks" p f) (B : Blt mg) (Z : ZZ K w mg cl) (Fn : Fun K "marks" "Rules.marks" s_Rules_marks f fd) : Prp P w K mg base 1 (cl 3) "marks" (spN FK ⟨K, cl⟩ S_marksRu) := by
  have fz := Z.z0
  have gz := Z.z1
  refine prpD o Fn sc_Rules_marks (by intro ds W post h; first | (obtain ⟨rfl, _⟩ := h; rfl) | (obtain ⟨_, rfl, _⟩ := h; rfl) | (obtain ⟨_, _, rfl, _⟩ := h; rfl) | (obtain ⟨_, _, _, rfl, _⟩ := h; rfl) | (obtain ⟨_, _, _, _, rfl, _⟩ := h; rfl) | (obtain ⟨_, _, _, _, _, rfl, _⟩ := h; rfl) | (obtain ⟨_, _, _, _, _, _, rfl, _⟩ := h; rfl) | (obtain ⟨_, _, _, _, _, _, _, rfl, _⟩ := h; rfl) | (obtain ⟨_, _, _, _, _, _, _, _, rfl, _⟩ := h; rfl) | (obtain ⟨_, _, _, _, _, _, _, _, _, rfl, _⟩ := h; rfl) | (obtain ⟨_, _, _, _, _, _, _, _, _, _, rfl, _⟩ := h; rfl) | (obtain ⟨_, _, _, _, _, _, _, _, _, _, _, rfl, _⟩ := h; rfl)) (fun _ _ _ _ _ _ us hl => match us, hl with | [_], _ => rfl) fun cdv A outer s H E hr => ⟨_, pss_one (ps_ret (pe_join pe_str (pe_callTy (cr_listDk rfl) (by rfl) B.list bt_list (pa_cons (pe_fld (pv 0) rfl) pa_nil)))), ?_⟩
  rintro ds W post ⟨rs, rfl, rfl, hr, k⟩
  try dsimp only [cxOf, Cx.nox, Cx.wish]
  have hf := hr.few
  refine sw_ret (ev_join ?_)
  refine ev_c ?_
  refine ⟨"", rfl, ?_⟩
  refine ev_cb (ea_cons (ev_fld ?_))
  refine ev_var rfl ?_
  refine ⟨3, rlNames, _, _, .obj _ _ _, Z.z3.cls, Z.z3.nos _ (by decide +kernel), rfl, ?_⟩
  refine ea_nil (ca_listDk (ps := rlPs rs) (.inl rfl) ?_)
  refine ⟨(rs.map (·.1)).map sg, .inl (.inl (.inl (by unfold rlPs; rw [List.map_map, List.map_map, List.map_map]; rfl))), ?_, ?_⟩
  · rw [sg_sumR, List.length_map]
    show _ + _ * 0 ≤ _
    omega
  · rw [join_nil_sg]
    exact k
abbrev s_Rules_marked : Stmt := inClass (top 54) 7
theorem sc_Rules_marked : FnScope ["self", "web", "found", "turn"] ["self", "web"] (defScope s_Rules_marked) := ⟨rfl, rfl, rfl, by decide +kernel, rfl, by decide +kernel, by decide +kernel⟩
theorem mm_marked3 {P : Program} {w : World} {K : PySem.W.Frag} {mg : Str → Option Value} {base : Heap} {cl : Nat → Addr} {f : Addr} {fd : FuncData} (me : Meth K (cl 3) "marked" f) (B : Blt mg) (Z : ZZ K w mg cl) (Fn : Fun K "marked" "Rules.marked" s_Rules_marked f fd)
    (o_len1 : Opn P w K mg base 1 (cl 1) "__len__" (spN FK ⟨K, cl⟩ S_lenW))
    (mm_without1 : Met P w K mg base 7 (cl 1) "without" (spN FK ⟨K, cl⟩ S_withoutW) [])
    (mm_marked1 : Met P w K mg base 10 (cl 1) "marked" (spN FK ⟨K, cl⟩ S_markedW) [])
    (p_marks3 : Prp P w K mg base 1 (cl 3) "marks" (spN FK ⟨K, cl⟩ S_marksRu)) : Met P w K mg base 13 (cl 3) "marked" (spN FK ⟨K, cl⟩ S_markedRu) [] ∧ MetK P w K mg base 13 (cl 3) "marked" ["web"] (fun vs zs => vs ++ zs) (spN FK ⟨K, cl⟩ S_markedRu) := by
  have fz := Z.z0
  have gz := Z.z1
  refine metDK Z.z3.cls me Fn sc_Rules_marked (by intro ds W post h; first | (obtain ⟨rfl, _⟩ := h; rfl) | (obtain ⟨_, rfl, _⟩ := h; rfl) | (obtain ⟨_, _, rfl, _⟩ := h; rfl) | (obtain ⟨_, _, _, rfl, _⟩ := h; rfl) | (obtain ⟨_, _, _, _, rfl, _⟩ := h; rfl) | (obtain ⟨_, _, _, _, _, rfl, _⟩ := h; rfl) | (obtain ⟨_, _, _, _, _, _, rfl, _⟩ := h; rfl) | (obtain ⟨_, _, _, _, _, _, _, rfl, _⟩ := h; rfl) | (obtain ⟨_, _, _, _, _, _, _, _, rfl, _⟩ := h; rfl) | (obtain ⟨_, _, _, _, _, _, _, _, _, rfl, _⟩ := h; rfl) | (obtain ⟨_, _, _, _, _, _, _, _, _, _, rfl, _⟩ := h; rfl) | (obtain ⟨_, _, _, _, _, _, _, _, _, _, _, rfl, _⟩ := h; rfl)) (fun _ _ _ _ _ _ us hl => match us, hl with | [_, _], _ => rfl) (kb1_of (g := fun us ws => us ++ ws) Fn (fun _ _ _ _ _ _ u ws hl => match ws, hl with | [_], _ => rfl) (fun h1 h2 => by first | exact h1.append h2 | exact h1.append h2.reverse)) fun cdv A outer s H E hr => ⟨_, pss_cons (ps_set (i := 2) sc_Rules_marked.nd rfl (Or.inl rfl) (pe_mt mm_without1 hr (by omega) (pv 1) (pa_cons (pe_prp p_marks3 Z.z3.cls hr (by omega) (pv 0)) pa_nil)))
 (pss_cons (ps_for PassesOwn.never rfl (pi_range1 (by rfl) B.range (pa_cons (pe_callB (call_len_opn o_len1 hr (by omega)) (by rfl) B.len bt_len (pa_cons (pv 1) pa_nil)) pa_nil)) (pg_name (i := 3) sc_Rules_marked.nd rfl (Or.inl rfl)) (pss_one (ps_set (i := 2) sc_Rules_marked.nd rfl (Or.inl rfl) (pe_mt mm_marked1 hr (by omega) (pv 2) (pa_cons (pe_fld (pv 0) rfl) pa_nil)))))
 (pss_one (ps_ret (pv 2)))), ?_⟩
  rintro ds W post ⟨rs, w, rfl, rfl, hr, hw, k⟩
  try dsimp only [cxOf, Cx.nox, Cx.wish]
  have h16 := sizeLine_eq
  have hf := hw.rows.few
  walk_at "st"
  refine ev_prop ?_
  walk_at "st"
  refine ⟨_, _, .obj _ _ _, ?_⟩
  refine hand0 ⟨rs, rfl, rfl, hr, ?_⟩
  try simp only [List.nil_append]
  try walk_at "st"
  refine hand0 ⟨w, marksS rs, rfl, rfl, hw, ?_⟩
  try simp only [List.nil_append]
  try walk_at "st"
  refine sw_for (ei_rng1 ?_)
  walk_at "st"
  refine ca_lenO (inst_wb w) ?_
  refine hand0 ⟨w, rfl, rfl, hf, ⟨_, rfl, by omega, by omega⟩, ?_⟩
  try simp only [List.nil_append]
  try walk_at "st"
  refine ⟨by omega, by omega, fun i G' W' => W' = [] ∧ ∃ o3, G' = [some (rlD rs), some w.d, some (turnsW rs i (w.strip (marksS rs))).d, o3], ⟨rfl, _, rfl⟩, ?_, ?_⟩
  · rintro i d G' W' hdd ⟨rfl, o3, rfl⟩
    have hi := (rng_get hdd).1
    have ok := turns_ok hr.ltrs (strip_ok hw (marksS rs)) i
    have e1 : rowsR rs = .tup ((rs.map fun p => (p.1, D.fm p.2, p.2)).map fun e => .tup [.str (sg e.1), e.2.1]) := by
      rw [List.map_map]
      rfl
    have e2 : ((rs.map fun p => (p.1, D.fm p.2, p.2)).map fun e => (e.1, e.2.2)) = rs := by
      rw [List.map_map]
      exact List.map_id _
    have e3 : ∀ e ∈ (rs.map fun p => (p.1, D.fm p.2, p.2)), Opd e.2.1 e.2.2 ∧ e.2.2.okF ∧ ltr e.1 := fun e he => by
      obtain ⟨q, hq, rfl⟩ := List.mem_map.mp he
      exact ⟨.inl rfl, hr.form q hq, .inl (hr.cap q hq)⟩
    have e4 : ((rs.map fun p => (p.1, D.fm p.2, p.2)).map (·.1)).Nodup := by
      rw [List.map_map]
      exact hr.asc.imp Nat.ne_of_lt
    refine tg_name ?_
    refine sw_set (ev_meth ?_)
    refine ev_var rfl ?_
    refine ⟨_, _, inst_wb _, by decide +kernel, ?_⟩
    refine ea_cons (ev_flR Z.z3 (ev_var rfl ⟨rs, rfl, .inl ⟨rfl, ?_⟩⟩))
    refine ea_nil ?_
    refine hand0 ⟨turnsW rs i (w.strip (marksS rs)), rs.map fun p => (p.1, D.fm p.2, p.2), congrArg (fun z => [_, z]) e1, rfl, ok, e3, e4, ?_⟩
    try simp only [List.nil_append]
    try walk_at "st"
    rw [e2]
    exact ⟨trivial, _, rfl⟩
  rintro G' W' ⟨rfl, o3, rfl⟩
  rw [rng_len]
  walk_at "st"
  exact k
abbrev s_Rules___getitem__ : Stmt := inClass (top 54) 2
theorem sc_Rules___getitem__ : FnScope ["self", "mark"] ["self", "mark"] (defScope s_Rules___getitem__) := ⟨rfl, rfl, rfl, by decide +kernel, rfl, by decide +kernel, by decide +kernel⟩
theorem o_getitem3 {P : Program} {w : World} {K : PySem.W.Frag} {mg : Str → Option Value} {base : Heap} {cl : Nat → Addr} {f : Addr} {fd : FuncData} (o : Own2 K (cl 3) "__getitem__" f) (B : Blt mg) (Z : ZZ K w mg cl) (Fn : Fun K "__getitem__" "Rules.__getitem__" s_Rules___getitem__ f fd)
    (c_is_mark : Cal P w K mg base 2 "is_mark" (spN FK ⟨K, cl⟩ S_ismark) []) : Opi P w K mg base 3 (cl 3) "__getitem__" (spN FK ⟨K, cl⟩ S_getRu) := by
  have fz := Z.z0
  have gz := Z.z1
  refine opiD o Fn sc_Rules___getitem__ (by intro ds W post h; first | (obtain ⟨rfl, _⟩ := h; rfl) | (obtain ⟨_, rfl, _⟩ := h; rfl) | (obtain ⟨_, _, rfl, _⟩ := h; rfl) | (obtain ⟨_, _, _, rfl, _⟩ := h; rfl) | (obtain ⟨_, _, _, _, rfl, _⟩ := h; rfl) | (obtain ⟨_, _, _, _, _, rfl, _⟩ := h; rfl) | (obtain ⟨_, _, _, _, _, _, rfl, _⟩ := h; rfl) | (obtain ⟨_, _, _, _, _, _, _, rfl, _⟩ := h; rfl) | (obtain ⟨_, _, _, _, _, _, _, _, rfl, _⟩ := h; rfl) | (obtain ⟨_, _, _, _, _, _, _, _, _, rfl, _⟩ := h; rfl) | (obtain ⟨_, _, _, _, _, _, _, _, _, _, rfl, _⟩ := h; rfl) | (obtain ⟨_, _, _, _, _, _, _, _, _, _, _, rfl, _⟩ := h; rfl)) (fun _ _ _ _ _ _ us hl => match us, hl with | [_, _], _ => rfl) fun cdv A outer s H E hr => ⟨_, pss_cons (ps_if (PW.pt (pw_or (pt_not (pt_val (pe_c c_is_mark hr (by omega) (by rfl) (pa_cons (pv 1) pa_nil)))) (pw_or1 (pt_cmp (pc_dnotin (by exact hu_of hr) (pv 1) (pe_fld (pv 0) rfl)))))) (pss_one (ps_never)) (pss_nil))
 (pss_one (ps_ret (pe_dget (by exact hu_of hr) (pe_fld (pv 0) rfl) (pv 1) (fun _ _ => rfl)))), ?_⟩
  rintro ds W post ⟨rs, x, rfl, rfl, hr, hx, k⟩
  try dsimp only [cxOf, Cx.nox, Cx.wish]
  have hc := hr.cap x hx
  have nd : (rs.map (·.1)).Nodup := hr.asc.imp (S := (· ≠ ·)) fun h => Nat.ne_of_lt h
  have hg : getG (rlPs rs) (Sum.inr (sg x.1)) = some (.fm x.2) := by
    show getG (tabL D.fm rs) _ = _
    exact getG_tabL (f := D.fm) (x := x.2) nd hx
  walk_at "st"
  refine hand0 ⟨x.1, rfl, rfl, hc.1, hc.2, ?_⟩
  try simp only [List.nil_append]
  try walk_at "st"
  refine ev_dnotin ?_
  refine ev_var rfl ?_
  refine ev_flR Z.z3 (ev_var rfl ?_)
  refine ⟨rs, rfl, .inr ⟨rfl, ?_⟩⟩
  refine ⟨rlPs rs, Sum.inr (sg x.1), .inl rfl, rfl, ?_⟩
  rw [hg]
  refine ⟨_, rfl, ?_⟩
  refine if_not rfl ?_
  refine sw_next ?_
  refine sw_ret (ev_dget (ev_flR Z.z3 (ev_var rfl ?_)))
  refine ⟨rs, rfl, .inr ⟨rfl, ?_⟩⟩
  refine ev_var rfl ?_
  exact ⟨rlPs rs, Sum.inr (sg x.1), _, .inl rfl, rfl, hg, k⟩
end
section
abbrev s_law_deck : Stmt := top 73
theorem sc_law_deck : FnScope ["_law_script", "_law_cells", "_law_stew", "_law_cell"] ["_law_script"] (defScope s_law_deck) := ⟨rfl, rfl, rfl, by decide +kernel, rfl, by decide +kernel, by decide +kernel⟩
theorem c_law_deck {P : Program} {w : World} {K : PySem.W.Frag} {mg : Str → Option Value} {base : Heap} {cl : Nat → Addr} {f : Addr} {fd : FuncData} (hm : mg "_law_deck" = some (.ref f)) (B : Blt mg) (Z : ZZ K w mg cl) (Fn : Fun K "_law_deck" "_law_deck" s_law_deck f fd) : Cal P w K mg base 1 "_law_deck" (spN FK ⟨K, cl⟩ (S_deck DkB)) [] := by
  have fz := Z.z0
  have gz := Z.z1
  refine calD hm Fn sc_law_deck (by intro ds W post h; first | (obtain ⟨rfl, _⟩ := h; rfl) | (obtain ⟨_, rfl, _⟩ := h; rfl) | (obtain ⟨_, _, rfl, _⟩ := h; rfl) | (obtain ⟨_, _, _, rfl, _⟩ := h; rfl) | (obtain ⟨_, _, _, _, rfl, _⟩ := h; rfl) | (obtain ⟨_, _, _, _, _, rfl, _⟩ := h; rfl) | (obtain ⟨_, _, _, _, _, _, rfl, _⟩ := h; rfl) | (obtain ⟨_, _, _, _, _, _, _, rfl, _⟩ := h; rfl) | (obtain ⟨_, _, _, _, _, _, _, _, rfl, _⟩ := h; rfl) | (obtain ⟨_, _, _, _, _, _, _, _, _, rfl, _⟩ := h; rfl) | (obtain ⟨_, _, _, _, _, _, _, _, _, _, rfl, _⟩ := h; rfl) | (obtain ⟨_, _, _, _, _, _, _, _, _, _, _, rfl, _⟩ := h; rfl)) (fun _ _ _ _ _ _ us hl => match us, hl with | [_], _ => rfl) fun cdv A outer s H E hr => ⟨_, pss_cons (ps_par (i := 1) (j := 2) (by rfl) sc_law_deck.nd rfl rfl (by decide) rfl rfl (pa_cons (pe_callTy call_list_of (by rfl) B.list bt_list (pa_cons (pe_slice sl_list (pv 0) po_none (po_some pe_int)) pa_nil)) (pa_cons pe_int pa_nil)) (by rfl))
 (pss_cons (ps_for PassesOwn.never rfl (pi_list (pv 1)) (pg_name (i := 3) sc_law_deck.nd rfl (Or.inl rfl)) (pss_one (ps_set (i := 2) sc_law_deck.nd rfl (Or.inl rfl) (pe_op op_mod (pe_callTy call_int1 (by rfl) B.int bt_int (pa_cons (pe_op op_add (pe_op op_add (pe_op op_mul (pv 2) pe_int) (pe_op op_mod (pe_callTy call_int1 (by rfl) B.int bt_int (pa_cons (pv 3) pa_nil)) pe_int)) pe_int) pa_nil)) pe_int))))
 (pss_one (ps_ret (pe_lst (pa_cons (pe_revL (pv 1)) (pa_cons (pv 2) (pa_cons pe_int pa_nil))))))), ?_⟩
  rintro ds W post ⟨ns, rfl, rfl, hl, k⟩
  try dsimp only [cxOf, Cx.nox, Cx.wish]
  have hc : cutD ((ns.map V.int).map D.vl) none (some 63) = ns.map D.int := (cut63 (by simpa using hl)).trans (by rw [List.map_map]; rfl)
  walk_at "st"
  rw [hc]
  refine ca_listF (.inl (.inl (.inl rfl))) ?_
  walk_at "st"
  refine sw_for (ei_list ?_)
  walk_at "st"
  refine ⟨fun i G W => W = [] ∧ ∃ (st : Int) (o : Option D), 0 ≤ st ∧ st < 2147483648 ∧ G = [some (.scr (ns.map V.int)), some (.lst (ns.map D.int)), some (.int st), o], ⟨rfl, _, _, by omega, by omega, rfl⟩, ?_, ?_⟩
  · rintro i d G' W' hd ⟨rfl, st, o, h0, h1, rfl⟩
    rw [List.getElem?_map] at hd
    obtain ⟨z, hz, e⟩ := Option.map_eq_some_iff.mp hd
    subst e
    refine tg_name ?_
    walk_at "st"
    exact ⟨rfl, _, _, Int.emod_nonneg _ (by omega), Int.lt_of_lt_of_le (Int.emod_lt_of_pos _ (by omega)) (by omega), rfl⟩
  · rintro G' W' ⟨rfl, st, o, h0, h1, rfl⟩
    refine sw_ret (ev_lst (ea_cons (ev_revL ?_)))
    walk_at "st"
    refine ⟨_, .inl (.inl rfl), fun p3 hp3 => ?_⟩
    walk_at "st"
    refine fun p4 hp4 => k p4 _ ⟨p3, ns.reverse, st, 0, ?_, by simp; omega, by omega, by omega⟩
    rw [deckW, List.map_reverse]
abbrev s_law_draw : Stmt := top 74
theorem sc_law_draw : FnScope ["_law_deck_here", "_law_many", "_law_stew", "_law_cell"] ["_law_deck_here", "_law_many"] (defScope s_law_draw) := ⟨rfl, rfl, rfl, by decide +kernel, rfl, by decide +kernel, by decide +kernel⟩
theorem c_law_draw {P : Program} {w : World} {K : PySem.W.Frag} {mg : Str → Option Value} {base : Heap} {cl : Nat → Addr} {f : Addr} {fd : FuncData} (hm : mg "_law_draw" = some (.ref f)) (B : Blt mg) (Z : ZZ K w mg cl) (Fn : Fun K "_law_draw" "_law_draw" s_law_draw f fd) : Cal P w K mg base 1 "_law_draw" (spN FK ⟨K, cl⟩ (S_draw DkB)) [] := by
  have fz := Z.z0
  have gz := Z.z1
  refine calD hm Fn sc_law_draw (by intro ds W post h; first | (obtain ⟨rfl, _⟩ := h; rfl) | (obtain ⟨_, rfl, _⟩ := h; rfl) | (obtain ⟨_, _, rfl, _⟩ := h; rfl) | (obtain ⟨_, _, _, rfl, _⟩ := h; rfl) | (obtain ⟨_, _, _, _, rfl, _⟩ := h; rfl) | (obtain ⟨_, _, _, _, _, rfl, _⟩ := h; rfl) | (obtain ⟨_, _, _, _, _, _, rfl, _⟩ := h; rfl) | (obtain ⟨_, _, _, _, _, _, _, rfl, _⟩ := h; rfl) | (obtain ⟨_, _, _, _, _, _, _, _, rfl, _⟩ := h; rfl) | (obtain ⟨_, _, _, _, _, _, _, _, _, rfl, _⟩ := h; rfl) | (obtain ⟨_, _, _, _, _, _, _, _, _, _, rfl, _⟩ := h; rfl) | (obtain ⟨_, _, _, _, _, _, _, _, _, _, _, rfl, _⟩ := h; rfl)) (fun _ _ _ _ _ _ us hl => match us, hl with | [_, _], _ => rfl) fun cdv A outer s H E hr => ⟨_, pss_cons (ps_asg (pe_op op_add (pe_ix ix_list (pv 0) pe_int (fun _ _ => rfl)) pe_int) (pg_sub (pv 0) pe_int set_list))
 (pss_cons (ps_set (i := 2) sc_law_draw.nd rfl (Or.inl rfl) (pe_op op_add (pe_ix ix_list (pv 0) pe_int (fun _ _ => rfl)) (pe_op op_mul (pe_op op_mul pe_int (pe_ix ix_list (pv 0) pe_int (fun _ _ => rfl))) (pe_ix ix_list (pv 0) pe_int (fun _ _ => rfl)))))
 (pss_cons (ps_if (pt_cmpR (op_neD hr.units) (pe_ix ix_list (pv 0) pe_int (fun _ _ => rfl)) (pe_lst pa_nil) (nomark _)) (pss_cons (ps_set (i := 3) sc_law_draw.nd rfl (Or.inl rfl) (pe_bm0 PySem.F.plainAttrs_list PySem.F.slot_list_pop PySem.F.type_list_pop mt_pop (pe_ix ix_list (pv 0) pe_int (fun _ _ => rfl))))
 (pss_cons (ps_if (pt_cmpR op_ge (pv 3) (pe_op op_pow pe_int pe_int) (nomark _)) (pss_cons (ps_expr (pe_bm PySem.F.plainAttrs_list PySem.F.slot_list_append PySem.F.type_list_append mt_append (pe_ix ix_list (pv 0) pe_int (fun _ _ => rfl)) (pa_cons (pe_op op_fdiv (pv 3) (pv 1)) pa_nil)))
 (pss_one (ps_ret (pe_op op_mod (pe_callTy call_int1 (by rfl) B.int bt_int (pa_cons (pv 3) pa_nil)) (pv 1))))) (pss_nil))
 (pss_one (ps_set (i := 2) sc_law_draw.nd rfl (Or.inl rfl) (pe_op op_add (pv 2) (pe_op op_mod (pe_callTy call_int1 (by rfl) B.int bt_int (pa_cons (pv 3) pa_nil)) pe_int)))))) (pss_nil))
 (pss_cons (ps_set (i := 2) sc_law_draw.nd rfl (Or.inl rfl) (pe_op op_mod (pe_callTy call_int1 (by rfl) B.int bt_int (pa_cons (pe_op op_add (pe_op op_mul (pv 2) pe_int) pe_int) pa_nil)) pe_int))
 (pss_cons (ps_set (i := 2) sc_law_draw.nd rfl (Or.inl rfl) (pe_op op_mod (pe_callTy call_int1 (by rfl) B.int bt_int (pa_cons (pe_op op_add (pe_op op_add (pe_op op_mul (pv 2) (pv 2)) (pe_op op_mul pe_int (pe_ix ix_list (pv 0) pe_int (fun _ _ => rfl)))) pe_int) pa_nil)) pe_int))
 (pss_one (ps_ret (pe_op op_mod (pe_op op_fdiv (pe_op op_mod (pe_callTy call_int1 (by rfl) B.int bt_int (pa_cons (pe_op op_mul (pv 2) pe_int) pa_nil)) pe_int) pe_int) (pv 1)))))))), ?_⟩
  rintro ds W post ⟨a, c, n, rfl, ⟨l, cells, s, m, rfl, hl, c0, c2⟩, n0, n1, c1, k⟩
  try dsimp only [cxOf, Cx.nox, Cx.wish]
  have h16 := sizeLine_eq
  walk_at "st"
  refine ⟨a, _, 2, 2, [], _, rfl, rfl, rfl, rfl, ?_⟩
  walk_at "st"
  refine bo_neD (vp_ints (.inr ⟨_, rfl, List.mem_cons_of_mem _ List.mem_cons_self⟩)) vp_nil (shaped_ints cells) rfl ⟨_, rfl, ?_⟩
  rw [eqv_nil]
  rcases List.eq_nil_or_concat cells with e | ⟨init, x, e⟩
  · subst e
    refine if_not rfl ?_
    walk_at "st"
    exact k _ _ (Int.emod_nonneg _ (by omega)) (Int.emod_lt_of_pos _ n0) ⟨l, [], s, m + 1, rfl, by simp, by omega, by omega⟩
  · subst e
    refine if_so (by simp) ?_
    refine sw_seq (sw_set (ev_pop ?_))
    walk_at "st"
    refine ⟨l, init.map D.int, [(a, .lst [.adr l, .int s, .int (m + 1)])], [], .int x, rfl, by simp, ?_⟩
    walk_at "st"
    refine if_dec (fun hx => ?_) (fun hx => ?_)
    · refine sw_seq (sw_drop (ev_append ?_))
      walk_at "st"
      refine ⟨l, init.map D.int, [_], [], rfl, rfl, ?_⟩
      walk_at "st"
      refine ⟨init.map D.int, [_], [], _, rfl, rfl, ?_, ?_⟩
      · simp at hl ⊢
        omega
      walk_at "st"
      refine k (x % n) _ (Int.emod_nonneg _ (by omega)) (Int.emod_lt_of_pos _ n0) ⟨l, init ++ [x / n], s, m + 1, ?_, by simp at hl ⊢; omega, by omega, by omega⟩
      rw [deckW, List.map_append]
      rfl
    · walk_at "st"
      exact k _ _ (Int.emod_nonneg _ (by omega)) (Int.emod_lt_of_pos _ n0) ⟨l, init, s, m + 1, rfl, by simp at hl ⊢; omega, by omega, by omega⟩
abbrev s_law_pick : Stmt := top 75
theorem sc_law_pick : FnScope ["_law_deck_here", "_law_lot"] ["_law_deck_here", "_law_lot"] (defScope s_law_pick) := ⟨rfl, rfl, rfl, by decide +kernel, rfl, by decide +kernel, by decide +kernel⟩
theorem c_law_pick {P : Program} {w : World} {K : PySem.W.Frag} {mg : Str → Option Value} {base : Heap} {cl : Nat → Addr} {f : Addr} {fd : FuncData} (hm : mg "_law_pick" = some (.ref f)) (B : Blt mg) (Z : ZZ K w mg cl) (Fn : Fun K "_law_pick" "_law_pick" s_law_pick f fd)
    (c_law_draw : Cal P w K mg base 1 "_law_draw" (spN FK ⟨K, cl⟩ (S_draw DkB)) []) : Cal P w K mg base 2 "_law_pick" (spN FK ⟨K, cl⟩ (S_pick DkB)) [] := by
  have fz := Z.z0
  have gz := Z.z1
  refine calD hm Fn sc_law_pick (by intro ds W post h; first | (obtain ⟨rfl, _⟩ := h; rfl) | (obtain ⟨_, rfl, _⟩ := h; rfl) | (obtain ⟨_, _, rfl, _⟩ := h; rfl) | (obtain ⟨_, _, _, rfl, _⟩ := h; rfl) | (obtain ⟨_, _, _, _, rfl, _⟩ := h; rfl) | (obtain ⟨_, _, _, _, _, rfl, _⟩ := h; rfl) | (obtain ⟨_, _, _, _, _, _, rfl, _⟩ := h; rfl) | (obtain ⟨_, _, _, _, _, _, _, rfl, _⟩ := h; rfl) | (obtain ⟨_, _, _, _, _, _, _, _, rfl, _⟩ := h; rfl) | (obtain ⟨_, _, _, _, _, _, _, _, _, rfl, _⟩ := h; rfl) | (obtain ⟨_, _, _, _, _, _, _, _, _, _, rfl, _⟩ := h; rfl) | (obtain ⟨_, _, _, _, _, _, _, _, _, _, _, rfl, _⟩ := h; rfl)) (fun _ _ _ _ _ _ us hl => match us, hl with | [_, _], _ => rfl) fun cdv A outer s H E hr => ⟨_, pss_one (ps_ret (pe_ix ix_seq (pv 1) (pe_c c_law_draw hr (by omega) (by rfl) (pa_cons (pv 0) (pa_cons (pe_callB call_len (by rfl) B.len bt_len (pa_cons (pv 1) pa_nil)) pa_nil))) (fun _ _ => rfl))), ?_⟩
  rintro ds W post ⟨a, c, m, rfl, hd, hc, h⟩
  try dsimp only [cxOf, Cx.nox, Cx.wish]
  rcases h with ⟨l, hm, hne, hl, h⟩ | ⟨x, rfl, hne, hl, h⟩
  · have hv : Vs W m l := hm.elim (fun e => .inl (.inl (.inl e))) .inr
    walk_at "st"
    refine ca_len hv ?_
    have : 0 < l.length := List.length_pos_iff.mpr hne
    walk_at "st"
    refine handA ⟨a, c, _, rfl, hd, by omega, by omega, hc, fun z W' h0 h1 hd' => ?_⟩
    try walk_at "st"
    obtain ⟨y, hy, e⟩ := at_of_draw (l := l) h0 h1
    have hv' : Vs W' m l := hm.elim (fun e => .inl (.inl (.inl e))) .inr
    exact bo_ixSq hv' e (h y hy W' hd')
  · have h16 := sizeLine_eq
    walk_at "st"
    refine ca_lenS (by omega) ?_
    walk_at "st"
    refine handA ⟨a, c, _, rfl, hd, by omega, by omega, hc, fun z W' h0 h1 hd' => ?_⟩
    try walk_at "st"
    obtain ⟨y, hy, e⟩ := at_of_draw (l := lets x) h0 (by rw [← str_len]; exact h1)
    exact bo_ixSqS (by omega) e (h y hy W' hd')
end
section
abbrev s_atom : Stmt := top 26
theorem sc_atom : FnScope ["letter"] ["letter"] (defScope s_atom) := ⟨rfl, rfl, rfl, by decide +kernel, rfl, by decide +kernel, by decide +kernel⟩
theorem c_atom {P : Program} {w : World} {K : PySem.W.Frag} {mg : Str → Option Value} {base : Heap} {cl : Nat → Addr} {f : Addr} {fd : FuncData} (hm : mg "atom" = some (.ref f)) (B : Blt mg) (Z : ZZ K w mg cl) (Fn : Fun K "atom" "atom" s_atom f fd)
    (c_is_atom : Cal P w K mg base 1 "is_atom" (spN FK ⟨K, cl⟩ S_isatom) [])
    (m_Formula : MakR P w K mg base 2 "Formula" (cl 0) (spN FK ⟨K, cl⟩ (starS 2 S_init))) : Cal P w K mg base 5 "atom" (spN FK ⟨K, cl⟩ S_atom) [] := by
  have fz := Z.z0
  have gz := Z.z1
  refine calD hm Fn sc_atom (by intro ds W post h; first | (obtain ⟨rfl, _⟩ := h; rfl) | (obtain ⟨_, rfl, _⟩ := h; rfl) | (obtain ⟨_, _, rfl, _⟩ := h; rfl) | (obtain ⟨_, _, _, rfl, _⟩ := h; rfl) | (obtain ⟨_, _, _, _, rfl, _⟩ := h; rfl) | (obtain ⟨_, _, _, _, _, rfl, _⟩ := h; rfl) | (obtain ⟨_, _, _, _, _, _, rfl, _⟩ := h; rfl) | (obtain ⟨_, _, _, _, _, _, _, rfl, _⟩ := h; rfl) | (obtain ⟨_, _, _, _, _, _, _, _, rfl, _⟩ := h; rfl) | (obtain ⟨_, _, _, _, _, _, _, _, _, rfl, _⟩ := h; rfl) | (obtain ⟨_, _, _, _, _, _, _, _, _, _, rfl, _⟩ := h; rfl) | (obtain ⟨_, _, _, _, _, _, _, _, _, _, _, rfl, _⟩ := h; rfl)) (fun _ _ _ _ _ _ us hl => match us, hl with | [_], _ => rfl) fun cdv A outer s H E hr => ⟨_, pss_cons (ps_if (pt_not (pt_val (pe_c c_is_atom hr (by omega) (by rfl) (pa_cons (pv 0) pa_nil)))) (pss_one (ps_never)) (pss_nil))
 (pss_one (ps_ret (pe_mkR m_Formula hr (by omega) (by rfl) (pa_cons (C8.pe_gc (by rfl) Z.g_ATOM) (pa_cons (pv 0) pa_nil))))), ?_⟩
  rintro ds W post ⟨c, rfl, rfl, hc, k⟩
  try dsimp only [cxOf, Cx.nox, Cx.wish]
  walk_at "st"
  refine hand0 ⟨_, rfl, rfl, Nat.le_of_ble_eq_true rfl, ?_⟩
  try simp only [List.nil_append]
  try walk_at "st"
  have hcL : (65 ≤ c ∧ c ≤ 90) ∨ (97 ≤ c ∧ c ≤ 122) := hc
  rw [isLet_sg, decide_eq_true hcL]
  refine if_not rfl ?_
  walk_at "st"
  exact ⟨.at c, rfl, ⟨hc, Nat.le_of_ble_eq_true rfl, Nat.lt_of_lt_of_le Nat.zero_lt_one (Nat.le_of_ble_eq_true rfl)⟩, k⟩
abbrev s_law_tree : Stmt := top 76
theorem sc_law_tree : FnScope ["_law_deck_here", "_law_free", "_law_inner", "_law_size", "_law_kind", "_law_left", "_law_at_here"] ["_law_deck_here", "_law_free", "_law_inner", "_law_size"] (defScope s_law_tree) := ⟨rfl, rfl, rfl, by decide +kernel, rfl, by decide +kernel, by decide +kernel⟩
theorem c_law_tree {P : Program} {w : World} {K : PySem.W.Frag} {mg : Str → Option Value} {base : Heap} {cl : Nat → Addr} {f : Addr} {fd : FuncData} (hm : mg "_law_tree" = some (.ref f)) (B : Blt mg) (Z : ZZ K w mg cl) (Fn : Fun K "_law_tree" "_law_tree" s_law_tree f fd)
    (c_law_draw : Cal P w K mg base 1 "_law_draw" (spN FK ⟨K, cl⟩ (S_draw DkB)) []) : ∀ j, Cal P w K mg base (2 + j) "_law_tree" (spN FK ⟨K, cl⟩ (S_treeB j)) [] := by
  have fz := Z.z0
  have gz := Z.z1
  intro j
  induction j with
  | zero => exact calD (k := 1) hm Fn sc_law_tree (by intro ds W post h; first | (obtain ⟨rfl, _⟩ := h; rfl) | (obtain ⟨_, rfl, _⟩ := h; rfl) | (obtain ⟨_, _, rfl, _⟩ := h; rfl) | (obtain ⟨_, _, _, rfl, _⟩ := h; rfl) | (obtain ⟨_, _, _, _, rfl, _⟩ := h; rfl) | (obtain ⟨_, _, _, _, _, rfl, _⟩ := h; rfl) | (obtain ⟨_, _, _, _, _, _, rfl, _⟩ := h; rfl) | (obtain ⟨_, _, _, _, _, _, _, rfl, _⟩ := h; rfl) | (obtain ⟨_, _, _, _, _, _, _, _, rfl, _⟩ := h; rfl) | (obtain ⟨_, _, _, _, _, _, _, _, _, rfl, _⟩ := h; rfl) | (obtain ⟨_, _, _, _, _, _, _, _, _, _, rfl, _⟩ := h; rfl) | (obtain ⟨_, _, _, _, _, _, _, _, _, _, _, rfl, _⟩ := h; rfl)) (fun _ _ _ _ _ _ us hl => match us, hl with | [_, _, _, _], _ => rfl) fun cdv A outer s H E hr => ⟨_, pss_never, fun ds W post ⟨a, c, p, q, n, _, _, _, h, _⟩ => absurd h (Nat.not_lt_zero _)⟩
  | succ j c_law_tree =>
    refine calD (k := 2 + j) hm Fn sc_law_tree (by intro ds W post h; first | (obtain ⟨rfl, _⟩ := h; rfl) | (obtain ⟨_, rfl, _⟩ := h; rfl) | (obtain ⟨_, _, rfl, _⟩ := h; rfl) | (obtain ⟨_, _, _, rfl, _⟩ := h; rfl) | (obtain ⟨_, _, _, _, rfl, _⟩ := h; rfl) | (obtain ⟨_, _, _, _, _, rfl, _⟩ := h; rfl) | (obtain ⟨_, _, _, _, _, _, rfl, _⟩ := h; rfl) | (obtain ⟨_, _, _, _, _, _, _, rfl, _⟩ := h; rfl) | (obtain ⟨_, _, _, _, _, _, _, _, rfl, _⟩ := h; rfl) | (obtain ⟨_, _, _, _, _, _, _, _, _, rfl, _⟩ := h; rfl) | (obtain ⟨_, _, _, _, _, _, _, _, _, _, rfl, _⟩ := h; rfl) | (obtain ⟨_, _, _, _, _, _, _, _, _, _, _, rfl, _⟩ := h; rfl)) (fun _ _ _ _ _ _ us hl => match us, hl with | [_, _, _, _], _ => rfl) fun cdv A outer s H E hr => ⟨_, pss_cons (ps_set (i := 4) sc_law_tree.nd rfl (Or.inl rfl) (pe_c c_law_draw hr (by omega) (by rfl) (pa_cons (pv 0) (pa_cons pe_int pa_nil))))
 (pss_cons (ps_if (PW.pt (pw_and (pt_cmpR op_gt (pv 3) pe_int (nomark _)) (pw_and1 (pt_cmpR op_lt (pv 4) pe_int (nomark _))))) (pss_one (ps_ret (pe_tup (pa_cons pe_str (pa_cons (pe_c c_law_tree hr (by omega) (by rfl) (pa_cons (pv 0) (pa_cons (pe_op op_add_str (pe_op op_add_str (pv 1) (pv 2)) (pv 2)) (pa_cons pe_str (pa_cons (pe_op op_sub (pv 3) pe_int) pa_nil))))) pa_nil))))) (pss_nil))
 (pss_cons (ps_if (PW.pt (pw_and (pt_cmpR op_gt (pv 3) pe_int (nomark _)) (pw_and1 (pt_cmpR op_lt (pv 4) pe_int (nomark _))))) (pss_cons (ps_set (i := 5) sc_law_tree.nd rfl (Or.inl rfl) (pe_op op_add pe_int (pe_c c_law_draw hr (by omega) (by rfl) (pa_cons (pv 0) (pa_cons (pe_op op_sub (pv 3) pe_int) pa_nil)))))
 (pss_one (ps_ret (pe_tup (pa_cons pe_str (pa_cons (pe_c c_law_tree hr (by omega) (by rfl) (pa_cons (pv 0) (pa_cons (pv 1) (pa_cons (pv 2) (pa_cons (pv 5) pa_nil))))) (pa_cons (pe_c c_law_tree hr (by omega) (by rfl) (pa_cons (pv 0) (pa_cons (pv 1) (pa_cons (pv 2) (pa_cons (pe_op op_sub (pe_op op_sub (pv 3) pe_int) (pv 5)) pa_nil))))) pa_nil))))))) (pss_nil))
 (pss_cons (ps_set (i := 6) sc_law_tree.nd rfl (Or.inl rfl) (pe_c c_law_draw hr (by omega) (by rfl) (pa_cons (pv 0) (pa_cons (pe_op op_add (pe_callB call_len (by rfl) B.len bt_len (pa_cons (pv 1) pa_nil)) pe_int) pa_nil))))
 (pss_one (ps_ret (pe_ifExp (pt_cmpR op_eq (pv 6) (pe_callB call_len (by rfl) B.len bt_len (pa_cons (pv 1) pa_nil)) (nomark _)) (pe_tup (pa_cons pe_str pa_nil)) (pe_tup (pa_cons pe_str (pa_cons (pe_ix ix_seq (pv 1) (pv 6) (fun _ _ => rfl)) pa_nil))))))))), ?_⟩
    rintro ds W post ⟨a, c, p, q, n, rfl, hd, hn, hj, hj2, hl, hc, k⟩
    try dsimp only [cxOf, Cx.nox, Cx.wish]
    have h16 := sizeLine_eq
    walk_at "st"
    refine handA ⟨a, c, 5, rfl, hd, by omega, by omega, by omega, fun z W1 z0 z1 hd1 => ?_⟩
    try walk_at "st"
    rcases Classical.em ((1 : Int) < n) with h | h
    case' inl =>
      refine if_so (decide_eq_true h) ?_
      walk_at "st"
      rcases Classical.em (z < 2) with h2 | h2
      case' inr => refine if_not (decide_eq_false h2) ?_
      case inl =>
        refine if_so (decide_eq_true h2) ?_
        obtain ⟨m, rfl⟩ : ∃ m, n = m + 1 := ⟨n - 1, by omega⟩
        walk_at "st"
        refine bo_addS (by omega) ?_
        walk_at "st"
        refine bo_addS (by rw [str_app_len]; omega) ?_
        walk_at "st"
        rw [str_nat]
        have l0 : ("" : Str).length = 0 := rfl
        refine handA ⟨a, c + 1, p ++ q ++ q, "", m, rfl, hd1, by omega, by omega, by omega, by rw [str_app_len, str_app_len, l0]; omega, by push_cast at hc; omega, fun f W2 f1 f2 f3 => ?_⟩
        try walk_at "st"
        exact k (.all f) W2 f1 (by simp only [Fm.many]; omega) (DkB_mono f3 (by push_cast; omega))
    case' inr => refine if_not (decide_eq_false h) ?_
    all_goals
      walk_at "st"
      rcases Classical.em ((2 : Int) < n) with h3 | h3
      case' inl =>
        refine if_so (decide_eq_true h3) ?_
        walk_at "st"
        rcases Classical.em (z < 4) with h4 | h4
        case' inr => refine if_not (decide_eq_false h4) ?_
        case inl =>
          refine if_so (decide_eq_true h4) ?_
          walk_at "st"
          refine handA ⟨a, _, _, rfl, hd1, by omega, by omega, by omega, fun y W2 y0 y1 hd2 => ?_⟩
          try walk_at "st"
          obtain ⟨l, rfl⟩ := Int.eq_ofNat_of_zero_le y0
          obtain ⟨r, rfl⟩ : ∃ r, n = l + r + 3 := ⟨n - l - 3, by omega⟩
          walk_at "st"
          have e1 : (1 : Int) + ((l : Nat) : Int) = ((l + 1 : Nat) : Int) := by omega
          have e2 : (((l + r + 3 : Nat) : Int) - 1) - ((l + 1 : Nat) : Int) = ((r + 1 : Nat) : Int) := by omega
          rw [e1]
          refine handA ⟨a, _, p, q, l + 1, rfl, hd2, by omega, by omega, by omega, hl, by push_cast at hc ⊢; omega, fun f W3 f1 f2 f3 => ?_⟩
          try walk_at "st"
          rw [e2]
          refine handA ⟨a, _, p, q, r + 1, rfl, f3, by omega, by omega, by omega, hl, by push_cast at hc ⊢; omega, fun g W4 g1 g2 g3 => ?_⟩
          try walk_at "st"
          exact k (.imp f g) W4 ⟨f1, g1⟩ (by simp only [Fm.many]; omega) (DkB_mono g3 (by push_cast; omega))
      case' inr => refine if_not (decide_eq_false h3) ?_
      all_goals
        walk_at "st"
        refine ca_lenS (by omega) ?_
        walk_at "st"
        refine handA ⟨a, _, _, rfl, hd1, by omega, by omega, by omega, fun y W2 y0 y1 hd2 => ?_⟩
        try walk_at "st"
        refine ca_lenS (by omega) ?_
        walk_at "st"
        refine if_dec (fun h5 => ?_) (fun h5 => ?_)
        · walk_at "st"
          exact k .no W2 trivial (by simp only [Fm.many]; omega) (DkB_mono hd2 (by omega))
        · obtain ⟨x, hx, e⟩ := at_of_draw (l := lets p) y0 (by rw [← str_len]; omega)
          walk_at "st"
          refine bo_ixSqS (by omega) e ?_
          walk_at "st"
          exact k (.at x) W2 hx (by simp only [Fm.many]; omega) (DkB_mono hd2 (by omega))
abbrev s_law_built : Stmt := top 77
theorem sc_law_built : FnScope ["_law_tree_here"] ["_law_tree_here"] (defScope s_law_built) := ⟨rfl, rfl, rfl, by decide +kernel, rfl, by decide +kernel, by decide +kernel⟩
theorem c_law_built {P : Program} {w : World} {K : PySem.W.Frag} {mg : Str → Option Value} {base : Heap} {cl : Nat → Addr} {f : Addr} {fd : FuncData} (hm : mg "_law_built" = some (.ref f)) (B : Blt mg) (Z : ZZ K w mg cl) (Fn : Fun K "_law_built" "_law_built" s_law_built f fd)
    (c_atom : Cal P w K mg base 5 "atom" (spN FK ⟨K, cl⟩ S_atom) [])
    (c_no : Cal P w K mg base 5 "no" (spN FK ⟨K, cl⟩ S_no) [])
    (c_every : Cal P w K mg base 5 "every" (spN FK ⟨K, cl⟩ S_every) [])
    (o_shr : Opn P w K mg base 7 (cl 0) "__rshift__" (spN FK ⟨K, cl⟩ S_shr)) : ∀ j, Cal P w K mg base (10 + j) "_law_built" (spN FK ⟨K, cl⟩ (S_built j)) [] := by
  have fz := Z.z0
  have gz := Z.z1
  intro j
  induction j with
  | zero => exact calD (k := 9) hm Fn sc_law_built (by intro ds W post h; first | (obtain ⟨rfl, _⟩ := h; rfl) | (obtain ⟨_, rfl, _⟩ := h; rfl) | (obtain ⟨_, _, rfl, _⟩ := h; rfl) | (obtain ⟨_, _, _, rfl, _⟩ := h; rfl) | (obtain ⟨_, _, _, _, rfl, _⟩ := h; rfl) | (obtain ⟨_, _, _, _, _, rfl, _⟩ := h; rfl) | (obtain ⟨_, _, _, _, _, _, rfl, _⟩ := h; rfl) | (obtain ⟨_, _, _, _, _, _, _, rfl, _⟩ := h; rfl) | (obtain ⟨_, _, _, _, _, _, _, _, rfl, _⟩ := h; rfl) | (obtain ⟨_, _, _, _, _, _, _, _, _, rfl, _⟩ := h; rfl) | (obtain ⟨_, _, _, _, _, _, _, _, _, _, rfl, _⟩ := h; rfl) | (obtain ⟨_, _, _, _, _, _, _, _, _, _, _, rfl, _⟩ := h; rfl)) (fun _ _ _ _ _ _ us hl => match us, hl with | [_], _ => rfl) fun cdv A outer s H E hr => ⟨_, pss_never, fun ds W post ⟨f, _, _, h, _⟩ => absurd h (Nat.not_lt_zero _)⟩
  | succ j c_law_built =>
    refine calD (k := 10 + j) hm Fn sc_law_built (by intro ds W post h; first | (obtain ⟨rfl, _⟩ := h; rfl) | (obtain ⟨_, rfl, _⟩ := h; rfl) | (obtain ⟨_, _, rfl, _⟩ := h; rfl) | (obtain ⟨_, _, _, rfl, _⟩ := h; rfl) | (obtain ⟨_, _, _, _, rfl, _⟩ := h; rfl) | (obtain ⟨_, _, _, _, _, rfl, _⟩ := h; rfl) | (obtain ⟨_, _, _, _, _, _, rfl, _⟩ := h; rfl) | (obtain ⟨_, _, _, _, _, _, _, rfl, _⟩ := h; rfl) | (obtain ⟨_, _, _, _, _, _, _, _, rfl, _⟩ := h; rfl) | (obtain ⟨_, _, _, _, _, _, _, _, _, rfl, _⟩ := h; rfl) | (obtain ⟨_, _, _, _, _, _, _, _, _, _, rfl, _⟩ := h; rfl) | (obtain ⟨_, _, _, _, _, _, _, _, _, _, _, rfl, _⟩ := h; rfl)) (fun _ _ _ _ _ _ us hl => match us, hl with | [_], _ => rfl) fun cdv A outer s H E hr => ⟨_, pss_cons (ps_if (pt_cmpR op_eq (pe_ix ix_tup (pv 0) pe_int (fun _ _ => rfl)) pe_str (nomark _)) (pss_one (ps_ret (pe_c c_atom hr (by omega) (by rfl) (pa_cons (pe_ix ix_tup (pv 0) pe_int (fun _ _ => rfl)) pa_nil)))) (pss_nil))
 (pss_cons (ps_if (pt_cmpR op_eq (pe_ix ix_tup (pv 0) pe_int (fun _ _ => rfl)) pe_str (nomark _)) (pss_one (ps_ret (pe_c0 c_no hr (by omega) (by rfl)))) (pss_nil))
 (pss_cons (ps_if (pt_cmpR op_eq (pe_ix ix_tup (pv 0) pe_int (fun _ _ => rfl)) pe_str (nomark _)) (pss_one (ps_ret (pe_c c_every hr (by omega) (by rfl) (pa_cons (pe_c c_law_built hr (by omega) (by rfl) (pa_cons (pe_ix ix_tup (pv 0) pe_int (fun _ _ => rfl)) pa_nil)) pa_nil)))) (pss_nil))
 (pss_one (ps_ret (pe_op (op_opn o_shr hr (by omega) fz.sf) (pe_c c_law_built hr (by omega) (by rfl) (pa_cons (pe_ix ix_tup (pv 0) pe_int (fun _ _ => rfl)) pa_nil)) (pe_c c_law_built hr (by omega) (by rfl) (pa_cons (pe_ix ix_tup (pv 0) pe_int (fun _ _ => rfl)) pa_nil))))))), ?_⟩
    rintro ds W post ⟨f, rfl, rfl, hj, hf, k⟩
    try dsimp only [cxOf, Cx.nox, Cx.wish]
    cases f with
    | «at» c =>
      simp only [Fm.tr]
      walk_at "st"
      refine hand0 ⟨c, rfl, rfl, hf.ok, ?_⟩
      try simp only [List.nil_append]
      try walk_at "st"
      exact k
    | no =>
      simp only [Fm.tr]
      walk_at "st"
      exact hand0 ⟨rfl, rfl, k⟩
    | all a =>
      simp only [Fm.tr, Fm.ht] at hj ⊢
      walk_at "st"
      refine hand0 ⟨a, rfl, rfl, by omega, hf.a, ?_⟩
      try simp only [List.nil_append]
      try walk_at "st"
      refine hand0 ⟨a, rfl, rfl, hf, ?_⟩
      try simp only [List.nil_append]
      try walk_at "st"
      exact k
    | imp a b =>
      simp only [Fm.tr, Fm.ht] at hj ⊢
      walk_at "st"
      refine hand0 ⟨a, rfl, rfl, by omega, hf.l, ?_⟩
      try simp only [List.nil_append]
      try walk_at "st"
      refine hand0 ⟨b, rfl, rfl, by omega, hf.r, ?_⟩
      try simp only [List.nil_append]
      try walk_at "st"
      refine bo_fm2 ?_
      refine hand0 ⟨a, b, rfl, rfl, hf, ?_⟩
      try simp only [List.nil_append]
      try walk_at "st"
      exact k
end
section
abbrev s_law_web : Stmt := top 79
theorem sc_law_web : FnScope ["_law_deck_here", "_law_letters", "_law_most", "_law_below", "_law_stand", "_law_k", "_law_thick", "_law_j", "_law_one"] ["_law_deck_here", "_law_letters", "_law_most"] (defScope s_law_web) := ⟨rfl, rfl, rfl, by decide +kernel, rfl, by decide +kernel, by decide +kernel⟩
theorem c_law_web {P : Program} {w : World} {K : PySem.W.Frag} {mg : Str → Option Value} {base : Heap} {cl : Nat → Addr} {f : Addr} {fd : FuncData} (hm : mg "_law_web" = some (.ref f)) (B : Blt mg) (Z : ZZ K w mg cl) (Fn : Fun K "_law_web" "_law_web" s_law_web f fd)
    (c_law_draw : Cal P w K mg base 1 "_law_draw" (spN FK ⟨K, cl⟩ (S_draw DkB)) []) : Cal P w K mg base 2 "_law_web" (spN FK ⟨K, cl⟩ S_webB) [] := by
  have fz := Z.z0
  have gz := Z.z1
  refine calD hm Fn sc_law_web (by intro ds W post h; first | (obtain ⟨rfl, _⟩ := h; rfl) | (obtain ⟨_, rfl, _⟩ := h; rfl) | (obtain ⟨_, _, rfl, _⟩ := h; rfl) | (obtain ⟨_, _, _, rfl, _⟩ := h; rfl) | (obtain ⟨_, _, _, _, rfl, _⟩ := h; rfl) | (obtain ⟨_, _, _, _, _, rfl, _⟩ := h; rfl) | (obtain ⟨_, _, _, _, _, _, rfl, _⟩ := h; rfl) | (obtain ⟨_, _, _, _, _, _, _, rfl, _⟩ := h; rfl) | (obtain ⟨_, _, _, _, _, _, _, _, rfl, _⟩ := h; rfl) | (obtain ⟨_, _, _, _, _, _, _, _, _, rfl, _⟩ := h; rfl) | (obtain ⟨_, _, _, _, _, _, _, _, _, _, rfl, _⟩ := h; rfl) | (obtain ⟨_, _, _, _, _, _, _, _, _, _, _, rfl, _⟩ := h; rfl)) (fun _ _ _ _ _ _ us hl => match us, hl with | [_, _, _], _ => rfl) fun cdv A outer s H E hr => ⟨_, pss_cons (ps_par (i := 3) (j := 4) (by rfl) sc_law_web.nd rfl rfl (by decide) rfl rfl (pa_cons (pe_lst pa_nil) (pa_cons (pe_lst pa_nil) pa_nil)) (by rfl))
 (pss_cons (ps_for PassesOwn.never rfl (pi_range1 (by rfl) B.range (pa_cons (pe_op op_add pe_int (pe_c c_law_draw hr (by omega) (by rfl) (pa_cons (pv 0) (pa_cons (pv 2) pa_nil)))) pa_nil)) (pg_name (i := 5) sc_law_web.nd rfl (Or.inl rfl)) (pss_cons (ps_set (i := 6) sc_law_web.nd rfl (Or.inr rfl) (pe_c c_law_draw hr (by omega) (by rfl) (pa_cons (pv 0) (pa_cons pe_int pa_nil))))
 (pss_cons (ps_expr (pe_bm PySem.F.plainAttrs_list PySem.F.slot_list_append PySem.F.type_list_append mt_append (pv 3) (pa_cons (pe_callTy call_tuple_of (by rfl) B.tuple bt_tuple (pa_cons (pe_lc (own := [("_law_j", 7)]) (by rfl) sc_law_web.nd (pi_range1 (by rfl) B.range (pa_cons (pv 5) pa_nil)) (blkOk_by (own := [("_law_j", 7)]) (N := ["_law_deck_here", "_law_letters", "_law_most", "_law_below", "_law_stand", "_law_k", "_law_thick", "_law_j", "_law_one"]) (sc := defScope s_law_web) (by decide +kernel)) (fun _ _ _ _ _ => (pg_name (i := 7) sc_law_web.nd rfl (Or.inl rfl))) (fun _ _ _ _ _ => pts_one (pt_cmpR op_le (pe_c c_law_draw hr (by omega) (by rfl) (pa_cons (pv 0) (pa_cons pe_int pa_nil))) (pv 6) (nomark _))) (fun _ _ _ _ _ => (pv 7))) pa_nil)) pa_nil)))
 (pss_one (ps_expr (pe_bm PySem.F.plainAttrs_list PySem.F.slot_list_append PySem.F.type_list_append mt_append (pv 4) (pa_cons (pe_join pe_str (pe_lc (own := [("_law_one", 8)]) (by rfl) sc_law_web.nd (pi_str (pv 1)) (blkOk_by (own := [("_law_one", 8)]) (N := ["_law_deck_here", "_law_letters", "_law_most", "_law_below", "_law_stand", "_law_k", "_law_thick", "_law_j", "_law_one"]) (sc := defScope s_law_web) (by decide +kernel)) (fun _ _ _ _ _ => (pg_name (i := 8) sc_law_web.nd rfl (Or.inl rfl))) (fun _ _ _ _ _ => pts_one (pt_cmpR op_eq (pe_c c_law_draw hr (by omega) (by rfl) (pa_cons (pv 0) (pa_cons pe_int pa_nil))) pe_int (nomark _))) (fun _ _ _ _ _ => (pv 8)))) pa_nil)))))))
 (pss_one (ps_ret (pe_disp (pps_cons pe_str (pe_callTy call_tuple_of (by rfl) B.tuple bt_tuple (pa_cons (pv 3) pa_nil)) (pps_cons pe_str (pv 4) pps_nil)) (by rfl) (by rfl) (fun z => by cases z) (by decide))))), ?_⟩
  rintro ds W post ⟨a, c, p, n, rfl, hd, n0, n40, hp, asc, hpl, hc, k⟩
  try dsimp only [cxOf, Cx.nox, Cx.wish]
  have h16 := sizeLine_eq
  refine sw_seq (sw_par ?_)
  refine ea_cons (ev_lst ?_)
  walk_at "st"
  intro p1 hp1
  refine ea_cons (ev_lst ?_)
  walk_at "st"
  intro p2 hp2
  refine ea_nil ?_
  refine ⟨_, _, rfl, ?_⟩
  refine sw_seq (sw_for (ei_rng1 ?_))
  walk_at "st"
  refine ⟨W, [(p2, .lst []), (p1, .lst [])], List.perm_append_comm (l₁ := [_, _]), a, c, (n : Int), rfl, hd, by omega, by omega, by omega, fun z W1 z0 z1 hd1 => ?_⟩
  walk_at "st"
  refine ⟨by omega, by omega, fun i G' W' => ∃ (rs : List (List Nat)) (as : List Str) (Wd : Om), rs.length = i ∧ as.length = i ∧ rowsOk rs ∧ (∀ s ∈ as, letters s ∧ (lets s).Pairwise (· < ·) ∧ ∀ q ∈ lets s, q ∈ lets p) ∧ DkB a (c + 1 + 200 * (i : Nat)) Wd ∧ W' = Wd ++ [(p2, .lst (as.map .str)), (p1, .lst (rs.map rowD))] ∧ ∃ o o2, G' = [some (.adr a), some (.str p), some (natD n), some (.adr p1), some (.adr p2), o, o2, none, none], ⟨[], [], W1, rfl, rfl, rowsOk.nil, by simp, DkB_mono hd1 (by omega), rfl, _, _, rfl⟩, ?_, ?_⟩
  · rintro i d G' W' hdd ⟨rs, as, Wd, hrs, has, hr, hs, hdk, rfl, o, o2, rfl⟩
    obtain ⟨hi, rfl⟩ := rng_get hdd
    have hi40 : i < 41 := by omega
    refine tg_name ?_
    walk_at "st"
    refine ⟨Wd, _, List.Perm.refl _, a, _, 3, rfl, hdk, by omega, by omega, by omega, fun y Wd y0 y1 hdk => ?_⟩
    walk_at "st"
    refine ev_append ?_
    walk_at "st"
    refine ⟨p1, rs.map rowD, Wd ++ [(p2, .lst (as.map .str))], [], by simp, by simp, ?_⟩
    walk_at "st"
    refine ev_lcF (ei_rng1 ?_)
    walk_at "st"
    refine ⟨by omega, by omega, fun t acc W' => ∃ (l : List Nat) (Wd : Om), acc = l.map natD ∧ l.Sublist (List.range t) ∧ DkB a (c + 2 + 200 * (i : Nat) + (t : Nat)) Wd ∧ W' = Wd ++ [(p2, .lst (as.map .str)), (p1, .lst (rs.map rowD))], ⟨[], Wd, rfl, by simp, DkB_mono hdk (by omega), rfl⟩, ?_, ?_⟩
    · rintro t d acc W' hdd ⟨l, Wd, rfl, hl, hdk, rfl⟩
      obtain ⟨ht, rfl⟩ := rng_get hdd
      have hll := hl.length_le
      rw [List.length_range] at hll
      refine tw_name (by simp) ?_
      walk_at "st"
      refine ⟨Wd, _, List.Perm.refl _, a, _, 3, rfl, hdk, by omega, by omega, by omega, fun z W2 z0 z1 hd2 => ?_⟩
      walk_at "st"
      refine if_dec (fun h => ?_) (fun h => ?_)
      · walk_at "st"
        refine ⟨by rw [List.length_map]; omega, l ++ [t], W2, ?_, ?_, DkB_mono hd2 (by omega), rfl⟩
        · rw [List.map_append]
          congr 1
          show [D.int _] = [D.int _]
          congr 2
          omega
        · rw [List.range_succ]
          exact hl.append (List.Sublist.refl _)
      · refine ⟨l, W2, rfl, ?_, DkB_mono hd2 (by omega), rfl⟩
        rw [List.range_succ]
        exact hl.trans (List.sublist_append_left _ _)
    rintro acc W' ⟨l, Wd, rfl, hl, hdk, rfl⟩
    rw [rng_len] at hl hdk
    have e0 : ((0 : Int) + (i : Nat)).toNat = i := by omega
    rw [e0] at hl hdk
    have hll := hl.length_le
    rw [List.length_range] at hll
    walk_at "st"
    refine ca_tup (.inl (.inl rfl)) ?_
    walk_at "st"
    refine ⟨rs.map rowD, Wd ++ [(p2, .lst (as.map .str))], [], _, by simp, rfl, by rw [List.length_map]; omega, ?_⟩
    walk_at "st"
    refine ev_append ?_
    walk_at "st"
    refine ⟨p2, as.map .str, Wd, [(p1, .lst (rs.map rowD ++ [rowD l]))], rfl, by simp, ?_⟩
    walk_at "st"
    refine ev_join ?_
    walk_at "st"
    refine ev_lcF (ei_str ?_)
    walk_at "st"
    refine ⟨fun t acc W' => ∃ (m : List Nat) (Wd : Om), acc = (m.map fun c => D.str (sg c)) ∧ m.Sublist ((lets p).take t) ∧ DkB a (c + 2 + 200 * (i : Nat) + 41 + (t : Nat)) Wd ∧ W' = Wd ++ [(p2, .lst (as.map .str)), (p1, .lst (rs.map rowD ++ [rowD l]))], ⟨[], Wd, rfl, by simp, DkB_mono hdk (by omega), by simp⟩, ?_, ?_⟩
    · rintro t d acc W' hd ⟨m, Wd, rfl, hm, hdk, rfl⟩
      rw [List.getElem?_map] at hd
      obtain ⟨q, hq, rfl⟩ := Option.map_eq_some_iff.mp hd
      have hq : (lets p)[t]? = some q := hq
      have hml := hm.length_le
      rw [List.length_take] at hml
      have ht := (List.getElem?_eq_some_iff.mp hq).1
      refine tw_name (by simp) ?_
      walk_at "st"
      refine ⟨Wd, _, List.Perm.refl _, a, _, 2, rfl, hdk, by omega, by omega, by omega, fun z W2 z0 z1 hd2 => ?_⟩
      walk_at "st"
      have etk : (lets p).take (t + 1) = (lets p).take t ++ [q] := by rw [List.take_add_one, hq]; rfl
      refine if_dec (fun h => ?_) (fun h => ?_)
      · walk_at "st"
        refine ⟨by rw [List.length_map]; omega, m ++ [q], W2, by simp [sg], ?_, DkB_mono hd2 (by omega), rfl⟩
        rw [etk]
        exact hm.append (List.Sublist.refl _)
      · refine ⟨m, W2, rfl, ?_, DkB_mono hd2 (by omega), rfl⟩
        rw [etk]
        exact hm.trans (List.sublist_append_left _ _)
    rintro acc W' ⟨m, Wd, rfl, hm, hdk, rfl⟩
    rw [List.length_map] at hm hdk
    have hm : m.Sublist ((lets p).take (lets p).length) := hm
    have hdk : DkB a (c + 2 + 200 * (i : Nat) + 41 + ((lets p).length : Nat)) Wd := hdk
    rw [List.take_length] at hm
    have hml := hm.length_le
    refine ⟨m.map sg, .inl (.inl (.inl (by rw [List.map_map]; rfl))), ?_, ?_⟩
    · rw [sg_sum, List.length_map]
      show m.length + m.length * 0 ≤ _
      omega
    · rw [join_nil_sg]
      walk_at "st"
      refine ⟨as.map .str, Wd, [_], _, rfl, rfl, by rw [List.length_map]; omega, ?_⟩
      refine ⟨rs ++ [l], as ++ [⟨m.toArray⟩], Wd, by simp [hrs], by simp [has], hr.snoc (List.pairwise_lt_range.sublist hl) (fun k hk => by rw [hrs]; exact List.mem_range.mp (hl.subset hk)) (by omega), fun s hs2 => ?_, DkB_mono hdk (by push_cast; omega), by simp, _, _, rfl⟩
      rcases List.mem_append.mp hs2 with h | h
      · exact hs s h
      · rw [List.mem_singleton] at h
        subst h
        exact ⟨fun q hq => hp q (hm.subset hq), asc.sublist hm, fun q hq => hm.subset hq⟩
  · rintro G' W' ⟨rs, as, Wd, hrs, has, hr, hs, hdk, rfl, o, o2, rfl⟩
    rw [rng_len] at hrs has hdk
    refine sw_fz (i := 4) (a := p2) rfl List.perm_middle (.lst _) ?_
    refine sw_ret (ev_drp ?_)
    walk_at "st"
    refine ca_tup (.inr ⟨_, rfl, List.mem_append_right _ List.mem_cons_self⟩) ?_
    walk_at "st"
    rw [mergeG_nd (by simp only [List.map_cons, List.map_nil, List.nil_append, List.cons_append]; decide +kernel)]
    refine ⟨Nat.le_of_ble_eq_true rfl, Wd, List.sublist_append_left _ _, ?_⟩
    exact k ⟨rs, as⟩ Wd ⟨hr, fun e => by
      have e : rs = [] := e
      rw [e, List.length_nil] at hrs
      omega, by show as.length = rs.length; omega, fun s h => ⟨(hs s h).1, (hs s h).2.1⟩⟩ (by show rs.length ≤ n; omega) (fun s h => (hs s h).2.2) (DkB_mono hdk (by omega))
abbrev s_law_net : Stmt := top 80
theorem sc_law_net : FnScope ["_law_world"] ["_law_world"] (defScope s_law_net) := ⟨rfl, rfl, rfl, by decide +kernel, rfl, by decide +kernel, by decide +kernel⟩
theorem c_law_net {P : Program} {w : World} {K : PySem.W.Frag} {mg : Str → Option Value} {base : Heap} {cl : Nat → Addr} {f : Addr} {fd : FuncData} (hm : mg "_law_net" = some (.ref f)) (B : Blt mg) (Z : ZZ K w mg cl) (Fn : Fun K "_law_net" "_law_net" s_law_net f fd)
    (m_Web : Mak P w K mg base 4 "Web" (cl 1) (spN FK ⟨K, cl⟩ S_initW) []) : Cal P w K mg base 7 "_law_net" (spN FK ⟨K, cl⟩ S_net) [] := by
  have fz := Z.z0
  have gz := Z.z1
  refine calD hm Fn sc_law_net (by intro ds W post h; first | (obtain ⟨rfl, _⟩ := h; rfl) | (obtain ⟨_, rfl, _⟩ := h; rfl) | (obtain ⟨_, _, rfl, _⟩ := h; rfl) | (obtain ⟨_, _, _, rfl, _⟩ := h; rfl) | (obtain ⟨_, _, _, _, rfl, _⟩ := h; rfl) | (obtain ⟨_, _, _, _, _, rfl, _⟩ := h; rfl) | (obtain ⟨_, _, _, _, _, _, rfl, _⟩ := h; rfl) | (obtain ⟨_, _, _, _, _, _, _, rfl, _⟩ := h; rfl) | (obtain ⟨_, _, _, _, _, _, _, _, rfl, _⟩ := h; rfl) | (obtain ⟨_, _, _, _, _, _, _, _, _, rfl, _⟩ := h; rfl) | (obtain ⟨_, _, _, _, _, _, _, _, _, _, rfl, _⟩ := h; rfl) | (obtain ⟨_, _, _, _, _, _, _, _, _, _, _, rfl, _⟩ := h; rfl)) (fun _ _ _ _ _ _ us hl => match us, hl with | [_], _ => rfl) fun cdv A outer s H E hr => ⟨_, pss_one (ps_ret (pe_mk m_Web hr (by omega) (by rfl) (pa_cons (pe_dget (by exact hu_of hr) (pv 0) pe_str (fun _ _ => rfl)) (pa_cons (pe_callTy call_tuple_of (by rfl) B.tuple bt_tuple (pa_cons (pe_dget (by exact hu_of hr) (pv 0) pe_str (fun _ _ => rfl)) pa_nil)) pa_nil)))), ?_⟩
  rintro ds W post ⟨w, rfl, rfl, hw, k⟩
  try dsimp only [cxOf, Cx.nox, Cx.wish]
  have h16 := sizeLine_eq
  walk_at "st"
  refine ev_mkW ?_
  walk_at "st"
  refine ca_tup (.inl (.inl rfl)) ?_
  walk_at "st"
  exact ⟨hw, k⟩
end
section
abbrev s_law_under : Stmt := top 81
theorem sc_law_under : FnScope ["_law_world", "_law_found", "_law_points_here", "_law_met", "_law_point", "_law_one"] ["_law_world"] (defScope s_law_under) := ⟨rfl, rfl, rfl, by decide +kernel, rfl, by decide +kernel, by decide +kernel⟩
theorem c_law_under {P : Program} {w : World} {K : PySem.W.Frag} {mg : Str → Option Value} {base : Heap} {cl : Nat → Addr} {f : Addr} {fd : FuncData} (hm : mg "_law_under" = some (.ref f)) (B : Blt mg) (Z : ZZ K w mg cl) (Fn : Fun K "_law_under" "_law_under" s_law_under f fd) : Cal P w K mg base 1 "_law_under" (spN FK ⟨K, cl⟩ S_underB) [] := by
  have fz := Z.z0
  have gz := Z.z1
  refine calD hm Fn sc_law_under (by intro ds W post h; first | (obtain ⟨rfl, _⟩ := h; rfl) | (obtain ⟨_, rfl, _⟩ := h; rfl) | (obtain ⟨_, _, rfl, _⟩ := h; rfl) | (obtain ⟨_, _, _, rfl, _⟩ := h; rfl) | (obtain ⟨_, _, _, _, rfl, _⟩ := h; rfl) | (obtain ⟨_, _, _, _, _, rfl, _⟩ := h; rfl) | (obtain ⟨_, _, _, _, _, _, rfl, _⟩ := h; rfl) | (obtain ⟨_, _, _, _, _, _, _, rfl, _⟩ := h; rfl) | (obtain ⟨_, _, _, _, _, _, _, _, rfl, _⟩ := h; rfl) | (obtain ⟨_, _, _, _, _, _, _, _, _, rfl, _⟩ := h; rfl) | (obtain ⟨_, _, _, _, _, _, _, _, _, _, rfl, _⟩ := h; rfl) | (obtain ⟨_, _, _, _, _, _, _, _, _, _, _, rfl, _⟩ := h; rfl)) (fun _ _ _ _ _ _ us hl => match us, hl with | [_], _ => rfl) fun cdv A outer s H E hr => ⟨_, pss_cons (ps_set (i := 1) sc_law_under.nd rfl (Or.inl rfl) (pe_lst pa_nil))
 (pss_cons (ps_for PassesOwn.never rfl (pi_tup (pe_dget (by exact hu_of hr) (pv 0) pe_str (fun _ _ => rfl))) (pg_name (i := 2) sc_law_under.nd rfl (Or.inl rfl)) (pss_cons (ps_set (i := 3) sc_law_under.nd rfl (Or.inr rfl) (pe_lst pa_nil))
 (pss_cons (ps_for PassesOwn.never rfl (pi_tup (pv 2)) (pg_name (i := 4) sc_law_under.nd rfl (Or.inl rfl)) (pss_one (ps_set (i := 3) sc_law_under.nd rfl (Or.inr rfl) (pe_op op_cat (pv 3) (pe_lc (own := [("_law_one", 5)]) (by rfl) sc_law_under.nd (pi_list (pe_op op_cat (pe_ix ix_list (pv 1) (pv 4) (fun _ _ => rfl)) (pe_lst (pa_cons (pv 4) pa_nil)))) (blkOk_by (own := [("_law_one", 5)]) (N := ["_law_world", "_law_found", "_law_points_here", "_law_met", "_law_point", "_law_one"]) (sc := defScope s_law_under) (by decide +kernel)) (fun _ _ _ _ _ => (pg_name (i := 5) sc_law_under.nd rfl (Or.inl rfl))) (fun _ _ _ _ _ => pts_one (pt_cmpR (op_notIn_seqK (K := K) rfl) (pv 5) (pv 3) rfl)) (fun _ _ _ _ _ => (pv 5)))))))
 (pss_one (ps_expr (pe_bm PySem.F.plainAttrs_list PySem.F.slot_list_append PySem.F.type_list_append mt_append (pv 1) (pa_cons (pe_callB cr_sortedI (by rfl) B.sorted bt_sorted (pa_cons (pv 3) pa_nil)) pa_nil)))))))
 (pss_one (ps_ret (pv 1)))), ?_⟩
  rintro ds W post ⟨w, rfl, rfl, hw, k⟩
  try dsimp only [cxOf, Cx.nox, Cx.wish]
  have h16 := sizeLine_eq
  have hr := hw.rows
  have hf := hr.few
  refine sw_seq (sw_set (ev_lst ?_))
  walk_at "st"
  intro p1 hp1
  refine sw_seq (sw_for (ei_tup ?_))
  walk_at "st"
  refine ⟨fun j G' W' => W' = [(p1, .lst ((bensF (w.below.take j)).map fun b => D.lst (b.map natD)))] ∧ ∃ o2 o3 o4, G' = [some (webD w), some (.adr p1), o2, o3, o4, none], ⟨rfl, _, _, _, rfl⟩, ?_, ?_⟩
  · rintro j d G' W' hd ⟨rfl, o2, o3, o4, rfl⟩
    rw [List.getElem?_map] at hd
    obtain ⟨r, hr2, rfl⟩ := Option.map_eq_some_iff.mp hd
    obtain ⟨a1, a2⟩ := hr.asc j r hr2
    have hj := (List.getElem?_eq_some_iff.mp hr2).1
    have hlen : (bensF (w.below.take j)).length = j := by rw [bensF_len, List.length_take]; omega
    have etk : w.below.take (j + 1) = w.below.take j ++ [r] := by rw [List.take_add_one, hr2]; rfl
    have okj := hr.take j
    have blow : ∀ k, k < j → ∀ x ∈ (bensF (w.below.take j)).getD k [], x < j := fun k hk x hx => by
      have := bens_lt okj (by rw [List.length_take]; omega) hx
      omega
    refine tg_name ?_
    walk_at "st"
    refine sw_for (ei_tup ?_)
    walk_at "st"
    refine ⟨fun i G' W' => W' = [(p1, .lst ((bensF (w.below.take j)).map fun b => D.lst (b.map natD)))] ∧ ∃ (M : List Nat) (o4 : Option D), M.Nodup ∧ (∀ x, x ∈ M ↔ x ∈ r.take i ++ ((r.take i).map fun k => (bensF (w.below.take j)).getD k []).flatten) ∧ (∀ x ∈ M, x < j) ∧ G' = [some (webD w), some (.adr p1), some (rowD r), some (.lst (M.map natD)), o4, none], ⟨rfl, [], o4, List.nodup_nil, by simp, by simp, rfl⟩, ?_, ?_⟩
    · rintro i d G' W' hd ⟨rfl, M, o4, nd, hM, hlt, rfl⟩
      rw [List.getElem?_map] at hd
      obtain ⟨q, hq, rfl⟩ := Option.map_eq_some_iff.mp hd
      have hqj := a2 q (List.mem_of_getElem? hq)
      have hMl := low_len nd hlt
      have e1 : r.take (i + 1) = r.take i ++ [q] := by rw [List.take_add_one, hq]; rfl
      have hqb : (bensF (w.below.take j)).getD q [] ++ [q] = keptL ⟨w.below.take j, []⟩ q := rfl
      have nb : ((bensF (w.below.take j)).getD q [] ++ [q]).Nodup := by
        have h2 := bens_asc okj (i := q) (by rw [List.length_take]; omega)
        rw [List.nodup_append]
        refine ⟨asc_nd h2, by simp, fun a ha b hb e => ?_⟩
        rw [List.mem_singleton] at hb
        have := bens_lt okj (by rw [List.length_take]; omega) ha
        omega
      have lb : ((bensF (w.below.take j)).getD q [] ++ [q]).length ≤ 63 := by
        have := low_len (j := j) nb fun x hx => by
          rcases List.mem_append.mp hx with h | h
          · exact blow q hqj x h
          · rw [List.mem_singleton] at h
            omega
        omega
      refine tg_name ?_
      walk_at "st"
      refine ev_lcP (ei_list ?_)
      walk_at "st"
      refine bo_ixL (.inr ⟨_, rfl, List.mem_cons_self⟩) (at_map (d := []) (by omega)) ?_
      walk_at "st"
      refine bo_cat (.inl rfl) (.inl rfl) (by simp only [List.length_map, List.length_cons, List.length_nil]; rw [List.length_append] at lb; simp only [List.length_cons, List.length_nil] at lb; omega) ?_
      rw [show ((bensF (w.below.take j)).getD q []).map natD ++ [natD q] = ((bensF (w.below.take j)).getD q [] ++ [q]).map natD from by rw [List.map_append]; rfl]
      refine ⟨_, rfl, ((bensF (w.below.take j)).getD q [] ++ [q]).map fun x => (!decide (x ∈ M), natD x), fun i d e hd he => ?_, by simp, by rw [List.length_map]; omega, ?_⟩
      · rw [List.getElem?_map] at hd
        obtain ⟨x, hx, rfl⟩ := Option.map_eq_some_iff.mp hd
        rw [List.getElem?_map, hx] at he
        obtain rfl := Option.some.inj he
        refine tw_name (by simp) ?_
        walk_at "st"
        refine bo_in (neg := true) (xs := (castI M).map V.int) (.inl (.inl (.inl (by unfold castI; simp only [List.map_map]; rfl)))) rfl (by simp [flatV]) ?_
        rw [inV_int', dec_castI]
        simp only [if_true]
        refine ⟨_, rfl, rfl, ?_⟩
        cases !decide (x ∈ M) with
        | true =>
          refine if_so rfl ?_
          walk_at "st"
          exact ⟨rfl, rfl⟩
        | false => exact if_not rfl trivial
      rw [filt_pairs]
      have hfl := List.length_filter_le (fun x => !decide (x ∈ M)) ((bensF (w.below.take j)).getD q [] ++ [q])
      refine bo_cat (.inl rfl) (.inl rfl) (by rw [List.length_map, List.length_map]; omega) ?_
      rw [← List.map_append]
      walk_at "st"
      have hM2 : ∀ x, x ∈ M ++ ((bensF (w.below.take j)).getD q [] ++ [q]).filter (fun x => !decide (x ∈ M)) ↔ x ∈ r.take (i + 1) ++ ((r.take (i + 1)).map fun k => (bensF (w.below.take j)).getD k []).flatten := fun x => by
        have hMx := hM x
        rw [List.mem_append] at hMx
        rw [e1, List.map_append, List.flatten_append, List.mem_append, List.mem_filter]
        simp only [List.mem_append, List.map_cons, List.map_nil, List.flatten_cons, List.flatten_nil, List.append_nil, List.mem_singleton]
        constructor
        · rintro (h | ⟨h | h, _⟩)
          · rcases hMx.mp h with h | h
            · exact .inl (.inl h)
            · exact .inr (.inl h)
          · exact .inr (.inr h)
          · exact .inl (.inr h)
        · intro h
          by_cases hx : x ∈ M
          · exact .inl hx
          · refine .inr ⟨?_, by simp [hx]⟩
            rcases h with (h | h) | (h | h)
            · exact absurd (hMx.mpr (.inl h)) hx
            · exact .inr h
            · exact absurd (hMx.mpr (.inr h)) hx
            · exact .inl h
      refine ⟨rfl, M ++ ((bensF (w.below.take j)).getD q [] ++ [q]).filter (fun x => !decide (x ∈ M)), _, ?_, hM2, fun x hx => ?_, rfl⟩
      · rw [List.nodup_append]
        refine ⟨nd, nb.sublist List.filter_sublist, fun a ha b hb e => ?_⟩
        subst e
        have := (List.mem_filter.mp hb).2
        simp only [ha, decide_true, Bool.not_true, Bool.false_eq_true] at this
      · rcases List.mem_append.mp hx with h | h
        · exact hlt x h
        · rcases List.mem_append.mp (List.mem_filter.mp h).1 with h | h
          · exact blow q hqj x h
          · rw [List.mem_singleton] at h
            omega
    · rintro G' W' ⟨rfl, M, o4, nd, hM, hlt, rfl⟩
      rw [List.length_map, List.take_length] at hM
      walk_at "st"
      refine ev_append ?_
      walk_at "st"
      refine ⟨p1, _, [], [], rfl, rfl, ?_⟩
      walk_at "st"
      refine ca_sortedNL (.inl (.inl rfl)) nd ?_
      walk_at "st"
      refine ⟨_, [], [], _, rfl, rfl, by rw [List.length_map]; omega, ?_⟩
      refine ⟨?_, _, _, _, rfl⟩
      rw [etk, bensF_snoc, List.map_append]
      have : ascN M = ascN (r ++ (r.map fun k => (bensF (w.below.take j)).getD k []).flatten) := ascN_ext (asc_ascN _) (asc_ascN _) fun x => by rw [mem_ascN, mem_ascN, hM x]
      rw [this]
      rfl
  · rintro G' W' ⟨rfl, o2, o3, o4, rfl⟩
    rw [List.length_map, List.take_length]
    refine sw_fz (i := 1) rfl (List.Perm.refl _) (.lst _) ?_
    walk_at "st"
    exact k
abbrev s_law_at : Stmt := top 82
theorem sc_law_at : FnScope ["_law_world", "_law_lower", "_law_spot", "_law_tree_here", "_law_j"] ["_law_world", "_law_lower", "_law_spot", "_law_tree_here"] (defScope s_law_at) := ⟨rfl, rfl, rfl, by decide +kernel, rfl, by decide +kernel, by decide +kernel⟩
theorem c_law_at {P : Program} {w : World} {K : PySem.W.Frag} {mg : Str → Option Value} {base : Heap} {cl : Nat → Addr} {f : Addr} {fd : FuncData} (hm : mg "_law_at" = some (.ref f)) (B : Blt mg) (Z : ZZ K w mg cl) (Fn : Fun K "_law_at" "_law_at" s_law_at f fd) : ∀ j, Cal P w K mg base (1 + j) "_law_at" (spN FK ⟨K, cl⟩ (S_atB j)) [] := by
  have fz := Z.z0
  have gz := Z.z1
  intro j
  induction j with
  | zero => exact calD (k := 0) hm Fn sc_law_at (by intro ds W post h; first | (obtain ⟨rfl, _⟩ := h; rfl) | (obtain ⟨_, rfl, _⟩ := h; rfl) | (obtain ⟨_, _, rfl, _⟩ := h; rfl) | (obtain ⟨_, _, _, rfl, _⟩ := h; rfl) | (obtain ⟨_, _, _, _, rfl, _⟩ := h; rfl) | (obtain ⟨_, _, _, _, _, rfl, _⟩ := h; rfl) | (obtain ⟨_, _, _, _, _, _, rfl, _⟩ := h; rfl) | (obtain ⟨_, _, _, _, _, _, _, rfl, _⟩ := h; rfl) | (obtain ⟨_, _, _, _, _, _, _, _, rfl, _⟩ := h; rfl) | (obtain ⟨_, _, _, _, _, _, _, _, _, rfl, _⟩ := h; rfl) | (obtain ⟨_, _, _, _, _, _, _, _, _, _, rfl, _⟩ := h; rfl) | (obtain ⟨_, _, _, _, _, _, _, _, _, _, _, rfl, _⟩ := h; rfl)) (fun _ _ _ _ _ _ us hl => match us, hl with | [_, _, _, _], _ => rfl) fun cdv A outer s H E hr => ⟨_, pss_never, fun ds W post ⟨w, m, t, f, _, _, _, _, h, _⟩ => absurd h (Nat.not_lt_zero _)⟩
  | succ j c_law_at =>
    refine calD (k := 1 + j) hm Fn sc_law_at (by intro ds W post h; first | (obtain ⟨rfl, _⟩ := h; rfl) | (obtain ⟨_, rfl, _⟩ := h; rfl) | (obtain ⟨_, _, rfl, _⟩ := h; rfl) | (obtain ⟨_, _, _, rfl, _⟩ := h; rfl) | (obtain ⟨_, _, _, _, rfl, _⟩ := h; rfl) | (obtain ⟨_, _, _, _, _, rfl, _⟩ := h; rfl) | (obtain ⟨_, _, _, _, _, _, rfl, _⟩ := h; rfl) | (obtain ⟨_, _, _, _, _, _, _, rfl, _⟩ := h; rfl) | (obtain ⟨_, _, _, _, _, _, _, _, rfl, _⟩ := h; rfl) | (obtain ⟨_, _, _, _, _, _, _, _, _, rfl, _⟩ := h; rfl) | (obtain ⟨_, _, _, _, _, _, _, _, _, _, rfl, _⟩ := h; rfl) | (obtain ⟨_, _, _, _, _, _, _, _, _, _, _, rfl, _⟩ := h; rfl)) (fun _ _ _ _ _ _ us hl => match us, hl with | [_, _, _, _], _ => rfl) fun cdv A outer s H E hr => ⟨_, pss_cons (ps_if (pt_cmpR op_eq (pe_ix ix_tup (pv 3) pe_int (fun _ _ => rfl)) pe_str (nomark _)) (pss_one (ps_ret (pe_cmpR op_in_sign (pe_ix ix_tup (pv 3) pe_int (fun _ _ => rfl)) (pe_ix ix_list (pe_dget (by exact hu_of hr) (pv 0) pe_str (fun _ _ => rfl)) (pv 2) (fun _ _ => rfl)) rfl))) (pss_nil))
 (pss_cons (ps_if (pt_cmpR op_eq (pe_ix ix_tup (pv 3) pe_int (fun _ _ => rfl)) pe_str (nomark _)) (pss_one (ps_ret (pe_or (pe_not (pe_c c_law_at hr (by omega) (by rfl) (pa_cons (pv 0) (pa_cons (pv 1) (pa_cons (pv 2) (pa_cons (pe_ix ix_tup (pv 3) pe_int (fun _ _ => rfl)) pa_nil)))))) (pe_one (pe_c c_law_at hr (by omega) (by rfl) (pa_cons (pv 0) (pa_cons (pv 1) (pa_cons (pv 2) (pa_cons (pe_ix ix_tup (pv 3) pe_int (fun _ _ => rfl)) pa_nil))))))))) (pss_nil))
 (pss_cons (ps_if (pt_cmpR op_ne (pe_ix ix_tup (pv 3) pe_int (fun _ _ => rfl)) pe_str (nomark _)) (pss_one (ps_ret pe_bl)) (pss_nil))
 (pss_one (ps_ret (pe_cmpR (op_eqE hr.units) (pe_lc (own := [("_law_j", 4)]) (by rfl) sc_law_at.nd (pi_list (pe_ix ix_list (pv 1) (pv 2) (fun _ _ => rfl))) (blkOk_by (own := [("_law_j", 4)]) (N := ["_law_world", "_law_lower", "_law_spot", "_law_tree_here", "_law_j"]) (sc := defScope s_law_at) (by decide +kernel)) (fun _ _ _ _ _ => (pg_name (i := 4) sc_law_at.nd rfl (Or.inl rfl))) (fun _ _ _ _ _ => pts_one (pt_not (pt_val (pe_c c_law_at hr (by omega) (by rfl) (pa_cons (pv 0) (pa_cons (pv 1) (pa_cons (pv 4) (pa_cons (pe_ix (ix_tupK (K := K) rfl) (pv 3) pe_int (fun _ _ => rfl)) pa_nil)))))))) (fun _ _ _ _ _ => (pv 4))) (pe_lst pa_nil) (nomark _)))))), ?_⟩
    rintro ds W post ⟨w, m, t, f, rfl, hv, hw, ht, hj, hj2, k⟩
    try dsimp only [cxOf, Cx.nox, Cx.wish]
    have h16 := sizeLine_eq
    have hlen := hw.len
    have hfew := hw.rows.few
    cases f with
    | «at» c =>
      simp only [Fm.tr]
      walk_at "st"
      refine bo_ixL hv (at_map (d := ("" : Str)) (by omega)) ?_
      walk_at "st"
      refine bo_inSg ?_
      rw [vals_atom hw ht] at k
      exact k
    | no =>
      simp only [Fm.tr]
      walk_at "st"
      rw [vals_no hlen ht] at k
      exact k
    | imp a b =>
      simp only [Fm.tr, Fm.ht] at hj ⊢
      rw [vals_imp hlen ht] at k
      walk_at "st"
      refine handA ⟨w, m, t, a, rfl, hv, hw, ht, by omega, by omega, ?_⟩
      try walk_at "st"
      cases h : (w.vals a).getD t false with
      | false =>
        rw [h] at k
        refine if_so rfl ?_
        exact k
      | true =>
        rw [h] at k
        refine if_not rfl ?_
        walk_at "st"
        refine handA ⟨w, m, t, b, rfl, hv, hw, ht, by omega, by omega, ?_⟩
        try walk_at "st"
        exact k
    | all a =>
      simp only [Fm.tr, Fm.ht] at hj ⊢
      rw [vals_at hw ht] at k
      have hbl := bens_len hw.rows ht
      walk_at "st"
      refine ev_lcP (ei_list ?_)
      walk_at "st"
      refine bo_ixL (.inl (.inl rfl)) (at_map (d := []) (by rw [bensF_len]; exact ht)) ?_
      refine ⟨_, rfl, ((bensF w.below).getD t []).map fun x => (!(w.vals a).getD x false, natD x), fun i d e hd he => ?_, by simp, by rw [List.length_map]; omega, ?_⟩
      · rw [List.getElem?_map] at hd
        obtain ⟨x, hx, rfl⟩ := Option.map_eq_some_iff.mp hd
        rw [List.getElem?_map, hx] at he
        obtain rfl := Option.some.inj he
        have hxt := bens_low hw x (List.mem_of_getElem? hx)
        refine tw_name (by simp) ?_
        walk_at "st"
        refine handA ⟨w, m, x, a, rfl, hv, hw, by omega, by omega, by omega, ?_⟩
        try walk_at "st"
        refine ⟨rfl, ?_⟩
        cases (w.vals a).getD x false with
        | false =>
          refine if_so rfl ?_
          walk_at "st"
          exact ⟨rfl, rfl⟩
        | true => exact if_not rfl rfl
      rw [filt_pairs]
      walk_at "st"
      refine bo_eqE (.inl (.inl rfl)) (.inl (.inl rfl)) ?_
      rw [filt_empty]
      exact k
abbrev s_law_marked : Stmt := top 83
theorem sc_law_marked : FnScope ["_law_world", "_law_forms", "_law_lower", "_law_kept", "_law_lot", "_law_one", "_law_found", "_law_spot", "_law_mark", "_law_put"] ["_law_world", "_law_forms"] (defScope s_law_marked) := ⟨rfl, rfl, rfl, by decide +kernel, rfl, by decide +kernel, by decide +kernel⟩
theorem c_law_marked {P : Program} {w : World} {K : PySem.W.Frag} {mg : Str → Option Value} {base : Heap} {cl : Nat → Addr} {f : Addr} {fd : FuncData} (hm : mg "_law_marked" = some (.ref f)) (B : Blt mg) (Z : ZZ K w mg cl) (Fn : Fun K "_law_marked" "_law_marked" s_law_marked f fd)
    (c_law_under : Cal P w K mg base 1 "_law_under" (spN FK ⟨K, cl⟩ S_underB) [])
    (c_law_at : Cal P w K mg base 71 "_law_at" (spN FK ⟨K, cl⟩ (S_atB 70)) []) : Cal P w K mg base 72 "_law_marked" (spN FK ⟨K, cl⟩ S_markedB) [] := by
  have fz := Z.z0
  have gz := Z.z1
  refine calD hm Fn sc_law_marked (by intro ds W post h; first | (obtain ⟨rfl, _⟩ := h; rfl) | (obtain ⟨_, rfl, _⟩ := h; rfl) | (obtain ⟨_, _, rfl, _⟩ := h; rfl) | (obtain ⟨_, _, _, rfl, _⟩ := h; rfl) | (obtain ⟨_, _, _, _, rfl, _⟩ := h; rfl) | (obtain ⟨_, _, _, _, _, rfl, _⟩ := h; rfl) | (obtain ⟨_, _, _, _, _, _, rfl, _⟩ := h; rfl) | (obtain ⟨_, _, _, _, _, _, _, rfl, _⟩ := h; rfl) | (obtain ⟨_, _, _, _, _, _, _, _, rfl, _⟩ := h; rfl) | (obtain ⟨_, _, _, _, _, _, _, _, _, rfl, _⟩ := h; rfl) | (obtain ⟨_, _, _, _, _, _, _, _, _, _, rfl, _⟩ := h; rfl) | (obtain ⟨_, _, _, _, _, _, _, _, _, _, _, rfl, _⟩ := h; rfl)) (fun _ _ _ _ _ _ us hl => match us, hl with | [_, _], _ => rfl) fun cdv A outer s H E hr => ⟨_, pss_cons (ps_asg (pe_tup (pa_cons (pe_c c_law_under hr (by omega) (by rfl) (pa_cons (pv 0) pa_nil)) (pa_cons (pe_lst pa_nil) pa_nil))) (pg_tup (n := 2) rfl (pgs_cons (pg_name (i := 2) sc_law_marked.nd rfl (Or.inr rfl)) (pgs_cons (pg_name (i := 3) sc_law_marked.nd rfl (Or.inl rfl)) pgs_nil))))
 (pss_cons (ps_for PassesOwn.never rfl (pi_list (pe_dget (by exact hu_of hr) (pv 0) pe_str (fun _ _ => rfl))) (pg_name (i := 4) sc_law_marked.nd rfl (Or.inl rfl)) (pss_one (ps_expr (pe_bm PySem.F.plainAttrs_list PySem.F.slot_list_append PySem.F.type_list_append mt_append (pv 3) (pa_cons (pe_join pe_str (pe_lc (own := [("_law_one", 5)]) (by rfl) sc_law_marked.nd (pi_str (pv 4)) (blkOk_by (own := [("_law_one", 5)]) (N := ["_law_world", "_law_forms", "_law_lower", "_law_kept", "_law_lot", "_law_one", "_law_found", "_law_spot", "_law_mark", "_law_put"]) (sc := defScope s_law_marked) (by decide +kernel)) (fun _ _ _ _ _ => (pg_name (i := 5) sc_law_marked.nd rfl (Or.inl rfl))) (fun _ _ _ _ _ => pts_one (pt_cmp (pc_dnotin (by exact hu_of hr) (pv 5) (pv 1)))) (fun _ _ _ _ _ => (pv 5)))) pa_nil)))))
 (pss_cons (ps_set (i := 6) sc_law_marked.nd rfl (Or.inr rfl) (pe_disp (pps_cons pe_str (pe_dget (by exact hu_of hr) (pv 0) pe_str (fun _ _ => rfl)) (pps_cons pe_str (pv 3) pps_nil)) (by rfl) (by rfl) (fun z => by cases z) (by decide)))
 (pss_cons (ps_for PassesOwn.never rfl (pi_range1 (by rfl) B.range (pa_cons (pe_callB call_len (by rfl) B.len bt_len (pa_cons (pv 3) pa_nil)) pa_nil)) (pg_name (i := 7) sc_law_marked.nd rfl (Or.inr rfl)) (pss_cons (ps_lock (ps_setLc (i := 9) (own := [("_law_mark", 8)]) (by rfl) sc_law_marked.nd rfl rfl (sw_true rfl rfl rfl (by decide +kernel)) (pi_keys (pv 1)) (blkOk_by (own := [("_law_mark", 8)]) (N := ["_law_world", "_law_forms", "_law_lower", "_law_kept", "_law_lot", "_law_one", "_law_found", "_law_spot", "_law_mark", "_law_put"]) (sc := defScope s_law_marked) (by decide +kernel)) (fun _ _ _ _ _ => (pg_name (i := 8) sc_law_marked.nd rfl (Or.inl rfl))) (fun _ _ _ _ _ => pts_one (pt_val (pe_c c_law_at hr (by omega) (by rfl) (pa_cons (pv 6) (pa_cons (pv 2) (pa_cons (pv 7) (pa_cons (pe_dget (by exact hu_of hr) (pv 1) (pv 8) (fun _ _ => rfl)) pa_nil))))))) (fun _ _ _ _ _ => (pv 8))))
 (pss_one (ps_asg (pe_join pe_str (pe_callB cr_sortedS (by rfl) B.sorted bt_sorted (pa_cons (pe_op op_cat (pe_callTy (cr_listX rfl) (by rfl) B.list bt_list (pa_cons (pe_ix ix_list (pv 3) (pv 7) (fun _ _ => rfl)) pa_nil)) (pv 9)) pa_nil))) (pg_sub (pe_dget (by exact hu_of hr) (pv 6) pe_str (fun _ _ => rfl)) (pv 7) set_list)))))
 (pss_one (ps_ret (pv 6)))))), ?_⟩
  rintro ds W post ⟨q, w, rs, rfl, rfl, hw, hr, hh, k⟩
  try dsimp only [cxOf, Cx.nox, Cx.wish]
  have h16 := sizeLine_eq
  have hlen := hw.len
  have hfew := hw.rows.few
  have hf := hr.few
  have hnd : (rs.map (·.1)).Nodup := hr.asc.imp (S := (· ≠ ·)) fun h => Nat.ne_of_lt h
  have hs := strip_ok hw (marksS rs)
  walk_at "st"
  refine hand0 ⟨w, rfl, rfl, hw, ?_⟩
  simp only [List.nil_append]
  refine ea_cons (ev_lst ?_)
  walk_at "st"
  intro p hp
  refine ea_nil ?_
  refine ⟨len_ok (Nat.le_of_ble_eq_true rfl), ?_⟩
  refine ta_tup rfl (tas_cons (ta_name (tas_cons (ta_name (tas_nil ?_)))))
  refine sw_seq (sw_for (ei_list ?_))
  walk_at "st"
  refine ⟨fun i G' W' => W' = [(p, .lst (((w.strip (marksS rs)).atoms.take i).map .str)), (q, .dp (frmD rs))] ∧ ∃ o4, G' = [some (webD w), some (.adr q), some (undB w.below), some (.adr p), o4, none, none, none, none, none], ⟨rfl, _, rfl⟩, ?_, ?_⟩
  · rintro i d G' W' hd ⟨rfl, o4, rfl⟩
    rw [List.getElem?_map] at hd
    obtain ⟨s, hs1, rfl⟩ := Option.map_eq_some_iff.mp hd
    have hi := (List.getElem?_eq_some_iff.mp hs1).1
    obtain ⟨s1, s2⟩ := hw.lets s (List.mem_of_getElem? hs1)
    have hsl := ltrs_few (asc_nd s2) s1
    have est : (w.strip (marksS rs)).atoms[i]? = some (stripS (marksS rs) s) := by
      show (w.atoms.map _)[i]? = _
      rw [List.getElem?_map, hs1]
      rfl
    refine tg_name ?_
    refine sw_drop (ev_append ?_)
    walk_at "st"
    refine ⟨p, _, [], [_], rfl, rfl, ?_⟩
    walk_at "st"
    refine ev_join ?_
    walk_at "st"
    refine ev_lcP (ei_str ?_)
    walk_at "st"
    refine ⟨(lets s).map fun c => (!decide (c ∈ rs.map (·.1)), D.str (sg c)), fun i d e hd he => ?_, by simp [lets], by rw [List.length_map]; omega, ?_⟩
    · rw [List.getElem?_map] at hd
      obtain ⟨c, hc, rfl⟩ := Option.map_eq_some_iff.mp hd
      rw [List.getElem?_map, show (lets s)[i]? = some c from hc] at he
      obtain rfl := Option.some.inj he
      refine tw_name (by simp) ?_
      walk_at "st"
      refine ev_dnotin ?_
      walk_at "st"
      refine ⟨_, Sum.inr (sg c), .inr ⟨q, rfl, List.mem_cons_of_mem _ List.mem_cons_self⟩, rfl, ?_⟩
      rw [isSome_tabL]
      refine ⟨_, rfl, rfl, ?_⟩
      cases !decide (c ∈ rs.map (·.1)) with
      | true =>
        refine if_so rfl ?_
        walk_at "st"
        exact ⟨rfl, rfl⟩
      | false => exact if_not rfl rfl
    rw [flt_tab]
    have hfl := List.length_filter_le (fun c => !decide (c ∈ rs.map (·.1))) (lets s)
    refine ⟨((lets s).filter fun c => !decide (c ∈ rs.map (·.1))).map sg, .inl (.inl (.inl (by rw [List.map_map]; rfl))), ?_, ?_⟩
    · rw [sg_sum, List.length_map]
      show _ + _ * 0 ≤ _
      omega
    rw [join_nil_sg]
    walk_at "st"
    refine ⟨_, [], [_], _, rfl, rfl, by rw [List.length_map, List.length_take]; omega, ?_⟩
    refine ⟨?_, _, rfl⟩
    rw [List.take_add_one, est, List.map_append]
    rfl
  rintro G' W' ⟨rfl, o4, rfl⟩
  rw [List.length_map, List.take_of_length_le (by rw [hs.len, hlen]; exact Nat.le_refl _)]
  walk_at "st"
  rw [mergeG_nd (by simp only [List.map_cons, List.map_nil, List.nil_append, List.cons_append]; decide +kernel)]
  refine ⟨Nat.le_of_ble_eq_true rfl, ?_⟩
  refine sw_seq (sw_for (ei_rng1 ?_))
  walk_at "st"
  rw [List.length_map, hs.len, strip_below]
  refine ⟨by omega, by omega, fun i G' W' => W' = [(p, .lst ((partW w rs i).atoms.map .str)), (q, .dp (frmD rs))] ∧ ∃ o4 o7 o9, G' = [some (webD w), some (.adr q), some (undB w.below), some (.adr p), o4, none, some (wrlD w (.adr p)), o7, none, o9], ⟨by rw [part_zero hw hr], _, _, _, rfl⟩, ?_, ?_⟩
  · rintro i d G' W' hdd ⟨rfl, o4, o7, o9, rfl⟩
    obtain ⟨hi, rfl⟩ := rng_get hdd
    have hi : i < w.below.length := by omega
    have hz : ((0 : Int) + (i : Nat)) = (i : Nat) := by omega
    rw [hz]
    have pok := part_ok hw hr (Nat.le_of_lt hi)
    have plen := part_len hw hr (Nat.le_of_lt hi)
    obtain ⟨pnd, pfew⟩ := put_nd hw hr hi
    refine tg_name ?_
    refine sw_seq (sw_lock (W1 := [_]) (W2 := []) fun od kvs => ?_)
    refine sw_set ?_
    refine ev_lcPL (cell := (q, .lp od kvs (frmD rs))) (ei_keysL ?_)
    walk_at "st"
    refine ⟨rfl, List.mem_cons_of_mem _ List.mem_cons_self, List.mem_cons_of_mem _ List.mem_cons_self, rs.map fun x => (((partW w rs i).vals x.2).getD i false, D.str (sg x.1)), fun j d e hd he => ?_, by simp [tabL], by rw [List.length_map]; omega, ?_⟩
    · unfold frmD tabL at hd
      rw [List.map_map, List.getElem?_map] at hd
      obtain ⟨x, hx, rfl⟩ := Option.map_eq_some_iff.mp hd
      rw [List.getElem?_map, hx] at he
      obtain rfl := Option.some.inj he
      have hm := List.mem_of_getElem? hx
      refine tw_name (by simp) ?_
      repeat ((fail_if_success (with_reducible refine ev_dgetL ?_)); walk_at "s1")
      refine ev_dgetL ?_
      walk_at "st"
      refine ⟨q, od, kvs, _, Sum.inr (sg x.1), x.2.tr, rfl, List.mem_cons_of_mem _ List.mem_cons_self, rfl, getG_tabL (x := x.2) hnd hm, ?_⟩
      refine ea_nil ?_
      refine handA ⟨partW w rs i, .adr p, i, x.2, rfl, .inr ⟨p, rfl, List.mem_cons_self⟩, pok, hi, hh x hm, by omega, ?_⟩
      try walk_at "st"
      refine ⟨rfl, ?_⟩
      cases ((partW w rs i).vals x.2).getD i false with
      | true =>
        refine if_so rfl ?_
        walk_at "st"
        exact ⟨rfl, rfl⟩
      | false => exact if_not rfl rfl
    rw [flt_tab]
    refine ⟨[_], [], rfl, ?_⟩
    have ecat : (lets ((w.strip (marksS rs)).atoms.getD i "")).map (fun c => D.str (sg c)) ++ (rs.filter fun x => ((partW w rs i).vals x.2).getD i false).map (fun x => D.str (sg x.1)) = (lets ((w.strip (marksS rs)).atoms.getD i "") ++ putR w rs i).map fun c => D.str (sg c) := by
      unfold putR
      rw [List.map_append, List.map_map]
      rfl
    refine sw_asgA (ev_join ?_)
    walk_at "st"
    refine bo_ixL (.inr ⟨p, rfl, List.mem_cons_self⟩) (at_map (d := ("" : Str)) (by omega)) ?_
    rw [part_at hw hr hi]
    refine ea_nil (ca_listX (by have := pfew; rw [List.length_append] at this; have h := str_len ((w.strip (marksS rs)).atoms.getD i ""); rw [h]; show (lets _).length ≤ _; omega) ?_)
    walk_at "st"
    refine bo_cat (.inl rfl) (.inl rfl) (by have := congrArg List.length ecat; rw [List.length_append, List.length_map (as := _ ++ _)] at this; omega) ?_
    rw [ecat]
    walk_at "st"
    refine ca_sortedSL (.inl (.inl rfl)) pnd (by omega) ?_
    refine ⟨(ascN (lets ((w.strip (marksS rs)).atoms.getD i "") ++ putR w rs i)).map sg, .inl (.inl (.inl (by rw [List.map_map]; rfl))), ?_, ?_⟩
    · have := low_ascN (lets ((w.strip (marksS rs)).atoms.getD i "") ++ putR w rs i)
      rw [sg_sum, List.length_map]
      show _ + _ * 0 ≤ _
      omega
    rw [join_nil_sg, part_step hw hr hi]
    refine ta_subL ?_
    walk_at "st"
    refine ⟨p, _, (i : Nat), i, [], [_], rfl, rfl, rfl, ixN_nat (by rw [List.length_map, plen]; exact hi), ?_⟩
    refine ⟨?_, _, _, _, rfl⟩
    rw [← part_set hw hr hi, List.map_set]
    rfl
  rintro G' W' ⟨rfl, o4, o7, o9, rfl⟩
  rw [rng_len, Int.toNat_natCast, part_all hw hr]
  refine sw_ret (ev_fzDp (a := p) (od := .lst ((w.rul rs).atoms.map .str)) (d' := .lst ((w.rul rs).atoms.map .str)) (ks := [Sum.inr "below", Sum.inr "stand"]) (l := [rowsD w.below]) ?_)
  refine ev_var rfl ?_
  refine ⟨_, rfl, List.Perm.refl _, .lst _, ?_⟩
  rw [show webD (w.rul rs) = .dct [Sum.inr "below", Sum.inr "stand"] [rowsD w.below, .lst ((w.rul rs).atoms.map .str)] from by show D.dct _ [rowsD (w.rul rs).below, _] = _; rw [rul_below]; rfl] at k
  exact k
end
section
abbrev s_law_row : Stmt := top 78
theorem sc_law_row : FnScope ["_law_tree_here"] ["_law_tree_here"] (defScope s_law_row) := ⟨rfl, rfl, rfl, by decide +kernel, rfl, by decide +kernel, by decide +kernel⟩
theorem c_law_row {P : Program} {w : World} {K : PySem.W.Frag} {mg : Str → Option Value} {base : Heap} {cl : Nat → Addr} {f : Addr} {fd : FuncData} (hm : mg "_law_row" = some (.ref f)) (B : Blt mg) (Z : ZZ K w mg cl) (Fn : Fun K "_law_row" "_law_row" s_law_row f fd) : ∀ j, Cal P w K mg base (1 + j) "_law_row" (spN FK ⟨K, cl⟩ (S_text j)) [] := by
  have fz := Z.z0
  have gz := Z.z1
  intro j
  induction j with
  | zero => exact calD (k := 0) hm Fn sc_law_row (by intro ds W post h; first | (obtain ⟨rfl, _⟩ := h; rfl) | (obtain ⟨_, rfl, _⟩ := h; rfl) | (obtain ⟨_, _, rfl, _⟩ := h; rfl) | (obtain ⟨_, _, _, rfl, _⟩ := h; rfl) | (obtain ⟨_, _, _, _, rfl, _⟩ := h; rfl) | (obtain ⟨_, _, _, _, _, rfl, _⟩ := h; rfl) | (obtain ⟨_, _, _, _, _, _, rfl, _⟩ := h; rfl) | (obtain ⟨_, _, _, _, _, _, _, rfl, _⟩ := h; rfl) | (obtain ⟨_, _, _, _, _, _, _, _, rfl, _⟩ := h; rfl) | (obtain ⟨_, _, _, _, _, _, _, _, _, rfl, _⟩ := h; rfl) | (obtain ⟨_, _, _, _, _, _, _, _, _, _, rfl, _⟩ := h; rfl) | (obtain ⟨_, _, _, _, _, _, _, _, _, _, _, rfl, _⟩ := h; rfl)) (fun _ _ _ _ _ _ us hl => match us, hl with | [_], _ => rfl) fun cdv A outer s H E hr => ⟨_, pss_never, fun ds W post ⟨f, _, _, h, _⟩ => absurd h (Nat.not_lt_zero _)⟩
  | succ j c_law_row =>
    refine calD (k := 1 + j) hm Fn sc_law_row (by intro ds W post h; first | (obtain ⟨rfl, _⟩ := h; rfl) | (obtain ⟨_, rfl, _⟩ := h; rfl) | (obtain ⟨_, _, rfl, _⟩ := h; rfl) | (obtain ⟨_, _, _, rfl, _⟩ := h; rfl) | (obtain ⟨_, _, _, _, rfl, _⟩ := h; rfl) | (obtain ⟨_, _, _, _, _, rfl, _⟩ := h; rfl) | (obtain ⟨_, _, _, _, _, _, rfl, _⟩ := h; rfl) | (obtain ⟨_, _, _, _, _, _, _, rfl, _⟩ := h; rfl) | (obtain ⟨_, _, _, _, _, _, _, _, rfl, _⟩ := h; rfl) | (obtain ⟨_, _, _, _, _, _, _, _, _, rfl, _⟩ := h; rfl) | (obtain ⟨_, _, _, _, _, _, _, _, _, _, rfl, _⟩ := h; rfl) | (obtain ⟨_, _, _, _, _, _, _, _, _, _, _, rfl, _⟩ := h; rfl)) (fun _ _ _ _ _ _ us hl => match us, hl with | [_], _ => rfl) fun cdv A outer s H E hr => ⟨_, pss_cons (ps_if (pt_cmpR op_eq (pe_ix ix_tup (pv 0) pe_int (fun _ _ => rfl)) pe_str (nomark _)) (pss_one (ps_ret (pe_ix ix_tup (pv 0) pe_int (fun _ _ => rfl)))) (pss_nil))
 (pss_cons (ps_if (pt_cmpR op_eq (pe_ix ix_tup (pv 0) pe_int (fun _ _ => rfl)) pe_str (nomark _)) (pss_one (ps_ret (pe_op op_add_str (pe_op op_add_str (pe_op op_add_str (pe_op op_add_str pe_str (pe_c c_law_row hr (by omega) (by rfl) (pa_cons (pe_ix ix_tup (pv 0) pe_int (fun _ _ => rfl)) pa_nil))) pe_str) (pe_c c_law_row hr (by omega) (by rfl) (pa_cons (pe_ix ix_tup (pv 0) pe_int (fun _ _ => rfl)) pa_nil))) pe_str))) (pss_nil))
 (pss_one (ps_ret (pe_ifExp (pt_cmpR op_eq (pe_ix ix_tup (pv 0) pe_int (fun _ _ => rfl)) pe_str (nomark _)) pe_str (pe_op op_add_str pe_str (pe_c c_law_row hr (by omega) (by rfl) (pa_cons (pe_ix ix_tup (pv 0) pe_int (fun _ _ => rfl)) pa_nil))))))), ?_⟩
    rintro ds W post ⟨f, rfl, rfl, hj, hs, k⟩
    try dsimp only [cxOf, Cx.nox, Cx.wish]
    have h16 := sizeLine_eq
    have l1 : ("(" : Str).length = 1 := rfl
    have l2 : (" > " : Str).length = 3 := rfl
    have l3 : (")" : Str).length = 1 := rfl
    have l4 : ("all " : Str).length = 4 := rfl
    cases f with
    | «at» c =>
      simp only [Fm.tr]
      walk_at "st"
      exact k
    | no =>
      simp only [Fm.tr]
      walk_at "st"
      exact k
    | all a =>
      simp only [Fm.tr, Fm.ht, Fm.sz] at hj hs ⊢
      walk_at "st"
      refine hand0 ⟨a, rfl, rfl, by omega, by omega, ?_⟩
      try simp only [List.nil_append]
      try walk_at "st"
      refine bo_addS (by rw [Fm.spell_len]; omega) ?_
      try walk_at "st"
      exact k
    | imp a b =>
      simp only [Fm.tr, Fm.ht, Fm.sz] at hj hs ⊢
      have l5 := Fm.spell_len a
      have l6 := Fm.spell_len b
      walk_at "st"
      refine hand0 ⟨a, rfl, rfl, by omega, by omega, ?_⟩
      try simp only [List.nil_append]
      try walk_at "st"
      refine bo_addS (by omega) ?_
      try walk_at "st"
      refine bo_addS (by rw [str_app_len]; omega) ?_
      try walk_at "st"
      refine hand0 ⟨b, rfl, rfl, by omega, by omega, ?_⟩
      try simp only [List.nil_append]
      try walk_at "st"
      refine bo_addS (by rw [str_app_len, str_app_len]; omega) ?_
      try walk_at "st"
      refine bo_addS (by rw [str_app_len, str_app_len, str_app_len]; omega) ?_
      try walk_at "st"
      exact k
abbrev s_law_points : Stmt := top 84
theorem sc_law_points : FnScope ["_law_world", "_law_letter", "_law_spot", "_law_lot"] ["_law_world", "_law_letter"] (defScope s_law_points) := ⟨rfl, rfl, rfl, by decide +kernel, rfl, by decide +kernel, by decide +kernel⟩
theorem c_law_points {P : Program} {w : World} {K : PySem.W.Frag} {mg : Str → Option Value} {base : Heap} {cl : Nat → Addr} {f : Addr} {fd : FuncData} (hm : mg "_law_points" = some (.ref f)) (B : Blt mg) (Z : ZZ K w mg cl) (Fn : Fun K "_law_points" "_law_points" s_law_points f fd) : Cal P w K mg base 1 "_law_points" (spN FK ⟨K, cl⟩ S_points19) [] := by
  have fz := Z.z0
  have gz := Z.z1
  refine calD hm Fn sc_law_points (by intro ds W post h; first | (obtain ⟨rfl, _⟩ := h; rfl) | (obtain ⟨_, rfl, _⟩ := h; rfl) | (obtain ⟨_, _, rfl, _⟩ := h; rfl) | (obtain ⟨_, _, _, rfl, _⟩ := h; rfl) | (obtain ⟨_, _, _, _, rfl, _⟩ := h; rfl) | (obtain ⟨_, _, _, _, _, rfl, _⟩ := h; rfl) | (obtain ⟨_, _, _, _, _, _, rfl, _⟩ := h; rfl) | (obtain ⟨_, _, _, _, _, _, _, rfl, _⟩ := h; rfl) | (obtain ⟨_, _, _, _, _, _, _, _, rfl, _⟩ := h; rfl) | (obtain ⟨_, _, _, _, _, _, _, _, _, rfl, _⟩ := h; rfl) | (obtain ⟨_, _, _, _, _, _, _, _, _, _, rfl, _⟩ := h; rfl) | (obtain ⟨_, _, _, _, _, _, _, _, _, _, _, rfl, _⟩ := h; rfl)) (fun _ _ _ _ _ _ us hl => match us, hl with | [_, _], _ => rfl) fun cdv A outer s H E hr => ⟨_, pss_one (ps_ret (pe_callTy call_tuple_of (by rfl) B.tuple bt_tuple (pa_cons (pe_lc (own := [("_law_spot", 2), ("_law_lot", 3)]) (by rfl) sc_law_points.nd (pi_enumK (by rfl) B.enumerate (pa_cons (pe_dget (by exact hu_of hr) (pv 0) pe_str (fun _ _ => rfl)) pa_nil)) (blkOk_by (own := [("_law_spot", 2), ("_law_lot", 3)]) (N := ["_law_world", "_law_letter", "_law_spot", "_law_lot"]) (sc := defScope s_law_points) (by decide +kernel)) (fun _ _ _ _ _ => (pg_tupK (K := K) rfl (n := 2) rfl (pgs_cons (pg_name (i := 2) sc_law_points.nd rfl (Or.inl rfl)) (pgs_cons (pg_name (i := 3) sc_law_points.nd rfl (Or.inl rfl)) pgs_nil)))) (fun _ _ _ _ _ => pts_one (pt_cmpR op_in_sign (pv 1) (pv 3) rfl)) (fun _ _ _ _ _ => (pv 2))) pa_nil))), ?_⟩
  rintro ds W post ⟨w, c, rfl, rfl, hw, k⟩
  try dsimp only [cxOf, Cx.nox, Cx.wish]
  have h16 := sizeLine_eq
  have hf := hw.rows.few
  have hlen := hw.len
  walk_at "st"
  refine ev_lcP (ei_enumK ?_)
  walk_at "st"
  refine ⟨_, _, rfl, .inl rfl, (List.range w.below.length).map fun i => (decide (c ∈ lets (w.atoms.getD i "")), natD i), fun i d e hd he => ?_, by rw [pairsD_len, List.length_map, List.length_map, List.length_range, hlen], by rw [List.length_map, List.length_range]; omega, ?_⟩
  · obtain ⟨y, hy, rfl⟩ := pairsD_get hd
    rw [List.getElem?_map] at hy
    obtain ⟨s, hs, rfl⟩ := Option.map_eq_some_iff.mp hy
    have hi : i < w.below.length := by
      have := (List.getElem?_eq_some_iff.mp hs).1
      omega
    rw [List.getElem?_map, List.getElem?_range hi] at he
    obtain rfl := Option.some.inj he
    have es : w.atoms.getD i "" = s := getD_of hs
    refine tw_tup rfl (tws_cons (tw_name (by simp) (tws_cons (tw_name (by simp) (tws_nil ?_)))))
    simp only [Nat.zero_add]
    walk_at "st"
    refine bo_inSg ?_
    simp only [es]
    refine ⟨_, rfl, rfl, ?_⟩
    refine if_dec (fun h => ?_) (fun h => trivial)
    walk_at "st"
    exact ⟨rfl, rfl⟩
  rw [filt_pairs56]
  refine ea_nil (ca_tup (.inl (.inl rfl)) ?_)
  exact k
abbrev s_law_given : Stmt := top 85
theorem sc_law_given : FnScope ["_law_deck_here", "_law_marks", "_law_mark"] ["_law_deck_here"] (defScope s_law_given) := ⟨rfl, rfl, rfl, by decide +kernel, rfl, by decide +kernel, by decide +kernel⟩
theorem c_law_given {P : Program} {w : World} {K : PySem.W.Frag} {mg : Str → Option Value} {base : Heap} {cl : Nat → Addr} {f : Addr} {fd : FuncData} (hm : mg "_law_given" = some (.ref f)) (B : Blt mg) (Z : ZZ K w mg cl) (Fn : Fun K "_law_given" "_law_given" s_law_given f fd)
    (c_law_pick : Cal P w K mg base 2 "_law_pick" (spN FK ⟨K, cl⟩ (S_pick DkB)) [])
    (c_law_draw : Cal P w K mg base 1 "_law_draw" (spN FK ⟨K, cl⟩ (S_draw DkB)) [])
    (c_law_tree : Cal P w K mg base 62 "_law_tree" (spN FK ⟨K, cl⟩ (S_treeB 60)) []) : Cal P w K mg base 63 "_law_given" (spN FK ⟨K, cl⟩ (S_given19 DkB)) [] := by
  have fz := Z.z0
  have gz := Z.z1
  refine calD hm Fn sc_law_given (by intro ds W post h; first | (obtain ⟨rfl, _⟩ := h; rfl) | (obtain ⟨_, rfl, _⟩ := h; rfl) | (obtain ⟨_, _, rfl, _⟩ := h; rfl) | (obtain ⟨_, _, _, rfl, _⟩ := h; rfl) | (obtain ⟨_, _, _, _, rfl, _⟩ := h; rfl) | (obtain ⟨_, _, _, _, _, rfl, _⟩ := h; rfl) | (obtain ⟨_, _, _, _, _, _, rfl, _⟩ := h; rfl) | (obtain ⟨_, _, _, _, _, _, _, rfl, _⟩ := h; rfl) | (obtain ⟨_, _, _, _, _, _, _, _, rfl, _⟩ := h; rfl) | (obtain ⟨_, _, _, _, _, _, _, _, _, rfl, _⟩ := h; rfl) | (obtain ⟨_, _, _, _, _, _, _, _, _, _, rfl, _⟩ := h; rfl) | (obtain ⟨_, _, _, _, _, _, _, _, _, _, _, rfl, _⟩ := h; rfl)) (fun _ _ _ _ _ _ us hl => match us, hl with | [_], _ => rfl) fun cdv A outer s H E hr => ⟨_, pss_cons (ps_set (i := 1) sc_law_given.nd rfl (Or.inr rfl) (pe_c c_law_pick hr (by omega) (by rfl) (pa_cons (pv 0) (pa_cons (pe_lst (pa_cons pe_str (pa_cons pe_str (pa_cons pe_str (pa_cons pe_str (pa_cons pe_str (pa_cons pe_str pa_nil))))))) pa_nil))))
 (pss_one (ps_ret (pe_callTy (cr_dictP rfl) (by rfl) B.dict bt_dict (pa_cons (pe_lc (own := [("_law_mark", 2)]) (by rfl) sc_law_given.nd (pi_str (pv 1)) (blkOk_by (own := [("_law_mark", 2)]) (N := ["_law_deck_here", "_law_marks", "_law_mark"]) (sc := defScope s_law_given) (by decide +kernel)) (fun _ _ _ _ _ => (pg_name (i := 2) sc_law_given.nd rfl (Or.inl rfl))) (fun _ _ _ _ _ => pts_nil) (fun _ _ _ _ _ => (pe_tup (pa_cons (pv 2) (pa_cons (pe_c c_law_tree hr (by omega) (by rfl) (pa_cons (pv 0) (pa_cons pe_str (pa_cons (pv 1) (pa_cons (pe_op op_add pe_int (pe_c c_law_draw hr (by omega) (by rfl) (pa_cons (pv 0) (pa_cons pe_int pa_nil)))) pa_nil))))) pa_nil))))) pa_nil)))), ?_⟩
  rintro ds W post ⟨a, c, rfl, hd, hc, z⟩
  try dsimp only [cxOf, Cx.nox, Cx.wish]
  have h16 := sizeLine_eq
  walk_at "st"
  refine handA ⟨a, _, _, rfl, hd, by omega, .inl ⟨_, .inl rfl, by simp, by simp, fun z hz W1 hd1 => ?_⟩⟩
  try walk_at "st"
  obtain ⟨s, rfl, s1, s2, s3, s4, s5⟩ := pool19 z hz
  have hab : ("abM" : Str).length = 3 := rfl
  have hsl : s.length ≤ 4 := by rw [str_len]; exact s2
  have hlab : letters ("abM" : Str) := by unfold letters; decide +kernel
  walk_at "st"
  refine ev_lcF (ei_str ?_)
  walk_at "st"
  refine ⟨fun t acc W' => ∃ rs : List (Nat × Fm), acc = rs.map (fun x => .tup [.str (sg x.1), x.2.tr]) ∧ rs.map (·.1) = (lets s).take t ∧ (∀ x ∈ rs, x.2.Frm "abM" s ∧ x.2.many ≤ 20) ∧ DkB a (c + 1 + 100 * (t : Nat)) W', ⟨[], rfl, rfl, by simp, DkB_mono hd1 (by omega)⟩, ?_, ?_⟩
  · rintro t d acc W2 hd2 ⟨rs, rfl, hk, hf, hdk⟩
    rw [List.getElem?_map] at hd2
    obtain ⟨u, hu, rfl⟩ := Option.map_eq_some_iff.mp hd2
    have hu : (lets s)[t]? = some u := hu
    have ht := (List.getElem?_eq_some_iff.mp hu).1
    refine tw_name (by simp) ?_
    walk_at "st"
    refine handA ⟨a, _, 18, rfl, hdk, by omega, by omega, by omega, fun n W3 n0 n1 hd3 => ?_⟩
    try walk_at "st"
    obtain ⟨n, rfl⟩ := Int.eq_ofNat_of_zero_le n0
    have e1 : (2 : Int) + ((n : Nat) : Int) = ((n + 2 : Nat) : Int) := by omega
    rw [e1]
    refine handA ⟨a, _, "abM", s, n + 2, rfl, hd3, by omega, by omega, by omega, by omega, by omega, fun f W4 f1 f2 hd4 => ?_⟩
    try walk_at "st"
    have hrl : rs.length = t := by
      have := congrArg List.length hk
      rw [List.length_map, List.length_take] at this
      omega
    refine ⟨by rw [List.length_map]; omega, rs ++ [(u, f)], by simp [sg], ?_, fun x hx => ?_, DkB_mono hd4 (by push_cast; omega)⟩
    · rw [List.map_append, hk, List.take_add_one, hu]
      rfl
    · rcases List.mem_append.mp hx with h | h
      · exact hf x h
      · rw [List.mem_singleton] at h
        subst h
        exact ⟨f1, by show f.many ≤ 20; omega⟩
  rintro acc W2 ⟨rs, rfl, hk, hf, hdk⟩
  rw [List.length_map] at hk hdk
  have hk : rs.map (·.1) = (lets s).take (lets s).length := hk
  have hdk : DkB a (c + 1 + 100 * ((lets s).length : Nat)) W2 := hdk
  rw [List.take_length] at hk
  obtain ⟨hr, hh⟩ := drn_ok (p := "abM") (s := s) (n := 20) ⟨hk, hf⟩ hlab (by
    intro c hc h
    have := s4 c h
    have hc : c ∈ [97, 98, 77] := hc
    simp only [List.mem_cons, List.not_mem_nil, or_false] at hc
    rcases hc with rfl | rfl | rfl
    · omega
    · omega
    · exact s5 h) (by omega) s1 s2 s3 s4
  have hnd : (rs.map (·.1)).Nodup := by rw [hk]; exact asc_nd s1
  refine ea_nil (ca_dictP (ps := frmD rs) (.inl (.inl (congrArg D.lst (by unfold frmD tabL; rw [List.map_map]; rfl)))) fun q hq => ?_)
  rw [mergeG_nd (tabL_nd hnd)]
  exact z q rs W2 hr hh (DkB_mono hdk (by omega))
abbrev s_law_moved : Stmt := top 86
theorem sc_law_moved : FnScope ["_law_deck_here", "_law_world", "_law_marks", "_law_found", "_law_go", "_law_spot", "_law_mark", "_law_lot", "_law_x", "_law_kept", "_law_more_letters"] ["_law_deck_here", "_law_world", "_law_marks"] (defScope s_law_moved) := ⟨rfl, rfl, rfl, by decide +kernel, rfl, by decide +kernel, by decide +kernel⟩
theorem c_law_moved {P : Program} {w : World} {K : PySem.W.Frag} {mg : Str → Option Value} {base : Heap} {cl : Nat → Addr} {f : Addr} {fd : FuncData} (hm : mg "_law_moved" = some (.ref f)) (B : Blt mg) (Z : ZZ K w mg cl) (Fn : Fun K "_law_moved" "_law_moved" s_law_moved f fd)
    (c_law_draw : Cal P w K mg base 1 "_law_draw" (spN FK ⟨K, cl⟩ (S_draw DkB)) [])
    (c_law_pick : Cal P w K mg base 2 "_law_pick" (spN FK ⟨K, cl⟩ (S_pick DkB)) []) : Cal P w K mg base 3 "_law_moved" (spN FK ⟨K, cl⟩ (S_moved19 DkB)) [] := by
  have fz := Z.z0
  have gz := Z.z1
  refine calD hm Fn sc_law_moved (by intro ds W post h; first | (obtain ⟨rfl, _⟩ := h; rfl) | (obtain ⟨_, rfl, _⟩ := h; rfl) | (obtain ⟨_, _, rfl, _⟩ := h; rfl) | (obtain ⟨_, _, _, rfl, _⟩ := h; rfl) | (obtain ⟨_, _, _, _, rfl, _⟩ := h; rfl) | (obtain ⟨_, _, _, _, _, rfl, _⟩ := h; rfl) | (obtain ⟨_, _, _, _, _, _, rfl, _⟩ := h; rfl) | (obtain ⟨_, _, _, _, _, _, _, rfl, _⟩ := h; rfl) | (obtain ⟨_, _, _, _, _, _, _, _, rfl, _⟩ := h; rfl) | (obtain ⟨_, _, _, _, _, _, _, _, _, rfl, _⟩ := h; rfl) | (obtain ⟨_, _, _, _, _, _, _, _, _, _, rfl, _⟩ := h; rfl) | (obtain ⟨_, _, _, _, _, _, _, _, _, _, _, rfl, _⟩ := h; rfl)) (fun _ _ _ _ _ _ us hl => match us, hl with | [_, _, _], _ => rfl) fun cdv A outer s H E hr => ⟨_, pss_cons (ps_set (i := 3) sc_law_moved.nd rfl (Or.inl rfl) (pe_disp (pps_cons pe_str (pe_dget (by exact hu_of hr) (pv 1) pe_str (fun _ _ => rfl)) (pps_cons pe_str (pe_callTy call_list_of (by rfl) B.list bt_list (pa_cons (pe_dget (by exact hu_of hr) (pv 1) pe_str (fun _ _ => rfl)) pa_nil)) pps_nil)) (by rfl) (by rfl) (fun z => by cases z) (by decide)))
 (pss_cons (ps_for PassesOwn.never rfl (pi_range1 (by rfl) B.range (pa_cons (pe_op op_add pe_int (pe_c c_law_draw hr (by omega) (by rfl) (pa_cons (pv 0) (pa_cons pe_int pa_nil)))) pa_nil)) (pg_name (i := 4) sc_law_moved.nd rfl (Or.inl rfl)) (pss_cons (ps_asg (pe_tup (pa_cons (pe_c c_law_draw hr (by omega) (by rfl) (pa_cons (pv 0) (pa_cons (pe_callB call_len (by rfl) B.len bt_len (pa_cons (pe_dget (by exact hu_of hr) (pv 3) pe_str (fun _ _ => rfl)) pa_nil)) pa_nil))) (pa_cons (pe_c c_law_pick hr (by omega) (by rfl) (pa_cons (pv 0) (pa_cons (pv 2) pa_nil))) pa_nil))) (pg_tup (n := 2) rfl (pgs_cons (pg_name (i := 5) sc_law_moved.nd rfl (Or.inl rfl)) (pgs_cons (pg_name (i := 6) sc_law_moved.nd rfl (Or.inr rfl)) pgs_nil))))
 (pss_cons (ps_set (i := 7) sc_law_moved.nd rfl (Or.inl rfl) (pe_ix ix_list (pe_dget (by exact hu_of hr) (pv 3) pe_str (fun _ _ => rfl)) (pv 5) (fun _ _ => rfl)))
 (pss_cons (ps_set (i := 9) sc_law_moved.nd rfl (Or.inl rfl) (pe_join pe_str (pe_lc (own := [("_law_x", 8)]) (by rfl) sc_law_moved.nd (pi_str (pv 7)) (blkOk_by (own := [("_law_x", 8)]) (N := ["_law_deck_here", "_law_world", "_law_marks", "_law_found", "_law_go", "_law_spot", "_law_mark", "_law_lot", "_law_x", "_law_kept", "_law_more_letters"]) (sc := defScope s_law_moved) (by decide +kernel)) (fun _ _ _ _ _ => (pg_name (i := 8) sc_law_moved.nd rfl (Or.inl rfl))) (fun _ _ _ _ _ => pts_one (pt_cmpR op_ne (pv 8) (pv 6) (nomark _))) (fun _ _ _ _ _ => (pv 8)))))
 (pss_cons (ps_set (i := 10) sc_law_moved.nd rfl (Or.inl rfl) (pe_join pe_str (pe_callB (cr_sortedX rfl) (by rfl) B.sorted bt_sorted (pa_cons (pe_op op_add_str (pv 7) (pv 6)) pa_nil))))
 (pss_one (ps_asg (pe_ifExp (pt_cmpR op_in_sign (pv 6) (pv 7) rfl) (pv 9) (pv 10)) (pg_sub (pe_dget (by exact hu_of hr) (pv 3) pe_str (fun _ _ => rfl)) (pv 5) set_list))))))))
 (pss_one (ps_ret (pv 3)))), ?_⟩
  rintro ds W post ⟨a, c, w, rs, rfl, hd, hw, hr, hc, z⟩
  try dsimp only [cxOf, Cx.nox, Cx.wish]
  have h16 := sizeLine_eq
  have hf := hw.rows.few
  have hlen := hw.len
  walk_at "st"
  refine ca_list (.inl (.inl (.inl rfl))) fun p hp => ?_
  walk_at "st"
  rw [mergeG_nd (by simp only [List.map_cons, List.map_nil, List.nil_append, List.cons_append]; decide +kernel)]
  refine ⟨Nat.le_of_ble_eq_true rfl, ?_⟩
  refine sw_seq (sw_for (ei_rng1 ?_))
  walk_at "st"
  refine ⟨W, [(p, _)], List.perm_append_comm (l₁ := [_]), a, c, 3, rfl, hd, by omega, by omega, by omega, fun m W1 m0 m1 hd1 => ?_⟩
  walk_at "st"
  refine ⟨by omega, by omega, fun i G' W' => ∃ (as : List Str) (Wd : Om), as.length = w.below.length ∧ (∀ s ∈ as, letters s ∧ (lets s).Pairwise (· < ·)) ∧ (∀ i, stripS (marksS rs) (as.getD i "") = stripS (marksS rs) (w.atoms.getD i "")) ∧ DkB a (c + 1 + 10 * (i : Nat)) Wd ∧ W'.Perm ((p, .lst (as.map .str)) :: Wd) ∧ ∃ o4 o5 o6 o7 o9 o10, G' = [some (.adr a), some (webD w), some (.lst ((rs.map (·.1)).map fun c => .str (sg c))), some (wrlD w (.adr p)), o4, o5, o6, o7, none, o9, o10], ⟨w.atoms, W1, hlen, hw.lets, fun _ => rfl, DkB_mono hd1 (by omega), List.perm_append_comm, _, _, _, _, _, _, rfl⟩, ?_, ?_⟩
  · rintro i d G' W' hdd ⟨as, Wd, hal, has, hst, hdk, hpm, o4, o5, o6, o7, o9, o10, rfl⟩
    have hi := (rng_get hdd).1
    have hn0 : 0 < w.below.length := List.length_pos_iff.mpr hw.some_
    refine tg_name ?_
    refine sw_perm hpm ?_
    walk_at "st"
    simp only [List.length_map, hal]
    refine ⟨Wd, [(p, _)], List.perm_append_comm (l₁ := [_]), a, _, (w.below.length : Nat), rfl, hdk, by omega, by omega, by omega, fun y W2 y0 y1 hd2 => ?_⟩
    obtain ⟨k, rfl⟩ := Int.eq_ofNat_of_zero_le y0
    have hk : k < w.below.length := by omega
    walk_at "st"
    refine ⟨W2, [(p, _)], List.Perm.refl _, a, _, _, rfl, hd2, by omega, .inl ⟨_, .inl rfl, by simp [hr.some_], by simp only [List.length_map]; have := hr.few; omega, fun z2 hz2 W3 hd3 => ?_⟩⟩
    rw [List.map_map] at hz2
    obtain ⟨x, hx, rfl⟩ := List.mem_map.mp hz2
    have hmk : x.1 ∈ lets (marksS rs) := List.mem_map.mpr ⟨x, hx, rfl⟩
    have hcap := hr.cap x hx
    obtain ⟨s, hs⟩ : ∃ s, as[k]? = some s := ⟨_, List.getElem?_eq_getElem (by omega)⟩
    have hsg : as.getD k "" = s := getD_of hs
    obtain ⟨s1, s2⟩ := has s (List.mem_of_getElem? hs)
    have hsl := ltrs_few (asc_nd s2) s1
    have hsl2 : s.length ≤ 52 := by rw [str_len]; exact hsl
    walk_at "st"
    refine bo_ixL (.inr ⟨p, rfl, List.mem_append_right _ List.mem_cons_self⟩) (at_map (d := ("" : Str)) (by omega)) ?_
    rw [hsg]
    walk_at "st"
    refine ev_join ?_
    walk_at "st"
    refine ev_lcP (ei_str ?_)
    walk_at "st"
    refine ⟨(lets s).map fun c => (!decide (c = x.1), D.str (sg c)), fun i d e hd he => ?_, by simp [lets], by rw [List.length_map]; omega, ?_⟩
    · rw [List.getElem?_map] at hd
      obtain ⟨c, hc, rfl⟩ := Option.map_eq_some_iff.mp hd
      rw [List.getElem?_map, show (lets s)[i]? = some c from hc] at he
      obtain rfl := Option.some.inj he
      refine tw_name (by simp) ?_
      walk_at "st"
      refine bo_neS ?_
      rw [show decide ((⟨#[c]⟩ : Str) = sg x.1) = decide (c = x.1) from decide_eq_decide.mpr ⟨fun h => sg_inj (b := x.1) h, fun h => by rw [h]; rfl⟩]
      refine ⟨_, rfl, rfl, ?_⟩
      cases !decide (c = x.1) with
      | true =>
        refine if_so rfl ?_
        walk_at "st"
        exact ⟨rfl, rfl⟩
      | false => exact if_not rfl rfl
    rw [flt_tab]
    have hfl := List.length_filter_le (fun c => !decide (c = x.1)) (lets s)
    refine ⟨((lets s).filter fun c => !decide (c = x.1)).map sg, .inl (.inl (.inl (by rw [List.map_map]; rfl))), ?_, ?_⟩
    · rw [sg_sum, List.length_map]
      show _ + _ * 0 ≤ _
      omega
    rw [join_nil_sg]
    walk_at "st"
    have hl1 : (sg x.1).length = 1 := rfl
    refine ev_join ?_
    walk_at "st"
    refine bo_addS (by rw [hl1]; omega) ?_
    have hcat : lets (s ++ sg x.1) = lets s ++ [x.1] := lets_cat s (sg x.1)
    have fin : ∀ (t : Str) (W4 : Om), letters t → (lets t).Pairwise (· < ·) → (∀ c, c ≠ x.1 → (c ∈ lets t ↔ c ∈ lets s)) → W4 = W3 ++ [(p, .lst ((as.set k t).map .str))] → ∃ (as : List Str) (Wd : Om), as.length = w.below.length ∧ (∀ s ∈ as, letters s ∧ (lets s).Pairwise (· < ·)) ∧ (∀ i, stripS (marksS rs) (as.getD i "") = stripS (marksS rs) (w.atoms.getD i "")) ∧ DkB a (c + 1 + 10 * ((i + 1 : Nat) : Int)) Wd ∧ W4.Perm ((p, .lst (as.map .str)) :: Wd) := by
      intro t W4 t1 t2 t3 e
      refine ⟨as.set k t, W3, by rw [List.length_set]; exact hal, fun z hz => ?_, fun j => ?_, DkB_mono hd3 (by push_cast; omega), e ▸ List.perm_append_comm⟩
      · rcases List.mem_or_eq_of_mem_set hz with h | h
        · exact has z h
        · exact h ▸ ⟨t1, t2⟩
      · rw [← hst j, List.getD_eq_getElem?_getD, List.getElem?_set]
        by_cases e2 : k = j
        · subst e2
          rw [if_pos rfl, if_pos (by omega), hsg]
          refine lets_strip (fun c hc => t3 c fun e3 => hc (e3 ▸ hmk)) t2 s2
        · rw [if_neg e2, ← List.getD_eq_getElem?_getD]
    by_cases hm : x.1 ∈ lets s
    · refine ea_nil (ca_sortedXA (by rw [str_app_len, hl1]; omega) fun ks hks => ?_)
      have hkl := hks.length_eq
      rw [hcat, List.length_append, List.length_singleton] at hkl
      refine ⟨ks.map sg, .inl (.inl (.inl (by rw [List.map_map]; rfl))), ?_, ?_⟩
      · rw [sg_sum, List.length_map]
        show _ + _ * 0 ≤ _
        omega
      rw [join_nil_sg]
      walk_at "st"
      refine bo_inSg ?_
      refine ⟨_, rfl, ?_⟩
      refine if_so (decide_eq_true hm) ?_
      walk_at "st"
      refine ⟨p, _, (k : Nat), k, W3, [], rfl, rfl, rfl, ixN_nat (by rw [List.length_map]; omega), ?_⟩
      obtain ⟨as2, Wd2, g1, g2, g3, g4, g5⟩ := fin ⟨((lets s).filter fun c => !decide (c = x.1)).toArray⟩ _ (fun c hc => s1 c (List.mem_filter.mp (show c ∈ List.filter _ _ from hc)).1) (s2.sublist List.filter_sublist) (fun c hc => by
        show c ∈ List.filter _ _ ↔ _
        rw [List.mem_filter]
        simp [hc]) rfl
      rw [List.map_set] at g5
      exact ⟨as2, Wd2, g1, g2, g3, g4, g5, _, _, _, _, _, _, rfl⟩
    · have hnd : (lets (s ++ sg x.1)).Nodup := by
        rw [hcat, List.nodup_append]
        refine ⟨asc_nd s2, by simp, fun a ha b hb e => ?_⟩
        rw [List.mem_singleton] at hb
        exact hm (hb ▸ e ▸ ha)
      refine ea_nil (ca_sortedX (by rw [str_app_len, hl1]; omega) hnd ?_)
      have hal2 := low_ascN (lets (s ++ sg x.1))
      rw [hcat, List.length_append, List.length_singleton, ← hcat] at hal2
      refine ⟨(ascN (lets (s ++ sg x.1))).map sg, .inl (.inl (.inl (by rw [List.map_map]; rfl))), ?_, ?_⟩
      · rw [sg_sum, List.length_map]
        show _ + _ * 0 ≤ _
        omega
      rw [join_nil_sg]
      walk_at "st"
      refine bo_inSg ?_
      refine ⟨_, rfl, ?_⟩
      refine if_not (decide_eq_false hm) ?_
      walk_at "st"
      refine ⟨p, _, (k : Nat), k, W3, [], rfl, rfl, rfl, ixN_nat (by rw [List.length_map]; omega), ?_⟩
      obtain ⟨as2, Wd2, g1, g2, g3, g4, g5⟩ := fin ⟨(ascN (lets (s ++ sg x.1))).toArray⟩ _ (fun c hc => by
        have hc : c ∈ lets (s ++ sg x.1) := mem_ascN.mp hc
        rw [hcat, List.mem_append, List.mem_singleton] at hc
        rcases hc with h | h
        · exact s1 c h
        · exact h ▸ .inl hcap) (asc_ascN _) (fun c hc => by
        show c ∈ ascN _ ↔ _
        rw [mem_ascN, hcat, List.mem_append, List.mem_singleton]
        simp [hc]) rfl
      rw [List.map_set] at g5
      exact ⟨as2, Wd2, g1, g2, g3, g4, g5, _, _, _, _, _, _, rfl⟩
  rintro G' W' ⟨as, Wd, hal, has, hst, hdk, hpm, o4, o5, o6, o7, o9, o10, rfl⟩
  rw [rng_len] at hdk
  refine sw_perm hpm ?_
  refine sw_ret (ev_fzDp (a := p) (od := .lst (as.map .str)) (d' := .lst (as.map .str)) (ks := [Sum.inr "below", Sum.inr "stand"]) (l := [rowsD w.below]) ?_)
  refine ev_var rfl ?_
  refine ⟨_, rfl, List.Perm.refl _, .lst _, ?_⟩
  exact z ⟨w.below, as⟩ Wd ⟨hw.rows, hw.some_, hal, has⟩ rfl (wb_ext rfl (list_at (n := w.below.length) (by simp [Wb.strip, hal]) (by simp [Wb.strip, hlen]) fun i hi => by rw [strip_at (by rw [hal]; exact hi), strip_at (by omega)]; exact hst i)) (DkB_mono hdk (by omega))
abbrev s_law_as_told : Stmt := top 87
theorem sc_law_as_told : FnScope ["_law_code", "_law_forms", "_law_net_here", "_law_world", "_law_found", "_law_mark"] ["_law_code", "_law_forms", "_law_net_here", "_law_world"] (defScope s_law_as_told) := ⟨rfl, rfl, rfl, by decide +kernel, rfl, by decide +kernel, by decide +kernel⟩
theorem c_law_as_told {P : Program} {w : World} {K : PySem.W.Frag} {mg : Str → Option Value} {base : Heap} {cl : Nat → Addr} {f : Addr} {fd : FuncData} (hm : mg "_law_as_told" = some (.ref f)) (B : Blt mg) (Z : ZZ K w mg cl) (Fn : Fun K "_law_as_told" "_law_as_told" s_law_as_told f fd)
    (o_getitem3 : Opi P w K mg base 3 (cl 3) "__getitem__" (spN FK ⟨K, cl⟩ S_getRu))
    (mm_where1 : Met P w K mg base 10 (cl 1) "where" (spN FK ⟨K, cl⟩ S_whereW) [])
    (c_law_points : Cal P w K mg base 1 "_law_points" (spN FK ⟨K, cl⟩ S_points19) []) : Cal P w K mg base 13 "_law_as_told" (spN FK ⟨K, cl⟩ S_told19) [] := by
  have fz := Z.z0
  have gz := Z.z1
  refine calD hm Fn sc_law_as_told (by intro ds W post h; first | (obtain ⟨rfl, _⟩ := h; rfl) | (obtain ⟨_, rfl, _⟩ := h; rfl) | (obtain ⟨_, _, rfl, _⟩ := h; rfl) | (obtain ⟨_, _, _, rfl, _⟩ := h; rfl) | (obtain ⟨_, _, _, _, rfl, _⟩ := h; rfl) | (obtain ⟨_, _, _, _, _, rfl, _⟩ := h; rfl) | (obtain ⟨_, _, _, _, _, _, rfl, _⟩ := h; rfl) | (obtain ⟨_, _, _, _, _, _, _, rfl, _⟩ := h; rfl) | (obtain ⟨_, _, _, _, _, _, _, _, rfl, _⟩ := h; rfl) | (obtain ⟨_, _, _, _, _, _, _, _, _, rfl, _⟩ := h; rfl) | (obtain ⟨_, _, _, _, _, _, _, _, _, _, rfl, _⟩ := h; rfl) | (obtain ⟨_, _, _, _, _, _, _, _, _, _, _, rfl, _⟩ := h; rfl)) (fun _ _ _ _ _ _ us hl => match us, hl with | [_, _, _, _], _ => rfl) fun cdv A outer s H E hr => ⟨_, pss_cons (ps_set (i := 4) sc_law_as_told.nd rfl (Or.inl rfl) (pe_lst pa_nil))
 (pss_cons (ps_lock (ps_for PassesOwn.never rfl (pi_keys (pv 1)) (pg_name (i := 5) sc_law_as_told.nd rfl (Or.inl rfl)) (pss_one (ps_if (pt_cmpR (op_eqD hr.units) (pe_mt mm_where1 hr (by omega) (pv 2) (pa_cons (pe_ixOwn o_getitem3 hr (by omega) (pv 0) (pv 5)) pa_nil)) (pe_c c_law_points hr (by omega) (by rfl) (pa_cons (pv 3) (pa_cons (pv 5) pa_nil))) (nomark _)) (pss_one (ps_expr (pe_bm PySem.F.plainAttrs_list PySem.F.slot_list_append PySem.F.type_list_append mt_append (pv 4) (pa_cons (pv 5) pa_nil)))) (pss_nil)))))
 (pss_one (ps_ret (pv 4)))), ?_⟩
  rintro ds W post ⟨q, u, rs, rfl, rfl, hu, hr, k⟩
  try dsimp only [cxOf, Cx.nox, Cx.wish]
  have h16 := sizeLine_eq
  have hf := hr.few
  have hnd := rkeys_nd hr
  refine sw_seq (sw_set (ev_lst ?_))
  walk_at "st"
  intro p hp
  refine sw_seq (sw_lock (W1 := [_]) (W2 := []) fun od kvs => ?_)
  refine sw_forL (cell := (q, .lp od kvs (frmD rs))) (ei_keysL ?_)
  walk_at "st"
  refine ⟨rfl, List.mem_cons_of_mem _ List.mem_cons_self, fun i G' W' => W' = [(p, .lst ((toldL u (rs.take i)).map fun x => .str (sg x.1))), (q, .lp od kvs (frmD rs))] ∧ ∃ o5, G' = [some (rlD rs), some (.adr q), some u.d, some (webD u), some (.adr p), o5], ⟨rfl, _, rfl⟩, fun i G' W' h => by rw [h.1]; exact List.mem_cons_of_mem _ List.mem_cons_self, ?_, ?_⟩
  · rintro i d G' W' hdd ⟨rfl, o5, rfl⟩
    unfold frmD tabL at hdd
    rw [List.map_map, List.getElem?_map] at hdd
    obtain ⟨x, hx, rfl⟩ := Option.map_eq_some_iff.mp hdd
    have hm := List.mem_of_getElem? hx
    refine tg_name ?_
    walk_at "st"
    refine bo_ownIx (inst_rl rs) ?_
    refine hand0 ⟨rs, x, rfl, rfl, hr, hm, ?_⟩
    try simp only [List.nil_append]
    try walk_at "st"
    refine hand0 ⟨u, .fm x.2, x.2, rfl, rfl, hu, .inl rfl, hr.form x hm, ?_⟩
    try simp only [List.nil_append]
    try walk_at "st"
    refine hand0 ⟨u, x.1, rfl, rfl, hu, ?_⟩
    try simp only [List.nil_append]
    try walk_at "st"
    have hle := List.length_filter_le (fun x : Nat × Fm => decide (whr u x.2 = pts u x.1)) (rs.take i)
    have hli : (rs.take i).length ≤ rs.length := by rw [List.length_take]; omega
    have hsn : toldL u (rs.take (i + 1)) = toldL u (rs.take i) ++ if whr u x.2 = pts u x.1 then [x] else [] := by
      unfold toldL
      rw [List.take_add_one, hx, List.filter_append]
      congr 1
      simp only [Option.toList_some, List.filter_cons, List.filter_nil, decide_eq_true_eq]
    refine bo_eqD (.inl (pd_row _)) (.inl (pd_row _)) (shaped_rowR _) (shaped_rowR _) ?_
    rw [eqv_rows2]
    refine ⟨_, rfl, ?_⟩
    by_cases e : whr u x.2 = pts u x.1
    · refine if_so (decide_eq_true e) ?_
      refine sw_drop (ev_append ?_)
      walk_at "st"
      refine ⟨p, _, [], [_], rfl, rfl, ?_⟩
      walk_at "st"
      refine ⟨_, [], [_], _, rfl, rfl, by rw [List.length_map]; unfold toldL; omega, ?_⟩
      refine ⟨?_, _, rfl⟩
      rw [hsn, if_pos e, List.map_append]
      rfl
    · refine if_not (decide_eq_false e) ?_
      refine sw_next ?_
      refine ⟨?_, _, rfl⟩
      rw [hsn, if_neg e, List.append_nil]
  rintro G' W' ⟨rfl, o5, rfl⟩
  refine ⟨[_], [], rfl, ?_⟩
  rw [show (List.map (fun p => kD p.1) (frmD rs)).length = rs.length from by simp [tabL], List.take_length]
  refine sw_fz (i := 4) (a := p) rfl (List.Perm.refl _) (.lst _) ?_
  walk_at "st"
  exact k
abbrev s_law_values : Stmt := top 88
theorem sc_law_values : FnScope ["_law_below", "_law_stand", "_law_tree_here", "_law_lot", "_law_first", "_law_found", "_law_a", "_law_b", "_law_points_here", "_law_j"] ["_law_below", "_law_stand", "_law_tree_here"] (defScope s_law_values) := ⟨rfl, rfl, rfl, by decide +kernel, rfl, by decide +kernel, by decide +kernel⟩
theorem c_law_values {P : Program} {w : World} {K : PySem.W.Frag} {mg : Str → Option Value} {base : Heap} {cl : Nat → Addr} {f : Addr} {fd : FuncData} (hm : mg "_law_values" = some (.ref f)) (B : Blt mg) (Z : ZZ K w mg cl) (Fn : Fun K "_law_values" "_law_values" s_law_values f fd) : ∀ j, Cal P w K mg base (1 + j) "_law_values" (spN FK ⟨K, cl⟩ (S_values19 j)) [] := by
  have fz := Z.z0
  have gz := Z.z1
  intro j
  induction j with
  | zero => exact calD (k := 0) hm Fn sc_law_values (by intro ds W post h; first | (obtain ⟨rfl, _⟩ := h; rfl) | (obtain ⟨_, rfl, _⟩ := h; rfl) | (obtain ⟨_, _, rfl, _⟩ := h; rfl) | (obtain ⟨_, _, _, rfl, _⟩ := h; rfl) | (obtain ⟨_, _, _, _, rfl, _⟩ := h; rfl) | (obtain ⟨_, _, _, _, _, rfl, _⟩ := h; rfl) | (obtain ⟨_, _, _, _, _, _, rfl, _⟩ := h; rfl) | (obtain ⟨_, _, _, _, _, _, _, rfl, _⟩ := h; rfl) | (obtain ⟨_, _, _, _, _, _, _, _, rfl, _⟩ := h; rfl) | (obtain ⟨_, _, _, _, _, _, _, _, _, rfl, _⟩ := h; rfl) | (obtain ⟨_, _, _, _, _, _, _, _, _, _, rfl, _⟩ := h; rfl) | (obtain ⟨_, _, _, _, _, _, _, _, _, _, _, rfl, _⟩ := h; rfl)) (fun _ _ _ _ _ _ us hl => match us, hl with | [_, _, _], _ => rfl) fun cdv A outer s H E hr => ⟨_, pss_never, fun ds W post ⟨w, f, _, _, _, h, _⟩ => absurd h (Nat.not_lt_zero _)⟩
  | succ j c_law_values =>
    refine calD (k := 1 + j) hm Fn sc_law_values (by intro ds W post h; first | (obtain ⟨rfl, _⟩ := h; rfl) | (obtain ⟨_, rfl, _⟩ := h; rfl) | (obtain ⟨_, _, rfl, _⟩ := h; rfl) | (obtain ⟨_, _, _, rfl, _⟩ := h; rfl) | (obtain ⟨_, _, _, _, rfl, _⟩ := h; rfl) | (obtain ⟨_, _, _, _, _, rfl, _⟩ := h; rfl) | (obtain ⟨_, _, _, _, _, _, rfl, _⟩ := h; rfl) | (obtain ⟨_, _, _, _, _, _, _, rfl, _⟩ := h; rfl) | (obtain ⟨_, _, _, _, _, _, _, _, rfl, _⟩ := h; rfl) | (obtain ⟨_, _, _, _, _, _, _, _, _, rfl, _⟩ := h; rfl) | (obtain ⟨_, _, _, _, _, _, _, _, _, _, rfl, _⟩ := h; rfl) | (obtain ⟨_, _, _, _, _, _, _, _, _, _, _, rfl, _⟩ := h; rfl)) (fun _ _ _ _ _ _ us hl => match us, hl with | [_, _, _], _ => rfl) fun cdv A outer s H E hr => ⟨_, pss_cons (ps_if (pt_cmpR op_eq (pe_ix ix_tup (pv 2) pe_int (fun _ _ => rfl)) pe_str (nomark _)) (pss_one (ps_ret (pe_lc (own := [("_law_lot", 3)]) (by rfl) sc_law_values.nd (pi_tup (pv 1)) (blkOk_by (own := [("_law_lot", 3)]) (N := ["_law_below", "_law_stand", "_law_tree_here", "_law_lot", "_law_first", "_law_found", "_law_a", "_law_b", "_law_points_here", "_law_j"]) (sc := defScope s_law_values) (by decide +kernel)) (fun _ _ _ _ _ => (pg_name (i := 3) sc_law_values.nd rfl (Or.inl rfl))) (fun _ _ _ _ _ => pts_nil) (fun _ _ _ _ _ => (pe_cmpR op_in_sign (pe_ix (ix_tupK (K := K) rfl) (pv 2) pe_int (fun _ _ => rfl)) (pv 3) rfl))))) (pss_nil))
 (pss_cons (ps_if (pt_cmpR op_eq (pe_ix ix_tup (pv 2) pe_int (fun _ _ => rfl)) pe_str (nomark _)) (pss_one (ps_ret (pe_lc (own := [("_law_lot", 3)]) (by rfl) sc_law_values.nd (pi_tup (pv 1)) (blkOk_by (own := [("_law_lot", 3)]) (N := ["_law_below", "_law_stand", "_law_tree_here", "_law_lot", "_law_first", "_law_found", "_law_a", "_law_b", "_law_points_here", "_law_j"]) (sc := defScope s_law_values) (by decide +kernel)) (fun _ _ _ _ _ => (pg_name (i := 3) sc_law_values.nd rfl (Or.inl rfl))) (fun _ _ _ _ _ => pts_nil) (fun _ _ _ _ _ => pe_bl)))) (pss_nil))
 (pss_cons (ps_asg (pe_tup (pa_cons (pe_c c_law_values hr (by omega) (by rfl) (pa_cons (pv 0) (pa_cons (pv 1) (pa_cons (pe_ix ix_tup (pv 2) pe_int (fun _ _ => rfl)) pa_nil)))) (pa_cons (pe_lst pa_nil) pa_nil))) (pg_tup (n := 2) rfl (pgs_cons (pg_name (i := 4) sc_law_values.nd rfl (Or.inr rfl)) (pgs_cons (pg_name (i := 5) sc_law_values.nd rfl (Or.inr rfl)) pgs_nil))))
 (pss_cons (ps_if (pt_cmpR op_eq (pe_ix ix_tup (pv 2) pe_int (fun _ _ => rfl)) pe_str (nomark _)) (pss_one (ps_ret (pe_lc (own := [("_law_a", 6), ("_law_b", 7)]) (by rfl) sc_law_values.nd (pi_zipK (by rfl) B.zip (pa_cons (pv 4) (pa_cons (pe_c c_law_values hr (by omega) (by rfl) (pa_cons (pv 0) (pa_cons (pv 1) (pa_cons (pe_ix ix_tup (pv 2) pe_int (fun _ _ => rfl)) pa_nil)))) pa_nil))) (blkOk_by (own := [("_law_a", 6), ("_law_b", 7)]) (N := ["_law_below", "_law_stand", "_law_tree_here", "_law_lot", "_law_first", "_law_found", "_law_a", "_law_b", "_law_points_here", "_law_j"]) (sc := defScope s_law_values) (by decide +kernel)) (fun _ _ _ _ _ => (pg_tupK (K := K) rfl (n := 2) rfl (pgs_cons (pg_name (i := 6) sc_law_values.nd rfl (Or.inl rfl)) (pgs_cons (pg_name (i := 7) sc_law_values.nd rfl (Or.inl rfl)) pgs_nil)))) (fun _ _ _ _ _ => pts_nil) (fun _ _ _ _ _ => (pe_or (pe_not (pv 6)) (pe_one (pv 7))))))) (pss_nil))
 (pss_cons (ps_for PassesOwn.never rfl (pi_tup (pv 0)) (pg_name (i := 8) sc_law_values.nd rfl (Or.inl rfl)) (pss_one (ps_expr (pe_bm PySem.F.plainAttrs_list PySem.F.slot_list_append PySem.F.type_list_append mt_append (pv 5) (pa_cons (pe_cmpR (op_eqE hr.units) (pe_lc (own := [("_law_j", 9)]) (by rfl) sc_law_values.nd (pi_tup (pv 8)) (blkOk_by (own := [("_law_j", 9)]) (N := ["_law_below", "_law_stand", "_law_tree_here", "_law_lot", "_law_first", "_law_found", "_law_a", "_law_b", "_law_points_here", "_law_j"]) (sc := defScope s_law_values) (by decide +kernel)) (fun _ _ _ _ _ => (pg_name (i := 9) sc_law_values.nd rfl (Or.inl rfl))) (fun _ _ _ _ _ => pts_one (PW.pt (pw_or (pt_not (pt_val (pe_ix (ix_listK (K := K) rfl) (pv 4) (pv 9) (fun _ _ => rfl)))) (pw_or1 (pt_not (pt_val (pe_ix (ix_listK (K := K) rfl) (pv 5) (pv 9) (fun _ _ => rfl)))))))) (fun _ _ _ _ _ => (pv 9))) (pe_lst pa_nil) (nomark _)) pa_nil)))))
 (pss_one (ps_ret (pv 5))))))), ?_⟩
    rintro ds W post ⟨w, f, rfl, rfl, hw, hj, hj2, k⟩
    try dsimp only [cxOf, Cx.nox, Cx.wish]
    have h16 := sizeLine_eq
    have hlen := hw.len
    have hfew := hw.rows.few
    cases f with
    | «at» c =>
      simp only [Fm.tr]
      walk_at "st"
      refine ev_lcM (ei_tup ?_)
      walk_at "st"
      refine ⟨(w.vals (.at c)).map .bl, fun i d e hd he => ?_, by simp [Wb.vals], by rw [List.length_map, Wb.vals_len hlen]; omega, k⟩
      rw [List.getElem?_map] at hd
      obtain ⟨s, hs, rfl⟩ := Option.map_eq_some_iff.mp hd
      have he : e = .bl (decide (c ∈ lets s)) := by
        simp only [Wb.vals, List.getElem?_map, hs] at he
        exact (Option.some.inj he).symm
      subst he
      refine tw_name (by simp) ?_
      walk_at "st"
      refine ⟨rfl, ?_⟩
      walk_at "st"
      refine bo_inSg ?_
      exact ⟨rfl, rfl⟩
    | no =>
      simp only [Fm.tr]
      walk_at "st"
      refine ev_lcM (ei_tup ?_)
      walk_at "st"
      refine ⟨(w.vals .no).map .bl, fun i d e hd he => ?_, by simp [Wb.vals_len hlen, hlen], by rw [List.length_map, Wb.vals_len hlen]; omega, k⟩
      have he : e = .bl false := by
        rw [show w.vals .no = w.below.map fun _ => false from rfl, List.map_map, List.getElem?_map] at he
        obtain ⟨_, _, rfl⟩ := Option.map_eq_some_iff.mp he
        rfl
      subst he
      refine tw_name (by simp) ?_
      walk_at "st"
      exact ⟨rfl, ev_c ⟨rfl, rfl⟩⟩
    | imp a b =>
      simp only [Fm.tr, Fm.ht] at hj ⊢
      walk_at "st"
      refine hand0 ⟨w, a, rfl, rfl, hw, by omega, by omega, ?_⟩
      simp only [List.nil_append]
      refine ea_cons (ev_lst ?_)
      walk_at "st"
      intro p hp
      refine ea_nil ?_
      refine ⟨len_ok (Nat.le_of_ble_eq_true rfl), ?_⟩
      refine ta_tup rfl (tas_cons (ta_name (tas_cons (ta_name (tas_nil ?_)))))
      walk_at "st"
      refine ev_drp ?_
      refine ev_lcM (ei_zipK ?_)
      walk_at "st"
      refine hand0 ⟨w, b, rfl, rfl, hw, by omega, by omega, ?_⟩
      try simp only [List.nil_append]
      try walk_at "st"
      refine ⟨_, _, _, _, rfl, .inl rfl, .inl rfl, (w.vals (.imp a b)).map .bl, fun i d e hd he => ?_, by rw [List.length_map, Wb.vals_len hlen, pairs2_len, List.length_map, List.length_map, Wb.vals_len hlen, Wb.vals_len hlen, Nat.min_self], by rw [List.length_map, Wb.vals_len hlen]; omega, [], List.nil_sublist _, k⟩
      obtain ⟨x, y, hx, hy, rfl⟩ := pairs2_get hd
      rw [List.getElem?_map] at hx hy
      obtain ⟨x, hx2, rfl⟩ := Option.map_eq_some_iff.mp hx
      obtain ⟨y, hy2, rfl⟩ := Option.map_eq_some_iff.mp hy
      have he : e = .bl (!x || y) := by
        simp only [Wb.vals, List.getElem?_map, List.getElem?_zipWith] at he
        rw [hx2, hy2] at he
        exact (Option.some.inj he).symm
      subst he
      refine tw_tup rfl (tws_cons (tw_name (by simp) (tws_cons (tw_name (by simp) (tws_nil ?_)))))
      walk_at "st"
      refine ⟨rfl, ?_⟩
      walk_at "st"
      cases x with
      | false =>
        refine if_so rfl ?_
        exact ⟨rfl, rfl⟩
      | true =>
        refine if_not rfl ?_
        walk_at "st"
        exact ⟨rfl, rfl⟩
    | all a =>
      simp only [Fm.tr, Fm.ht] at hj ⊢
      have hvl := Wb.vals_len hlen (.all a)
      have hva := Wb.vals_len hlen a
      walk_at "st"
      refine hand0 ⟨w, a, rfl, rfl, hw, by omega, by omega, ?_⟩
      simp only [List.nil_append]
      refine ea_cons (ev_lst ?_)
      walk_at "st"
      intro p hp
      refine ea_nil ?_
      refine ⟨len_ok (Nat.le_of_ble_eq_true rfl), ?_⟩
      refine ta_tup rfl (tas_cons (ta_name (tas_cons (ta_name (tas_nil ?_)))))
      walk_at "st"
      refine sw_for (ei_tup ?_)
      walk_at "st"
      refine ⟨fun i G' W' => W' = [(p, .lst (((w.vals (.all a)).take i).map .bl))] ∧ ∃ o8, G' = [some (rowsD w.below), some (atomsD w.atoms), some (D.tup [D.str "all", a.tr]), none, some (.lst ((w.vals a).map .bl)), some (.adr p), none, none, o8, none], ⟨rfl, _, rfl⟩, ?_, ?_⟩
      · rintro i d G' W' hd ⟨rfl, o8, rfl⟩
        rw [List.getElem?_map] at hd
        obtain ⟨r, hr2, rfl⟩ := Option.map_eq_some_iff.mp hd
        obtain ⟨a1, a2⟩ := hw.rows.asc i r hr2
        have hi := (List.getElem?_eq_some_iff.mp hr2).1
        have hrl : r.length ≤ i := low_len (a1.imp fun h => Nat.ne_of_lt h) a2
        have hrow : w.below.getD i [] = r := getD_of hr2
        refine tg_name ?_
        refine sw_drop (ev_append ?_)
        walk_at "st"
        refine ⟨p, _, [], [], rfl, rfl, ?_⟩
        walk_at "st"
        refine ev_lcP (ei_tup ?_)
        walk_at "st"
        refine ⟨r.map fun j => (!((w.vals a).getD j false && (w.vals (.all a)).getD j false), natD j), fun t d e hd he => ?_, by simp, by rw [List.length_map]; omega, ?_⟩
        · rw [List.getElem?_map] at hd
          obtain ⟨j, hj3, rfl⟩ := Option.map_eq_some_iff.mp hd
          rw [List.getElem?_map, hj3] at he
          obtain rfl := Option.some.inj he
          have hji := a2 j (List.mem_of_getElem? hj3)
          refine tw_name (by simp) ?_
          walk_at "st"
          refine bo_ixL (.inl (.inl rfl)) (at_bl (by omega)) ?_
          refine ⟨_, rfl, ?_⟩
          cases e1 : (w.vals a).getD j false with
          | false =>
            refine if_so rfl ?_
            refine ⟨by simp only [e1, Bool.false_and, Bool.not_false], ?_⟩
            refine if_so rfl ?_
            walk_at "st"
            exact ⟨rfl, rfl⟩
          | true =>
            refine if_not rfl ?_
            walk_at "st"
            refine bo_ixL (.inr ⟨p, rfl, List.mem_cons_self⟩) (at_bl (by rw [List.length_take]; omega)) ?_
            rw [show ((w.vals (.all a)).take i).getD j false = (w.vals (.all a)).getD j false from by rw [List.getD_eq_getElem?_getD, List.getElem?_take, if_pos hji, ← List.getD_eq_getElem?_getD]]
            refine ⟨_, rfl, ?_⟩
            cases e2 : (w.vals (.all a)).getD j false with
            | false =>
              refine ⟨by simp only [e1, e2, Bool.and_false, Bool.not_false], ?_⟩
              refine if_so rfl ?_
              walk_at "st"
              exact ⟨rfl, rfl⟩
            | true => exact ⟨by simp only [e1, e2, Bool.and_self, Bool.not_true], if_not rfl rfl⟩
        rw [filt_pairs]
        walk_at "st"
        refine bo_eqE (.inl (.inl rfl)) (.inl (.inl rfl)) ?_
        rw [filt_empty]
        walk_at "st"
        refine ⟨_, [], [], _, rfl, rfl, by rw [List.length_map, List.length_take]; omega, ?_⟩
        refine ⟨?_, _, rfl⟩
        have hv : (w.vals (.all a))[i]? = some ((w.vals (.all a)).getD i false) := some_of (by omega)
        rw [List.take_add_one, hv, List.map_append, all_row hw hi, hrow]
        rfl
      rintro G' W' ⟨rfl, o8, rfl⟩
      rw [List.length_map, List.take_of_length_le (by omega)]
      refine sw_fz (i := 5) (a := p) rfl (List.Perm.refl _) (.lst _) ?_
      walk_at "st"
      exact k
end
section
local macro_rules | `(tactic| walk_at "s1") => `(tactic| ((with_reducible refine' ⟨_, _, inst_rl _, ?hm, ?_⟩); (case hm => decide +kernel)))
abbrev s_law_great_right : Stmt := top 89
theorem sc_law_great_right : FnScope ["_law_deck_here", "_law_forms", "_law_kind", "_law_many", "_law_reach", "_law_k", "_law_below", "_law_step", "_law_stand", "_law_x", "_law_mark", "_law_code", "_law_told", "_law_lot", "_law_seen"] ["_law_deck_here", "_law_forms"] (defScope s_law_great_right) := ⟨rfl, rfl, rfl, by decide +kernel, rfl, by decide +kernel, by decide +kernel⟩
theorem c_law_great_right {P : Program} {w : World} {K : PySem.W.Frag} {mg : Str → Option Value} {base : Heap} {cl : Nat → Addr} {f : Addr} {fd : FuncData} (hm : mg "_law_great_right" = some (.ref f)) (B : Blt mg) (Z : ZZ K w mg cl) (Fn : Fun K "_law_great_right" "_law_great_right" s_law_great_right f fd)
    (c_law_draw : Cal P w K mg base 1 "_law_draw" (spN FK ⟨K, cl⟩ (S_draw DkB)) [])
    (c_law_built : Cal P w K mg base 80 "_law_built" (spN FK ⟨K, cl⟩ (S_built 70)) [])
    (m_Rules : Mak P w K mg base 7 "Rules" (cl 3) (spN FK ⟨K, cl⟩ S_initRu) [])
    (mm_marked3 : Met P w K mg base 13 (cl 3) "marked" (spN FK ⟨K, cl⟩ S_markedRu) [])
    (m_Web : Mak P w K mg base 4 "Web" (cl 1) (spN FK ⟨K, cl⟩ S_initW) [])
    (c_law_values : Cal P w K mg base 71 "_law_values" (spN FK ⟨K, cl⟩ (S_values19 70)) []) : Cal P w K mg base 81 "_law_great_right" (spN FK ⟨K, cl⟩ (S_great19 DkB)) [] := by
  have fz := Z.z0
  have gz := Z.z1
  refine calD hm Fn sc_law_great_right (by intro ds W post h; first | (obtain ⟨rfl, _⟩ := h; rfl) | (obtain ⟨_, rfl, _⟩ := h; rfl) | (obtain ⟨_, _, rfl, _⟩ := h; rfl) | (obtain ⟨_, _, _, rfl, _⟩ := h; rfl) | (obtain ⟨_, _, _, _, rfl, _⟩ := h; rfl) | (obtain ⟨_, _, _, _, _, rfl, _⟩ := h; rfl) | (obtain ⟨_, _, _, _, _, _, rfl, _⟩ := h; rfl) | (obtain ⟨_, _, _, _, _, _, _, rfl, _⟩ := h; rfl) | (obtain ⟨_, _, _, _, _, _, _, _, rfl, _⟩ := h; rfl) | (obtain ⟨_, _, _, _, _, _, _, _, _, rfl, _⟩ := h; rfl) | (obtain ⟨_, _, _, _, _, _, _, _, _, _, rfl, _⟩ := h; rfl) | (obtain ⟨_, _, _, _, _, _, _, _, _, _, _, rfl, _⟩ := h; rfl)) (fun _ _ _ _ _ _ us hl => match us, hl with | [_, _], _ => rfl) fun cdv A outer s H E hr => ⟨_, pss_cons (ps_par (i := 2) (j := 3) (by rfl) sc_law_great_right.nd rfl rfl (by decide) rfl rfl (pa_cons (pe_c c_law_draw hr (by omega) (by rfl) (pa_cons (pv 0) (pa_cons pe_int pa_nil))) (pa_cons pe_int pa_nil)) (by rfl))
 (pss_cons (ps_set (i := 4) sc_law_great_right.nd rfl (Or.inr rfl) (pe_ix ix_list (pe_lst (pa_cons pe_int (pa_cons (pv 3) (pa_cons (pe_op op_add pe_int (pe_c c_law_draw hr (by omega) (by rfl) (pa_cons (pv 0) (pa_cons pe_int pa_nil)))) pa_nil)))) (pv 2) (fun _ _ => rfl)))
 (pss_cons (ps_set (i := 6) sc_law_great_right.nd rfl (Or.inl rfl) (pe_callTy call_tuple_of (by rfl) B.tuple bt_tuple (pa_cons (pe_lc (own := [("_law_k", 5)]) (by rfl) sc_law_great_right.nd (pi_range1 (by rfl) B.range (pa_cons (pv 3) pa_nil)) (blkOk_by (own := [("_law_k", 5)]) (N := ["_law_deck_here", "_law_forms", "_law_kind", "_law_many", "_law_reach", "_law_k", "_law_below", "_law_step", "_law_stand", "_law_x", "_law_mark", "_law_code", "_law_told", "_law_lot", "_law_seen"]) (sc := defScope s_law_great_right) (by decide +kernel)) (fun _ _ _ _ _ => (pg_name (i := 5) sc_law_great_right.nd rfl (Or.inl rfl))) (fun _ _ _ _ _ => pts_nil) (fun _ _ _ _ _ => (pe_tupRg (by rfl) (by rfl) B.tuple (prg_2 (by rfl) B.range (pe_callB (call_max2 rfl) (by rfl) B.max bt_max (pa_cons pe_int (pa_cons (pe_op op_sub (pv 5) (pv 4)) pa_nil))) (pv 5))))) pa_nil)))
 (pss_cons (ps_asg (pe_tup (pa_cons (pe_op op_add pe_int (pe_c c_law_draw hr (by omega) (by rfl) (pa_cons (pv 0) (pa_cons pe_int pa_nil)))) (pa_cons (pe_lst pa_nil) pa_nil))) (pg_tup (n := 2) rfl (pgs_cons (pg_name (i := 7) sc_law_great_right.nd rfl (Or.inr rfl)) (pgs_cons (pg_name (i := 8) sc_law_great_right.nd rfl (Or.inl rfl)) pgs_nil))))
 (pss_cons (ps_for PassesOwn.never rfl (pi_range1 (by rfl) B.range (pa_cons (pv 3) pa_nil)) (pg_name (i := 5) sc_law_great_right.nd rfl (Or.inr rfl)) (pss_one (ps_expr (pe_bm PySem.F.plainAttrs_list PySem.F.slot_list_append PySem.F.type_list_append mt_append (pv 8) (pa_cons (pe_join pe_str (pe_lc (own := [("_law_x", 9)]) (by rfl) sc_law_great_right.nd (pi_str pe_str) (blkOk_by (own := [("_law_x", 9)]) (N := ["_law_deck_here", "_law_forms", "_law_kind", "_law_many", "_law_reach", "_law_k", "_law_below", "_law_step", "_law_stand", "_law_x", "_law_mark", "_law_code", "_law_told", "_law_lot", "_law_seen"]) (sc := defScope s_law_great_right) (by decide +kernel)) (fun _ _ _ _ _ => (pg_name (i := 9) sc_law_great_right.nd rfl (Or.inl rfl))) (fun _ _ _ _ _ => pts_one (pt_cmpR op_lt (pe_op op_mod (pe_callTy call_int1 (by rfl) B.int bt_int (pa_cons (pe_op op_add (pe_op op_mul (pe_op op_mul (pv 5) (pv 7)) (pe_op op_add pe_int (pe_sindex pe_str (pv 9)))) (pe_op op_fdiv (pv 5) pe_int)) pa_nil)) pe_int) pe_int (nomark _))) (fun _ _ _ _ _ => (pv 9)))) pa_nil)))))
 (pss_cons (ps_set (i := 11) sc_law_great_right.nd rfl (Or.inl rfl) (pe_mk m_Rules hr (by omega) (by rfl) (pa_cons (pe_callTy call_tuple_of (by rfl) B.tuple bt_tuple (pa_cons (pe_lc (own := [("_law_mark", 10)]) (by rfl) sc_law_great_right.nd (pi_list (pe_callB cr_sortedS (by rfl) B.sorted bt_sorted (pa_cons (pe_callTy (cr_listDk rfl) (by rfl) B.list bt_list (pa_cons (pv 1) pa_nil)) pa_nil))) (blkOk_by (own := [("_law_mark", 10)]) (N := ["_law_deck_here", "_law_forms", "_law_kind", "_law_many", "_law_reach", "_law_k", "_law_below", "_law_step", "_law_stand", "_law_x", "_law_mark", "_law_code", "_law_told", "_law_lot", "_law_seen"]) (sc := defScope s_law_great_right) (by decide +kernel)) (fun _ _ _ _ _ => (pg_name (i := 10) sc_law_great_right.nd rfl (Or.inl rfl))) (fun _ _ _ _ _ => pts_nil) (fun _ _ _ _ _ => (pe_tup (pa_cons (pv 10) (pa_cons (pe_c c_law_built hr (by omega) (by rfl) (pa_cons (pe_dget (by exact hu_of hr) (pv 1) (pv 10) (fun _ _ => rfl)) pa_nil)) pa_nil))))) pa_nil)) pa_nil)))
 (pss_cons (ps_set (i := 12) sc_law_great_right.nd rfl (Or.inl rfl) (pe_mt mm_marked3 hr (by omega) (pv 11) (pa_cons (pe_mk m_Web hr (by omega) (by rfl) (pa_cons (pv 6) (pa_cons (pe_callTy call_tuple_of (by rfl) B.tuple bt_tuple (pa_cons (pv 8) pa_nil)) pa_nil))) pa_nil)))
 (pss_cons (ps_for PassesOwn.never rfl (pi_zipK (by rfl) B.zip (pa_cons (pv 8) (pa_cons (pe_fld (pv 12) rfl) pa_nil))) (pg_tup (n := 2) rfl (pgs_cons (pg_name (i := 13) sc_law_great_right.nd rfl (Or.inl rfl)) (pgs_cons (pg_name (i := 14) sc_law_great_right.nd rfl (Or.inl rfl)) pgs_nil))) (pss_one (ps_if (pt_cmpR (op_neD hr.units) (pe_lc (own := [("_law_x", 9)]) (by rfl) sc_law_great_right.nd (pi_str (pv 13)) (blkOk_by (own := [("_law_x", 9)]) (N := ["_law_deck_here", "_law_forms", "_law_kind", "_law_many", "_law_reach", "_law_k", "_law_below", "_law_step", "_law_stand", "_law_x", "_law_mark", "_law_code", "_law_told", "_law_lot", "_law_seen"]) (sc := defScope s_law_great_right) (by decide +kernel)) (fun _ _ _ _ _ => (pg_name (i := 9) sc_law_great_right.nd rfl (Or.inl rfl))) (fun _ _ _ _ _ => pts_one (pt_cmp (pc_dnotin (by exact hu_of hr) (pv 9) (pv 1)))) (fun _ _ _ _ _ => (pv 9))) (pe_lc (own := [("_law_x", 9)]) (by rfl) sc_law_great_right.nd (pi_str (pv 14)) (blkOk_by (own := [("_law_x", 9)]) (N := ["_law_deck_here", "_law_forms", "_law_kind", "_law_many", "_law_reach", "_law_k", "_law_below", "_law_step", "_law_stand", "_law_x", "_law_mark", "_law_code", "_law_told", "_law_lot", "_law_seen"]) (sc := defScope s_law_great_right) (by decide +kernel)) (fun _ _ _ _ _ => (pg_name (i := 9) sc_law_great_right.nd rfl (Or.inl rfl))) (fun _ _ _ _ _ => pts_one (pt_cmp (pc_dnotin (by exact hu_of hr) (pv 9) (pv 1)))) (fun _ _ _ _ _ => (pv 9))) (nomark _)) (pss_one (ps_ret pe_bl)) (pss_nil))))
 (pss_cons (ps_lock (ps_for PassesOwn.never rfl (pi_keys (pv 1)) (pg_name (i := 10) sc_law_great_right.nd rfl (Or.inr rfl)) (pss_one (ps_if (pt_cmpR (op_neD hr.units) (pe_c c_law_values hr (by omega) (by rfl) (pa_cons (pv 6) (pa_cons (pe_fld (pv 12) rfl) (pa_cons (pe_dget (by exact hu_of hr) (pv 1) (pv 10) (fun _ _ => rfl)) pa_nil)))) (pe_lc (own := [("_law_lot", 13)]) (by rfl) sc_law_great_right.nd (pi_tup (pe_fld (pv 12) rfl)) (blkOk_by (own := [("_law_lot", 13)]) (N := ["_law_deck_here", "_law_forms", "_law_kind", "_law_many", "_law_reach", "_law_k", "_law_below", "_law_step", "_law_stand", "_law_x", "_law_mark", "_law_code", "_law_told", "_law_lot", "_law_seen"]) (sc := defScope s_law_great_right) (by decide +kernel)) (fun _ _ _ _ _ => (pg_name (i := 13) sc_law_great_right.nd rfl (Or.inl rfl))) (fun _ _ _ _ _ => pts_nil) (fun _ _ _ _ _ => (pe_cmpR op_in_sign (pv 10) (pv 13) rfl))) (nomark _)) (pss_one (ps_ret pe_bl)) (pss_nil)))))
 (pss_one (ps_ret (pe_cmpR (op_eqD hr.units) (pe_fld (pv 12) rfl) (pv 6) (nomark _)))))))))))), ?_⟩
  rintro ds W post ⟨a, q, c, rs, Wd, rfl, rfl, hd, hr, hh, hc, z⟩
  try dsimp only [cxOf, Cx.nox, Cx.wish]
  have h16 := sizeLine_eq
  have hf := hr.few
  have hnd := rkeys_nd hr
  have easc : ascN (rs.map (·.1)) = rs.map (·.1) := ascN_ext (asc_ascN _) hr.asc fun x => mem_ascN
  walk_at "st"
  refine ⟨Wd, [(q, _)], List.perm_append_comm (l₁ := [_]), a, c, 3, rfl, hd, by omega, by omega, by omega, fun kz W1 k0 k1 hd1 => ?_⟩
  walk_at "st"
  refine ⟨W1, [(q, _)], List.Perm.refl _, a, _, 5, rfl, hd1, by omega, by omega, by omega, fun rz W2 r0 r1 hd2 => ?_⟩
  walk_at "st"
  obtain ⟨r, hr1, hr2, hat⟩ : ∃ r : Nat, 1 ≤ r ∧ r ≤ 40 ∧ atI [D.int 1, D.int 40, D.int (2 + rz)] kz = some (.int (r : Nat)) := by
    have : kz = 0 ∨ kz = 1 ∨ kz = 2 := by omega
    rcases this with rfl | rfl | rfl
    · exact ⟨1, by omega, by omega, rfl⟩
    · exact ⟨40, by omega, by omega, rfl⟩
    · refine ⟨(2 + rz).toNat, by omega, by omega, ?_⟩
      rw [show (((2 + rz).toNat : Nat) : Int) = 2 + rz from by omega]
      rfl
  refine bo_ixL (.inl (.inl rfl)) hat ?_
  walk_at "st"
  refine ev_lcM (ei_rng1 ?_)
  walk_at "st"
  refine ⟨by omega, by omega, (rowsG r 40).map rowD, fun k d e hdd he => ?_, by simp [rowsG, rng_len], by simp [rowsG]; omega, ?_⟩
  · obtain ⟨hk, rfl⟩ := rng_get hdd
    have hk : k < 40 := hk
    have hz : ((0 : Int) + (k : Nat)) = (k : Nat) := by omega
    rw [hz]
    have he : e = rowD (rowG r k) := by
      unfold rowsG at he
      rw [List.map_map, List.getElem?_map, List.getElem?_range hk] at he
      exact (Option.some.inj he).symm
    subst he
    refine tw_name (by simp) ?_
    walk_at "st"
    refine ⟨rfl, ?_⟩
    refine ev_tupRg2 ?_
    walk_at "st"
    have em : (if (k : Int) - (r : Nat) > 0 then (k : Int) - (r : Nat) else 0) = ((k - r : Nat) : Int) := by
      split <;> omega
    rw [em]
    refine ⟨_, _, rfl, rfl, .of_le (by omega) (by omega) (by omega) (by omega), ?_⟩
    have erg : (rgV ((k - r : Nat) : Int) ((k : Nat) : Int)).map D.vl = (rowG r k).map natD := by
      unfold rgV rowG
      rw [List.map_map, List.map_map, show (((k : Nat) : Int) - ((k - r : Nat) : Int)).toNat = k - (k - r) from by omega]
      exact List.map_congr_left fun t _ => by
        show D.int _ = D.int _
        congr 1
    rw [erg]
    exact ⟨rfl, rfl⟩
  refine ea_nil (ca_tup (.inl (.inl rfl)) ?_)
  walk_at "st"
  refine ⟨W2, [(q, _)], List.Perm.refl _, a, _, 9, rfl, hd2, by omega, by omega, by omega, fun sz W3 s0 s1 hd3 => ?_⟩
  repeat ((fail_if_success (with_reducible refine ea_cons (ev_lst ?_))); walk_at "s1")
  refine ea_cons (ev_lst ?_)
  walk_at "st"
  intro p hp
  refine ea_nil ?_
  refine ⟨len_ok (Nat.le_of_ble_eq_true rfl), ?_⟩
  refine ta_tup rfl (tas_cons (ta_name (tas_cons (ta_name (tas_nil ?_)))))
  refine sw_seq (sw_for (ei_rng1 ?_))
  walk_at "st"
  refine ⟨by omega, by omega, fun i G' W' => ∃ as : List Str, as.length = i ∧ (∀ s ∈ as, letters s ∧ (lets s).Pairwise (· < ·)) ∧ W' = (p, .lst (as.map .str)) :: (W3 ++ [(q, .dp (frmD rs))]) ∧ ∃ o5, G' = [some (.adr a), some (.adr q), some (.int kz), some (.vl (.int 40)), some (.int (r : Nat)), o5, some (rowsD (rowsG r 40)), some (.int (1 + sz)), some (.adr p), none, none, none, none, none, none], ⟨[], rfl, by simp, rfl, _, rfl⟩, ?_, ?_⟩
  · rintro k d G' W' hdd ⟨as, hal, has, rfl, o5, rfl⟩
    obtain ⟨hk, rfl⟩ := rng_get hdd
    have hk : k < 40 := hk
    refine tg_name ?_
    refine sw_drop (ev_append ?_)
    walk_at "st"
    refine ⟨p, _, [], _, rfl, rfl, ?_⟩
    walk_at "st"
    refine ev_join ?_
    walk_at "st"
    refine ev_lcF (ei_str ?_)
    walk_at "st"
    refine ⟨fun t acc W' => ∃ m : List Nat, acc = (m.map fun c => D.str (sg c)) ∧ m.Sublist ((lets ("AMPab" : Str)).take t) ∧ W' = (p, .lst (as.map .str)) :: (W3 ++ [(q, .dp (frmD rs))]), ⟨[], rfl, by simp, rfl⟩, ?_, ?_⟩
    · rintro t d acc W' hd2 ⟨m, rfl, hm, rfl⟩
      rw [List.getElem?_map] at hd2
      obtain ⟨c, hc, rfl⟩ := Option.map_eq_some_iff.mp hd2
      have hc : (lets ("AMPab" : Str))[t]? = some c := hc
      have hml := hm.length_le
      have h5 : (lets ("AMPab" : Str)).length = 5 := rfl
      rw [List.length_take, h5] at hml
      have hcm : c ∈ ([65, 77, 80, 97, 98] : List Nat) := List.mem_of_getElem? hc
      obtain ⟨i, rest, ho, hi5⟩ := idx19 c hcm
      refine tw_name (by simp) ?_
      walk_at "st"
      refine ev_sindex (ev_c ⟨_, rfl, ev_var rfl ?_⟩)
      refine ⟨_, i, rest, rfl, ho, ?_⟩
      walk_at "st"
      have etk : (lets ("AMPab" : Str)).take (t + 1) = (lets ("AMPab" : Str)).take t ++ [c] := by rw [List.take_add_one, hc]; rfl
      refine if_dec (fun h => ?_) (fun h => ?_)
      · walk_at "st"
        refine ⟨by rw [List.length_map]; omega, m ++ [c], by simp [sg], ?_, rfl⟩
        rw [etk]
        exact hm.append (List.Sublist.refl _)
      · refine ⟨m, rfl, ?_, rfl⟩
        rw [etk]
        exact hm.trans (List.sublist_append_left _ _)
    rintro acc W' ⟨m, rfl, hm, rfl⟩
    have hm : m.Sublist ((lets ("AMPab" : Str)).take 5) := hm
    have hml := hm.length_le
    have h5 : (lets ("AMPab" : Str)).length = 5 := rfl
    rw [List.length_take, h5] at hml
    refine ⟨m.map sg, .inl (.inl (.inl (by rw [List.map_map]; rfl))), ?_, ?_⟩
    · rw [sg_sum, List.length_map]
      show _ + _ * 0 ≤ _
      omega
    rw [join_nil_sg]
    walk_at "st"
    refine ⟨_, [], _, _, rfl, rfl, by rw [List.length_map]; omega, ?_⟩
    refine ⟨as ++ [⟨m.toArray⟩], by simp [hal], fun s hs => ?_, by simp, _, rfl⟩
    rcases List.mem_append.mp hs with h | h
    · exact has s h
    · rw [List.mem_singleton] at h
      subst h
      have hm2 := hm.trans (List.take_sublist _ _)
      refine ⟨fun c hc => ?_, (show (lets ("AMPab" : Str)).Pairwise (· < ·) by decide +kernel).sublist hm2⟩
      have hc : c ∈ ([65, 77, 80, 97, 98] : List Nat) := hm2.subset hc
      simp only [List.mem_cons, List.not_mem_nil, or_false] at hc
      rcases hc with rfl | rfl | rfl | rfl | rfl
      · exact .inl ⟨by decide, by decide⟩
      · exact .inl ⟨by decide, by decide⟩
      · exact .inl ⟨by decide, by decide⟩
      · exact .inr ⟨by decide, by decide⟩
      · exact .inr ⟨by decide, by decide⟩
  rintro G' W' ⟨as, hal, has, rfl, o5, rfl⟩
  have hal : as.length = 40 := hal
  refine sw_fz (i := 8) (a := p) rfl (List.Perm.refl _) (.lst _) ?_
  walk_at "st"
  refine ev_mkRu ?_
  walk_at "st"
  refine ev_lcM (ei_list ?_)
  walk_at "st"
  refine ca_listDk (ps := frmD rs) (.inr ⟨q, rfl, List.mem_append_right _ List.mem_cons_self⟩) ?_
  refine ea_nil (ca_sortedSL (ns := rs.map (·.1)) (.inl (.inl (congrArg D.lst (by unfold frmD tabL; rw [List.map_map, List.map_map]; rfl)))) hnd (by rw [List.length_map]; omega) ?_)
  rw [easc]
  walk_at "st"
  refine ⟨rs.map fun p => .tup [.str (sg p.1), .fm p.2], fun i d e hd he => ?_, by simp, by rw [List.length_map]; omega, ?_⟩
  · rw [List.map_map, List.getElem?_map] at hd
    obtain ⟨p, hp, rfl⟩ := Option.map_eq_some_iff.mp hd
    rw [List.getElem?_map, hp] at he
    obtain rfl := Option.some.inj he
    have hm := List.mem_of_getElem? hp
    refine tw_name (by simp) ?_
    walk_at "st"
    refine ⟨rfl, ?_⟩
    walk_at "st"
    refine ⟨_, Sum.inr (sg p.1), _, .inr ⟨q, rfl, List.mem_append_right _ List.mem_cons_self⟩, rfl, getG_tabL (x := p.2) hnd hm, ?_⟩
    walk_at "st"
    refine hand0 ⟨p.2, rfl, rfl, hh p hm, (hr.form p hm), ?_⟩
    try simp only [List.nil_append]
    try walk_at "st"
    exact ⟨rfl, rfl⟩
  refine ea_nil (ca_tup (.inl (.inl rfl)) ?_)
  walk_at "st"
  have eR : rsOf (rs.map fun p => (p.1, D.fm p.2, p.2)) = rs := by
    unfold rsOf
    rw [List.map_map]
    exact List.map_id _
  refine ⟨rs.map fun p => (p.1, D.fm p.2, p.2), ?_, fun e he => ?_, eR.symm ▸ hr, ?_⟩
  · show [D.tup _] = [D.tup (List.map _ (List.map _ _))]
    rw [List.map_map]
    rfl
  · obtain ⟨p, hp, rfl⟩ := List.mem_map.mp he
    exact .inl rfl
  rw [eR]
  obtain ⟨w, hwe⟩ : ∃ w : Wb, w = ⟨rowsG r 40, as⟩ := ⟨_, rfl⟩
  have hw : w.ok := hwe ▸ ⟨rowsG_ok (by omega), by simp [rowsG], by simp [rowsG, hal], has⟩
  have hwb : w.below = rowsG r 40 := by rw [hwe]
  have hwa : w.atoms = as := by rw [hwe]
  have hwl : w.below.length = 40 := by rw [hwb]; simp [rowsG]
  have hmw := rul_ok hr hw
  have lmw := rul_len hw hr
  rw [show rowsD (rowsG r 40) = rowsD w.below from by rw [hwb], ← hwa]
  walk_at "st"
  refine ev_mkW ?_
  walk_at "st"
  refine ca_tup (.inl (.inl rfl)) ?_
  walk_at "st"
  refine ⟨hw, ?_⟩
  walk_at "st"
  refine hand0 ⟨rs, w, rfl, rfl, hr, hw, ?_⟩
  try simp only [List.nil_append]
  try walk_at "st"
  refine sw_seq (sw_for (ei_zipK ?_))
  walk_at "st"
  refine ⟨_, _, _, _, rfl, .inl rfl, .inr (.inl rfl), fun i G' W' => W' = W3 ++ [(q, .dp (frmD rs))] ∧ ∃ o13 o14, G' = [some (.adr a), some (.adr q), some (.int kz), some (.vl (.int 40)), some (.int (r : Nat)), o5, some (rowsD w.below), some (.int (1 + sz)), some (.lst (w.atoms.map .str)), none, none, some (rlD rs), some (w.rul rs).d, o13, o14], ⟨rfl, _, _, rfl⟩, ?_, ?_⟩
  · rintro i d G' W' hdd ⟨rfl, o13, o14, rfl⟩
    obtain ⟨x, y, hx, hy, rfl⟩ := pairs2_get hdd
    rw [List.getElem?_map] at hx hy
    obtain ⟨s, hs, rfl⟩ := Option.map_eq_some_iff.mp hx
    obtain ⟨t, ht, rfl⟩ := Option.map_eq_some_iff.mp hy
    have hi : i < w.below.length := by
      have := (List.getElem?_eq_some_iff.mp hs).1
      rwa [hw.len] at this
    have hfe := free_eq hw hr hi
    rw [getD_of hs, getD_of ht] at hfe
    obtain ⟨s1, s2⟩ := hw.lets s (List.mem_of_getElem? hs)
    obtain ⟨t1, t2⟩ := hmw.lets t (List.mem_of_getElem? ht)
    have hsl := ltrs_few (asc_nd s2) s1
    have htl := ltrs_few (asc_nd t2) t1
    refine tg_tup rfl (tgs_cons (tg_name (tgs_cons (tg_name (tgs_nil ?_)))))
    walk_at "st"
    refine ev_lcP (ei_str ?_)
    walk_at "st"
    refine ⟨(lets s).map fun c => (!decide (c ∈ rs.map (·.1)), D.str (sg c)), fun i d e hd he => ?_, by simp [lets], by rw [List.length_map]; omega, ?_⟩
    · rw [List.getElem?_map] at hd
      obtain ⟨c, hc, rfl⟩ := Option.map_eq_some_iff.mp hd
      rw [List.getElem?_map, show (lets s)[i]? = some c from hc] at he
      obtain rfl := Option.some.inj he
      refine tw_name (by simp) ?_
      walk_at "st"
      refine ev_dnotin ?_
      walk_at "st"
      refine ⟨_, Sum.inr (sg c), .inr ⟨q, rfl, List.mem_append_right _ List.mem_cons_self⟩, rfl, ?_⟩
      rw [isSome_tabL]
      refine ⟨_, rfl, rfl, ?_⟩
      cases !decide (c ∈ rs.map (·.1)) with
      | true =>
        refine if_so rfl ?_
        walk_at "st"
        exact ⟨rfl, rfl⟩
      | false => exact if_not rfl rfl
    rw [flt_tab]
    walk_at "st"
    refine ev_lcP (ei_str ?_)
    walk_at "st"
    refine ⟨(lets t).map fun c => (!decide (c ∈ rs.map (·.1)), D.str (sg c)), fun i d e hd he => ?_, by simp [lets], by rw [List.length_map]; omega, ?_⟩
    · rw [List.getElem?_map] at hd
      obtain ⟨c, hc, rfl⟩ := Option.map_eq_some_iff.mp hd
      rw [List.getElem?_map, show (lets t)[i]? = some c from hc] at he
      obtain rfl := Option.some.inj he
      refine tw_name (by simp) ?_
      walk_at "st"
      refine ev_dnotin ?_
      walk_at "st"
      refine ⟨_, Sum.inr (sg c), .inr ⟨q, rfl, List.mem_append_right _ List.mem_cons_self⟩, rfl, ?_⟩
      rw [isSome_tabL]
      refine ⟨_, rfl, rfl, ?_⟩
      cases !decide (c ∈ rs.map (·.1)) with
      | true =>
        refine if_so rfl ?_
        walk_at "st"
        exact ⟨rfl, rfl⟩
      | false => exact if_not rfl rfl
    rw [flt_tab, hfe]
    obtain ⟨Fl, hFl⟩ : ∃ F : List Nat, (lets t).filter (fun c => !decide (c ∈ rs.map (·.1))) = F := ⟨_, rfl⟩
    have hF2 : ∀ s ∈ Fl.map sg, letters s := fun z hz => by
      obtain ⟨c, hc, rfl⟩ := List.mem_map.mp hz
      rw [← hFl] at hc
      intro e he
      have he : e ∈ [c] := he
      rw [List.mem_singleton] at he
      exact he ▸ t1 c (List.mem_filter.mp hc).1
    rw [hFl, show (Fl.map fun c => D.str (sg c)) = (Fl.map sg).map D.str from by rw [List.map_map]; rfl]
    refine bo_neD (.inl (pd_lst (pdL_strs _))) (.inl (pd_lst (pdL_strs _))) (shaped_strs hF2) (shaped_strs hF2) ?_
    rw [eqv_strsR hF2]
    refine ⟨_, rfl, ?_⟩
    refine if_not rfl ?_
    refine sw_next ?_
    exact ⟨rfl, _, _, rfl⟩
  rintro G' W' ⟨rfl, o13, o14, rfl⟩
  repeat refine sw_next ?_
  refine sw_seq (sw_lock (W1 := W3) (W2 := []) fun od kvs => ?_)
  refine sw_forL (cell := (q, .lp od kvs (frmD rs))) (ei_keysL ?_)
  walk_at "st"
  have eu : (⟨w.below, (w.rul rs).atoms⟩ : Wb) = w.rul rs := wb_ext (rul_below rs w).symm rfl
  refine ⟨rfl, List.mem_append_right _ List.mem_cons_self, fun i G' W' => W' = W3 ++ [(q, .lp od kvs (frmD rs))] ∧ ∃ o10 o13, G' = [some (.adr a), some (.adr q), some (.int kz), some (.vl (.int 40)), some (.int (r : Nat)), o5, some (rowsD w.below), some (.int (1 + sz)), some (.lst (w.atoms.map .str)), none, o10, some (rlD rs), some (w.rul rs).d, o13, o14], ⟨rfl, _, _, rfl⟩, fun i G' W' h => by rw [h.1]; exact List.mem_append_right _ List.mem_cons_self, ?_, ?_⟩
  · rintro i d G' W' hdd ⟨rfl, o10, o13, rfl⟩
    unfold frmD tabL at hdd
    rw [List.map_map, List.getElem?_map] at hdd
    obtain ⟨x, hx, rfl⟩ := Option.map_eq_some_iff.mp hdd
    have hm := List.mem_of_getElem? hx
    refine tg_name ?_
    repeat ((fail_if_success (with_reducible refine ev_dgetL ?_)); walk_at "s1")
    refine ev_dgetL ?_
    walk_at "st"
    refine ⟨q, od, kvs, _, Sum.inr (sg x.1), x.2.tr, rfl, List.mem_append_right _ List.mem_cons_self, rfl, getG_tabL (x := x.2) hnd hm, ?_⟩
    walk_at "st"
    refine hand0 ⟨⟨w.below, (w.rul rs).atoms⟩, x.2, rfl, rfl, eu ▸ hmw, hh x hm, by omega, ?_⟩
    try simp only [List.nil_append]
    try walk_at "st"
    rw [eu, vals_marks hw hr hm]
    refine ev_lcM (ei_tup ?_)
    walk_at "st"
    refine ⟨((w.rul rs).atoms.map fun s => decide (x.1 ∈ lets s)).map .bl, fun j d e hd he => ?_, by simp, by simp; omega, ?_⟩
    · rw [List.getElem?_map] at hd
      obtain ⟨s, hs, rfl⟩ := Option.map_eq_some_iff.mp hd
      rw [List.map_map, List.getElem?_map, hs] at he
      obtain rfl := Option.some.inj he
      refine tw_name (by simp) ?_
      walk_at "st"
      refine ⟨rfl, ?_⟩
      walk_at "st"
      refine bo_inSg ?_
      exact ⟨rfl, rfl⟩
    refine bo_neD (.inl (pd_bls _)) (.inl (pd_bls _)) (shaped_bls19 _) (shaped_bls19 _) ?_
    rw [eqv_bls19]
    refine ⟨_, rfl, ?_⟩
    refine if_not rfl ?_
    refine sw_next ?_
    exact ⟨rfl, _, _, rfl⟩
  rintro G' W' ⟨rfl, o10, o13, rfl⟩
  refine ⟨W3, [], rfl, ?_⟩
  refine sw_ret (ev_drp ?_)
  walk_at "st"
  rw [rul_below]
  refine bo_eqD (.inl (pd_rows _)) (.inl (pd_rows _)) (shaped_rows hw.rows) (shaped_rows hw.rows) ?_
  rw [eqv_rows hw.rows]
  exact ⟨W3, List.sublist_append_left _ _, z _ (DkB_mono hd3 (by omega))⟩
abbrev s_law_right : Stmt := top 90
theorem sc_law_right : FnScope ["_law_deck_here", "_law_forms", "_law_mark", "_law_code", "_law_world", "_law_net_here", "_law_due", "_law_told", "_law_kept", "_law_go", "_law_odd", "_law_rows", "_law_form"] ["_law_deck_here", "_law_forms"] (defScope s_law_right) := ⟨rfl, rfl, rfl, by decide +kernel, rfl, by decide +kernel, by decide +kernel⟩
theorem c_law_right {P : Program} {w : World} {K : PySem.W.Frag} {mg : Str → Option Value} {base : Heap} {cl : Nat → Addr} {f : Addr} {fd : FuncData} (hm : mg "_law_right" = some (.ref f)) (B : Blt mg) (Z : ZZ K w mg cl) (Fn : Fun K "_law_right" "_law_right" s_law_right f fd)
    (c_law_built : Cal P w K mg base 80 "_law_built" (spN FK ⟨K, cl⟩ (S_built 70)) [])
    (m_Rules : Mak P w K mg base 7 "Rules" (cl 3) (spN FK ⟨K, cl⟩ S_initRu) [])
    (c_law_web : Cal P w K mg base 2 "_law_web" (spN FK ⟨K, cl⟩ S_webB) [])
    (c_law_net : Cal P w K mg base 7 "_law_net" (spN FK ⟨K, cl⟩ S_net) [])
    (c_law_marked : Cal P w K mg base 72 "_law_marked" (spN FK ⟨K, cl⟩ S_markedB) [])
    (mm_marked3 : Met P w K mg base 13 (cl 3) "marked" (spN FK ⟨K, cl⟩ S_markedRu) [])
    (km_marked3 : MetK P w K mg base 13 (cl 3) "marked" ["web"] (fun vs zs => vs ++ zs) (spN FK ⟨K, cl⟩ S_markedRu))
    (o_eq1 : Opn P w K mg base 1 (cl 1) "__eq__" (spN FK ⟨K, cl⟩ S_eqW))
    (c_law_as_told : Cal P w K mg base 13 "_law_as_told" (spN FK ⟨K, cl⟩ S_told19) [])
    (c_law_moved : Cal P w K mg base 3 "_law_moved" (spN FK ⟨K, cl⟩ (S_moved19 DkB)) [])
    (c_law_row : Cal P w K mg base 71 "_law_row" (spN FK ⟨K, cl⟩ (S_text 70)) [])
    (o_str : Opn P w K mg base 1 (cl 0) "__str__" (spN FK ⟨K, cl⟩ S_str)) : CalG P w K mg base 81 "_law_right" (spN FK ⟨K, cl⟩ (S_right19 DkB)) := by
  have fz := Z.z0
  have gz := Z.z1
  refine calG hm Fn sc_law_right (by intro ds W post h; first | (obtain ⟨rfl, _⟩ := h; rfl) | (obtain ⟨_, rfl, _⟩ := h; rfl) | (obtain ⟨_, _, rfl, _⟩ := h; rfl) | (obtain ⟨_, _, _, rfl, _⟩ := h; rfl) | (obtain ⟨_, _, _, _, rfl, _⟩ := h; rfl) | (obtain ⟨_, _, _, _, _, rfl, _⟩ := h; rfl) | (obtain ⟨_, _, _, _, _, _, rfl, _⟩ := h; rfl) | (obtain ⟨_, _, _, _, _, _, _, rfl, _⟩ := h; rfl) | (obtain ⟨_, _, _, _, _, _, _, _, rfl, _⟩ := h; rfl) | (obtain ⟨_, _, _, _, _, _, _, _, _, rfl, _⟩ := h; rfl) | (obtain ⟨_, _, _, _, _, _, _, _, _, _, rfl, _⟩ := h; rfl) | (obtain ⟨_, _, _, _, _, _, _, _, _, _, _, rfl, _⟩ := h; rfl)) (fun _ _ _ _ _ _ us hl => match us, hl with | [_, _], _ => rfl) fun cdv A outer s H hg hr => ⟨_, pss_cons (ps_set (i := 3) sc_law_right.nd rfl (Or.inl rfl) (pe_mk m_Rules hr (by omega) (by rfl) (pa_cons (pe_callTy call_tuple_of (by rfl) B.tuple bt_tuple (pa_cons (pe_lc (own := [("_law_mark", 2)]) (by rfl) sc_law_right.nd (pi_list (pe_callB cr_sortedS (by rfl) B.sorted bt_sorted (pa_cons (pe_callTy (cr_listDk rfl) (by rfl) B.list bt_list (pa_cons (pv 1) pa_nil)) pa_nil))) (blkOk_by (own := [("_law_mark", 2)]) (N := ["_law_deck_here", "_law_forms", "_law_mark", "_law_code", "_law_world", "_law_net_here", "_law_due", "_law_told", "_law_kept", "_law_go", "_law_odd", "_law_rows", "_law_form"]) (sc := defScope s_law_right) (by decide +kernel)) (fun _ _ _ _ _ => (pg_name (i := 2) sc_law_right.nd rfl (Or.inl rfl))) (fun _ _ _ _ _ => pts_nil) (fun _ _ _ _ _ => (pe_tup (pa_cons (pv 2) (pa_cons (pe_c c_law_built hr (by omega) (by rfl) (pa_cons (pe_dget (by exact hu_of hr) (pv 1) (pv 2) (fun _ _ => rfl)) pa_nil)) pa_nil))))) pa_nil)) pa_nil)))
 (pss_cons (ps_set (i := 4) sc_law_right.nd rfl (Or.inl rfl) (pe_c c_law_web hr (by omega) (by rfl) (pa_cons (pv 0) (pa_cons pe_str (pa_cons pe_int pa_nil)))))
 (pss_cons (ps_par (i := 5) (j := 6) (by rfl) sc_law_right.nd rfl rfl (by decide) rfl rfl (pa_cons (pe_c c_law_net hr (by omega) (by rfl) (pa_cons (pv 4) pa_nil)) (pa_cons (pe_c c_law_marked hr (by omega) (by rfl) (pa_cons (pv 4) (pa_cons (pv 1) pa_nil))) pa_nil)) (by rfl))
 (pss_cons (ps_par (i := 7) (j := 8) (by rfl) sc_law_right.nd rfl rfl (by decide) rfl rfl (pa_cons (pe_mt mm_marked3 hr (by omega) (pv 3) (pa_cons (pv 5) pa_nil)) (pa_cons (pe_lst (pa_cons (pe_fld (pv 5) rfl) (pa_cons (pe_fld (pv 5) rfl) pa_nil))) pa_nil)) (by rfl))
 (pss_cons (ps_if (PW.pt (pw_or (pt_not (pt_cmpR (op_eq_opn o_eq1 hr (by omega)) (pv 7) (pe_c c_law_net hr (by omega) (by rfl) (pa_cons (pv 6) pa_nil)) (nomark _))) (pw_or (pt_not (pt_cmpR (op_eq_opn o_eq1 hr (by omega)) (pe_mtk km_marked3 hr (by omega) (pv 3) (pk_cons (pv 5) (pk_nil))) (pv 7) (nomark _))) (pw_or1 (pt_not (pt_cmpR (op_eq_opn o_eq1 hr (by omega)) (pe_mt mm_marked3 hr (by omega) (pv 3) (pa_cons (pv 7) pa_nil)) (pv 7) (nomark _))))))) (pss_one (ps_ret pe_bl)) (pss_nil))
 (pss_cons (ps_if (pt_cmpR op_ne (pe_callB (call_repr_data hg hr.units) (by rfl) B.repr bt_repr (pa_cons (pe_lst (pa_cons (pe_fld (pv 7) rfl) (pa_cons (pe_fld (pv 7) rfl) pa_nil))) pa_nil)) (pe_callB (call_repr_data hg hr.units) (by rfl) B.repr bt_repr (pa_cons (pe_lst (pa_cons (pe_dget (by exact hu_of hr) (pv 6) pe_str (fun _ _ => rfl)) (pa_cons (pe_callTy call_tuple_of (by rfl) B.tuple bt_tuple (pa_cons (pe_dget (by exact hu_of hr) (pv 6) pe_str (fun _ _ => rfl)) pa_nil)) pa_nil))) pa_nil)) (nomark _)) (pss_one (ps_ret pe_bl)) (pss_nil))
 (pss_cons (ps_if (pt_cmpR (op_neD hr.units) (pe_c c_law_as_told hr (by omega) (by rfl) (pa_cons (pv 3) (pa_cons (pv 1) (pa_cons (pv 7) (pa_cons (pv 6) pa_nil))))) (pe_callTy (cr_listDk rfl) (by rfl) B.list bt_list (pa_cons (pv 1) pa_nil)) (nomark _)) (pss_one (ps_ret pe_bl)) (pss_nil))
 (pss_cons (ps_for PassesOwn.never rfl (pi_range1 (by rfl) B.range (pa_cons pe_int pa_nil)) (pg_name (i := 9) sc_law_right.nd rfl (Or.inl rfl)) (pss_cons (ps_set (i := 10) sc_law_right.nd rfl (Or.inl rfl) (pe_c c_law_moved hr (by omega) (by rfl) (pa_cons (pv 0) (pa_cons (pv 6) (pa_cons (pe_callTy (cr_listDk rfl) (by rfl) B.list bt_list (pa_cons (pv 1) pa_nil)) pa_nil)))))
 (pss_one (ps_if (PW.pt (pw_and (pt_cmpR (op_ne_d2 hr.in1.units) (pv 10) (pv 6) (nomark _)) (pw_and1 (pt_cmpR (op_eqD hr.units) (pe_c c_law_as_told hr (by omega) (by rfl) (pa_cons (pv 3) (pa_cons (pv 1) (pa_cons (pe_c c_law_net hr (by omega) (by rfl) (pa_cons (pv 10) pa_nil)) (pa_cons (pv 10) pa_nil))))) (pe_callTy (cr_listDk rfl) (by rfl) B.list bt_list (pa_cons (pv 1) pa_nil)) (nomark _))))) (pss_one (ps_ret pe_bl)) (pss_nil)))))
 (pss_cons (ps_setLc (i := 11) (own := [("_law_mark", 2)]) (by rfl) sc_law_right.nd rfl rfl (sw_true rfl rfl rfl (by decide +kernel)) (pi_list (pe_callB cr_sortedS (by rfl) B.sorted bt_sorted (pa_cons (pe_callTy (cr_listDk rfl) (by rfl) B.list bt_list (pa_cons (pv 1) pa_nil)) pa_nil))) (blkOk_by (own := [("_law_mark", 2)]) (N := ["_law_deck_here", "_law_forms", "_law_mark", "_law_code", "_law_world", "_law_net_here", "_law_due", "_law_told", "_law_kept", "_law_go", "_law_odd", "_law_rows", "_law_form"]) (sc := defScope s_law_right) (by decide +kernel)) (fun _ _ _ _ _ => (pg_name (i := 2) sc_law_right.nd rfl (Or.inl rfl))) (fun _ _ _ _ _ => pts_nil) (fun _ _ _ _ _ => (pe_tup (pa_cons (pv 2) (pa_cons (pe_c c_law_row hr (by omega) (by rfl) (pa_cons (pe_dget (by exact hu_of hr) (pv 1) (pv 2) (fun _ _ => rfl)) pa_nil)) pa_nil)))))
 (pss_one (ps_ret (pe_and (pe_cmpR op_eq (pe_callB (call_repr_data hg hr.units) (by rfl) B.repr bt_repr (pa_cons (pe_lst (pa_cons (pe_fld (pv 5) rfl) (pa_cons (pe_fld (pv 5) rfl) pa_nil))) pa_nil)) (pe_callB (call_repr_data hg hr.units) (by rfl) B.repr bt_repr (pa_cons (pv 8) pa_nil)) (nomark _)) (pe_one (pe_cmpR (op_eqD hr.units) (pe_lc (own := [("_law_mark", 2), ("_law_form", 12)]) (by rfl) sc_law_right.nd (pi_tup (pe_fld (pv 3) rfl)) (blkOk_by (own := [("_law_mark", 2), ("_law_form", 12)]) (N := ["_law_deck_here", "_law_forms", "_law_mark", "_law_code", "_law_world", "_law_net_here", "_law_due", "_law_told", "_law_kept", "_law_go", "_law_odd", "_law_rows", "_law_form"]) (sc := defScope s_law_right) (by decide +kernel)) (fun _ _ _ _ _ => (pg_tupK (K := K) rfl (n := 2) rfl (pgs_cons (pg_name (i := 2) sc_law_right.nd rfl (Or.inl rfl)) (pgs_cons (pg_name (i := 12) sc_law_right.nd rfl (Or.inl rfl)) pgs_nil)))) (fun _ _ _ _ _ => pts_nil) (fun _ _ _ _ _ => (pe_tup (pa_cons (pv 2) (pa_cons (pe_callTy (call_str_opn o_str hr (by omega)) (by rfl) B.str bt_str (pa_cons (pv 12) pa_nil)) pa_nil))))) (pv 11) (nomark _)))))))))))))), ?_⟩
  rintro ds W post ⟨a, q, c, rs, Wd, rfl, rfl, hd, hr, hh, hc, z⟩
  try dsimp only [cxOf, Cx.nox, Cx.wish]
  have h16 := sizeLine_eq
  have hf := hr.few
  have hnd := rkeys_nd hr
  have easc : ascN (rs.map (·.1)) = rs.map (·.1) := ascN_ext (asc_ascN _) hr.asc fun x => mem_ascN
  have ek : (frmD rs).map (fun p => kD p.1) = (rs.map fun x => sg x.1).map D.str := by
    unfold frmD tabL
    rw [List.map_map, List.map_map]
    rfl
  walk_at "st"
  refine ev_mkRu ?_
  walk_at "st"
  refine ev_lcM (ei_list ?_)
  walk_at "st"
  refine ca_listDk (ps := frmD rs) (.inr ⟨q, rfl, List.mem_cons_self⟩) ?_
  refine ea_nil (ca_sortedSL (ns := rs.map (·.1)) (.inl (.inl (congrArg D.lst (by unfold frmD tabL; rw [List.map_map, List.map_map]; rfl)))) hnd (by rw [List.length_map]; omega) ?_)
  rw [easc]
  walk_at "st"
  refine ⟨rs.map fun p => .tup [.str (sg p.1), .fm p.2], fun i d e hd he => ?_, by simp, by rw [List.length_map]; omega, ?_⟩
  · rw [List.map_map, List.getElem?_map] at hd
    obtain ⟨p, hp, rfl⟩ := Option.map_eq_some_iff.mp hd
    rw [List.getElem?_map, hp] at he
    obtain rfl := Option.some.inj he
    have hm := List.mem_of_getElem? hp
    refine tw_name (by simp) ?_
    walk_at "st"
    refine ⟨rfl, ?_⟩
    walk_at "st"
    refine ⟨_, Sum.inr (sg p.1), _, .inr ⟨q, rfl, List.mem_cons_self⟩, rfl, getG_tabL (x := p.2) hnd hm, ?_⟩
    walk_at "st"
    refine hand0 ⟨p.2, rfl, rfl, hh p hm, (hr.form p hm), ?_⟩
    try simp only [List.nil_append]
    try walk_at "st"
    exact ⟨rfl, rfl⟩
  refine ea_nil (ca_tup (.inl (.inl rfl)) ?_)
  walk_at "st"
  have eR : rsOf (rs.map fun p => (p.1, D.fm p.2, p.2)) = rs := by
    unfold rsOf
    rw [List.map_map]
    exact List.map_id _
  refine ⟨rs.map fun p => (p.1, D.fm p.2, p.2), ?_, fun e he => ?_, eR.symm ▸ hr, ?_⟩
  · show [D.tup _] = [D.tup (List.map _ (List.map _ _))]
    rw [List.map_map]
    rfl
  · obtain ⟨p, hp, rfl⟩ := List.mem_map.mp he
    exact .inl rfl
  rw [eR]
  walk_at "st"
  refine ⟨Wd, [(q, _)], List.perm_append_comm (l₁ := [_]), a, c, "ABMPQRZab", 9, rfl, hd, by omega, by omega, by unfold letters; decide +kernel, by decide +kernel, by decide +kernel, by omega, fun w W1 hw hwn hwp hd1 => ?_⟩
  have hmw := rul_ok hr hw
  walk_at "st"
  refine hand0 ⟨w, rfl, rfl, hw, ?_⟩
  try simp only [List.nil_append]
  try walk_at "st"
  refine ⟨[(q, _)], W1, List.perm_append_comm, q, w, rs, rfl, rfl, hw, hr, hh, ?_⟩
  walk_at "st"
  refine hand0 ⟨rs, w, rfl, rfl, hr, hw, ?_⟩
  try simp only [List.nil_append]
  try walk_at "st"
  refine hand0 ⟨w.rul rs, rfl, rfl, hmw, ?_⟩
  try simp only [List.nil_append]
  try walk_at "st"
  refine bo_eqO (inst_wb _) (inst_wb _) ?_
  refine hand0 ⟨w.rul rs, rfl, rfl, hmw, ⟨true, rfl⟩, ?_⟩
  refine ⟨_, rfl, ?_⟩
  refine if_not rfl ?_
  walk_at "st"
  refine ev_mtk ?_
  walk_at "st"
  refine ⟨rfl, [rlD rs, w.d], fun H x zs hx hz => ⟨x, zs, rfl, hx, hz⟩, ?_⟩
  refine hand0 ⟨rs, w, rfl, rfl, hr, hw, ?_⟩
  try simp only [List.nil_append]
  try walk_at "st"
  refine bo_eqO (inst_wb _) (inst_wb _) ?_
  refine hand0 ⟨w.rul rs, rfl, rfl, hmw, ⟨true, rfl⟩, ?_⟩
  refine ⟨_, rfl, ?_⟩
  refine if_not rfl ?_
  walk_at "st"
  refine hand0 ⟨rs, w.rul rs, rfl, rfl, hr, hmw, ?_⟩
  try simp only [List.nil_append]
  try walk_at "st"
  rw [rul_rul hw hr]
  refine bo_eqO (inst_wb _) (inst_wb _) ?_
  refine hand0 ⟨w.rul rs, rfl, rfl, hmw, ⟨true, rfl⟩, ?_⟩
  refine ⟨_, rfl, ?_⟩
  refine if_not rfl ?_
  refine sw_next ?_
  walk_at "st"
  rw [show rowsD (w.rul rs).below = rowsD w.below from by rw [rul_below]]
  obtain ⟨u0, hu0⟩ : ∃ u0 : Wb, u0 = ⟨w.below, (w.rul rs).atoms⟩ := ⟨_, rfl⟩
  have eu0 : u0 = w.rul rs := hu0 ▸ wb_ext (rul_below rs w).symm rfl
  have hu0k : u0.ok := eu0 ▸ hmw
  rw [show (D.lst [rowsD w.below, atomsD (w.rul rs).atoms]) = D.lst [rowsD u0.below, atomsD u0.atoms] from by rw [hu0]]
  refine ca_repr (.inl (web_pd u0)) (web_shw hu0k) ?_
  walk_at "st"
  refine ca_tup (.inl (.inl rfl)) ?_
  walk_at "st"
  rw [show rowsD (w.rul rs).below = rowsD w.below from by rw [rul_below]]
  rw [show (D.lst [rowsD w.below, atomsD (w.rul rs).atoms]) = D.lst [rowsD u0.below, atomsD u0.atoms] from by rw [hu0]]
  refine ca_repr (.inl (web_pd u0)) (web_shw hu0k) ?_
  generalize (webP u0).shown = S
  refine bo_neS ⟨_, rfl, ?_⟩
  refine if_not neself ?_
  refine sw_next ?_
  clear S
  walk_at "st"
  refine ⟨[(q, _)], W1, List.Perm.refl _, q, w.rul rs, rs, rfl, rfl, hmw, hr, ?_⟩
  rw [told_all.mpr fun x hx => rul_pts hw hr hx]
  walk_at "st"
  refine ca_listDk (ps := frmD rs) (.inr ⟨q, rfl, List.mem_cons_self⟩) ?_
  rw [ek, show (rs.map fun x => D.str (sg x.1)) = (rs.map fun x => sg x.1).map D.str from by rw [List.map_map]; rfl]
  refine bo_neD (.inl (pd_lst (pdL_strs _))) (.inl (pd_lst (pdL_strs _))) (shaped_strs (sg_letters hr)) (shaped_strs (sg_letters hr)) ?_
  rw [eqv_strsR (sg_letters hr)]
  refine ⟨_, rfl, ?_⟩
  refine if_not rfl ?_
  refine sw_next ?_
  refine sw_seq (sw_for (ei_rng1 ?_))
  walk_at "st"
  have es : (rs.map fun x => D.str (sg x.1)) = (rs.map fun x => sg x.1).map D.str := by rw [List.map_map]; rfl
  have ek2 : (frmD rs).map (fun p => kD p.1) = (rs.map (·.1)).map fun c => D.str (sg c) := by rw [ek, List.map_map, List.map_map]; rfl
  refine ⟨by omega, by omega, fun i G' W' => ∃ Wd2, DkB a (c + 10000 + 200 * (i : Nat)) Wd2 ∧ W'.Perm ((q, .dp (frmD rs)) :: Wd2) ∧ ∃ o9 o10, G' = [some (.adr a), some (.adr q), none, some (rlD rs), some (webD w), some w.d, some (webD (w.rul rs)), some (w.rul rs).d, some (.lst [rowsD w.below, atomsD w.atoms]), o9, o10, none, none], ⟨W1, DkB_mono hd1 (by omega), List.Perm.refl _, _, _, rfl⟩, ?_, ?_⟩
  · rintro i d G' W' hdd ⟨Wd2, hdk, hpm, o9, o10, rfl⟩
    have hi : i < 3 := (rng_get hdd).1
    refine tg_name ?_
    refine sw_perm hpm ?_
    walk_at "st"
    refine ca_listDk (ps := frmD rs) (.inr ⟨q, rfl, List.mem_cons_self⟩) ?_
    rw [ek2]
    refine ea_nil ?_
    refine ⟨Wd2, [(q, _)], List.perm_append_comm (l₁ := [_]), a, _, w.rul rs, rs, rfl, hdk, hmw, hr, by omega, fun u W3 hu hub hus hd3 => ?_⟩
    walk_at "st"
    have hus1 : ∀ s ∈ u.atoms, letters s := fun s h => (hu.lets s h).1
    have hws1 : ∀ s ∈ (w.rul rs).atoms, letters s := fun s h => (hmw.lets s h).1
    refine bo_neD2 (by decide +kernel) (pd_rows _) (pd_lst (pdL_strs _)) (pd_rows _) (pd_lst (pdL_strs _)) (shaped_rows hu.rows) (shaped_strs hus1) (shaped_rows hmw.rows) (shaped_strs hws1) ?_
    rw [hub, eqv_rows hmw.rows, eqv_strs, Bool.true_and]
    refine ⟨_, rfl, ?_⟩
    by_cases e : u.atoms = (w.rul rs).atoms
    · refine if_not (by simp [e]) ?_
      refine sw_next ?_
      exact ⟨W3, DkB_mono hd3 (by push_cast; omega), List.perm_append_comm, _, _, rfl⟩
    · refine if_so (by simp [e]) ?_
      walk_at "st"
      refine hand0 ⟨u, rfl, rfl, hu, ?_⟩
      try simp only [List.nil_append]
      try walk_at "st"
      refine ⟨[(q, _)], W3, List.perm_append_comm, q, u, rs, rfl, rfl, hu, hr, ?_⟩
      walk_at "st"
      refine ca_listDk (ps := frmD rs) (.inr ⟨q, rfl, List.mem_cons_self⟩) ?_
      rw [ek, show ((toldL u rs).map fun x => D.str (sg x.1)) = ((toldL u rs).map fun x => sg x.1).map D.str from by rw [List.map_map]; rfl]
      have htl : ∀ s ∈ (toldL u rs).map (fun x => sg x.1), letters s := fun s hs => by
        obtain ⟨x, hx, rfl⟩ := List.mem_map.mp hs
        exact sg_letters hr _ (List.mem_map.mpr ⟨x, (List.mem_filter.mp hx).1, rfl⟩)
      refine bo_eqD (.inl (pd_lst (pdL_strs _))) (.inl (pd_lst (pdL_strs _))) (shaped_strs htl) (shaped_strs (sg_letters hr)) ?_
      rw [eqv_strs]
      refine ⟨_, rfl, ?_⟩
      refine if_not (decide_eq_false fun h => e ?_) ?_
      · exact congrArg Wb.atoms (rul_uniq hw hr hu (hub.trans (rul_below rs w)) (hus.trans (rul_strip hw hr)) (told_all.mp (told_len h)))
      refine sw_next ?_
      exact ⟨W3, DkB_mono hd3 (by push_cast; omega), List.Perm.refl _, _, _, rfl⟩
  rintro G' W' ⟨Wd2, hdk, hpm, o9, o10, rfl⟩
  rw [rng_len] at hdk
  repeat refine sw_next ?_
  refine sw_perm hpm ?_
  walk_at "st"
  refine ev_lcM (ei_list ?_)
  walk_at "st"
  refine ca_listDk (ps := frmD rs) (.inr ⟨q, rfl, List.mem_cons_self⟩) ?_
  refine ea_nil (ca_sortedSL (ns := rs.map (·.1)) (.inl (.inl (congrArg D.lst ek2))) hnd (by rw [List.length_map]; omega) ?_)
  rw [easc]
  refine ⟨_, rfl, rs.map fun x => .tup [.str (sg x.1), .str x.2.spell], fun i d e hd he => ?_, by simp, by rw [List.length_map]; omega, ?_⟩
  · rw [List.map_map, List.getElem?_map] at hd
    obtain ⟨p, hp, rfl⟩ := Option.map_eq_some_iff.mp hd
    rw [List.getElem?_map, hp] at he
    obtain rfl := Option.some.inj he
    have hm := List.mem_of_getElem? hp
    refine tw_name (by simp) ?_
    walk_at "st"
    refine ⟨rfl, ?_⟩
    walk_at "st"
    refine ⟨_, Sum.inr (sg p.1), _, .inr ⟨q, rfl, List.mem_cons_self⟩, rfl, getG_tabL (x := p.2) hnd hm, ?_⟩
    walk_at "st"
    refine hand0 ⟨p.2, rfl, rfl, hh p hm, (hr.form p hm).sz, ?_⟩
    try simp only [List.nil_append]
    try walk_at "st"
    exact ⟨rfl, rfl⟩
  refine sw_ret (ev_drp ?_)
  walk_at "st"
  refine ca_repr (.inl (web_pd w)) (web_shw hw) ?_
  walk_at "st"
  refine ca_repr (.inl (web_pd w)) (web_shw hw) ?_
  generalize (webP w).shown = S
  refine bo_eqS ?_
  rw [eqself]
  refine ⟨_, rfl, ?_⟩
  refine if_so rfl ?_
  clear S
  walk_at "st"
  refine ev_lcM (ei_tup (ev_flR Z.z3 (ev_var rfl ?_)))
  refine ⟨rs, rfl, .inl ⟨rfl, ?_⟩⟩
  refine ⟨_, rfl, rs.map fun x => .tup [.str (sg x.1), .str x.2.spell], fun i d e hd he => ?_, by simp, by rw [List.length_map]; omega, ?_⟩
  · rw [List.getElem?_map] at hd
    obtain ⟨p, hp, rfl⟩ := Option.map_eq_some_iff.mp hd
    rw [List.getElem?_map, hp] at he
    obtain rfl := Option.some.inj he
    refine tw_tup rfl (tws_cons (tw_name (by simp) (tws_cons (tw_name (by simp) (tws_nil ?_)))))
    walk_at "st"
    refine ⟨rfl, ?_⟩
    walk_at "st"
    refine hand0 ⟨p.2, rfl, rfl, ⟨_, rfl⟩, ?_⟩
    try simp only [List.nil_append]
    try walk_at "st"
    exact ⟨rfl, rfl⟩
  walk_at "st"
  refine bo_eqD (.inl (rows_pd19 rs)) (.inl (rows_pd19 rs)) (rows_shaped19 hr) (rows_shaped19 hr) ?_
  rw [SeqAt.eqv_refl _ (SeqAt.canLay_of_shaped (rows_shaped19 hr))]
  exact ⟨Wd2, List.sublist_cons_self _ _, z _ (DkB_mono hdk (by omega))⟩
abbrev s_law : Stmt := top 91
theorem sc_law : FnScope ["_law_script", "_law_deck_here", "_law_go"] ["_law_script"] (defScope s_law) := ⟨rfl, rfl, rfl, by decide +kernel, rfl, by decide +kernel, by decide +kernel⟩
theorem c_law {P : Program} {w : World} {K : PySem.W.Frag} {mg : Str → Option Value} {base : Heap} {cl : Nat → Addr} {f : Addr} {fd : FuncData} (hm : mg "law" = some (.ref f)) (B : Blt mg) (Z : ZZ K w mg cl) (Fn : Fun K "law" "law" s_law f fd)
    (c_law_deck : Cal P w K mg base 1 "_law_deck" (spN FK ⟨K, cl⟩ (S_deck DkB)) [])
    (c_law_given : Cal P w K mg base 63 "_law_given" (spN FK ⟨K, cl⟩ (S_given19 DkB)) [])
    (c_law_right : CalG P w K mg base 81 "_law_right" (spN FK ⟨K, cl⟩ (S_right19 DkB)))
    (c_law_great_right : Cal P w K mg base 81 "_law_great_right" (spN FK ⟨K, cl⟩ (S_great19 DkB)) []) : CalG P w K mg base 82 "law" (spN FK ⟨K, cl⟩ S_law) := by
  have fz := Z.z0
  have gz := Z.z1
  refine calG hm Fn sc_law (by intro ds W post h; first | (obtain ⟨rfl, _⟩ := h; rfl) | (obtain ⟨_, rfl, _⟩ := h; rfl) | (obtain ⟨_, _, rfl, _⟩ := h; rfl) | (obtain ⟨_, _, _, rfl, _⟩ := h; rfl) | (obtain ⟨_, _, _, _, rfl, _⟩ := h; rfl) | (obtain ⟨_, _, _, _, _, rfl, _⟩ := h; rfl) | (obtain ⟨_, _, _, _, _, _, rfl, _⟩ := h; rfl) | (obtain ⟨_, _, _, _, _, _, _, rfl, _⟩ := h; rfl) | (obtain ⟨_, _, _, _, _, _, _, _, rfl, _⟩ := h; rfl) | (obtain ⟨_, _, _, _, _, _, _, _, _, rfl, _⟩ := h; rfl) | (obtain ⟨_, _, _, _, _, _, _, _, _, _, rfl, _⟩ := h; rfl) | (obtain ⟨_, _, _, _, _, _, _, _, _, _, _, rfl, _⟩ := h; rfl)) (fun _ _ _ _ _ _ us hl => match us, hl with | [_], _ => rfl) fun cdv A outer s H hg hr => ⟨_, pss_cons (ps_set (i := 1) sc_law.nd rfl (Or.inl rfl) (pe_c c_law_deck hr (by omega) (by rfl) (pa_cons (pv 0) pa_nil)))
 (pss_cons (ps_for PassesOwn.never rfl (pi_range1 (by rfl) B.range (pa_cons pe_int pa_nil)) (pg_name (i := 2) sc_law.nd rfl (Or.inl rfl)) (pss_one (ps_if (pt_not (pt_val (pe_cg c_law_right hg hr (by omega) (by rfl) (pa_cons (pv 1) (pa_cons (pe_c c_law_given hr (by omega) (by rfl) (pa_cons (pv 1) pa_nil)) pa_nil))))) (pss_one (ps_ret pe_bl)) (pss_nil))))
 (pss_one (ps_ret (pe_c c_law_great_right hr (by omega) (by rfl) (pa_cons (pv 1) (pa_cons (pe_c c_law_given hr (by omega) (by rfl) (pa_cons (pv 1) pa_nil)) pa_nil)))))), ?_⟩
  rintro ds W post ⟨ns, rfl, rfl, hl, k⟩
  try dsimp only [cxOf, Cx.nox, Cx.wish]
  have h16 := sizeLine_eq
  walk_at "st"
  refine handA ⟨ns, rfl, rfl, hl, fun a W hd => ?_⟩
  try walk_at "st"
  refine sw_seq (sw_for (ei_rng1 ?_))
  walk_at "st"
  refine ⟨by omega, by omega, fun i G W => DkB a (30000 * (i : Nat)) W ∧ ∃ o2, G = [some (.scr (ns.map V.int)), some (.adr a), o2], ⟨DkB_mono hd (by omega), _, rfl⟩, ?_, ?_⟩
  · rintro i0 d G' W' hdd ⟨hd, o2, rfl⟩
    have hi : i0 < 5 := (rng_get hdd).1
    refine tg_name ?_
    walk_at "st"
    refine handA ⟨a, _, rfl, hd, by omega, fun q rs W1 hr hh hd1 => ?_⟩
    try walk_at "st"
    refine handA ⟨a, q, _, rs, W1, rfl, rfl, hd1, hr, hh, by omega, fun W2 hd2 => ?_⟩
    try walk_at "st"
    exact ⟨DkB_mono hd2 (by push_cast; omega), _, rfl⟩
  rintro G' W' ⟨hd, o2, rfl⟩
  rw [rng_len] at hd
  repeat refine sw_next ?_
  walk_at "st"
  refine handA ⟨a, _, rfl, hd, by omega, fun q rs W1 hr hh hd1 => ?_⟩
  try walk_at "st"
  refine handA ⟨a, q, _, rs, W1, rfl, rfl, hd1, hr, hh, by omega, fun W2 hd2 => ?_⟩
  try walk_at "st"
  exact k _
end
end N
set_option Elab.async false
set_option linter.all false
set_option maxRecDepth 100000
namespace N
open PySem PySem.Spec PyProof.Rows L2
open C8 (Cal Met Mak InsC)
set_option maxHeartbeats 4000000
theorem all_mk {P : Program} {w : World} {K : PySem.W.Frag} {h base : Heap} {mg : Str → Option Value} {fa : Addr} (X : K.In h) (G : h.Ns mainGlobals mg) (hfa : mg "law" = some (.ref fa)) (hw : w = w)
    {C0 : Addr} {C1 : Addr} {C3 : Addr}
    {t0 : PySem.Tok}
    {t1 : PySem.Tok}
    {t2 : PySem.Tok}
    {t3 : PySem.Tok}
    {t4 : PySem.Tok}
    {dd5 : Addr} {es5 : Array DictEntry} {en5 : Nat} {u5_0 : PySem.Tok} {u5_1 : PySem.Tok} {u5_2 : PySem.Tok} {u5_3 : PySem.Tok}
    {t6 : PySem.Tok}
    {t7 : PySem.Tok}
    {t8 : PySem.Tok}
    {t9 : PySem.Tok}
    {t10 : PySem.Tok}
    {t11 : PySem.Tok}
    {t12 : PySem.Tok}
    {t13 : PySem.Tok}
    {t14 : PySem.Tok}
    {t15 : PySem.Tok}
    {t16 : PySem.Tok}
    {t17 : PySem.Tok}
    {t18 : PySem.Tok}
    {f1 : Addr} {fd1 : FuncData}
    {f2 : Addr} {fd2 : FuncData}
    {f3 : Addr} {fd3 : FuncData}
    {f4 : Addr} {fd4 : FuncData}
    {f5 : Addr} {fd5 : FuncData}
    {f6 : Addr} {fd6 : FuncData}
    {f7 : Addr} {fd7 : FuncData}
    {f8 : Addr} {fd8 : FuncData}
    {f9 : Addr} {fd9 : FuncData}
    {f10 : Addr} {fd10 : FuncData}
    {f11 : Addr} {fd11 : FuncData}
    {f12 : Addr} {fd12 : FuncData}
    {f13 : Addr} {fd13 : FuncData}
    {f14 : Addr} {fd14 : FuncData}
    {f15 : Addr} {fd15 : FuncData}
    {f16 : Addr} {fd16 : FuncData}
    {f17 : Addr} {fd17 : FuncData}
    {f18 : Addr} {fd18 : FuncData}
    {f19 : Addr} {fd19 : FuncData}
    {f20 : Addr} {fd20 : FuncData}
    {f21 : Addr} {fd21 : FuncData}
    {f22 : Addr} {fd22 : FuncData}
    {f23 : Addr} {fd23 : FuncData}
    {f24 : Addr} {fd24 : FuncData}
    {f25 : Addr} {fd25 : FuncData}
    {f26 : Addr} {fd26 : FuncData}
    {f27 : Addr} {fd27 : FuncData}
    {f28 : Addr} {fd28 : FuncData}
    {f29 : Addr} {fd29 : FuncData}
    {f30 : Addr} {fd30 : FuncData}
    {pA31 : Addr} {pR31 : List Value}
    {f31 : Addr} {fd31 : FuncData}
    {f32 : Addr} {fd32 : FuncData}
    {f33 : Addr} {fd33 : FuncData}
    {f34 : Addr} {fd34 : FuncData}
    {f35 : Addr} {fd35 : FuncData}
    {f36 : Addr} {fd36 : FuncData}
    {f37 : Addr} {fd37 : FuncData}
    {f38 : Addr} {fd38 : FuncData}
    {f39 : Addr} {fd39 : FuncData}
    {f40 : Addr} {fd40 : FuncData}
    {f41 : Addr} {fd41 : FuncData}
    {f42 : Addr} {fd42 : FuncData}
    {f43 : Addr} {fd43 : FuncData}
    {f44 : Addr} {fd44 : FuncData}
    {f45 : Addr} {fd45 : FuncData}
    {f46 : Addr} {fd46 : FuncData}
    {f47 : Addr} {fd47 : FuncData}
    {f48 : Addr} {fd48 : FuncData}
    {f49 : Addr} {fd49 : FuncData}
    {f50 : Addr} {fd50 : FuncData}
    {f51 : Addr} {fd51 : FuncData}
    {f52 : Addr} {fd52 : FuncData}
    {f53 : Addr} {fd53 : FuncData}
    (z0 : PySem.W.nsIn K mainGlobals "len" = some none)
    (z1 : PySem.W.nsIn K mainGlobals "int" = some none)
    (z2 : PySem.W.nsIn K mainGlobals "str" = some none)
    (z3 : PySem.W.nsIn K mainGlobals "range" = some none)
    (z4 : PySem.W.nsIn K mainGlobals "list" = some none)
    (z5 : PySem.W.nsIn K mainGlobals "tuple" = some none)
    (z6 : PySem.W.nsIn K mainGlobals "dict" = some none)
    (z7 : PySem.W.nsIn K mainGlobals "set" = some none)
    (z8 : PySem.W.nsIn K mainGlobals "sorted" = some none)
    (z9 : PySem.W.nsIn K mainGlobals "isinstance" = some none)
    (z10 : PySem.W.nsIn K mainGlobals "repr" = some none)
    (z11 : PySem.W.nsIn K mainGlobals "max" = some none)
    (z12 : PySem.W.nsIn K mainGlobals "min" = some none)
    (z13 : PySem.W.nsIn K mainGlobals "sum" = some none)
    (z14 : PySem.W.nsIn K mainGlobals "all" = some none)
    (z15 : PySem.W.nsIn K mainGlobals "any" = some none)
    (z16 : PySem.W.nsIn K mainGlobals "zip" = some none)
    (z17 : PySem.W.nsIn K mainGlobals "enumerate" = some none)
    (z18 : PySem.W.nsIn K mainGlobals "bool" = some none)
    (z19 : PySem.W.nsIn K mainGlobals "reversed" = some none)
    (z20 : PySem.W.nsIn K mainGlobals "type" = some none)
    (s0 : PySem.W.nsIn K mainGlobals "LETTERS" = some (some (.str "ABCDEFGHIJKLMNOPQRSTUVWXYZabcdefghijklmnopqrstuvwxyz" t0)))
    (s1 : PySem.W.nsIn K mainGlobals "ATOM" = some (some (.str "atom" t1)))
    (s2 : PySem.W.nsIn K mainGlobals "NO" = some (some (.str "no" t2)))
    (s3 : PySem.W.nsIn K mainGlobals "IF_formulas" = some (some (.str "if" t3)))
    (s4 : PySem.W.nsIn K mainGlobals "ALL_formulas" = some (some (.str "all" t4)))
    (aP5 : PySem.W.nsIn K mainGlobals "PARTS_OF" = some (some (.ref dd5)))
    (lP5 : K.lookup dd5 = some ⟨.type "dict", none, .dict es5 en5, #[]⟩)
    (lit5 : PySem.W.KeysLit w.params es5.toList)
    (low5 : (dd5 == sysModules) = false)
    (p5_0 : PySem.W.nsIn K dd5 "atom" = some (some (.int 1 u5_0)))
    (p5_1 : PySem.W.nsIn K dd5 "no" = some (some (.int 0 u5_1)))
    (p5_2 : PySem.W.nsIn K dd5 "if" = some (some (.int 2 u5_2)))
    (p5_3 : PySem.W.nsIn K dd5 "all" = some (some (.int 1 u5_3)))
    (s6 : PySem.W.nsIn K mainGlobals "ALL_AHEAD" = some (some (.str "all " t6)))
    (s7 : PySem.W.nsIn K mainGlobals "BETWEEN" = some (some (.str " > " t7)))
    (s8 : PySem.W.nsIn K mainGlobals "ALL_circles" = some (some (.str "all" t8)))
    (s9 : PySem.W.nsIn K mainGlobals "IF_circles" = some (some (.str "if" t9)))
    (s10 : PySem.W.nsIn K mainGlobals "MOST_MARKS" = some (some (.int 4 t10)))
    (s11 : PySem.W.nsIn K mainGlobals "PAIR_PARTS" = some (some (.int 2 t11)))
    (s12 : PySem.W.nsIn K mainGlobals "CAPITALS" = some (some (.str "ABCDEFGHIJKLMNOPQRSTUVWXYZ" t12)))
    (s13 : PySem.W.nsIn K mainGlobals "ROWS" = some (some (.str "rows" t13)))
    (s14 : PySem.W.nsIn K mainGlobals "ORDER" = some (some (.str "order" t14)))
    (s15 : PySem.W.nsIn K mainGlobals "DIGITS" = some (some (.str "0123456789" t15)))
    (s16 : PySem.W.nsIn K mainGlobals "BARE" = some (some (.str "-" t16)))
    (s17 : PySem.W.nsIn K mainGlobals "BLANK" = some (some (.str " " t17)))
    (s18 : PySem.W.nsIn K mainGlobals "BREAK" = some (some (.str "\n" t18)))
    (aC0 : PySem.W.nsIn K mainGlobals "Formula" = some (some (.ref C0)))
    (pg0 : PySem.W.plainGet K C0 Str.empty = true)
    (hd0 : PySem.W.hasDictIn K C0 = true)
    (po0 : PySem.W.plainOver K C0 = true)
    (sa0 : PySem.W.findIn K (.ref C0) "__setattr__" = some (some (.builtin "object.__setattr__")))
    (mk0 : PySem.W.makesIn K C0 = true)
    (kc0 : PySem.W.keepIn K (.ref C0) = true)
    (n0_0 : PySem.W.findIn K (.ref C0) "kind" = some none)
    (n0_1 : PySem.W.findIn K (.ref C0) "parts" = some none)
    (n0_2 : PySem.W.findIn K (.ref C0) "many" = some none)
    (n0_3 : PySem.W.findIn K (.ref C0) "deepest" = some none)
    (n0_4 : PySem.W.findIn K (.ref C0) "atoms" = some none)
    (n0_5 : PySem.W.findIn K (.ref C0) "bare" = some none)
    (n0_6 : PySem.W.findIn K (.ref C0) "spelled" = some none)
    (n0_7 : PySem.W.findIn K (.ref C0) "alls_known" = some none)
    (ha0 : PySem.W.findIn K (.ref C0) "__class__" = some (some (.builtin "object.__class__")))
    (hn0 : PySem.W.specialIn K (.builtin "object.__class__") "__get__" = some (some (.builtin "getset_descriptor.__get__")))
    (htk0 : PySem.W.takesIn K (.builtin "object.__class__") = some true)
    (hmo0 : PySem.W.mroIn K C0 (.type "object") = some true)
    (me0 : PySem.W.kitOne K (.ref C0) (.ref C0) = some true)
    (sf0 : PySem.W.selfFirst K C0 = true)
    (is0 : PySem.W.kitOne K (.type "str") (.ref C0) = some false)
    (aC1 : PySem.W.nsIn K mainGlobals "Web" = some (some (.ref C1)))
    (pg1 : PySem.W.plainGet K C1 Str.empty = true)
    (hd1 : PySem.W.hasDictIn K C1 = true)
    (po1 : PySem.W.plainOver K C1 = true)
    (sa1 : PySem.W.findIn K (.ref C1) "__setattr__" = some (some (.builtin "object.__setattr__")))
    (mk1 : PySem.W.makesIn K C1 = true)
    (kc1 : PySem.W.keepIn K (.ref C1) = true)
    (n1_0 : PySem.W.findIn K (.ref C1) "below" = some none)
    (n1_1 : PySem.W.findIn K (.ref C1) "atoms" = some none)
    (n1_2 : PySem.W.findIn K (.ref C1) "all_beneath" = some none)
    (n1_3 : PySem.W.findIn K (.ref C1) "all_heights" = some none)
    (ha1 : PySem.W.findIn K (.ref C1) "__class__" = some (some (.builtin "object.__class__")))
    (hn1 : PySem.W.specialIn K (.builtin "object.__class__") "__get__" = some (some (.builtin "getset_descriptor.__get__")))
    (htk1 : PySem.W.takesIn K (.builtin "object.__class__") = some true)
    (hmo1 : PySem.W.mroIn K C1 (.type "object") = some true)
    (me1 : PySem.W.kitOne K (.ref C1) (.ref C1) = some true)
    (sf1 : PySem.W.selfFirst K C1 = true)
    (is1 : PySem.W.kitOne K (.type "str") (.ref C1) = some false)
    (ne1 : PySem.W.findIn K (.ref C1) "__ne__" = some (some (.builtin "object.__ne__")))
    (aC3 : PySem.W.nsIn K mainGlobals "Rules" = some (some (.ref C3)))
    (pg3 : PySem.W.plainGet K C3 Str.empty = true)
    (hd3 : PySem.W.hasDictIn K C3 = true)
    (po3 : PySem.W.plainOver K C3 = true)
    (sa3 : PySem.W.findIn K (.ref C3) "__setattr__" = some (some (.builtin "object.__setattr__")))
    (mk3 : PySem.W.makesIn K C3 = true)
    (kc3 : PySem.W.keepIn K (.ref C3) = true)
    (n3_0 : PySem.W.findIn K (.ref C3) "rows" = some none)
    (n3_1 : PySem.W.findIn K (.ref C3) "forms_by_mark" = some none)
    (ha3 : PySem.W.findIn K (.ref C3) "__class__" = some (some (.builtin "object.__class__")))
    (hn3 : PySem.W.specialIn K (.builtin "object.__class__") "__get__" = some (some (.builtin "getset_descriptor.__get__")))
    (htk3 : PySem.W.takesIn K (.builtin "object.__class__") = some true)
    (hmo3 : PySem.W.mroIn K C3 (.type "object") = some true)
    (me3 : PySem.W.kitOne K (.ref C3) (.ref C3) = some true)
    (sf3 : PySem.W.selfFirst K C3 = true)
    (is3 : PySem.W.kitOne K (.type "str") (.ref C3) = some false)
    (a1 : PySem.W.nsIn K mainGlobals "united" = some (some (.ref f1)))
    (F1 : Fun K "united" "united" s_united f1 fd1)
    (a2 : PySem.W.nsIn K mainGlobals "merged" = some (some (.ref f2)))
    (F2 : Fun K "merged" "merged" s_merged f2 fd2)
    (a3 : PySem.W.nsIn K mainGlobals "is_atom" = some (some (.ref f3)))
    (F3 : Fun K "is_atom" "is_atom" s_is_atom f3 fd3)
    (a4 : PySem.W.findIn K (.ref C0) "__init__" = some (some (.ref f4)))
    (i4 : PySem.W.isFn K (.ref f4) = true)
    (F4 : Fun K "__init__" "Formula.__init__" s_Formula___init__ f4 fd4)
    (k4 : PySem.W.keepIn K (.ref f4) = true)
    (a5 : PySem.W.nsIn K mainGlobals "no" = some (some (.ref f5)))
    (F5 : Fun K "no" "no" s_no f5 fd5)
    (a6 : PySem.W.nsIn K mainGlobals "every" = some (some (.ref f6)))
    (F6 : Fun K "every" "every" s_every f6 fd6)
    (a7 : PySem.W.nsIn K mainGlobals "as_formula" = some (some (.ref f7)))
    (F7 : Fun K "as_formula" "as_formula" s_as_formula f7 fd7)
    (a8 : PySem.W.nsIn K mainGlobals "operand" = some (some (.ref f8)))
    (F8 : Fun K "operand" "operand" s_operand f8 fd8)
    (a9 : PySem.W.findIn K (.ref C0) "__rshift__" = some (some (.ref f9)))
    (i9 : PySem.W.isFn K (.ref f9) = true)
    (F9 : Fun K "__rshift__" "Formula.__rshift__" s_Formula___rshift__ f9 fd9)
    (k9 : PySem.W.keepIn K (.ref f9) = true)
    (a10 : PySem.W.findIn K (.ref C0) "__str__" = some (some (.ref f10)))
    (i10 : PySem.W.isFn K (.ref f10) = true)
    (F10 : Fun K "__str__" "Formula.__str__" s_Formula___str__ f10 fd10)
    (k10 : PySem.W.keepIn K (.ref f10) = true)
    (a11 : PySem.W.nsIn K mainGlobals "parts_within" = some (some (.ref f11)))
    (F11 : Fun K "parts_within" "parts_within" s_parts_within f11 fd11)
    (a12 : PySem.W.nsIn K mainGlobals "is_ascending" = some (some (.ref f12)))
    (F12 : Fun K "is_ascending" "is_ascending" s_is_ascending f12 fd12)
    (a13 : PySem.W.nsIn K mainGlobals "is_below" = some (some (.ref f13)))
    (F13 : Fun K "is_below" "is_below" s_is_below f13 fd13)
    (a14 : PySem.W.nsIn K mainGlobals "are_below" = some (some (.ref f14)))
    (F14 : Fun K "are_below" "are_below" s_are_below f14 fd14)
    (a15 : PySem.W.nsIn K mainGlobals "is_letters" = some (some (.ref f15)))
    (F15 : Fun K "is_letters" "is_letters" s_is_letters f15 fd15)
    (a16 : PySem.W.nsIn K mainGlobals "are_letters" = some (some (.ref f16)))
    (F16 : Fun K "are_letters" "are_letters" s_are_letters f16 fd16)
    (a17 : PySem.W.nsIn K mainGlobals "beneath_by" = some (some (.ref f17)))
    (F17 : Fun K "beneath_by" "beneath_by" s_beneath_by f17 fd17)
    (a18 : PySem.W.nsIn K mainGlobals "heights_by" = some (some (.ref f18)))
    (F18 : Fun K "heights_by" "heights_by" s_heights_by f18 fd18)
    (a19 : PySem.W.findIn K (.ref C1) "__init__" = some (some (.ref f19)))
    (i19 : PySem.W.isFn K (.ref f19) = true)
    (F19 : Fun K "__init__" "Web.__init__" s_Web___init__ f19 fd19)
    (k19 : PySem.W.keepIn K (.ref f19) = true)
    (a20 : PySem.W.findIn K (.ref C1) "__len__" = some (some (.ref f20)))
    (i20 : PySem.W.isFn K (.ref f20) = true)
    (F20 : Fun K "__len__" "Web.__len__" s_Web___len__ f20 fd20)
    (k20 : PySem.W.keepIn K (.ref f20) = true)
    (a21 : PySem.W.findIn K (.ref C1) "all_values" = some (some (.ref f21)))
    (i21 : PySem.W.isFn K (.ref f21) = true)
    (F21 : Fun K "all_values" "Web.all_values" s_Web_all_values f21 fd21)
    (k21 : PySem.W.keepIn K (.ref f21) = true)
    (a22 : PySem.W.findIn K (.ref C1) "values_of" = some (some (.ref f22)))
    (i22 : PySem.W.isFn K (.ref f22) = true)
    (F22 : Fun K "values_of" "Web.values_of" s_Web_values_of f22 fd22)
    (k22 : PySem.W.keepIn K (.ref f22) = true)
    (a23 : PySem.W.findIn K (.ref C1) "where" = some (some (.ref f23)))
    (i23 : PySem.W.isFn K (.ref f23) = true)
    (F23 : Fun K "where" "Web.where" s_Web_where f23 fd23)
    (k23 : PySem.W.keepIn K (.ref f23) = true)
    (a24 : PySem.W.findIn K (.ref C1) "marked" = some (some (.ref f24)))
    (i24 : PySem.W.isFn K (.ref f24) = true)
    (F24 : Fun K "marked" "Web.marked" s_Web_marked f24 fd24)
    (k24 : PySem.W.keepIn K (.ref f24) = true)
    (a25 : PySem.W.findIn K (.ref C1) "without" = some (some (.ref f25)))
    (i25 : PySem.W.isFn K (.ref f25) = true)
    (F25 : Fun K "without" "Web.without" s_Web_without f25 fd25)
    (k25 : PySem.W.keepIn K (.ref f25) = true)
    (a26 : PySem.W.findIn K (.ref C1) "__eq__" = some (some (.ref f26)))
    (i26 : PySem.W.isFn K (.ref f26) = true)
    (F26 : Fun K "__eq__" "Web.__eq__" s_Web___eq__ f26 fd26)
    (k26 : PySem.W.keepIn K (.ref f26) = true)
    (a27 : PySem.W.nsIn K mainGlobals "is_mark" = some (some (.ref f27)))
    (F27 : Fun K "is_mark" "is_mark" s_is_mark f27 fd27)
    (a28 : PySem.W.nsIn K mainGlobals "is_rule" = some (some (.ref f28)))
    (F28 : Fun K "is_rule" "is_rule" s_is_rule f28 fd28)
    (a29 : PySem.W.nsIn K mainGlobals "check_rows" = some (some (.ref f29)))
    (F29 : Fun K "check_rows" "check_rows" s_check_rows f29 fd29)
    (a30 : PySem.W.findIn K (.ref C3) "__init__" = some (some (.ref f30)))
    (i30 : PySem.W.isFn K (.ref f30) = true)
    (F30 : Fun K "__init__" "Rules.__init__" s_Rules___init__ f30 fd30)
    (k30 : PySem.W.keepIn K (.ref f30) = true)
    (a31 : PySem.W.findIn K (.ref C3) "marks" = some (some (.ref pA31)))
    (pg_31 : PySem.W.specialIn K (.ref pA31) "__get__" = some (some (.builtin "property.__get__")))
    (pt_31 : PySem.W.takesIn K (.ref pA31) = some true)
    (pr_31 : PySem.W.recIn K pA31 "property" = some (.ref f31 :: pR31))
    (F31 : Fun K "marks" "Rules.marks" s_Rules_marks f31 fd31)
    (a32 : PySem.W.findIn K (.ref C3) "marked" = some (some (.ref f32)))
    (i32 : PySem.W.isFn K (.ref f32) = true)
    (F32 : Fun K "marked" "Rules.marked" s_Rules_marked f32 fd32)
    (k32 : PySem.W.keepIn K (.ref f32) = true)
    (a33 : PySem.W.findIn K (.ref C3) "__getitem__" = some (some (.ref f33)))
    (i33 : PySem.W.isFn K (.ref f33) = true)
    (F33 : Fun K "__getitem__" "Rules.__getitem__" s_Rules___getitem__ f33 fd33)
    (k33 : PySem.W.keepIn K (.ref f33) = true)
    (a34 : PySem.W.nsIn K mainGlobals "_law_deck" = some (some (.ref f34)))
    (F34 : Fun K "_law_deck" "_law_deck" s_law_deck f34 fd34)
    (a35 : PySem.W.nsIn K mainGlobals "_law_draw" = some (some (.ref f35)))
    (F35 : Fun K "_law_draw" "_law_draw" s_law_draw f35 fd35)
    (a36 : PySem.W.nsIn K mainGlobals "_law_pick" = some (some (.ref f36)))
    (F36 : Fun K "_law_pick" "_law_pick" s_law_pick f36 fd36)
    (a37 : PySem.W.nsIn K mainGlobals "atom" = some (some (.ref f37)))
    (F37 : Fun K "atom" "atom" s_atom f37 fd37)
    (a38 : PySem.W.nsIn K mainGlobals "_law_tree" = some (some (.ref f38)))
    (F38 : Fun K "_law_tree" "_law_tree" s_law_tree f38 fd38)
    (a39 : PySem.W.nsIn K mainGlobals "_law_built" = some (some (.ref f39)))
    (F39 : Fun K "_law_built" "_law_built" s_law_built f39 fd39)
    (a40 : PySem.W.nsIn K mainGlobals "_law_web" = some (some (.ref f40)))
    (F40 : Fun K "_law_web" "_law_web" s_law_web f40 fd40)
    (a41 : PySem.W.nsIn K mainGlobals "_law_net" = some (some (.ref f41)))
    (F41 : Fun K "_law_net" "_law_net" s_law_net f41 fd41)
    (a42 : PySem.W.nsIn K mainGlobals "_law_under" = some (some (.ref f42)))
    (F42 : Fun K "_law_under" "_law_under" s_law_under f42 fd42)
    (a43 : PySem.W.nsIn K mainGlobals "_law_at" = some (some (.ref f43)))
    (F43 : Fun K "_law_at" "_law_at" s_law_at f43 fd43)
    (a44 : PySem.W.nsIn K mainGlobals "_law_marked" = some (some (.ref f44)))
    (F44 : Fun K "_law_marked" "_law_marked" s_law_marked f44 fd44)
    (a45 : PySem.W.nsIn K mainGlobals "_law_row" = some (some (.ref f45)))
    (F45 : Fun K "_law_row" "_law_row" s_law_row f45 fd45)
    (a46 : PySem.W.nsIn K mainGlobals "_law_points" = some (some (.ref f46)))
    (F46 : Fun K "_law_points" "_law_points" s_law_points f46 fd46)
    (a47 : PySem.W.nsIn K mainGlobals "_law_given" = some (some (.ref f47)))
    (F47 : Fun K "_law_given" "_law_given" s_law_given f47 fd47)
    (a48 : PySem.W.nsIn K mainGlobals "_law_moved" = some (some (.ref f48)))
    (F48 : Fun K "_law_moved" "_law_moved" s_law_moved f48 fd48)
    (a49 : PySem.W.nsIn K mainGlobals "_law_as_told" = some (some (.ref f49)))
    (F49 : Fun K "_law_as_told" "_law_as_told" s_law_as_told f49 fd49)
    (a50 : PySem.W.nsIn K mainGlobals "_law_values" = some (some (.ref f50)))
    (F50 : Fun K "_law_values" "_law_values" s_law_values f50 fd50)
    (a51 : PySem.W.nsIn K mainGlobals "_law_great_right" = some (some (.ref f51)))
    (F51 : Fun K "_law_great_right" "_law_great_right" s_law_great_right f51 fd51)
    (a52 : PySem.W.nsIn K mainGlobals "_law_right" = some (some (.ref f52)))
    (F52 : Fun K "_law_right" "_law_right" s_law_right f52 fd52)
    (a53 : PySem.W.nsIn K mainGlobals "law" = some (some (.ref f53)))
    (F53 : Fun K "law" "law" s_law f53 fd53) :
    FnG P w K mg base 82 fa (spTop K) := by
  let cl : Nat → Addr := fun i => if i = 0 then C0 else if i = 1 then C1 else C3
  have B : Blt mg := ⟨PySem.W.mg_none_of X G z0, PySem.W.mg_none_of X G z1, PySem.W.mg_none_of X G z2, PySem.W.mg_none_of X G z3, PySem.W.mg_none_of X G z4, PySem.W.mg_none_of X G z5, PySem.W.mg_none_of X G z6, PySem.W.mg_none_of X G z7, PySem.W.mg_none_of X G z8, PySem.W.mg_none_of X G z9, PySem.W.mg_none_of X G z10, PySem.W.mg_none_of X G z11, PySem.W.mg_none_of X G z12, PySem.W.mg_none_of X G z13, PySem.W.mg_none_of X G z14, PySem.W.mg_none_of X G z15, PySem.W.mg_none_of X G z16, PySem.W.mg_none_of X G z17, PySem.W.mg_none_of X G z18, PySem.W.mg_none_of X G z19, PySem.W.mg_none_of X G z20⟩
  have cz0 : CZ K C0 fmNames := ⟨⟨pg0, hd0, po0, sa0⟩, fun n hn => by
    simp only [fmNames, List.mem_cons, List.not_mem_nil, or_false] at hn
    rcases hn with e | e | e | e | e | e | e | e
    · rw [e]; exact n0_0
    · rw [e]; exact n0_1
    · rw [e]; exact n0_2
    · rw [e]; exact n0_3
    · rw [e]; exact n0_4
    · rw [e]; exact n0_5
    · rw [e]; exact n0_6
    · rw [e]; exact n0_7, ⟨⟨pg0, hd0, po0, sa0⟩, ha0, hn0, htk0, hmo0, me0⟩, sf0, is0⟩
  have cz1 : CZ K C1 wbNames := ⟨⟨pg1, hd1, po1, sa1⟩, fun n hn => by
    simp only [wbNames, List.mem_cons, List.not_mem_nil, or_false] at hn
    rcases hn with e | e | e | e
    · rw [e]; exact n1_0
    · rw [e]; exact n1_1
    · rw [e]; exact n1_2
    · rw [e]; exact n1_3, ⟨⟨pg1, hd1, po1, sa1⟩, ha1, hn1, htk1, hmo1, me1⟩, sf1, is1⟩
  have cz3 : CZ K C3 rlNames := ⟨⟨pg3, hd3, po3, sa3⟩, fun n hn => by
    simp only [rlNames, List.mem_cons, List.not_mem_nil, or_false] at hn
    rcases hn with e | e
    · rw [e]; exact n3_0
    · rw [e]; exact n3_1, ⟨⟨pg3, hd3, po3, sa3⟩, ha3, hn3, htk3, hmo3, me3⟩, sf3, is3⟩
  have Z : ZZ K w mg cl := ⟨⟨_, PySem.W.mg_of X G s0, _, rfl⟩, ⟨_, PySem.W.mg_of X G s1, _, rfl⟩, ⟨_, PySem.W.mg_of X G s2, _, rfl⟩, ⟨_, PySem.W.mg_of X G s3, _, rfl⟩, ⟨_, PySem.W.mg_of X G s4, _, rfl⟩, dd5, es5, en5, PySem.W.mg_of X G aP5, ⟨lP5, lit5, low5⟩, ⟨_, p5_0⟩, ⟨_, p5_1⟩, ⟨_, p5_2⟩, ⟨_, p5_3⟩, ⟨_, PySem.W.mg_of X G s6, _, rfl⟩, ⟨_, PySem.W.mg_of X G s7, _, rfl⟩, ⟨_, PySem.W.mg_of X G s8, _, rfl⟩, ⟨_, PySem.W.mg_of X G s9, _, rfl⟩, ⟨_, PySem.W.mg_of X G s10, _, rfl⟩, ⟨_, PySem.W.mg_of X G s11, _, rfl⟩, ⟨_, PySem.W.mg_of X G s12, _, rfl⟩, ⟨_, PySem.W.mg_of X G s13, _, rfl⟩, ⟨_, PySem.W.mg_of X G s14, _, rfl⟩, ⟨_, PySem.W.mg_of X G s15, _, rfl⟩, ⟨_, PySem.W.mg_of X G s16, _, rfl⟩, ⟨_, PySem.W.mg_of X G s17, _, rfl⟩, ⟨_, PySem.W.mg_of X G s18, _, rfl⟩, PySem.W.mg_of X G aC0, cz0, PySem.W.mg_of X G aC1, cz1, ⟨ne1, hmo1⟩, PySem.W.mg_of X G aC3, cz3⟩
  have q_c_united := c_united (P := P) (base := base) (cl := cl) (PySem.W.mg_of X G a1) B Z F1 
  have q_c_merged := c_merged (P := P) (base := base) (cl := cl) (PySem.W.mg_of X G a2) B Z F2 
  have q_c_is_atom := c_is_atom (P := P) (base := base) (cl := cl) (PySem.W.mg_of X G a3) B Z F3 
  have q_m_Formula := m_Formula (P := P) (base := base) (cl := cl) ⟨mk0, a4, i4, kc0⟩ B Z F4 q_c_united q_c_merged q_c_is_atom
  have q_c_no := c_no (P := P) (base := base) (cl := cl) (PySem.W.mg_of X G a5) B Z F5 q_m_Formula
  have q_c_every := c_every (P := P) (base := base) (cl := cl) (PySem.W.mg_of X G a6) B Z F6 q_m_Formula
  have q_c_as_formula := c_as_formula (P := P) (base := base) (cl := cl) (PySem.W.mg_of X G a7) B Z F7 q_c_is_atom q_m_Formula
  have q_c_operand := c_operand (P := P) (base := base) (cl := cl) (PySem.W.mg_of X G a8) B Z F8 q_c_as_formula
  have q_o_shr := o_shr (P := P) (base := base) (cl := cl) ⟨a9, i9⟩ B Z F9 q_m_Formula q_c_operand
  have q_o_str := o_str (P := P) (base := base) (cl := cl) ⟨a10, i10⟩ B Z F10 
  have q_c_parts_within := c_parts_within (P := P) (base := base) (cl := cl) (PySem.W.mg_of X G a11) B Z F11 
  have q_c_is_ascending := c_is_ascending (P := P) (base := base) (cl := cl) (PySem.W.mg_of X G a12) B Z F12 
  have q_c_is_below := c_is_below (P := P) (base := base) (cl := cl) (PySem.W.mg_of X G a13) B Z F13 q_c_is_ascending
  have q_c_are_below := c_are_below (P := P) (base := base) (cl := cl) (PySem.W.mg_of X G a14) B Z F14 q_c_is_below
  have q_c_is_letters := c_is_letters (P := P) (base := base) (cl := cl) (PySem.W.mg_of X G a15) B Z F15 q_c_is_atom q_c_is_ascending
  have q_c_are_letters := c_are_letters (P := P) (base := base) (cl := cl) (PySem.W.mg_of X G a16) B Z F16 q_c_is_letters
  have q_c_beneath_by := c_beneath_by (P := P) (base := base) (cl := cl) (PySem.W.mg_of X G a17) B Z F17 
  have q_c_heights_by := c_heights_by (P := P) (base := base) (cl := cl) (PySem.W.mg_of X G a18) B Z F18 
  have q_m_Web := m_Web (P := P) (base := base) (cl := cl) ⟨mk1, a19, i19, kc1⟩ B Z F19 q_c_are_below q_c_are_letters q_c_beneath_by q_c_heights_by
  have q_o_len1 := o_len1 (P := P) (base := base) (cl := cl) ⟨a20, i20⟩ B Z F20 
  have q_mm_all_values1 := mm_all_values1 (P := P) (base := base) (cl := cl) ⟨a21, i21, k21⟩ B Z F21 
  have q_mm_values_of1 := mm_values_of1 (P := P) (base := base) (cl := cl) ⟨a22, i22, k22⟩ B Z F22 q_c_operand q_c_parts_within q_mm_all_values1
  have qx_mm_where1 := mm_where1 (P := P) (base := base) (cl := cl) ⟨a23, i23, k23⟩ B Z F23 q_mm_values_of1
  have q_mm_where1 := qx_mm_where1.1
  have q_km_where1 := qx_mm_where1.2
  have qx_mm_marked1 := mm_marked1 (P := P) (base := base) (cl := cl) ⟨a24, i24, k24⟩ B Z F24 q_m_Web q_mm_values_of1
  have q_mm_marked1 := qx_mm_marked1.1
  have q_km_marked1 := qx_mm_marked1.2
  have qx_mm_without1 := mm_without1 (P := P) (base := base) (cl := cl) ⟨a25, i25, k25⟩ B Z F25 q_m_Web
  have q_mm_without1 := qx_mm_without1.1
  have q_km_without1 := qx_mm_without1.2
  have q_o_eq1 := o_eq1 (P := P) (base := base) (cl := cl) ⟨a26, i26⟩ B Z F26 
  have q_c_is_mark := c_is_mark (P := P) (base := base) (cl := cl) (PySem.W.mg_of X G a27) B Z F27 q_c_is_atom
  have q_c_is_rule := c_is_rule (P := P) (base := base) (cl := cl) (PySem.W.mg_of X G a28) B Z F28 q_c_is_mark q_c_is_atom
  have q_c_check_rows := c_check_rows (P := P) (base := base) (cl := cl) (PySem.W.mg_of X G a29) B Z F29 q_c_is_rule q_c_as_formula
  have q_m_Rules := m_Rules (P := P) (base := base) (cl := cl) ⟨mk3, a30, i30, kc3⟩ B Z F30 q_c_check_rows q_c_as_formula
  have q_p_marks3 := p_marks3 (P := P) (base := base) (cl := cl) ⟨a31, pg_31, pt_31, ⟨_, pr_31⟩⟩ B Z F31 
  have qx_mm_marked3 := mm_marked3 (P := P) (base := base) (cl := cl) ⟨a32, i32, k32⟩ B Z F32 q_o_len1 q_mm_without1 q_mm_marked1 q_p_marks3
  have q_mm_marked3 := qx_mm_marked3.1
  have q_km_marked3 := qx_mm_marked3.2
  have q_o_getitem3 := o_getitem3 (P := P) (base := base) (cl := cl) ⟨a33, i33⟩ B Z F33 q_c_is_mark
  have q_c_law_deck := c_law_deck (P := P) (base := base) (cl := cl) (PySem.W.mg_of X G a34) B Z F34 
  have q_c_law_draw := c_law_draw (P := P) (base := base) (cl := cl) (PySem.W.mg_of X G a35) B Z F35 
  have q_c_law_pick := c_law_pick (P := P) (base := base) (cl := cl) (PySem.W.mg_of X G a36) B Z F36 q_c_law_draw
  have q_c_atom := c_atom (P := P) (base := base) (cl := cl) (PySem.W.mg_of X G a37) B Z F37 q_c_is_atom q_m_Formula
  have q_c_law_tree := c_law_tree (P := P) (base := base) (cl := cl) (PySem.W.mg_of X G a38) B Z F38 q_c_law_draw
  have q_c_law_built := c_law_built (P := P) (base := base) (cl := cl) (PySem.W.mg_of X G a39) B Z F39 q_c_atom q_c_no q_c_every q_o_shr
  have q_c_law_web := c_law_web (P := P) (base := base) (cl := cl) (PySem.W.mg_of X G a40) B Z F40 q_c_law_draw
  have q_c_law_net := c_law_net (P := P) (base := base) (cl := cl) (PySem.W.mg_of X G a41) B Z F41 q_m_Web
  have q_c_law_under := c_law_under (P := P) (base := base) (cl := cl) (PySem.W.mg_of X G a42) B Z F42 
  have q_c_law_at := c_law_at (P := P) (base := base) (cl := cl) (PySem.W.mg_of X G a43) B Z F43 
  have q_c_law_marked := c_law_marked (P := P) (base := base) (cl := cl) (PySem.W.mg_of X G a44) B Z F44 q_c_law_under (q_c_law_at 70)
  have q_c_law_row := c_law_row (P := P) (base := base) (cl := cl) (PySem.W.mg_of X G a45) B Z F45 
  have q_c_law_points := c_law_points (P := P) (base := base) (cl := cl) (PySem.W.mg_of X G a46) B Z F46 
  have q_c_law_given := c_law_given (P := P) (base := base) (cl := cl) (PySem.W.mg_of X G a47) B Z F47 q_c_law_pick q_c_law_draw (q_c_law_tree 60)
  have q_c_law_moved := c_law_moved (P := P) (base := base) (cl := cl) (PySem.W.mg_of X G a48) B Z F48 q_c_law_draw q_c_law_pick
  have q_c_law_as_told := c_law_as_told (P := P) (base := base) (cl := cl) (PySem.W.mg_of X G a49) B Z F49 q_o_getitem3 q_mm_where1 q_c_law_points
  have q_c_law_values := c_law_values (P := P) (base := base) (cl := cl) (PySem.W.mg_of X G a50) B Z F50 
  have q_c_law_great_right := c_law_great_right (P := P) (base := base) (cl := cl) (PySem.W.mg_of X G a51) B Z F51 q_c_law_draw (q_c_law_built 70) q_m_Rules q_mm_marked3 q_m_Web (q_c_law_values 70)
  have q_c_law_right := c_law_right (P := P) (base := base) (cl := cl) (PySem.W.mg_of X G a52) B Z F52 (q_c_law_built 70) q_m_Rules q_c_law_web q_c_law_net q_c_law_marked q_mm_marked3 q_km_marked3 q_o_eq1 q_c_law_as_told q_c_law_moved (q_c_law_row 70) q_o_str
  have q_c_law := c_law (P := P) (base := base) (cl := cl) (PySem.W.mg_of X G a53) B Z F53 q_c_law_deck q_c_law_given q_c_law_right q_c_law_great_right
  obtain ⟨f, hf, hm, _⟩ := q_c_law.ex
  have e := hfa.symm.trans hm
  cases e
  exact fun A outer s H us vs Q hg hr e0 r hsp => hf A outer s H us vs Q hg hr e0 r (top_sp hsp)
end N
set_option Elab.async false
set_option linter.all false
set_option maxRecDepth 100000
set_option maxHeartbeats 0
namespace N
open PySem PySem.Spec PyProof.Rows L2
theorem facts {P : Program} {w : World} {K : Fg} {h base : Heap} {mg : Str → Option Value} {fa : Addr} (X : K.In h) (G : h.Ns mainGlobals mg) (hfa : mg "law" = some (.ref fa)) (c : SaysT tsts dTs dcs w K) :
    FnG P w K mg base 82 fa (spTop K) := by
  have ht0 := c.test 0 (t := tst0) rfl
  simp only [tst0, Bool.and_eq_true, decide_eq_true_eq] at ht0
  obtain ⟨z0, z1, z2, z3, z4, z5, z6, z7⟩ := ht0
  have ht1 := c.test 1 (t := tst1) rfl
  simp only [tst1, Bool.and_eq_true, decide_eq_true_eq] at ht1
  obtain ⟨z8, z9, z10, z11, z12, z13, z14, z15⟩ := ht1
  have ht2 := c.test 2 (t := tst2) rfl
  simp only [tst2, Bool.and_eq_true, decide_eq_true_eq] at ht2
  obtain ⟨z16, z17, z18, z19, z20, s0, s1, s2⟩ := ht2
  obtain ⟨_, s0⟩ := isStrG_ok s0
  obtain ⟨_, s1⟩ := isStrG_ok s1
  obtain ⟨_, s2⟩ := isStrG_ok s2
  have ht3 := c.test 3 (t := tst3) rfl
  simp only [tst3, Bool.and_eq_true, decide_eq_true_eq] at ht3
  obtain ⟨s3, s4, aP5, dlP5, low5, p5_0, p5_1, p5_2⟩ := ht3
  obtain ⟨_, s3⟩ := isStrG_ok s3
  obtain ⟨_, s4⟩ := isStrG_ok s4
  obtain ⟨_, p5_0⟩ := isIntIn_ok p5_0
  obtain ⟨_, p5_1⟩ := isIntIn_ok p5_1
  obtain ⟨_, p5_2⟩ := isIntIn_ok p5_2
  have ht4 := c.test 4 (t := tst4) rfl
  simp only [tst4, Bool.and_eq_true, decide_eq_true_eq] at ht4
  obtain ⟨p5_3, s6, s7, s8, s9, s10, s11, s12⟩ := ht4
  obtain ⟨_, p5_3⟩ := isIntIn_ok p5_3
  obtain ⟨_, s6⟩ := isStrG_ok s6
  obtain ⟨_, s7⟩ := isStrG_ok s7
  obtain ⟨_, s8⟩ := isStrG_ok s8
  obtain ⟨_, s9⟩ := isStrG_ok s9
  obtain ⟨_, s10⟩ := isIntIn_ok s10
  obtain ⟨_, s11⟩ := isIntIn_ok s11
  obtain ⟨_, s12⟩ := isStrG_ok s12
  have ht5 := c.test 5 (t := tst5) rfl
  simp only [tst5, Bool.and_eq_true, decide_eq_true_eq] at ht5
  obtain ⟨s13, s14, s15, s16, s17, s18, aC0, pg0⟩ := ht5
  obtain ⟨_, s13⟩ := isStrG_ok s13
  obtain ⟨_, s14⟩ := isStrG_ok s14
  obtain ⟨_, s15⟩ := isStrG_ok s15
  obtain ⟨_, s16⟩ := isStrG_ok s16
  obtain ⟨_, s17⟩ := isStrG_ok s17
  obtain ⟨_, s18⟩ := isStrG_ok s18
  have ht6 := c.test 6 (t := tst6) rfl
  simp only [tst6, Bool.and_eq_true, decide_eq_true_eq] at ht6
  obtain ⟨hd0, po0, sa0, mk0, kc0, n0_0, n0_1, n0_2⟩ := ht6
  have ht7 := c.test 7 (t := tst7) rfl
  simp only [tst7, Bool.and_eq_true, decide_eq_true_eq] at ht7
  obtain ⟨n0_3, n0_4, n0_5, n0_6, n0_7, ha0, hn0, htk0⟩ := ht7
  have ht8 := c.test 8 (t := tst8) rfl
  simp only [tst8, Bool.and_eq_true, decide_eq_true_eq] at ht8
  obtain ⟨hmo0, me0, sf0, is0, aC1, pg1, hd1, po1⟩ := ht8
  have ht9 := c.test 9 (t := tst9) rfl
  simp only [tst9, Bool.and_eq_true, decide_eq_true_eq] at ht9
  obtain ⟨sa1, mk1, kc1, n1_0, n1_1, n1_2, n1_3, ha1⟩ := ht9
  have ht10 := c.test 10 (t := tst10) rfl
  simp only [tst10, Bool.and_eq_true, decide_eq_true_eq] at ht10
  obtain ⟨hn1, htk1, hmo1, me1, sf1, is1, ne1, aC3⟩ := ht10
  have ht11 := c.test 11 (t := tst11) rfl
  simp only [tst11, Bool.and_eq_true, decide_eq_true_eq] at ht11
  obtain ⟨pg3, hd3, po3, sa3, mk3, kc3, n3_0, n3_1⟩ := ht11
  have ht12 := c.test 12 (t := tst12) rfl
  simp only [tst12, Bool.and_eq_true, decide_eq_true_eq] at ht12
  obtain ⟨ha3, hn3, htk3, hmo3, me3, sf3, is3, a1⟩ := ht12
  have ht13 := c.test 13 (t := tst13) rfl
  simp only [tst13, Bool.and_eq_true, decide_eq_true_eq] at ht13
  obtain ⟨a2, a3, a4, i4, k4, a5, a6, a7⟩ := ht13
  have ht14 := c.test 14 (t := tst14) rfl
  simp only [tst14, Bool.and_eq_true, decide_eq_true_eq] at ht14
  obtain ⟨a8, a9, i9, k9, a10, i10, k10, a11⟩ := ht14
  have ht15 := c.test 15 (t := tst15) rfl
  simp only [tst15, Bool.and_eq_true, decide_eq_true_eq] at ht15
  obtain ⟨a12, a13, a14, a15, a16, a17, a18, a19⟩ := ht15
  have ht16 := c.test 16 (t := tst16) rfl
  simp only [tst16, Bool.and_eq_true, decide_eq_true_eq] at ht16
  obtain ⟨i19, k19, a20, i20, k20, a21, i21, k21⟩ := ht16
  have ht17 := c.test 17 (t := tst17) rfl
  simp only [tst17, Bool.and_eq_true, decide_eq_true_eq] at ht17
  obtain ⟨a22, i22, k22, a23, i23, k23, a24, i24⟩ := ht17
  have ht18 := c.test 18 (t := tst18) rfl
  simp only [tst18, Bool.and_eq_true, decide_eq_true_eq] at ht18
  obtain ⟨k24, a25, i25, k25, a26, i26, k26, a27⟩ := ht18
  have ht19 := c.test 19 (t := tst19) rfl
  simp only [tst19, Bool.and_eq_true, decide_eq_true_eq] at ht19
  obtain ⟨a28, a29, a30, i30, k30, a31, pg_31, pt_31⟩ := ht19
  have ht20 := c.test 20 (t := tst20) rfl
  simp only [tst20, Bool.and_eq_true, decide_eq_true_eq] at ht20
  obtain ⟨pr_31, a32, i32, k32, a33, i33, k33, a34⟩ := ht20
  have ht21 := c.test 21 (t := tst21) rfl
  simp only [tst21, Bool.and_eq_true, decide_eq_true_eq] at ht21
  obtain ⟨a35, a36, a37, a38, a39, a40, a41, a42⟩ := ht21
  have ht22 := c.test 22 (t := tst22) rfl
  simp only [tst22, Bool.and_eq_true, decide_eq_true_eq] at ht22
  obtain ⟨a43, a44, a45, a46, a47, a48, a49, a50⟩ := ht22
  have ht23 := c.test 23 (t := tst23) rfl
  simp only [tst23, Bool.and_eq_true, decide_eq_true_eq] at ht23
  obtain ⟨a51, a52, a53⟩ := ht23
  obtain ⟨_, _, lP5, lit5⟩ := c.dic 0 (d := ⟨fun K => (gA K "PARTS_OF"), ["atom", "no", "if", "all"]⟩) rfl dlP5
  obtain ⟨_, F1⟩ := c.fun_ 0 (d := dT1) rfl rfl
  obtain ⟨_, F2⟩ := c.fun_ 1 (d := dT2) rfl rfl
  obtain ⟨_, F3⟩ := c.fun_ 2 (d := dT3) rfl rfl
  obtain ⟨_, F4⟩ := c.fun_ 3 (d := dT4) rfl rfl
  obtain ⟨_, F5⟩ := c.fun_ 4 (d := dT5) rfl rfl
  obtain ⟨_, F6⟩ := c.fun_ 5 (d := dT6) rfl rfl
  obtain ⟨_, F7⟩ := c.fun_ 6 (d := dT7) rfl rfl
  obtain ⟨_, F8⟩ := c.fun_ 7 (d := dT8) rfl rfl
  obtain ⟨_, F9⟩ := c.fun_ 8 (d := dT9) rfl rfl
  obtain ⟨_, F10⟩ := c.fun_ 9 (d := dT10) rfl rfl
  obtain ⟨_, F11⟩ := c.fun_ 10 (d := dT11) rfl rfl
  obtain ⟨_, F12⟩ := c.fun_ 11 (d := dT12) rfl rfl
  obtain ⟨_, F13⟩ := c.fun_ 12 (d := dT13) rfl rfl
  obtain ⟨_, F14⟩ := c.fun_ 13 (d := dT14) rfl rfl
  obtain ⟨_, F15⟩ := c.fun_ 14 (d := dT15) rfl rfl
  obtain ⟨_, F16⟩ := c.fun_ 15 (d := dT16) rfl rfl
  obtain ⟨_, F17⟩ := c.fun_ 16 (d := dT17) rfl rfl
  obtain ⟨_, F18⟩ := c.fun_ 17 (d := dT18) rfl rfl
  obtain ⟨_, F19⟩ := c.fun_ 18 (d := dT19) rfl rfl
  obtain ⟨_, F20⟩ := c.fun_ 19 (d := dT20) rfl rfl
  obtain ⟨_, F21⟩ := c.fun_ 20 (d := dT21) rfl rfl
  obtain ⟨_, F22⟩ := c.fun_ 21 (d := dT22) rfl rfl
  obtain ⟨_, F23⟩ := c.fun_ 22 (d := dT23) rfl rfl
  obtain ⟨_, F24⟩ := c.fun_ 23 (d := dT24) rfl rfl
  obtain ⟨_, F25⟩ := c.fun_ 24 (d := dT25) rfl rfl
  obtain ⟨_, F26⟩ := c.fun_ 25 (d := dT26) rfl rfl
  obtain ⟨_, F27⟩ := c.fun_ 26 (d := dT27) rfl rfl
  obtain ⟨_, F28⟩ := c.fun_ 27 (d := dT28) rfl rfl
  obtain ⟨_, F29⟩ := c.fun_ 28 (d := dT29) rfl rfl
  obtain ⟨_, F30⟩ := c.fun_ 29 (d := dT30) rfl rfl
  obtain ⟨_, F31⟩ := c.fun_ 30 (d := dT31) rfl rfl
  obtain ⟨_, F32⟩ := c.fun_ 31 (d := dT32) rfl rfl
  obtain ⟨_, F33⟩ := c.fun_ 32 (d := dT33) rfl rfl
  obtain ⟨_, F34⟩ := c.fun_ 33 (d := dT34) rfl rfl
  obtain ⟨_, F35⟩ := c.fun_ 34 (d := dT35) rfl rfl
  obtain ⟨_, F36⟩ := c.fun_ 35 (d := dT36) rfl rfl
  obtain ⟨_, F37⟩ := c.fun_ 36 (d := dT37) rfl rfl
  obtain ⟨_, F38⟩ := c.fun_ 37 (d := dT38) rfl rfl
  obtain ⟨_, F39⟩ := c.fun_ 38 (d := dT39) rfl rfl
  obtain ⟨_, F40⟩ := c.fun_ 39 (d := dT40) rfl rfl
  obtain ⟨_, F41⟩ := c.fun_ 40 (d := dT41) rfl rfl
  obtain ⟨_, F42⟩ := c.fun_ 41 (d := dT42) rfl rfl
  obtain ⟨_, F43⟩ := c.fun_ 42 (d := dT43) rfl rfl
  obtain ⟨_, F44⟩ := c.fun_ 43 (d := dT44) rfl rfl
  obtain ⟨_, F45⟩ := c.fun_ 44 (d := dT45) rfl rfl
  obtain ⟨_, F46⟩ := c.fun_ 45 (d := dT46) rfl rfl
  obtain ⟨_, F47⟩ := c.fun_ 46 (d := dT47) rfl rfl
  obtain ⟨_, F48⟩ := c.fun_ 47 (d := dT48) rfl rfl
  obtain ⟨_, F49⟩ := c.fun_ 48 (d := dT49) rfl rfl
  obtain ⟨_, F50⟩ := c.fun_ 49 (d := dT50) rfl rfl
  obtain ⟨_, F51⟩ := c.fun_ 50 (d := dT51) rfl rfl
  obtain ⟨_, F52⟩ := c.fun_ 51 (d := dT52) rfl rfl
  obtain ⟨_, F53⟩ := c.fun_ 52 (d := dT53) rfl rfl
  exact all_mk X G hfa (rfl : w = w) z0 z1 z2 z3 z4 z5 z6 z7 z8 z9 z10 z11 z12 z13 z14 z15 z16 z17 z18 z19 z20 s0 s1 s2 s3 s4 aP5 lP5 lit5 low5 p5_0 p5_1 p5_2 p5_3 s6 s7 s8 s9 s10 s11 s12 s13 s14 s15 s16 s17 s18 aC0 pg0 hd0 po0 sa0 mk0 kc0 n0_0 n0_1 n0_2 n0_3 n0_4 n0_5 n0_6 n0_7 ha0 hn0 htk0 hmo0 me0 sf0 is0 aC1 pg1 hd1 po1 sa1 mk1 kc1 n1_0 n1_1 n1_2 n1_3 ha1 hn1 htk1 hmo1 me1 sf1 is1 ne1 aC3 pg3 hd3 po3 sa3 mk3 kc3 n3_0 n3_1 ha3 hn3 htk3 hmo3 me3 sf3 is3 a1 F1 a2 F2 a3 F3 a4 i4 F4 k4 a5 F5 a6 F6 a7 F7 a8 F8 a9 i9 F9 k9 a10 i10 F10 k10 a11 F11 a12 F12 a13 F13 a14 F14 a15 F15 a16 F16 a17 F17 a18 F18 a19 i19 F19 k19 a20 i20 F20 k20 a21 i21 F21 k21 a22 i22 F22 k22 a23 i23 F23 k23 a24 i24 F24 k24 a25 i25 F25 k25 a26 i26 F26 k26 a27 F27 a28 F28 a29 F29 a30 i30 F30 k30 a31 pg_31 pt_31 pr_31 F31 a32 i32 F32 k32 a33 i33 F33 k33 a34 F34 a35 F35 a36 F36 a37 F37 a38 F38 a39 F39 a40 F40 a41 F41 a42 F42 a43 F43 a44 F44 a45 F45 a46 F46 a47 F47 a48 F48 a49 F49 a50 F50 a51 F51 a52 F52 a53 F53
end N
open PySem PySem.W PySem.Calls PyProof.Rows
set_option maxRecDepth 100000 in
set_option maxHeartbeats 0 in
theorem PySem.Challenge.cw_allbeneath_k19_marks_stand_one_way_holds : PySem.Challenge.rw_allbeneath_k19_marks_stand_one_way.Holds := by
  w_on; o_law
  refine HandSHeadRun.head_any (r := N.RW_) (q := N.qW) (H := N.hkW) (ob := N.obW) (M := 40000) (loose := N.names) (d := HandSHeadRun.topDef N.RW_.prog 91) (kwd := []) N.obW_eq (by kernel_rfl) (fun s => by kernel_rfl) N.run_W
    (by kernel_rfl) (by kernel_rfl) (by kernel_rfl) (by rfl) (by first | assumption | decide +kernel) (by decide +kernel) ⟨rfl, rfl, rfl, rfl, rfl, by decide +kernel⟩ ?hw ?hc
  case hw => w_witness2
  case hc =>
    refine N.walkT (l := PySem.Challenge.rw_allbeneath_k19_marks_stand_one_way) (n := 63) (k := 82) (sp := N.spTop) rfl (by decide) (by kernel_rfl) ⟨rfl, by decide, by decide⟩ (fun w h Y => Y) ?F ?G
    case G => exact fun K H a ns hl _ hS => ⟨a, ns, rfl, hS, hl, fun _ => rfl⟩
    case F =>
      intro w mg fa h K KX sy G hmg0 base _ _
      have hmg : mg ("law" : PySem.Str) = some (.ref fa) := by
        have e : (HandSHeadRun.topDef N.RW_.prog 91).name = ("law" : PySem.Str) := by kernel_rfl
        rw [← e]
        exact hmg0
      exact N.facts KX G hmg sy
