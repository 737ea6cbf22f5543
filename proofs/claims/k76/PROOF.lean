import PyProof.Rows.All
import KE.KStateDown
import HandS.Words
import HandS.Head0
import HandS.Head1
import HandS.Head2
import HandS.HeadHook1
import HandS.HeadHook2
import PySem.Challenge.RW_allbeneath_k76_whole_players_whose_ends
import Wide.All
import OpenK.AllK
import Wide.FinOn
import HandS.ForMost
import HandS.DictComp
import HandS.FStr
import HandS.Star
import HandS.Property
import HandS.TupAny
import HandS.Codes
import HandS.More
import HandS.Conv
import HandS.Strs
import HandS.Style
import HandS.IsInst
import HandS.Defaults
import HandS.Flow
import HandS.MakeKwOnly
import HandS.SortKw
import HandS.WrittenGet
import HandS.MethStar
import KE.KOpsOwn
import KE.KCallOwn
import OpenK.KOps
import KE.DatumIndex
import PyProof.ReprRoads
import PyProof.ReprBulk
import HandS.RaiseMore
import KE.KeyNested
import PyProof.Rows.StrMeet
import KE.KEqDict
import HandS.SetFor
import PyProof.StrWalks
import PyProof.Rows.SortShellAny
import HandS.SetTxt0
import PyProof.Rows.StrMul
import HandS.TupMul
import PyProof.NeKinds
import PyProof.EqAt
import KE.GoesZip
import KE.GoesMore
import KE.GoesEnumKw
import HandS.Zip
import KE.GoesEnum
import HandS.SortInts
import HandS.TryOnly
import HandS.SlotsOwn
import PyProof.InstEq
import PyProof.P3Eq
import HandS.ClsMeth
import HandS.TupLen
import PyProof.Rows.TupTab
import HandS.SetBool
import HandS.SetKeys
import KE.KDictPairs
import HandS.Iter
import HandS.Exc
import HandS.ExcInit
import HandS.ExcSuper
import HandS.ExcField
import HandS.ExcIs
import HandS.WordsExc
import HandS.ExcOwn
import KE.KDictCopyH
import KE.KDictDisplayH
import KE.KDictKeyed
import PyProof.DictFindH
import PyProof.ListStr
import HandS.ListItems
import HandS.WordsDict
import OpenK.KMeth
import PyProof.DictDisplay
import KE.KDictZip
import PyProof.ListNew
import HandS.TryMany
import KE.KExcIs
import HandS.Deep
import KE.SortData
import HandS.Lambda
import KE.SortKeyHeap
import HandS.EndTab
set_option Elab.async false
set_option linter.all false
set_option maxRecDepth 100000
set_option maxHeartbeats 2000000
namespace N
open PySem PySem.Spec PyProof.Rows L2
abbrev Fg := PySem.W.Frag
def gA (K : Fg) (x : Str) : Addr := He.ga K x
def mA (K : Fg) (c m : Str) : Addr := He.ma K (He.ga K c) m
def pF (K : Fg) (c m : Str) : Addr := match PySem.W.recIn K (mA K c m) "property" with
  | some (.ref f :: _) => f
  | _ => 0
def pR (K : Fg) (c m : Str) : List Value := match PySem.W.recIn K (mA K c m) "property" with
  | some (_ :: r) => r
  | _ => []
def isStrG (K : Fg) (x z : Str) : Bool := match PySem.W.nsIn K mainGlobals x with
  | some (some (.str y _)) => decide (y = z)
  | _ => false
def isIntIn (K : Fg) (d : Addr) (x : Str) (i : Int) : Bool := match PySem.W.nsIn K d x with
  | some (some (.int j _)) => decide (j = i)
  | _ => false
def isDic (K : Fg) (d : Addr) : Bool := match K.lookup d with
  | some ⟨c, none, .dict es _, sl⟩ => decide (c = .type "dict") && (sl.toList.isEmpty && es.toList.all fun e => match e.key with
    | .str _ _ => true
    | _ => false)
  | _ => false
def keysY (K : Fg) (d : Addr) : List (Str × Int) := match K.lookup d with
  | some ⟨_, _, .dict es _, _⟩ => es.toList.map fun e => match e.key with
    | .str x _ => (x, e.hash)
    | _ => ("", 0)
  | _ => []
structure DefT where
  at_ : Fg → Addr
  name : Str
  qual : Str
  st : Stmt
  dn : Bool
def fnY (K : Fg) (a : Addr) : He.FnW := match K.lookup a with
  | some ⟨_, _, .func fd, _⟩ => some (fd.name, fd.qualname, fd.params, fd.body, fd.scope, fd.globals, fd.closure, fd.builtins)
  | _ => none
def DefT.val (d : DefT) : He.FnW := some (d.name, d.qual, defArgs d.st, .stmts (defBody d.st), defScope d.st, mainGlobals, [], builtinsNs)
def isNon : Value → Bool
  | .none => true
  | _ => false
def nonSeq (K : Fg) (v : Value) : Bool := match v with
  | .ref T => (match K.lookup T with
    | some ⟨_, _, .seq its _, _⟩ => (match its.toList with
      | [v] => isNon v
      | _ => false)
    | _ => false)
  | _ => false
def DefT.ok (K : Fg) (d : DefT) : Bool := PySem.W.keepIn K (.ref (d.at_ K)) && (match K.lookup (d.at_ K) with
  | some ⟨_, _, .func fd, _⟩ => PySem.W.codeIn K fd.code d.qual && (match d.dn with
    | false => isNon fd.defaults
    | true => nonSeq K fd.defaults)
  | _ => false)
structure DicT where
  at_ : Fg → Addr
  keys : List Str
abbrev AlT : Type := Bool × List He.FnW × List (List (Str × Int))
def obsT (ts : List (Fg → Bool)) (fn : List DefT) (dk : List DicT) (K : Fg) : AlT := ((ts.all fun t => t K) && (fn.all fun d => d.ok K), fn.map fun d => fnY K (d.at_ K), dk.map fun d => keysY K (d.at_ K))
def valT (fn : List DefT) (dk : List DicT) (w : World) : AlT := (true, fn.map DefT.val, dk.map fun d => d.keys.map fun k => (k, PyData.keyHash w.params k))
def frNs {β : Type} : List Nat → (List Nat → β) → β
  | [], k => k []
  | x :: l, k => HandSHeadRun.frNat x fun x => frNs l fun l => k (x :: l)
theorem frNs_eq {β : Type} : ∀ (l : List Nat) (k : List Nat → β), frNs l k = k l
  | [], _ => rfl
  | x :: l, k => by
    unfold frNs
    rw [HandSHeadRun.frNat_eq, frNs_eq]
def frOb {β : Type} (o : Obj) (k : Obj → β) : β := match o with
  | ⟨c, d, dt, sl⟩ => k ⟨c, d, dt, sl⟩
theorem frOb_eq {β : Type} (o : Obj) (k : Obj → β) : frOb o k = k o := by cases o; rfl
def frFg {β : Type} : Fg → (Fg → β) → β
  | [], k => k []
  | x :: l, k => HandSHeadRun.frNat x.1 fun a => frOb x.2 fun o => frFg l fun l => k ((a, o) :: l)
theorem frFg_eq {β : Type} : ∀ (l : Fg) (k : Fg → β), frFg l k = k l
  | [], _ => rfl
  | x :: l, k => by
    unfold frFg
    rw [HandSHeadRun.frNat_eq, frOb_eq, frFg_eq]
def SaysT (ts : List (Fg → Bool)) (fn : List DefT) (dk : List DicT) (w : World) (K : Fg) : Prop := obsT ts fn dk K = valT fn dk w
end N
set_option Elab.async false
set_option linter.all false
set_option maxRecDepth 100000
set_option maxHeartbeats 2000000
namespace N
open PySem PySem.Spec PyProof.Rows L2
/-- a table of code objects -/
def isTab : Option Obj → Bool
  | some ⟨.none, none, .fields _, _⟩ => true
  | _ => false
def isTab0 : Option Obj → Bool
  | some ⟨.none, none, .fields vs, sl⟩ => vs.toList.isEmpty && sl.toList.isEmpty
  | _ => false
/-- the code object of a def, and its table -/
def cdA (K : Fg) (f : Addr) : Addr := match K.lookup f with
  | some ⟨_, _, .func fd, _⟩ => (match fd.code with
    | .ref c => c
    | _ => 0)
  | _ => 0
def tbA (K : Fg) (f : Addr) : Addr := match K.lookup (cdA K f) with
  | some ⟨_, _, .fields vs, _⟩ => (match vs.toList[11]? with
    | some (Value.ref P) => P
    | _ => 0)
  | _ => 0
def isCdR (K : Fg) (f : Addr) : Bool := match K.lookup f with
  | some ⟨_, _, .func fd, _⟩ => decide (fd.code = .ref (cdA K f))
  | _ => false
def isCd (K : Fg) (c P : Addr) : Bool := match K.lookup c with
  | some ⟨k, _, .fields vs, _⟩ => decide (k = .type "code") && (decide (vs.toList[11]? = some (Value.ref P)) && ((match vs.toList[18]? with
    | some (Value.str _ _) => true
    | _ => false) && ((match vs.toList[7]? with
    | some (Value.int _ _) => true
    | _ => false) && ((match vs.toList[9]? with
    | some (Value.bool _) => true
    | _ => false) && ((match vs.toList[10]? with
    | some (Value.int _ _) => true
    | _ => false) && (decide (c ≠ P) && (K.lookup P).isNone))))))
  | _ => false
def obsTT (ts : List (Fg → Bool)) (fn : List DefT) (dk : List DicT) (tb : List (Fg → Addr)) (n : Nat) (g : Addr → Option Obj) : AlT × Bool := frNs ((List.range n).filter fun a => !isTab (g a)) fun as => frFg (He.frG g as) fun K => (obsT ts fn dk K, tb.all fun t => isTab0 (g (t K)))
theorem obsTT_eq (ts : List (Fg → Bool)) (fn : List DefT) (dk : List DicT) (tb : List (Fg → Addr)) (n : Nat) (g : Addr → Option Obj) :
    obsTT ts fn dk tb n g = (obsT ts fn dk (He.frG g ((List.range n).filter fun a => !isTab (g a))), tb.all fun t => isTab0 (g (t (He.frG g ((List.range n).filter fun a => !isTab (g a)))))) := by
  unfold obsTT
  rw [frNs_eq, frFg_eq]
theorem isTab0_ok {o : Option Obj} (h : isTab0 o = true) : o = some { cls := .none, data := .fields #[] } := by
  unfold isTab0 at h
  split at h
  · rename_i vs sl
    rw [Bool.and_eq_true] at h
    obtain ⟨vs⟩ := vs
    obtain ⟨sl⟩ := sl
    obtain rfl : vs = [] := List.isEmpty_iff.mp h.1
    obtain rfl : sl = [] := List.isEmpty_iff.mp h.2
    rfl
  · cases h
def hookTT (ts : List (Fg → Bool)) (fn : List DefT) (dk : List DicT) (tb : List (Fg → Addr)) : PySem.W.Hook where
  α := AlT × Bool
  obs := fun s => obsTT ts fn dk tb s.heap.objs.size s.heap.get?
  val := fun w => (valT fn dk w, true)
  says := fun w h => ∃ K : Fg, K.In h ∧ SaysT ts fn dk w K ∧ ∀ t ∈ tb, h.get? (t K) = some { cls := .none, data := .fields #[] }
  of := fun _ _ e => by
    rw [obsTT_eq] at e
    obtain ⟨e1, e2⟩ := Prod.mk.inj e
    exact ⟨_, He.frG_in, e1, fun t ht => isTab0_ok (List.all_eq_true.mp e2 t ht)⟩
  keeps := fun _ _ _ ⟨K, hK, c, t⟩ k => ⟨K, PySem.W.Frag.In.keeps hK k, c, fun x hx => k _ _ (t x hx)⟩
def obTT (ts : List (Fg → Bool)) (fn : List DefT) (dk : List DicT) (tb : List (Fg → Addr)) (s : PySem.W.SharedT) : AlT × Bool := obsTT ts fn dk tb s.n (HandSHeadRun.getT s)
theorem obTT_eq {ts : List (Fg → Bool)} {fn : List DefT} {dk : List DicT} {tb : List (Fg → Addr)} (s : PySem.W.SharedT) : obTT ts fn dk tb s = (hookTT ts fn dk tb).obs s.abs := by
  have e : HandSHeadRun.getT s = s.abs.heap.get? := funext (HandSHeadRun.getT_eq s)
  have e2 : s.n = s.abs.heap.objs.size := (PySem.W.absHeap_size s.tree s.n s.life).symm
  unfold obTT
  rw [e, e2]
  rfl
end N
set_option Elab.async false
set_option linter.all false
set_option maxRecDepth 100000
set_option maxHeartbeats 0
namespace N
open PySem PySem.Spec PyProof.Rows L2
namespace HH
def top (i : Nat) : Stmt := PySem.Challenge.pw_allbeneath_k76_whole_players_whose_ends.main.body.getD i (.Pass ⟨0, 0, 0, 0⟩)
abbrev s_united : Stmt := top 18
abbrev s_merged : Stmt := top 19
abbrev s_is_atom : Stmt := top 17
abbrev s_Formula___init__ : Stmt := inClass (top 20) 0
abbrev s_no : Stmt := top 26
abbrev s_every : Stmt := top 28
abbrev s_as_formula : Stmt := top 21
abbrev s_operand : Stmt := top 22
abbrev s_Formula___invert__ : Stmt := inClass (top 20) 10
abbrev s_both : Stmt := top 23
abbrev s_either : Stmt := top 24
abbrev s_Formula___and__ : Stmt := inClass (top 20) 11
abbrev s_Formula___or__ : Stmt := inClass (top 20) 13
abbrev s_Formula___str__ : Stmt := inClass (top 20) 7
abbrev s_Formula_alls : Stmt := inClass (top 20) 3
abbrev s_yes : Stmt := top 27
abbrev s_atom : Stmt := top 25
abbrev s_holds_below : Stmt := top 38
abbrev s_formula_for : Stmt := top 39
abbrev s_held : Stmt := top 35
abbrev s_values_by_heights : Stmt := top 36
abbrev s_trace : Stmt := top 37
abbrev s_is_mark : Stmt := top 45
abbrev s_is_rule : Stmt := top 46
abbrev s_holds_by : Stmt := top 52
abbrev s_inner_by_text : Stmt := top 53
abbrev s_state_behind : Stmt := top 55
abbrev s_levels_of : Stmt := top 56
abbrev s_are_ascending : Stmt := top 57
abbrev s_is_player : Stmt := top 58
abbrev s_check_rows : Stmt := top 59
abbrev s_Book___init__ : Stmt := inClass (top 60) 0
abbrev s_Book_check_known : Stmt := inClass (top 60) 7
abbrev s_Book_deeds_of : Stmt := inClass (top 60) 8
abbrev s_Book_end : Stmt := inClass (top 60) 10
abbrev s_Book_rest : Stmt := inClass (top 60) 11
abbrev s_law_deck : Stmt := top 62
abbrev s_law_draw : Stmt := top 63
abbrev s_law_pick : Stmt := top 64
abbrev s_row_formula : Stmt := top 54
abbrev s_Book_form : Stmt := inClass (top 60) 12
abbrev s_law_deep : Stmt := top 65
abbrev s_law_first : Stmt := top 67
abbrev s_law_told : Stmt := top 66
abbrev s_law_book : Stmt := top 68
abbrev s_law_names : Stmt := top 69
abbrev s_law_waits_right : Stmt := top 70
abbrev s_law_asking_right : Stmt := top 71
abbrev s_law_answers_right : Stmt := top 72
abbrev s_law : Stmt := top 73
end HH
def tst0 (K : Fg) : Bool := decide (PySem.W.nsIn K mainGlobals "len" = some none) && (decide (PySem.W.nsIn K mainGlobals "int" = some none) && (decide (PySem.W.nsIn K mainGlobals "str" = some none) && (decide (PySem.W.nsIn K mainGlobals "range" = some none) && (decide (PySem.W.nsIn K mainGlobals "list" = some none) && (decide (PySem.W.nsIn K mainGlobals "tuple" = some none) && (decide (PySem.W.nsIn K mainGlobals "dict" = some none) && (decide (PySem.W.nsIn K mainGlobals "set" = some none))))))))
def tst1 (K : Fg) : Bool := decide (PySem.W.nsIn K mainGlobals "sorted" = some none) && (decide (PySem.W.nsIn K mainGlobals "isinstance" = some none) && (decide (PySem.W.nsIn K mainGlobals "repr" = some none) && (decide (PySem.W.nsIn K mainGlobals "max" = some none) && (decide (PySem.W.nsIn K mainGlobals "min" = some none) && (decide (PySem.W.nsIn K mainGlobals "sum" = some none) && (decide (PySem.W.nsIn K mainGlobals "all" = some none) && (decide (PySem.W.nsIn K mainGlobals "any" = some none))))))))
def tst2 (K : Fg) : Bool := decide (PySem.W.nsIn K mainGlobals "zip" = some none) && (decide (PySem.W.nsIn K mainGlobals "enumerate" = some none) && (decide (PySem.W.nsIn K mainGlobals "bool" = some none) && (decide (PySem.W.nsIn K mainGlobals "reversed" = some none) && (decide (PySem.W.nsIn K mainGlobals "type" = some none) && (isStrG K "LETTERS" "ABCDEFGHIJKLMNOPQRSTUVWXYZabcdefghijklmnopqrstuvwxyz" && (isStrG K "ATOM" "atom" && (isStrG K "NO" "no")))))))
def tst3 (K : Fg) : Bool := isStrG K "IF_formulas" "if" && (isStrG K "ALL_formulas" "all" && (decide (PySem.W.nsIn K mainGlobals "PARTS_OF" = some (some (.ref (gA K "PARTS_OF")))) && (isDic K (gA K "PARTS_OF") && (decide (((gA K "PARTS_OF") == sysModules) = false) && (isIntIn K (gA K "PARTS_OF") "atom" 1 && (isIntIn K (gA K "PARTS_OF") "no" 0 && (isIntIn K (gA K "PARTS_OF") "if" 2)))))))
def tst4 (K : Fg) : Bool := isIntIn K (gA K "PARTS_OF") "all" 1 && (isStrG K "ALL_AHEAD" "all " && (isStrG K "BETWEEN" " > " && (isStrG K "ALL_heights" "all" && (isStrG K "IF_heights" "if" && (isIntIn K mainGlobals "PAIR_PARTS" 2 && (isStrG K "CAPITALS" "ABCDEFGHIJKLMNOPQRSTUVWXYZ" && (isStrG K "ROWS" "rows")))))))
def tst5 (K : Fg) : Bool := isStrG K "ORDER" "order" && (isStrG K "MINE" "m" && (isStrG K "OTHERS" "o" && (isIntIn K mainGlobals "MOST_PLAYERS" 5 && (decide (PySem.W.nsIn K mainGlobals "Formula" = some (some (.ref (gA K "Formula")))) && (decide (PySem.W.plainGet K (gA K "Formula") Str.empty = true) && (decide (PySem.W.hasDictIn K (gA K "Formula") = true) && (decide (PySem.W.plainOver K (gA K "Formula") = true))))))))
def tst6 (K : Fg) : Bool := decide (PySem.W.findIn K (.ref (gA K "Formula")) "__setattr__" = some (some (.builtin "object.__setattr__"))) && (decide (PySem.W.makesIn K (gA K "Formula") = true) && (decide (PySem.W.keepIn K (.ref (gA K "Formula")) = true) && (decide (PySem.W.findIn K (.ref (gA K "Formula")) "kind" = some none) && (decide (PySem.W.findIn K (.ref (gA K "Formula")) "parts" = some none) && (decide (PySem.W.findIn K (.ref (gA K "Formula")) "many" = some none) && (decide (PySem.W.findIn K (.ref (gA K "Formula")) "deepest" = some none) && (decide (PySem.W.findIn K (.ref (gA K "Formula")) "atoms" = some none))))))))
def tst7 (K : Fg) : Bool := decide (PySem.W.findIn K (.ref (gA K "Formula")) "bare" = some none) && (decide (PySem.W.findIn K (.ref (gA K "Formula")) "spelled" = some none) && (decide (PySem.W.findIn K (.ref (gA K "Formula")) "alls_known" = some none) && (decide (PySem.W.findIn K (.ref (gA K "Formula")) "__class__" = some (some (.builtin "object.__class__"))) && (decide (PySem.W.specialIn K (.builtin "object.__class__") "__get__" = some (some (.builtin "getset_descriptor.__get__"))) && (decide (PySem.W.takesIn K (.builtin "object.__class__") = some true) && (decide (PySem.W.mroIn K (gA K "Formula") (.type "object") = some true) && (decide (PySem.W.kitOne K (.ref (gA K "Formula")) (.ref (gA K "Formula")) = some true))))))))
def tst8 (K : Fg) : Bool := decide (PySem.W.selfFirst K (gA K "Formula") = true) && (decide (PySem.W.kitOne K (.type "str") (.ref (gA K "Formula")) = some false) && (decide (PySem.W.nsIn K mainGlobals "Book" = some (some (.ref (gA K "Book")))) && (decide (PySem.W.plainGet K (gA K "Book") Str.empty = true) && (decide (PySem.W.hasDictIn K (gA K "Book") = true) && (decide (PySem.W.plainOver K (gA K "Book") = true) && (decide (PySem.W.findIn K (.ref (gA K "Book")) "__setattr__" = some (some (.builtin "object.__setattr__"))) && (decide (PySem.W.makesIn K (gA K "Book") = true))))))))
def tst9 (K : Fg) : Bool := decide (PySem.W.keepIn K (.ref (gA K "Book")) = true) && (decide (PySem.W.findIn K (.ref (gA K "Book")) "forms_by_name" = some none) && (decide (PySem.W.findIn K (.ref (gA K "Book")) "levels_played" = some none) && (decide (PySem.W.findIn K (.ref (gA K "Book")) "__class__" = some (some (.builtin "object.__class__"))) && (decide (PySem.W.specialIn K (.builtin "object.__class__") "__get__" = some (some (.builtin "getset_descriptor.__get__"))) && (decide (PySem.W.takesIn K (.builtin "object.__class__") = some true) && (decide (PySem.W.mroIn K (gA K "Book") (.type "object") = some true) && (decide (PySem.W.kitOne K (.ref (gA K "Book")) (.ref (gA K "Book")) = some true))))))))
def tst10 (K : Fg) : Bool := decide (PySem.W.selfFirst K (gA K "Book") = true) && (decide (PySem.W.kitOne K (.type "str") (.ref (gA K "Book")) = some false) && (decide (PySem.W.nsIn K mainGlobals "ord" = some none) && (decide (PySem.W.nsIn K mainGlobals "united" = some (some (.ref (gA K "united")))) && (decide (PySem.W.nsIn K mainGlobals "merged" = some (some (.ref (gA K "merged")))) && (decide (PySem.W.nsIn K mainGlobals "is_atom" = some (some (.ref (gA K "is_atom")))) && (decide (PySem.W.findIn K (.ref (gA K "Formula")) "__init__" = some (some (.ref (mA K "Formula" "__init__")))) && (decide (PySem.W.isFn K (.ref (mA K "Formula" "__init__")) = true))))))))
def tst11 (K : Fg) : Bool := decide (PySem.W.keepIn K (.ref (mA K "Formula" "__init__")) = true) && (decide (PySem.W.nsIn K mainGlobals "no" = some (some (.ref (gA K "no")))) && (decide (PySem.W.nsIn K mainGlobals "every" = some (some (.ref (gA K "every")))) && (decide (PySem.W.nsIn K mainGlobals "as_formula" = some (some (.ref (gA K "as_formula")))) && (decide (PySem.W.nsIn K mainGlobals "operand" = some (some (.ref (gA K "operand")))) && (decide (PySem.W.findIn K (.ref (gA K "Formula")) "__invert__" = some (some (.ref (mA K "Formula" "__invert__")))) && (decide (PySem.W.isFn K (.ref (mA K "Formula" "__invert__")) = true) && (decide (PySem.W.keepIn K (.ref (mA K "Formula" "__invert__")) = true))))))))
def tst12 (K : Fg) : Bool := decide (PySem.W.nsIn K mainGlobals "both" = some (some (.ref (gA K "both")))) && (decide (PySem.W.nsIn K mainGlobals "either" = some (some (.ref (gA K "either")))) && (decide (PySem.W.findIn K (.ref (gA K "Formula")) "__and__" = some (some (.ref (mA K "Formula" "__and__")))) && (decide (PySem.W.isFn K (.ref (mA K "Formula" "__and__")) = true) && (decide (PySem.W.keepIn K (.ref (mA K "Formula" "__and__")) = true) && (decide (PySem.W.findIn K (.ref (gA K "Formula")) "__or__" = some (some (.ref (mA K "Formula" "__or__")))) && (decide (PySem.W.isFn K (.ref (mA K "Formula" "__or__")) = true) && (decide (PySem.W.keepIn K (.ref (mA K "Formula" "__or__")) = true))))))))
def tst13 (K : Fg) : Bool := decide (PySem.W.findIn K (.ref (gA K "Formula")) "__str__" = some (some (.ref (mA K "Formula" "__str__")))) && (decide (PySem.W.isFn K (.ref (mA K "Formula" "__str__")) = true) && (decide (PySem.W.keepIn K (.ref (mA K "Formula" "__str__")) = true) && (decide (PySem.W.findIn K (.ref (gA K "Formula")) "alls" = some (some (.ref (mA K "Formula" "alls")))) && (decide (PySem.W.specialIn K (.ref (mA K "Formula" "alls")) "__get__" = some (some (.builtin "property.__get__"))) && (decide (PySem.W.takesIn K (.ref (mA K "Formula" "alls")) = some true) && (decide (PySem.W.recIn K (mA K "Formula" "alls") "property" = some (.ref (pF K "Formula" "alls") :: (pR K "Formula" "alls"))) && (decide (PySem.W.nsIn K mainGlobals "yes" = some (some (.ref (gA K "yes")))))))))))
def tst14 (K : Fg) : Bool := decide (PySem.W.nsIn K mainGlobals "atom" = some (some (.ref (gA K "atom")))) && (decide (PySem.W.nsIn K mainGlobals "holds_below" = some (some (.ref (gA K "holds_below")))) && (decide (PySem.W.nsIn K mainGlobals "formula_for" = some (some (.ref (gA K "formula_for")))) && (decide (PySem.W.nsIn K mainGlobals "held" = some (some (.ref (gA K "held")))) && (decide (PySem.W.nsIn K mainGlobals "values_by_heights" = some (some (.ref (gA K "values_by_heights")))) && (decide (PySem.W.nsIn K mainGlobals "trace" = some (some (.ref (gA K "trace")))) && (decide (PySem.W.nsIn K mainGlobals "is_mark" = some (some (.ref (gA K "is_mark")))) && (decide (PySem.W.nsIn K mainGlobals "is_rule" = some (some (.ref (gA K "is_rule")))))))))))
def tst15 (K : Fg) : Bool := decide (PySem.W.nsIn K mainGlobals "holds_by" = some (some (.ref (gA K "holds_by")))) && (decide (PySem.W.nsIn K mainGlobals "inner_by_text" = some (some (.ref (gA K "inner_by_text")))) && (decide (PySem.W.nsIn K mainGlobals "state_behind" = some (some (.ref (gA K "state_behind")))) && (decide (PySem.W.nsIn K mainGlobals "levels_of" = some (some (.ref (gA K "levels_of")))) && (decide (PySem.W.nsIn K mainGlobals "are_ascending" = some (some (.ref (gA K "are_ascending")))) && (decide (PySem.W.nsIn K mainGlobals "is_player" = some (some (.ref (gA K "is_player")))) && (decide (PySem.W.nsIn K mainGlobals "check_rows" = some (some (.ref (gA K "check_rows")))) && (decide (PySem.W.findIn K (.ref (gA K "Book")) "__init__" = some (some (.ref (mA K "Book" "__init__")))))))))))
def tst16 (K : Fg) : Bool := decide (PySem.W.isFn K (.ref (mA K "Book" "__init__")) = true) && (decide (PySem.W.keepIn K (.ref (mA K "Book" "__init__")) = true) && (decide (PySem.W.findIn K (.ref (gA K "Book")) "check_known" = some (some (.ref (mA K "Book" "check_known")))) && (decide (PySem.W.isFn K (.ref (mA K "Book" "check_known")) = true) && (decide (PySem.W.keepIn K (.ref (mA K "Book" "check_known")) = true) && (decide (PySem.W.findIn K (.ref (gA K "Book")) "deeds_of" = some (some (.ref (mA K "Book" "deeds_of")))) && (decide (PySem.W.isFn K (.ref (mA K "Book" "deeds_of")) = true) && (decide (PySem.W.keepIn K (.ref (mA K "Book" "deeds_of")) = true))))))))
def tst17 (K : Fg) : Bool := decide (PySem.W.findIn K (.ref (gA K "Book")) "end" = some (some (.ref (mA K "Book" "end")))) && (decide (PySem.W.isFn K (.ref (mA K "Book" "end")) = true) && (decide (PySem.W.keepIn K (.ref (mA K "Book" "end")) = true) && (decide (PySem.W.findIn K (.ref (gA K "Book")) "rest" = some (some (.ref (mA K "Book" "rest")))) && (decide (PySem.W.isFn K (.ref (mA K "Book" "rest")) = true) && (decide (PySem.W.keepIn K (.ref (mA K "Book" "rest")) = true) && (decide (PySem.W.nsIn K mainGlobals "_law_deck" = some (some (.ref (gA K "_law_deck")))) && (decide (PySem.W.nsIn K mainGlobals "_law_draw" = some (some (.ref (gA K "_law_draw")))))))))))
def tst18 (K : Fg) : Bool := decide (PySem.W.nsIn K mainGlobals "_law_pick" = some (some (.ref (gA K "_law_pick")))) && (decide (PySem.W.nsIn K mainGlobals "row_formula" = some (some (.ref (gA K "row_formula")))) && (decide (PySem.W.findIn K (.ref (gA K "Book")) "form" = some (some (.ref (mA K "Book" "form")))) && (decide (PySem.W.isFn K (.ref (mA K "Book" "form")) = true) && (decide (PySem.W.keepIn K (.ref (mA K "Book" "form")) = true) && (decide (PySem.W.nsIn K mainGlobals "_law_deep" = some (some (.ref (gA K "_law_deep")))) && (decide (PySem.W.nsIn K mainGlobals "_law_first" = some (some (.ref (gA K "_law_first")))) && (decide (PySem.W.nsIn K mainGlobals "_law_told" = some (some (.ref (gA K "_law_told")))))))))))
def tst19 (K : Fg) : Bool := decide (PySem.W.nsIn K mainGlobals "_law_book" = some (some (.ref (gA K "_law_book")))) && (isCdR K (gA K "_law_book") && (isCd K (cdA K (gA K "_law_book")) (tbA K (gA K "_law_book")) && (decide (PySem.W.nsIn K mainGlobals "_law_names" = some (some (.ref (gA K "_law_names")))) && (decide (PySem.W.nsIn K mainGlobals "_law_waits_right" = some (some (.ref (gA K "_law_waits_right")))) && (decide (PySem.W.nsIn K mainGlobals "_law_asking_right" = some (some (.ref (gA K "_law_asking_right")))) && (decide (PySem.W.nsIn K mainGlobals "_law_answers_right" = some (some (.ref (gA K "_law_answers_right")))) && (decide (PySem.W.nsIn K mainGlobals "law" = some (some (.ref (gA K "law")))))))))))
def tsts_0 : List (Fg → Bool) := [tst0, tst1, tst2, tst3, tst4, tst5, tst6, tst7, tst8, tst9, tst10, tst11]
def tsts_1 : List (Fg → Bool) := [tst12, tst13, tst14, tst15, tst16, tst17, tst18, tst19]
def tsts : List (Fg → Bool) := tsts_0 ++ (tsts_1)
def dT1 : DefT := ⟨fun K => (gA K "united"), "united", "united", HH.s_united, false⟩
def dT2 : DefT := ⟨fun K => (gA K "merged"), "merged", "merged", HH.s_merged, false⟩
def dT3 : DefT := ⟨fun K => (gA K "is_atom"), "is_atom", "is_atom", HH.s_is_atom, false⟩
def dT4 : DefT := ⟨fun K => (mA K "Formula" "__init__"), "__init__", "Formula.__init__", HH.s_Formula___init__, false⟩
def dT5 : DefT := ⟨fun K => (gA K "no"), "no", "no", HH.s_no, false⟩
def dT6 : DefT := ⟨fun K => (gA K "every"), "every", "every", HH.s_every, false⟩
def dT7 : DefT := ⟨fun K => (gA K "as_formula"), "as_formula", "as_formula", HH.s_as_formula, false⟩
def dT8 : DefT := ⟨fun K => (gA K "operand"), "operand", "operand", HH.s_operand, false⟩
def dT9 : DefT := ⟨fun K => (mA K "Formula" "__invert__"), "__invert__", "Formula.__invert__", HH.s_Formula___invert__, false⟩
def dT10 : DefT := ⟨fun K => (gA K "both"), "both", "both", HH.s_both, false⟩
def dT11 : DefT := ⟨fun K => (gA K "either"), "either", "either", HH.s_either, false⟩
def dT12 : DefT := ⟨fun K => (mA K "Formula" "__and__"), "__and__", "Formula.__and__", HH.s_Formula___and__, false⟩
def dT13 : DefT := ⟨fun K => (mA K "Formula" "__or__"), "__or__", "Formula.__or__", HH.s_Formula___or__, false⟩
def dT14 : DefT := ⟨fun K => (mA K "Formula" "__str__"), "__str__", "Formula.__str__", HH.s_Formula___str__, false⟩
def dT15 : DefT := ⟨fun K => (pF K "Formula" "alls"), "alls", "Formula.alls", HH.s_Formula_alls, false⟩
def dT16 : DefT := ⟨fun K => (gA K "yes"), "yes", "yes", HH.s_yes, false⟩
def dT17 : DefT := ⟨fun K => (gA K "atom"), "atom", "atom", HH.s_atom, false⟩
def dT18 : DefT := ⟨fun K => (gA K "holds_below"), "holds_below", "holds_below", HH.s_holds_below, false⟩
def dT19 : DefT := ⟨fun K => (gA K "formula_for"), "formula_for", "formula_for", HH.s_formula_for, false⟩
def dT20 : DefT := ⟨fun K => (gA K "held"), "held", "held", HH.s_held, false⟩
def dT21 : DefT := ⟨fun K => (gA K "values_by_heights"), "values_by_heights", "values_by_heights", HH.s_values_by_heights, false⟩
def dT22 : DefT := ⟨fun K => (gA K "trace"), "trace", "trace", HH.s_trace, false⟩
def dT23 : DefT := ⟨fun K => (gA K "is_mark"), "is_mark", "is_mark", HH.s_is_mark, false⟩
def dT24 : DefT := ⟨fun K => (gA K "is_rule"), "is_rule", "is_rule", HH.s_is_rule, false⟩
def dT25 : DefT := ⟨fun K => (gA K "holds_by"), "holds_by", "holds_by", HH.s_holds_by, false⟩
def dT26 : DefT := ⟨fun K => (gA K "inner_by_text"), "inner_by_text", "inner_by_text", HH.s_inner_by_text, false⟩
def dT27 : DefT := ⟨fun K => (gA K "state_behind"), "state_behind", "state_behind", HH.s_state_behind, false⟩
def dT28 : DefT := ⟨fun K => (gA K "levels_of"), "levels_of", "levels_of", HH.s_levels_of, false⟩
def dT29 : DefT := ⟨fun K => (gA K "are_ascending"), "are_ascending", "are_ascending", HH.s_are_ascending, false⟩
def dT30 : DefT := ⟨fun K => (gA K "is_player"), "is_player", "is_player", HH.s_is_player, false⟩
def dT31 : DefT := ⟨fun K => (gA K "check_rows"), "check_rows", "check_rows", HH.s_check_rows, false⟩
def dT32 : DefT := ⟨fun K => (mA K "Book" "__init__"), "__init__", "Book.__init__", HH.s_Book___init__, false⟩
def dT33 : DefT := ⟨fun K => (mA K "Book" "check_known"), "check_known", "Book.check_known", HH.s_Book_check_known, false⟩
def dT34 : DefT := ⟨fun K => (mA K "Book" "deeds_of"), "deeds_of", "Book.deeds_of", HH.s_Book_deeds_of, false⟩
def dT35 : DefT := ⟨fun K => (mA K "Book" "end"), "end", "Book.end", HH.s_Book_end, false⟩
def dT36 : DefT := ⟨fun K => (mA K "Book" "rest"), "rest", "Book.rest", HH.s_Book_rest, false⟩
def dT37 : DefT := ⟨fun K => (gA K "_law_deck"), "_law_deck", "_law_deck", HH.s_law_deck, false⟩
def dT38 : DefT := ⟨fun K => (gA K "_law_draw"), "_law_draw", "_law_draw", HH.s_law_draw, false⟩
def dT39 : DefT := ⟨fun K => (gA K "_law_pick"), "_law_pick", "_law_pick", HH.s_law_pick, false⟩
def dT40 : DefT := ⟨fun K => (gA K "row_formula"), "row_formula", "row_formula", HH.s_row_formula, false⟩
def dT41 : DefT := ⟨fun K => (mA K "Book" "form"), "form", "Book.form", HH.s_Book_form, false⟩
def dT42 : DefT := ⟨fun K => (gA K "_law_deep"), "_law_deep", "_law_deep", HH.s_law_deep, false⟩
def dT43 : DefT := ⟨fun K => (gA K "_law_first"), "_law_first", "_law_first", HH.s_law_first, false⟩
def dT44 : DefT := ⟨fun K => (gA K "_law_told"), "_law_told", "_law_told", HH.s_law_told, false⟩
def dT45 : DefT := ⟨fun K => (gA K "_law_book"), "_law_book", "_law_book", HH.s_law_book, false⟩
def dT46 : DefT := ⟨fun K => (gA K "_law_names"), "_law_names", "_law_names", HH.s_law_names, false⟩
def dT47 : DefT := ⟨fun K => (gA K "_law_waits_right"), "_law_waits_right", "_law_waits_right", HH.s_law_waits_right, false⟩
def dT48 : DefT := ⟨fun K => (gA K "_law_asking_right"), "_law_asking_right", "_law_asking_right", HH.s_law_asking_right, false⟩
def dT49 : DefT := ⟨fun K => (gA K "_law_answers_right"), "_law_answers_right", "_law_answers_right", HH.s_law_answers_right, false⟩
def dT50 : DefT := ⟨fun K => (gA K "law"), "law", "law", HH.s_law, false⟩
def dTs_0 : List DefT := [dT1, dT2, dT3, dT4, dT5, dT6, dT7, dT8, dT9, dT10, dT11, dT12]
def dTs_1 : List DefT := [dT13, dT14, dT15, dT16, dT17, dT18, dT19, dT20, dT21, dT22, dT23, dT24]
def dTs_2 : List DefT := [dT25, dT26, dT27, dT28, dT29, dT30, dT31, dT32, dT33, dT34, dT35, dT36]
def dTs_3 : List DefT := [dT37, dT38, dT39, dT40, dT41, dT42, dT43, dT44, dT45, dT46, dT47, dT48]
def dTs_4 : List DefT := [dT49, dT50]
def dTs : List DefT := dTs_0 ++ (dTs_1 ++ (dTs_2 ++ (dTs_3 ++ (dTs_4))))
def dcs_0 : List DicT := [⟨fun K => (gA K "PARTS_OF"), ["atom", "no", "if", "all"]⟩]
def dcs : List DicT := dcs_0
def names_0 : List PySem.Str := ["_wall", "__name__", "WebError", "BadFormula", "BadText", "Clash", "BadBook", "UnknownPlayer", "LETTERS", "ATOM", "NO", "IF_formulas"]
def names_1 : List PySem.Str := ["ALL_formulas", "PARTS_OF", "ALL_AHEAD", "BETWEEN", "is_atom", "united", "merged", "Formula", "as_formula", "operand", "both", "either"]
def names_2 : List PySem.Str := ["atom", "no", "yes", "every", "place_of_end", "formula_in", "begun_at", "ALL_heights", "IF_heights", "held", "values_by_heights", "trace"]
def names_3 : List PySem.Str := ["holds_below", "formula_for", "PAIR_PARTS", "CAPITALS", "ROWS", "ORDER", "is_mark", "is_rule", "rows_by", "MINE", "OTHERS", "MOST_PLAYERS"]
def names_4 : List PySem.Str := ["holds_by", "inner_by_text", "row_formula", "state_behind", "levels_of", "are_ascending", "is_player", "check_rows", "Book", "_law_deck", "_law_draw", "_law_pick"]
def names_5 : List PySem.Str := ["_law_deep", "_law_told", "_law_first", "_law_book", "_law_names", "_law_waits_right", "_law_asking_right", "_law_answers_right"]
def names : List PySem.Str := names_0 ++ (names_1 ++ (names_2 ++ (names_3 ++ (names_4 ++ (names_5)))))
def tbs : List (Fg → Addr) := [fun K => (tbA K (gA K "_law_book"))]
abbrev RW_ : PySem.W.OpenRow := PySem.W.OpenLaw.row PySem.Challenge.rw_allbeneath_k76_whole_players_whose_ends
abbrev qW : Program := PySem.W.view RW_.prog [73]
abbrev hkW : PySem.W.Hook := hookTT tsts dTs dcs tbs
def obW (s : PySem.W.SharedT) : AlT × Bool := obTT tsts dTs dcs tbs s
theorem obW_eq (s : PySem.W.SharedT) : obW s = hkW.obs s.abs := obTT_eq s
theorem run_f (w : World) : HandSHeadRun.RunEq RW_ qW hkW obW 40000 names (w.withFollow "special-get-raises" false) := by
  intro os
  kernel_rfl
theorem run_t (w : World) : HandSHeadRun.RunEq RW_ qW hkW obW 40000 names (w.withFollow "special-get-raises" true) := by
  intro os
  kernel_rfl
theorem run_W : ∀ w : World, HandSHeadRun.RunEq RW_ qW hkW obW 40000 names w := PySem.W.byRow2 "special-get-raises" (P := fun w => HandSHeadRun.RunEq RW_ qW hkW obW 40000 names w) run_f run_t
end N
set_option Elab.async false
set_option linter.all false
set_option maxRecDepth 100000
namespace N
open PySem L2
/-- formulas -/
inductive Fm where
  | at (c : Nat) | no | imp (a b : Fm) | all (a : Fm)
  deriving DecidableEq
/-- plain data -/
inductive D where
  | vl (v : V)
  | tup (l : List D)
  | lst (l : List D)
  | dct (ks : List Key) (l : List D)
  | obj (c : Nat) (ns : List Str) (l : List D)
  | fm (f : Fm)
  | scr (l : List V)
  /-- a dict that is pinned -/
  | dcz (ks : List Key) (l : List D)
  /-- a dict whose keys are tuples -/
  | kdd (w : World) (ks : List D) (l : List D)
  /-- a tuple that is known to have no dict of its own -/
  | tupz (l : List D)
@[reducible] def D.int (i : Int) : D := .vl (.int i)
@[reducible] def D.bl (b : Bool) : D := .vl (.bl b)
@[reducible] def D.str (s : Str) : D := .vl (.str s)
@[reducible] def D.non : D := .vl .non
@[reducible] def D.adr (a : Addr) : D := .vl (.ref a)
mutual
/-- the key that a datum is -/
def nkOf : D → Option NestedKey
  | .vl .non => some .none
  | .vl (.bl b) => some (.num (if b = true then 1 else 0))
  | .vl (.int i) => some (.num i)
  | .vl (.str s) => some (.text s)
  | .vl _ => none
  | .tup l => (nkOfL l).map .tup
  | .lst _ => none
  | .dct _ _ => none
  | .obj _ _ _ => none
  | .fm _ => none
  | .scr _ => none
  | .kdd _ _ _ => none
  | .dcz _ _ => none
  | .tupz _ => none
def nkOfL : List D → Option (List NestedKey)
  | [] => some []
  | d :: l => match nkOf d, nkOfL l with
    | some k, some r => some (k :: r)
    | _, _ => none
end
/-- the module's written part, the classes' places -/
structure Kx where
  K : PySem.W.Frag
  cl : Nat → Addr
/-- what is kept of a formula: filled in by the texts that speak of formulas -/
structure FmKit where
  kind : Fm → Str
  many : Fm → Int
  deep : Fm → Int
  atoms : Fm → Str
  bare : Fm → Str
  spell : Fm → Str
  alls : Fm → List Fm
def AllR (R : Addr → Fm → Prop) : List Addr → List Fm → Prop
  | [], fs => fs = []
  | a :: as, fs => ∃ f r, fs = f :: r ∧ R a f ∧ AllR R as r
theorem AllR.imp {R S : Addr → Fm → Prop} (h : ∀ a f, R a f → S a f) : ∀ {as : List Addr} {fs : List Fm}, AllR R as fs → AllR S as fs
  | [], _, e => e
  | _ :: _, _, ⟨f, r, e, x, t⟩ => ⟨f, r, e, h _ _ x, AllR.imp h t⟩
def PartsR (R : Addr → Fm → Prop) : Fm → List V → Prop
  | .at c, ps => ps = [.str ⟨#[c]⟩]
  | .no, ps => ps = []
  | .imp a b, ps => ∃ p q, ps = [.ref p, .ref q] ∧ R p a ∧ R q b
  | .all a, ps => ∃ p, ps = [.ref p] ∧ R p a
theorem PartsR.imp {R S : Addr → Fm → Prop} (h : ∀ a f, R a f → S a f) : ∀ {f : Fm} {ps : List V}, PartsR R f ps → PartsR S f ps
  | .at _, _, e => e
  | .no, _, e => e
  | .imp _ _, _, ⟨p, q, e, x, y⟩ => ⟨p, q, e, h _ _ x, h _ _ y⟩
  | .all _, _, ⟨p, e, x⟩ => ⟨p, e, h _ _ x⟩
section
variable (F : FmKit) (T : Kx)
def fmNames : List Str := ["kind", "parts", "many", "deepest", "atoms", "bare", "spelled", "alls_known"]
def fmFields (f : Fm) (pa al : Addr) : List (Str × V) :=
  [("kind", .str (F.kind f)), ("parts", .ref pa), ("many", .int (F.many f)), ("deepest", .int (F.deep f)), ("atoms", .str (F.atoms f)), ("bare", .str (F.bare f)), ("spelled", .str (F.spell f)), ("alls_known", .ref al)]
def FStep (H : Hp) (R : Addr → Fm → Prop) (a : Addr) (f : Fm) : Prop :=
  ∃ dx pa ps al as, H a = some (.ins (T.cl 0) dx (fmFields F f pa al)) ∧ SqT T.K H pa ps ∧ PartsR R f ps ∧ SqT T.K H al (as.map V.ref) ∧ AllR R as (F.alls f)
def FormAt (H : Hp) (a : Addr) (f : Fm) : Prop := ∃ R : Addr → Fm → Prop, (∀ b g, R b g → FStep F T H R b g) ∧ R a f
end
theorem Same.sqT {K : PySem.W.Frag} {H H' : Hp} {a : Addr} {xs : List V} (e : Same H H') (h : SqT K H a xs) : SqT K H' a xs := by
  rcases h with (h | ⟨o, h⟩) | h
  · exact .inl (.inl (e _ _ h))
  · exact .inl (.inr ⟨o, e _ _ h⟩)
  · exact .inr h
section
variable {F : FmKit} {T : Kx} {H H' : Hp} {R S : Addr → Fm → Prop} {a : Addr} {f : Fm}
theorem FStep.imp (h : ∀ a f, R a f → S a f) (e : Same H H') (x : FStep F T H R a f) : FStep F T H' S a f := by
  obtain ⟨dx, pa, ps, al, as, h1, h2, h3, h4, h5⟩ := x
  exact ⟨dx, pa, ps, al, as, e _ _ h1, Same.sqT e h2, h3.imp h, Same.sqT e h4, h5.imp h⟩
theorem FormAt.mono (e : Same H H') (x : FormAt F T H a f) : FormAt F T H' a f := by
  obtain ⟨R, h, r⟩ := x
  exact ⟨R, fun b g y => (h b g y).imp (fun _ _ z => z) e, r⟩
theorem FormAt.out (x : FormAt F T H a f) : FStep F T H (FormAt F T H) a f := by
  obtain ⟨R, h, r⟩ := x
  exact (h a f r).imp (fun b g y => ⟨R, h, y⟩) (Same.refl _)
theorem FormAt.mk (x : FStep F T H (fun b g => FormAt F T H b g ∨ (b = a ∧ g = f)) a f) : FormAt F T H a f := by
  refine ⟨fun b g => FormAt F T H b g ∨ (b = a ∧ g = f), fun b g y => ?_, .inr ⟨rfl, rfl⟩⟩
  rcases y with y | ⟨rfl, rfl⟩
  · exact y.out.imp (fun _ _ z => .inl z) (Same.refl _)
  · exact x
end
/-- a dict whose keys are nested tuples: its cell alone -/
def NkRaw (w : World) (h : Heap) (p : Addr) (as : List (NestedKey × Addr × V)) : Prop := ∃ (o : Obj) (es : Array DictEntry) (ep : Nat) (us : List (NestedKey × Addr × Value)),
  (p == sysModules) = false ∧ h.get? p = some o ∧ o.ExactDict ∧ o.data = .dict es ep ∧ es.toList = us.map (fun x => (⟨x.1.hash w, .ref x.2.1, x.2.2⟩ : DictEntry)) ∧ Paired (fun (a : NestedKey × Addr × V) (u : NestedKey × Addr × Value) => a.1 = u.1 ∧ a.2.1 = u.2.1 ∧ RelV a.2.2 u.2.2) as us
def NkO (w : World) (p : Addr) (as : List (NestedKey × Addr × V)) : HO := .ext fun h => NkRaw w h p as
mutual
/-- the value is such a key -/
def NkV (K : PySem.W.Frag) (H : Hp) : NestedKey → V → Prop
  | .none, v => v = .non
  | .num i, v => v = .int i ∨ ∃ b : Bool, v = .bl b ∧ i = if b = true then 1 else 0
  | .text s, v => v = .str s
  | .tup ks, v => ∃ a xs, v = .ref a ∧ SqT K H a xs ∧ NkL K H ks xs
def NkL (K : PySem.W.Frag) (H : Hp) : List NestedKey → List V → Prop
  | [], vs => vs = []
  | k :: ks, vs => ∃ v r, vs = v :: r ∧ NkV K H k v ∧ NkL K H ks r
end
mutual
theorem NkV.mono {K : PySem.W.Frag} {H H' : Hp} (e : Same H H') : ∀ (k : NestedKey) (v : V), NkV K H k v → NkV K H' k v
  | .none, _, h => h
  | .num _, _, h => h
  | .text _, _, h => h
  | .tup ks, _, ⟨a, xs, h1, h2, h3⟩ => ⟨a, xs, h1, Same.sqT e h2, NkL.mono e ks xs h3⟩
theorem NkL.mono {K : PySem.W.Frag} {H H' : Hp} (e : Same H H') : ∀ (ks : List NestedKey) (vs : List V), NkL K H ks vs → NkL K H' ks vs
  | [], _, h => h
  | k :: ks, _, ⟨v, r, h1, h2, h3⟩ => ⟨v, r, h1, NkV.mono e k v h2, NkL.mono e ks r h3⟩
end
section
variable (F : FmKit) (T : Kx) (H : Hp)
mutual
def Den : D → V → Prop
  | .vl w, v => v = w
  | .tup l, v => ∃ a xs, v = .ref a ∧ SqT T.K H a xs ∧ DenL l xs
  | .lst l, v => ∃ a xs, v = .ref a ∧ H a = some (.lst xs) ∧ DenL l xs
  | .dct ks l, v => ∃ a kvs, v = .ref a ∧ H a = some (.dK kvs) ∧ kvs.map (·.1) = ks ∧ ks.Nodup ∧ DenL l (kvs.map (·.2))
  | .dcz ks l, v => ∃ a o kvs, v = .ref a ∧ H a = some (.frz o (.dK kvs)) ∧ kvs.map (·.1) = ks ∧ ks.Nodup ∧ DenL l (kvs.map (·.2))
  | .obj c ns l, v => ∃ a dx fs, v = .ref a ∧ H a = some (.ins (T.cl c) dx fs) ∧ fs.map (·.1) = ns ∧ DenL l (fs.map (·.2))
  | .fm f, v => ∃ a, v = .ref a ∧ FormAt F T H a f
  | .scr l, v => ∃ a, v = .ref a ∧ SqL T.K H a l
  | .kdd w ks l, v => ∃ a o as, v = .ref a ∧ H a = some (.frz o (NkO w a as)) ∧ (as.map fun z => some z.1) = ks.map nkOf ∧ (as.map (·.1)).Nodup ∧ (∀ z ∈ as, NkV T.K H z.1 (.ref z.2.1) ∧ z.1.depth ≤ 8) ∧ DenL ks (as.map fun z => .ref z.2.1) ∧ DenL l (as.map (·.2.2))
  | .tupz l, v => ∃ a xs o, v = .ref a ∧ H a = some (.frz o (.tup xs)) ∧ o.dict = none ∧ DenL l xs
def DenL : List D → List V → Prop
  | [], vs => vs = []
  | d :: l, vs => ∃ v r, vs = v :: r ∧ Den d v ∧ DenL l r
end
end
section
variable {F : FmKit} {T : Kx} {H H' : Hp}
mutual
theorem Den.mono (e : Same H H') : ∀ (d : D) (v : V), Den F T H d v → Den F T H' d v
  | .vl _, _, h => h
  | .tup l, _, ⟨a, xs, h1, h2, h3⟩ => ⟨a, xs, h1, Same.sqT e h2, DenL.mono e l xs h3⟩
  | .lst l, _, ⟨a, xs, h1, h2, h3⟩ => ⟨a, xs, h1, e _ _ h2, DenL.mono e l xs h3⟩
  | .dct ks l, _, ⟨a, kvs, h1, h2, h3, h4, h5⟩ => ⟨a, kvs, h1, e _ _ h2, h3, h4, DenL.mono e l _ h5⟩
  | .dcz ks l, _, ⟨a, o, kvs, h1, h2, h3, h4, h5⟩ => ⟨a, o, kvs, h1, e _ _ h2, h3, h4, DenL.mono e l _ h5⟩
  | .obj c ns l, _, ⟨a, dx, fs, h1, h2, h3, h4⟩ => ⟨a, dx, fs, h1, e _ _ h2, h3, DenL.mono e l _ h4⟩
  | .fm f, _, ⟨a, h1, h2⟩ => ⟨a, h1, h2.mono e⟩
  | .scr l, _, ⟨a, h1, h2⟩ => ⟨a, h1, e.seq h2⟩
  | .kdd w ks l, _, ⟨a, o, as, h1, h2, h3, h4, h5, h6, h7⟩ => ⟨a, o, as, h1, e _ _ h2, h3, h4, fun z hz => ⟨NkV.mono e _ _ (h5 z hz).1, (h5 z hz).2⟩, DenL.mono e ks _ h6, DenL.mono e l _ h7⟩
  | .tupz l, _, ⟨a, xs, o, h1, h2, h3, h4⟩ => ⟨a, xs, o, h1, e _ _ h2, h3, DenL.mono e l xs h4⟩
theorem DenL.mono (e : Same H H') : ∀ (l : List D) (vs : List V), DenL F T H l vs → DenL F T H' l vs
  | [], _, h => h
  | d :: l, _, ⟨v, r, h1, h2, h3⟩ => ⟨v, r, h1, Den.mono e d v h2, DenL.mono e l r h3⟩
end
theorem DenL.len : ∀ {l : List D} {vs : List V}, DenL F T H l vs → vs.length = l.length
  | [], _, h => by
    have h : _ = [] := h
    rw [h]
    rfl
  | d :: l, _, ⟨v, r, h1, _, h3⟩ => by
    rw [h1, List.length_cons, List.length_cons, DenL.len h3]
theorem DenL.get : ∀ {l : List D} {vs : List V} {i : Nat} {d : D}, DenL F T H l vs → l[i]? = some d → ∃ v, vs[i]? = some v ∧ Den F T H d v
  | [], _, i, d, _, e => by simp at e
  | x :: l, _, 0, d, ⟨v, r, h1, h2, _⟩, e => by
    subst h1
    have e : x = d := Option.some.inj e
    subst e
    exact ⟨v, rfl, h2⟩
  | x :: l, _, i + 1, d, ⟨v, r, h1, _, h3⟩, e => by
    subst h1
    exact DenL.get (i := i) (d := d) h3 e
theorem DenL.at : ∀ {l : List D} {vs : List V} {i : Nat} {v : V}, DenL F T H l vs → vs[i]? = some v → ∃ d, l[i]? = some d ∧ Den F T H d v
  | [], _, i, v, h, e => by
    have h : _ = [] := h
    rw [h] at e
    simp at e
  | x :: l, _, 0, v, ⟨u, r, h1, h2, _⟩, e => by
    subst h1
    have e : u = v := Option.some.inj e
    subst e
    exact ⟨x, rfl, h2⟩
  | x :: l, _, i + 1, v, ⟨u, r, h1, _, h3⟩, e => by
    subst h1
    exact DenL.at (i := i) (v := v) h3 e
theorem DenL.app : ∀ {l m : List D} {vs us : List V}, DenL F T H l vs → DenL F T H m us → DenL F T H (l ++ m) (vs ++ us)
  | [], m, _, us, h, k => by
    have h : _ = [] := h
    subst h
    exact k
  | d :: l, m, _, us, ⟨v, r, h1, h2, h3⟩, k => by
    subst h1
    exact ⟨v, r ++ us, rfl, h2, DenL.app h3 k⟩
theorem DenL.app_inv : ∀ {l m : List D} {vs : List V}, DenL F T H (l ++ m) vs → ∃ us ws, vs = us ++ ws ∧ DenL F T H l us ∧ DenL F T H m ws
  | [], m, vs, h => ⟨[], vs, rfl, rfl, h⟩
  | d :: l, m, _, ⟨v, r, h1, h2, h3⟩ => by
    obtain ⟨us, ws, e, p, q⟩ := DenL.app_inv (l := l) h3
    exact ⟨v :: us, ws, by rw [h1, e] <;> rfl, ⟨v, us, rfl, h2, p⟩, q⟩
theorem DenL.set : ∀ {l : List D} {vs : List V} {i : Nat} {d : D} {v : V}, DenL F T H l vs → Den F T H d v → DenL F T H (l.set i d) (vs.set i v)
  | [], _, i, d, v, h, _ => by
    have h : _ = [] := h
    subst h
    rfl
  | x :: l, _, 0, d, v, ⟨u, r, h1, _, h3⟩, k => by
    subst h1
    exact ⟨v, r, rfl, k, h3⟩
  | x :: l, _, i + 1, d, v, ⟨u, r, h1, h2, h3⟩, k => by
    subst h1
    exact ⟨u, r.set i v, rfl, h2, DenL.set h3 k⟩
theorem DenL.one {d : D} {v : V} (h : Den F T H d v) : DenL F T H [d] [v] := ⟨v, [], rfl, h, rfl⟩
theorem DenL.vls (vs : List V) : DenL F T H (vs.map D.vl) vs := by
  induction vs with
  | nil => rfl
  | cons v r ih => exact ⟨v, r, rfl, rfl, ih⟩
theorem DenL.vls_inv : ∀ {ws vs : List V}, DenL F T H (ws.map D.vl) vs → vs = ws
  | [], _, h => h
  | w :: ws, _, ⟨v, r, h1, h2, h3⟩ => by
    have h2 : v = w := h2
    rw [h1, h2, DenL.vls_inv (ws := ws) h3]
theorem DenL.reverse : ∀ {l : List D} {vs : List V}, DenL F T H l vs → DenL F T H l.reverse vs.reverse
  | [], _, h => by
    have h : _ = [] := h
    subst h
    rfl
  | d :: l, _, ⟨v, r, h1, h2, h3⟩ => by
    subst h1
    rw [List.reverse_cons, List.reverse_cons]
    exact (DenL.reverse h3).app (DenL.one h2)
theorem DenL.take : ∀ {l : List D} {vs : List V} (n : Nat), DenL F T H l vs → DenL F T H (l.take n) (vs.take n)
  | l, vs, 0, _ => by
    rw [List.take_zero, List.take_zero]
    rfl
  | [], _, n + 1, h => by
    have h : _ = [] := h
    subst h
    rfl
  | d :: l, _, n + 1, ⟨v, r, h1, h2, h3⟩ => by
    subst h1
    exact ⟨v, r.take n, rfl, h2, DenL.take n h3⟩
theorem DenL.drop : ∀ {l : List D} {vs : List V} (n : Nat), DenL F T H l vs → DenL F T H (l.drop n) (vs.drop n)
  | l, vs, 0, h => h
  | [], _, n + 1, h => by
    have h : _ = [] := h
    subst h
    rfl
  | d :: l, _, n + 1, ⟨v, r, h1, h2, h3⟩ => by
    subst h1
    exact DenL.drop n h3
end
def ov (O H : Hp) : Hp := fun b => match O b with | some o => some o | none => H b
def Dis (O H : Hp) : Prop := ∀ b o, O b = some o → H b = none
section
variable {O O' H H' : Hp} {a b : Addr} {o u : HO}
theorem ov_own (h : O b = some o) : ov O H b = some o := by
  unfold ov
  rw [h]
theorem ov_fro (h : O b = none) : ov O H b = H b := by
  unfold ov
  rw [h]
theorem ov_none (h : ov O H b = none) : O b = none ∧ H b = none := by
  unfold ov at h
  cases e : O b with
  | none =>
    rw [e] at h
    exact ⟨rfl, h⟩
  | some o =>
    rw [e] at h
    cases h
theorem Dis.same (d : Dis O H) : Same H (ov O H) := fun b o h => by
  cases e : O b with
  | none => rw [ov_fro e, h]
  | some x =>
    rw [d b x e] at h
    cases h
theorem ov_updH (h : O a = none) : upd (ov O H) a o = ov O (upd H a o) := by
  funext b
  by_cases e : b = a
  · subst e
    rw [upd_same, ov_fro h, upd_same]
  · rw [upd_ne e]
    unfold ov
    rw [upd_ne e]
theorem ov_updO : upd (ov O H) a o = ov (upd O a o) H := by
  funext b
  by_cases e : b = a
  · subst e
    rw [upd_same, ov_own upd_same]
  · rw [upd_ne e]
    unfold ov
    rw [upd_ne e]
theorem Dis.updH (d : Dis O H) (h : O a = none) : Dis O (upd H a o) := fun b x e => by
  have n : b ≠ a := fun q => by
    subst q
    rw [h] at e
    cases e
  rw [upd_ne n]
  exact d b x e
theorem Dis.updO (d : Dis O H) (h : H a = none) : Dis (upd O a o) H := fun b x e => by
  by_cases q : b = a
  · subst q
    exact h
  · rw [upd_ne q] at e
    exact d b x e
theorem same_upd (h : H a = none) : Same H (upd H a o) := fun b x e => by
  rw [upd_ne (ne_of_none e h)]
  exact e
/-- a cell taken out -/
def del (O : Hp) (a : Addr) : Hp := fun b => if b = a then none else O b
theorem del_same : del O a a = none := by
  unfold del
  rw [if_pos rfl]
theorem del_ne (h : b ≠ a) : del O a b = O b := by
  unfold del
  rw [if_neg h]
theorem ov_freeze (h : O a = some o) : ov O H = ov (del O a) (upd H a o) := by
  funext b
  by_cases e : b = a
  · subst e
    rw [ov_own h, ov_fro del_same, upd_same]
  · unfold ov
    rw [del_ne e, upd_ne e]
theorem Dis.freeze (d : Dis O H) : Dis (del O a) (upd H a o) := fun b x e => by
  by_cases q : b = a
  · subst q
    rw [del_same] at e
    cases e
  · rw [del_ne q] at e
    rw [upd_ne q]
    exact d b x e
end
end N
set_option Elab.async false
set_option linter.all false
set_option maxRecDepth 100000
namespace N
open PySem L2
/-- what an owned cell holds -/
inductive OD where
  | lst (l : List D)
  | dct (ks : List Key) (l : List D)
  | ins (c : Nat) (ns : List Str) (l : List D)
  | any (o : HO)
  | lk (z : Obj) (kvs : List (Key × V)) (ks : List Key) (l : List D)
  | nk (w : World) (p : Addr) (ks : List (NestedKey × D))
  | kd (w : World) (p : Addr) (ps : List (D × D))
  | xd (ns : List Str) (l : List D)
abbrev Gm := List (Option D)
abbrev Om := List (Addr × OD)
def akeys (W : Om) : List Addr := W.map (·.1)
section
variable (F : FmKit) (T : Kx)
def OdAt (H : Hp) (x : Option HO) : OD → Prop
  | .lst l => ∃ xs, x = some (.lst xs) ∧ DenL F T H l xs
  | .dct ks l => ∃ kvs, x = some (.dK kvs) ∧ kvs.map (·.1) = ks ∧ ks.Nodup ∧ DenL F T H l (kvs.map (·.2))
  | .ins c ns l => ∃ dx fs, x = some (.ins (T.cl c) dx fs) ∧ fs.map (·.1) = ns ∧ DenL F T H l (fs.map (·.2))
  | .any o => x = some o
  | .lk z kvs ks l => x = some (.frz z (.dK kvs)) ∧ kvs.map (·.1) = ks ∧ ks.Nodup ∧ DenL F T H l (kvs.map (·.2))
  | .nk w p ks => ∃ as, x = some (NkO w p as) ∧ as.map (·.1) = ks.map (·.1) ∧ (ks.map (·.1)).Nodup ∧ (∀ z ∈ as, NkV T.K H z.1 (.ref z.2.1) ∧ z.1.depth ≤ 8) ∧ DenL F T H (ks.map (·.2)) (as.map (·.2.2))
  | .kd w p ps => ∃ as, x = some (NkO w p as) ∧ (as.map fun z => some z.1) = ps.map (fun z => nkOf z.1) ∧ (as.map (·.1)).Nodup ∧ (∀ z ∈ as, NkV T.K H z.1 (.ref z.2.1) ∧ z.1.depth ≤ 8) ∧ DenL F T H (ps.map (·.1)) (as.map fun z => .ref z.2.1) ∧ DenL F T H (ps.map (·.2)) (as.map (·.2.2))
  | .xd ns l => ∃ fs, x = some (.xd fs) ∧ fs.map (·.1) = ns ∧ DenL F T H l (fs.map (·.2))
/-- the slots -/
structure Lo (H : Hp) (G : Gm) (σ : St) : Prop where
  len : σ.length = G.length
  at_ : ∀ (i : Nat) (d : D), G[i]? = some (some d) → ∃ v, σ[i]? = some (some v) ∧ Den F T H d v
structure Ow (H C O : Hp) (W : Om) : Prop where
  nd : (akeys W).Nodup
  at_ : ∀ a od, (a, od) ∈ W → C a = none ∧ OdAt F T H (O a) od
/-- frozen H, owned O (the callers' part C of it), slots, owned cells -/
structure Wd (C : Hp) (G : Gm) (W : Om) (H O : Hp) (σ : St) : Prop where
  dis : Dis O H
  oc : Same C O
  loc : Lo F T H G σ
  own : Ow F T H C O W
/-- behind a step -/
structure Nx (C : Hp) (W : Om) (H H' O' : Hp) : Prop where
  ext : Same H H'
  dis : Dis O' H'
  oc : Same C O'
  own : Ow F T H' C O' W
end
section
variable {F : FmKit} {T : Kx} {H H' H1 C O O' : Hp} {G : Gm} {W W' : Om} {σ : St}
theorem OdAt.mono {x : Option HO} (e : Same H H') : ∀ {od : OD}, OdAt F T H x od → OdAt F T H' x od
  | .lst l, ⟨xs, h, k⟩ => ⟨xs, h, k.mono e⟩
  | .dct ks l, ⟨kvs, h, n, d, k⟩ => ⟨kvs, h, n, d, k.mono e⟩
  | .ins c ns l, ⟨dx, fs, h, n, k⟩ => ⟨dx, fs, h, n, k.mono e⟩
  | .any o, h => h
  | .lk z kvs ks l, ⟨h, n, d, k⟩ => ⟨h, n, d, k.mono e⟩
  | .nk w p ks, ⟨as, h, n, d, k, q⟩ => ⟨as, h, n, d, fun z hz => ⟨NkV.mono e _ _ (k z hz).1, (k z hz).2⟩, q.mono e⟩
  | .kd w p ps, ⟨as, h, n, d, k, q, r⟩ => ⟨as, h, n, d, fun z hz => ⟨NkV.mono e _ _ (k z hz).1, (k z hz).2⟩, q.mono e, r.mono e⟩
  | .xd ns l, ⟨fs, h, n, k⟩ => ⟨fs, h, n, k.mono e⟩
theorem OdAt.some {x : Option HO} : ∀ {od : OD}, OdAt F T H x od → ∃ o, x = some o
  | .lst l, ⟨xs, h, k⟩ => ⟨_, h⟩
  | .dct ks l, ⟨kvs, h, n, d, k⟩ => ⟨_, h⟩
  | .ins c ns l, ⟨dx, fs, h, n, k⟩ => ⟨_, h⟩
  | .any o, h => ⟨_, h⟩
  | .lk z kvs ks l, ⟨h, n, d, k⟩ => ⟨_, h⟩
  | .nk w p ks, ⟨as, h, _⟩ => ⟨_, h⟩
  | .kd w p ps, ⟨as, h, _⟩ => ⟨_, h⟩
  | .xd ns l, ⟨fs, h, n, k⟩ => ⟨_, h⟩
theorem Lo.mono (e : Same H H') (l : Lo F T H G σ) : Lo F T H' G σ :=
  ⟨l.len, fun i d h => let ⟨v, a, b⟩ := l.at_ i d h; ⟨v, a, b.mono e⟩⟩
theorem Lo.set {i : Nat} {d : D} {v : V} (l : Lo F T H G σ) (h : Den F T H d v) : Lo F T H (G.set i (some d)) (σ.set i (some v)) := by
  refine ⟨by rw [List.length_set, List.length_set]; exact l.len, fun j d' e => ?_⟩
  by_cases q : i = j
  · subst q
    have hi : i < G.length := by
      have := (List.getElem?_eq_some_iff.mp e).1
      rwa [List.length_set] at this
    rw [List.getElem?_set_self hi] at e
    have e : d = d' := Option.some.inj (Option.some.inj e)
    subst e
    exact ⟨v, by rw [List.getElem?_set_self (by rw [l.len]; exact hi)], h⟩
  · rw [List.getElem?_set_ne q] at e
    rw [List.getElem?_set_ne q]
    exact l.at_ j d' e
theorem Lo.forget {i : Nat} (l : Lo F T H G σ) (x : Option V) : Lo F T H (G.set i none) (σ.set i x) := by
  refine ⟨by rw [List.length_set, List.length_set]; exact l.len, fun j d' e => ?_⟩
  by_cases q : i = j
  · subst q
    have hi : i < G.length := by
      have := (List.getElem?_eq_some_iff.mp e).1
      rwa [List.length_set] at this
    rw [List.getElem?_set_self hi] at e
    cases e
  · rw [List.getElem?_set_ne q] at e
    rw [List.getElem?_set_ne q]
    exact l.at_ j d' e
theorem Ow.mono (e : Same H H') (o : Ow F T H C O W) : Ow F T H' C O W := ⟨o.nd, fun a od h => ⟨(o.at_ a od h).1, (o.at_ a od h).2.mono e⟩⟩
theorem Ow.notin {a : Addr} (o : Ow F T H C O W) (h : O a = none) : a ∉ akeys W := fun z => by
  obtain ⟨p, hp, e⟩ := List.mem_map.mp z
  obtain ⟨x, q⟩ := (o.at_ p.1 p.2 hp).2.some
  rw [e, h] at q
  cases q
theorem Nx.refl (d : Dis O H) (oc : Same C O) (o : Ow F T H C O W) : Nx F T C W H H O := ⟨Same.refl _, d, oc, o⟩
theorem Wd.nx (w : Wd F T C G W H O σ) : Nx F T C W H H O := ⟨Same.refl _, w.dis, w.oc, w.own⟩
theorem Nx.trans (a : Nx F T C W H H1 O) (b : Nx F T C W' H1 H' O') : Nx F T C W' H H' O' := ⟨a.ext.trans b.ext, b.dis, b.oc, b.own⟩
theorem Wd.step (w : Wd F T C G W H O σ) (n : Nx F T C W' H H' O') : Wd F T C G W' H' O' σ := ⟨n.dis, n.oc, w.loc.mono n.ext, n.own⟩
end
section
variable (F : FmKit) (T : Kx)
/-- te, at the slots G and the owned cells W, gives a d and leaves owned cells so that R -/
def Ev (te : TE) (G : Gm) (W : Om) (R : D → Om → Prop) : Prop :=
  ∀ (C H O : Hp) (σ : St), Wd F T C G W H O σ → ∀ Q : VK, (∀ d W' H' O' v, R d W' → Nx F T C W' H H' O' → Den F T H' d v → Q v (ov O' H')) → te σ (ov O H) Q
def EvT (t : TT) (G : Gm) (W : Om) (R : Bool → Om → Prop) : Prop :=
  ∀ (C H O : Hp) (σ : St), Wd F T C G W H O σ → ∀ Q : Bool → Hp → Prop, (∀ b W' H' O', R b W' → Nx F T C W' H H' O' → Q b (ov O' H')) → t σ (ov O H) Q
def EvA (ta : TA) (G : Gm) (W : Om) (R : List D → Om → Prop) : Prop :=
  ∀ (C H O : Hp) (σ : St), Wd F T C G W H O σ → ∀ Q : List V → Hp → Prop, (∀ ds W' H' O' vs, R ds W' → Nx F T C W' H H' O' → DenL F T H' ds vs → Q vs (ov O' H')) → ta σ (ov O H) Q
def EvO (to : TO) (G : Gm) (W : Om) (R : Option Int → Om → Prop) : Prop :=
  ∀ (C H O : Hp) (σ : St), Wd F T C G W H O σ → ∀ Q : Option Int → Hp → Prop, (∀ i W' H' O', R i W' → Nx F T C W' H H' O' → Q i (ov O' H')) → to σ (ov O H) Q
/-- an operation on two data -/
def Bo (r : R2) (d1 d2 : D) (W : Om) (R : D → Om → Prop) : Prop :=
  ∀ (C H O : Hp), Dis O H → Same C O → Ow F T H C O W → ∀ x y, Den F T H d1 x → Den F T H d2 y → ∀ Q : VK, (∀ d W' H' O' v, R d W' → Nx F T C W' H H' O' → Den F T H' d v → Q v (ov O' H')) → r x y (ov O H) Q
/-- a call on data -/
def Ca (r : List V → Hp → VK → Prop) (ds : List D) (W : Om) (R : D → Om → Prop) : Prop :=
  ∀ (C H O : Hp), Dis O H → Same C O → Ow F T H C O W → ∀ vs, DenL F T H ds vs → ∀ Q : VK, (∀ d W' H' O' v, R d W' → Nx F T C W' H H' O' → Den F T H' d v → Q v (ov O' H')) → r vs (ov O H) Q
structure En where
  nx : Gm → Om → Prop
  rt : D → Om → Prop
  bk : Gm → Om → Prop := fun _ _ => False
  ct : Gm → Om → Prop := fun _ _ => False
/-- the ends at heaps are met by the ends at data -/
structure EnOk (C H : Hp) (E : En) (B : Ends) : Prop where
  nx : ∀ G W H' O' σ', E.nx G W → Nx F T C W H H' O' → Lo F T H' G σ' → B.nx σ' (ov O' H')
  rt : ∀ d W H' O' v, E.rt d W → Nx F T C W H H' O' → Den F T H' d v → B.rt v (ov O' H')
  bk : ∀ G W H' O' σ', E.bk G W → Nx F T C W H H' O' → Lo F T H' G σ' → B.bk σ' (ov O' H')
  ct : ∀ G W H' O' σ', E.ct G W → Nx F T C W H H' O' → Lo F T H' G σ' → B.ct σ' (ov O' H')
def Sw (ts : TS) (G : Gm) (W : Om) (E : En) : Prop :=
  ∀ (C H O : Hp) (σ : St), Wd F T C G W H O σ → ∀ B : Ends, EnOk F T C H E B → ts B σ (ov O H)
/-- a target of names -/
def Tg (g : TG) (d : D) (G : Gm) (R : Gm → Prop) : Prop :=
  ∀ (H H1 : Hp) (σ : St) (v : V), Lo F T H G σ → Same H H1 → Den F T H d v → ∀ Q : St → Hp → Prop, (∀ G' σ', R G' → Lo F T H G' σ' → Q σ' H1) → g v σ H1 Q
/-- an iterator over data -/
def Wk (J : It) (H0 : Hp) (ds : List D) : Prop :=
  ∀ (i : Nat) (H O : Hp), Same H0 H → Dis O H →
    (∀ d, ds[i]? = some d → J.go i (ov O H) ∧ ∀ x H2, J.yld i (ov O H) x H2 → ∃ H', Same H H' ∧ Dis O H' ∧ H2 = ov O H' ∧ Den F T H' d x) ∧ (i = ds.length → J.stop i (ov O H))
def EvI (wi : TI) (G : Gm) (W : Om) (R : List D → Om → Prop) : Prop :=
  ∀ (C H O : Hp) (σ : St), Wd F T C G W H O σ → ∀ Q : It → Hp → Prop, (∀ J ds W' H' O', R ds W' → Nx F T C W' H H' O' → Wk F T J H' ds → Q J (ov O' H')) → wi σ (ov O H) Q
end
def E_ (post : D → Om → Prop) : En := { nx := fun _ W => post .non W, rt := post }
section
variable {F : FmKit} {T : Kx} {C H H' O O' : Hp} {G : Gm} {W W' : Om} {σ : St} {E E' : En} {B : Ends}
theorem EnOk.up (h : EnOk F T C H E B) (e : Same H H') : EnOk F T C H' E B :=
  ⟨fun G W H2 O' σ' a n l => h.nx G W H2 O' σ' a ⟨e.trans n.ext, n.dis, n.oc, n.own⟩ l, fun d W H2 O' v a n l => h.rt d W H2 O' v a ⟨e.trans n.ext, n.dis, n.oc, n.own⟩ l,
   fun G W H2 O' σ' a n l => h.bk G W H2 O' σ' a ⟨e.trans n.ext, n.dis, n.oc, n.own⟩ l, fun G W H2 O' σ' a n l => h.ct G W H2 O' σ' a ⟨e.trans n.ext, n.dis, n.oc, n.own⟩ l⟩
variable {te ta tb : TE} {t u : TT} {R R' : D → Om → Prop} {S S' : Bool → Om → Prop} {tr : TA} {ts tz : TS}
theorem Ev.imp (h : Ev F T te G W R) (i : ∀ d W', R d W' → R' d W') : Ev F T te G W R' := fun C H O σ w Q q => h C H O σ w Q fun d W' H' O' v r n k => q d W' H' O' v (i d W' r) n k
theorem EvT.imp (h : EvT F T t G W S) (i : ∀ b W', S b W' → S' b W') : EvT F T t G W S' := fun C H O σ w Q q => h C H O σ w Q fun d W' H' O' r n => q d W' H' O' (i d W' r) n
theorem Sw.imp (h : Sw F T ts G W E) (h1 : ∀ G W, E.nx G W → E'.nx G W) (h2 : ∀ d W, E.rt d W → E'.rt d W) (h3 : ∀ G W, E.bk G W → E'.bk G W) (h4 : ∀ G W, E.ct G W → E'.ct G W) : Sw F T ts G W E' :=
  fun C H O σ w B b => h C H O σ w B ⟨fun G W H' O' σ' a => b.nx G W H' O' σ' (h1 G W a), fun d W H' O' v a => b.rt d W H' O' v (h2 d W a), fun G W H' O' σ' a => b.bk G W H' O' σ' (h3 G W a), fun G W H' O' σ' a => b.ct G W H' O' σ' (h4 G W a)⟩
theorem ev_var {i : Nat} {d : D} (h : G[i]? = some (some d)) (r : R d W) : Ev F T (tVar i) G W R := fun C H O σ w Q q =>
  let ⟨v, e, k⟩ := w.loc.at_ i d h
  ⟨v, e, q d W H O v r w.nx k⟩
theorem ev_c {v : V} (r : R (.vl v) W) : Ev F T (tC v) G W R := fun C H O σ w Q q => q (.vl v) W H O v r w.nx rfl
theorem ev_op {r : R2} (h : Ev F T ta G W fun d1 W1 => Ev F T tb G W1 fun d2 W2 => Bo F T r d1 d2 W2 R) : Ev F T (tOp r ta tb) G W R := fun C H O σ w Q q =>
  h C H O σ w _ fun d1 W1 H1 O1 x h1 n1 k1 => h1 C H1 O1 σ (w.step n1) _ fun d2 W2 H2 O2 y h2 n2 k2 =>
    h2 C H2 O2 n2.dis n2.oc n2.own x y (k1.mono n2.ext) k2 Q fun d W' H' O' v rr n k => q d W' H' O' v rr ((n1.trans n2).trans n) k
theorem ev_cb {r : List V → Hp → VK → Prop} (h : EvA F T tr G W fun ds W1 => Ca F T r ds W1 R) : Ev F T (tCB r tr) G W R := fun C H O σ w Q q =>
  h C H O σ w _ fun ds W1 H1 O1 vs h1 n1 k1 => h1 C H1 O1 n1.dis n1.oc n1.own vs k1 Q fun d W' H' O' v rr n k => q d W' H' O' v rr (n1.trans n) k
theorem ea_nil {Z : List D → Om → Prop} (r : Z [] W) : EvA F T tNil G W Z := fun C H O σ w Q q => q [] W H O [] r w.nx rfl
theorem ea_cons {Z : List D → Om → Prop} (h : Ev F T ta G W fun d W1 => EvA F T tr G W1 fun ds W2 => Z (d :: ds) W2) : EvA F T (tCons ta tr) G W Z := fun C H O σ w Q q =>
  h C H O σ w _ fun d W1 H1 O1 x h1 n1 k1 => h1 C H1 O1 σ (w.step n1) _ fun ds W2 H2 O2 vs h2 n2 k2 => q (d :: ds) W2 H2 O2 (x :: vs) h2 (n1.trans n2) ⟨x, vs, rfl, k1.mono n2.ext, k2⟩
theorem et_test (h : Ev F T te G W fun d W1 => ∃ b, d = .bl b ∧ S b W1) : EvT F T (tTest te) G W S := fun C H O σ w Q q =>
  h C H O σ w _ fun d W1 H1 O1 x ⟨b, e, s⟩ n k => by
    subst e
    have k : x = .bl b := k
    exact ⟨b, k, q b W1 H1 O1 s n⟩
theorem et_B (h : Ev F T te G W fun d W1 => ∃ b, d = .bl b ∧ S b W1) : EvT F T (tB te) G W S := et_test h
theorem et_not (h : EvT F T t G W fun b W1 => S (!b) W1) : EvT F T (tNot t) G W S := fun C H O σ w Q q => h C H O σ w _ fun b W1 H1 O1 s n => q (!b) W1 H1 O1 s n
theorem et_and (h : EvT F T t G W fun b W1 => if b = true then EvT F T u G W1 S else S false W1) : EvT F T (tAnd t u) G W S := fun C H O σ w Q q =>
  h C H O σ w _ fun b W1 H1 O1 s n => by
    cases b with
    | true => exact s C H1 O1 σ (w.step n) _ fun b W2 H2 O2 s2 n2 => q b W2 H2 O2 s2 (n.trans n2)
    | false => exact q false W1 H1 O1 s n
theorem et_or (h : EvT F T t G W fun b W1 => if b = true then S true W1 else EvT F T u G W1 S) : EvT F T (tOr t u) G W S := fun C H O σ w Q q =>
  h C H O σ w _ fun b W1 H1 O1 s n => by
    cases b with
    | true => exact q true W1 H1 O1 s n
    | false => exact s C H1 O1 σ (w.step n) _ fun b W2 H2 O2 s2 n2 => q b W2 H2 O2 s2 (n.trans n2)
theorem ev_andV (h : Ev F T ta G W fun d W1 => ∃ b, d = .bl b ∧ if b = true then Ev F T tb G W1 R else R (.bl false) W1) : Ev F T (tAndV ta tb) G W R := fun C H O σ w Q q =>
  h C H O σ w _ fun d W1 H1 O1 x ⟨b, e, s⟩ n k => by
    subst e
    have k : x = .bl b := k
    refine ⟨b, k, ?_⟩
    cases b with
    | true => exact s C H1 O1 σ (w.step n) _ fun d W2 H2 O2 v s2 n2 k2 => q d W2 H2 O2 v s2 (n.trans n2) k2
    | false => exact q _ W1 H1 O1 _ s n rfl
theorem ev_orV (h : Ev F T ta G W fun d W1 => ∃ b, d = .bl b ∧ if b = true then R (.bl true) W1 else Ev F T tb G W1 R) : Ev F T (tOrV ta tb) G W R := fun C H O σ w Q q =>
  h C H O σ w _ fun d W1 H1 O1 x ⟨b, e, s⟩ n k => by
    subst e
    have k : x = .bl b := k
    refine ⟨b, k, ?_⟩
    cases b with
    | true => exact q _ W1 H1 O1 _ s n rfl
    | false => exact s C H1 O1 σ (w.step n) _ fun d W2 H2 O2 v s2 n2 k2 => q d W2 H2 O2 v s2 (n.trans n2) k2
theorem ev_notV (h : Ev F T ta G W fun d W1 => ∃ b, d = .bl b ∧ R (.bl (!b)) W1) : Ev F T (tNotV ta) G W R := fun C H O σ w Q q =>
  h C H O σ w _ fun d W1 H1 O1 x ⟨b, e, s⟩ n k => by
    subst e
    have k : x = .bl b := k
    exact ⟨b, k, q _ W1 H1 O1 _ s n rfl⟩
theorem ev_if (h : EvT F T t G W fun b W1 => if b = true then Ev F T ta G W1 R else Ev F T tb G W1 R) : Ev F T (tIf t ta tb) G W R := fun C H O σ w Q q =>
  h C H O σ w _ fun b W1 H1 O1 s n => by
    cases b with
    | true => exact s C H1 O1 σ (w.step n) _ fun d W2 H2 O2 v s2 n2 k2 => q d W2 H2 O2 v s2 (n.trans n2) k2
    | false => exact s C H1 O1 σ (w.step n) _ fun d W2 H2 O2 v s2 n2 k2 => q d W2 H2 O2 v s2 (n.trans n2) k2
theorem ev_isN (h : Ev F T ta G W fun d W1 => ∃ b, (∀ H v, Den F T H d v → decide (v = .non) = b) ∧ R (.bl b) W1) : Ev F T (tIsN ta) G W R := fun C H O σ w Q q =>
  h C H O σ w _ fun d W1 H1 O1 x ⟨b, e, s⟩ n k => by
    show Q (.bl (decide (x = .non))) _
    rw [e _ _ k]
    exact q _ W1 H1 O1 _ s n rfl
theorem op_sc {r : R2} {x y : V} (h : ∀ (H : Hp) (Q : VK), (∀ z, R (.vl z) W → Q z H) → r x y H Q) : Bo F T r (.vl x) (.vl y) W R := fun C H O dis oc own x' y' hx hy Q q => by
  have hx : x' = x := hx
  have hy : y' = y := hy
  subst hx hy
  exact h _ Q fun z rz => q (.vl z) W H O z rz (.refl dis oc own) rfl
theorem cl_sc {r : List V → Hp → VK → Prop} {xs : List V} (h : ∀ (H : Hp) (Q : VK), (∀ z, R (.vl z) W → Q z H) → r xs H Q) : Ca F T r (xs.map D.vl) W R := fun C H O dis oc own vs hv Q q => by
  have hv := DenL.vls_inv hv
  subst hv
  exact h _ Q fun z rz => q (.vl z) W H O z rz (.refl dis oc own) rfl
theorem sw_next (h : E.nx G W) : Sw F T tNext G W E := fun C H O σ w B b => b.nx G W H O σ h w.nx w.loc
theorem sw_brk (h : E.bk G W) : Sw F T tBreak G W E := fun C H O σ w B b => b.bk G W H O σ h w.nx w.loc
theorem sw_cont (h : E.ct G W) : Sw F T tCont G W E := fun C H O σ w B b => b.ct G W H O σ h w.nx w.loc
theorem sw_seq (h : Sw F T ts G W { E with nx := fun G' W' => Sw F T tz G' W' E }) : Sw F T (tSeq ts tz) G W E := fun C H O σ w B b =>
  h C H O σ w { B with nx := tz B } ⟨fun G' W' H' O' σ' a n l => a C H' O' σ' ⟨n.dis, n.oc, l, n.own⟩ B (b.up n.ext), b.rt, b.bk, b.ct⟩
theorem sw_drop (h : Ev F T te G W fun _ W' => E.nx G W') : Sw F T (tDrop te) G W E := fun C H O σ w B b =>
  h C H O σ w _ fun d W' H' O' v r n k => b.nx G W' H' O' σ r n (w.loc.mono n.ext)
theorem sw_ret (h : Ev F T te G W E.rt) : Sw F T (tRet te) G W E := fun C H O σ w B b =>
  h C H O σ w _ fun d W' H' O' v r n k => b.rt d W' H' O' v r n k
theorem sw_retN (h : E.rt .non W) : Sw F T tRetN G W E := fun C H O σ w B b => b.rt .non W H O .non h w.nx rfl
theorem sw_if (h : EvT F T t G W fun c W' => if c = true then Sw F T ts G W' E else Sw F T tz G W' E) : Sw F T (tIfS t ts tz) G W E := fun C H O σ w B b =>
  h C H O σ w _ fun c W' H' O' r n => by
    cases c with
    | true => exact r C H' O' σ (w.step n) B (b.up n.ext)
    | false => exact r C H' O' σ (w.step n) B (b.up n.ext)
theorem sw_set {i : Nat} (h : Ev F T te G W fun d W' => E.nx (G.set i (some d)) W') : Sw F T (tAsg te (gName i)) G W E := fun C H O σ w B b =>
  h C H O σ w _ fun d W' H' O' v r n k => b.nx _ W' H' O' _ r n ((w.loc.mono n.ext).set k)
theorem sw_par {i j : Nat} {ta : TA} (h : EvA F T ta G W fun ds W' => ∃ d1 d2, ds = [d1, d2] ∧ E.nx ((G.set i (some d1)).set j (some d2)) W') : Sw F T (tPar i j ta) G W E := fun C H O σ w B b =>
  h C H O σ w _ fun ds W' H' O' vs ⟨d1, d2, e, r⟩ n k => by
    subst e
    obtain ⟨v1, r1, e1, k1, v2, r2, e2, k2, e3⟩ := k
    have e3 : r2 = [] := e3
    subst e3 e2 e1
    exact ⟨v1, v2, rfl, b.nx _ W' H' O' _ r n (((w.loc.mono n.ext).set k1).set k2)⟩
theorem sw_aug {i : Nat} {ti : TIp} {d0 : D} (h0 : G[i]? = some (some d0)) (h : Ev F T te G W fun d W' => Bo F T ti d0 d W' fun d' W2 => E.nx (G.set i (some d')) W2) : Sw F T (tAug i te ti) G W E := fun C H O σ w B b => by
  obtain ⟨v, e, k⟩ := w.loc.at_ i d0 h0
  refine ⟨v, e, h C H O σ w _ fun d W' H' O' y r n k2 => r C H' O' n.dis n.oc n.own v y (k.mono n.ext) k2 _ fun d' W2 H2 O2 z rr n2 k3 => ?_⟩
  exact b.nx _ W2 H2 O2 _ rr (n.trans n2) ((w.loc.mono (n.trans n2).ext).set k3)
theorem tg_name {i : Nat} {d : D} {Z : Gm → Prop} (h : Z (G.set i (some d))) : Tg F T (gName i) d G Z := fun H H1 σ v l _ k Q q => q _ _ h (l.set k)
def Tgs (F : FmKit) (T : Kx) (g : TGs) (ds : List D) (G : Gm) (R : Gm → Prop) : Prop :=
  ∀ (H H1 : Hp) (σ : St) (vs : List V), Lo F T H G σ → Same H H1 → DenL F T H ds vs → ∀ Q : St → Hp → Prop, (∀ G' σ', R G' → Lo F T H G' σ' → Q σ' H1) → g vs σ H1 Q
theorem tgs_nil {Z : Gm → Prop} (h : Z G) : Tgs F T gNil [] G Z := fun H H1 σ v l _ k Q q => ⟨k, q _ _ h l⟩
theorem tgs_cons {g : TG} {gs : TGs} {d : D} {ds : List D} {Z : Gm → Prop} (h : Tg F T g d G fun G' => Tgs F T gs ds G' Z) : Tgs F T (gCons g gs) (d :: ds) G Z := fun H H1 σ vs l e k Q q => by
  obtain ⟨v, r, ev, k1, k2⟩ := k
  exact ⟨v, r, ev, h H H1 σ v l e k1 _ fun G' σ' hh l' => hh H H1 σ' r l' e k2 Q q⟩
theorem tg_tup {n : Nat} {gs : TGs} {ds : List D} {Z : Gm → Prop} (hn : ds.length = n) (h : Tgs F T gs ds G Z) : Tg F T (gTup T.K n gs) (.tup ds) G Z := fun H H1 σ v l e k Q q => by
  obtain ⟨a, xs, ev, hs, kl⟩ := k
  exact ⟨a, xs, ev, Same.sqT e hs, by rw [kl.len, hn], h H H1 σ xs l e kl Q q⟩
theorem sw_for {wi : TI} {g : TG} (h : EvI F T wi G W fun ds W1 => ∃ I : Nat → Gm → Om → Prop, I 0 G W1 ∧
      (∀ i d G' W', ds[i]? = some d → I i G' W' → Tg F T g d G' fun G2 => Sw F T ts G2 W' { E with nx := I (i + 1), ct := I (i + 1), bk := E.nx }) ∧ (∀ G' W', I ds.length G' W' → E.nx G' W')) :
    Sw F T (tFor wi g ts) G W E := fun C H O σ w B b =>
  h C H O σ w _ fun J ds W1 H1 O1 ⟨I, i0, turn, fin⟩ n1 wk => by
    refine ⟨fun i m σ' X => m = ds.length - i ∧ i ≤ ds.length ∧ ∃ G' W' H' O', X = ov O' H' ∧ Nx F T C W' H1 H' O' ∧ Lo F T H' G' σ' ∧ I i G' W', ⟨ds.length, by simp, Nat.zero_le _, G, W1, H1, O1, rfl, ⟨Same.refl _, n1.dis, n1.oc, n1.own⟩, w.loc.mono n1.ext, i0⟩, ?_⟩
    rintro i m σ' X ⟨rfl, hi, G', W', H', O', rfl, n, l, ii⟩
    have k := wk i H' O' n.ext n.dis
    by_cases hlt : i < ds.length
    · obtain ⟨k1, k2⟩ := k.1 ds[i] (by simp [hlt])
      refine .inr ⟨k1, fun σ2 X2 => ∃ G2 W2 H2 O2, X2 = ov O2 H2 ∧ Nx F T C W2 H1 H2 O2 ∧ Lo F T H2 G2 σ2 ∧ I (i + 1) G2 W2, fun σ2 X2 ⟨G2, W2, H2, O2, e, n2, l2, i2⟩ => ⟨ds.length - (i + 1), by omega, rfl, hlt, G2, W2, H2, O2, e, n2, l2, i2⟩, fun x X2 y => ?_⟩
      obtain ⟨H2, s2, d2, rfl, kx⟩ := k2 x X2 y
      refine turn i ds[i] G' W' (by simp [hlt]) ii H2 _ σ' x (l.mono s2) d2.same kx _ fun G3 σ3 sw l3 => ?_
      refine sw C H2 O' σ3 ⟨d2, n.oc, l3, n.own.mono s2⟩ _ ⟨fun G4 W4 H4 O4 σ4 a n4 l4 => ⟨G4, W4, H4, O4, rfl, ⟨(n.ext.trans s2).trans n4.ext, n4.dis, n4.oc, n4.own⟩, l4, a⟩, ?_, ?_, fun G4 W4 H4 O4 σ4 a n4 l4 => ⟨G4, W4, H4, O4, rfl, ⟨(n.ext.trans s2).trans n4.ext, n4.dis, n4.oc, n4.own⟩, l4, a⟩⟩
      · exact fun d W4 H4 O4 v a n4 k4 => b.rt d W4 H4 O4 v a ⟨((n1.ext.trans n.ext).trans s2).trans n4.ext, n4.dis, n4.oc, n4.own⟩ k4
      · exact fun G4 W4 H4 O4 σ4 a n4 l4 => b.nx G4 W4 H4 O4 σ4 a ⟨((n1.ext.trans n.ext).trans s2).trans n4.ext, n4.dis, n4.oc, n4.own⟩ l4
    · have e : i = ds.length := by omega
      subst e
      exact .inl ⟨k.2 rfl, b.nx G' W' H' O' σ' (fin G' W' ii) ⟨n1.ext.trans n.ext, n.dis, n.oc, n.own⟩ l⟩
/-- while, by a measure -/
theorem sw_while (I : Nat → Gm → Om → Prop) (m0 : Nat) (i0 : I m0 G W)
    (turn : ∀ m G' W', I m G' W' → EvT F T t G' W' fun c W2 => if c = true then Sw F T ts G' W2 { E with nx := fun G3 W3 => ∃ m', m' < m ∧ I m' G3 W3, ct := fun G3 W3 => ∃ m', m' < m ∧ I m' G3 W3, bk := E.nx } else E.nx G' W2) :
    Sw F T (tWhile t ts) G W E := fun C H O σ w B b => by
  refine ⟨fun m σ' X => ∃ G' W' H' O', X = ov O' H' ∧ Nx F T C W' H H' O' ∧ Lo F T H' G' σ' ∧ I m G' W', ⟨m0, G, W, H, O, rfl, w.nx, w.loc, i0⟩, ?_⟩
  rintro m σ' X ⟨G', W', H', O', rfl, n, l, ii⟩
  refine turn m G' W' ii C H' O' σ' ⟨n.dis, n.oc, l, n.own⟩ _ fun c W2 H2 O2 r n2 => ?_
  cases c with
  | true =>
    refine ⟨fun σ3 X3 => ∃ G3 W3 H3 O3, X3 = ov O3 H3 ∧ Nx F T C W3 H H3 O3 ∧ Lo F T H3 G3 σ3 ∧ ∃ m', m' < m ∧ I m' G3 W3, fun σ3 X3 ⟨G3, W3, H3, O3, e, n3, l3, m', hm, i3⟩ => ⟨m', hm, G3, W3, H3, O3, e, n3, l3, i3⟩, ?_⟩
    exact r C H2 O2 σ' ⟨n2.dis, n2.oc, l.mono n2.ext, n2.own⟩ _ ⟨fun G4 W4 H4 O4 σ4 a n4 l4 => ⟨G4, W4, H4, O4, rfl, (n.trans n2).trans n4, l4, a⟩, fun d W4 H4 O4 v a n4 k4 => b.rt d W4 H4 O4 v a ((n.trans n2).trans n4) k4,
      fun G4 W4 H4 O4 σ4 a n4 l4 => b.nx G4 W4 H4 O4 σ4 a ((n.trans n2).trans n4) l4, fun G4 W4 H4 O4 σ4 a n4 l4 => ⟨G4, W4, H4, O4, rfl, (n.trans n2).trans n4, l4, a⟩⟩
  | false => exact b.nx G' W2 H2 O2 σ' r (n.trans n2) (l.mono n2.ext)
end
end N
set_option Elab.async false
set_option linter.all false
set_option maxRecDepth 100000
namespace N
open PySem L2
section
variable {F : FmKit} {T : Kx} {C H H' O O' : Hp} {G : Gm} {W W' : Om} {σ : St} {a p : Addr} {od : OD} {d : D} {l : List D}
theorem Ow.sub {W2 : Om} (o : Ow F T H C O W) (h : W2.Sublist W) : Ow F T H C O W2 := ⟨o.nd.sublist (h.map _), fun a od m => o.at_ a od (h.subset m)⟩
theorem Ow.perm {W2 : Om} (o : Ow F T H C O W) (h : W.Perm W2) : Ow F T H C O W2 := ⟨(h.map _).nodup_iff.mp o.nd, fun a od m => o.at_ a od (h.mem_iff.mpr m)⟩
theorem Ow.tail {x : Addr × OD} (o : Ow F T H C O (x :: W)) : Ow F T H C O W := o.sub (List.sublist_cons_self x W)
theorem akeys_cons {x : Addr × OD} : akeys (x :: W) = x.1 :: akeys W := rfl
theorem mem_akeys {x : Addr × OD} (h : x ∈ W) : x.1 ∈ akeys W := List.mem_map.mpr ⟨x, h, rfl⟩
/-- a new owned cell -/
theorem Nx.newO {o : HO} (n : Nx F T C W H H' O') (hp : ov O' H' p = none) (h : OdAt F T H' (some o) od) : Nx F T C ((p, od) :: W) H H' (upd O' p o) ∧ upd (ov O' H') p o = ov (upd O' p o) H' ∧ p ∉ akeys W := by
  obtain ⟨h1, h2⟩ := ov_none hp
  have np := n.own.notin h1
  have cp : C p = none := by
    cases e : C p with
    | none => rfl
    | some x =>
      rw [n.oc p x e] at h1
      cases h1
  refine ⟨⟨n.ext, n.dis.updO h2, fun b x e => ?_, ⟨List.nodup_cons.mpr ⟨np, n.own.nd⟩, fun b ob m => ?_⟩⟩, ov_updO, np⟩
  · rw [upd_ne (ne_of_none e cp)]
    exact n.oc b x e
  · rcases List.mem_cons.mp m with e | m
    · obtain ⟨rfl, rfl⟩ := Prod.mk.inj e
      rw [upd_same]
      exact ⟨cp, h⟩
    · have : b ≠ p := fun q => np (q ▸ mem_akeys (x := (b, ob)) m)
      rw [upd_ne this]
      exact n.own.at_ b ob m
/-- a new frozen cell -/
theorem Nx.newF {o : HO} (n : Nx F T C W H H' O') (hp : ov O' H' p = none) : Nx F T C W H (upd H' p o) O' ∧ upd (ov O' H') p o = ov O' (upd H' p o) ∧ Same H' (upd H' p o) := by
  obtain ⟨h1, h2⟩ := ov_none hp
  have e := same_upd (o := o) h2
  exact ⟨⟨n.ext.trans e, n.dis.updH h1, n.oc, n.own.mono e⟩, ov_updH h1, e⟩
/-- an owned cell is written -/
theorem Nx.write {o : HO} {od2 : OD} {W1 W2 : Om} (n : Nx F T C (W1 ++ (p, od) :: W2) H H' O') (h : OdAt F T H' (some o) od2) : Nx F T C (W1 ++ (p, od2) :: W2) H H' (upd O' p o) ∧ upd (ov O' H') p o = ov (upd O' p o) H' := by
  have hm : (p, od) ∈ W1 ++ (p, od) :: W2 := by simp
  obtain ⟨cp, x⟩ := n.own.at_ p od hm
  obtain ⟨u, eu⟩ := x.some
  have nd := n.own.nd
  have ndk : (akeys (W1 ++ (p, od2) :: W2)) = akeys (W1 ++ (p, od) :: W2) := by simp [akeys]
  refine ⟨⟨n.ext, n.dis.updO (n.dis p u eu), fun b x e => ?_, ⟨by rw [ndk]; exact nd, fun b ob m => ?_⟩⟩, ov_updO⟩
  · rw [upd_ne (ne_of_none e cp)]
    exact n.oc b x e
  · by_cases q : b = p
    · subst q
      have : ob = od2 := by
        have nd2 : (akeys (W1 ++ (b, od2) :: W2)).Nodup := by rw [ndk]; exact nd
        have hu : ∀ (W : Om) (x y : OD), (akeys W).Nodup → (b, x) ∈ W → (b, y) ∈ W → x = y := by
          intro W
          induction W with
          | nil => intro x y _ h; simp at h
          | cons z W ih =>
            intro x y hn hx hy
            rw [akeys_cons, List.nodup_cons] at hn
            rcases List.mem_cons.mp hx with ex | hx
            · rcases List.mem_cons.mp hy with ey | hy
              · rw [← ex] at ey
                exact (Prod.mk.inj ey).2.symm
              · exact absurd (by rw [← ex]; exact mem_akeys (x := (b, y)) hy) hn.1
            · rcases List.mem_cons.mp hy with ey | hy
              · exact absurd (by rw [← ey]; exact mem_akeys (x := (b, x)) hx) hn.1
              · exact ih x y hn.2 hx hy
        exact hu _ ob od2 nd2 m (by simp)
      subst this
      rw [upd_same]
      exact ⟨cp, h⟩
    · rw [upd_ne q]
      refine n.own.at_ b ob ?_
      rcases List.mem_append.mp m with m | m
      · exact List.mem_append_left _ m
      · rcases List.mem_cons.mp m with e | m
        · exact absurd (Prod.mk.inj e).1 q
        · exact List.mem_append_right _ (List.mem_cons_of_mem _ m)
def partsD : Fm → List D
  | .at c => [.str ⟨#[c]⟩]
  | .no => []
  | .imp a b => [.fm a, .fm b]
  | .all a => [.fm a]
def AllsD (a : Addr) (f : Fm) : List D → List Fm → Prop
  | [], fs => fs = []
  | d :: ds, fs => ∃ g r, fs = g :: r ∧ (d = .fm g ∨ (d = .adr a ∧ g = f)) ∧ AllsD a f ds r
inductive Fzd (F : FmKit) (a : Addr) : OD → D → Prop
  | lst (l : List D) : Fzd F a (.lst l) (.lst l)
  | dct (ks : List Key) (l : List D) : Fzd F a (.dct ks l) (.dct ks l)
  | obj (c : Nat) (ns : List Str) (l : List D) : Fzd F a (.ins c ns l) (.obj c ns l)
  | fm (f : Fm) (al : List D) : AllsD a f al (F.alls f) → Fzd F a (.ins 0 fmNames [.str (F.kind f), .tup (partsD f), .int (F.many f), .int (F.deep f), .str (F.atoms f), .str (F.bare f), .str (F.spell f), .tup al]) (.fm f)
theorem parts_of {R : Addr → Fm → Prop} (hR : ∀ b g, FormAt F T H b g → R b g) : ∀ {f : Fm} {xs : List V}, DenL F T H (partsD f) xs → PartsR R f xs
  | .at c, xs, h => DenL.vls_inv (ws := [.str ⟨#[c]⟩]) h
  | .no, xs, h => h
  | .imp a b, xs, ⟨v, r, e, ⟨p, e1, h1⟩, u, s, e2, ⟨q, e3, h3⟩, e4⟩ => by
    have e4 : s = [] := e4
    subst e e1 e2 e3 e4
    exact ⟨p, q, rfl, hR _ _ h1, hR _ _ h3⟩
  | .all a, xs, ⟨v, r, e, ⟨p, e1, h1⟩, e2⟩ => by
    have e2 : r = [] := e2
    subst e e1 e2
    exact ⟨p, rfl, hR _ _ h1⟩
theorem alls_of {R : Addr → Fm → Prop} {f : Fm} (hR : ∀ b g, FormAt F T H b g → R b g) (ha : R a f) : ∀ {al : List D} {xs : List V} {fs : List Fm}, AllsD a f al fs → DenL F T H al xs → ∃ as : List Addr, xs = as.map V.ref ∧ AllR R as fs
  | [], xs, fs, h, k => ⟨[], k, h⟩
  | d :: ds, xs, fs, ⟨g, r, e, hd, ht⟩, ⟨v, rv, e1, k1, k2⟩ => by
    obtain ⟨as, e2, h2⟩ := alls_of hR ha ht k2
    subst e e1 e2
    rcases hd with hd | ⟨hd, hg⟩
    · subst hd
      obtain ⟨b, e3, h3⟩ := k1
      subst e3
      exact ⟨b :: as, rfl, g, r, rfl, hR _ _ h3, h2⟩
    · subst hd hg
      have k1 : v = .ref a := k1
      subst k1
      exact ⟨a :: as, rfl, g, r, rfl, ha, h2⟩
theorem lcons {α : Type} {n : α} {ns : List α} : ∀ {fs : List (α × V)}, fs.map (·.1) = n :: ns → ∃ v r, fs = (n, v) :: r ∧ r.map (·.1) = ns
  | [], h => by simp at h
  | (m, v) :: r, h => by
    rw [List.map_cons] at h
    injection h with h1 h2
    exact ⟨v, r, by rw [← h1], h2⟩
theorem Fzd.den (z : Fzd F a od d) (h : OdAt F T H (O a) od) (hn : H a = none) : ∃ o, O a = some o ∧ Den F T (upd H a o) d (.ref a) := by
  cases z with
  | lst l =>
    obtain ⟨xs, e, k⟩ := h
    exact ⟨_, e, a, xs, rfl, upd_same, k.mono (same_upd hn)⟩
  | dct ks l =>
    obtain ⟨kvs, e, h1, h2, k⟩ := h
    exact ⟨_, e, a, kvs, rfl, upd_same, h1, h2, k.mono (same_upd hn)⟩
  | obj c ns l =>
    obtain ⟨dx, fs, e, h1, k⟩ := h
    exact ⟨_, e, a, dx, fs, rfl, upd_same, h1, k.mono (same_upd hn)⟩
  | fm f al hal =>
    obtain ⟨dx, fs, e, h1, k⟩ := h
    refine ⟨_, e, a, rfl, ?_⟩
    obtain ⟨v1, r1, g1, w1⟩ := lcons h1
    subst g1
    obtain ⟨v2, r2, g2, w2⟩ := lcons w1
    subst g2
    obtain ⟨v3, r3, g3, w3⟩ := lcons w2
    subst g3
    obtain ⟨v4, r4, g4, w4⟩ := lcons w3
    subst g4
    obtain ⟨v5, r5, g5, w5⟩ := lcons w4
    subst g5
    obtain ⟨v6, r6, g6, w6⟩ := lcons w5
    subst g6
    obtain ⟨v7, r7, g7, w7⟩ := lcons w6
    subst g7
    obtain ⟨v8, r8, g8, w8⟩ := lcons w7
    subst g8
    have w9 : r8 = [] := List.map_eq_nil_iff.mp w8
    subst w9
    have k := k.mono (same_upd (o := .ins (T.cl 0) dx [("kind", v1), ("parts", v2), ("many", v3), ("deepest", v4), ("atoms", v5), ("bare", v6), ("spelled", v7), ("alls_known", v8)]) hn)
    obtain ⟨_, _, q1, k1, _, _, q2, k2, _, _, q3, k3, _, _, q4, k4, _, _, q5, k5, _, _, q6, k6, _, _, q7, k7, _, _, q8, k8, _⟩ := k
    simp only [List.map_cons, List.map_nil, List.cons.injEq] at q1 q2 q3 q4 q5 q6 q7 q8
    obtain ⟨rfl, rfl⟩ := q1
    obtain ⟨rfl, rfl⟩ := q2
    obtain ⟨rfl, rfl⟩ := q3
    obtain ⟨rfl, rfl⟩ := q4
    obtain ⟨rfl, rfl⟩ := q5
    obtain ⟨rfl, rfl⟩ := q6
    obtain ⟨rfl, rfl⟩ := q7
    obtain ⟨rfl, rfl⟩ := q8
    have k1 : v1 = .str (F.kind f) := k1
    obtain ⟨pa, ps, ep, hp, kp⟩ := k2
    have k3 : v3 = .int (F.many f) := k3
    have k4 : v4 = .int (F.deep f) := k4
    have k5 : v5 = .str (F.atoms f) := k5
    have k6 : v6 = .str (F.bare f) := k6
    have k7 : v7 = .str (F.spell f) := k7
    obtain ⟨aa, as, ea, ha, ka⟩ := k8
    subst k1 ep k3 k4 k5 k6 k7 ea
    obtain ⟨bs, eb, hb⟩ := alls_of (R := fun b g => FormAt F T (upd H a (.ins (T.cl 0) dx (fmFields F f pa aa))) b g ∨ (b = a ∧ g = f)) (fun b g x => .inl x) (.inr ⟨rfl, rfl⟩) hal ka
    subst eb
    exact FormAt.mk ⟨dx, pa, ps, aa, bs, upd_same, hp, parts_of (fun b g x => .inl x) kp, ha, hb⟩
/-- what may be taken in the place of d -/
def Fz (F : FmKit) (R : D → Om → Prop) : D → Om → Prop := fun d W => ∃ a od W2 d', d = .adr a ∧ W.Perm ((a, od) :: W2) ∧ Fzd F a od d' ∧ R d' W2
theorem Nx.freeze {W2 : Om} {d' : D} (n : Nx F T C W H H' O') (hp : W.Perm ((a, od) :: W2)) (z : Fzd F a od d') : ∃ o, O' a = some o ∧ Nx F T C W2 H (upd H' a o) (del O' a) ∧ ov O' H' = ov (del O' a) (upd H' a o) ∧ Den F T (upd H' a o) d' (.ref a) ∧ Same H' (upd H' a o) := by
  have ow := n.own.perm hp
  obtain ⟨ca, oa⟩ := ow.at_ a od (by simp)
  obtain ⟨u, eu⟩ := oa.some
  have hn : H' a = none := n.dis a u eu
  obtain ⟨o, eo, k⟩ := z.den (O := O') oa hn
  have e := same_upd (o := o) hn
  have nd := ow.nd
  rw [akeys_cons, List.nodup_cons] at nd
  refine ⟨o, eo, ⟨n.ext.trans e, n.dis.freeze, fun b x q => ?_, ⟨nd.2, fun b ob m => ?_⟩⟩, ov_freeze eo, k, e⟩
  · rw [del_ne (ne_of_none q ca)]
    exact n.oc b x q
  · have hb : b ≠ a := fun q => nd.1 (q ▸ mem_akeys (x := (b, ob)) m)
    rw [del_ne hb]
    obtain ⟨h1, h2⟩ := ow.at_ b ob (List.mem_cons_of_mem _ m)
    exact ⟨h1, h2.mono e⟩
end
section
variable {F : FmKit} {T : Kx} {C H H' O O' : Hp} {G : Gm} {W W' : Om} {σ : St} {a p : Addr} {od : OD} {d : D} {l : List D}
  {te ta tb : TE} {t u : TT} {R R' : D → Om → Prop} {S S' : Bool → Om → Prop} {tr : TA} {ts tz : TS} {E E' : En}
theorem ev_fz (h : Ev F T te G W (Fz F R)) : Ev F T te G W R := fun C H O σ w Q q => h C H O σ w Q fun d W' H' O' v ⟨a, od, W2, d', e, hp, z, r⟩ n k => by
  subst e
  have k : v = .ref a := k
  subst k
  obtain ⟨o, _, n2, eo, k2, _⟩ := n.freeze hp z
  rw [eo]
  exact q d' W2 _ _ _ r n2 k2
theorem ca_fz {r : List V → Hp → VK → Prop} {ds : List D} (h : Ca F T r ds W (Fz F R)) : Ca F T r ds W R := fun C H O di oc ow xs hx Q q => h C H O di oc ow xs hx Q fun d W' H' O' v ⟨a, od, W2, d', e, hp, z, r⟩ n k => by
  subst e
  have k : v = .ref a := k
  subst k
  obtain ⟨o, _, n2, eo, k2, _⟩ := n.freeze hp z
  rw [eo]
  exact q d' W2 _ _ _ r n2 k2
/-- a slot's owned cell is frozen -/
theorem sw_fz {i : Nat} {d' : D} {W2 : Om} (hi : G[i]? = some (some (.adr a))) (hp : W.Perm ((a, od) :: W2)) (z : Fzd F a od d') (h : Sw F T ts (G.set i (some d')) W2 E) : Sw F T ts G W E := fun C H O σ w B b => by
  obtain ⟨o, _, n2, eo, k2, e2⟩ := w.nx.freeze hp z
  obtain ⟨v, ev, kv⟩ := w.loc.at_ i _ hi
  have kv : v = .ref a := kv
  subst kv
  rw [eo]
  have l2 := (w.loc.mono e2).set (i := i) k2
  have es : σ.set i (some (.ref a)) = σ := by
    apply List.ext_getElem?
    intro j
    by_cases q : i = j
    · subst q
      have hl : i < σ.length := (List.getElem?_eq_some_iff.mp ev).1
      rw [List.getElem?_set_self hl, ev]
    · rw [List.getElem?_set_ne q]
  rw [es] at l2
  exact h C _ _ σ ⟨n2.dis, n2.oc, l2, n2.own⟩ B (b.up n2.ext)
theorem sw_perm {W2 : Om} (hs : W.Perm W2) (h : Sw F T ts G W2 E) : Sw F T ts G W E := fun C H O σ w B b => h C H O σ ⟨w.dis, w.oc, w.loc, w.own.perm hs⟩ B b
theorem ev_tup (h : EvA F T tr G W fun ds W1 => ds.length ≤ sizeLine ∧ R (.tup ds) W1) : Ev F T (tTup tr) G W R := fun C H O σ w Q q =>
  h C H O σ w _ fun ds W1 H1 O1 vs ⟨hl, r⟩ n k => ⟨by rw [k.len]; exact hl, fun p hp => by
    obtain ⟨n2, e, s⟩ := n.newF (o := .tup vs) hp
    rw [e]
    exact q (.tup ds) W1 _ _ _ r n2 ⟨p, vs, rfl, SqT.of upd_same, k.mono s⟩⟩
theorem ev_lst (h : EvA F T tr G W fun ds W1 => ds.length ≤ sizeLine ∧ ∀ p, p ∉ akeys W1 → R (.adr p) ((p, .lst ds) :: W1)) : Ev F T (tLst tr) G W R := fun C H O σ w Q q =>
  h C H O σ w _ fun ds W1 H1 O1 vs ⟨hl, r⟩ n k => ⟨by rw [k.len]; exact hl, fun p hp => by
    obtain ⟨n2, e, np⟩ := n.newO (od := .lst ds) (o := .lst vs) hp ⟨vs, rfl, k⟩
    rw [e]
    exact q (.adr p) _ _ _ _ (r p np) n2 rfl⟩
/-- .. frozen at once -/
theorem ev_lstF (h : EvA F T tr G W fun ds W1 => ds.length ≤ sizeLine ∧ R (.lst ds) W1) : Ev F T (tLst tr) G W R := fun C H O σ w Q q =>
  h C H O σ w _ fun ds W1 H1 O1 vs ⟨hl, r⟩ n k => ⟨by rw [k.len]; exact hl, fun p hp => by
    obtain ⟨n2, e, s⟩ := n.newF (o := .lst vs) hp
    rw [e]
    exact q (.lst ds) W1 _ _ _ r n2 ⟨p, vs, rfl, upd_same, k.mono s⟩⟩
/-- d is a list of l: frozen, or owned -/
def Vl (W : Om) (d : D) (l : List D) : Prop := (d = .lst l ∨ ∃ vs, d = .scr vs ∧ l = vs.map .vl) ∨ ∃ a, d = .adr a ∧ (a, .lst l) ∈ W
def Vs (W : Om) (d : D) (l : List D) : Prop := Vl W d l ∨ d = .tup l
theorem Vl.sq {x : V} (o : Ow F T H C O W) (di : Dis O H) (h : Vl W d l) (k : Den F T H d x) : ∃ a xs, x = .ref a ∧ SqL T.K (ov O H) a xs ∧ DenL F T H l xs := by
  rcases h with (rfl | ⟨vs, rfl, rfl⟩) | ⟨a, rfl, m⟩
  · obtain ⟨a, xs, e, hs, kl⟩ := k
    exact ⟨a, xs, e, SqL.of (di.same _ _ hs), kl⟩
  · obtain ⟨a, e, hs⟩ := k
    exact ⟨a, vs, e, di.same.seq hs, .vls vs⟩
  · obtain ⟨_, xs, e, kl⟩ := o.at_ a _ m
    exact ⟨a, xs, k, SqL.of (ov_own e), kl⟩
/-- a list that the program has made -/
def Vt (W : Om) (d : D) (l : List D) : Prop := d = .lst l ∨ ∃ a, d = .adr a ∧ (a, .lst l) ∈ W
theorem Vt.vl (h : Vt W d l) : Vl W d l := h.elim (fun h => .inl (.inl h)) .inr
theorem Vt.at {x : V} (o : Ow F T H C O W) (di : Dis O H) (h : Vt W d l) (k : Den F T H d x) : ∃ a xs, x = .ref a ∧ ov O H a = some (.lst xs) ∧ DenL F T H l xs := by
  rcases h with rfl | ⟨a, rfl, m⟩
  · obtain ⟨a, xs, e, hs, kl⟩ := k
    exact ⟨a, xs, e, di.same _ _ hs, kl⟩
  · obtain ⟨_, xs, e, kl⟩ := o.at_ a _ m
    exact ⟨a, xs, k, ov_own e, kl⟩
theorem Vs.sq {x : V} (o : Ow F T H C O W) (di : Dis O H) (h : Vs W d l) (k : Den F T H d x) : ∃ a xs, x = .ref a ∧ (SqL T.K (ov O H) a xs ∨ SqT T.K (ov O H) a xs) ∧ DenL F T H l xs := by
  rcases h with h | rfl
  · obtain ⟨a, xs, e, hs, kl⟩ := h.sq o di k
    exact ⟨a, xs, e, .inl hs, kl⟩
  · obtain ⟨a, xs, e, hs, kl⟩ := k
    exact ⟨a, xs, e, .inr (Same.sqT di.same hs), kl⟩
theorem ca_one {r : List V → Hp → VK → Prop} {d : D} (h : ∀ (C H O : Hp), Dis O H → Same C O → Ow F T H C O W → ∀ x, Den F T H d x → ∀ Q : VK, (∀ d W' H' O' v, R d W' → Nx F T C W' H H' O' → Den F T H' d v → Q v (ov O' H')) → r [x] (ov O H) Q) : Ca F T r [d] W R := fun C H O di oc ow vs k Q q => by
  obtain ⟨v, r', e, k1, e2⟩ := k
  have e2 : r' = [] := e2
  subst e e2
  exact h C H O di oc ow v k1 Q q
theorem ca_two {r : List V → Hp → VK → Prop} {d e : D} (h : ∀ (C H O : Hp), Dis O H → Same C O → Ow F T H C O W → ∀ x y, Den F T H d x → Den F T H e y → ∀ Q : VK, (∀ d W' H' O' v, R d W' → Nx F T C W' H H' O' → Den F T H' d v → Q v (ov O' H')) → r [x, y] (ov O H) Q) : Ca F T r [d, e] W R := fun C H O di oc ow vs k Q q => by
  obtain ⟨v, r', e1, k1, u, r2, e2, k2, e3⟩ := k
  have e3 : r2 = [] := e3
  subst e3 e2 e1
  exact h C H O di oc ow v u k1 k2 Q q
/-- len of a list or a tuple -/
theorem ca_len (hv : Vs W d l) (r : R (.int l.length) W) : Ca F T (fun xs H Q => ∃ x n, xs = [x] ∧ LenV T.K x H n ∧ Q (.int (n : Nat)) H) [d] W R := ca_one fun C H O di oc ow x k Q q => by
  obtain ⟨a, xs, e, hs, kl⟩ := hv.sq ow di k
  subst e
  refine ⟨_, xs.length, rfl, ?_, ?_⟩
  · exact hs.elim (fun h => .inl ⟨xs, h, rfl⟩) fun h => .inr ⟨xs, h, rfl⟩
  · rw [kl.len]
    exact q (.int l.length) W H O _ r (.refl di oc ow) rfl
theorem ca_lenS {s : Str} (hl : s.length ≤ sizeLine) (r : R (.int s.length) W) : Ca F T (fun xs H Q => ∃ x n, xs = [x] ∧ LenV T.K x H n ∧ Q (.int (n : Nat)) H) [.str s] W R := ca_one fun C H O di oc ow x k Q q => by
  have k : x = .str s := k
  subst k
  exact ⟨_, s.length, rfl, ⟨hl, rfl⟩, q (.int s.length) W H O _ r (.refl di oc ow) rfl⟩
/-- list(..) -/
theorem ca_list (hv : Vs W d l) (r : ∀ p, p ∉ akeys W → R (.adr p) ((p, .lst l) :: W)) : Ca F T (fun xs H Q => ∃ p ys, xs = [.ref p] ∧ (SqL T.K H p ys ∨ SqT T.K H p ys) ∧ ∀ q, H q = none → Q (.ref q) (upd H q (.lst ys))) [d] W R := ca_one fun C H O di oc ow x k Q q => by
  obtain ⟨a, xs, e, hs, kl⟩ := hv.sq ow di k
  subst e
  refine ⟨a, xs, rfl, hs, fun p hp => ?_⟩
  obtain ⟨n2, e, np⟩ := (Nx.refl di oc ow).newO (od := .lst l) (o := .lst xs) hp ⟨xs, rfl, kl⟩
  rw [e]
  exact q (.adr p) _ _ _ _ (r p np) n2 rfl
/-- tuple(list) -/
theorem ca_tup (hv : Vl W d l) (r : R (.tup l) W) : Ca F T (fun xs H Q => ∃ p ys, xs = [.ref p] ∧ ((SqL T.K H p ys ∧ ∀ q, H q = none → Q (.ref q) (upd H q (.tup ys))) ∨ (SqT T.K H p ys ∧ Q (.ref p) H))) [d] W R := ca_one fun C H O di oc ow x k Q q => by
  obtain ⟨a, xs, e, hs, kl⟩ := hv.sq ow di k
  subst e
  refine ⟨a, xs, rfl, .inl ⟨hs, fun p hp => ?_⟩⟩
  obtain ⟨n2, e, s⟩ := (Nx.refl di oc ow).newF (o := .tup xs) hp
  rw [e]
  exact q (.tup l) W _ _ _ r n2 ⟨p, xs, rfl, SqT.of upd_same, kl.mono s⟩
theorem atI_len {α β : Type} {xs : List α} {ys : List β} {i : Int} {y : β} (hl : xs.length = ys.length) (h : atI ys i = some y) : ∃ j : Nat, ys[j]? = some y ∧ ∀ x, xs[j]? = some x → atI xs i = some x := by
  unfold atI at h ⊢
  rw [hl]
  cases e : ixN ys.length i with
  | none =>
    rw [e] at h
    cases h
  | some j =>
    rw [e] at h
    exact ⟨j, h, fun x hx => hx⟩
theorem DenL.atI {l : List D} {xs : List V} {i : Int} {d : D} (k : DenL F T H l xs) (h : atI l i = some d) : ∃ v, L2.atI xs i = some v ∧ Den F T H d v := by
  obtain ⟨j, hj, f⟩ := atI_len (xs := xs) k.len h
  obtain ⟨v, hv, kv⟩ := k.get hj
  exact ⟨v, f v hv, kv⟩
theorem bo_ixL {i : Int} {z : D} (hv : Vl W d l) (hi : atI l i = some z) (r : R z W) : Bo F T (rIxL T.K) d (.int i) W R := fun C H O di oc ow x y hx hy Q q => by
  obtain ⟨a, xs, e, hs, kl⟩ := hv.sq ow di hx
  have hy : y = .int i := hy
  obtain ⟨v, ev, kv⟩ := kl.atI hi
  subst e hy
  exact ⟨a, xs, i, v, rfl, rfl, hs, ev, q z W H O v r (.refl di oc ow) kv⟩
theorem bo_ixT {i : Int} {z : D} (hi : atI l i = some z) (r : R z W) : Bo F T (rIxT T.K) (.tup l) (.int i) W R := fun C H O di oc ow x y hx hy Q q => by
  obtain ⟨a, xs, e, hs, kl⟩ := hx
  have hy : y = .int i := hy
  obtain ⟨v, ev, kv⟩ := kl.atI hi
  subst e hy
  exact ⟨a, xs, i, v, rfl, rfl, Same.sqT di.same hs, ev, q z W H O v r (.refl di oc ow) kv⟩
theorem ev_bm {Ty : String} {r : V → List V → Hp → VK → Prop} {to : TE}
    (h : Ev F T to G W fun d W1 => (∀ (C H O : Hp), Dis O H → Same C O → Ow F T H C O W1 → ∀ x, Den F T H d x → tyV T.K Ty x (ov O H)) ∧ EvA F T tr G W1 fun ds W2 =>
      ∀ (C H O : Hp), Dis O H → Same C O → Ow F T H C O W2 → ∀ x vs, Den F T H d x → DenL F T H ds vs → ∀ Q : VK, (∀ d W' H' O' v, R d W' → Nx F T C W' H H' O' → Den F T H' d v → Q v (ov O' H')) → r x vs (ov O H) Q) : Ev F T (tBM T.K Ty r to tr) G W R := fun C H O σ w Q q =>
  h C H O σ w _ fun d W1 H1 O1 x ⟨ht, ha⟩ n1 k1 => ⟨ht C H1 O1 n1.dis n1.oc n1.own x k1, ha C H1 O1 σ (w.step n1) _ fun ds W2 H2 O2 vs r2 n2 k2 =>
    r2 C H2 O2 n2.dis n2.oc n2.own x vs (k1.mono n2.ext) k2 Q fun d W' H' O' v rr n k => q d W' H' O' v rr ((n1.trans n2).trans n) k⟩
theorem ev_bm0 {Ty : String} {r : V → List V → Hp → VK → Prop} {to : TE}
    (h : Ev F T to G W fun d W1 => ∀ (C H O : Hp), Dis O H → Same C O → Ow F T H C O W1 → ∀ x, Den F T H d x → tyV T.K Ty x (ov O H) ∧
      ∀ Q : VK, (∀ d W' H' O' v, R d W' → Nx F T C W' H H' O' → Den F T H' d v → Q v (ov O' H')) → r x [] (ov O H) Q) : Ev F T (tBM0 T.K Ty r to) G W R := fun C H O σ w Q q =>
  h C H O σ w _ fun d W1 H1 O1 x r1 n1 k1 => let ⟨ht, r2⟩ := r1 C H1 O1 n1.dis n1.oc n1.own x k1
    ⟨ht, r2 Q fun d W' H' O' v rr n k => q d W' H' O' v rr (n1.trans n) k⟩
theorem own_lst {W1 W2 : Om} (ow : Ow F T H C O (W1 ++ (a, .lst l) :: W2)) : ∃ xs, O a = some (.lst xs) ∧ DenL F T H l xs := (ow.at_ a (.lst l) (by simp)).2
/-- l.append(e) -/
theorem ev_append {to : TE} (h : Ev F T to G W fun d W0 => ∃ a l0 W01 W02, d = .adr a ∧ W0 = W01 ++ (a, .lst l0) :: W02 ∧ EvA F T tr G W0 fun ds W' => ∃ l W1 W2 z, W' = W1 ++ (a, .lst l) :: W2 ∧ ds = [z] ∧ l.length < sizeLine ∧ R .non (W1 ++ (a, .lst (l ++ [z])) :: W2)) :
    Ev F T (tBM T.K "list" rAppend to tr) G W R := ev_bm (h.imp fun d W0 ⟨a, l0, W01, W02, e1, e2, ha⟩ => by
  subst e1
  refine ⟨fun C H O di oc ow x kx => ?_, ?_⟩
  · have kx : x = .ref a := kx
    subst kx e2
    obtain ⟨xs, e, _⟩ := own_lst ow
    exact .inl ⟨rfl, xs, SqL.of (ov_own e)⟩
  · refine fun C H O σ w Q q => ha C H O σ w Q fun ds W' H' O' vs ⟨l, W1, W2, z, e3, e4, hl, r⟩ n k => q ds W' H' O' vs ?_ n k
    subst e3 e4
    intro C H O di oc ow x vs kx kv Q q
    have kx : x = .ref a := kx
    obtain ⟨v, r', ev, k1, er⟩ := kv
    have er : r' = [] := er
    subst kx ev er
    obtain ⟨xs, e, kl⟩ := own_lst ow
    refine ⟨a, xs, v, rfl, rfl, ov_own e, by rw [kl.len]; exact hl, ?_⟩
    obtain ⟨n2, e2⟩ := (Nx.refl di oc ow).write (o := .lst (xs ++ [v])) (od2 := .lst (l ++ [z])) ⟨_, rfl, kl.app (.one k1)⟩
    rw [e2]
    exact q .non _ _ _ _ r n2 rfl)
/-- l.pop() -/
theorem ev_pop {to : TE} (h : Ev F T to G W fun d W0 => ∃ a l W1 W2 z, d = .adr a ∧ W0 = W1 ++ (a, .lst (l ++ [z])) :: W2 ∧ R z (W1 ++ (a, .lst l) :: W2)) : Ev F T (tBM0 T.K "list" rPop to) G W R :=
  ev_bm0 (h.imp fun d W0 ⟨a, l, W1, W2, z, e1, e2, r⟩ => by
    subst e1 e2
    intro C H O di oc ow x kx
    have kx : x = .ref a := kx
    subst kx
    obtain ⟨xs, e, kl⟩ := own_lst ow
    refine ⟨.inl ⟨rfl, xs, SqL.of (ov_own e)⟩, fun Q q => ?_⟩
    obtain ⟨us, ws, e3, k1, k2⟩ := kl.app_inv
    obtain ⟨v, r', ev, kv, er⟩ := k2
    have er : r' = [] := er
    subst er ev e3
    refine ⟨a, _, v, rfl, rfl, ov_own e, by simp, ?_⟩
    rw [List.dropLast_concat]
    obtain ⟨n2, e2⟩ := (Nx.refl di oc ow).write (o := .lst us) (od2 := .lst l) ⟨_, rfl, k1⟩
    rw [e2]
    exact q z _ _ _ _ r n2 kv)
/-- l[i] = e -/
theorem sw_setL {to ti : TE} (h : Ev F T te G W fun z W1 => Ev F T to G W1 fun d W2 => Ev F T ti G W2 fun i W3 => ∃ a l j k Wa Wb, d = .adr a ∧ i = .int k ∧ W3 = Wa ++ (a, .lst l) :: Wb ∧ ixN l.length k = some j ∧ E.nx G (Wa ++ (a, .lst (l.set j z)) :: Wb)) :
    Sw F T (tAsg te (gSub to ti rSetL)) G W E := fun C H O σ w B b =>
  h C H O σ w _ fun z W1 H1 O1 v h1 n1 k1 => h1 C H1 O1 σ (w.step n1) _ fun d W2 H2 O2 x h2 n2 k2 => h2 C H2 O2 σ ((w.step n1).step n2) _ fun i W3 H3 O3 y ⟨a, l, j, k, Wa, Wb, e1, e2, e3, hj, r⟩ n3 k3 => by
    subst e1 e2 e3
    have k2 : x = .ref a := k2
    have k3 : y = .int k := k3
    subst k2 k3
    obtain ⟨xs, e, kl⟩ := own_lst n3.own
    refine ⟨a, xs, k, j, rfl, rfl, ov_own e, by rw [kl.len]; exact hj, ?_⟩
    have nn := (n1.trans n2).trans n3
    obtain ⟨n4, e4⟩ := nn.write (o := .lst (xs.set j v)) (od2 := .lst (l.set j z)) ⟨_, rfl, kl.set ((k1.mono n2.ext).mono n3.ext)⟩
    rw [e4]
    exact b.nx _ _ _ _ _ r n4 (w.loc.mono nn.ext)
theorem ei_list {tl : TE} {Z : List D → Om → Prop} (h : Ev F T tl G W fun d W1 => ∃ l, d = .lst l ∧ Z l W1) : EvI F T (iList T.K tl) G W Z := fun C H O σ w Q q =>
  h C H O σ w _ fun d W1 H1 O1 x ⟨l, e, z⟩ n k => by
    subst e
    obtain ⟨a, xs, ea, hs, kl⟩ := k
    subst ea
    have hs : SqL T.K H1 a xs := SqL.of hs
    refine ⟨a, rfl, ⟨xs, n.dis.same.seq hs⟩, q _ l W1 H1 O1 z n fun i H2 O2 s di => ⟨fun d hd => ?_, fun e => ⟨xs, di.same.seq (s.seq hs), by rw [kl.len, e]; exact Nat.le_refl _⟩⟩⟩
    obtain ⟨v, hv, kv⟩ := kl.get hd
    have hq : SqL T.K (ov O2 H2) a xs := di.same.seq (s.seq hs)
    refine ⟨⟨xs, v, hq, hv⟩, fun x X ⟨e, y⟩ => ⟨H2, Same.refl _, di, e, ?_⟩⟩
    have := y xs hq
    rw [hv] at this
    cases this
    exact kv.mono s
theorem ei_tup {tl : TE} {Z : List D → Om → Prop} (h : Ev F T tl G W fun d W1 => ∃ l, d = .tup l ∧ Z l W1) : EvI F T (iTup T.K tl) G W Z := fun C H O σ w Q q =>
  h C H O σ w _ fun d W1 H1 O1 x ⟨l, e, z⟩ n k => by
    subst e
    obtain ⟨a, xs, ea, hs, kl⟩ := k
    subst ea
    refine ⟨a, rfl, ⟨xs, Same.sqT n.dis.same hs⟩, q _ l W1 H1 O1 z n fun i H2 O2 s di => ⟨fun d hd => ?_, fun e => ⟨xs, Same.sqT di.same (Same.sqT s hs), by rw [kl.len, e]; exact Nat.le_refl _⟩⟩⟩
    obtain ⟨v, hv, kv⟩ := kl.get hd
    have hq : SqT T.K (ov O2 H2) a xs := Same.sqT di.same (Same.sqT s hs)
    refine ⟨⟨xs, v, hq, hv⟩, fun x X ⟨e, y⟩ => ⟨H2, Same.refl _, di, e, ?_⟩⟩
    have := y xs hq
    rw [hv] at this
    cases this
    exact kv.mono s
def rng (lo : Int) (n : Nat) : List D := (List.range n).map fun k => .int (lo + (k : Nat))
theorem rng_len (lo : Int) (n : Nat) : (rng lo n).length = n := by simp [rng]
theorem rng_get {lo : Int} {n i : Nat} {d : D} (h : (rng lo n)[i]? = some d) : i < n ∧ d = .int (lo + (i : Nat)) := by
  have hi : i < (rng lo n).length := (List.getElem?_eq_some_iff.mp h).1
  rw [rng_len] at hi
  refine ⟨hi, ?_⟩
  unfold rng at h
  rw [List.getElem?_map, List.getElem?_range hi] at h
  exact (Option.some.inj h).symm
theorem wk_rng {lo : Int} {n : Nat} : Wk F T (Itr lo n) H (rng lo n) := fun i H2 O2 s di => ⟨fun d hd => by
  obtain ⟨hi, e⟩ := rng_get hd
  subst e
  exact ⟨hi, fun x X ⟨e1, e2⟩ => ⟨H2, Same.refl _, di, e1, e2⟩⟩, fun e => by
  rw [rng_len] at e
  show n ≤ i
  omega⟩
theorem ei_rng1 {Z : List D → Om → Prop} (h : EvA F T tr G W fun ds W1 => ∃ j : Int, ds = [.int j] ∧ -(2 ^ 62) ≤ j ∧ j < 2 ^ 62 ∧ Z (rng 0 j.toNat) W1) : EvI F T (iRng1 tr) G W Z := fun C H O σ w Q q =>
  h C H O σ w _ fun ds W1 H1 O1 vs ⟨j, e, h1, h2, z⟩ n k => by
    subst e
    have k := DenL.vls_inv (ws := [.int j]) k
    subst k
    exact ⟨j, rfl, h1, h2, q _ _ W1 H1 O1 z n wk_rng⟩
end
end N
set_option Elab.async false
set_option linter.all false
set_option maxRecDepth 100000
namespace N
open PySem L2
/-- a promise: data of the arguments, owned cells handed in, what is wanted behind -/
abbrev FS := List D → Om → (D → Om → Prop) → Prop
section
variable (F : FmKit) (T : Kx)
def spN (S : FS) : Sp := fun vs X Q _ => ∃ (ds : List D) (W : Om) (C H O : Hp) (post : D → Om → Prop), X = ov O H ∧ Dis O H ∧ Same C O ∧ Ow F T H C O W ∧ DenL F T H ds vs ∧ S ds W post ∧
  ∀ d W' H' O' v, post d W' → Nx F T C W' H H' O' → Den F T H' d v → Q v (ov O' H')
end
section
variable {F : FmKit} {T : Kx} {C H H' O O' : Hp} {G : Gm} {W W' : Om} {σ : St} {a p : Addr} {od : OD} {d : D} {l : List D}
  {te ta tb : TE} {t u : TT} {R R' : D → Om → Prop} {Z : Bool → Om → Prop} {tr tk : TA} {ts tz : TS} {E : XK} {En1 : En} {S : FS}
/-- a part of what is owned is handed in, the rest stands behind -/
theorem run_sp {ds : List D} {vs : List V} {Wc Wf : Om} {Q : VK} (di : Dis O H) (oc : Same C O) (ow : Ow F T H C O (Wc ++ Wf)) (k : DenL F T H ds vs) (h : S ds Wc fun d W' => R d (W' ++ Wf))
    (q : ∀ d W' H' O' v, R d W' → Nx F T C W' H H' O' → Den F T H' d v → Q v (ov O' H')) : spN F T S vs (ov O H) Q E := by
  have nd := ow.nd
  have nd2 : (akeys Wc ++ akeys Wf).Nodup := by
    have e : akeys (Wc ++ Wf) = akeys Wc ++ akeys Wf := by simp [akeys]
    rw [← e]
    exact nd
  rw [List.nodup_append] at nd2
  obtain ⟨ndc, ndf, dj⟩ := nd2
  have inF : ∀ b, b ∈ akeys Wf → ∃ od, (b, od) ∈ Wf := fun b hb => by
    obtain ⟨x, hx, e⟩ := List.mem_map.mp hb
    exact ⟨x.2, by rw [← e]; exact hx⟩
  have atF : ∀ b od, (b, od) ∈ Wf → C b = none ∧ OdAt F T H (O b) od := fun b od m => ow.at_ b od (List.mem_append_right _ m)
  refine ⟨ds, Wc, fun b => if b ∈ akeys Wf then O b else C b, H, O, _, rfl, di, fun b o e => ?_, ⟨ndc, fun a od m => ?_⟩, k, h, fun d W' H' O' v r n kd => q d (W' ++ Wf) H' O' v r ⟨n.ext, n.dis, fun b o e => ?_, ⟨?_, fun a od m => ?_⟩⟩ kd⟩
  · by_cases hb : b ∈ akeys Wf
    · simp only [if_pos hb] at e
      exact e
    · simp only [if_neg hb] at e
      exact oc b o e
  · have hn : a ∉ akeys Wf := fun z => dj a (mem_akeys m) a z rfl
    rw [if_neg hn]
    exact ow.at_ a od (List.mem_append_left _ m)
  · refine n.oc b o ?_
    by_cases hb : b ∈ akeys Wf
    · obtain ⟨od, m⟩ := inF b hb
      rw [(atF b od m).1] at e
      cases e
    · rw [if_neg hb]
      exact e
  · have e : akeys (W' ++ Wf) = akeys W' ++ akeys Wf := by simp [akeys]
    rw [e, List.nodup_append]
    refine ⟨n.own.nd, ndf, fun x hx y hy exy => ?_⟩
    subst exy
    obtain ⟨z, hz, ez⟩ := List.mem_map.mp hx
    have h1 := (n.own.at_ z.1 z.2 hz).1
    rw [ez, if_pos hy] at h1
    obtain ⟨od, m⟩ := inF _ hy
    obtain ⟨o, eo⟩ := (atF _ od m).2.some
    rw [h1] at eo
    cases eo
  · rcases List.mem_append.mp m with m | m
    · obtain ⟨h1, h2⟩ := n.own.at_ a od m
      refine ⟨?_, h2⟩
      by_cases hb : a ∈ akeys Wf
      · obtain ⟨od', m'⟩ := inF a hb
        exact (atF a od' m').1
      · rw [if_neg hb] at h1
        exact h1
    · obtain ⟨h1, h2⟩ := atF a od m
      obtain ⟨o, eo⟩ := h2.some
      have e2 : O' a = some o := n.oc a o (by rw [if_pos (mem_akeys (x := (a, od)) m)]; exact eo)
      rw [eo] at h2
      rw [e2]
      exact ⟨h1, h2.mono n.ext⟩
/-- what a call asks: the part of the owned cells that is handed in, the promise -/
def Hand (S : FS) (ds : List D) (W : Om) (R : D → Om → Prop) : Prop := ∃ Wc Wf, W.Perm (Wc ++ Wf) ∧ S ds Wc fun d W' => R d (W' ++ Wf)
theorem hand0 {ds : List D} (h : S ds [] fun d W' => R d (W' ++ W)) : Hand S ds W R := ⟨[], W, List.Perm.refl _, h⟩
theorem handA {ds : List D} (h : S ds W R) : Hand S ds W R := ⟨W, [], by rw [List.append_nil], by simpa only [List.append_nil] using h⟩
theorem Hand.run {ds : List D} {vs : List V} {Q : VK} (h : Hand S ds W R) (di : Dis O H) (oc : Same C O) (ow : Ow F T H C O W) (k : DenL F T H ds vs) (q : ∀ d W' H' O' v, R d W' → Nx F T C W' H H' O' → Den F T H' d v → Q v (ov O' H')) :
    spN F T S vs (ov O H) Q E := by
  obtain ⟨Wc, Wf, hp, hs⟩ := h
  exact run_sp di oc (ow.perm hp) k hs q
theorem ev_call {dvs : List V} (h : EvA F T tr G W fun ds W1 => Hand S (ds ++ dvs.map D.vl) W1 R) : Ev F T (tCall (spN F T S) dvs E tr) G W R := fun C H O σ w Q q =>
  h C H O σ w _ fun ds W1 H1 O1 vs h1 n k => h1.run n.dis n.oc n.own (k.app (.vls dvs)) fun d W' H' O' v r n2 kd => q d W' H' O' v r (n.trans n2) kd
def fmVals (F : FmKit) (f : Fm) : List D := [.str (F.kind f), .tup (partsD f), .int (F.many f), .int (F.deep f), .str (F.atoms f), .str (F.bare f), .str (F.spell f), .tup ((F.alls f).map .fm)]
inductive Inst (F : FmKit) (W : Om) : D → Nat → List Str → List D → Prop
  | fm (f : Fm) : Inst F W (.fm f) 0 fmNames (fmVals F f)
  | obj (c : Nat) (ns : List Str) (l : List D) : Inst F W (.obj c ns l) c ns l
  | own (a : Addr) (c : Nat) (ns : List Str) (l : List D) : (a, .ins c ns l) ∈ W → Inst F W (.adr a) c ns l
theorem parts_den : ∀ {f : Fm} {ps : List V}, PartsR (FormAt F T H) f ps → DenL F T H (partsD f) ps
  | .at c, _, h => by
    have h : _ = _ := h
    subst h
    exact .one rfl
  | .no, _, h => h
  | .imp a b, _, ⟨p, q, e, h1, h2⟩ => by
    subst e
    exact ⟨_, _, rfl, ⟨p, rfl, h1⟩, .one ⟨q, rfl, h2⟩⟩
  | .all a, _, ⟨p, e, h1⟩ => by
    subst e
    exact .one ⟨p, rfl, h1⟩
theorem alls_den : ∀ {as : List Addr} {fs : List Fm}, AllR (FormAt F T H) as fs → DenL F T H (fs.map .fm) (as.map V.ref)
  | [], _, h => by
    have h : _ = _ := h
    subst h
    rfl
  | a :: as, _, ⟨f, r, e, h1, h2⟩ => by
    subst e
    exact ⟨_, _, rfl, ⟨a, rfl, h1⟩, alls_den h2⟩
theorem Inst.at {c : Nat} {ns : List Str} {x : V} (i : Inst F W d c ns l) (di : Dis O H) (ow : Ow F T H C O W) (k : Den F T H d x) : ∃ a dx fs, x = .ref a ∧ ov O H a = some (.ins (T.cl c) dx fs) ∧ fs.map (·.1) = ns ∧ DenL F T H l (fs.map (·.2)) := by
  cases i with
  | fm f =>
    obtain ⟨a, e, fa⟩ := k
    obtain ⟨dx, pa, ps, al, as, h1, h2, h3, h4, h5⟩ := fa.out
    exact ⟨a, dx, _, e, di.same _ _ h1, rfl, _, _, rfl, rfl, _, _, rfl, ⟨pa, ps, rfl, h2, parts_den h3⟩, _, _, rfl, rfl, _, _, rfl, rfl, _, _, rfl, rfl, _, _, rfl, rfl, _, _, rfl, rfl, _, _, rfl, ⟨al, _, rfl, h4, alls_den h5⟩, rfl⟩
  | obj c ns l =>
    obtain ⟨a, dx, fs, e, h1, h2, h3⟩ := k
    exact ⟨a, dx, fs, e, di.same _ _ h1, h2, h3⟩
  | own a c ns l m =>
    obtain ⟨_, dx, fs, h1, h2, h3⟩ := ow.at_ a _ m
    exact ⟨a, dx, fs, k, ov_own h1, h2, h3⟩
theorem look_zip : ∀ {fs : List (Str × V)} {l : List D} {n : Str} {z : D}, DenL F T H l (fs.map (·.2)) → ((fs.map (·.1)).zip l).lookup n = some z → ∃ v, fs.lookup n = some v ∧ Den F T H z v
  | [], l, n, z, _, e => by simp at e
  | (m, v) :: fs, [], n, z, k, e => by simp at e
  | (m, v) :: fs, d :: l, n, z, ⟨w, r, e1, k1, k2⟩, e => by
    rw [List.map_cons] at e1
    obtain ⟨rfl, rfl⟩ := List.cons.inj e1
    rw [List.map_cons, List.zip_cons_cons, List.lookup_cons] at e
    rw [List.lookup_cons]
    cases q : n == m with
    | true =>
      rw [q] at e
      have e : d = z := Option.some.inj e
      subst e
      exact ⟨v, rfl, k1⟩
    | false =>
      rw [q] at e
      exact look_zip k2 e
theorem look_none : ∀ {fs : List (Str × V)} {n : Str}, n ∉ fs.map (·.1) → fs.lookup n = none
  | [], _, _ => rfl
  | (m, v) :: fs, n, h => by
    rw [List.map_cons, List.mem_cons, not_or] at h
    rw [List.lookup_cons, beq_eq_false_iff_ne.mpr h.1]
    exact look_none h.2
/-- o.f -/
theorem ev_fld {n : Str} (h : Ev F T ta G W fun d W1 => ∃ c ns l z, Inst F W1 d c ns l ∧ Cls T.K (T.cl c) ∧ NoAttr T.K (T.cl c) n ∧ (ns.zip l).lookup n = some z ∧ R z W1) : Ev F T (tFld T.K ta n) G W R := fun C H O σ w Q q =>
  h C H O σ w _ fun d W1 H1 O1 x ⟨c, ns, l, z, i, hc, hn, hl, r⟩ n1 k => by
    obtain ⟨a, dx, fs, e, h1, h2, h3⟩ := i.at n1.dis n1.own k
    subst h2
    obtain ⟨v, hv, kv⟩ := look_zip h3 hl
    exact ⟨a, _, dx, fs, v, e, h1, hc, hn, hv, q z W1 H1 O1 v r n1 kv⟩
/-- o.m(..) -/
theorem ev_meth {c : Nat} {m : Str} {dvs : List V} (h : Ev F T ta G W fun d W1 => ∃ ns l, Inst F W1 d c ns l ∧ m ∉ ns ∧ EvA F T tr G W1 fun ds W2 => Hand S (d :: (ds ++ dvs.map D.vl)) W2 R) : Ev F T (tMeth (T.cl c) m (spN F T S) dvs E ta tr) G W R := fun C H O σ w Q q =>
  h C H O σ w _ fun d W1 H1 O1 x ⟨ns, l, i, hm, ha⟩ n1 k1 => by
    obtain ⟨a, dx, fs, e, h1, h2, h3⟩ := i.at n1.dis n1.own k1
    refine ⟨a, dx, fs, e, h1, look_none (by rw [h2]; exact hm), ha C H1 O1 σ (w.step n1) _ fun ds W2 H2 O2 vs hh n2 k2 => ?_⟩
    exact hh.run n2.dis n2.oc n2.own ⟨x, _, rfl, k1.mono n2.ext, k2.app (.vls dvs)⟩ fun d W' H' O' v r n3 kd => q d W' H' O' v r ((n1.trans n2).trans n3) kd
theorem ev_prop {c : Nat} {dvs : List V} (h : Ev F T ta G W fun d W1 => ∃ ns l, Inst F W1 d c ns l ∧ Hand S (d :: dvs.map D.vl) W1 R) : Ev F T (tProp (T.cl c) (spN F T S) dvs E ta) G W R := fun C H O σ w Q q =>
  h C H O σ w _ fun d W1 H1 O1 x ⟨ns, l, i, hh⟩ n1 k1 => by
    obtain ⟨a, dx, fs, e, h1, h2, h3⟩ := i.at n1.dis n1.own k1
    subst e
    exact ⟨a, dx, fs, rfl, h1, hh.run n1.dis n1.oc n1.own ⟨_, _, rfl, k1, .vls dvs⟩ fun d W' H' O' v r n3 kd => q d W' H' O' v r (n1.trans n3) kd⟩
/-- C(..) -/
theorem run_make {c : Nat} {ds : List D} {vs : List V} {x dx : Addr} {Q : VK} (n : Nx F T C W H H' O') (k : DenL F T H' ds vs) (h : ∀ x, x ∉ akeys W → Hand S (.adr x :: ds) ((x, .ins c [] []) :: W) fun d W' => d = .non ∧ R (.adr x) W')
    (hx : ov O' H' x = none) (hdx : ov O' H' dx = none) (ne : dx ≠ x) (q : ∀ d W2 H2 O2 v, R d W2 → Nx F T C W2 H H2 O2 → Den F T H2 d v → Q v (ov O2 H2)) :
    spN F T S (.ref x :: vs) (upd (upd (ov O' H') dx (.own x)) x (.ins (T.cl c) dx [])) (fun v H2 => v = .non ∧ Q (.ref x) H2) E := by
  obtain ⟨n2, e2, s2⟩ := n.newF (o := .own x) hdx
  rw [e2]
  have hx2 : ov O' (upd H' dx (.own x)) x = none := by rw [← e2, upd_ne ne.symm]; exact hx
  obtain ⟨n3, e3, np⟩ := n2.newO (od := .ins c [] []) (o := .ins (T.cl c) dx []) hx2 ⟨dx, [], rfl, rfl, rfl⟩
  rw [e3]
  refine (h x np).run n3.dis n3.oc n3.own ⟨_, _, rfl, rfl, k.mono s2⟩ fun d W' H2 O2 v ⟨e, r⟩ n4 kd => ?_
  subst e
  exact ⟨kd, q (.adr x) W' H2 O2 _ r (n3.trans n4) rfl⟩
theorem ev_make {c : Nat} {dvs : List V} (h : EvA F T tr G W fun ds W1 => ∀ x, x ∉ akeys W1 → Hand S (.adr x :: (ds ++ dvs.map D.vl)) ((x, .ins c [] []) :: W1) fun d W' => d = .non ∧ R (.adr x) W') : Ev F T (tMake (T.cl c) (spN F T S) dvs E tr) G W R := fun C H O σ w Q q =>
  h C H O σ w _ fun ds W1 H1 O1 vs h1 n k x dx hx hdx ne => run_make n (k.app (.vls dvs)) h1 hx hdx ne q
theorem ev_makeR {c : Nat} (h : EvA F T tr G W fun ds W1 => ∀ x, x ∉ akeys W1 → Hand S (.adr x :: ds) ((x, .ins c [] []) :: W1) fun d W' => d = .non ∧ R (.adr x) W') : Ev F T (StX.tMakeR (T.cl c) (spN F T S) E tr) G W R := fun C H O σ w Q q =>
  h C H O σ w _ fun ds W1 H1 O1 vs h1 n k x dx hx hdx ne => run_make n k h1 hx hdx ne q
theorem putF_new : ∀ {fs : List (Str × V)} {n : Str} {v : V}, n ∉ fs.map (·.1) → putF n v fs = fs ++ [(n, v)]
  | [], _, _, _ => rfl
  | (m, x) :: fs, n, v, h => by
    rw [List.map_cons, List.mem_cons, not_or] at h
    unfold putF
    rw [if_neg (fun e => h.1 e.symm), putF_new h.2]
    rfl
theorem putF_at : ∀ {fs : List (Str × V)} {n : Str} {v : V} {j : Nat}, (fs.map (·.1)).Nodup → (fs.map (·.1))[j]? = some n → (putF n v fs).map (·.1) = fs.map (·.1) ∧ (putF n v fs).map (·.2) = (fs.map (·.2)).set j v
  | [], _, _, j, _, e => by simp at e
  | (m, x) :: fs, n, v, 0, nd, e => by
    have e : m = n := Option.some.inj e
    unfold putF
    rw [if_pos e]
    exact ⟨rfl, rfl⟩
  | (m, x) :: fs, n, v, j + 1, nd, e => by
    rw [List.map_cons, List.nodup_cons] at nd
    rw [List.map_cons, List.getElem?_cons_succ] at e
    have hne : m ≠ n := fun q => nd.1 (by rw [q]; exact List.mem_of_getElem? e)
    obtain ⟨h1, h2⟩ := putF_at (v := v) nd.2 e
    unfold putF
    rw [if_neg hne]
    refine ⟨?_, ?_⟩
    · rw [List.map_cons, List.map_cons, h1]
    · rw [List.map_cons, List.map_cons, h2]
      rfl
/-- n of an instance set: a new attribute, or the j-th one -/
inductive Put (n : Str) (z : D) : List Str → List D → List Str → List D → Prop
  | new (ns : List Str) (l : List D) : n ∉ ns → Put n z ns l (ns ++ [n]) (l ++ [z])
  | at (ns : List Str) (l : List D) (j : Nat) : ns.Nodup → ns[j]? = some n → Put n z ns l ns (l.set j z)
theorem Put.odat {n : Str} {z : D} {ns ns' : List Str} {l' : List D} {c : Nat} {dx : Addr} {fs : List (Str × V)} {v : V} (h : Put n z ns l ns' l') (e : fs.map (·.1) = ns) (k : DenL F T H l (fs.map (·.2))) (kz : Den F T H z v) : OdAt F T H (some (.ins (T.cl c) dx (putF n v fs))) (.ins c ns' l') := by
  cases h with
  | new hn =>
    refine ⟨dx, _, rfl, ?_, ?_⟩
    · rw [putF_new (by rw [e]; exact hn), List.map_append, e]
      rfl
    · rw [putF_new (by rw [e]; exact hn), List.map_append]
      exact k.app (.one kz)
  | «at» j nd hj =>
    obtain ⟨h1, h2⟩ := putF_at (v := v) (by rw [e]; exact nd) (by rw [e]; exact hj)
    refine ⟨dx, _, rfl, by rw [h1, e], ?_⟩
    rw [h2]
    exact k.set kz
def gFld (K : PySem.W.Frag) (ta : TE) (f : Str) : TG := fun y σ H Q => ta σ H fun x H2 => ∃ a C dx fs, x = .ref a ∧ H2 a = some (.ins C dx fs) ∧ Cls K C ∧ NoAttr K C f ∧ fs.length < 1000 ∧ Q σ (upd H2 a (.ins C dx (putF f y fs)))
/-- the receiver of a store -/
def Rcv (F : FmKit) (T : Kx) (d z : D) (n : Str) (W : Om) (R : Om → Prop) : Prop := ∃ a c ns l W1 W2 ns' l', d = .adr a ∧ W = W1 ++ (a, .ins c ns l) :: W2 ∧ Cls T.K (T.cl c) ∧ NoAttr T.K (T.cl c) n ∧ ns.length < 1000 ∧ Put n z ns l ns' l' ∧ R (W1 ++ (a, .ins c ns' l') :: W2)
theorem Rcv.run {x y : V} {z : D} {n : Str} {RW : Om → Prop} (h : Rcv F T d z n W RW) (nx : Nx F T C W H H' O') (kx : Den F T H' d x) (ky : Den F T H' z y) : ∃ a C' dx fs, x = .ref a ∧ ov O' H' a = some (.ins C' dx fs) ∧ Cls T.K C' ∧ NoAttr T.K C' n ∧ fs.length < 1000 ∧
    ∃ W2 O2, RW W2 ∧ Nx F T C W2 H H' O2 ∧ upd (ov O' H') a (.ins C' dx (putF n y fs)) = ov O2 H' := by
  obtain ⟨a, c, ns, l, W1, W2, ns', l', e1, e2, hc, hn, hl, hp, r⟩ := h
  subst e1 e2
  have kx : x = .ref a := kx
  obtain ⟨_, dx, fs, h1, h2, h3⟩ := nx.own.at_ a _ (List.mem_append_right _ List.mem_cons_self)
  obtain ⟨n2, e⟩ := nx.write (o := .ins (T.cl c) dx (putF n y fs)) (hp.odat h2 h3 ky)
  have hl2 : fs.length = ns.length := by rw [← h2, List.length_map]
  exact ⟨a, _, dx, fs, kx, ov_own h1, hc, hn, by rw [hl2]; exact hl, _, _, r, n2, e⟩
/-- o.f = e -/
theorem sw_fld {n : Str} (h : Ev F T tb G W fun z W1 => Ev F T ta G W1 fun d W2 => Rcv F T d z n W2 (En1.nx G)) : Sw F T (sFld T.K ta tb n) G W En1 := fun C H O σ w B b =>
  h C H O σ w _ fun z W1 H1 O1 y h1 n1 k1 => h1 C H1 O1 σ (w.step n1) _ fun d W2 H2 O2 x hr n2 k2 => by
    obtain ⟨a, C', dx, fs, e, h1, hc, hn, hl, W3, O3, r, n3, e3⟩ := hr.run (n1.trans n2) k2 (k1.mono n2.ext)
    refine ⟨a, C', dx, fs, e, h1, hc, hn, hl, ?_⟩
    rw [e3]
    exact b.nx G W3 _ _ σ r n3 (w.loc.mono (n1.trans n2).ext)
/-- a target of any form: slots and owned cells may change -/
def Ta (F : FmKit) (T : Kx) (g : TG) (d : D) (G : Gm) (W : Om) (R : Gm → Om → Prop) : Prop :=
  ∀ (C H O : Hp) (σ : St), Wd F T C G W H O σ → ∀ v, Den F T H d v → ∀ Q : St → Hp → Prop, (∀ G' W' H' O' σ', R G' W' → Nx F T C W' H H' O' → Lo F T H' G' σ' → Q σ' (ov O' H')) → g v σ (ov O H) Q
def Tas (F : FmKit) (T : Kx) (g : TGs) (ds : List D) (G : Gm) (W : Om) (R : Gm → Om → Prop) : Prop :=
  ∀ (C H O : Hp) (σ : St), Wd F T C G W H O σ → ∀ vs, DenL F T H ds vs → ∀ Q : St → Hp → Prop, (∀ G' W' H' O' σ', R G' W' → Nx F T C W' H H' O' → Lo F T H' G' σ' → Q σ' (ov O' H')) → g vs σ (ov O H) Q
theorem ta_fld {n : Str} {RR : Gm → Om → Prop} (h : Ev F T ta G W fun x W2 => Rcv F T x d n W2 (RR G)) : Ta F T (gFld T.K ta n) d G W RR := fun C H O σ w v k Q q =>
  h C H O σ w _ fun x W2 H2 O2 y hr n2 k2 => by
    obtain ⟨a, C', dx, fs, e, h1, hc, hn, hl, W3, O3, r, n3, e3⟩ := hr.run n2 k2 (k.mono n2.ext)
    refine ⟨a, C', dx, fs, e, h1, hc, hn, hl, ?_⟩
    rw [e3]
    exact q G W3 _ _ σ r n3 (w.loc.mono n2.ext)
theorem ta_tg {g : TG} {RR : Gm → Om → Prop} (h : Tg F T g d G fun G' => RR G' W) : Ta F T g d G W RR := fun C H O σ w v k Q q =>
  h H _ σ v w.loc w.dis.same k _ fun G' σ' r l => q G' W H O σ' r w.nx l
theorem ta_name {i : Nat} {RR : Gm → Om → Prop} (h : RR (G.set i (some d)) W) : Ta F T (gName i) d G W RR := ta_tg (tg_name h)
theorem tas_nil {RR : Gm → Om → Prop} (h : RR G W) : Tas F T gNil [] G W RR := fun C H O σ w v k Q q => ⟨k, q G W H O σ h w.nx w.loc⟩
theorem tas_cons {g : TG} {gs : TGs} {ds : List D} {RR : Gm → Om → Prop} (h : Ta F T g d G W fun G' W' => Tas F T gs ds G' W' RR) : Tas F T (gCons g gs) (d :: ds) G W RR := fun C H O σ w vs k Q q => by
  obtain ⟨v, r, ev, k1, k2⟩ := k
  exact ⟨v, r, ev, h C H O σ w v k1 _ fun G1 W1 H1 O1 σ1 hh n1 l1 => hh C H1 O1 σ1 ⟨n1.dis, n1.oc, l1, n1.own⟩ r (k2.mono n1.ext) Q fun G2 W2 H2 O2 σ2 r2 n2 l2 => q G2 W2 H2 O2 σ2 r2 (n1.trans n2) l2⟩
theorem ta_tup {n : Nat} {gs : TGs} {ds : List D} {RR : Gm → Om → Prop} (hn : ds.length = n) (h : Tas F T gs ds G W RR) : Ta F T (gTup T.K n gs) (.tup ds) G W RR := fun C H O σ w v k Q q => by
  obtain ⟨a, xs, ev, hs, kl⟩ := k
  exact ⟨a, xs, ev, Same.sqT w.dis.same hs, by rw [kl.len, hn], h C H O σ w xs kl Q q⟩
theorem sw_asgA {g : TG} (h : Ev F T te G W fun d W' => Ta F T g d G W' fun G2 W2 => En1.nx G2 W2) : Sw F T (tAsg te g) G W En1 := fun C H O σ w B b =>
  h C H O σ w _ fun d W' H' O' v r n k => r C H' O' σ (w.step n) v k _ fun G2 W2 H2 O2 σ2 r2 n2 l2 => b.nx G2 W2 H2 O2 σ2 r2 (n.trans n2) l2
theorem sw_asg2 {g1 g2 : TG} (h : Ev F T te G W fun d W' => Ta F T g1 d G W' fun G2 W2 => Ta F T g2 d G2 W2 fun G3 W3 => En1.nx G3 W3) : Sw F T (tAsg2 te g1 g2) G W En1 := fun C H O σ w B b =>
  h C H O σ w _ fun d W' H' O' v r n k => r C H' O' σ (w.step n) v k _ fun G2 W2 H2 O2 σ2 r2 n2 l2 => r2 C H2 O2 σ2 ⟨n2.dis, n2.oc, l2, n2.own⟩ v (k.mono n2.ext) _ fun G3 W3 H3 O3 σ3 r3 n3 l3 => b.nx G3 W3 H3 O3 σ3 r3 ((n.trans n2).trans n3) l3
theorem sw_asg3 {g1 g2 g3 : TG} (h : Ev F T te G W fun d W' => Ta F T g1 d G W' fun G2 W2 => Ta F T g2 d G2 W2 fun G3 W3 => Ta F T g3 d G3 W3 fun G4 W4 => En1.nx G4 W4) : Sw F T (tAsg3 te g1 g2 g3) G W En1 := fun C H O σ w B b =>
  h C H O σ w _ fun d W' H' O' v r n k => r C H' O' σ (w.step n) v k _ fun G2 W2 H2 O2 σ2 r2 n2 l2 => r2 C H2 O2 σ2 ⟨n2.dis, n2.oc, l2, n2.own⟩ v (k.mono n2.ext) _ fun G3 W3 H3 O3 σ3 r3 n3 l3 =>
    r3 C H3 O3 σ3 ⟨n3.dis, n3.oc, l3, n3.own⟩ v ((k.mono n2.ext).mono n3.ext) _ fun G4 W4 H4 O4 σ4 r4 n4 l4 => b.nx G4 W4 H4 O4 σ4 r4 (((n.trans n2).trans n3).trans n4) l4
end
end N
set_option Elab.async false
set_option linter.all false
set_option maxRecDepth 100000
namespace N
open PySem L2
def wipeG (G : Gm) : List Nat → Gm
  | [] => G
  | v :: vs => (wipeG G vs).set v none
theorem wipe_at {σ : St} {i : Nat} : ∀ {vs : List Nat}, (wipe σ vs)[i]? = if i ∈ vs then (σ[i]?).map (fun _ => none) else σ[i]?
  | [] => by simp [wipe]
  | v :: vs => by
    unfold wipe
    have ih := wipe_at (σ := σ) (i := i) (vs := vs)
    rw [List.getElem?_set]
    by_cases h : v = i
    · subst h
      rw [if_pos rfl, if_pos (List.mem_cons_self)]
      rw [wipe_length]
      by_cases hl : v < σ.length
      · rw [if_pos hl, List.getElem?_eq_getElem hl]
        rfl
      · rw [if_neg hl, List.getElem?_eq_none (by omega)]
        rfl
    · rw [if_neg h, ih]
      have : (i ∈ v :: vs) ↔ (i ∈ vs) := by
        rw [List.mem_cons]
        exact ⟨fun z => z.elim (fun q => absurd q.symm h) id, .inr⟩
      by_cases hm : i ∈ vs
      · rw [if_pos hm, if_pos (this.mpr hm)]
      · rw [if_neg hm, if_neg (fun z => hm (this.mp z))]
theorem wipe_wipe {σ : St} {vs : List Nat} : wipe (wipe σ vs) vs = wipe σ vs := by
  apply List.ext_getElem?
  intro i
  rw [wipe_at, wipe_at]
  by_cases h : i ∈ vs
  · simp [h]
    rfl
  · simp [h]
theorem wipe_set {σ : St} {vs : List Nat} {i : Nat} {x : Option V} (h : i ∈ vs) : wipe (σ.set i x) vs = wipe σ vs := by
  apply List.ext_getElem?
  intro j
  rw [wipe_at, wipe_at]
  by_cases hj : j ∈ vs
  · rw [if_pos hj, if_pos hj, List.getElem?_set]
    by_cases e : i = j
    · subst e
      rw [if_pos rfl]
      by_cases hl : i < σ.length
      · rw [if_pos hl, List.getElem?_eq_getElem hl]
        rfl
      · rw [if_neg hl, List.getElem?_eq_none (by omega)]
    · rw [if_neg e]
  · rw [if_neg hj, if_neg hj, List.getElem?_set_ne (fun (e : i = j) => hj (e ▸ h))]
section
variable {F : FmKit} {T : Kx} {C H H' O O' : Hp} {G : Gm} {W W' : Om} {σ : St} {a p : Addr} {d : D} {l : List D}
  {te ta tb tv : TE} {t u : TT} {R R' : D → Om → Prop} {Z : Bool → Om → Prop} {tr tk : TA} {ts tz : TS}
theorem Lo.wipe (lo : Lo F T H G σ) : ∀ vs : List Nat, Lo F T H (wipeG G vs) (wipe σ vs)
  | [] => lo
  | v :: vs => (Lo.wipe lo vs).forget none
/-- a target of the comprehension's own names -/
def Tw (F : FmKit) (T : Kx) (vs : List Nat) (g : TG) (d : D) (G : Gm) (R : Gm → Prop) : Prop :=
  ∀ (H H1 : Hp) (σ : St) (v : V), Lo F T H G σ → Same H H1 → Den F T H d v → ∀ Q : St → Hp → Prop, (∀ G' σ', R G' → Lo F T H G' σ' → wipe σ' vs = wipe σ vs → Q σ' H1) → g v σ H1 Q
def Tws (F : FmKit) (T : Kx) (vs : List Nat) (g : TGs) (ds : List D) (G : Gm) (R : Gm → Prop) : Prop :=
  ∀ (H H1 : Hp) (σ : St) (us : List V), Lo F T H G σ → Same H H1 → DenL F T H ds us → ∀ Q : St → Hp → Prop, (∀ G' σ', R G' → Lo F T H G' σ' → wipe σ' vs = wipe σ vs → Q σ' H1) → g us σ H1 Q
variable {vs : List Nat} {Y : Gm → Prop}
theorem tw_name {i : Nat} (hi : i ∈ vs) (h : Y (G.set i (some d))) : Tw F T vs (gName i) d G Y := fun H H1 σ v l _ k Q q => q _ _ h (l.set k) (wipe_set hi)
theorem tws_nil (h : Y G) : Tws F T vs gNil [] G Y := fun H H1 σ v l _ k Q q => ⟨k, q _ _ h l rfl⟩
theorem tws_cons {g : TG} {gs : TGs} {ds : List D} (h : Tw F T vs g d G fun G' => Tws F T vs gs ds G' Y) : Tws F T vs (gCons g gs) (d :: ds) G Y := fun H H1 σ us l e k Q q => by
  obtain ⟨v, r, ev, k1, k2⟩ := k
  exact ⟨v, r, ev, h H H1 σ v l e k1 _ fun G' σ' hh l' w1 => hh H H1 σ' r l' e k2 Q fun G2 σ2 r2 l2 w2 => q G2 σ2 r2 l2 (w2.trans w1)⟩
theorem tw_tup {n : Nat} {gs : TGs} {ds : List D} (hn : ds.length = n) (h : Tws F T vs gs ds G Y) : Tw F T vs (gTup T.K n gs) (.tup ds) G Y := fun H H1 σ v l e k Q q => by
  obtain ⟨a, xs, ev, hs, kl⟩ := k
  exact ⟨a, xs, ev, Same.sqT e hs, by rw [kl.len, hn], h H H1 σ xs l e kl Q q⟩
/-- a hidden cell -/
theorem Nx.hide {o : HO} {Dp : Addr} {W1 : Om} {H1 : Hp} (n : Nx F T C W1 H H1 O') (hD : ov O' H1 Dp = none) : Nx F T (upd C Dp o) W1 H1 H1 (upd O' Dp o) ∧ upd (ov O' H1) Dp o = ov (upd O' Dp o) H1 ∧ C Dp = none := by
  obtain ⟨h1, h2⟩ := ov_none hD
  have cp : C Dp = none := by
    cases e : C Dp with
    | none => rfl
    | some x =>
      rw [n.oc Dp x e] at h1
      cases h1
  refine ⟨⟨Same.refl _, n.dis.updO h2, fun b x e => ?_, ⟨n.own.nd, fun b ob m => ?_⟩⟩, ov_updO, cp⟩
  · by_cases q : b = Dp
    · subst q
      rw [upd_same] at e ⊢
      exact e
    · rw [upd_ne q] at e ⊢
      exact n.oc b x e
  · have : b ≠ Dp := fun q => n.own.notin h1 (q ▸ mem_akeys (x := (b, ob)) m)
    rw [upd_ne this, upd_ne this]
    exact n.own.at_ b ob m
/-- the hidden cell is written -/
theorem Nx.rehide {o o' : HO} {Dp : Addr} {W2 : Om} {H1 H2 O2 : Hp} (n : Nx F T (upd C Dp o) W2 H1 H2 O2) (cp : C Dp = none) : Nx F T (upd C Dp o') W2 H1 H2 (upd O2 Dp o') ∧ upd (ov O2 H2) Dp o' = ov (upd O2 Dp o') H2 := by
  have hO : O2 Dp = some o := n.oc Dp o upd_same
  refine ⟨⟨n.ext, n.dis.updO (n.dis Dp o hO), fun b x e => ?_, ⟨n.own.nd, fun b ob m => ?_⟩⟩, ov_updO⟩
  · by_cases q : b = Dp
    · subst q
      rw [upd_same] at e ⊢
      exact e
    · rw [upd_ne q] at e
      rw [upd_ne q]
      exact n.oc b x (by rw [upd_ne q]; exact e)
  · obtain ⟨c1, c2⟩ := n.own.at_ b ob m
    have hb : b ≠ Dp := fun q => by
      rw [q, upd_same] at c1
      cases c1
    rw [upd_ne hb] at c1
    rw [upd_ne hb, upd_ne hb]
    exact ⟨c1, c2⟩
/-- the hidden cell comes out as an owned one -/
theorem Nx.show {o : HO} {od : OD} {Dp : Addr} {W2 : Om} {H1 H2 O2 : Hp} (n : Nx F T (upd C Dp o) W2 H1 H2 O2) (cp : C Dp = none) (h : OdAt F T H2 (some o) od) : Nx F T C ((Dp, od) :: W2) H1 H2 O2 ∧ Dp ∉ akeys W2 := by
  have hO : O2 Dp = some o := n.oc Dp o upd_same
  have nin : Dp ∉ akeys W2 := fun z => by
    obtain ⟨x, hx, e⟩ := List.mem_map.mp z
    have := (n.own.at_ x.1 x.2 hx).1
    rw [e, upd_same] at this
    cases this
  refine ⟨⟨n.ext, n.dis, fun b x e => n.oc b x (by rw [upd_ne (ne_of_none e cp)]; exact e), ⟨List.nodup_cons.mpr ⟨nin, n.own.nd⟩, fun b ob m => ?_⟩⟩, nin⟩
  rcases List.mem_cons.mp m with e | m
  · obtain ⟨rfl, rfl⟩ := Prod.mk.inj e
    rw [hO]
    exact ⟨cp, h⟩
  · obtain ⟨c1, c2⟩ := n.own.at_ b ob m
    have hb : b ≠ Dp := fun q => by
      rw [q, upd_same] at c1
      cases c1
    rw [upd_ne hb] at c1
    exact ⟨c1, c2⟩
/-- [e for .. in .. if ..] -/
theorem ev_lc {wi : TI} {g : TG} (h : EvI F T wi G W fun ds W1 => ∃ I : Nat → List D → Om → Prop, I 0 [] W1 ∧
      (∀ i d acc W', ds[i]? = some d → I i acc W' → Tw F T vs g d (wipeG G vs) fun G2 => EvT F T t G2 W' fun b W2 => if b = true then Ev F T te G2 W2 (fun z W3 => acc.length < sizeLine ∧ I (i + 1) (acc ++ [z]) W3) else I (i + 1) acc W2) ∧
      (∀ acc W', I ds.length acc W' → ∀ p, p ∉ akeys W' → R (.adr p) ((p, .lst acc) :: W'))) : Ev F T (tLc wi g t te vs) G W R := fun C H O σ w Q q =>
  h C H O σ w _ fun J ds W1 H1 O1 ⟨I, i0, turn, fin⟩ n1 wk Dp hD => by
    obtain ⟨n0, e0, cp⟩ := n1.hide (o := .lst []) hD
    refine ⟨fun i m X => m = ds.length - i ∧ i ≤ ds.length ∧ ∃ acc av W' H' O', X = ov O' H' ∧ Nx F T (upd C Dp (.lst av)) W' H1 H' O' ∧ DenL F T H' acc av ∧ I i acc W', ⟨ds.length, by simp, Nat.zero_le _, [], [], W1, H1, _, e0, n0, rfl, i0⟩, ?_⟩
    rintro i m X ⟨rfl, hi, acc, av, W', H', O', rfl, n, ka, ii⟩
    have k := wk i H' O' n.ext n.dis
    have lo1 := (w.loc.mono n1.ext).mono n.ext
    by_cases hlt : i < ds.length
    · obtain ⟨k1, k2⟩ := k.1 ds[i] (by simp [hlt])
      refine .inr ⟨k1, fun X2 => ∃ acc av W2 H2 O2, X2 = ov O2 H2 ∧ Nx F T (upd C Dp (.lst av)) W2 H1 H2 O2 ∧ DenL F T H2 acc av ∧ I (i + 1) acc W2, fun X2 y => ⟨ds.length - (i + 1), by omega, rfl, hlt, y⟩, fun x X2 y => ?_⟩
      obtain ⟨H2, s2, d2, rfl, kx⟩ := k2 x X2 y
      refine turn i ds[i] acc W' (by simp [hlt]) ii H2 _ _ x ((lo1.mono s2).wipe vs) d2.same kx _ fun G3 σ3 et l3 wz => ⟨wz.trans wipe_wipe, ?_⟩
      refine et (upd C Dp (.lst av)) H2 O' σ3 ⟨d2, n.oc, l3, n.own.mono s2⟩ _ fun b W3 H3 O3 r3 n3 => ?_
      have n03 : Nx F T (upd C Dp (.lst av)) W3 H1 H3 O3 := ⟨(n.ext.trans s2).trans n3.ext, n3.dis, n3.oc, n3.own⟩
      cases b with
      | false => exact ⟨acc, av, W3, H3, O3, rfl, n03, (ka.mono s2).mono n3.ext, r3⟩
      | true =>
        refine r3 (upd C Dp (.lst av)) H3 O3 σ3 ⟨n3.dis, n3.oc, l3.mono n3.ext, n3.own⟩ _ fun z W4 H4 O4 v ⟨hz, i4⟩ n4 k4 => ?_
        have hO : ov O4 H4 Dp = some (.lst av) := ov_own (n4.oc Dp _ upd_same)
        have ka4 := ((ka.mono s2).mono n3.ext).mono n4.ext
        refine ⟨av, hO, by rw [ka.len]; exact hz, ?_⟩
        obtain ⟨n5, e5⟩ := Nx.rehide (o' := .lst (av ++ [v])) (n03.trans n4) cp
        exact ⟨acc ++ [z], av ++ [v], W4, H4, _, e5, n5, ka4.app (.one k4), i4⟩
    · have e : i = ds.length := by omega
      subst e
      refine .inl ⟨k.2 rfl, ?_⟩
      obtain ⟨n6, np⟩ := n.show (od := .lst acc) cp ⟨av, rfl, ka⟩
      exact q (.adr Dp) _ H' O' _ (fin acc W' ii Dp np) (Nx.trans ⟨n1.ext, n1.dis, n1.oc, n1.own⟩ n6) rfl
theorem et_yes (h : Z true W) : EvT F T tYes G W Z := fun C H O σ w Q q => q true W H O h w.nx
def putG {α : Type} (ps : List (Key × α)) (k : Key) (z : α) : List (Key × α) := if (ps.any fun q => decide (q.1 = k)) = true then ps.map (fun q => if q.1 = k then (q.1, z) else q) else ps ++ [(k, z)]
theorem putG_V (kvs : List (Key × V)) (k : Key) (z : V) : putG kvs k z = putK kvs k z := rfl
/-- a dict of pairs -/
@[reducible] def OD.dp (ps : List (Key × D)) : OD := .dct (ps.map (·.1)) (ps.map (·.2))
@[reducible] def D.dp (ps : List (Key × D)) : D := .dct (ps.map (·.1)) (ps.map (·.2))
theorem any_keys {α β : Type} {k : Key} : ∀ {ps : List (Key × α)} {qs : List (Key × β)}, ps.map (·.1) = qs.map (·.1) → (ps.any fun q => decide (q.1 = k)) = qs.any fun q => decide (q.1 = k)
  | [], [], _ => rfl
  | [], q :: qs, h => by simp at h
  | p :: ps, [], h => by simp at h
  | p :: ps, q :: qs, h => by
    rw [List.map_cons, List.map_cons] at h
    obtain ⟨h1, h2⟩ := List.cons.inj h
    rw [List.any_cons, List.any_cons, any_keys h2, h1]
theorem putG_keys {α β : Type} {k : Key} {z : α} {y : β} {ps : List (Key × α)} {qs : List (Key × β)} (h : ps.map (·.1) = qs.map (·.1)) : (putG ps k z).map (·.1) = (putG qs k y).map (·.1) := by
  unfold putG
  rw [any_keys h]
  split
  · rw [List.map_map, List.map_map]
    have e1 : ∀ (α : Type) (z : α) (l : List (Key × α)), l.map ((·.1) ∘ fun q => if q.1 = k then (q.1, z) else q) = l.map (·.1) := fun α z l => List.map_congr_left fun q _ => by
      show (if q.1 = k then (q.1, z) else q).1 = q.1
      split <;> rfl
    rw [e1, e1, h]
  · rw [List.map_append, List.map_append, h]
    rfl
theorem putG_den {k : Key} {z : D} {y : V} (hz : Den F T H z y) : ∀ {ps : List (Key × D)} {kvs : List (Key × V)}, kvs.map (·.1) = ps.map (·.1) → DenL F T H (ps.map (·.2)) (kvs.map (·.2)) → DenL F T H ((putG ps k z).map (·.2)) ((putG kvs k y).map (·.2)) := by
  intro ps kvs h kl
  unfold putG
  rw [any_keys h]
  split
  · rename_i hh
    clear hh
    induction ps generalizing kvs with
    | nil =>
      cases kvs with
      | nil => exact kl
      | cons _ _ => simp at h
    | cons p ps ih =>
      cases kvs with
      | nil => simp at h
      | cons q qs =>
        rw [List.map_cons, List.map_cons] at h
        obtain ⟨h1, h2⟩ := List.cons.inj h
        obtain ⟨v, r, e, k1, k2⟩ := kl
        rw [List.map_cons] at e
        obtain ⟨e1, e2⟩ := List.cons.inj e
        subst e2
        refine ⟨_, _, rfl, ?_, ih h2 k2⟩
        show Den F T H (if p.1 = k then (p.1, z) else p).2 (if q.1 = k then (q.1, y) else q).2
        rw [h1]
        by_cases e : p.1 = k
        · rw [if_pos e, if_pos e]
          exact hz
        · rw [if_neg e, if_neg e, e1]
          exact k1
  · rw [List.map_append, List.map_append]
    exact kl.app (.one hz)
theorem putG_nodup {α : Type} {k : Key} {z : α} {ps : List (Key × α)} (h : (ps.map (·.1)).Nodup) : ((putG ps k z).map (·.1)).Nodup := by
  unfold putG
  split
  · rw [List.map_map]
    have e1 : ps.map ((·.1) ∘ fun q => if q.1 = k then (q.1, z) else q) = ps.map (·.1) := List.map_congr_left fun q _ => by
      show (if q.1 = k then (q.1, z) else q).1 = q.1
      split <;> rfl
    rw [e1]
    exact h
  · rename_i hn
    rw [List.map_append, List.nodup_append]
    refine ⟨h, by simp, fun x hx y hy e => hn ?_⟩
    have hy : y = k := by simpa using hy
    obtain ⟨q, hq, eq⟩ := List.mem_map.mp hx
    rw [List.any_eq_true]
    exact ⟨q, hq, by rw [eq, e, hy]; simp⟩
/-- what a dict gives -/
def getG {α : Type} (ps : List (Key × α)) (k : Key) : Option α := (ps.find? fun q => decide (q.1 = k)).map (·.2)
theorem getG_den {k : Key} : ∀ {ps : List (Key × D)} {kvs : List (Key × V)}, kvs.map (·.1) = ps.map (·.1) → DenL F T H (ps.map (·.2)) (kvs.map (·.2)) → (getG ps k = none ∧ valV kvs k = none) ∨ ∃ z v, getG ps k = some z ∧ valV kvs k = some v ∧ Den F T H z v
  | [], [], _, _ => .inl ⟨rfl, rfl⟩
  | [], q :: qs, h, _ => by simp at h
  | p :: ps, [], h, _ => by simp at h
  | p :: ps, q :: qs, h, kl => by
    rw [List.map_cons, List.map_cons] at h
    obtain ⟨h1, h2⟩ := List.cons.inj h
    obtain ⟨v, r, e, k1, k2⟩ := kl
    rw [List.map_cons] at e
    obtain ⟨e1, e2⟩ := List.cons.inj e
    subst e2
    unfold getG valV
    rw [List.find?_cons, List.find?_cons, h1]
    by_cases e : p.1 = k
    · rw [decide_eq_true e]
      exact .inr ⟨p.2, q.2, rfl, rfl, by rw [e1]; exact k1⟩
    · rw [decide_eq_false e]
      exact getG_den h2 k2
/-- d is a dict of ps: frozen, or owned -/
def Vd (W : Om) (d : D) (ps : List (Key × D)) : Prop := d = .dp ps ∨ ∃ a, d = .adr a ∧ (a, .dp ps) ∈ W
theorem Vd.at {x : V} {ps : List (Key × D)} (h : Vd W d ps) (di : Dis O H) (ow : Ow F T H C O W) (k : Den F T H d x) : ∃ a kvs, x = .ref a ∧ ov O H a = some (.dK kvs) ∧ kvs.map (·.1) = ps.map (·.1) ∧ (ps.map (·.1)).Nodup ∧ DenL F T H (ps.map (·.2)) (kvs.map (·.2)) := by
  rcases h with rfl | ⟨a, rfl, m⟩
  · obtain ⟨a, kvs, e, h1, h2, h3, h4⟩ := k
    exact ⟨a, kvs, e, di.same _ _ h1, h2, h3, h4⟩
  · obtain ⟨_, kvs, h1, h2, h3, h4⟩ := ow.at_ a _ m
    exact ⟨a, kvs, k, ov_own h1, h2, h3, h4⟩
/-- a key as a datum -/
def kD (k : Key) : D := .vl (kV k)
theorem ev_dnew (h : ∀ p, p ∉ akeys W → R (.adr p) ((p, .dp []) :: W)) : Ev F T tDNewK G W R := fun C H O σ w Q q p hp => by
  obtain ⟨n2, e, np⟩ := w.nx.newO (od := .dp []) (o := .dK []) hp ⟨[], rfl, rfl, List.nodup_nil, rfl⟩
  rw [e]
  exact q (.adr p) _ _ _ _ (h p np) n2 rfl
/-- d[k] -/
theorem ev_dget (h : Ev F T ta G W fun d W1 => Ev F T tb G W1 fun y W2 => ∃ ps k z, Vd W2 d ps ∧ y = kD k ∧ getG ps k = some z ∧ R z W2) : Ev F T (tDGet ta tb) G W R := fun C H O σ w Q q =>
  h C H O σ w _ fun d W1 H1 O1 x h1 n1 k1 => h1 C H1 O1 σ (w.step n1) _ fun y W2 H2 O2 yv ⟨ps, k, z, hv, ey, hg, r⟩ n2 k2 => by
    subst ey
    obtain ⟨a, kvs, ex, ha, e1, e2, kl⟩ := hv.at n2.dis n2.own (k1.mono n2.ext)
    have k2 : yv = kV k := k2
    subst ex k2
    rcases getG_den (k := k) e1 kl with ⟨g1, _⟩ | ⟨z', v, g1, g2, kz⟩
    · rw [g1] at hg
      cases hg
    · rw [g1] at hg
      cases hg
      exact ⟨a, v, rfl, .inl ⟨kvs, k, .inl ha, rfl, g2.symm⟩, q z W2 H2 O2 v r (n1.trans n2) kz⟩
/-- d[k] = e -/
theorem sw_dput {td ty tv : TE} {Ed : En} (h : Ev F T tv G W fun z W1 => Ev F T td G W1 fun d W2 => Ev F T ty G W2 fun y W3 => ∃ a ps k Wa Wb, d = .adr a ∧ W3 = Wa ++ (a, .dp ps) :: Wb ∧ y = kD k ∧ ps.length < sizeLine ∧ Ed.nx G (Wa ++ (a, .dp (putG ps k z)) :: Wb)) : Sw F T (sDPut td ty tv) G W Ed := fun C H O σ w B b =>
  h C H O σ w _ fun z W1 H1 O1 zv h1 n1 k1 => h1 C H1 O1 σ (w.step n1) _ fun d W2 H2 O2 x h2 n2 k2 => h2 C H2 O2 σ ((w.step n1).step n2) _ fun y W3 H3 O3 yv ⟨a, ps, k, Wa, Wb, e1, e2, e3, hl, r⟩ n3 k3 => by
    subst e1 e2 e3
    have k2 : x = .ref a := k2
    have k3 : yv = kV k := k3
    subst k2 k3
    obtain ⟨_, kvs, ha, f1, f2, kl⟩ := n3.own.at_ a _ (List.mem_append_right _ List.mem_cons_self)
    have nn := (n1.trans n2).trans n3
    have hl2 : kvs.length = ps.length := by
      have := congrArg List.length f1
      rwa [List.length_map, List.length_map] at this
    refine ⟨a, _, rfl, DPut.k (ov_own ha) (by rw [hl2]; exact hl), ?_⟩
    obtain ⟨n4, e4⟩ := nn.write (o := .dK (putK kvs k zv)) (od2 := .dp (putG ps k z)) ⟨_, rfl, (putG_V kvs k zv) ▸ putG_keys (z := zv) (y := z) f1, putG_nodup f2, (putG_V kvs k zv) ▸ putG_den ((k1.mono n2.ext).mono n3.ext) f1 kl⟩
    rw [e4]
    exact b.nx _ _ _ _ _ r n4 (w.loc.mono nn.ext)
/-- {k: e for .. in .. if ..} -/
theorem ev_dc {wi : TI} {g : TG} (h : EvI F T wi G W fun ds W1 => ∃ I : Nat → List (Key × D) → Om → Prop, I 0 [] W1 ∧
      (∀ i d acc W', ds[i]? = some d → I i acc W' → Tw F T vs g d (wipeG G vs) fun G2 => EvT F T t G2 W' fun b W2 => if b = true then Ev F T te G2 W2 (fun y W3 => Ev F T tv G2 W3 fun z W4 => ∃ k, y = kD k ∧ acc.length < sizeLine ∧ I (i + 1) (putG acc k z) W4) else I (i + 1) acc W2) ∧
      (∀ acc W', I ds.length acc W' → ∀ p, p ∉ akeys W' → R (.adr p) ((p, .dp acc) :: W'))) : Ev F T (tDc wi g t te tv vs) G W R := fun C H O σ w Q q =>
  h C H O σ w _ fun J ds W1 H1 O1 ⟨I, i0, turn, fin⟩ n1 wk Dp hD => by
    obtain ⟨n0, e0, cp⟩ := n1.hide (o := .dK []) hD
    refine ⟨fun i m X => m = ds.length - i ∧ i ≤ ds.length ∧ ∃ acc av W' H' O', X = ov O' H' ∧ Nx F T (upd C Dp (.dK av)) W' H1 H' O' ∧ (av.map (·.1) = acc.map (·.1) ∧ (acc.map (·.1)).Nodup ∧ DenL F T H' (acc.map (·.2)) (av.map (·.2))) ∧ I i acc W', ⟨ds.length, by simp, Nat.zero_le _, [], [], W1, H1, _, e0, n0, ⟨rfl, List.nodup_nil, (show DenL F T H1 (([] : List (Key × D)).map (·.2)) (([] : List (Key × V)).map (·.2)) from rfl)⟩, i0⟩, ?_⟩
    rintro i m X ⟨rfl, hi, acc, av, W', H', O', rfl, n, ⟨ka1, ka2, ka⟩, ii⟩
    have k := wk i H' O' n.ext n.dis
    have lo1 := (w.loc.mono n1.ext).mono n.ext
    by_cases hlt : i < ds.length
    · obtain ⟨k1, k2⟩ := k.1 ds[i] (by simp [hlt])
      refine .inr ⟨k1, fun X2 => ∃ acc av W2 H2 O2, X2 = ov O2 H2 ∧ Nx F T (upd C Dp (.dK av)) W2 H1 H2 O2 ∧ (av.map (·.1) = acc.map (·.1) ∧ (acc.map (·.1)).Nodup ∧ DenL F T H2 (acc.map (·.2)) (av.map (·.2))) ∧ I (i + 1) acc W2, fun X2 y => ⟨ds.length - (i + 1), by omega, rfl, hlt, y⟩, fun x X2 y => ?_⟩
      obtain ⟨H2, s2, d2, rfl, kx⟩ := k2 x X2 y
      refine turn i ds[i] acc W' (by simp [hlt]) ii H2 _ _ x ((lo1.mono s2).wipe vs) d2.same kx _ fun G3 σ3 et l3 wz => ⟨wz.trans wipe_wipe, ?_⟩
      refine et (upd C Dp (.dK av)) H2 O' σ3 ⟨d2, n.oc, l3, n.own.mono s2⟩ _ fun b W3 H3 O3 r3 n3 => ?_
      have n03 : Nx F T (upd C Dp (.dK av)) W3 H1 H3 O3 := ⟨(n.ext.trans s2).trans n3.ext, n3.dis, n3.oc, n3.own⟩
      cases b with
      | false => exact ⟨acc, av, W3, H3, O3, rfl, n03, ⟨ka1, ka2, (ka.mono s2).mono n3.ext⟩, r3⟩
      | true =>
        have w3 : Wd F T (upd C Dp (.dK av)) G3 W3 H3 O3 σ3 := ⟨n3.dis, n3.oc, l3.mono n3.ext, n3.own⟩
        refine r3 (upd C Dp (.dK av)) H3 O3 σ3 w3 _ fun y W4 H4 O4 yv r4 n4 k4 => ?_
        refine r4 (upd C Dp (.dK av)) H4 O4 σ3 (w3.step n4) _ fun z W5 H5 O5 zv ⟨k', ey, hz, i5⟩ n5 k5 => ?_
        subst ey
        have k4 : yv = kV k' := k4
        subst k4
        have hO : ov O5 H5 Dp = some (.dK av) := ov_own (n5.oc Dp _ upd_same)
        have ka5 := (((ka.mono s2).mono n3.ext).mono n4.ext).mono n5.ext
        have hl2 : av.length = acc.length := by
          have := congrArg List.length ka1
          rwa [List.length_map, List.length_map] at this
        refine ⟨av, k', rfl, hO, by rw [hl2]; exact hz, ?_⟩
        obtain ⟨n6, e6⟩ := Nx.rehide (o' := .dK (putK av k' zv)) ((n03.trans n4).trans n5) cp
        exact ⟨putG acc k' z, putK av k' zv, W5, H5, _, e6, n6, ⟨(putG_V av k' zv) ▸ putG_keys (z := zv) (y := z) ka1, putG_nodup ka2, (putG_V av k' zv) ▸ putG_den k5 ka1 ka5⟩, i5⟩
    · have e : i = ds.length := by omega
      subst e
      refine .inl ⟨k.2 rfl, ?_⟩
      obtain ⟨n6, np⟩ := n.show (od := .dp acc) cp ⟨av, rfl, ka1, ka2, ka⟩
      exact q (.adr Dp) _ H' O' _ (fin acc W' ii Dp np) (Nx.trans ⟨n1.ext, n1.dis, n1.oc, n1.own⟩ n6) rfl
def pairsD : Nat → List D → List D
  | _, [] => []
  | n, d :: l => .tup [.int (n : Nat), d] :: pairsD (n + 1) l
theorem pairsD_len : ∀ {l : List D} {n : Nat}, (pairsD n l).length = l.length
  | [], _ => rfl
  | d :: l, n => by
    show (pairsD (n + 1) l).length + 1 = l.length + 1
    rw [pairsD_len]
theorem pairsD_get : ∀ {l : List D} {n i : Nat} {z : D}, (pairsD n l)[i]? = some z → ∃ d, l[i]? = some d ∧ z = .tup [.int ((n + i : Nat) : Int), d]
  | [], _, i, z, h => by simp [pairsD] at h
  | d :: l, n, 0, z, h => ⟨d, rfl, (Option.some.inj h).symm⟩
  | d :: l, n, i + 1, z, h => by
    have h : (pairsD (n + 1) l)[i]? = some z := h
    obtain ⟨e, h1, h2⟩ := pairsD_get h
    refine ⟨e, h1, ?_⟩
    rw [h2]
    have : n + 1 + i = n + (i + 1) := by omega
    rw [this]
theorem ei_str {Y : List D → Om → Prop} (h : Ev F T te G W fun d W1 => ∃ z : Str, d = .str z ∧ Y (z.cps.toList.map fun c => .str ⟨#[c]⟩) W1) : EvI F T (iStr te) G W Y := fun C H O σ w Q q =>
  h C H O σ w _ fun d W1 H1 O1 v ⟨z, e, y⟩ n k => by
    subst e
    have k : v = .str z := k
    refine ⟨z, k, q _ _ W1 H1 O1 y n fun i H2 O2 s di => ⟨fun d hd => ?_, fun e => ?_⟩⟩
    · rw [List.getElem?_map] at hd
      cases hc : z.cps.toList[i]? with
      | none =>
        rw [hc] at hd
        cases hd
      | some c =>
        rw [hc] at hd
        have hd : D.str ⟨#[c]⟩ = d := Option.some.inj hd
        subst hd
        have hc' : z.cps[i]? = some c := by simpa using hc
        refine ⟨(Array.getElem?_eq_some_iff.mp hc').1, fun x X ⟨e1, c2, e2, e3⟩ => ⟨H2, Same.refl _, di, e1, ?_⟩⟩
        rw [hc'] at e2
        cases e2
        exact e3
    · rw [List.length_map, Array.length_toList] at e
      show z.cps.size ≤ i
      omega
end
end N
set_option Elab.async false
set_option linter.all false
set_option maxRecDepth 100000
namespace N
open PySem PySem.Spec PyProof.Rows L2
section
variable {X : Cx} {CX : CXT} {k : Nat} {C f : Addr} {fd : FuncData} {ps ks : List Str} {sp : Sp} {E : XK} {pins : List (Addr × Obj)} {σ : L2.St} {H : Hp} {s : Shared}
/-- a def is called from anywhere within the body -/
theorem run_at {A : Around} {vs : List V} {us : List Value} {Q : VK} (F : FnOk X.prog X.w X.K X.mg X.base CX k f fd ps sp) (hr : Room k A) (fr : A.frames = X.A.frames) (hb : Binds X.K fd ps []) (hx : Passes CX X E) (I : Inv X pins σ H s) (r : Vals vs us) (h : sp vs H Q E) :
    wpAny (model X.prog X.w) A (call (.ref f) us) (EP X pins σ Q) X.xe s := by
  have e := I.env0
  have e0 : Env0 X.prog X.w X.K X.mg X.base A X.stack s H := ⟨by rw [fr]; exact e.frames, e.mod, e.bs, e.bsz, e.funs, e.frf, e.hok, e.bare⟩
  have hl : us.length = ps.length := by rw [← r.length]; exact F.len _ _ _ _ h
  have hb' := hb s us I.kIn (by simpa using hl)
  simp only [List.append_nil] at hb'
  refine wpAny_call (codeAny_mono (F.run A X.stack s H ⟨us, []⟩ us vs Q E hr e0 hb' r h) fun r s' hq => ?_)
  cases r with
  | error e => exact hx pins σ H s e s' I hq
  | ok fl =>
    cases fl with
    | ret u => exact I.after hq
    | next => exact False.elim hq
    | brk => exact False.elim hq
    | cont => exact False.elim hq
/-- an instance's method of the class, by a name between two underscores -/
structure Own2 (K : PySem.W.Frag) (C : Addr) (m : Str) (f : Addr) : Prop where
  at_ : PySem.W.findIn K (.ref C) m = some (some (.ref f))
  fn : PySem.W.isFn K (.ref f) = true
def rOwn1 (C : Addr) (sp : Sp) (E : XK) : V → Hp → VK → Prop := fun x H Q => ∃ a dx fs, x = .ref a ∧ H a = some (.ins C dx fs) ∧ sp [x] H Q E
def rOwn2 (C : Addr) (sp : Sp) (E : XK) : R2 := fun x y H Q => ∃ a b dx dy fs gs, x = .ref a ∧ y = .ref b ∧ H a = some (.ins C dx fs) ∧ H b = some (.ins C dy gs) ∧ sp [x, y] H Q E
theorem inst_of {a dx : Addr} {fs : List (Str × V)} (I : Inv X pins σ H s) (e : H a = some (.ins C dx fs)) : ∃ od, PySem.W.InstAt s.heap a (PySem.W.instObj C dx) C (some od) := by
  obtain ⟨mA, J, _⟩ := ins_get I.hok e
  obtain ⟨od, J, _⟩ := J.look
  exact ⟨od, J⟩
theorem back_of {Q : VK} {v : Value} {s' : Shared} (h : EP X pins σ Q v s') : PySem.W.CmpBack (EP X pins σ Q) v s' := by
  obtain ⟨x, H', I', r, q⟩ := id h
  cases x with
  | non => cases r; exact h
  | bl _ => cases r; exact h
  | int _ => obtain ⟨t, rfl⟩ := r; exact h
  | str _ => obtain ⟨t, rfl⟩ := r; exact h
  | byt _ => obtain ⟨t, rfl⟩ := r; exact h
  | flt _ => obtain ⟨t, rfl⟩ := r; exact h
  | ref _ => cases r; exact h
  | ty _ => cases r; exact h
/-- x op y by the own method, both of the class -/
theorem op_own {op : Operator} (F : FnOk X.prog X.w X.K X.mg X.base CX k f fd ps sp) (hr : Room k X.A) (o : Own2 X.K C (PySem.dunder op.info.2) f) (hc : PySem.W.selfFirst X.K C = true) (hb : Binds X.K fd ps []) (hx : Passes CX X E) : OpR X (binaryOp op) (rOwn2 C sp E) := by
  intro pins s σ H x y v u Q I rx ry hq
  obtain ⟨a, b, dx, dy, fs, gs, rfl, rfl, ha, hb', q⟩ := hq
  cases rx
  cases ry
  obtain ⟨od, J⟩ := inst_of I ha
  obtain ⟨od', J'⟩ := inst_of I hb'
  obtain ⟨m, hF⟩ := I.fr
  refine PySem.W.binop_K hF I.ok.mod.kin J J'.type hc o.at_ o.fn ?_
  exact thn (run_at F hr rfl hb hx I (vs := [V.ref a, V.ref b]) (.cons rfl (.cons rfl .nil)) q) fun v s' h => back_of h
theorem un_own_inv (F : FnOk X.prog X.w X.K X.mg X.base CX k f fd ps sp) (hr : Room k X.A) (o : Own2 X.K C "__invert__" f) (hb : Binds X.K fd ps []) (hx : Passes CX X E) : UnR X (unaryOp .Invert) (rOwn1 C sp E) := by
  intro pins s σ H x v Q I rx hq
  obtain ⟨a, dx, fs, rfl, ha, q⟩ := hq
  cases rx
  obtain ⟨od, J⟩ := inst_of I ha
  obtain ⟨m, hF⟩ := I.fr
  exact PySem.W.ksp_inv hF I.ok.mod.kin J o.at_ o.fn (run_at F hr rfl hb hx I (vs := [V.ref a]) (.cons rfl .nil) q)
/-- str(x) by the own method -/
theorem call_own_str (F : FnOk X.prog X.w X.K X.mg X.base CX k f fd ps sp) (hr : Room (k + 2) X.A) (o : Own2 X.K C "__str__" f) (hb : Binds X.K fd ps []) (hx : Passes CX X E) :
    CallR X (.type "str") (fun xs H Q => ∃ a dx fs, xs = [.ref a] ∧ H a = some (.ins C dx fs) ∧ sp [.ref a] H (fun v H' => (∃ z, v = .str z) ∧ Q v H') E) := by
  intro pins s σ H xs us Q I r hq
  obtain ⟨a, dx, fs, rfl, ha, q⟩ := hq
  obtain ⟨u, rfl, rx⟩ := vals1 r
  cases rx
  obtain ⟨od, J⟩ := inst_of I ha
  have h1 := hr.in1
  have h2 := h1.in1
  refine PySem.W.kso_call h2.units0 I.kIn J o.at_ o.fn (thn (run_at F h2 rfl hb hx I (vs := [V.ref a]) (.cons rfl .nil) q) fun v s' h => ?_)
  obtain ⟨x, H', I', rx, ⟨z, ez⟩, q'⟩ := h
  subst ez
  obtain ⟨t, rfl⟩ := rx
  exact ⟨.str z, H', I', ⟨t, rfl⟩, q'⟩
/-- o.f as a target -/
theorem pg_fld {o : Expr} {g : Str} {pos : Pos} {ta : TE} (ha : PE X o ta) : PG X (.Attribute o g pos) (gFld X.K ta g) := by
  refine ⟨fun pins s σ H v u Q I r h => ?_⟩
  rw [assign_Attribute]
  refine wpAny_bind (wpAny_holding (thn (ha.run pins s σ H _ I h) fun ov s1 ⟨x, H1, I1, r1, a, C, dx, fs, ex, ea, c, n, l, q⟩ => ?_))
  subst ex
  obtain rfl : ov = Value.ref a := r1
  refine wpAny_bind (wpAny_standAt (wpAny_bind (wpAny_holding (setattr_ok I1 ea c n l r fun s3 I3 => ?_))))
  exact wpAny_release ⟨σ, _, I3, q⟩
end
end N
set_option Elab.async false
set_option linter.all false
set_option maxRecDepth 100000
set_option maxHeartbeats 400000
namespace N
open PySem PySem.Spec PyProof.Rows L2
mutual
def D.pd : D → Option PyData
  | .vl .non => some .none
  | .vl (.bl b) => some (.bool b)
  | .vl (.int i) => some (.int i)
  | .vl (.str s) => some (.str s)
  | .vl _ => none
  | .tup l => (pdL l).map .tuple
  | .lst l => (pdL l).map .list
  | .dct _ _ => none
  | .obj _ _ _ => none
  | .fm _ => none
  | .scr _ => none
  | .kdd _ _ _ => none
  | .dcz _ _ => none
  | .tupz _ => none
def pdL : List D → Option (List PyData)
  | [] => some []
  | d :: l => match D.pd d, pdL l with
    | some p, some r => some (p :: r)
    | _, _ => none
end
theorem pdL_cons {d : D} {l : List D} {p : PyData} {r : List PyData} (h1 : d.pd = some p) (h2 : pdL l = some r) : pdL (d :: l) = some (p :: r) := by
  simp only [pdL, h1, h2]
theorem pdL_map {α : Type} (f : α → D) (g : α → PyData) (h : ∀ x, (f x).pd = some (g x)) : ∀ l : List α, pdL (l.map f) = some (l.map g)
  | [] => rfl
  | x :: l => pdL_cons (h x) (pdL_map f g h l)
theorem pd_tup {l : List D} {r : List PyData} (h : pdL l = some r) : (D.tup l).pd = some (.tuple r) := by simp only [D.pd, h, Option.map_some]
theorem pd_lst {l : List D} {r : List PyData} (h : pdL l = some r) : (D.lst l).pd = some (.list r) := by simp only [D.pd, h, Option.map_some]
section
variable {F : FmKit} {T : Kx} {C H H' O O' : Hp} {G : Gm} {W W' : Om} {R R' : D → Om → Prop}
mutual
theorem Den.dp : ∀ (d : D) (v : V) (p : PyData), Den F T H d v → d.pd = some p → Dp T.K H v p
  | .vl .non, _, p, h, e => by
    have h : _ = _ := h
    simp only [D.pd, Option.some.injEq] at e
    subst h e
    exact .non
  | .vl (.bl b), _, p, h, e => by
    have h : _ = _ := h
    simp only [D.pd, Option.some.injEq] at e
    subst h e
    exact .bl b
  | .vl (.int i), _, p, h, e => by
    have h : _ = _ := h
    simp only [D.pd, Option.some.injEq] at e
    subst h e
    exact .int i
  | .vl (.str s), _, p, h, e => by
    have h : _ = _ := h
    simp only [D.pd, Option.some.injEq] at e
    subst h e
    exact .str s
  | .vl (.byt _), _, p, _, e => by simp only [D.pd] at e; cases e
  | .vl (.flt _), _, p, _, e => by simp only [D.pd] at e; cases e
  | .vl (.ref _), _, p, _, e => by simp only [D.pd] at e; cases e
  | .vl (.ty _), _, p, _, e => by simp only [D.pd] at e; cases e
  | .tup l, _, p, ⟨a, xs, h1, h2, h3⟩, e => by
    subst h1
    simp only [D.pd] at e
    cases q : pdL l with
    | none =>
      rw [q] at e
      cases e
    | some r =>
      rw [q] at e
      cases e
      exact .tup h2 (DenL.dp l xs r h3 q)
  | .lst l, _, p, ⟨a, xs, h1, h2, h3⟩, e => by
    subst h1
    simp only [D.pd] at e
    cases q : pdL l with
    | none =>
      rw [q] at e
      cases e
    | some r =>
      rw [q] at e
      cases e
      exact .lst (SqL.of h2) (DenL.dp l xs r h3 q)
  | .dct _ _, _, p, _, e => by simp only [D.pd] at e; cases e
  | .obj _ _ _, _, p, _, e => by simp only [D.pd] at e; cases e
  | .fm _, _, p, _, e => by simp only [D.pd] at e; cases e
  | .scr _, _, p, _, e => by simp only [D.pd] at e; cases e
  | .kdd _ _ _, _, p, _, e => by simp only [D.pd] at e; cases e
  | .dcz _ _, _, p, _, e => by simp only [D.pd] at e; cases e
  | .tupz _, _, p, _, e => by simp only [D.pd] at e; cases e
theorem DenL.dp : ∀ (l : List D) (vs : List V) (ps : List PyData), DenL F T H l vs → pdL l = some ps → DpAll T.K H vs ps
  | [], _, ps, h, e => by
    have h : _ = _ := h
    simp only [pdL, Option.some.injEq] at e
    subst h e
    exact .nil
  | d :: l, _, ps, ⟨v, r, h1, h2, h3⟩, e => by
    subst h1
    simp only [pdL] at e
    cases q : D.pd d with
    | none =>
      rw [q] at e
      cases e
    | some p =>
      cases q2 : pdL l with
      | none =>
        rw [q, q2] at e
        cases e
      | some rs =>
        rw [q, q2] at e
        cases e
        exact .cons (Den.dp d v p h2 q) (DenL.dp l r rs h3 q2)
end
/-- d is the datum p: frozen, or an owned list of such -/
def Vp (W : Om) (d : D) (p : PyData) : Prop := d.pd = some p ∨ ∃ l, Vl W d l ∧ (D.lst l).pd = some p
theorem Vp.at {d : D} {p : PyData} {x : V} (h : Vp W d p) (di : Dis O H) (ow : Ow F T H C O W) (k : Den F T H d x) : Dp T.K (ov O H) x p := by
  rcases h with h | ⟨l, hv, h⟩
  · exact Den.dp d x p (k.mono di.same) h
  · obtain ⟨a, xs, e, hs, kl⟩ := hv.sq ow di k
    simp only [D.pd] at h
    cases q : pdL l with
    | none =>
      rw [q] at h
      cases h
    | some r =>
      rw [q] at h
      cases h
      subst e
      exact .lst hs (DenL.dp l xs r (kl.mono di.same) q)
theorem bo_eqD {d1 d2 : D} {p q : PyData} (h1 : Vp W d1 p) (h2 : Vp W d2 q) (s1 : SeqAt.shaped p = true) (s2 : SeqAt.shaped q = true) (r : R (.bl (PyData.eqv p q)) W) : Bo F T (rEqD T.K) d1 d2 W R := fun C H O di oc ow x y hx hy Q k =>
  ⟨p, q, h1.at di ow hx, h2.at di ow hy, s1, s2, k _ W H O _ r (.refl di oc ow) rfl⟩
theorem bo_neD {d1 d2 : D} {p q : PyData} (h1 : Vp W d1 p) (h2 : Vp W d2 q) (s1 : SeqAt.shaped p = true) (s2 : SeqAt.shaped q = true) (r : R (.bl (!PyData.eqv p q)) W) : Bo F T (rNeD T.K) d1 d2 W R := fun C H O di oc ow x y hx hy Q k =>
  ⟨p, q, h1.at di ow hx, h2.at di ow hy, s1, s2, k _ W H O _ r (.refl di oc ow) rfl⟩
end
end N
set_option Elab.async false
set_option linter.all false
set_option maxRecDepth 100000
namespace N
open PySem PySem.Spec PyProof.Rows L2
def startD (N : List Str) (ds : List D) : Gm := ds.map some ++ List.replicate (N.length - ds.length) none
section
variable {F : FmKit} {T : Kx} {H : Hp}
theorem DenL.lo {N : List Str} {ds : List D} {vs : List V} (k : DenL F T H ds vs) : Lo F T H (startD N ds) (L2.start N vs) := by
  refine ⟨?_, fun i d h => ?_⟩
  · unfold L2.start startD
    simp [k.len]
  · unfold startD at h
    unfold L2.start
    by_cases hi : i < ds.length
    · rw [List.getElem?_append_left (by simpa using hi), List.getElem?_map] at h
      cases e : ds[i]? with
      | none =>
        rw [e] at h
        cases h
      | some d' =>
        rw [e] at h
        cases h
        obtain ⟨v, hv, kv⟩ := k.get e
        refine ⟨v, ?_, kv⟩
        rw [List.getElem?_append_left (by rw [List.length_map, k.len]; exact hi), List.getElem?_map, hv]
        rfl
    · rw [List.getElem?_append_right (by simpa using hi), List.getElem?_replicate] at h
      split at h <;> cases h
end
section
variable {P : Program} {w : World} {K : PySem.W.Frag} {mg : Str → Option Value} {base : Heap} {F : FmKit} {cl : Nat → Addr} {S : FS}
theorem spN_len {n : Nat} (len : ∀ ds W post, S ds W post → ds.length = n) : ∀ vs H Q E, spN F ⟨K, cl⟩ S vs H Q E → vs.length = n := fun vs H Q E ⟨ds, W, C, H1, O, post, _, _, _, _, k, h, _⟩ => by
  rw [k.len]
  exact len ds W post h
/-- the end of a body meets the wish of the call -/
theorem body_run {N : List Str} {t : TS} {vs : List V} {H : Hp} {Q : VK} {E : XK} (h : spN F ⟨K, cl⟩ S vs H Q E) (b : ∀ ds W post, S ds W post → Sw F ⟨K, cl⟩ t (startD N ds) W (E_ post)) : t { nx := fun _ H' => Q .non H', rt := Q } (L2.start N vs) H := by
  obtain ⟨ds, W, C, H1, O, post, e, di, oc, ow, k, hs, q⟩ := h
  subst e
  exact b ds W post hs C H1 O _ ⟨di, oc, k.lo, ow⟩ _ ⟨fun G W' H' O' σ' r n l => q .non W' H' O' .non r n rfl, fun d W' H' O' v r n kd => q d W' H' O' v r n kd, fun _ _ _ _ _ z => z.elim, fun _ _ _ _ _ z => z.elim⟩
theorem okD {x qual : Str} {st : Stmt} {f : Addr} {fd : FuncData} {N ps : List Str} {k : Nat} (Fn : Fun K x qual st f fd) (Sc : FnScope N ps (defScope st)) (len : ∀ ds W post, S ds W post → ds.length = ps.length)
    (body : ∀ (cdv : Value) (A : Around) (outer : List Env) (s : Shared) (H : Hp) (E : XK), Room k (A.deeper (envOfC qual (defScope st) s.heap.objs.size f cdv)) →
      ∃ t, PSs (cxOf CX0 P w K mg base N qual (defScope st) f cdv A outer s H E).nox (defBody st) t ∧ ∀ ds W post, S ds W post → Sw F ⟨K, cl⟩ t (startD N ds) W (E_ post)) : FnOk P w K mg base CX0 (k + 1) f fd ps (spN F ⟨K, cl⟩ S) :=
  Fn.ok Sc (spN_len len) fun cdv A outer s H vs Q E hr h => let ⟨t, ht, b⟩ := body cdv A outer s H E hr; ⟨t, ht, body_run h b⟩
/-- a def with a star behind n names -/
def starS (n : Nat) (S : FS) : FS := fun ds W post => n ≤ ds.length ∧ ds.length ≤ 1000 ∧ S (ds.take n ++ [.tup (ds.drop n)]) W post
theorem okS {x qual : Str} {st : Stmt} {f : Addr} {fd : FuncData} {N ps : List Str} {k : Nat} {pv : Str} (Fn : Fun K x qual st f fd) (Sc : FnScope N (ps ++ [pv]) (defScope st))
    (hb : ∀ (kV doc pm : Value) (an : Option Addr) (cdv ct : Value) (us rest : List Value), us.length = ps.length → bindArgs (PySem.W.fnOf x qual (defArgs st) (defBody st) (defScope st) .none kV doc pm an cdv ct) ⟨us ++ rest, []⟩ = (newTuple rest >>= fun t => pure (ps.zip us ++ [(pv, t)])))
    (body : ∀ (cdv : Value) (A : Around) (outer : List Env) (s : Shared) (H : Hp) (E : XK), Room k (A.deeper (envOfC qual (defScope st) s.heap.objs.size f cdv)) →
      ∃ t, PSs (cxOf CX0 P w K mg base N qual (defScope st) f cdv A outer s H E) (defBody st) t ∧ ∀ ds W post, S ds W post → Sw F ⟨K, cl⟩ t (startD N ds) W (E_ post)) : FnR P w K mg base CX0 (k + 1) f (spN F ⟨K, cl⟩ (starS ps.length S)) := by
  obtain ⟨oc, od, kV, doc, pm, an, cdv, ct, osl, rfl, lk, hcd⟩ := Fn.ex
  have h := StX.fn_star (CX := CX0) (P := P) (w := w) (mg := mg) (base := base) (k := k) (N := N) (ps := ps) (sp := spN F ⟨K, cl⟩ S) lk hcd Sc StX.cxUp_none (hb kV doc pm an cdv ct) (fun A outer s H vs Q E hr h => let ⟨t, ht, b⟩ := body cdv A outer s H E hr; ⟨t, ht, body_run h b⟩)
  refine fun A outer s H us vs Q E hr e0 r hsp => h A outer s H us vs Q E hr e0 r ?_
  obtain ⟨ds, W, C, H1, O, post, e, di, oc, ow, kl, ⟨h1, h2, h3⟩, q⟩ := hsp
  have hl := kl.len
  refine ⟨vs.take ps.length, vs.drop ps.length, (List.take_append_drop _ _).symm, by rw [List.length_take, hl]; omega, ?_, fun p hp => ?_⟩
  · have := sizeLine_eq
    rw [List.length_drop, hl]
    omega
  · subst e
    obtain ⟨n2, e2, s2⟩ := (Nx.refl (F := F) (T := ⟨K, cl⟩) di oc ow).newF (o := .tup (vs.drop ps.length)) hp
    rw [e2]
    exact ⟨_, W, C, _, O, post, rfl, n2.dis, n2.oc, n2.own, ((kl.take ps.length).mono s2).app (.one (d := .tup (ds.drop ps.length)) ⟨p, _, rfl, SqT.of upd_same, (kl.drop ps.length).mono s2⟩), h3, fun d W' H' O' v r n k => q d W' H' O' v r (n2.trans n) k⟩
end
end N
set_option Elab.async false
set_option linter.all false
set_option maxRecDepth 100000
namespace N
open PySem PySem.Spec PyProof.Rows L2
open C8 (Cal Met Mak pe_c pe_mt pe_mt0 pe_mk)
/-- the built-in names that a text uses are not hidden -/
structure Blt (mg : Str → Option Value) : Prop where
  len : mg "len" = none
  int : mg "int" = none
  str : mg "str" = none
  range : mg "range" = none
  list : mg "list" = none
  tuple : mg "tuple" = none
  dict : mg "dict" = none
  set : mg "set" = none
  sorted : mg "sorted" = none
  isinstance : mg "isinstance" = none
  repr : mg "repr" = none
  max : mg "max" = none
  min : mg "min" = none
  sum : mg "sum" = none
  all : mg "all" = none
  any : mg "any" = none
  zip : mg "zip" = none
  enumerate : mg "enumerate" = none
  bool : mg "bool" = none
  reversed : mg "reversed" = none
  type : mg "type" = none
theorem bt_int : bootBuiltins "int" = some (.type "int") := by decide +kernel
theorem bt_str : bootBuiltins "str" = some (.type "str") := by decide +kernel
theorem bt_list : bootBuiltins "list" = some (.type "list") := by decide +kernel
theorem bt_tuple : bootBuiltins "tuple" = some (.type "tuple") := by decide +kernel
theorem bt_set : bootBuiltins "set" = some (.type "set") := by decide +kernel
theorem bt_len : bootBuiltins "len" = some (.builtin "len") := by decide +kernel
theorem bt_sorted : bootBuiltins "sorted" = some (.builtin "sorted") := by decide +kernel
theorem bt_isinstance : bootBuiltins "isinstance" = some (.builtin "isinstance") := by decide +kernel
theorem bt_max : bootBuiltins "max" = some (.builtin "max") := by decide +kernel
theorem bt_all : bootBuiltins "all" = some (.builtin "all") := by decide +kernel
section
variable {P : Program} {w : World} {K : PySem.W.Frag} {mg : Str → Option Value} {base : Heap} {F : FmKit} {cl : Nat → Addr} {S : FS}
/-- a def of the module, by its promise -/
theorem calD {x : Str} {st : Stmt} {f : Addr} {fd : FuncData} {N ps : List Str} {k : Nat} (hm : mg x = some (.ref f)) (Fn : Fun K x x st f fd) (Sc : FnScope N ps (defScope st)) (len : ∀ ds W post, S ds W post → ds.length = ps.length)
    (hb : ∀ (kV doc pm : Value) (an : Option Addr) (cdv ct : Value) (us : List Value), us.length = ps.length → bindArgs (PySem.W.fnOf x x (defArgs st) (defBody st) (defScope st) .none kV doc pm an cdv ct) ⟨us, []⟩ = pure (ps.zip us))
    (body : ∀ (cdv : Value) (A : Around) (outer : List Env) (s : Shared) (H : Hp) (E : XK), Room k (A.deeper (envOfC x (defScope st) s.heap.objs.size f cdv)) →
      ∃ t, PSs (cxOf CX0 P w K mg base N x (defScope st) f cdv A outer s H E).nox (defBody st) t ∧ ∀ ds W post, S ds W post → Sw F ⟨K, cl⟩ t (startD N ds) W (E_ post)) : Cal P w K mg base (k + 1) x (spN F ⟨K, cl⟩ S) [] :=
  ⟨f, fd, ps, [], okD Fn Sc len body, hm, Fn.kp, Fn.binds hb, .nil⟩
/-- a method of the class C -/
theorem metD {m qual : Str} {C : Addr} {st : Stmt} {f : Addr} {fd : FuncData} {N ps : List Str} {k : Nat} (c : Cls K C) (me : Meth K C m f) (Fn : Fun K m qual st f fd) (Sc : FnScope N ps (defScope st)) (len : ∀ ds W post, S ds W post → ds.length = ps.length)
    (hb : ∀ (kV doc pm : Value) (an : Option Addr) (cdv ct : Value) (us : List Value), us.length = ps.length → bindArgs (PySem.W.fnOf m qual (defArgs st) (defBody st) (defScope st) .none kV doc pm an cdv ct) ⟨us, []⟩ = pure (ps.zip us))
    (body : ∀ (cdv : Value) (A : Around) (outer : List Env) (s : Shared) (H : Hp) (E : XK), Room k (A.deeper (envOfC qual (defScope st) s.heap.objs.size f cdv)) →
      ∃ t, PSs (cxOf CX0 P w K mg base N qual (defScope st) f cdv A outer s H E).nox (defBody st) t ∧ ∀ ds W post, S ds W post → Sw F ⟨K, cl⟩ t (startD N ds) W (E_ post)) : Met P w K mg base (k + 1) C m (spN F ⟨K, cl⟩ S) [] :=
  ⟨f, fd, ps, [], c, me, okD Fn Sc len body, Fn.binds hb, .nil⟩
/-- an own method by its promise: operators, str, len -/
structure Opn (P : Program) (w : World) (K : PySem.W.Frag) (mg : Str → Option Value) (base : Heap) (k : Nat) (C : Addr) (m : Str) (sp : Sp) : Prop where
  ex : ∃ (f : Addr) (fd : FuncData) (ps : List Str), Own2 K C m f ∧ FnOk P w K mg base CX0 k f fd ps sp ∧ Binds K fd ps []
theorem opnD {m qual : Str} {C : Addr} {st : Stmt} {f : Addr} {fd : FuncData} {N ps : List Str} {k : Nat} (o : Own2 K C m f) (Fn : Fun K m qual st f fd) (Sc : FnScope N ps (defScope st)) (len : ∀ ds W post, S ds W post → ds.length = ps.length)
    (hb : ∀ (kV doc pm : Value) (an : Option Addr) (cdv ct : Value) (us : List Value), us.length = ps.length → bindArgs (PySem.W.fnOf m qual (defArgs st) (defBody st) (defScope st) .none kV doc pm an cdv ct) ⟨us, []⟩ = pure (ps.zip us))
    (body : ∀ (cdv : Value) (A : Around) (outer : List Env) (s : Shared) (H : Hp) (E : XK), Room k (A.deeper (envOfC qual (defScope st) s.heap.objs.size f cdv)) →
      ∃ t, PSs (cxOf CX0 P w K mg base N qual (defScope st) f cdv A outer s H E).nox (defBody st) t ∧ ∀ ds W post, S ds W post → Sw F ⟨K, cl⟩ t (startD N ds) W (E_ post)) : Opn P w K mg base (k + 1) C m (spN F ⟨K, cl⟩ S) :=
  ⟨f, fd, ps, o, okD Fn Sc len body, Fn.binds hb⟩
/-- a class whose __init__ has a star -/
structure MakR (P : Program) (w : World) (K : PySem.W.Frag) (mg : Str → Option Value) (base : Heap) (k : Nat) (x : Str) (C : Addr) (sp : Sp) : Prop where
  ex : ∃ f : Addr, Mk K C f ∧ FnR P w K mg base CX0 k f sp ∧ mg x = some (.ref C)
end
section
variable {X : Cx} {k j : Nat} {x : Str} {C : Addr} {sp : Sp} {e : Expr} {es : List Expr} {t : TA} {p pos : Pos} {F : FmKit} {T : Kx} {S : FS}
theorem pe_c0 {dvs : List V} (c : Cal X.prog X.w X.K X.mg X.base k x sp dvs) (hr : Room j X.A) (hk : k ≤ j) (hg : Gl X x) (hdb : (x == ("__debug__" : Str)) = false := by decide) : PE X (.Call (.Name x p) [] [] pos) (tCall sp dvs E0 tNil) := by
  obtain ⟨f, fd, ps, ds, h, hm, kp, b, d⟩ := c.ex
  exact pe_call0 h (hr.mono hk) hg hm kp b d pass0 hdb
theorem pe_mkR (c : MakR X.prog X.w X.K X.mg X.base k x C sp) (hr : Room j X.A) (hk : k + 1 ≤ j) (hg : Gl X x) (ha : PA X (e :: es) t) (hdb : (x == ("__debug__" : Str)) = false := by decide)
    (he : starEach (e :: es) X.env = (false, eval e X.env) :: starEach es X.env := by rfl) (hpl : (backTo pos (starEach es X.env)).any (·.1) = false := by rfl) : PE X (.Call (.Name x p) (e :: es) [] pos) (StX.tMakeR C sp E0 t) := by
  obtain ⟨f, m, h, hm⟩ := c.ex
  exact StX.pe_makeR m h (hr.mono hk) hg hm pass0 ha hdb he hpl
theorem op_opn {op : Operator} (o : Opn X.prog X.w X.K X.mg X.base k C (PySem.dunder op.info.2) sp) (hr : Room j X.A) (hk : k ≤ j) (hc : PySem.W.selfFirst X.K C = true) : OpR X (binaryOp op) (rOwn2 C sp E0) := by
  obtain ⟨f, fd, ps, o2, h, b⟩ := o.ex
  exact op_own h (hr.mono hk) o2 hc b pass0
theorem un_opn (o : Opn X.prog X.w X.K X.mg X.base k C "__invert__" sp) (hr : Room j X.A) (hk : k ≤ j) : UnR X (unaryOp .Invert) (rOwn1 C sp E0) := by
  obtain ⟨f, fd, ps, o2, h, b⟩ := o.ex
  exact un_own_inv h (hr.mono hk) o2 b pass0
def rStrO (C : Addr) (sp : Sp) : List V → Hp → VK → Prop := fun xs H Q => ∃ a dx fs, xs = [.ref a] ∧ H a = some (.ins C dx fs) ∧ sp [.ref a] H (fun v H' => (∃ z, v = .str z) ∧ Q v H') E0
theorem call_str_opn (o : Opn X.prog X.w X.K X.mg X.base k C "__str__" sp) (hr : Room j X.A) (hk : k + 2 ≤ j) : CallR X (.type "str") (rStrO C sp) := by
  obtain ⟨f, fd, ps, o2, h, b⟩ := o.ex
  exact call_own_str h (hr.mono hk) o2 b pass0
def rLenO (C : Addr) (sp : Sp) : List V → Hp → VK → Prop := fun xs H Q => ∃ a dx fs, xs = [.ref a] ∧ H a = some (.ins C dx fs) ∧ sp [.ref a] H (fun v H' => (∃ n : Int, v = .int n ∧ 0 ≤ n ∧ n < 2 ^ 63) ∧ Q v H') E0
end
section
variable {F : FmKit} {T : Kx} {C H H' O O' : Hp} {G : Gm} {W W' : Om} {R : D → Om → Prop} {S : FS} {ta : TE} {c : Nat}
/-- an operator of the own class -/
theorem bo_own {d e : D} {ns ms : List Str} {l m : List D} (i1 : Inst F W d c ns l) (i2 : Inst F W e c ms m) (h : Hand S [d, e] W R) : Bo F T (rOwn2 (T.cl c) (spN F T S) E0) d e W R := fun C H O di oc ow x y hx hy Q q => by
  obtain ⟨a, dx, fs, ex, ha, _⟩ := i1.at di ow hx
  obtain ⟨b, dy, gs, ey, hb, _⟩ := i2.at di ow hy
  exact ⟨a, b, dx, dy, fs, gs, ex, ey, ha, hb, h.run di oc ow ⟨x, _, rfl, hx, .one hy⟩ q⟩
theorem ev_un {r : V → Hp → VK → Prop} (h : Ev F T ta G W fun d W1 => Ca F T (fun xs H Q => ∃ x, xs = [x] ∧ r x H Q) [d] W1 R) : Ev F T (tUn r ta) G W R := fun C H O σ w Q q =>
  h C H O σ w _ fun d W1 H1 O1 x h1 n1 k1 => by
    obtain ⟨y, e, hr⟩ := h1 C H1 O1 n1.dis n1.oc n1.own [x] (.one k1) Q fun d W' H' O' v rr n k => q d W' H' O' v rr (n1.trans n) k
    cases e
    exact hr
theorem ca_own1 {d : D} {ns : List Str} {l : List D} (i1 : Inst F W d c ns l) (h : Hand S [d] W R) : Ca F T (fun xs H Q => ∃ x, xs = [x] ∧ rOwn1 (T.cl c) (spN F T S) E0 x H Q) [d] W R := ca_one fun C H O di oc ow x k Q q => by
  obtain ⟨a, dx, fs, ex, ha, _⟩ := i1.at di ow k
  exact ⟨x, rfl, a, dx, fs, ex, ha, h.run di oc ow (.one k) q⟩
theorem ca_strO {d : D} {ns : List Str} {l : List D} (i1 : Inst F W d c ns l) (h : Hand S [d] W fun d' W' => (∃ z, d' = .str z) ∧ R d' W') : Ca F T (rStrO (T.cl c) (spN F T S)) [d] W R := ca_one fun C H O di oc ow x k Q q => by
  obtain ⟨a, dx, fs, ex, ha, _⟩ := i1.at di ow k
  subst ex
  refine ⟨a, dx, fs, rfl, ha, h.run di oc ow (.one k) fun d' W' H' O' v ⟨⟨z, ez⟩, r⟩ n kd => ⟨⟨z, ?_⟩, q d' W' H' O' v r n kd⟩⟩
  subst ez
  exact kd
theorem ca_lenO {d : D} {ns : List Str} {l : List D} (i1 : Inst F W d c ns l) (h : Hand S [d] W fun d' W' => (∃ n : Int, d' = .int n ∧ 0 ≤ n ∧ n < 2 ^ 63) ∧ R d' W') : Ca F T (rLenO (T.cl c) (spN F T S)) [d] W R := ca_one fun C H O di oc ow x k Q q => by
  obtain ⟨a, dx, fs, ex, ha, _⟩ := i1.at di ow k
  subst ex
  refine ⟨a, dx, fs, rfl, ha, h.run di oc ow (.one k) fun d' W' H' O' v ⟨⟨z, ez, h0, h1⟩, r⟩ n kd => ⟨⟨z, ?_, h0, h1⟩, q d' W' H' O' v r n kd⟩⟩
  subst ez
  exact kd
end
end N
set_option Elab.async false
set_option linter.all false
set_option maxRecDepth 100000
namespace N
open PySem PySem.Spec PyProof.Rows L2
section
variable {F : FmKit} {T : Kx} {C H H' O O' : Hp} {G : Gm} {W W' : Om} {R : D → Om → Prop} {S : FS} {ta tb te : TE} {tr : TA} {c : Nat} {t u : TT} {Z : Bool → Om → Prop} {ts tz : TS} {E : En}
theorem bo_I0 {g : Int → Int → V} {i j : Int} (h : R (.vl (g i j)) W) : Bo F T (rI0 g) (.int i) (.int j) W R := op_sc fun H Q k => ⟨i, j, rfl, rfl, k _ h⟩
theorem bo_I {Cc : Int → Int → Prop} {g : Int → Int → V} {i j : Int} (hc : Cc i j) (h : R (.vl (g i j)) W) : Bo F T (rI Cc g) (.int i) (.int j) W R := op_sc fun H Q k => ⟨i, j, rfl, rfl, hc, k _ h⟩
theorem bo_eq {x y : V} (hs : scal x y = true) (h : R (.bl (decide (x = y))) W) : Bo F T rEq (.vl x) (.vl y) W R := op_sc fun H Q k => ⟨hs, k _ h⟩
theorem bo_ne {x y : V} (hs : scal x y = true) (h : R (.bl (!decide (x = y))) W) : Bo F T rNe (.vl x) (.vl y) W R := op_sc fun H Q k => ⟨hs, k _ h⟩
theorem dec_int (i j : Int) : decide (V.int i = V.int j) = decide (i = j) := by
  by_cases h : i = j
  · subst h
    simp
  · rw [decide_eq_false h, decide_eq_false (fun e => h (V.int.inj e))]
theorem dec_str (i j : Str) : decide (V.str i = V.str j) = decide (i = j) := by
  by_cases h : i = j
  · subst h
    simp
  · rw [decide_eq_false h, decide_eq_false (fun e => h (V.str.inj e))]
theorem dec_bl (i j : Bool) : decide (V.bl i = V.bl j) = decide (i = j) := by cases i <;> cases j <;> decide
theorem bo_eqI {i j : Int} (h : R (.bl (decide (i = j))) W) : Bo F T rEq (.int i) (.int j) W R := bo_eq rfl (by rw [dec_int]; exact h)
theorem bo_neI {i j : Int} (h : R (.bl (!decide (i = j))) W) : Bo F T rNe (.int i) (.int j) W R := bo_ne rfl (by rw [dec_int]; exact h)
theorem bo_eqS {i j : Str} (h : R (.bl (decide (i = j))) W) : Bo F T rEq (.str i) (.str j) W R := bo_eq rfl (by rw [dec_str]; exact h)
theorem bo_neS {i j : Str} (h : R (.bl (!decide (i = j))) W) : Bo F T rNe (.str i) (.str j) W R := bo_ne rfl (by rw [dec_str]; exact h)
theorem bo_eqB {i j : Bool} (h : R (.bl (decide (i = j))) W) : Bo F T rEq (.bl i) (.bl j) W R := bo_eq rfl (by rw [dec_bl]; exact h)
theorem bo_neB {i j : Bool} (h : R (.bl (!decide (i = j))) W) : Bo F T rNe (.bl i) (.bl j) W R := bo_ne rfl (by rw [dec_bl]; exact h)
theorem ca_int {i : Int} (h : R (.int i) W) : Ca F T (fun xs H Q => (∃ i, xs = [.int i] ∧ Q (.int i) H) ∨ ∃ k, xs = [.bl k] ∧ Q (.int (if k then 1 else 0)) H) [.int i] W R := cl_sc (xs := [.int i]) fun H Q k => .inl ⟨i, rfl, k _ h⟩
theorem ca_intB {b : Bool} (h : R (.int (if b then 1 else 0)) W) : Ca F T (fun xs H Q => (∃ i, xs = [.int i] ∧ Q (.int i) H) ∨ ∃ k, xs = [.bl k] ∧ Q (.int (if k then 1 else 0)) H) [.bl b] W R := cl_sc (xs := [.bl b]) fun H Q k => .inr ⟨b, rfl, k _ h⟩
theorem ca_max2 {i j : Int} (h : R (.int (if j > i then j else i)) W) : Ca F T (fun xs H Q => ∃ i j, xs = [.int i, .int j] ∧ Q (.int (if j > i then j else i)) H) [.int i, .int j] W R := cl_sc (xs := [.int i, .int j]) fun H Q k => ⟨i, j, rfl, k _ h⟩
theorem ca_min2 {i j : Int} (h : R (.int (if j < i then j else i)) W) : Ca F T (fun xs H Q => ∃ i j, xs = [.int i, .int j] ∧ Q (.int (if j < i then j else i)) H) [.int i, .int j] W R := cl_sc (xs := [.int i, .int j]) fun H Q k => ⟨i, j, rfl, k _ h⟩
/-- a chain of comparisons -/
theorem ev_chain {r r' : R2} {tc : TE} (h : Ev F T ta G W fun d1 W1 => Ev F T tb G W1 fun d2 W2 => Bo F T r d1 d2 W2 fun z W3 => ∃ b, z = .bl b ∧ if b = true then Ev F T tc G W3 fun d3 W4 => Bo F T r' d2 d3 W4 R else R (.bl false) W3) : Ev F T (tChain r r' ta tb tc) G W R := fun C H O σ w Q q =>
  h C H O σ w _ fun d1 W1 H1 O1 x h1 n1 k1 => h1 C H1 O1 σ (w.step n1) _ fun d2 W2 H2 O2 y h2 n2 k2 =>
    h2 C H2 O2 n2.dis n2.oc n2.own x y (k1.mono n2.ext) k2 _ fun z W3 H3 O3 v ⟨b, ez, hb⟩ n3 k3 => by
      subst ez
      have k3 : v = .bl b := k3
      refine ⟨b, k3, ?_⟩
      cases b with
      | true => exact hb C H3 O3 σ (((w.step n1).step n2).step n3) _ fun d3 W4 H4 O4 zv h4 n4 k4 => h4 C H4 O4 n4.dis n4.oc n4.own y zv ((k2.mono n3.ext).mono n4.ext) k4 Q fun d W' H' O' v rr n k => q d W' H' O' v rr ((((n1.trans n2).trans n3).trans n4).trans n) k
      | false => exact q _ W3 H3 O3 _ hb ((n1.trans n2).trans n3) rfl
theorem et_chain {r r' : R2} {tc : TE} (h : Ev F T (tChain r r' ta tb tc) G W fun d W1 => ∃ b, d = .bl b ∧ Z b W1) : EvT F T (tTest (tChain r r' ta tb tc)) G W Z := et_test h
theorem if_so {c : Bool} {A B : Prop} (hc : c = true) (h : A) : if c = true then A else B := by rw [if_pos hc]; exact h
theorem if_not {c : Bool} {A B : Prop} (hc : c = false) (h : B) : if c = true then A else B := by rw [if_neg (by rw [hc]; exact Bool.false_ne_true)]; exact h
theorem if_dec {p A B : Prop} [Decidable p] (h1 : p → A) (h2 : ¬ p → B) : if decide p = true then A else B := by
  by_cases h : p
  · exact if_so (decide_eq_true h) (h1 h)
  · exact if_not (decide_eq_false h) (h2 h)
theorem if_ndec {p A B : Prop} [Decidable p] (h1 : ¬ p → A) (h2 : p → B) : if (!decide p) = true then A else B := by
  by_cases h : p
  · exact if_not (by rw [decide_eq_true h]; rfl) (h2 h)
  · exact if_so (by rw [decide_eq_false h]; rfl) (h1 h)
theorem if_bl {c : Bool} {A B : Prop} (h1 : c = true → A) (h2 : c = false → B) : if c = true then A else B := by
  cases c with
  | true => exact if_so rfl (h1 rfl)
  | false => exact if_not rfl (h2 rfl)
/-- slices of lists, in plain data -/
def cutD (xs : List D) (lo hi : Option Int) : List D := (xs.drop (HT.sIx xs.length 0 lo)).take (HT.sIx xs.length xs.length hi - HT.sIx xs.length 0 lo)
theorem DenL.cut {l : List D} {xs : List V} (k : DenL F T H l xs) (lo hi : Option Int) : DenL F T H (cutD l lo hi) (cutV xs lo hi) := by
  unfold cutD cutV
  rw [k.len]
  exact (k.drop _).take _
theorem eo_none {Y : Option Int → Om → Prop} (h : Y none W) : EvO F T tNoPart G W Y := fun C H O σ w Q q => q none W H O h w.nx
theorem eo_some {Y : Option Int → Om → Prop} (h : Ev F T te G W fun d W1 => ∃ i, d = .int i ∧ Y (some i) W1) : EvO F T (tPart te) G W Y := fun C H O σ w Q q =>
  h C H O σ w _ fun d W1 H1 O1 x ⟨i, e, y⟩ n k => by
    subst e
    exact ⟨i, k, q (some i) W1 H1 O1 y n⟩
theorem ev_sl {r : V → Option Int → Option Int → Hp → VK → Prop} {tl th : TO} (h : Ev F T te G W fun d W1 => EvO F T tl G W1 fun lo W2 => EvO F T th G W2 fun hi W3 => Ca F T (fun xs H Q => ∃ x, xs = [x] ∧ r x lo hi H Q) [d] W3 R) : Ev F T (tSl r te tl th) G W R := fun C H O σ w Q q =>
  h C H O σ w _ fun d W1 H1 O1 x h1 n1 k1 => h1 C H1 O1 σ (w.step n1) _ fun lo W2 H2 O2 h2 n2 => h2 C H2 O2 σ ((w.step n1).step n2) _ fun hi W3 H3 O3 h3 n3 => by
    obtain ⟨y, e, hr⟩ := h3 C H3 O3 n3.dis n3.oc n3.own [x] (.one ((k1.mono n2.ext).mono n3.ext)) Q fun d W' H' O' v rr n k => q d W' H' O' v rr (((n1.trans n2).trans n3).trans n) k
    cases e
    exact hr
theorem ca_slL {d : D} {l : List D} {lo hi : Option Int} (hv : Vl W d l) (r : ∀ p, p ∉ akeys W → R (.adr p) ((p, .lst (cutD l lo hi)) :: W)) : Ca F T (fun xs H Q => ∃ x, xs = [x] ∧ rSlL T.K x lo hi H Q) [d] W R := ca_one fun C H O di oc ow x k Q q => by
  obtain ⟨a, xs, e, hs, kl⟩ := hv.sq ow di k
  subst e
  refine ⟨_, rfl, a, xs, rfl, hs, fun p hp => ?_⟩
  obtain ⟨n2, e, np⟩ := (Nx.refl di oc ow).newO (od := .lst (cutD l lo hi)) (o := .lst (cutV xs lo hi)) hp ⟨_, rfl, kl.cut lo hi⟩
  rw [e]
  exact q (.adr p) _ _ _ _ (r p np) n2 rfl
theorem ev_revL (h : Ev F T te G W fun d W1 => ∃ l, Vl W1 d l ∧ ∀ p, p ∉ akeys W1 → R (.adr p) ((p, .lst l.reverse) :: W1)) : Ev F T (tRevL T.K te) G W R := fun C H O σ w Q q =>
  h C H O σ w _ fun d W1 H1 O1 x ⟨l, hv, r⟩ n k => by
    obtain ⟨a, xs, e, hs, kl⟩ := hv.sq n.own n.dis k
    subst e
    refine ⟨a, xs, rfl, hs, fun p hp => ?_⟩
    obtain ⟨n2, e, np⟩ := n.newO (od := .lst l.reverse) (o := .lst xs.reverse) hp ⟨_, rfl, kl.reverse⟩
    rw [e]
    exact q (.adr p) _ _ _ _ (r p np) n2 rfl
/-- membership in a flat sequence -/
theorem bo_in {neg : Bool} {x : V} {d : D} {xs : List V} (hv : Vs W d (xs.map .vl)) (hx : flatV x = true) (ha : xs.all flatV = true) (r : R (.bl (if neg then !inV x xs else inV x xs)) W) : Bo F T (rIn T.K neg) (.vl x) d W R := fun C H O di oc ow x' y hx' hy Q q => by
  have hx' : x' = x := hx'
  subst hx'
  obtain ⟨a, ys, e, hs, kl⟩ := hv.sq ow di hy
  have kl := DenL.vls_inv kl
  subst kl
  exact ⟨a, ys, e, hs, hx, ha, q _ W H O _ r (.refl di oc ow) rfl⟩
end
theorem canLay_ints : ∀ ns : List Int, PyData.canLayAll0 (ns.map .int) = true
  | [] => rfl
  | n :: ns => by
    rw [List.map_cons, PyData.canLayAll0, canLay_ints ns]
    rfl
theorem depth_ints : ∀ ns : List Int, PyData.depthAll (ns.map .int) = 0
  | [] => rfl
  | n :: ns => by
    rw [List.map_cons, PyData.depthAll, depth_ints ns]
    rfl
theorem shaped_ints (ns : List Int) : SeqAt.shaped (.list (ns.map .int)) = true := by
  unfold SeqAt.shaped
  rw [PyData.canLay0, canLay_ints, PyData.depth, depth_ints]
  decide
theorem eqv_nil {ds : List PyData} : (PyData.list ds).eqv (.list []) = ds.isEmpty := by
  cases ds with
  | nil => simp [PyData.eqv, PyData.eqvAll]
  | cons d ds => simp [PyData.eqv, PyData.eqvAll]
theorem vp_ints {W : Om} {d : D} {ns : List Int} (h : Vl W d (ns.map D.int)) : Vp W d (.list (ns.map .int)) := .inr ⟨_, h, pd_lst (pdL_map D.int .int (fun _ => rfl) ns)⟩
theorem vp_nil {W : Om} : Vp W (.lst []) (.list []) := .inl rfl
end N
set_option Elab.async false
set_option linter.all false
set_option maxRecDepth 100000
namespace N
open PySem PySem.Spec PyProof.Rows L2
theorem str_ext {x y : Str} (h : x.cps.toList = y.cps.toList) : x = y := by
  cases x
  cases y
  congr 1
  exact Array.toList_inj.mp h
theorem str_app (x y : Str) : (x ++ y).cps.toList = x.cps.toList ++ y.cps.toList := by
  show (x.cps ++ y.cps).toList = _
  rw [Array.toList_append]
theorem str_len (x : Str) : x.length = x.cps.toList.length := by
  show x.cps.size = _
  rw [Array.length_toList]
theorem str_app_len (x y : Str) : (x ++ y).length = x.length + y.length := by rw [str_len, str_app, List.length_append, ← str_len, ← str_len]
def ltS (x y : Str) : Bool := ltCps x.cps.toList y.cps.toList
theorem ltCps_irrefl : ∀ a : List Nat, ltCps a a = false
  | [] => rfl
  | a :: r => by simp [ltCps, ltCps_irrefl r]
theorem ltCps_trans : ∀ {a b c : List Nat}, ltCps a b = true → ltCps b c = true → ltCps a c = true
  | [], [], c, h, _ => by simp [ltCps] at h
  | [], _ :: _, [], _, h => by simp [ltCps] at h
  | [], _ :: _, _ :: _, _, _ => rfl
  | _ :: _, [], _, h, _ => by simp [ltCps] at h
  | _ :: _, _ :: _, [], _, h => by simp [ltCps] at h
  | x :: a, y :: b, z :: c, h1, h2 => by
    simp only [ltCps, Bool.or_eq_true, decide_eq_true_eq, Bool.and_eq_true, beq_iff_eq] at h1 h2 ⊢
    rcases h1 with h1 | ⟨h1, h3⟩ <;> rcases h2 with h2 | ⟨h2, h4⟩
    · exact .inl (by omega)
    · exact .inl (by omega)
    · exact .inl (by omega)
    · exact .inr ⟨by omega, ltCps_trans h3 h4⟩
theorem ltCps_total : ∀ {a b : List Nat}, ltCps a b = false → ltCps b a = false → a = b
  | [], [], _, _ => rfl
  | [], _ :: _, h, _ => by simp [ltCps] at h
  | _ :: _, [], _, h => by simp [ltCps] at h
  | x :: a, y :: b, h1, h2 => by
    simp only [ltCps, Bool.or_eq_false_iff, decide_eq_false_iff_not, Bool.and_eq_false_iff, beq_eq_false_iff_ne] at h1 h2
    have e : x = y := by omega
    subst e
    rw [ltCps_total (h1.2.resolve_left (by simp)) (h2.2.resolve_left (by simp))]
theorem ltS_irrefl (x : Str) : ltS x x = false := ltCps_irrefl _
theorem ltS_trans {x y z : Str} (h : ltS x y = true) (k : ltS y z = true) : ltS x z = true := ltCps_trans h k
theorem ltS_total {x y : Str} (h : ltS x y = false) (k : ltS y x = false) : x = y := str_ext (ltCps_total h k)
theorem ltS_of {x y : Str} (h : ltS y x = false) (ne : x ≠ y) : ltS x y = true := by
  cases e : ltS x y with
  | true => rfl
  | false => exact absurd (ltS_total e h) ne
theorem rising_all : ∀ {l : List Str} {p : Str}, risingS p l = true → (p :: l).Nodup → (p :: l).Pairwise (fun a b => ltS a b = true)
  | [], p, _, _ => by simp
  | x :: l, p, h, nd => by
    unfold risingS at h
    rw [Bool.and_eq_true] at h
    have h1 : ltS x p = false := by simpa [ltS] using h.1
    rw [List.nodup_cons] at nd
    have ih := rising_all h.2 nd.2
    have px : ltS p x = true := ltS_of h1 (fun e => nd.1 (by rw [e]; exact List.mem_cons_self))
    rw [List.pairwise_cons]
    refine ⟨fun y hy => ?_, ih⟩
    rcases List.mem_cons.mp hy with e | e
    · subst e
      exact px
    · exact ltS_trans px ((List.pairwise_cons.mp ih).1 y e)
theorem sorted_all : ∀ {l : List Str}, sortedS l = true → l.Nodup → l.Pairwise (fun a b => ltS a b = true)
  | [], _, _ => List.Pairwise.nil
  | _ :: _, h, nd => rising_all h nd
/-- two strictly ascending lists with the same members are one -/
theorem asc_ext {α : Type} {lt : α → α → Prop} (ir : ∀ a, ¬ lt a a) (tr : ∀ a b c, lt a b → lt b c → lt a c) : ∀ {l m : List α}, l.Pairwise lt → m.Pairwise lt → (∀ x, x ∈ l ↔ x ∈ m) → l = m
  | [], [], _, _, _ => rfl
  | [], b :: m, _, _, h => absurd ((h b).mpr List.mem_cons_self) (by simp)
  | a :: l, [], _, _, h => absurd ((h a).mp List.mem_cons_self) (by simp)
  | a :: l, b :: m, hl, hm, h => by
    rw [List.pairwise_cons] at hl hm
    have e : a = b := by
      rcases List.mem_cons.mp ((h a).mp List.mem_cons_self) with e | e
      · exact e
      · rcases List.mem_cons.mp ((h b).mpr List.mem_cons_self) with e2 | e2
        · exact e2.symm
        · exact absurd (tr _ _ _ (hl.1 _ e2) (hm.1 _ e)) (ir a)
    subst e
    congr 1
    refine asc_ext ir tr hl.2 hm.2 fun x => ⟨fun hx => ?_, fun hx => ?_⟩
    · rcases List.mem_cons.mp ((h x).mp (List.mem_cons_of_mem _ hx)) with e | e
      · subst e
        exact absurd (hl.1 _ hx) (ir x)
      · exact e
    · rcases List.mem_cons.mp ((h x).mpr (List.mem_cons_of_mem _ hx)) with e | e
      · subst e
        exact absurd (hm.1 _ hx) (ir x)
      · exact e
theorem perm_map_inv {α β : Type} {f : α → β} : ∀ {l : List α} {ys : List β}, ys.Perm (l.map f) → ∃ l' : List α, l'.Perm l ∧ ys = l'.map f
  | [], ys, h => ⟨[], List.Perm.refl _, by simpa using h⟩
  | a :: l, ys, h => by
    have hm : f a ∈ ys := h.mem_iff.mpr (by simp)
    obtain ⟨s, t, e⟩ := List.append_of_mem hm
    subst e
    have h2 : (s ++ t).Perm (l.map f) := by
      have h3 : (f a :: (s ++ t)).Perm (f a :: l.map f) := List.perm_middle.symm.trans (by simpa using h)
      exact (List.perm_cons _).mp h3
    obtain ⟨l', p, e⟩ := perm_map_inv h2
    obtain ⟨l1, l2, e1, e2, e3⟩ := List.map_eq_append_iff.mp e.symm
    subst e1 e2 e3
    exact ⟨l1 ++ a :: l2, List.perm_middle.trans ((List.perm_cons _).mpr p), by simp⟩
def insN (n : Nat) : List Nat → List Nat
  | [] => [n]
  | m :: r => if n = m then m :: r else if n < m then n :: m :: r else m :: insN n r
def unite (x y : Str) : Str := if x = y then x else ⟨((x.cps.toList ++ y.cps.toList).foldr insN []).toArray⟩
namespace Fm
def kind : Fm → Str
  | .at _ => "atom"
  | .no => "no"
  | .imp _ _ => "if"
  | .all _ => "all"
def many : Fm → Nat
  | .at _ => 1
  | .no => 1
  | .imp a b => 1 + a.many + b.many
  | .all a => 1 + a.many
def deep : Fm → Nat
  | .at _ => 0
  | .no => 0
  | .imp a b => max a.deep b.deep
  | .all a => 1 + a.deep
def atoms : Fm → Str
  | .at c => ⟨#[c]⟩
  | .no => ""
  | .imp a b => unite a.atoms b.atoms
  | .all a => a.atoms
/-- the atoms outside of all all-parts -/
def outer : Fm → Str
  | .at c => ⟨#[c]⟩
  | .no => ""
  | .imp a b => unite a.outer b.outer
  | .all _ => ""
def spell : Fm → Str
  | .at c => ⟨#[c]⟩
  | .no => "no"
  | .imp a b => "(" ++ a.spell ++ " > " ++ b.spell ++ ")"
  | .all a => "all " ++ a.spell
def ins (g : Fm) : List Fm → List Fm
  | [] => [g]
  | h :: r => if g = h then h :: r else if ltS g.spell h.spell then g :: h :: r else h :: ins g r
def merge (xs ys : List Fm) : List Fm := if xs = [] then ys else if ys = [] then xs else (xs ++ ys).foldr ins []
def alls : Fm → List Fm
  | .at _ => []
  | .no => []
  | .imp a b => merge a.alls b.alls
  | .all a => merge a.alls [.all a]
/-- the length of the text -/
def sz : Fm → Nat
  | .at _ => 1
  | .no => 2
  | .imp a b => 5 + a.sz + b.sz
  | .all a => 4 + a.sz
/-- no atom in it -/
def bare : Fm → Prop
  | .at _ => False
  | .no => True
  | .imp a b => a.bare ∧ b.bare
  | .all a => a.bare
theorem spell_len : ∀ f : Fm, f.spell.length = f.sz
  | .at _ => rfl
  | .no => rfl
  | .imp a b => by
    have h1 : ("(" : Str).length = 1 := rfl
    have h2 : (" > " : Str).length = 3 := rfl
    have h3 : (")" : Str).length = 1 := rfl
    simp only [spell, sz, str_app_len, spell_len a, spell_len b, h1, h2, h3]
    omega
  | .all a => by
    have h1 : ("all " : Str).length = 4 := rfl
    simp only [spell, sz, str_app_len, spell_len a, h1]
def ltF (f g : Fm) : Prop := ltS f.spell g.spell = true
def cs (f : Fm) : List Nat := f.spell.cps.toList
theorem cs_imp (a b : Fm) : cs (.imp a b) = 40 :: (a.cs ++ (32 :: 62 :: 32 :: (b.cs ++ [41]))) := by
  have h1 : ("(" : Str).cps.toList = [40] := rfl
  have h2 : (" > " : Str).cps.toList = [32, 62, 32] := rfl
  have h3 : (")" : Str).cps.toList = [41] := rfl
  simp [cs, spell, str_app, h1, h2, h3]
theorem cs_all (a : Fm) : cs (.all a) = 97 :: 108 :: 108 :: 32 :: a.cs := by
  have h1 : ("all " : Str).cps.toList = [97, 108, 108, 32] := rfl
  simp [cs, spell, str_app, h1]
theorem cs_no : cs .no = [110, 111] := rfl
theorem cs_at (c : Nat) : cs (.at c) = [c] := rfl
/-- behind a formula stands nothing, a blank or a bracket -/
def stop (r : List Nat) : Prop := ∀ c t, r = c :: t → c = 32 ∨ c = 41
/-- letters -/
def okL : Fm → Prop
  | .at c => (65 ≤ c ∧ c ≤ 90) ∨ (97 ≤ c ∧ c ≤ 122)
  | .no => True
  | .imp a b => a.okL ∧ b.okL
  | .all a => a.okL
theorem bare_ok : ∀ {f : Fm}, f.bare → f.okL
  | .at _, h => h.elim
  | .no, _ => trivial
  | .imp _ _, h => ⟨bare_ok h.1, bare_ok h.2⟩
  | .all a, h => bare_ok (f := a) h
theorem cs_inj : ∀ (f g : Fm), f.okL → g.okL → ∀ r s : List Nat, stop r → stop s → f.cs ++ r = g.cs ++ s → f = g ∧ r = s
  | .at c, .at d, _, _, r, s, _, _, h => by
    rw [cs_at, cs_at] at h
    injection h with h1 h2
    exact ⟨by rw [h1], h2⟩
  | .at c, .no, _, _, r, s, hr, _, h => by
    rw [cs_at, cs_no] at h
    injection h with h1 h2
    rcases hr 111 s h2 with e | e <;> cases e
  | .at c, .imp a b, hc, _, r, s, hr, _, h => by
    rw [cs_at, cs_imp] at h
    injection h with h1 h2
    simp only [okL] at hc
    omega
  | .at c, .all a, _, _, r, s, hr, _, h => by
    rw [cs_at, cs_all] at h
    injection h with h1 h2
    rcases hr _ _ h2 with e | e <;> cases e
  | .no, .at d, _, _, r, s, _, hs, h => by
    rw [cs_at, cs_no] at h
    injection h with h1 h2
    rcases hs 111 r h2.symm with e | e <;> cases e
  | .no, .no, _, _, r, s, _, _, h => by
    rw [cs_no] at h
    simp at h
    exact ⟨rfl, h⟩
  | .no, .imp a b, _, _, r, s, _, _, h => by
    rw [cs_no, cs_imp] at h
    injection h with h1 h2
    cases h1
  | .no, .all a, _, _, r, s, _, _, h => by
    rw [cs_no, cs_all] at h
    injection h with h1 h2
    cases h1
  | .imp a b, .at d, _, hd, r, s, _, hs, h => by
    rw [cs_at, cs_imp] at h
    injection h with h1 h2
    simp only [okL] at hd
    omega
  | .imp a b, .no, _, _, r, s, _, _, h => by
    rw [cs_no, cs_imp] at h
    injection h with h1 h2
    cases h1
  | .imp a b, .all c, _, _, r, s, _, _, h => by
    rw [cs_all, cs_imp] at h
    injection h with h1 h2
    cases h1
  | .all a, .at d, _, _, r, s, _, hs, h => by
    rw [cs_at, cs_all] at h
    injection h with h1 h2
    rcases hs _ _ h2.symm with e | e <;> cases e
  | .all a, .no, _, _, r, s, _, _, h => by
    rw [cs_no, cs_all] at h
    injection h with h1 h2
    cases h1
  | .all a, .imp b c, _, _, r, s, _, _, h => by
    rw [cs_all, cs_imp] at h
    injection h with h1 h2
    cases h1
  | .all a, .all b, ha, hb, r, s, hr, hs, h => by
    rw [cs_all, cs_all] at h
    simp only [List.cons_append, List.cons.injEq, true_and] at h
    obtain ⟨e, e2⟩ := cs_inj a b ha hb r s hr hs h
    exact ⟨by rw [e], e2⟩
  | .imp a b, .imp c d, ha, hb, r, s, hr, hs, h => by
    rw [cs_imp, cs_imp] at h
    simp only [List.cons_append, List.append_assoc, List.cons.injEq, true_and] at h
    obtain ⟨e, e2⟩ := cs_inj a c ha.1 hb.1 _ _ (by intro c t e; injection e with e; exact .inl e.symm) (by intro c t e; injection e with e; exact .inl e.symm) h
    subst e
    simp only [List.cons.injEq, true_and] at e2
    obtain ⟨e3, e4⟩ := cs_inj b d ha.2 hb.2 _ _ (by intro c t e; injection e with e; exact .inr e.symm) (by intro c t e; injection e with e; exact .inr e.symm) e2
    subst e3
    simp at e4
    exact ⟨rfl, e4⟩
theorem spell_inj {f g : Fm} (hf : f.okL) (hg : g.okL) (h : f.spell = g.spell) : f = g := by
  refine (cs_inj f g hf hg [] [] (by intro c t e; cases e) (by intro c t e; cases e) ?_).1
  simp [cs, h]
def asc (l : List Fm) : Prop := l.Pairwise ltF
theorem ltF_irrefl (f : Fm) : ¬ ltF f f := by
  unfold ltF
  rw [ltS_irrefl]
  exact Bool.false_ne_true
theorem ltF_trans (f g h : Fm) : ltF f g → ltF g h → ltF f h := fun a b => ltS_trans a b
theorem asc_eq {l m : List Fm} (h : asc l) (k : asc m) (e : ∀ x, x ∈ l ↔ x ∈ m) : l = m := asc_ext ltF_irrefl ltF_trans h k e
theorem mem_ins {g x : Fm} : ∀ {l : List Fm}, x ∈ ins g l ↔ x = g ∨ x ∈ l
  | [] => by simp [ins]
  | h :: r => by
    unfold ins
    split
    · rename_i e
      subst e
      simp
    · split
      · simp
      · rw [List.mem_cons, mem_ins, List.mem_cons]
        constructor
        · rintro (h | h | h)
          · exact .inr (.inl h)
          · exact .inl h
          · exact .inr (.inr h)
        · rintro (h | h | h)
          · exact .inr (.inl h)
          · exact .inl h
          · exact .inr (.inr h)
theorem asc_ins {g : Fm} (hg : g.okL) : ∀ {l : List Fm}, asc l → (∀ x ∈ l, okL x) → asc (ins g l)
  | [], _, _ => by simp [ins, asc]
  | h :: r, hl, ho => by
    unfold asc at hl
    rw [List.pairwise_cons] at hl
    unfold ins
    split
    · exact List.pairwise_cons.mpr hl
    · rename_i ne
      split
      · rename_i lt
        refine List.pairwise_cons.mpr ⟨fun y hy => ?_, List.pairwise_cons.mpr hl⟩
        rcases List.mem_cons.mp hy with e | e
        · subst e
          exact lt
        · exact ltF_trans _ _ _ lt (hl.1 y e)
      · rename_i nlt
        refine List.pairwise_cons.mpr ⟨fun y hy => ?_, asc_ins hg hl.2 fun x hx => ho x (List.mem_cons_of_mem _ hx)⟩
        rcases mem_ins.mp hy with e | e
        · subst e
          refine ltS_of (by simpa using nlt) fun e => ne ?_
          exact (spell_inj (ho _ List.mem_cons_self) hg e).symm
        · exact hl.1 y e
theorem mem_fold {x : Fm} : ∀ {l : List Fm}, x ∈ l.foldr ins [] ↔ x ∈ l
  | [] => by simp
  | g :: l => by rw [List.foldr_cons, mem_ins, mem_fold, List.mem_cons]
theorem asc_fold : ∀ {l : List Fm}, (∀ x ∈ l, okL x) → asc (l.foldr ins [])
  | [], _ => List.Pairwise.nil
  | g :: l, h => asc_ins (h g List.mem_cons_self) (asc_fold fun x hx => h x (List.mem_cons_of_mem _ hx)) fun x hx => h x (List.mem_cons_of_mem _ (mem_fold.mp hx))
theorem mem_merge {x : Fm} {l m : List Fm} : x ∈ merge l m ↔ x ∈ l ∨ x ∈ m := by
  unfold merge
  split
  · rename_i e
    subst e
    simp
  · split
    · rename_i e
      subst e
      simp
    · rw [mem_fold, List.mem_append]
theorem asc_merge {l m : List Fm} (hl : asc l) (hm : asc m) (ol : ∀ x ∈ l, okL x) (om : ∀ x ∈ m, okL x) : asc (merge l m) := by
  unfold merge
  split
  · exact hm
  · split
    · exact hl
    · refine asc_fold fun x hx => ?_
      rcases List.mem_append.mp hx with h | h
      · exact ol x h
      · exact om x h
theorem alls_sub : ∀ {f : Fm}, f.okL → (∀ x ∈ f.alls, okL x) ∧ asc f.alls
  | .at _, _ => ⟨fun _ h => by simp [alls] at h, List.Pairwise.nil⟩
  | .no, _ => ⟨fun _ h => by simp [alls] at h, List.Pairwise.nil⟩
  | .imp a b, h => by
    obtain ⟨h1, h2⟩ := alls_sub h.1
    obtain ⟨h3, h4⟩ := alls_sub h.2
    exact ⟨fun x hx => (mem_merge.mp hx).elim (h1 x) (h3 x), asc_merge h2 h4 h1 h3⟩
  | .all a, h => by
    obtain ⟨h1, h2⟩ := alls_sub (f := a) h
    have h3 : ∀ x ∈ [Fm.all a], okL x := fun x hx => by
      rw [List.mem_singleton] at hx
      subst hx
      exact h
    exact ⟨fun x hx => (mem_merge.mp hx).elim (h1 x) (h3 x), asc_merge h2 (by simp [asc]) h1 h3⟩
end Fm
/-- the kit of formulas -/
@[reducible] def FK : FmKit where
  kind := Fm.kind
  many f := (f.many : Nat)
  deep f := (f.deep : Nat)
  atoms := Fm.atoms
  bare := Fm.outer
  spell := Fm.spell
  alls := Fm.alls
end N
set_option Elab.async false
set_option linter.all false
set_option maxRecDepth 100000
namespace N
open PySem PySem.Spec PyProof.Rows L2
open C8 (InsC)
theorem len_ok {n : Nat} (h : n ≤ 1000) : n ≤ sizeLine := by
  have := sizeLine_eq
  omega
section
variable {F : FmKit} {T : Kx} {C H H' O O' : Hp} {G : Gm} {W W' : Om} {σ : L2.St} {a p : Addr} {d : D} {l : List D}
  {te ta tb : TE} {t u : TT} {R R' : D → Om → Prop} {Z : Bool → Om → Prop} {tr tk : TA} {ts tz : TS}
theorem ca_drp {r : List V → Hp → VK → Prop} {ds : List D} (h : Ca F T r ds W fun d W' => ∃ W2, W2.Sublist W' ∧ R d W2) : Ca F T r ds W R := fun C H O di oc ow xs hx Q q => h C H O di oc ow xs hx Q fun d W' H' O' v ⟨W2, s, r⟩ n k => q d W2 H' O' v r ⟨n.ext, n.dis, n.oc, n.own.sub s⟩ k
def TyD (F : FmKit) (T : Kx) (W : Om) (d : D) (t : Value) : Prop := ∀ (C H O : Hp), Dis O H → Ow F T H C O W → ∀ x, Den F T H d x → TyX T.K (ov O H) x t
theorem ca_isi {c : V} {t u : Value} {b : Bool} (hc : ClsV c u) (ht : TyD F T W d t) (e : PySem.W.kitOne T.K t u = some b) (r : R (.bl b) W) : Ca F T (rIsi T.K) [d, .vl c] W R := ca_two fun C H O di oc ow x y hx hy Q q => by
  have hy : y = c := hy
  subst hy
  exact ⟨x, y, t, u, b, rfl, hc, ht C H O di ow x hx, e, q _ W H O _ r (.refl di oc ow) rfl⟩
theorem tyd_str {s : Str} : TyD F T W (.str s) (.type "str") := fun C H O di ow x k => by
  have k : x = .str s := k
  subst k
  exact .base (.str s)
theorem tyd_int {i : Int} : TyD F T W (.int i) (.type "int") := fun C H O di ow x k => by
  have k : x = .int i := k
  subst k
  exact .base (.int i)
theorem tyd_ins {c : Nat} {ns : List Str} (i : Inst F W d c ns l) (z : InsC T.K (T.cl c)) : TyD F T W d (.ref (T.cl c)) := fun C H O di ow x k => by
  obtain ⟨a, dx, fs, e, h1, h2, h3⟩ := i.at di ow k
  subst e
  exact .base (.ins h1 z.cl z.ha z.hn z.htk z.hm)
theorem isi_str {R : D → Om → Prop} {s : Str} (r : R (.bl true) W) : Ca F T (rIsi T.K) [.str s, .vl (.ty "str")] W R := ca_isi (.ty "str") tyd_str (by unfold PySem.W.kitOne; rfl) r
theorem isi_ins {c : Nat} {ns : List Str} (i : Inst F W d c ns l) (z : InsC T.K (T.cl c)) (r : R (.bl true) W) : Ca F T (rIsi T.K) [d, .adr (T.cl c)] W R := ca_isi (.own _) (tyd_ins i z) z.me r
theorem bo_addS {x y : Str} (hl : x.length + y.length ≤ sizeLine) (r : R (.str (x ++ y)) W) : Bo F T (fun x y H Q => ∃ i j, x = .str i ∧ y = .str j ∧ i.length + j.length ≤ sizeLine ∧ Q (.str (i ++ j)) H) (.str x) (.str y) W R :=
  op_sc fun H Q k => ⟨x, y, rfl, rfl, hl, k _ r⟩
theorem ev_fmt (h : Ev F T te G W fun d W1 => ∃ y : Str, d = .str y ∧ y.length ≤ sizeLine ∧ R (.str y) W1) : Ev F T (tFmt te) G W R := fun C H O σ w Q q =>
  h C H O σ w _ fun d W1 H1 O1 x ⟨y, e, hl, r⟩ n k => by
    subst e
    have k : x = .str y := k
    exact .inl ⟨y, k, hl, q _ W1 H1 O1 _ r n rfl⟩
/-- the parts of an f-string -/
def EvJ (F : FmKit) (T : Kx) : List TE → Str → Gm → Om → (Str → Om → Prop) → Prop
  | [], acc, _, W, Y => Y acc W
  | te :: ts, acc, G, W, Y => Ev F T te G W fun d W1 => ∃ y : Str, d = .str y ∧ (acc ++ y).length ≤ sizeLine ∧ EvJ F T ts (acc ++ y) G W1 Y
theorem EvJ.run {Y : Str → Om → Prop} : ∀ {ts : List TE} {acc : Str} {W : Om} {H O : Hp}, EvJ F T ts acc G W Y → Wd F T C G W H O σ → ∀ Q : Str → Hp → Prop, (∀ z W' H' O', Y z W' → Nx F T C W' H H' O' → Q z (ov O' H')) → tJs ts acc σ (ov O H) Q
  | [], acc, W, H, O, h, w, Q, q => q acc W H O h w.nx
  | te :: ts, acc, W, H, O, h, w, Q, q => h C H O σ w _ fun d W1 H1 O1 x ⟨y, e, hl, r⟩ n k => by
    subst e
    have k : x = .str y := k
    exact ⟨y, k, hl, EvJ.run r (w.step n) Q fun z W' H' O' yy n2 => q z W' H' O' yy (n.trans n2)⟩
theorem ev_joined {es : List TE} (h : EvJ F T es Str.empty G W fun z W' => R (.str z) W') : Ev F T (fun σ H Q => tJs es Str.empty σ H fun out H1 => Q (.str out) H1) G W R := fun C H O σ w Q q =>
  h.run w _ fun z W' H' O' y n => q _ W' H' O' _ y n rfl
theorem bo_catA {xs ys : List D} (hl : xs.length + ys.length ≤ sizeLine) (r : R (.tup (xs ++ ys)) W) : Bo F T (rCatA T.K) (.tup xs) (.tup ys) W R := fun C H O di oc ow x y hx hy Q q => by
  obtain ⟨a, us, ex, hs, kl⟩ := hx
  obtain ⟨b, vs, ey, ht, km⟩ := hy
  have n := Nx.refl di oc ow
  refine ⟨a, b, us, vs, ex, ey, Same.sqT di.same hs, Same.sqT di.same ht, by rw [kl.len, km.len]; exact hl, fun e => ?_, fun _ e => ?_, fun _ _ p hp => ?_⟩
  · subst e
    have e : xs = [] := by
      have := kl.len
      simpa using this.symm
    subst e
    exact q _ W H O _ r n ⟨b, vs, rfl, ht, km⟩
  · subst e
    have e : ys = [] := by
      have := km.len
      simpa using this.symm
    subst e
    exact q _ W H O _ r n ⟨a, us, rfl, hs, by rw [List.append_nil]; exact kl⟩
  · obtain ⟨n2, e2, s2⟩ := n.newF (o := .tup (us ++ vs)) hp
    rw [e2]
    exact q _ W _ O _ r n2 ⟨p, _, rfl, SqT.of upd_same, (kl.mono s2).app (km.mono s2)⟩
theorem bo_knin {dd : Addr} {z : Str} {r0 : Option Value} (e : PySem.W.nsIn T.K dd z = some r0) (r : R (.bl (!r0.isSome)) W) :
    Bo F T (fun x y H Q => ∃ (z : Str) (r : Option Value), x = .str z ∧ y = .ref dd ∧ PySem.W.nsIn T.K dd z = some r ∧ Q (.bl (!r.isSome)) H) (.str z) (.adr dd) W R := op_sc fun H Q k => ⟨z, r0, rfl, rfl, e, k _ r⟩
theorem bo_kix {w : World} {dd : Addr} {z : Str} {v : V} (e : KDct T.K w dd z v) (r : R (.vl v) W) : Bo F T (rIxD T.K w) (.adr dd) (.str z) W R := op_sc fun H Q k => ⟨dd, z, v, rfl, rfl, e, k _ r⟩
theorem ca_sortedD {ps : List (Key × D)} {ks : List Str} (hv : Vd W d ps) (hk : ps.map (·.1) = ks.map Sum.inr) (hl : ks.length < 64) (r : ∀ ys : List Str, ys.Perm ks → sortedS ys = true → R (.lst (ys.map D.str)) W) :
    Ca F T (fun xs H Q => ∃ (a : Addr) (kvs : List (Key × V)) (ks : List Str), xs = [.ref a] ∧ Rd H a (.dK kvs) ∧ kvs.map (·.1) = ks.map Sum.inr ∧ ks.length < 64 ∧
      ∀ ys p, ys.Perm ks → sortedS ys = true → H p = none → Q (.ref p) (upd H p (.lst (ys.map V.str)))) [d] W R := ca_one fun C H O di oc ow x k Q q => by
  obtain ⟨a, kvs, e, h1, h2, h3, h4⟩ := hv.at di ow k
  refine ⟨a, kvs, ks, by rw [e], .inl h1, h2.trans hk, hl, fun ys p hp hs hn => ?_⟩
  obtain ⟨n2, e2, s2⟩ := (Nx.refl (F := F) (T := T) di oc ow).newF (o := .lst (ys.map V.str)) hn
  rw [e2]
  refine q _ W _ O _ (r ys hp hs) n2 ⟨p, _, rfl, upd_same, ?_⟩
  have := DenL.vls (F := F) (T := T) (H := upd H p (.lst (ys.map V.str))) (ys.map V.str)
  rw [List.map_map] at this
  exact this
def eqDB (ks ls : List (Key × Bool)) : Bool := ks.all fun p => decide (getG ls p.1 = some p.2)
def blV (ks : List (Key × Bool)) : List (Key × V) := ks.map fun p => (p.1, V.bl p.2)
theorem valV_bl {k : Key} : ∀ {ls : List (Key × Bool)}, valV (blV ls) k = (getG ls k).map V.bl
  | [] => rfl
  | (j, b) :: r => by
    have ih := valV_bl (k := k) (ls := r)
    unfold valV getG blV at *
    rw [List.map_cons, List.find?_cons, List.find?_cons]
    by_cases h : j = k
    · simp [h]
    · simp only [h, decide_false]
      exact ih
theorem bl_of {b : Bool} {u : Value} (h : RelV (.bl b) u) : u = .bool b := h
theorem hits_bl {A : Around} {s : Shared} {ls : List (Key × Bool)} {vb : List (Key × Value)} (rb : KV (blV ls) vb) : ∀ {ks : List (Key × Bool)} {va : List (Key × Value)} (ra : KV (blV ks) va), PySem.W.KeqHits A s vb va (eqDB ks ls)
  | [], va, ra => by
    cases ra
    exact .nil
  | (k, b) :: ks, va, ra => by
    cases ra with
    | @cons _ q _ qs h t =>
      obtain ⟨h1, h2⟩ := h
      obtain ⟨k', v⟩ := q
      have h1 : k = k' := h1
      subst h1
      have h2 : v = .bool b := bl_of h2
      subst h2
      have ih := hits_bl (A := A) (s := s) rb (ks := ks) t
      have rr : RelO (valV (blV ls) k) (valueAt vb k) := rb.val k
      rw [valV_bl] at rr
      cases e : getG ls k with
      | none =>
        rw [e] at rr
        have hn : valueAt vb k = none := by
          cases hv : valueAt vb k with
          | none => rfl
          | some y =>
            rw [hv] at rr
            exact absurd rr (by intro z; cases z)
        have : eqDB ((k, b) :: ks) ls = false := by simp [eqDB, e]
        rw [this]
        exact .miss hn
      | some b' =>
        rw [e] at rr
        obtain ⟨y, hy, ry⟩ := rr.some_of
        have ry : y = .bool b' := bl_of ry
        subst ry
        have : eqDB ((k, b) :: ks) ls = (PyData.eqv (.bool b) (.bool b') && eqDB ks ls) := by
          have e3 : PyData.eqv (.bool b) (.bool b') = decide (some b' = some b) := by cases b <;> cases b' <;> decide
          rw [e3]
          simp [eqDB, e]
        rw [this]
        exact .hit hy (PySem.W.keq_flat (.bool b) (.bool b')) ih
def rNeDB : R2 := fun x y H Q => ∃ a b ks ls, x = .ref a ∧ y = .ref b ∧ H a = some (.dK (blV ks)) ∧ H b = some (.dK (blV ls)) ∧ ks.length = ls.length ∧ Q (.bl (!eqDB ks ls)) H
theorem op_ne_dictB {X : Cx} (hu : X.A.units < cLine) : OpR X (compareOp .NotEq) rNeDB := by
  intro pins s σ H x y v u Q I rx ry h
  obtain ⟨a, b, ks, ls, rfl, rfl, ea, eb, hlen, q⟩ := h
  obtain rfl : v = Value.ref a := rx
  obtain rfl : u = Value.ref b := ry
  obtain ⟨_, ya, va, ra, da⟩ := (show ObjOk X.prog X.w H s.heap a (.dK (blV ks)) from I.hok a _ ea)
  obtain ⟨_, yb, vb, rb, db⟩ := (show ObjOk X.prog X.w H s.heap b (.dK (blV ls)) from I.hok b _ eb)
  have hl : va.length = vb.length := by
    rw [← ra.length, ← rb.length]
    simp [blV, hlen]
  exact PySem.W.keq_ne (knd := mixKind X.prog X.w) (r := eqDB ks ls) ya yb da db hu (fun _ => hits_bl rb ra) (fin_bl I q (by simp [hl]))
@[reducible] def blD (ks : List (Key × Bool)) : List (Key × D) := ks.map fun p => (p.1, D.bl p.2)
theorem blV_of : ∀ {ks : List (Key × Bool)} {kvs : List (Key × V)}, kvs.map (·.1) = (blD ks).map (·.1) → DenL F T H ((blD ks).map (·.2)) (kvs.map (·.2)) → kvs = blV ks
  | [], [], _, _ => rfl
  | [], _ :: _, h, _ => by simp at h
  | _ :: _, [], h, _ => by simp at h
  | (k, b) :: ks, (j, v) :: kvs, h, ⟨w, r, e, k1, k2⟩ => by
    simp only [blD, List.map_cons, List.cons.injEq] at h e
    obtain ⟨e1, e2⟩ := e
    obtain ⟨h1, h2⟩ := h
    subst e1 e2
    have k1 : v = .bl b := k1
    have ih := blV_of (ks := ks) h2 k2
    subst k1 ih h1
    rfl
theorem bo_neDB {d1 d2 : D} {ks ls : List (Key × Bool)} (h1 : Vd W d1 (blD ks)) (h2 : Vd W d2 (blD ls)) (hl : ks.length = ls.length) (r : R (.bl (!eqDB ks ls)) W) : Bo F T rNeDB d1 d2 W R := fun C H O di oc ow x y hx hy Q q => by
  obtain ⟨a, kvs, e1, a1, a2, a3, a4⟩ := h1.at di ow hx
  obtain ⟨b, lvs, e2, b1, b2, b3, b4⟩ := h2.at di ow hy
  rw [blV_of a2 a4] at a1
  rw [blV_of b2 b4] at b1
  exact ⟨a, b, ks, ls, e1, e2, a1, b1, hl, q _ W H O _ r (.refl di oc ow) rfl⟩
end
end N
set_option Elab.async false
set_option linter.all false
set_option maxRecDepth 100000
set_option maxHeartbeats 4000000
namespace N
open PySem PySem.Spec PyProof.Rows L2
def txOf (e : Int × Value) : Str := match e.2 with
  | .str k _ => k
  | _ => Str.empty
def GoodT (w : World) (e : Int × Value) : Prop := ∃ k tk, e.2 = Value.str k tk ∧ e.1 = hashStr w k
/-- the set of texts at a -/
def SetT (w : World) (h : Heap) (a : Addr) (M : Str → Bool) (n : Nat) : Prop :=
  ∃ o es ep t, h.get? a = some o ∧ o.ExactSet ∧ o.data = .set es ep t ∧ (∀ e ∈ es.toList, GoodT w e) ∧ (es.toList.map txOf).Nodup ∧ (∀ k, M k = true ↔ k ∈ es.toList.map txOf) ∧
    es.size < scanBound ∧ t.fits es.size = true ∧ es.size = n ∧ Ris t.place.toList ∧ (w.params.followText "set-order" = true ∨ t.led = true)
section
variable {P : Program} {w : World} {h h' : Heap} {a : Addr} {M : Str → Bool} {n : Nat}
theorem SetT.at (R : SetT w h a M n) (k : ∀ o, h.get? a = some o → h'.get? a = some o) : SetT w h' a M n := let ⟨o, es, ep, t, ho, r⟩ := R; ⟨o, es, ep, t, k o ho, r⟩
theorem SetT.lt (R : SetT w h a M n) : a < h.objs.size := let ⟨_, _, _, _, ho, _⟩ := R; Heap.lt_size ho
theorem SetT.congr {M' : Str → Bool} (R : SetT w h a M n) (e : ∀ k, M' k = M k) : SetT w h a M' n := (funext e : M' = M) ▸ R
theorem goodT_elems {l : List (Int × Value)} (g : ∀ e ∈ l, GoodT w e) : ElemsOf (strKind P w) l := fun e he => by
  obtain ⟨k, tk, h1, h2⟩ := g e he
  refine ⟨⟨k, ?_, h2⟩, by rw [h1]; rfl⟩
  rw [h1]
  exact strKind_is P w k tk
theorem goodT_is {e : Int × Value} (g : GoodT w e) (k : Str) : (strKind P w).is k e.2 = true ↔ txOf e = k := by
  obtain ⟨k0, tk, h1, _⟩ := g
  unfold txOf
  rw [h1]
  constructor
  · intro h
    obtain ⟨u, hu⟩ := Value.isStrOf_shape (show Value.isStrOf k (Value.str k0 tk) = true from h)
    injection hu
  · intro h
    have h : k0 = k := h
    subst h
    exact strKind_is P w _ _
theorem goodT_mem {l : List (Int × Value)} (g : ∀ e ∈ l, GoodT w e) (k : Str) : k ∈ l.map txOf ↔ ∃ e ∈ l, (strKind P w).is k e.2 = true := by
  rw [List.mem_map]
  exact ⟨fun ⟨e, he, q⟩ => ⟨e, he, (goodT_is (g e he) k).2 q⟩, fun ⟨e, he, q⟩ => ⟨e, he, (goodT_is (g e he) k).1 q⟩⟩
end
section
variable {P : Program} {w : World} {A : Around} {E : Value → Shared → Prop} {s : Shared} {a : Addr} {M : Str → Bool} {n : Nat}
theorem setT_tail {g : Bool → Sem Unit} (hg : ∀ (b : Bool) (z : Shared) (Z : Unit → Shared → Prop), Z () z → wpAny (model P w) A (g b) Z E z)
    {o : Obj} {es : Array (Int × Value)} {ep : Nat} {t : SetTable} (ho : s.heap.get? a = some o) (hex : o.ExactSet) (hd : o.data = .set es ep t)
    {es1 : Array (Int × Value)} {t2 : SetTable} {M' : Str → Bool} (g1 : ∀ e ∈ es1.toList, GoodT w e) (nd1 : (es1.toList.map txOf).Nodup) (m1 : ∀ k, M' k = true ↔ k ∈ es1.toList.map txOf)
    (hb1 : es1.size < scanBound) (hf2 : t2.fits es1.size = true) (hr : Ris t2.place.toList) (hl : w.params.followText "set-order" = true ∨ t2.led = true) {wd : Bool} {R : Option Bool → Shared → Prop}
    (hR : ∀ h', Heap.SameBut a s.heap h' → SetT w h' a M' es1.size → R (some true) { s with heap := h' }) :
    wpAny (model P w) A (do
        storeSet a es1 t2
        if (!wd && t2.tooFull) = true then do
            g (relayAll t2 es1 (SetTable.grown es1.size)).2.2
            storeSet a (relayAll t2 es1 (SetTable.grown es1.size)).1 (relayAll t2 es1 (SetTable.grown es1.size)).2.1
            pure (some true)
          else pure (some true)) R E s := by
  refine wpAny_bind (wpAny_storeSet_of ho hd ?_ (fits_of_scanBound hb1))
  have o1 := store_at (es' := es1) (t' := t2) ho hd
  have b1 := Heap.SameBut.update s.heap a (Obj.putSet es1 t2)
  split
  · have pm := relayAll_perm t2 es1 (SetTable.grown es1.size)
    have f3 := relayAll_fits t2 es1 (SetTable.grown es1.size)
    have r3 := relayAll_ris t2 es1 (SetTable.grown es1.size)
    have l3 := relayAll_led t2 es1 (SetTable.grown es1.size)
    generalize relayAll t2 es1 (SetTable.grown es1.size) = Y at pm f3 r3 l3 ⊢
    obtain ⟨es2, t3, gave⟩ := Y
    dsimp only at pm f3 r3 l3 ⊢
    have hz : es2.size = es1.size := by rw [← Array.length_toList, pm.length_eq, Array.length_toList]
    have b2 : es2.size < scanBound := hz ▸ hb1
    refine wpAny_bind (hg _ _ _ (wpAny_bind (wpAny_storeSet_of o1 rfl (wpAny_pure (hR _ (b1.trans (Heap.SameBut.update _ a _)) ?_)) (fits_of_scanBound b2))))
    exact ⟨_, es2, _, t3, store_at (es' := es2) (t' := t3) o1 rfl, hex, rfl, fun e he => g1 e (pm.mem_iff.mp he), (pm.map txOf).nodup_iff.mpr nd1, fun k => (m1 k).trans (pm.map txOf).mem_iff.symm, b2, f3, hz, r3, hl.imp id fun z => l3.trans z⟩
  · exact wpAny_pure (hR _ b1 ⟨_, es1, _, t2, o1, hex, rfl, g1, nd1, m1, hb1, hf2, rfl, hr, hl⟩)
theorem setT_add_hashed {k : Str} {tk : Tok} {Q : Bool → Shared → Prop} (R : SetT w s.heap a M n) (room : n + 1 < scanBound)
    (hQ : ∀ h', Heap.SameBut a s.heap h' → SetT w h' a (fun j => M j || decide (j = k)) (if M k = true then n else n + 1) → Q (!M k) { s with heap := h' }) :
    wpAny (model P w) A (setAddHashed a (.str k tk) ((strKind P w).hash k)) Q E s := by
  obtain ⟨o, es, ep, t, ho, hex, hd, g, nd, hm, hb, hf, hn, hr, hl⟩ := R
  have hk : (strKind P w).is k (.str k tk) = true := strKind_is P w k tk
  have sc : (Value.str k tk).scannable = true := rfl
  have hel : ElemsOf (strKind P w) es.toList := goodT_elems g
  unfold setAddHashed setAddHashedIn
  refine wpAny_holding (wpAny_bind (wpAny_setState_of ho hd hf ?_))
  dsimp only
  rw [byScan_of sc hb hel]
  simp only [↓reduceIte]
  unfold setAddByScan
  refine wpAny_bind (wpAny_bind (wpAny_rule (wpAny_bind (wpAny_setScan_of hk ho hd hf hel ?_))))
  cases hfi : List.findIdx? (fun e => (strKind P w).is k e.2) es.toList with
  | some j =>
    dsimp only
    obtain ⟨hj, pj, _⟩ := List.findIdx?_eq_some_iff_getElem.mp hfi
    have hM : M k = true := (hm k).2 ((goodT_mem (P := P) g k).2 ⟨es.toList[j], List.getElem_mem hj, pj⟩)
    refine wpAny_pure (wpAny_pure ?_)
    have q := hQ s.heap (Heap.SameBut.refl a s.heap) ⟨o, es, ep, t, ho, hex, hd, g, nd, fun i => by
      rw [Bool.or_eq_true, decide_eq_true_eq, ← hm i]
      exact ⟨fun z => z.elim id (fun e => e ▸ hM), .inl⟩, hb, hf, by rw [if_pos hM]; exact hn, hr, hl⟩
    rw [hM] at q
    exact q
  | none =>
    dsimp only
    have nk : k ∉ es.toList.map txOf := fun z => by
      obtain ⟨e, he, q⟩ := (goodT_mem (P := P) g k).1 z
      have c := List.findIdx?_eq_none_iff.mp hfi e he
      rw [q] at c
      cases c
    have hM : M k = false := by
      cases q : M k with
      | false => rfl
      | true => exact absurd ((hm k).1 q) nk
    have gw : ∀ (b : Bool) {z : Shared} {Z : Unit → Shared → Prop}, Z () z → wpAny (model P w) A (match b with | true => rule "set.scan.the-table-gave-way" | false => pure ()) Z E z :=
      fun b z Z q => by cases b <;> first | exact wpAny_pure q | exact wpAny_rule q
    have pm := layNew_perm t es ((strKind P w).hash k) (.str k tk)
    have f1 := layNew_fits t es ((strKind P w).hash k) (.str k tk)
    have r1 := layNew_ris t es ((strKind P w).hash k) (.str k tk) hr
    have l1 := layNew_led t es ((strKind P w).hash k) (.str k tk)
    generalize layNew t es ((strKind P w).hash k) (.str k tk) = Y at pm f1 r1 l1 ⊢
    obtain ⟨es1, t1, wd, gave⟩ := Y
    dsimp only at pm f1 r1 l1 ⊢
    rw [Array.toList_push] at pm
    have pc : es1.toList.Perm (((strKind P w).hash k, Value.str k tk) :: es.toList) := pm.trans (List.perm_append_singleton _ _)
    have pk : (es1.toList.map txOf).Perm (k :: es.toList.map txOf) := pc.map txOf
    have g1 : ∀ e ∈ es1.toList, GoodT w e := fun e he => by
      rcases List.mem_cons.mp (pc.mem_iff.mp he) with z | z
      · rw [z]; exact ⟨k, tk, rfl, rfl⟩
      · exact g e z
    have nd1 : (es1.toList.map txOf).Nodup := pk.nodup_iff.mpr (List.nodup_cons.mpr ⟨nk, nd⟩)
    have m1 : ∀ i, (M i || decide (i = k)) = true ↔ i ∈ es1.toList.map txOf := fun i => by
      rw [Bool.or_eq_true, decide_eq_true_eq, hm i, pk.mem_iff, List.mem_cons]
      exact Or.comm
    have hz : es1.size = n + 1 := by rw [← Array.length_toList, pc.length_eq, List.length_cons, Array.length_toList, hn]
    have hb1 : es1.size < scanBound := hz ▸ room
    have hled : w.params.followText "set-order" = true ∨ t1.led = true := hl.imp id fun z => l1.trans z
    have fin : ∀ h', Heap.SameBut a s.heap h' → SetT w h' a (fun j => M j || decide (j = k)) es1.size → Q true { s with heap := h' } := fun h' sb r => by
      have q := hQ h' sb
      rw [hM] at q
      rw [hz] at r
      exact q r
    refine wpAny_bind (gw _ ?_)
    split
    · refine wpAny_bind ?_
      rw [hashByValue_scannable 8 sc]
      refine wpAny_pure (setT_tail ?_ ho hex hd g1 nd1 m1 hb1 ?_ ?_ ?_ ?_)
      · intro b z Z q; cases b <;> first | exact wpAny_pure q | exact wpAny_rule q
      · first | (split <;> first | exact f1 | exact SetTable.fits_plain_off f1) | exact f1
      · first | (split <;> exact r1) | exact r1
      · first | (split <;> exact hled) | exact hled
      · intro h' sb r; dsimp only; exact wpAny_pure (fin h' sb r)
    · refine wpAny_bind (wpAny_pure ?_)
      simp only [↓reduceIte]
      refine setT_tail ?_ ho hex hd g1 nd1 m1 hb1 f1 r1 hled ?_
      · intro b z Z q; cases b <;> first | exact wpAny_pure q | exact wpAny_rule q
      · intro h' sb r; dsimp only; exact wpAny_pure (fin h' sb r)
theorem setT_new_at {h : Heap} {ks : List Str} (ho : h.get? a = some { cls := .type "set", dict := none, data := .set #[] 0 (.fresh 0 0 (!w.params.followText "set-order")) }) : SetT w h a (fun j => decide (j ∈ ks.take 0)) 0 :=
  ⟨_, #[], 0, _, ho, ⟨rfl, rfl, rfl⟩, rfl, (fun e he => by simp at he), (by simp), (fun k => by simp), (by decide), (by rfl), rfl, List.Pairwise.nil, by
    show _ ∨ (!w.params.followText "set-order") = true
    cases w.params.followText "set-order"
    · exact .inr rfl
    · exact .inl rfl⟩
theorem setT_loop {I : Addr} {fp wr : List Addr} {G : Array GenState → Array GenState → Prop} {n : Nat} {Pv : Nat → Value → Prop} {St : Nat → Shared → Prop} {R : Result → Shared → Prop}
    (W : WalksS P w A.in1 I fp wr G n Pv St) (Z : Addr) (hZ : Z ∉ fp) (ks : List Str) (hn : n = ks.length) (hb : ks.length + 1 < scanBound) (hval : ∀ i v, Pv i v → ∃ k t, ks[i]? = some k ∧ v = .str k t) :
    ∀ (j i : Nat) (s : Shared), n - i = j → i ≤ n → St i s → (∃ c, c ≤ i ∧ SetT w s.heap Z (fun j => decide (j ∈ ks.take i)) c) →
      (∀ s' c, Moved (Z :: wr) G s s' → c ≤ n → SetT w s'.heap Z (fun j => decide (j ∈ ks)) c → R (.ok (.ret .none)) s') →
      codeAny (model P w) A (.builtin "set.update.loop" ⟨[.ref Z, .ref I], []⟩) R s := by
  have hw : Z ∉ wr := fun h => hZ (W.sub _ h)
  have sub : ∀ b ∈ wr, b ∈ Z :: wr := fun b hb => List.mem_cons_of_mem _ hb
  intro j
  induction j with
  | zero =>
    intro i s hj hi hst ⟨c, hc, hS⟩ hR
    have e : i = n := by omega
    subst e
    refine codeAny_builtin F.entry_set_update_loop ?_
    rw [Around.under_plainId F.plain_set_update_loop _]
    show wpAny _ A.in1 (pyNext (.ref I) >>= _) _ _ s
    refine wpAny_bind (W.done s _ _ hst fun s' hm => (show wpAny _ A.in1 (ret Value.none) _ _ s' from ?_))
    rw [List.take_of_length_le (show ks.length ≤ i by omega)] at hS
    exact wpAny_pure (hR s' c (hm.mono sub) hc (hS.at fun o e => hm.heap Z o hw e))
  | succ j ih =>
    intro i s hj hi hst ⟨c, hc, hS⟩ hR
    have lt : i < n := by omega
    refine codeAny_builtin F.entry_set_update_loop ?_
    rw [Around.under_plainId F.plain_set_update_loop _]
    show wpAny _ A.in1 (pyNext (.ref I) >>= _) _ _ s
    refine wpAny_bind (W.item i s _ _ lt hst fun v s' hP hst' hm => ?_)
    obtain ⟨z, t, hz, rfl⟩ := hval i v hP
    have hS' : SetT w s'.heap Z (fun j => decide (j ∈ ks.take i)) c := hS.at fun o e => hm.heap Z o hw e
    show wpAny _ A.in1 (holding [Value.str z t] (setAdd Z (.str z t)) >>= _) _ _ s'
    unfold setAdd
    refine wpAny_bind (wpAny_holding (wpAny_holding (wpAny_bind ((strKind P w).pyHash (k := z) (strKind_is _ _ _ _) ?_))))
    refine setT_add_hashed (s := { s' with toks := s'.toks + 1 }) hS' (by omega) fun h' sb hS2 => ?_
    have hS3 : SetT w h' Z (fun j => decide (j ∈ ks.take (i + 1))) (if decide (z ∈ ks.take i) = true then c else c + 1) := hS2.congr fun j => by
      rw [List.take_add_one, hz]
      simp [List.mem_append]
    have hc3 : (if decide (z ∈ ks.take i) = true then c else c + 1) ≤ i + 1 := by split <;> omega
    refine wpAny_pure ⟨plainId_quiet F.plain_set_update_loop _, ih (i + 1) _ (by omega) lt (W.frame _ s' _ _ hst' (Nat.le_succ _) fun b hb o e => ?_) ⟨_, hc3, hS3⟩ fun s'' c2 m2 hc2 hS4 => ?_⟩
    · rw [sb.2 b (fun h : b = Z => hZ (by rw [← h]; exact hb))]; exact e
    · refine hR s'' c2 (Moved.trans W.gtrans ((hm.mono sub).then_heap (Nat.le_succ _) fun b o hb e => ?_) m2) hc2 hS4
      rw [sb.2 b (fun h : b = Z => hb (by rw [h]; exact List.mem_cons_self))]; exact e
end
end N
set_option Elab.async false
set_option linter.all false
set_option maxRecDepth 100000
set_option maxHeartbeats 4000000
namespace N
open PySem PySem.Spec PyProof.Rows L2
section
variable {P : Program} {w : World} {A : Around} {E : Value → Shared → Prop} {s : Shared}
abbrev newSetObj (w : World) : Obj := { cls := .type "set", dict := none, data := .set #[] 0 (.fresh 0 0 (!w.params.followText "set-order")) }
theorem set_made (x : Value) {Q : Value → Shared → Prop} (hh : A.handled = none)
    (up : ∀ (A' : Around) (Z : Unit → Shared → Prop), A'.handled = none → (∀ (h' : Heap) (tk : Nat), (∀ b o, s.heap.get? b = some o → h'.get? b = some o) → Q (.ref s.heap.objs.size) { s with heap := h', toks := tk } → Z () { s with heap := h', toks := tk }) →
      wpAny (model P w) A' (Builtin.Frozenset.updateFrom "set.__init__" s.heap.objs.size x) Z E { s with heap := s.heap.push (newSetObj w) }) :
    wpAny (model P w) A (call (.type "set") [x]) Q E s := by
  obtain ⟨c, tl, hmro⟩ := F.called_set.mro
  have hmade := F.called_set.made
  have hsub := F.called_set.sub
  refine wpAny_call (codeAny_of_tree ?_)
  show wpAny _ _ (callAny (.type "set") _) _ _ _
  refine wpAny_pure ⟨Code.quiet_builtin _ (by decide +kernel), codeAny_builtin F.entry_type_call ?_⟩
  rw [Around.under_plain (weight_type_call_type "set" [x] []) rfl]
  have h1 := F.called_set.notType
  have h2 := F.called_set.canCreate
  have hct := F.typeCall_set_1 x
  repeat (any_goals (first | assumption | wp_step))
  refine codeAny_mono (code_set_led1 x (E := E) (Q₁ := fun obj z => obj = .ref s.heap.objs.size ∧ z = { s with heap := s.heap.push (newSetObj w) }) ⟨rfl, rfl⟩) fun r z hr => ?_
  cases r with
  | error e => exact hr
  | ok fl =>
    cases fl with
    | ret obj =>
      obtain ⟨rfl, rfl⟩ := hr
      have hS : (s.heap.push (newSetObj w)).get? s.heap.objs.size = some (newSetObj w) := Heap.get?_push_size _ rfl
      have hT : Shared.TypeIs { s with heap := s.heap.push (newSetObj w) } (.ref s.heap.objs.size) "set" := ⟨_, hS, rfl⟩
      have hli := F.called_set.init.lookup
      have hbi := F.called_set.init.bind (.ref s.heap.objs.size)
      repeat (any_goals (first | assumption | wp_step))
      refine codeAny_mono (codeAny_call_builtin (R := wants (fun r z => r = .none ∧ ∃ h' tk, z = { s with heap := h', toks := tk } ∧ (∀ b o, s.heap.get? b = some o → h'.get? b = some o) ∧ Q (.ref s.heap.objs.size) z) E) F.called_set.init.plain F.entry_set_init (check_set_init_1 hT ?_)) fun r2 z2 hr2 => ?_
      · unfold Builtin.«set.__init__» noKeywords
        generalize hU : Builtin.Frozenset.updateFrom = U
        wp_walk
        subst hU
        refine up _ _ (by first | exact hh | simp [hh]) fun h' tk k q => ?_
        show wpAny _ _ (ret Value.none) _ _ _
        exact wpAny_pure ⟨rfl, h', tk, rfl, k, q⟩
      · cases r2 with
        | error e => exact hr2
        | ok fl2 =>
          cases fl2 with
          | ret r =>
            obtain ⟨rfl, h', tk, rfl, hk', hq⟩ := hr2
            repeat (any_goals (first | assumption | wp_step))
          | _ => exact hr2.elim
    | _ => exact hr.elim
end
end N
set_option Elab.async false
set_option linter.all false
set_option maxRecDepth 100000
set_option maxHeartbeats 4000000
namespace N
open PySem PySem.Spec PyProof.Rows L2
section
variable {P : Program} {w : World} {A : Around} {E : Value → Shared → Prop} {s : Shared}
theorem strsAre_get : ∀ {us : List Value} {xs : List Str}, StrsAre us xs → ∀ (i : Nat) (v : Value), us[i]? = some v → ∃ k t, xs[i]? = some k ∧ v = .str k t
  | _, _, .nil, i, v, h => by simp at h
  | _, _, .cons x t r, 0, v, h => ⟨x, t, rfl, (Option.some.inj h).symm⟩
  | _, _, .cons x t r, i + 1, v, h => strsAre_get r i v h
theorem set_of_strs {l : Addr} {items : Array Value} (ks : List Str) {Q : Value → Shared → Prop} (hh : A.handled = none) (hl : s.heap.IsList l items) (hit : StrsAre items.toList ks) (hb : ks.length + 1 < scanBound)
    (h : ∀ (h' : Heap) (tk c : Nat), SetT w h' s.heap.objs.size (fun j => decide (j ∈ ks)) c → c ≤ ks.length → (∀ b o, s.heap.get? b = some o → h'.get? b = some o) → Q (.ref s.heap.objs.size) { s with heap := h', toks := tk }) :
    wpAny (model P w) A (call (.type "set") [.ref l]) Q E s := by
  have hz : items.size = ks.length := by rw [← Array.length_toList, StrsAre.length hit]
  refine set_made (.ref l) hh fun A' Z hA fin => ?_
  obtain ⟨ol, hol, hcl, nl, hdl⟩ := hl
  obtain ⟨ocls, odict, odata, oslots⟩ := ol
  simp only at hcl hdl
  subst hcl; subst hdl
  have hol2 : (s.heap.push (newSetObj w)).get? l = some { cls := .type "list", dict := odict, data := .seq items nl, slots := oslots } := Heap.get?_push_of_some _ hol
  have hT : Shared.TypeIs { s with heap := s.heap.push (newSetObj w) } (.ref l) "list" := ⟨_, hol2, rfl⟩
  have hl1 : (s.heap.push (newSetObj w)).IsList l items := ⟨_, hol2, rfl, nl, rfl⟩
  have hS : (s.heap.push (newSetObj w)).get? s.heap.objs.size = some (newSetObj w) := Heap.get?_push_size _ rfl
  have q1 := F.sub_list_set
  have q2 := F.sub_list_frozenset
  have q3 : (Value.type "list" == Value.type "dict") = false := by decide
  unfold Builtin.Frozenset.updateFrom
  generalize hPI : pyIter = PI
  wp_walk
  subst hPI
  refine wpAny_pyIter_list hl1 ?_
  refine wpAny_bind (wpAny_runValue ?_)
  have hlS : l < s.heap.objs.size := Heap.lt_size hol
  have hA3 : A'.in1.handled = none := by simp [hA]
  have neI : l ≠ (s.heap.push (newSetObj w)).objs.size := by
    rw [Heap.size_push]; exact Nat.ne_of_lt (Nat.lt_succ_of_lt hlS)
  have nf : s.heap.objs.size ∉ [(s.heap.push (newSetObj w)).objs.size, l] := by
    rw [Heap.size_push]; simp only [List.mem_cons, List.mem_singleton, List.not_mem_nil, or_false, not_or]
    exact ⟨Nat.ne_of_lt (Nat.lt_succ_self _), Nat.ne_of_gt hlS⟩
  have hval : ∀ (i : Nat) (v : Value), items[i]? = some v → ∃ k t, ks[i]? = some k ∧ v = .str k t := fun i v hv => strsAre_get hit i v (by rw [Array.getElem?_toList]; exact hv)
  refine setT_loop ((Walks.list hA3 _ l neI items).toS) s.heap.objs.size nf ks hz hb hval (items.size - 0) 0 _ (by omega) (Nat.zero_le _)
    ⟨⟨_, Heap.get?_push_size _ rfl, rfl, rfl⟩, (hl1.push _)⟩ ⟨0, Nat.le_refl 0, setT_new_at (Heap.get?_push_of_some _ hS)⟩ fun s' c hm hc hM => ?_
  obtain ⟨h', g2, d', tk', os'⟩ := s'
  have eg : g2 = s.gens := hm.gens
  have ed : d' = s.drawn := hm.drawn
  have eo : os' = s.os := hm.os
  subst eg; subst ed; subst eo
  show wpAny _ _ _ _ _ _
  have k : ∀ b o, s.heap.get? b = some o → h'.get? b = some o := fun b o e => by
    have hb0 : b < s.heap.objs.size := Heap.lt_size e
    refine hm.heap b o ?_ (Heap.get?_push_of_some _ (Heap.get?_push_of_some _ e))
    rw [Heap.size_push]
    simp only [List.mem_cons, List.mem_singleton, List.not_mem_nil, or_false, not_or]
    exact ⟨Nat.ne_of_lt hb0, Nat.ne_of_lt (Nat.lt_succ_of_lt hb0)⟩
  exact wpAny_pure (fin h' tk' k (h h' tk' c hM (hz ▸ hc) k))
def signs (x : Str) : List Str := x.cps.toList.map fun c => ⟨#[c]⟩
theorem set_of_text {x : Str} {t : Tok} {Q : Value → Shared → Prop} (hh : A.handled = none) (hb : x.length + 1 < scanBound)
    (h : ∀ (h' : Heap) (tk c : Nat), SetT w h' s.heap.objs.size (fun j => decide (j ∈ signs x)) c → c ≤ x.length → (∀ b o, s.heap.get? b = some o → h'.get? b = some o) → Q (.ref s.heap.objs.size) { s with heap := h', toks := tk }) :
    wpAny (model P w) A (call (.type "set") [.str x t]) Q E s := by
  have hz : x.cps.size = (signs x).length := by unfold signs; rw [List.length_map, Array.length_toList]
  refine set_made (.str x t) hh fun A' Z hA fin => ?_
  have hS : (s.heap.push (newSetObj w)).get? s.heap.objs.size = some (newSetObj w) := Heap.get?_push_size _ rfl
  have q1 := F.sub_str_set
  have q2 := F.sub_str_frozenset
  have q3 : (Value.type "str" == Value.type "dict") = false := by decide
  unfold Builtin.Frozenset.updateFrom
  generalize hPI : pyIter = PI
  wp_walk
  subst hPI
  refine wpAny_pyIter_str fun o St W hst => ?_
  refine wpAny_bind (wpAny_runValue ?_)
  have hA3 : A'.in1.handled = none := by simp [hA]
  have nf : s.heap.objs.size ∉ [(s.heap.push (newSetObj w)).objs.size] := by
    rw [Heap.size_push]; simp only [List.mem_singleton]
    exact Nat.ne_of_lt (Nat.lt_succ_self _)
  have hval : ∀ (i : Nat) (v : Value), SignAt x i v → ∃ k t, (signs x)[i]? = some k ∧ v = .str k t := fun i v ⟨c, u, hc, e⟩ => by
    refine ⟨⟨#[c]⟩, u, ?_, e⟩
    unfold signs
    rw [List.getElem?_map, Array.getElem?_toList, hc]
    rfl
  refine setT_loop ((W A'.in1 hA3).toS) s.heap.objs.size nf (signs x) hz (by rw [← hz]; exact hb) hval (x.cps.size - 0) 0 _ (by omega) (Nat.zero_le _)
    hst ⟨0, Nat.le_refl 0, setT_new_at (Heap.get?_push_of_some _ hS)⟩ fun s' c hm hc hM => ?_
  obtain ⟨h', g2, d', tk', os'⟩ := s'
  have eg : g2 = s.gens := hm.gens
  have ed : d' = s.drawn := hm.drawn
  have eo : os' = s.os := hm.os
  subst eg; subst ed; subst eo
  show wpAny _ _ _ _ _ _
  have k : ∀ b o, s.heap.get? b = some o → h'.get? b = some o := fun b o e => by
    have hb0 : b < s.heap.objs.size := Heap.lt_size e
    refine hm.heap b o ?_ (Heap.get?_push_of_some _ (Heap.get?_push_of_some _ e))
    rw [Heap.size_push]
    simp only [List.mem_cons, List.mem_singleton, List.not_mem_nil, or_false, not_or]
    exact ⟨Nat.ne_of_lt hb0, Nat.ne_of_lt (Nat.lt_succ_of_lt hb0)⟩
  exact wpAny_pure (fin h' tk' k (h h' tk' c hM hc k))
theorem sorted_setT {a : Addr} {M : Str → Bool} {n : Nat} {Q : Value → Shared → Prop} (R : SetT w s.heap a M n) (hh : A.handled = none)
    (hQ : ∀ s' p (out : Array Value) (c : Nat) (ks : List Str), (∀ b o, s.heap.get? b = some o → s'.heap.get? b = some o) → s'.gens = s.gens → s'.os = s.os → s.heap.objs.size ≤ p →
      s'.heap.get? p = some (seqObj "list" out c) → StrsAre out.toList ks → sortedS ks = true → ks.Nodup → (∀ k, k ∈ ks ↔ M k = true) → ks.length = n → Q (.ref p) s') :
    wpAny (model P w) A (call (.builtin "sorted") [.ref a]) Q E s := by
  obtain ⟨o, es, ep, t, ho, hex, hd, g, nd, hm, hb, hf, hn, hr, hl⟩ := R
  refine Calls.call_function_entry kind_sorted plain_sorted entry_sorted (args_sorted1 _) ?_
  unfold Builtin.«sorted»
  refine wpAny_bind (m := checkCount "sorted" 1 1 _) (wpAny_pure (wpAny_bind (collect_set (A := A.in1) hh ⟨o, ho, hex.1, hd⟩ hf hb hr hl fun s1 vs k1 hz g1 o1 pm => ?_)))
  have hvl : vs.length = n := by rw [pm.length_eq, List.length_map, Array.length_toList]; exact hn
  have hI : StrsAre vs (vs.map strOf) := strsAre_map vs fun v hv => by
    obtain ⟨e, he, q⟩ := List.mem_map.mp (pm.mem_iff.mp hv)
    obtain ⟨k, tk, h1, _⟩ := g e he
    exact ⟨k, tk, by rw [← q]; exact h1⟩
  have pk : (vs.map strOf).Perm (es.toList.map txOf) := by
    have q := pm.map strOf
    rw [List.map_map] at q
    exact q
  have hs : vs.length ≤ sizeLine := by
    have : scanBound = 4096 := rfl
    rw [sizeLine_eq, hvl, ← hn]
    omega
  refine wpAny_bind (wpAny_newList ?_ hs)
  have hoL : (s1.heap.push (seqObj "list" vs.toArray 0)).get? s1.heap.objs.size = some (seqObj "list" vs.toArray 0) := Heap.get?_push_size _ rfl
  refine wpAny_bind (wpAny_holding (wpAny_call_entry slot_list_sort ⟨_, hoL, rfl⟩ entry_list_sort (list_sort_treeKAny strKind_oneLt hoL hI.keysOf (fun v₁ v₂ rest e => keyKind_strs (by rw [← e]; exact hI)) hs fun st' hp ht => ⟨_, rfl, ?_⟩) (args_list_sort _)))
  obtain ⟨ss, h1, h2, h3⟩ := sorted_out_str hI hp ht
  obtain ⟨c, hc⟩ := sortedHeap_at (vs := vs) (out := (arrOf st').map (·.2)) hoL
  have pn : ss.Perm (es.toList.map txOf) := h2.trans pk
  refine wpAny_pure ⟨_, rfl, hQ _ s1.heap.objs.size _ c ss (fun b u e => ?_) g1 o1 hz hc h1 h3 (pn.nodup_iff.mpr nd) (fun k => by rw [pn.mem_iff, ← hm k]) ?_⟩
  · have q := k1 b u e
    have hlt := Heap.lt_size q
    show (sortedHeap (s1.heap.push (seqObj "list" vs.toArray 0)) s1.heap.objs.size vs _).get? b = some u
    rw [sortedHeap_old (Nat.ne_of_lt hlt) (by rw [size_push']; exact Nat.lt_succ_of_lt hlt)]
    exact Heap.get?_push_of_some _ q
  · rw [pn.length_eq, List.length_map, Array.length_toList]; exact hn
end
end N
set_option Elab.async false
set_option linter.all false
set_option maxRecDepth 100000
set_option maxHeartbeats 4000000
namespace N
open PySem PySem.Spec PyProof.Rows L2
def SetTO (w : World) (a : Addr) (M : Str → Bool) (n : Nat) : HO := .ext fun h => SetT w h a M n
theorem setTO_new {w : World} {P : Program} {H : Hp} {h : Heap} {a : Addr} {M : Str → Bool} {n : Nat} (R : SetT w h a M n) : ObjOk P w H h a (SetTO w a M n) :=
  ⟨R, (let ⟨o, _, _, _, ho, _⟩ := R; ⟨o, ho⟩), fun h1 h2 p k => SetT.at p k⟩
theorem setTO_get {X : Cx} {pins : List (Addr × Obj)} {σ : L2.St} {H : Hp} {s : Shared} {a : Addr} {M : Str → Bool} {n : Nat} (I : Inv X pins σ H s) (ha : H a = some (SetTO X.w a M n)) : SetT X.w s.heap a M n := (I.hok a _ ha).1
def rSetT (K : PySem.W.Frag) (w : World) : List V → Hp → VK → Prop := fun xs H Q => ∃ (v : V) (ks : List Str), xs = [v] ∧ ((∃ l, v = .ref l ∧ SqL K H l (ks.map V.str)) ∨ ∃ x, v = .str x ∧ ks = signs x) ∧ ks.length + 1 < 4096 ∧
  ∀ a c, c ≤ ks.length → H a = none → Q (.ref a) (upd H a (SetTO w a (fun j => decide (j ∈ ks)) c))
theorem cr_setT {X : Cx} (hc : X.calm = true) : CallR X (.type "set") (rSetT X.K X.w) := by
  intro pins s σ H xs us Q I r h
  obtain ⟨v, ks, rfl, hv, hz, q⟩ := h
  have hn : H s.heap.objs.size = none := I.hok.fresh (Nat.le_refl _)
  have fin : ∀ (h' : Heap) (tk c : Nat), SetT X.w h' s.heap.objs.size (fun j => decide (j ∈ ks)) c → c ≤ ks.length → (∀ b o, s.heap.get? b = some o → h'.get? b = some o) → EP X pins σ Q (.ref s.heap.objs.size) { s with heap := h', toks := tk } := fun h' tk c R hc' k =>
    ⟨.ref s.heap.objs.size, upd H s.heap.objs.size (SetTO X.w s.heap.objs.size (fun j => decide (j ∈ ks)) c), I.laid (t' := tk) k (Nat.le_refl _) (setTO_new R), rfl, q _ c hc' hn⟩
  rcases hv with ⟨l, rfl, hl⟩ | ⟨x, rfl, rfl⟩
  · rw [Vals.ref1 r]
    obtain ⟨its, rv, pl, hlen⟩ := I.list hl
    exact set_of_strs (P := X.prog) (w := X.w) ks (I.ok.hd hc) pl.isList (by simpa using rv.strs) hz fin
  · obtain ⟨u, rfl, rx⟩ := vals1 r
    obtain ⟨t, rfl⟩ := rx
    have e : (signs x).length = x.length := by unfold signs; rw [List.length_map, ← str_len]
    rw [e] at hz fin
    exact set_of_text (P := X.prog) (w := X.w) (I.ok.hd hc) hz fin
def rSortedT (w : World) : List V → Hp → VK → Prop := fun xs H Q => ∃ (a : Addr) (M : Str → Bool) (n : Nat), xs = [.ref a] ∧ H a = some (SetTO w a M n) ∧ n ≤ 5000 ∧
  ∀ (ks : List Str) (p : Addr), sortedS ks = true → ks.Nodup → (∀ k, k ∈ ks ↔ M k = true) → ks.length = n → H p = none → Q (.ref p) (upd H p (.lst (ks.map V.str)))
theorem cr_sortedT {X : Cx} (hc : X.calm = true) : CallR X (.builtin "sorted") (rSortedT X.w) := by
  intro pins s σ H vs us Q I r h
  obtain ⟨a, M, n, rfl, ha, hn, q⟩ := h
  have R := setTO_get I ha
  rw [Vals.ref1 r]
  refine sorted_setT R (I.ok.hd hc) fun s' p out c ks k g o hp hg hi hs hd hm hl => ?_
  have hlen : (ks.map V.str).length ≤ sizeLine := by rw [List.length_map, hl, sizeLine_eq]; omega
  have hf : H p = none := I.hok.fresh hp
  have J : Inv X pins σ (upd H p (.lst (ks.map V.str))) { s with heap := s'.heap, gens := s'.gens, drawn := s'.drawn, toks := s'.toks } :=
    I.call (ch := []) (Un.laid k hp hf) (I.hok.laid k hp ⟨hlen, out.toList, c, vals_of_strs hi, hg⟩) (by rw [g]; exact I.bare) (fun _ z => nomatch z)
  have e : s' = { s with heap := s'.heap, gens := s'.gens, drawn := s'.drawn, toks := s'.toks } := by
    cases s'
    cases s
    cases o
    rfl
  rw [e]
  exact ⟨.ref p, _, J, rfl, q ks p hs hd hm hl hf⟩
def insS (k : Str) : List Str → List Str
  | [] => [k]
  | m :: r => if k = m then m :: r else if ltS k m then k :: m :: r else m :: insS k r
def ascS (l : List Str) : List Str := l.foldr insS []
theorem mem_insS {k x : Str} : ∀ {l : List Str}, x ∈ insS k l ↔ x = k ∨ x ∈ l
  | [] => by simp [insS]
  | m :: r => by
    unfold insS
    split
    · rename_i e
      subst e
      simp
    · split
      · simp
      · rw [List.mem_cons, mem_insS, List.mem_cons]
        constructor
        · rintro (h | h | h)
          · exact .inr (.inl h)
          · exact .inl h
          · exact .inr (.inr h)
        · rintro (h | h | h)
          · exact .inr (.inl h)
          · exact .inl h
          · exact .inr (.inr h)
theorem mem_ascS {x : Str} : ∀ {l : List Str}, x ∈ ascS l ↔ x ∈ l
  | [] => by simp [ascS]
  | k :: l => by
    show x ∈ insS k (ascS l) ↔ _
    rw [mem_insS, mem_ascS, List.mem_cons]
def AscS (l : List Str) : Prop := l.Pairwise fun a b => ltS a b = true
theorem asc_insS {k : Str} : ∀ {l : List Str}, AscS l → AscS (insS k l)
  | [], _ => by simp [insS, AscS]
  | m :: r, h => by
    obtain ⟨h1, h2⟩ := List.pairwise_cons.mp h
    unfold insS
    split
    · exact h
    · rename_i ne
      split
      · rename_i lt
        refine List.pairwise_cons.mpr ⟨fun y hy => ?_, h⟩
        rcases List.mem_cons.mp hy with e | e
        · rw [e]
          exact lt
        · exact ltS_trans lt (h1 y e)
      · rename_i nl
        refine List.pairwise_cons.mpr ⟨fun y hy => ?_, asc_insS h2⟩
        rcases mem_insS.mp hy with e | e
        · rw [e]
          exact ltS_of (by simpa using nl) (fun q => ne q.symm)
        · exact h1 y e
theorem asc_ascS : ∀ l : List Str, AscS (ascS l)
  | [] => List.Pairwise.nil
  | k :: l => asc_insS (asc_ascS l)
theorem ascS_ext {l m : List Str} (h : AscS l) (k : AscS m) (e : ∀ x, x ∈ l ↔ x ∈ m) : l = m := asc_ext (lt := fun a b => ltS a b = true) (fun a => by rw [ltS_irrefl]; exact Bool.false_ne_true) (fun _ _ _ a b => ltS_trans a b) h k e
theorem ascS_of {l m : List Str} (h : AscS l) (e : ∀ x, x ∈ l ↔ x ∈ m) : l = ascS m := ascS_ext h (asc_ascS m) fun x => by rw [e, mem_ascS]
theorem ascS_sorted {l m : List Str} (hs : sortedS l = true) (nd : l.Nodup) (e : ∀ x, x ∈ l ↔ x ∈ m) : l = ascS m := ascS_of (sorted_all hs nd) e
theorem ascS_len (l : List Str) : (ascS l).length ≤ l.length := by
  have ins : ∀ (k : Str) (m : List Str), (insS k m).length ≤ m.length + 1 := fun k m => by
    induction m with
    | nil => simp [insS]
    | cons x r ih =>
      unfold insS
      split
      · simp
      · split
        · simp
        · simp only [List.length_cons]
          omega
  induction l with
  | nil => simp [ascS]
  | cons k l ih =>
    have := ins k (ascS l)
    show (insS k (ascS l)).length ≤ l.length + 1
    omega
section
variable {F : FmKit} {T : Kx} {C H H' O O' : Hp} {G : Gm} {W W' : Om} {R : D → Om → Prop} {d : D} {w : World} {te to : TE}
theorem den_strs (ks : List Str) : DenL F T H (ks.map D.str) (ks.map V.str) := by
  have := DenL.vls (F := F) (T := T) (H := H) (ks.map V.str)
  rw [List.map_map] at this
  exact this
theorem den_strs_inv {ks : List Str} {xs : List V} (kl : DenL F T H (ks.map D.str) xs) : xs = ks.map V.str := by
  rw [show ks.map D.str = (ks.map V.str).map D.vl by rw [List.map_map]; rfl] at kl
  exact DenL.vls_inv kl
theorem ca_setT {ks : List Str} (hv : Vl W d (ks.map D.str) ∨ ∃ x, d = .str x ∧ ks = signs x) (hz : ks.length < 4000) (r : ∀ p c, p ∉ akeys W → c ≤ ks.length → R (.adr p) ((p, .any (SetTO w p (fun j => decide (j ∈ ks)) c)) :: W)) : Ca F T (rSetT T.K w) [d] W R := ca_one fun C H O di oc ow x k Q q => by
  refine ⟨x, ks, rfl, ?_, by omega, fun p c hc hp => ?_⟩
  · rcases hv with hv | ⟨z, rfl, rfl⟩
    · obtain ⟨a, xs, e, hs, kl⟩ := hv.sq ow di k
      rw [den_strs_inv kl] at hs
      exact .inl ⟨a, e, hs⟩
    · exact .inr ⟨z, k, rfl⟩
  · obtain ⟨n2, e2, np⟩ := (Nx.refl (F := F) (T := T) di oc ow).newO (od := .any (SetTO w p (fun j => decide (j ∈ ks)) c)) (o := SetTO w p (fun j => decide (j ∈ ks)) c) hp rfl
    rw [e2]
    exact q _ _ H _ _ (r p c np hc) n2 rfl
theorem ca_sortedT {p : Addr} {ks : List Str} {c : Nat} (hn : c ≤ 5000) (r : R (.lst ((ascS ks).map D.str)) W) : Ca F T (rSortedT w) [.adr p] ((p, .any (SetTO w p (fun j => decide (j ∈ ks)) c)) :: W) R := ca_one fun C H O di oc ow x k Q q => by
  have k : x = .ref p := k
  have h1 : O p = some (SetTO w p (fun j => decide (j ∈ ks)) c) := (ow.at_ p _ List.mem_cons_self).2
  refine ⟨p, _, c, by rw [k], ov_own h1, hn, fun ys p2 hs nd hm hl hp2 => ?_⟩
  obtain ⟨n2, e2, s2⟩ := (Nx.refl (F := F) (T := T) di oc ow).newF (o := .lst (ys.map V.str)) hp2
  rw [e2]
  have e : ys = ascS ks := ascS_sorted hs nd fun x => by rw [hm]; simp
  refine q _ W _ _ _ r ⟨n2.ext, n2.dis, n2.oc, n2.own.tail⟩ ?_
  rw [e]
  exact ⟨p2, (ascS ks).map V.str, rfl, by rw [← e]; exact upd_same, den_strs _⟩
/-- sep.join(texts) -/
theorem ev_join (h : Ev F T to G W fun d W1 => ∃ a : Str, d = .str a ∧ Ev F T te G W1 fun d2 W2 => ∃ ys : List Str, Vs W2 d2 (ys.map D.str) ∧ (ys.map (·.length)).sum + ys.length * a.length ≤ 16777216 ∧ R (.str (Txt.join a ys)) W2) :
    Ev F T (tM1 (fun x xs H Q => ∃ a p, ∃ ys : List Str, x = .str a ∧ xs = [.ref p] ∧ (SqL T.K H p (ys.map V.str) ∨ SqT T.K H p (ys.map V.str)) ∧ (ys.map (·.length)).sum + ys.length * a.length ≤ 16777216 ∧ Q (.str (Txt.join a ys)) H) to te) G W R := fun C H O σ w Q q =>
  h C H O σ w _ fun d W1 H1 O1 x ⟨a, e, h1⟩ n1 k1 => by
    subst e
    have k1 : x = .str a := k1
    refine ⟨⟨a, k1⟩, h1 C H1 O1 σ (w.step n1) _ fun d2 W2 H2 O2 y ⟨ys, hv, hz, r⟩ n2 k2 => ?_⟩
    obtain ⟨p, xs, e, hs, kl⟩ := hv.sq n2.own n2.dis k2
    rw [den_strs_inv kl] at hs
    exact ⟨a, p, ys, k1, by rw [e], hs, hz, q _ W2 H2 O2 _ r (n1.trans n2) rfl⟩
end
theorem ltS_sign (a b : Nat) : ltS ⟨#[a]⟩ ⟨#[b]⟩ = decide (a < b) := by simp [ltS, ltCps]
def sg (c : Nat) : Str := ⟨#[c]⟩
theorem sg_inj {a b : Nat} (h : sg a = sg b) : a = b := by
  have : [a] = [b] := congrArg (fun z : Str => z.cps.toList) h
  exact (List.cons.inj this).1
theorem insS_sg (c : Nat) : ∀ l : List Nat, insS (sg c) (l.map sg) = (insN c l).map sg
  | [] => rfl
  | m :: r => by
    rw [List.map_cons, insS, insN]
    by_cases e : c = m
    · subst e
      rw [if_pos rfl, if_pos rfl]
      rfl
    · rw [if_neg (fun h => e (sg_inj h)), if_neg e]
      by_cases lt : c < m
      · rw [if_pos (by rw [show ltS (sg c) (sg m) = decide (c < m) from ltS_sign c m]; simpa using lt), if_pos lt]
        rfl
      · rw [if_neg (by rw [show ltS (sg c) (sg m) = decide (c < m) from ltS_sign c m]; simpa using lt), if_neg lt, insS_sg c r]
        rfl
theorem ascS_sg : ∀ l : List Nat, ascS (l.map sg) = (l.foldr insN []).map sg
  | [] => rfl
  | c :: l => by
    show insS (sg c) (ascS (l.map sg)) = _
    rw [ascS_sg l, insS_sg]
    rfl
theorem join_nil_sg : ∀ l : List Nat, Txt.join "" (l.map sg) = ⟨l.toArray⟩ := fun l => by
  rw [show Txt.join "" (l.map sg) = Str.join "" (l.map sg) from PySem.StrLaws.glued_eq_join _ _]
  induction l with
  | nil => rfl
  | cons a l ih =>
    cases l with
    | nil => rfl
    | cons b r =>
      show (sg a ++ ("" : Str) ++ Str.join "" ((b :: r).map sg)) = _
      rw [ih]
      refine str_ext ?_
      rw [str_app, str_app]
      rfl
theorem insN_mem {c x : Nat} : ∀ {l : List Nat}, x ∈ insN c l ↔ x = c ∨ x ∈ l
  | [] => by simp [insN]
  | m :: r => by
    unfold insN
    split
    · rename_i e
      subst e
      simp
    · split
      · simp
      · rw [List.mem_cons, insN_mem, List.mem_cons]
        constructor
        · rintro (h | h | h)
          · exact .inr (.inl h)
          · exact .inl h
          · exact .inr (.inr h)
        · rintro (h | h | h)
          · exact .inr (.inl h)
          · exact .inl h
          · exact .inr (.inr h)
def ascN (l : List Nat) : List Nat := l.foldr insN []
theorem mem_ascN {x : Nat} : ∀ {l : List Nat}, x ∈ ascN l ↔ x ∈ l
  | [] => by simp [ascN]
  | k :: l => by
    show x ∈ insN k (ascN l) ↔ _
    rw [insN_mem, mem_ascN, List.mem_cons]
theorem asc_insN {k : Nat} : ∀ {l : List Nat}, l.Pairwise (· < ·) → (insN k l).Pairwise (· < ·)
  | [], _ => by simp [insN]
  | m :: r, h => by
    obtain ⟨h1, h2⟩ := List.pairwise_cons.mp h
    unfold insN
    split
    · exact h
    · rename_i ne
      split
      · rename_i lt
        refine List.pairwise_cons.mpr ⟨fun y hy => ?_, h⟩
        rcases List.mem_cons.mp hy with e | e
        · rw [e]
          exact lt
        · exact Nat.lt_trans lt (h1 y e)
      · rename_i nl
        refine List.pairwise_cons.mpr ⟨fun y hy => ?_, asc_insN h2⟩
        rcases insN_mem.mp hy with e | e
        · rw [e]
          omega
        · exact h1 y e
theorem asc_ascN : ∀ l : List Nat, (ascN l).Pairwise (· < ·)
  | [] => List.Pairwise.nil
  | k :: l => asc_insN (asc_ascN l)
theorem ascN_ext {l m : List Nat} (h : l.Pairwise (· < ·)) (k : m.Pairwise (· < ·)) (e : ∀ x, x ∈ l ↔ x ∈ m) : l = m := asc_ext (fun a => Nat.lt_irrefl a) (fun _ _ _ a b => Nat.lt_trans a b) h k e
/-- the letters of a text -/
abbrev lets (x : Str) : List Nat := x.cps.toList
theorem unite_asc {x y : Str} (hx : (lets x).Pairwise (· < ·)) : (lets (unite x y)).Pairwise (· < ·) := by
  unfold unite
  split
  · exact hx
  · exact asc_ascN _
theorem mem_unite {x y : Str} {c : Nat} : c ∈ lets (unite x y) ↔ c ∈ lets x ∨ c ∈ lets y := by
  unfold unite
  split
  · rename_i e
    subst e
    exact ⟨.inl, fun h => h.elim id id⟩
  · show c ∈ ascN (lets x ++ lets y) ↔ _
    rw [mem_ascN, List.mem_append]
end N
set_option Elab.async false
set_option linter.all false
set_option maxRecDepth 100000
namespace N
open PySem PySem.Spec PyProof.Rows L2
open C8 (InsC)
/-- the class Formula as the top has made it -/
structure CZ (K : PySem.W.Frag) (C : Addr) (ns : List Str) : Prop where
  cls : Cls K C
  nos : ∀ n ∈ ns, NoAttr K C n
  ins : InsC K C
  sf : PySem.W.selfFirst K C = true
  ist : PySem.W.kitOne K (.type "str") (.ref C) = some false
abbrev FZ (K : PySem.W.Frag) (C : Addr) : Prop := CZ K C fmNames
inductive FldF : Str → Fm → D → Prop
  | kind (f : Fm) : FldF "kind" f (.str f.kind)
  | parts (f : Fm) : FldF "parts" f (.tup (partsD f))
  | many (f : Fm) : FldF "many" f (.int (f.many : Nat))
  | deep (f : Fm) : FldF "deepest" f (.int (f.deep : Nat))
  | atoms (f : Fm) : FldF "atoms" f (.str f.atoms)
  | bare (f : Fm) : FldF "bare" f (.str f.outer)
  | spell (f : Fm) : FldF "spelled" f (.str f.spell)
  | alls (f : Fm) : FldF "alls_known" f (.tup (f.alls.map .fm))
theorem FldF.look {n : Str} {f : Fm} {z : D} (h : FldF n f z) : n ∈ fmNames ∧ (fmNames.zip (fmVals FK f)).lookup n = some z := by
  cases h <;> exact ⟨by decide +kernel, rfl⟩
section
variable {T : Kx} {C H H' O O' : Hp} {G : Gm} {W W' : Om} {σ : L2.St} {a p : Addr} {d : D} {l : List D} {ta : TE} {R : D → Om → Prop}
theorem ev_fmF {n : Str} (zf : FZ T.K (T.cl 0)) (h : Ev FK T ta G W fun d W1 => ∃ f z, d = .fm f ∧ FldF n f z ∧ R z W1) : Ev FK T (tFld T.K ta n) G W R :=
  ev_fld (h.imp fun d W1 ⟨f, z, e, k, r⟩ => by
    subst e
    exact ⟨0, fmNames, fmVals FK f, z, .fm f, zf.cls, zf.nos n k.look.1, k.look.2, r⟩)
/-- something with a text -/
def Spl (W : Om) (d : D) (g : Fm) : Prop := ∃ ns l, Inst FK W d 0 ns l ∧ (ns.zip l).lookup ("spelled" : Str) = some (.str g.spell)
theorem spl_fm (f : Fm) : Spl W (.fm f) f := ⟨_, _, .fm f, (FldF.spell f).look.2⟩
theorem Spl.up {W2 : Om} {g : Fm} (h : Spl W d g) (s : ∀ x ∈ W, x ∈ W2) : Spl W2 d g := by
  obtain ⟨ns, l, i, e⟩ := h
  refine ⟨ns, l, ?_, e⟩
  cases i with
  | fm f => exact .fm f
  | obj c ns l => exact .obj _ _ _
  | own a c ns l m => exact .own _ _ _ _ (s _ m)
theorem ev_spl {g : Fm} (zf : FZ T.K (T.cl 0)) (h : Ev FK T ta G W fun d W1 => Spl W1 d g ∧ R (.str g.spell) W1) : Ev FK T (tFld T.K ta "spelled") G W R :=
  ev_fld (h.imp fun d W1 ⟨⟨ns, l, i, e⟩, r⟩ => ⟨0, ns, l, _, i, zf.cls, zf.nos "spelled" (by decide +kernel), e, r⟩)
end
namespace Fm
theorem nodup_asc {l : List Fm} (h : asc l) : l.Nodup := h.imp fun {a b} k e => by
  subst e
  exact ltF_irrefl _ k
theorem len_le {l m : List Fm} (h : l.Nodup) (s : ∀ x ∈ l, x ∈ m) : l.length ≤ m.length := by
  induction l generalizing m with
  | nil => exact Nat.zero_le _
  | cons a l ih =>
    rw [List.nodup_cons] at h
    obtain ⟨p, q, e⟩ := List.append_of_mem (s a List.mem_cons_self)
    subst e
    have := ih (m := p ++ q) h.2 fun x hx => by
      have h1 := s x (List.mem_cons_of_mem _ hx)
      rw [List.mem_append, List.mem_cons] at h1
      rw [List.mem_append]
      rcases h1 with h1 | h1 | h1
      · exact .inl h1
      · subst h1
        exact absurd hx h.1
      · exact .inr h1
    simp at this ⊢
    omega
theorem asc_len {l : List Nat} {lo n : Nat} (h : l.Pairwise (· < ·)) (b : ∀ x ∈ l, lo ≤ x ∧ x < lo + n) : l.length ≤ n := by
  have nd : l.Nodup := h.imp fun q e => by omega
  have key : ∀ (l m : List Nat), l.Nodup → (∀ x ∈ l, x ∈ m) → l.length ≤ m.length := fun l => by
    induction l with
    | nil => intros; exact Nat.zero_le _
    | cons a l ih =>
      intro m h s
      rw [List.nodup_cons] at h
      obtain ⟨p, q, e⟩ := List.append_of_mem (s a List.mem_cons_self)
      subst e
      have := ih (p ++ q) h.2 fun x hx => by
        have h1 := s x (List.mem_cons_of_mem _ hx)
        rw [List.mem_append, List.mem_cons] at h1
        rw [List.mem_append]
        rcases h1 with h1 | h1 | h1
        · exact .inl h1
        · subst h1
          exact absurd hx h.1
        · exact .inr h1
      simp at this ⊢
      omega
  have := key l (List.range' lo n) nd fun x hx => by
    rw [List.mem_range'_1]
    exact b x hx
  simpa using this
theorem atoms_asc : ∀ f : Fm, (lets f.atoms).Pairwise (· < ·)
  | .at c => List.pairwise_singleton _ _
  | .no => List.Pairwise.nil
  | .imp a b => unite_asc (atoms_asc a)
  | .all a => atoms_asc a
theorem outer_asc : ∀ f : Fm, (lets f.outer).Pairwise (· < ·)
  | .at c => List.pairwise_singleton _ _
  | .no => List.Pairwise.nil
  | .imp a b => unite_asc (outer_asc a)
  | .all a => List.Pairwise.nil
theorem atoms_lets : ∀ {f : Fm}, f.okL → ∀ c ∈ lets f.atoms, (65 ≤ c ∧ c ≤ 90) ∨ (97 ≤ c ∧ c ≤ 122)
  | .at d, h, c, hc => by
    have : c = d := List.mem_singleton.mp hc
    subst this
    exact h
  | .no, _, c, hc => by cases hc
  | .imp a b, h, c, hc => (mem_unite.mp hc).elim (atoms_lets h.1 c) (atoms_lets h.2 c)
  | .all a, h, c, hc => atoms_lets (f := a) h c hc
theorem outer_sub : ∀ {f : Fm}, ∀ c ∈ lets f.outer, c ∈ lets f.atoms
  | .at d, c, hc => hc
  | .no, c, hc => hc
  | .imp a b, c, hc => mem_unite.mpr ((mem_unite.mp hc).imp (outer_sub c) (outer_sub c))
  | .all a, c, hc => by cases hc
theorem atoms_len {f : Fm} (h : f.okL) : f.atoms.length ≤ 58 := by
  rw [str_len]
  exact asc_len (atoms_asc f) (lo := 65) fun x hx => by
    have := atoms_lets h x hx
    omega
theorem outer_len {f : Fm} (h : f.okL) : f.outer.length ≤ 58 := by
  rw [str_len]
  exact asc_len (outer_asc f) (lo := 65) fun x hx => by
    have := atoms_lets h x (outer_sub x hx)
    omega
/-- small enough for the walk -/
structure okF (f : Fm) : Prop where
  ok : f.okL
  sz : f.sz ≤ 1000000
  alls : f.alls.length < 64
theorem okF.l {a b : Fm} (h : okF (.imp a b)) : okF a := ⟨h.ok.1, by have := h.sz; unfold Fm.sz at this; omega, Nat.lt_of_le_of_lt (len_le (nodup_asc (alls_sub h.ok.1).2) fun x hx => mem_merge.mpr (.inl hx)) h.alls⟩
theorem okF.r {a b : Fm} (h : okF (.imp a b)) : okF b := ⟨h.ok.2, by have := h.sz; unfold Fm.sz at this; omega, Nat.lt_of_le_of_lt (len_le (nodup_asc (alls_sub h.ok.2).2) fun x hx => mem_merge.mpr (.inr hx)) h.alls⟩
theorem okF.a {a : Fm} (h : okF (.all a)) : okF a := ⟨h.ok, by have := h.sz; unfold Fm.sz at this; omega, Nat.lt_of_le_of_lt (len_le (nodup_asc (alls_sub (f := a) h.ok).2) fun x hx => mem_merge.mpr (.inl hx)) h.alls⟩
end Fm
theorem kind_at {f : Fm} : f.kind = ("atom" : Str) ↔ ∃ c, f = .at c := by
  cases f with
  | «at» c => exact ⟨fun _ => ⟨c, rfl⟩, fun _ => rfl⟩
  | no => exact ⟨fun h => absurd h (by decide +kernel), fun ⟨c, h⟩ => by cases h⟩
  | imp a b => exact ⟨fun h => absurd (show ("if" : Str) = "atom" from h) (by decide +kernel), fun ⟨c, h⟩ => by cases h⟩
  | all a => exact ⟨fun h => absurd (show ("all" : Str) = "atom" from h) (by decide +kernel), fun ⟨c, h⟩ => by cases h⟩
theorem parts_fm : ∀ {f : Fm}, (∀ c, f ≠ .at c) → ∀ d ∈ partsD f, ∃ g, d = .fm g
  | .at c, h, _, _ => absurd rfl (h c)
  | .no, _, d, h => by simp [partsD] at h
  | .imp a b, _, d, h => by
    simp [partsD] at h
    rcases h with h | h
    · exact ⟨a, h⟩
    · exact ⟨b, h⟩
  | .all a, _, d, h => by
    simp [partsD] at h
    exact ⟨a, h⟩
section
variable {T : Kx} {x : Addr} {n : Str} {z : D} {ns : List Str} {l : List D} {R : Om → Prop}
theorem rcv_new (zf : FZ T.K (T.cl 0)) (hn : n ∈ fmNames) (h : n ∉ ns) (hl : ns.length < 1000) (r : R [(x, .ins 0 (ns ++ [n]) (l ++ [z]))]) : Rcv FK T (.adr x) z n [(x, .ins 0 ns l)] R :=
  ⟨x, 0, ns, l, [], [], _, _, rfl, rfl, zf.cls, zf.nos n hn, hl, .new ns l h, r⟩
theorem rcv_at (j : Nat) (zf : FZ T.K (T.cl 0)) (hn : n ∈ fmNames) (h : ns.Nodup) (hj : ns[j]? = some n) (hl : ns.length < 1000) (r : R [(x, .ins 0 ns (l.set j z))]) : Rcv FK T (.adr x) z n [(x, .ins 0 ns l)] R :=
  ⟨x, 0, ns, l, [], [], _, _, rfl, rfl, zf.cls, zf.nos n hn, hl, .at ns l j h hj, r⟩
end
theorem allsD_of {x : Addr} {f : Fm} : ∀ {e : List (D × Fm)}, (∀ p ∈ e, p.1 = .fm p.2 ∨ (p.1 = .adr x ∧ p.2 = f)) → AllsD x f (e.map (·.1)) (e.map (·.2))
  | [], _ => rfl
  | p :: e, h => ⟨p.2, _, rfl, h p List.mem_cons_self, allsD_of fun q hq => h q (List.mem_cons_of_mem _ hq)⟩
theorem fm_map (l : List Fm) : (l.map fun g => (D.fm g, g)).map (·.1) = l.map .fm := by rw [List.map_map]; rfl
theorem fm_map2 (l : List Fm) : (l.map fun g => (D.fm g, g)).map (·.2) = l := by rw [List.map_map]; exact List.map_id l
theorem max_int (m n : Nat) : (if (n : Int) > (m : Int) then (n : Int) else (m : Int)) = ((max m n : Nat) : Int) := by
  split <;> omega
theorem empty_app (x : Str) : Str.empty ++ x = x := str_ext (by rw [str_app]; rfl)
@[reducible] def kvE (l : List (D × Fm)) : List (Key × D) := l.map fun p => (Sum.inr p.2.spell, p.1)
theorem kvE_keys (l : List (D × Fm)) : (kvE l).map (·.1) = (l.map fun p => p.2.spell).map Sum.inr := by simp [kvE]
theorem getG_kvE : ∀ {l : List (D × Fm)} {p : D × Fm}, p ∈ l → (l.map fun p => p.2.spell).Nodup → getG (kvE l) (Sum.inr p.2.spell) = some p.1
  | [], p, h, _ => by simp at h
  | q :: l, p, h, nd => by
    rw [List.map_cons, List.nodup_cons] at nd
    unfold getG kvE
    rw [List.map_cons, List.find?_cons]
    by_cases e : (Sum.inr q.2.spell : Key) = Sum.inr p.2.spell
    · simp only [e, decide_true, Option.map_some]
      rcases List.mem_cons.mp h with h | h
      · rw [h]
      · refine absurd (List.mem_map.mpr ⟨p, h, ?_⟩) nd.1
        exact (Sum.inr.inj e).symm
    · simp only [e, decide_false]
      rcases List.mem_cons.mp h with h | h
      · exact absurd (by rw [h]) e
      · exact getG_kvE h nd.2
theorem put_kvE {l : List (D × Fm)} {d : D} {g : Fm} (ol : ∀ p ∈ l, p.2.okL) (og : g.okL) : ∃ l', putG (kvE l) (Sum.inr g.spell) d = kvE l' ∧ (∀ p ∈ l', p ∈ l ∨ p = (d, g)) ∧ (∀ x ∈ l.map (·.2), x ∈ l'.map (·.2)) ∧ g ∈ l'.map (·.2) ∧ l'.length ≤ l.length + 1 := by
  unfold putG
  split
  · rename_i ha
    refine ⟨l.map fun q => if q.2.spell = g.spell then (d, q.2) else q, ?_, fun p hp => ?_, fun x hx => ?_, ?_, by simp⟩
    · simp only [kvE, List.map_map]
      refine List.map_congr_left fun q hq => ?_
      by_cases e : q.2.spell = g.spell
      · simp [Function.comp, e]
      · simp [Function.comp, e]
    · obtain ⟨q, hq, e⟩ := List.mem_map.mp hp
      by_cases h : q.2.spell = g.spell
      · rw [if_pos h] at e
        rw [Fm.spell_inj (ol q hq) og h] at e
        exact .inr e.symm
      · rw [if_neg h] at e
        subst e
        exact .inl hq
    · obtain ⟨q, hq, e⟩ := List.mem_map.mp hx
      refine List.mem_map.mpr ⟨_, List.mem_map.mpr ⟨q, hq, rfl⟩, ?_⟩
      split
      · exact e
      · exact e
    · rw [List.any_eq_true] at ha
      obtain ⟨z, hz, e⟩ := ha
      obtain ⟨q, hq, e2⟩ := List.mem_map.mp hz
      subst e2
      have e := Sum.inr.inj (of_decide_eq_true e)
      refine List.mem_map.mpr ⟨_, List.mem_map.mpr ⟨q, hq, rfl⟩, ?_⟩
      rw [if_pos e]
      exact Fm.spell_inj (ol q hq) og e
  · refine ⟨l ++ [(d, g)], by simp [kvE], fun p hp => ?_, fun x hx => ?_, by simp, by simp⟩
    · rcases List.mem_append.mp hp with h | h
      · exact .inl h
      · exact .inr (List.mem_singleton.mp h)
    · rw [List.map_append]
      exact List.mem_append_left _ hx
theorem merge_of {l m : List Fm} {e : List (D × Fm)} (hl : l ≠ []) (hm : m ≠ []) (ol : ∀ x ∈ l ++ m, x.okL) (hs : sortedS (e.map fun p => p.2.spell) = true) (nd : (e.map fun p => p.2.spell).Nodup) (h : ∀ x, x ∈ e.map (·.2) ↔ x ∈ l ++ m) : e.map (·.2) = Fm.merge l m := by
  unfold Fm.merge
  rw [if_neg hl, if_neg hm]
  refine Fm.asc_eq ?_ (Fm.asc_fold ol) fun x => by rw [h x, Fm.mem_fold]
  have := sorted_all hs nd
  rw [List.pairwise_map] at this
  unfold Fm.asc
  rw [List.pairwise_map]
  exact this
def isLet (x : Str) : Bool := match lets x with
  | [c] => decide ((65 ≤ c ∧ c ≤ 90) ∨ (97 ≤ c ∧ c ≤ 122))
  | _ => false
theorem isLet_sg (c : Nat) : isLet (sg c) = decide ((65 ≤ c ∧ c ≤ 90) ∨ (97 ≤ c ∧ c ≤ 122)) := rfl
theorem isLet_long {x : Str} (h : x.length ≠ 1) : isLet x = false := by
  unfold isLet
  split
  · rename_i c e
    rw [str_len, show x.cps.toList = [c] from e] at h
    exact absurd rfl h
  · rfl
theorem one_sign {x : Str} (h : x.length = 1) : ∃ c, x = sg c := by
  rw [str_len] at h
  match e : x.cps.toList, h with
  | [c], _ => exact ⟨c, str_ext e⟩
theorem in_letters (c : Nat) : decide (c ∈ ("ABCDEFGHIJKLMNOPQRSTUVWXYZabcdefghijklmnopqrstuvwxyz" : Str).cps.toList) = isLet (sg c) := by
  rw [isLet_sg]
  have e : ("ABCDEFGHIJKLMNOPQRSTUVWXYZabcdefghijklmnopqrstuvwxyz" : Str).cps.toList = List.range' 65 26 ++ List.range' 97 26 := by decide +kernel
  rw [e]
  congr 1
  rw [List.mem_append, List.mem_range'_1, List.mem_range'_1]
  simp only [eq_iff_iff]
  omega
def S_isatom : FS := fun ds W post => ∃ x : Str, ds = [.str x] ∧ W = [] ∧ x.length ≤ 16777216 ∧ post (.bl (isLet x)) []
def S_united : FS := fun ds W post => ∃ x y : Str, ds = [.str x, .str y] ∧ x.length + y.length < 4000 ∧ W = [] ∧ post (.str (unite x y)) []
def S_merged : FS := fun ds W post => ∃ e1 e2 : List (D × Fm), ds = [.tup (e1.map (·.1)), .tup (e2.map (·.1))] ∧ (∀ p ∈ e1 ++ e2, p.2.okL ∧ Spl W p.1 p.2) ∧ e1.length < 64 ∧ e2.length < 64 ∧ (Fm.merge (e1.map (·.2)) (e2.map (·.2))).length < 64 ∧
  ∀ e' : List (D × Fm), e'.map (·.2) = Fm.merge (e1.map (·.2)) (e2.map (·.2)) → (∀ p ∈ e', p ∈ e1 ++ e2) → post (.tup (e'.map (·.1))) W
def S_init : FS := fun ds W post => ∃ (x : Addr) (f : Fm), ds = [.adr x, .str f.kind, .tup (partsD f)] ∧ W = [(x, .ins 0 [] [])] ∧ f.okF ∧
  ∀ al, AllsD x f al f.alls → post .non [(x, .ins 0 fmNames [.str f.kind, .tup (partsD f), .int (f.many : Nat), .int (f.deep : Nat), .str f.atoms, .str f.outer, .str f.spell, .tup al])]
end N
set_option Elab.async false
set_option linter.all false
set_option maxRecDepth 100000
namespace N
open PySem PySem.Spec PyProof.Rows L2
theorem relV_ref (a : Addr) : RelV (.ref a) (.ref a) := rfl
theorem relV_ty (s : String) : RelV (.ty s) (.type s) := rfl
section
variable {X : Cx} {K : PySem.W.Frag}
theorem pe_fldK {e : Expr} {f : Str} {pos : Pos} {ta : TE} (hK : X.K = K) (h : PE X e ta) (hb : attributeBase e f X.env (eval e X.env) = eval e X.env) : PE X (e.Attribute f pos) (tFld K ta f) := hK ▸ pe_fld h hb
theorem ix_listK (hK : X.K = K) : IxR X (rIxL K) := hK ▸ ix_list
theorem ix_tupK (hK : X.K = K) : IxR X (rIxT K) := hK ▸ ix_tup
theorem op_in_seqK (hK : X.K = K) : OpR X (compareOp .In) (rIn K false) := hK ▸ op_in_seq
theorem pg_tupK {pos : Pos} {es : List Expr} {k : Nat} {t : TGs} {n : Nat} (hK : X.K = K) (hc : X.calm = true) (h : PGs X es t) (h1 : (assignEach es X.env).length = n := by rfl) (h2 : List.findIdx? (fun x => x.1) (assignEach es X.env) = none := by rfl) : PG X (Expr.Tuple es k pos) (gTup K n t) := hK ▸ pg_tup hc h h1 h2
end
def tIfT (tc ta tb : TT) : TT := fun σ H Q => tc σ H fun c H1 => if c = true then ta σ H1 Q else tb σ H1 Q
theorem pt_ifE {X : Cx} {c a b : Expr} {tc ta tb : TT} {pos : Pos} (hc : PT X c tc) (ha : PT X a ta) (hb : PT X b tb) : PT X (.IfExp c a b pos) (tIfT tc ta tb) := by
  refine ⟨fun pins s σ H Q I h => ?_⟩
  rw [PySem.arm_isTrue_IfExp]
  refine wpAny_bind (thn (hc.run pins s σ H _ I h) fun d s1 ⟨H1, I1, q1⟩ => ?_)
  cases d with
  | true => exact ha.run pins s1 σ H1 Q I1 q1
  | false => exact hb.run pins s1 σ H1 Q I1 q1
theorem et_ifE {F : FmKit} {T : Kx} {tc ta tb : TT} {G : Gm} {W : Om} {S : Bool → Om → Prop} (h : EvT F T tc G W fun c W1 => if c = true then EvT F T ta G W1 S else EvT F T tb G W1 S) : EvT F T (tIfT tc ta tb) G W S := fun C H O σ w Q q =>
  h C H O σ w _ fun c W1 H1 O1 s n => by
    cases c with
    | true => exact s C H1 O1 σ (w.step n) _ fun b W2 H2 O2 s2 n2 => q b W2 H2 O2 s2 (n.trans n2)
    | false => exact s C H1 O1 σ (w.step n) _ fun b W2 H2 O2 s2 n2 => q b W2 H2 O2 s2 (n.trans n2)
end N
set_option Elab.async false
set_option linter.all false
set_option maxRecDepth 100000
namespace N
open PySem PySem.Spec PyProof.Rows L2
open C8 (InsC Cal)
namespace Fm
abbrev neg (f : Fm) : Fm := .imp f .no
abbrev conj (f g : Fm) : Fm := neg (.imp f (neg g))
abbrev disj (f g : Fm) : Fm := .imp (neg f) g
end Fm
section
variable {T : Kx} {C H H' O O' : Hp} {G : Gm} {W W' : Om} {σ : L2.St} {a p : Addr} {d : D} {l : List D} {ta : TE} {tr : TA} {R : D → Om → Prop} {S : FS} {E : XK}
/-- Formula(kind, ..) -/
theorem ev_mkF (h : EvA FK T tr G W fun ds W1 => ∃ f : Fm, ds = .str f.kind :: partsD f ∧ f.okF ∧ R (.fm f) W1) : Ev FK T (StX.tMakeR (T.cl 0) (spN FK T (starS 2 S_init)) E tr) G W R :=
  ev_fz (ev_makeR (fun C H O σ w Q q => h C H O σ w Q fun ds W1 H1 O1 vs ⟨f, e, hf, r⟩ n k => q ds W1 H1 O1 vs (fun x hx => by
    subst e
    refine ⟨[(x, .ins 0 [] [])], W1, List.Perm.refl _, by simp, ?_, x, f, rfl, rfl, hf, fun al ha => ⟨rfl, x, _, W1, .fm f, rfl, List.Perm.refl _, .fm f al ha, r⟩⟩
    have : (partsD f).length ≤ 2 := by cases f <;> simp [partsD]
    simp
    omega) n k))
theorem ev_inv (h : Ev FK T ta G W fun d W1 => ∃ f, d = .fm f ∧ Hand S [.fm f] W1 R) : Ev FK T (tUn (rOwn1 (T.cl 0) (spN FK T S) E) ta) G W R :=
  ev_un (h.imp fun d W1 ⟨f, e, hh⟩ => by
    subst e
    exact ca_own1 (.fm f) hh)
theorem bo_fm2 {f g : Fm} (h : Hand S [.fm f, .fm g] W R) : Bo FK T (rOwn2 (T.cl 0) (spN FK T S) E) (.fm f) (.fm g) W R := bo_own (.fm f) (.fm g) h
theorem ca_strF {f : Fm} (h : Hand S [.fm f] W fun d' W' => (∃ z, d' = .str z) ∧ R d' W') : Ca FK T (rStrO (T.cl 0) (spN FK T S)) [.fm f] W R := ca_strO (.fm f) h
theorem ev_prpF (h : Ev FK T ta G W fun d W1 => ∃ f, d = .fm f ∧ Hand S [.fm f] W1 R) : Ev FK T (tProp (T.cl 0) (spN FK T S) [] E ta) G W R :=
  ev_prop (h.imp fun d W1 ⟨f, e, hh⟩ => by
    subst e
    exact ⟨_, _, .fm f, hh⟩)
theorem ca_strS {s : Str} (h : R (.str s) W) : Ca FK T (fun xs H Q => ∃ a, xs = [.str a] ∧ Q (.str a) H) [.str s] W R := cl_sc (xs := [.str s]) fun H Q k => ⟨s, rfl, k _ h⟩
theorem ev_isN_fm {f : Fm} (h : Ev FK T ta G W fun d W1 => d = .fm f ∧ R (.bl false) W1) : Ev FK T (tIsN ta) G W R :=
  ev_isN (h.imp fun d W1 ⟨e, r⟩ => ⟨false, fun H v k => by
    subst e
    obtain ⟨a, e, _⟩ := k
    subst e
    rfl, r⟩)
end
/-- a property by the promise of its getter -/
structure Prp (P : Program) (w : World) (K : PySem.W.Frag) (mg : Str → Option Value) (base : Heap) (k : Nat) (C : Addr) (m : Str) (sp : Sp) : Prop where
  ex : ∃ (p g : Addr) (fd : FuncData) (ps : List Str), PropOf K C m p g ∧ FnOk P w K mg base C8.CX0 k g fd ps sp ∧ Binds K fd ps []
theorem prpD {P : Program} {w : World} {K : PySem.W.Frag} {mg : Str → Option Value} {base : Heap} {F : FmKit} {cl : Nat → Addr} {S : FS} {m qual : Str} {C p : Addr} {st : Stmt} {f : Addr} {fd : FuncData} {N ps : List Str} {k : Nat} (o : PropOf K C m p f) (Fn : Fun K m qual st f fd) (Sc : FnScope N ps (defScope st)) (len : ∀ ds W post, S ds W post → ds.length = ps.length)
    (hb : ∀ (kV doc pm : Value) (an : Option Addr) (cdv ct : Value) (us : List Value), us.length = ps.length → bindArgs (PySem.W.fnOf m qual (defArgs st) (defBody st) (defScope st) .none kV doc pm an cdv ct) ⟨us, []⟩ = pure (ps.zip us))
    (body : ∀ (cdv : Value) (A : Around) (outer : List Env) (s : Shared) (H : Hp) (E : XK), Room k (A.deeper (envOfC qual (defScope st) s.heap.objs.size f cdv)) →
      ∃ t, PSs (cxOf C8.CX0 P w K mg base N qual (defScope st) f cdv A outer s H E).nox (defBody st) t ∧ ∀ ds W post, S ds W post → Sw F ⟨K, cl⟩ t (startD N ds) W (E_ post)) : Prp P w K mg base (k + 1) C m (spN F ⟨K, cl⟩ S) :=
  ⟨p, f, fd, ps, o, okD Fn Sc len body, Fn.binds hb⟩
theorem pe_prp {X : Cx} {k j : Nat} {C : Addr} {f : Str} {sp : Sp} {e : Expr} {pos : Pos} {ta : TE} (c : Prp X.prog X.w X.K X.mg X.base k C f sp) (cls : Cls X.K C) (hr : Room j X.A) (hk : k + 1 ≤ j) (he : PE X e ta) (hab : attributeBase e f X.env (eval e X.env) = eval e X.env := by rfl) :
    PE X (e.Attribute f pos) (tProp C sp [] E0 ta) := by
  obtain ⟨p, g, fd, ps, o, h, b⟩ := c.ex
  exact pe_prop he cls o h (hr.mono hk) b .nil pass0 hab
def S_no : FS := fun ds W post => ds = [] ∧ W = [] ∧ post (.fm .no) []
def S_every : FS := fun ds W post => ∃ f : Fm, ds = [.fm f] ∧ W = [] ∧ (Fm.all f).okF ∧ post (.fm (.all f)) []
def S_inv : FS := fun ds W post => ∃ f : Fm, ds = [.fm f] ∧ W = [] ∧ (Fm.neg f).okF ∧ post (.fm (Fm.neg f)) []
def S_and : FS := fun ds W post => ∃ f g : Fm, ds = [.fm f, .fm g] ∧ W = [] ∧ (Fm.conj f g).okF ∧ post (.fm (Fm.conj f g)) []
def S_or : FS := fun ds W post => ∃ f g : Fm, ds = [.fm f, .fm g] ∧ W = [] ∧ (Fm.disj f g).okF ∧ post (.fm (Fm.disj f g)) []
/-- a formula, or the atom of a letter -/
def Opd (d : D) (f : Fm) : Prop := d = .fm f ∨ ∃ c, ((65 ≤ c ∧ c ≤ 90) ∨ (97 ≤ c ∧ c ≤ 122)) ∧ d = .str (sg c) ∧ f = .at c
def S_opd : FS := fun ds W post => ∃ (d : D) (f : Fm), ds = [d] ∧ W = [] ∧ Opd d f ∧ post (.fm f) []
def S_alls : FS := fun ds W post => ∃ f : Fm, ds = [.fm f] ∧ W = [] ∧ post (.tup (f.alls.map .fm)) []
def S_str : FS := fun ds W post => ∃ f : Fm, ds = [.fm f] ∧ W = [] ∧ post (.str f.spell) []
end N
set_option Elab.async false
set_option linter.all false
set_option maxRecDepth 100000
namespace N
open PySem PySem.Spec PyProof.Rows L2
section
variable {F : FmKit} {T : Kx} {C H H' O O' : Hp} {G : Gm} {W W' : Om} {R : D → Om → Prop} {d : D}
theorem bo_inSg {c : Nat} {z : Str} (r : R (.bl (decide (c ∈ z.cps.toList))) W) : Bo F T (fun x y H Q => ∃ (c : Nat) (z : Str), x = .str ⟨#[c]⟩ ∧ y = .str z ∧ Q (.bl (decide (c ∈ z.cps.toList))) H) (.str (sg c)) (.str z) W R := op_sc fun H Q k => ⟨c, z, rfl, rfl, k _ r⟩
theorem isi_strF {s : Str} {c : Nat} {ns : List Str} (z : CZ T.K (T.cl c) ns) (r : R (.bl false) W) : Ca F T (rIsi T.K) [.str s, .adr (T.cl c)] W R := ca_isi (.own _) tyd_str z.ist r
end
end N
set_option Elab.async false
set_option linter.all false
set_option maxRecDepth 100000
namespace N
open PySem PySem.Spec PyProof.Rows L2
open C8 (Cal)
structure Ok1 (k n : Nat) (d : PyData) : Prop where
  lv : PyData.leavesShort 13 d = true
  sh : d.showable = true
  nd : d.hasDict = false
  dp : d.depth ≤ k
  wt : d.weight ≤ n
theorem Ok1.up {k n k' n' : Nat} {d : PyData} (h : Ok1 k n d) (hk : k ≤ k') (hn : n ≤ n') : Ok1 k' n' d := ⟨h.lv, h.sh, h.nd, Nat.le_trans h.dp hk, Nat.le_trans h.wt hn⟩
/-- data one behind the other -/
structure OkL (k n : Nat) (l : List PyData) : Prop where
  lv : PyData.leavesShortAll 13 l = true
  sh : PyData.showableAll l = true
  nd : PyData.hasDictAll l = false
  dp : PyData.depthAll l ≤ k
  wt : PyData.weightAll l ≤ n
theorem OkL.lst {k n : Nat} {l : List PyData} (h : OkL k n l) : Ok1 (k + 1) n (.list l) := by
  refine ⟨by simp [PyData.leavesShort, h.lv], by simp [PyData.showable, h.sh], by simp [PyData.hasDict, h.nd], ?_, ?_⟩
  · have := h.dp
    simp only [PyData.depth]
    omega
  · have := h.wt
    simp only [PyData.weight]
    omega
theorem OkL.tup {k n : Nat} {l : List PyData} (h : OkL k n l) : Ok1 (k + 1) n (.tuple l) := by
  refine ⟨by simp [PyData.leavesShort, h.lv], by simp [PyData.showable, h.sh], by simp [PyData.hasDict, h.nd], ?_, ?_⟩
  · have := h.dp
    simp only [PyData.depth]
    omega
  · have := h.wt
    simp only [PyData.weight]
    omega
theorem OkL.up {k n k' n' : Nat} {l : List PyData} (h : OkL k n l) (hk : k ≤ k') (hn : n ≤ n') : OkL k' n' l := ⟨h.lv, h.sh, h.nd, Nat.le_trans h.dp hk, Nat.le_trans h.wt hn⟩
structure CalK (P : Program) (w : World) (K : PySem.W.Frag) (mg : Str → Option Value) (base : Heap) (k : Nat) (x : Str) (ks : List Str) (gV : List V → List V → List V) (sp : Sp) : Prop where
  ex : ∃ (f : Addr) (fd : FuncData) (ps : List Str) (g : List Value → List Value → List Value), FnOk P w K mg base CX0 k f fd ps sp ∧ mg x = some (.ref f) ∧ PySem.W.keepIn K (.ref f) = true ∧ KBn K fd ps 0 ks g gV
theorem kb_of {K : PySem.W.Frag} {x qual : Str} {st : Stmt} {f : Addr} {fd : FuncData} {ps ks : List Str} {g : List Value → List Value → List Value} {gV : List V → List V → List V} (Fn : Fun K x qual st f fd)
    (h : ∀ (kV doc pm : Value) (an : Option Addr) (cdv ct : Value) (ws : List Value), ws.length = ks.length → bindArgs (PySem.W.fnOf x qual (defArgs st) (defBody st) (defScope st) .none kV doc pm an cdv ct) ⟨[], ks.zip ws⟩ = pure (ps.zip (g [] ws)))
    (rel : ∀ {vs : List V} {us : List Value} {zs : List V} {ws : List Value}, Vals vs us → Vals zs ws → Vals (gV vs zs) (g us ws)) : KBn K fd ps 0 ks g gV := by
  obtain ⟨oc, od, kV, doc, pm, an, cdv, ct, osl, rfl, lk, hcd⟩ := Fn.ex
  refine ⟨fun s us ws _ h1 h2 => ?_, rel⟩
  have : us = [] := List.length_eq_zero_iff.mp h1
  subst this
  exact .of_eq (h kV doc pm an cdv ct ws h2)
section
variable {P : Program} {w : World} {K : PySem.W.Frag} {mg : Str → Option Value} {base : Heap} {F : FmKit} {cl : Nat → Addr} {S : FS}
/-- a def that is called both by places and by names -/
theorem calDK {x : Str} {st : Stmt} {f : Addr} {fd : FuncData} {N ps ks : List Str} {g : List Value → List Value → List Value} {gV : List V → List V → List V} {k : Nat} (hm : mg x = some (.ref f)) (Fn : Fun K x x st f fd) (Sc : FnScope N ps (defScope st)) (len : ∀ ds W post, S ds W post → ds.length = ps.length)
    (hb : ∀ (kV doc pm : Value) (an : Option Addr) (cdv ct : Value) (us : List Value), us.length = ps.length → bindArgs (PySem.W.fnOf x x (defArgs st) (defBody st) (defScope st) .none kV doc pm an cdv ct) ⟨us, []⟩ = pure (ps.zip us))
    (kb : KBn K fd ps 0 ks g gV)
    (body : ∀ (cdv : Value) (A : Around) (outer : List Env) (s : Shared) (H : Hp) (E : XK), Room k (A.deeper (envOfC x (defScope st) s.heap.objs.size f cdv)) →
      ∃ t, PSs (cxOf CX0 P w K mg base N x (defScope st) f cdv A outer s H E).nox (defBody st) t ∧ ∀ ds W post, S ds W post → Sw F ⟨K, cl⟩ t (startD N ds) W (E_ post)) :
    Cal P w K mg base (k + 1) x (spN F ⟨K, cl⟩ S) [] ∧ CalK P w K mg base (k + 1) x ks gV (spN F ⟨K, cl⟩ S) :=
  have ok := okD Fn Sc len body
  ⟨⟨f, fd, ps, [], ok, hm, Fn.kp, Fn.binds hb, .nil⟩, ⟨f, fd, ps, g, ok, hm, Fn.kp, kb⟩⟩
end
section
variable {F : FmKit} {T : Kx} {C H H' O O' : Hp} {G : Gm} {W W' : Om} {R : D → Om → Prop} {d e : D} {l m : List D} {te : TE} {t : TT}
theorem ei_imp {wi : TI} {Y Z : List D → Om → Prop} (h : EvI F T wi G W Y) (i : ∀ l W', Y l W' → Z l W') : EvI F T wi G W Z := fun C H O σ w Q q => h C H O σ w Q fun J ds W' H' O' y => q J ds W' H' O' (i _ _ y)
/-- list, tuple or text by a place -/
theorem bo_ixSq {i : Int} {z : D} (hv : Vs W d l) (hi : atI l i = some z) (r : R z W) : Bo F T (rIx T.K) d (.int i) W R := fun C H O di oc ow x y hx hy Q q => by
  obtain ⟨a, xs, e, hs, kl⟩ := hv.sq ow di hx
  have hy : y = .int i := hy
  obtain ⟨v, ev, kv⟩ := kl.atI hi
  subst e hy
  rcases hs with hs | hs
  · exact .inl ⟨a, xs, i, v, rfl, rfl, hs, ev, q z W H O v r (.refl di oc ow) kv⟩
  · exact .inr (.inl ⟨a, xs, i, v, rfl, rfl, hs, ev, q z W H O v r (.refl di oc ow) kv⟩)
theorem bo_ixSqS {i : Int} {x : Str} {c : Nat} (hl : x.length ≤ sizeLine) (hi : atI (lets x) i = some c) (r : R (.str (sg c)) W) : Bo F T (rIx T.K) (.str x) (.int i) W R := op_sc fun H Q k => .inr (.inr ⟨x, i, c, rfl, rfl, hl, hi, k _ r⟩)
theorem bo_ixS {i : Int} {x : Str} {c : Nat} (hl : x.length ≤ sizeLine) (hi : atI (lets x) i = some c) (r : R (.str (sg c)) W) : Bo F T rIxS (.str x) (.int i) W R := op_sc fun H Q k => ⟨x, i, c, rfl, rfl, hl, hi, k _ r⟩
/-- lists joined, frozen -/
theorem bo_cat (h1 : Vt W d l) (h2 : Vt W e m) (hl : l.length + m.length ≤ sizeLine) (r : R (.lst (l ++ m)) W) : Bo F T rCat d e W R := fun C H O di oc ow x y hx hy Q k => by
  obtain ⟨a, us, ea, ha, ku⟩ := h1.at ow di hx
  obtain ⟨b, vs, eb, hb, kv⟩ := h2.at ow di hy
  refine ⟨a, b, us, vs, ea, eb, ha, hb, by rw [ku.len, kv.len]; exact hl, fun z hz => ?_⟩
  obtain ⟨n2, e2, s2⟩ := (Nx.refl (F := F) (T := T) di oc ow).newF (o := .lst (us ++ vs)) hz
  rw [e2]
  exact k _ _ _ _ _ r n2 ⟨z, _, rfl, upd_same, (ku.mono s2).app (kv.mono s2)⟩
/-- a comprehension, frozen -/
theorem ev_lcF {vs : List Nat} {wi : TI} {g : TG} (h : EvI F T wi G W fun ds W1 => ∃ I : Nat → List D → Om → Prop, I 0 [] W1 ∧
      (∀ i d acc W', ds[i]? = some d → I i acc W' → Tw F T vs g d (wipeG G vs) fun G2 => EvT F T t G2 W' fun b W2 => if b = true then Ev F T te G2 W2 (fun z W3 => acc.length < sizeLine ∧ I (i + 1) (acc ++ [z]) W3) else I (i + 1) acc W2) ∧
      (∀ acc W', I ds.length acc W' → R (.lst acc) W')) : Ev F T (tLc wi g t te vs) G W R :=
  ev_fz (ev_lc (ei_imp h fun ds W1 ⟨I, h1, h2, h3⟩ => ⟨I, h1, h2, fun acc W' hi p hp => ⟨p, _, W', _, rfl, List.Perm.refl _, .lst _, h3 acc W' hi⟩⟩))
/-- .. each item by itself -/
theorem ev_lcM {vs : List Nat} {wi : TI} {g : TG} (h : EvI F T wi G W fun ds W1 => ∃ es : List D, (∀ (i : Nat) (d e : D), ds[i]? = some d → es[i]? = some e → Tw F T vs g d (wipeG G vs) fun G2 => EvT F T t G2 W1 fun b W2 => b = true ∧ Ev F T te G2 W2 (fun z W3 => z = e ∧ W3 = W1)) ∧ es.length = ds.length ∧ es.length ≤ sizeLine ∧ R (.lst es) W1) : Ev F T (tLc wi g t te vs) G W R :=
  ev_lcF (ei_imp h fun ds W1 ⟨es, h3, h1, h2, h4⟩ => ⟨fun i acc W' => W' = W1 ∧ acc = es.take i, ⟨rfl, by simp⟩, fun i d acc W' hd ⟨e1, e2⟩ => by
    subst e1 e2
    have hi : i < ds.length := (List.getElem?_eq_some_iff.mp hd).1
    have he : es[i]? = some es[i] := List.getElem?_eq_getElem (by omega)
    refine fun H H1 σ v lo s k Q q => h3 i d es[i] hd he H H1 σ v lo s k Q fun G2 σ2 et l2 w2 => q G2 σ2 (fun C H O σ w Q q => et C H O σ w Q fun b W2 H2 O2 ⟨e, ev⟩ n => q b W2 H2 O2 ?_ n) l2 w2
    subst e
    rw [if_pos rfl]
    refine ev.imp fun z W3 ⟨e1, e2⟩ => ⟨by rw [List.length_take]; omega, e2, ?_⟩
    rw [e1, List.take_add_one, he]
    rfl, fun acc W' ⟨e1, e2⟩ => by
    subst e1 e2
    rw [← h1, List.take_length]
    exact h4⟩)
/-- .. with a test -/
theorem ev_lcP {vs : List Nat} {wi : TI} {g : TG} (h : EvI F T wi G W fun ds W1 => ∃ es : List (Bool × D), (∀ (i : Nat) (d : D) (e : Bool × D), ds[i]? = some d → es[i]? = some e → Tw F T vs g d (wipeG G vs) fun G2 => EvT F T t G2 W1 fun b W2 => b = e.1 ∧ if b = true then Ev F T te G2 W2 (fun z W3 => z = e.2 ∧ W3 = W1) else W2 = W1) ∧ es.length = ds.length ∧ es.length ≤ sizeLine ∧ R (.lst ((es.filter (·.1)).map (·.2))) W1) : Ev F T (tLc wi g t te vs) G W R :=
  ev_lcF (ei_imp h fun ds W1 ⟨es, h3, h1, h2, h4⟩ => ⟨fun i acc W' => W' = W1 ∧ acc = ((es.take i).filter (·.1)).map (·.2), ⟨rfl, by simp⟩, fun i d acc W' hd ⟨e1, e2⟩ => by
    subst e1 e2
    have hi : i < ds.length := (List.getElem?_eq_some_iff.mp hd).1
    have he : es[i]? = some es[i] := List.getElem?_eq_getElem (by omega)
    refine fun H H1 σ v lo s k Q q => h3 i d es[i] hd he H H1 σ v lo s k Q fun G2 σ2 et l2 w2 => q G2 σ2 (fun C H O σ w Q q => et C H O σ w Q fun b W2 H2 O2 ⟨e, ev⟩ n => q b W2 H2 O2 ?_ n) l2 w2
    have hf : ((es.take (i + 1)).filter (·.1)) = (es.take i).filter (·.1) ++ if es[i].1 = true then [es[i]] else [] := by
      rw [List.take_add_one, he, List.filter_append]
      congr 1
      simp only [Option.toList_some, List.filter_cons, List.filter_nil]
    have hl : (((es.take i).filter (·.1)).map (·.2)).length < sizeLine := by
      have := List.length_filter_le (fun z : Bool × D => z.1) (es.take i)
      rw [List.length_take] at this
      rw [List.length_map]
      omega
    cases b with
    | true =>
      rw [if_pos rfl] at ev
      refine if_so rfl ?_
      refine ev.imp fun z W3 ⟨e1, e2⟩ => ⟨hl, e2, ?_⟩
      rw [hf, if_pos e.symm, List.map_append, e1]
      rfl
    | false =>
      rw [if_neg Bool.false_ne_true] at ev
      refine if_not rfl ?_
      refine ⟨ev, ?_⟩
      rw [hf, if_neg (by rw [← e]; exact Bool.false_ne_true), List.append_nil], fun acc W' ⟨e1, e2⟩ => by
    subst e1 e2
    rw [← h1, List.take_length]
    exact h4⟩)
end
theorem cut63 {xs : List D} (h : xs.length ≤ 63) : cutD xs none (some 63) = xs := by
  unfold cutD
  have e1 : HT.sIx xs.length 0 none = 0 := rfl
  have e2 : HT.sIx xs.length xs.length (some 63) = min 63 xs.length := HT.sIx_nat _ _ 63
  rw [e1, e2, List.drop_zero]
  exact List.take_of_length_le (by omega)
/-- a deck at a, c draws done, all that belongs to it in W -/
abbrev Deck := Addr → Int → Om → Prop
abbrev kS (s : Str) : Key := Sum.inr s
def S_deck (Dk : Deck) : FS := fun ds W post => ∃ ns : List Int, ds = [.scr (ns.map V.int)] ∧ W = [] ∧ ns.length ≤ 63 ∧ ∀ (a : Addr) (W' : Om), Dk a 0 W' → post (.adr a) W'
def S_draw (Dk : Deck) : FS := fun ds W post => ∃ (a : Addr) (c n : Int), ds = [.adr a, .int n] ∧ Dk a c W ∧ 0 < n ∧ n < 1073741824 ∧ c < 2 ^ 60 ∧
  ∀ (z : Int) (W' : Om), 0 ≤ z → z < n → Dk a (c + 1) W' → post (.int z) W'
def S_pick (Dk : Deck) : FS := fun ds W post => ∃ (a : Addr) (c : Int) (m : D), ds = [.adr a, m] ∧ Dk a c W ∧ c < 2 ^ 60 ∧
  ((∃ l : List D, (m = .lst l ∨ m = .tup l) ∧ l ≠ [] ∧ l.length ≤ 1000000 ∧ ∀ z ∈ l, ∀ W', Dk a (c + 1) W' → post z W') ∨
   ∃ x : Str, m = .str x ∧ x.length ≠ 0 ∧ x.length ≤ 1000000 ∧ ∀ q ∈ lets x, ∀ W', Dk a (c + 1) W' → post (.str (sg q)) W')
theorem at_of_draw {α : Type} {l : List α} {z : Int} (h0 : 0 ≤ z) (h1 : z < l.length) : ∃ y ∈ l, atI l z = some y := by
  have hz : z.toNat < l.length := by omega
  refine ⟨l[z.toNat], List.getElem_mem hz, ?_⟩
  unfold atI ixN
  rw [if_pos h0, if_pos h1]
  simp [hz]
end N
set_option Elab.async false
set_option linter.all false
set_option maxRecDepth 100000
namespace L2
open PySem PySem.Spec PyProof.Rows
section
variable {X : Cx}
theorem ps_setDc {i : Nat} {y : Str} {py : Pos} {kx vx tg iter : Expr} {ifs : List Expr} {scope : Scope} {own : List (Str × Nat)} {pos spos : Pos} {wi : TI} {g : TG} {tt : TT} {tk tv : TE} (hc : X.calm = true) (hN : X.N.Nodup) (hy : X.N[i]? = some y) (hyl : X.env.scope.names.lookup y = some .local)
    (hsw : swapsWith (.DictComp kx vx [⟨tg, iter, ifs, 0⟩] scope pos) (some (.Name y py)) spos.line X.env = pure true) (hi : PI X tg iter wi) (ok : BlkOk X.N X.env.scope scope own)
    (hg : ∀ (s : Shared) (H : Hp) (C : Addr) (cl : List (Str × Addr)) (fp : List Addr), PG (X.blk s H scope (compEnvC scope cl C X.env) fp) tg g) (ht : ∀ (s : Shared) (H : Hp) (C : Addr) (cl : List (Str × Addr)) (fp : List Addr), PTs (X.blk s H scope (compEnvC scope cl C X.env) fp) ifs tt)
    (hk : ∀ (s : Shared) (H : Hp) (C : Addr) (cl : List (Str × Addr)) (fp : List Addr), PE (X.blk s H scope (compEnvC scope cl C X.env) fp) kx tk)
    (he : ∀ (s : Shared) (H : Hp) (C : Addr) (cl : List (Str × Addr)) (fp : List Addr), PE (X.blk s H scope (compEnvC scope cl C X.env) fp) vx tv) (hs : ∀ x, foldedSetIterable iter X.env x = pure x := by intro _; rfl) :
    PS X (.Assign [.Name y py] (.DictComp kx vx [⟨tg, iter, ifs, 0⟩] scope pos) spos) (tAsg (tDc wi g tt tk tv (own.map (·.2))) (gName i)) := by
  refine ⟨fun pins s σ H D I h => ?_⟩
  rw [exec_Assign_Name_used _ _ _ _ hsw]
  refine wpAny_bind (wpAny_standAt (wpAny_bind ?_))
  show wpAny _ X.A (do let _ ← comprehension (.DictComp kx vx [⟨tg, iter, ifs, 0⟩] scope pos) scope X.env (firstIterPos [⟨tg, iter, ifs, 0⟩] pos) newDict false (eval iter X.env) (some (assign (.Name y py) X.env))) _ _ s
  have h : tDc wi g tt tk tv (own.map (·.2)) σ H (fun x H1 => gName i x σ H1 D.nx) := h
  refine wpAny_bind (thn (dc_core (Qf := fun _ s' => SP X pins D .next s') hc hN I hi ok hg ht hk he hs h fun L C s' m H' I' q hn f => ?_) fun _ s' hq => wpAny_pure (wpAny_pure hq))
  show wpAny _ _ (assign (.Name y py) X.env (.ref L)) _ _ _
  refine wpAny_assign_Name (store_ok2 (v := V.ref L) I' hN hy (.inl hyl) rfl (fun s2 I2 ⟨a, sb, ha⟩ => ?_) (.inr hyl))
  obtain ⟨f0, f1, f2, f3, f4, f5⟩ := f
  have haC : C ≠ a := by
    rcases ha with z | z
    · rw [z]; exact f1
    · exact fun e => f4 y a z e.symm
  refine ⟨m, hn.sameBut sb haC, fun h3 sb3 => ?_⟩
  exact ⟨_, H', I2.turned (t' := s2.toks) (fun b o hb e => (sb3.2 b hb).trans e) f0 f1 f3 f4 f5, q⟩
theorem sw_trueD {kx vx : Expr} {gs : List Comprehension} {scope : Scope} {pos py : Pos} {y : Str} {l : Nat} {env : Env} (hk : env.scope.kind = .function) (hy : env.scope.names.lookup y = some .local) (hl : (py.line == pos.line) = true)
    (ha : (scope.names.any fun (n, k) => n == y && (k == .local || k == .cell)) = false) : swapsWith (.DictComp kx vx gs scope pos) (some (.Name y py)) l env = pure true := by
  have ky : env.kindOf y = some .local := hy
  have hb : env.blockKind = .function := by unfold Env.blockKind; rw [hk]; rfl
  unfold swapsWith
  simp only [hb, ky, ha, Expr.pos, hl]
  rfl
end
end L2
namespace N
open PySem L2
theorem ev_neg {F : FmKit} {T : Kx} {G : Gm} {W : Om} {R : D → Om → Prop} {ta : TE} {g : Int → V} (h : Ev F T ta G W fun d W1 => ∃ i : Int, d = .int i ∧ R (.vl (g i)) W1) : Ev F T (tUn (rU g) ta) G W R :=
  ev_un (h.imp fun d W1 ⟨i, e, r⟩ => by
    subst e
    exact cl_sc (xs := [.int i]) fun H Q k => ⟨.int i, rfl, i, rfl, k _ r⟩)
end N
set_option Elab.async false
set_option linter.all false
set_option maxRecDepth 100000
namespace N
open PySem PySem.Spec PyProof.Rows L2
section
variable (F : FmKit) (T : Kx)
def EvPs : List (TE × TE) → Gm → Om → List (Key × D) → (List (Key × D) → Om → Prop) → Prop
  | [], _, W, acc, Y => Y acc W
  | (tk, tv) :: r, G, W, acc, Y => Ev F T tk G W fun y W1 => Ev F T tv G W1 fun z W2 => ∃ k, y = kD k ∧ EvPs r G W2 (acc ++ [(k, z)]) Y
end
def mergeG (ps : List (Key × D)) : List (Key × D) := ps.foldl (fun acc kv => putG acc kv.1 kv.2) []
section
variable {F : FmKit} {T : Kx} {C H H' O O' : Hp} {G : Gm} {W W' : Om} {R : D → Om → Prop} {σ : L2.St} {d e : D} {l m : List D} {te : TE} {t : TT}
theorem EvPs.run {Y : List (Key × D) → Om → Prop} : ∀ {trs : List (TE × TE)} {acc : List (Key × D)} {W : Om} {H O : Hp}, EvPs F T trs G W acc Y → Wd F T C G W H O σ → ∀ Q : List (V × V) → Hp → Prop,
    (∀ (ps : List (Key × D)) (kvs : List (Key × V)) W' H' O', Y (acc ++ ps) W' → Nx F T C W' H H' O' → kvs.map (·.1) = ps.map (·.1) → DenL F T H' (ps.map (·.2)) (kvs.map (·.2)) → ps.length = trs.length → Q (kvs.map fun kv => (kV kv.1, kv.2)) (ov O' H')) → tPairs trs σ (ov O H) Q
  | [], acc, W, H, O, h, w, Q, q => q [] [] W H O (by rw [List.append_nil]; exact h) w.nx rfl rfl rfl
  | (tk, tv) :: r, acc, W, H, O, h, w, Q, q => h C H O σ w _ fun y W1 H1 O1 yv h1 n1 k1 => h1 C H1 O1 σ (w.step n1) _ fun z W2 H2 O2 zv ⟨k, ek, h2⟩ n2 k2 => by
    subst ek
    have k1 : yv = kV k := k1
    subst k1
    refine EvPs.run h2 ((w.step n1).step n2) _ fun ps kvs W' H' O' y n3 e1 e2 e3 => ?_
    refine q ((k, z) :: ps) ((k, zv) :: kvs) W' H' O' (by simpa using y) ((n1.trans n2).trans n3) (by simp [e1]) ⟨zv, _, rfl, k2.mono n3.ext, e2⟩ (by simp [e3])
theorem mergeK_keys : ∀ {ps : List (Key × D)} {kvs : List (Key × V)} {acc : List (Key × D)} {av : List (Key × V)}, kvs.map (·.1) = ps.map (·.1) → av.map (·.1) = acc.map (·.1) → (acc.map (·.1)).Nodup → DenL F T H (ps.map (·.2)) (kvs.map (·.2)) → DenL F T H (acc.map (·.2)) (av.map (·.2)) →
    (mergeK av kvs).map (·.1) = (ps.foldl (fun acc kv => putG acc kv.1 kv.2) acc).map (·.1) ∧ ((ps.foldl (fun acc kv => putG acc kv.1 kv.2) acc).map (·.1)).Nodup ∧ DenL F T H ((ps.foldl (fun acc kv => putG acc kv.1 kv.2) acc).map (·.2)) ((mergeK av kvs).map (·.2))
  | [], [], acc, av, _, e, nd, _, k => ⟨e, nd, k⟩
  | [], _ :: _, _, _, h, _, _, _, _ => by simp at h
  | _ :: _, [], _, _, h, _, _, _, _ => by simp at h
  | (k, z) :: ps, (j, v) :: kvs, acc, av, h, e, nd, ⟨w, r, e1, k1, k2⟩, ka => by
    simp only [List.map_cons, List.cons.injEq] at h e1
    obtain ⟨h1, h2⟩ := h
    obtain ⟨e1, e2⟩ := e1
    subst h1 e1 e2
    exact mergeK_keys (ps := ps) (kvs := kvs) (acc := putG acc j z) (av := putK av j v) h2 ((putG_V av j v) ▸ putG_keys (z := v) (y := z) e) (putG_nodup nd) k2 ((putG_V av j v) ▸ putG_den k1 e ka)
/-- {k: e, ..} -/
theorem ev_disp {trs : List (TE × TE)} (h : EvPs F T trs G W [] fun ps W' => ps.length ≤ 15 ∧ ∀ p, p ∉ akeys W' → R (.adr p) ((p, .dp (mergeG ps)) :: W')) : Ev F T (tDisp trs) G W R := fun C H O σ w Q q p hp => by
  obtain ⟨n0, e0, cp⟩ := w.nx.hide (o := .dK []) hp
  rw [e0]
  refine EvPs.run h ⟨n0.dis, n0.oc, w.loc, n0.own⟩ _ fun ps kvs W' H' O' y n e1 e2 e3 => ?_
  have hO : ov O' H' p = some (.dK []) := ov_own (n.oc p _ upd_same)
  have hl : kvs.length = ps.length := by
    have := congrArg List.length e1
    rwa [List.length_map, List.length_map] at this
  obtain ⟨y1, y2⟩ := y
  refine ⟨hO, kvs, rfl, by rw [hl]; exact y1, ?_⟩
  obtain ⟨n6, e6⟩ := Nx.rehide (o' := .dK (mergeK [] kvs)) n cp
  rw [e6]
  obtain ⟨m1, m2, m3⟩ := mergeK_keys (F := F) (T := T) (H := H') (acc := []) (av := []) e1 rfl List.nodup_nil e2 (show DenL F T H' (([] : List (Key × D)).map (·.2)) (([] : List (Key × V)).map (·.2)) from rfl)
  obtain ⟨n7, np⟩ := n6.show (od := .dp (mergeG ps)) cp ⟨mergeK [] kvs, rfl, m1, m2, m3⟩
  exact q (.adr p) _ H' _ _ (y2 p np) n7 rfl
theorem ca_slF {lo hi : Option Int} (hv : Vl W d l) (r : R (.lst (cutD l lo hi)) W) : Ca F T (fun xs H Q => ∃ x, xs = [x] ∧ rSlL T.K x lo hi H Q) [d] W R :=
  ca_fz (ca_slL hv fun p hp => ⟨p, _, W, _, rfl, List.Perm.refl _, .lst _, r⟩)
theorem ev_revF (h : Ev F T te G W fun d W1 => ∃ l, Vl W1 d l ∧ R (.lst l.reverse) W1) : Ev F T (tRevL T.K te) G W R :=
  ev_fz (ev_revL (h.imp fun d W1 ⟨l, hv, r⟩ => ⟨l, hv, fun p hp => ⟨p, _, W1, _, rfl, List.Perm.refl _, .lst _, r⟩⟩))
end
section
variable {F : FmKit} {T : Kx} {G : Gm} {W : Om} {R : D → Om → Prop}
theorem eps_nil {acc : List (Key × D)} {Y : List (Key × D) → Om → Prop} (h : Y acc W) : EvPs F T [] G W acc Y := h
theorem eps_cons {tk tv : TE} {r : List (TE × TE)} {acc : List (Key × D)} {Y : List (Key × D) → Om → Prop} (h : Ev F T tk G W fun y W1 => Ev F T tv G W1 fun z W2 => ∃ k, y = kD k ∧ EvPs F T r G W2 (acc ++ [(k, z)]) Y) : EvPs F T ((tk, tv) :: r) G W acc Y := h
theorem exk_str {s : Str} {Z : Key → Prop} (h : Z (Sum.inr s)) : ∃ k, D.vl (.str s) = kD k ∧ Z k := ⟨_, rfl, h⟩
theorem exk_int {i : Int} {Z : Key → Prop} (h : Z (Sum.inl i)) : ∃ k, D.vl (.int i) = kD k ∧ Z k := ⟨_, rfl, h⟩
theorem dg_str {d : D} {s : Str} {ps : List (Key × D)} {z : D} {Y : D → Prop} (hv : Vd W d ps) (hg : getG ps (Sum.inr s) = some z) (r : Y z) : ∃ ps k z, Vd W d ps ∧ D.vl (.str s) = kD k ∧ getG ps k = some z ∧ Y z := ⟨ps, _, z, hv, rfl, hg, r⟩
end
theorem putG_new {α : Type} {ps : List (Key × α)} {k : Key} {z : α} (h : k ∉ ps.map (·.1)) : putG ps k z = ps ++ [(k, z)] := by
  unfold putG
  rw [if_neg]
  intro e
  rw [List.any_eq_true] at e
  obtain ⟨q, hq, e⟩ := e
  exact h (List.mem_map.mpr ⟨q, hq, of_decide_eq_true e⟩)
theorem getG_hd {α : Type} (k : Key) (z : α) (ps : List (Key × α)) : getG ((k, z) :: ps) k = some z := by
  unfold getG
  rw [List.find?_cons, decide_eq_true rfl]
  rfl
theorem getG_tl {α : Type} {k j : Key} {y : α} {ps : List (Key × α)} {r : Option α} (h : decide (j = k) = false) (e : getG ps k = r) : getG ((j, y) :: ps) k = r := by
  rw [← e]
  unfold getG
  rw [List.find?_cons, h]
theorem putG_set {α : Type} {k : Key} {z : α} : ∀ {ps : List (Key × α)} {i : Nat}, (ps.map (·.1)).Nodup → (ps.map (·.1))[i]? = some k → putG ps k z = ps.set i (k, z) := fun {ps i} hn hi => by
  have hm : ∀ (ps : List (Key × α)) (i : Nat), (ps.map (·.1)).Nodup → (ps.map (·.1))[i]? = some k → (ps.any fun q => decide (q.1 = k)) = true ∧ ps.map (fun q => if q.1 = k then (q.1, z) else q) = ps.set i (k, z) := fun ps => by
    induction ps with
    | nil => intro i _ h; simp at h
    | cons p ps ih =>
      intro i hn hi
      rw [List.map_cons, List.nodup_cons] at hn
      cases i with
      | zero =>
        have e : p.1 = k := Option.some.inj hi
        refine ⟨by rw [List.any_cons, decide_eq_true e]; rfl, ?_⟩
        rw [List.map_cons, if_pos e, List.set_cons_zero, e]
        congr 1
        have : ∀ q ∈ ps, (if q.1 = k then (q.1, z) else q) = q := fun q hq => by
          rw [if_neg]
          intro e2
          exact hn.1 (List.mem_map.mpr ⟨q, hq, e2.trans e.symm⟩)
        rw [List.map_congr_left this, List.map_id']
      | succ i =>
        rw [List.map_cons, List.getElem?_cons_succ] at hi
        obtain ⟨h1, h2⟩ := ih i hn.2 hi
        refine ⟨by rw [List.any_cons, h1, Bool.or_true], ?_⟩
        have ne : p.1 ≠ k := fun e => hn.1 (by rw [e]; exact List.mem_of_getElem? hi)
        rw [List.map_cons, if_neg ne, List.set_cons_succ, h2]
  obtain ⟨h1, h2⟩ := hm ps i hn hi
  unfold putG
  rw [if_pos h1, h2]
theorem mergeG_acc : ∀ {ps acc : List (Key × D)}, ((acc ++ ps).map (·.1)).Nodup → ps.foldl (fun acc kv => putG acc kv.1 kv.2) acc = acc ++ ps
  | [], acc, _ => by simp
  | p :: ps, acc, h => by
    rw [List.foldl_cons]
    have hn : p.1 ∉ acc.map (·.1) := fun z => by
      rw [List.map_append, List.nodup_append] at h
      exact h.2.2 _ z _ (by simp) rfl
    rw [putG_new hn, mergeG_acc (by simpa using h)]
    simp
theorem mergeG_nd {ps : List (Key × D)} (h : (ps.map (·.1)).Nodup) : mergeG ps = ps := by
  unfold mergeG
  rw [mergeG_acc (by simpa using h)]
  rfl
end N
set_option Elab.async false
set_option linter.all false
set_option maxRecDepth 100000
namespace N
open PySem PySem.Spec PyProof.Rows L2
section
variable {F : FmKit} {T : Kx} {C H H' O O' : Hp} {G : Gm} {W W' : Om} {R : D → Om → Prop} {d e : D} {l m : List D} {te : TE} {t : TT}
theorem den_bls_inv {bs : List Bool} {xs : List V} (kl : DenL F T H (bs.map D.bl) xs) : xs = bs.map V.bl := by
  rw [show bs.map D.bl = (bs.map V.bl).map D.vl by rw [List.map_map]; rfl] at kl
  exact DenL.vls_inv kl
theorem ca_all {bs : List Bool} (hv : Vl W d (bs.map D.bl)) (r : R (.bl (bs.all id)) W) : Ca F T (rAll T.K) [d] W R := ca_one fun C H O di oc ow x k Q q => by
  obtain ⟨a, xs, e, hs, kl⟩ := hv.sq ow di k
  rw [den_bls_inv kl] at hs
  exact ⟨a, bs, by rw [e], hs, q _ W H O _ r (.refl di oc ow) rfl⟩
end
theorem inV_str {x : Str} : ∀ {l : List Str}, inV (.str x) (l.map V.str) = decide (x ∈ l)
  | [] => rfl
  | a :: l => by
    have ih := inV_str (x := x) (l := l)
    unfold inV at ih ⊢
    rw [List.map_cons, List.any_cons, ih]
    have : eqV (V.str a) (V.str x) = decide (x = a) := by
      show (a == x) = _
      rw [Bool.eq_iff_iff]
      simp
      exact eq_comm
    rw [this]
    rw [Bool.eq_iff_iff]
    simp
section
variable (F : FmKit) (T : Kx)
def Unr (vs : List Nat) (g : TG) (t : TT) (te : TE) (G0 : Gm) (Y : List D → Om → Prop) : List D → List D → Om → Prop
  | [], acc, W => Y acc W
  | d :: ds, acc, W => Tw F T vs g d G0 fun G2 => EvT F T t G2 W fun b W2 => if b = true then Ev F T te G2 W2 (fun z W3 => acc.length < sizeLine ∧ Unr vs g t te G0 Y ds (acc ++ [z]) W3) else Unr vs g t te G0 Y ds acc W2
def Swu (g : TG) (ts : TS) (E : En) : List D → Gm → Om → Prop
  | [], G, W => E.nx G W
  | d :: ds, G, W => Tg F T g d G fun G2 => Sw F T ts G2 W { E with nx := Swu g ts E ds, ct := Swu g ts E ds, bk := E.nx }
end
section
variable {F : FmKit} {T : Kx} {G : Gm} {W : Om} {R : D → Om → Prop} {te : TE} {t : TT} {vs : List Nat} {wi : TI} {g : TG} {ts : TS} {E : En} {d : D} {ds acc : List D} {Y : List D → Om → Prop}
theorem unr_nil (h : Y acc W) : Unr F T vs g t te G Y [] acc W := h
theorem unr_cons (h : Tw F T vs g d G fun G2 => EvT F T t G2 W fun b W2 => if b = true then Ev F T te G2 W2 (fun z W3 => acc.length < sizeLine ∧ Unr F T vs g t te G Y ds (acc ++ [z]) W3) else Unr F T vs g t te G Y ds acc W2) : Unr F T vs g t te G Y (d :: ds) acc W := h
theorem swu_nil (h : E.nx G W) : Swu F T g ts E [] G W := h
theorem swu_cons (h : Tg F T g d G fun G2 => Sw F T ts G2 W { E with nx := Swu F T g ts E ds, ct := Swu F T g ts E ds, bk := E.nx }) : Swu F T g ts E (d :: ds) G W := h
theorem acc_ok (h : acc.length ≤ 1000 := by simp) : acc.length < sizeLine := by
  have := sizeLine_eq
  omega
end
section
variable {F : FmKit} {T : Kx} {W : Om} {R : D → Om → Prop}
theorem ca_intBt {b : Bool} (hb : b = true) (h : R (.int 1) W) : Ca F T (fun xs H Q => (∃ i, xs = [.int i] ∧ Q (.int i) H) ∨ ∃ k, xs = [.bl k] ∧ Q (.int (if k then 1 else 0)) H) [.bl b] W R := ca_intB (by rw [hb]; exact h)
theorem ca_intBf {b : Bool} (hb : b = false) (h : R (.int 0) W) : Ca F T (fun xs H Q => (∃ i, xs = [.int i] ∧ Q (.int i) H) ∨ ∃ k, xs = [.bl k] ∧ Q (.int (if k then 1 else 0)) H) [.bl b] W R := ca_intB (by rw [hb]; exact h)
end
section
variable {F : FmKit} {T : Kx} {C H H' O O' : Hp} {W : Om} {R : D → Om → Prop} {S : FS} {l : List D}
theorem tyd_tup : TyD F T W (.tup l) (.type "tuple") := fun C H O di ow x k => by
  obtain ⟨a, xs, e, hs, kl⟩ := k
  subst e
  rcases Same.sqT di.same hs with (h | ⟨o, h⟩) | ⟨o, its, n, h1, h2, _⟩
  · exact .base (.tup h)
  · exact .fTuple h
  · exact .kTuple h1 h2
theorem isi_tup (r : R (.bl true) W) : Ca F T (rIsi T.K) [.tup l, .vl (.ty "tuple")] W R := ca_isi (.ty "tuple") tyd_tup (by unfold PySem.W.kitOne; rfl) r
theorem isi_fm {f : Fm} {ns : List Str} (z : CZ T.K (T.cl 0) ns) (r : R (.bl true) W) : Ca FK T (rIsi T.K) [.fm f, .adr (T.cl 0)] W R := isi_ins (.fm f) z.ins r
theorem ca_lenF {f : Fm} (h : Hand S [.fm f] W fun d' W' => (∃ n : Int, d' = .int n ∧ 0 ≤ n ∧ n < 2 ^ 63) ∧ R d' W') : Ca FK T (rLenO (T.cl 0) (spN FK T S)) [.fm f] W R := ca_lenO (.fm f) h
end
end N
set_option Elab.async false
set_option linter.all false
set_option maxRecDepth 100000
set_option maxHeartbeats 4000000
set_option Elab.async false
set_option linter.all false
set_option maxRecDepth 100000
set_option Elab.async false
set_option linter.all false
set_option maxRecDepth 100000
namespace N
open PySem PySem.Spec PyProof.Rows L2
open C8 (Cal Met Mak InsC pe_c pe_mt pe_mt0 pe_mk)
section
variable {F : FmKit} {T : Kx} {G : Gm} {W : Om} {R : D → Om → Prop}
/-- {k: e, ..}, frozen at once -/
theorem ev_dispF {trs : List (TE × TE)} (h : EvPs F T trs G W [] fun ps W' => ps.length ≤ 15 ∧ R (.dp (mergeG ps)) W') : Ev F T (tDisp trs) G W R := by
  have up : ∀ (trs : List (TE × TE)) (W : Om) (acc : List (Key × D)) (Y Z : List (Key × D) → Om → Prop), (∀ ps W', Y ps W' → Z ps W') → EvPs F T trs G W acc Y → EvPs F T trs G W acc Z := by
    intro trs
    induction trs with
    | nil => exact fun W acc Y Z i h => i _ _ h
    | cons t trs ih => exact fun W acc Y Z i h => Ev.imp h fun y W1 h1 => Ev.imp h1 fun z W2 ⟨k, e, h2⟩ => ⟨k, e, ih _ _ _ _ i h2⟩
  exact ev_fz (ev_disp (up _ _ _ _ _ (fun ps W' ⟨h1, h2⟩ => ⟨h1, fun p hp => ⟨p, _, W', _, rfl, List.Perm.refl _, .dct _ _, h2⟩⟩) h))
end
end N
set_option Elab.async false
set_option linter.all false
set_option maxRecDepth 100000
set_option maxHeartbeats 1000000
namespace PySem
open Sem (wp)
/-- a zip that stands, strict -/
abbrev StrictZip (hp : Heap) (z ins held : Addr) (v : Value) : Prop := hp.get? z = some { cls := .type "zip", data := .fields #[v, .bool false, .bool true, .ref ins, .ref held] }
section
variable {prog : Program} {w : World} {A : Around} {E : Value → Shared → Prop} {s : Shared} {z ins held j1 j2 : Addr} {f1 f2 : List Addr} {n i : Nat} {P1 P2 P : Nat → Value → Prop} {S1 S2 St : Nat → Heap → Prop} {u1 u2 : Value} {it : Addr} {fp : List Addr}
theorem orEnd_more {Q : Option Value → Shared → Prop} (D : Draws prog w A it fp n P St) (hi : i < n) (st : St i s.heap) (q : ∀ x hp tk, P i x → St (i + 1) hp → Heap.SameBut it s.heap hp → Q (some x) { s with heap := hp, toks := tk }) :
    wpAny (model prog w) A (Builtin.SmallTypes.nextOrEnd (.ref it)) Q E s :=
  wpAny_bind (wpAny_attempt (D.item i s _ _ hi st fun x hp tk a b c => wpAny_pure (q x hp tk a b c)))
theorem orEnd_none {Q : Option Value → Shared → Prop} (D : Draws prog w A it fp n P St) (st : St n s.heap) (q : ∀ hp, Heap.ExtBut it s.heap hp → Q none { s with heap := hp }) :
    wpAny (model prog w) A (Builtin.SmallTypes.nextOrEnd (.ref it)) Q E s :=
  wpAny_bind (wpAny_attempt (D.done s _ _ st fun hp e k ⟨o, ho, hc⟩ => wpAny_bind (wpAny_isInstance (T := "StopIteration") (b := true) ⟨o, ho, hc⟩ isSubtype_stop (wpAny_pure (q hp k)))))
theorem strict_more {Q : Value → Shared → Prop} (S : ZipSep2 z ins held j1 j2 f1 f2) (D1 : Draws prog w A j1 f1 n P1 S1) (D2 : Draws prog w A j2 f2 n P2 S2)
    (hz : StrictZip s.heap z ins held .none) (hI : IsTupOf2 s.heap ins (.ref j1) (.ref j2)) (hO : IsTupOf2 s.heap held u1 u2) (k1 : S1 i s.heap) (k2 : S2 i s.heap) (hi : i < n)
    (q : ∀ x y hp tk, P1 i x → P2 i y → StrictZip hp z ins held (rawInt s.heap.objs.size) → IsTupOf2 hp held x y → S1 (i + 1) hp → S2 (i + 1) hp → IsTupOf2 hp s.heap.objs.size x y → hp.objs.size = s.heap.objs.size + 1 →
      (∀ c o, c ∉ [z, held, j1, j2] → s.heap.get? c = some o → hp.get? c = some o) → Q (.ref s.heap.objs.size) { s with heap := hp, toks := tk }) :
    wpAny (model prog w) A (Builtin.«zip.__next__» ⟨[.ref z], []⟩) (fun fin s' => ∃ v, fin = .done (.ret v) ∧ Q v s') E s := by
  obtain ⟨h0, g, d, t0, os⟩ := s
  simp only at hz hI hO k1 k2 q
  have af : ∀ {k : Nat} {x : Value} {Q : Value → Shared → Prop} {E : Value → Shared → Prop}, (#[Value.none, .bool false, .bool true, .ref ins, .ref held] : Array Value)[k]? = some x → Q x ⟨h0, g, d, t0, os⟩ → wpAny (model prog w) A (field (.ref z) k) Q E ⟨h0, g, d, t0, os⟩ := fun e q => wpAny_field hz rfl e q
  have ast : ∀ {Q : Unit → Shared → Prop} {E : Value → Shared → Prop}, (∀ h1, StrictZip h1 z ins held .ellipsis → Heap.SameBut z h0 h1 → Q () ⟨h1, g, d, t0, os⟩) → wpAny (model prog w) A (setField (.ref z) 0 .ellipsis) Q E ⟨h0, g, d, t0, os⟩ := fun q => wpAny_setField_rec hz (by simp) fun h1 a b => q h1 a b
  wp_walk using wpAny_seqItems hI rfl, ast, wpAny_onRaise
  intro h1 z1 b1
  have r1 : ∀ {Q : Option Value → Shared → Prop} {E : Value → Shared → Prop}, (∀ x hp tk, P1 i x → S1 (i + 1) hp → Heap.SameBut j1 h1 hp → Q (some x) ⟨hp, g, d, tk, os⟩) → wpAny (model prog w) A (Builtin.SmallTypes.nextOrEnd (.ref j1)) Q E ⟨h1, g, d, t0, os⟩ := fun q => orEnd_more D1 hi (D1.over k1 b1 S.zf1) q
  wp_walk using wpAny_onRaise, r1
  intro x h2 t2 px k1 b2
  have o2 : IsTupOf2 h2 held u1 u2 := b2.extBut _ _ S.Ti1 (b1.extBut _ _ S.TOz hO)
  have r2 : ∀ {k : Nat} {x : Value} {Q : Unit → Shared → Prop} {E : Value → Shared → Prop}, (∀ hp, hp.get? held = some { cls := .type "tuple", data := .seq ((#[u1, u2] : Array Value).setIfInBounds k x) } → Heap.SameBut held h2 hp → Q () ⟨hp, g, d, t2, os⟩) → wpAny (model prog w) A (updateSeq held (·.setIfInBounds k x)) Q E ⟨h2, g, d, t2, os⟩ := fun q => updateSeq_IsTupOf2 o2 q
  wp_walk using wpAny_seqItems o2 rfl, r2
  intro h3 o3 b3
  replace o3 : IsTupOf2 h3 held x u2 := o3
  have r3 : ∀ {Q : Option Value → Shared → Prop} {E : Value → Shared → Prop}, (∀ x hp tk, P2 i x → S2 (i + 1) hp → Heap.SameBut j2 h3 hp → Q (some x) ⟨hp, g, d, tk, os⟩) → wpAny (model prog w) A (Builtin.SmallTypes.nextOrEnd (.ref j2)) Q E ⟨h3, g, d, t2, os⟩ := fun q => orEnd_more D2 hi (D2.over (D2.over (D2.over k2 b1 S.zf2) b2 S.sep1_2) b3 S.Tf2) q
  wp_walk using wpAny_onRaise, r3
  intro y h4 t4 py k2 b4
  have o4 : IsTupOf2 h4 held x u2 := b4.extBut _ _ S.Ti2 o3
  have r4 : ∀ {k : Nat} {v : Value} {Q : Unit → Shared → Prop} {E : Value → Shared → Prop}, (∀ hp, hp.get? held = some { cls := .type "tuple", data := .seq ((#[x, u2] : Array Value).setIfInBounds k v) } → Heap.SameBut held h4 hp → Q () ⟨hp, g, d, t4, os⟩) → wpAny (model prog w) A (updateSeq held (·.setIfInBounds k v)) Q E ⟨h4, g, d, t4, os⟩ := fun q => updateSeq_IsTupOf2 o4 q
  wp_walk using wpAny_seqItems o4 rfl, r4
  intro h5 o5 b5
  replace o5 : IsTupOf2 h5 held x y := o5
  have sz : h5.objs.size = h0.objs.size := by rw [b5.1, b4.1, b3.1, b2.1, b1.1]
  have z5 : StrictZip h5 z ins held .ellipsis := b5.extBut _ _ S.TOz.symm (b4.extBut _ _ S.zi2 (b3.extBut _ _ S.TOz.symm (b2.extBut _ _ S.zi1 z1)))
  have lt : z < h5.objs.size := Heap.lt_size z5
  have z6 : StrictZip (h5.push { cls := .type "tuple", data := .seq #[x, y] }) z ins held .ellipsis := Heap.get?_push_of_some _ z5
  have r6 : ∀ {hp : Heap} {f : Value} {v : Value} {Q : Unit → Shared → Prop} {E : Value → Shared → Prop}, StrictZip hp z ins held f → (∀ hq, StrictZip hq z ins held v → Heap.SameBut z hp hq → Q () ⟨hq, g, d, t4, os⟩) → wpAny (model prog w) A (setField (.ref z) 0 v) Q E ⟨hp, g, d, t4, os⟩ := fun a q => wpAny_setField_rec a (by simp) fun hq b c => q hq b c
  have r7 : ∀ {hp : Heap} {f : Value} {Q : Unit → Shared → Prop} {E : Value → Shared → Prop}, StrictZip hp z ins held f → (∀ hq, StrictZip hq z ins held f → Heap.SameBut z hp hq → Q () ⟨hq, g, d, t4, os⟩) → wpAny (model prog w) A (setField (.ref z) 1 (.bool false)) Q E ⟨hp, g, d, t4, os⟩ := fun a q => wpAny_setField_rec a (by simp) fun hq b c => q hq b c
  wp_walk using wpAny_seqItems o5 rfl, r6 z6
  intro h7 z7 b7
  refine r7 z7 fun h8 z8 b8 => wpAny_pure ⟨_, rfl, ?_⟩
  have up : ∀ c o, c ≠ z → h5.get? c = some o → h8.get? c = some o := fun c o ne e => b8.extBut _ _ ne (b7.extBut _ _ ne (Heap.get?_push_of_some _ e))
  have new : IsTupOf2 h8 h5.objs.size x y := b8.extBut _ _ (Nat.ne_of_gt lt) (b7.extBut _ _ (Nat.ne_of_gt lt) (Heap.get?_push_size _ rfl))
  have e8 : h8.objs.size = h5.objs.size + 1 := by rw [b8.1, b7.1, Heap.size_push]
  rw [sz] at z8 new e8
  have a1 : S1 (i + 1) h8 := D1.frame _ _ _ (D1.over (D1.over (D1.over k1 b3 S.Tf1) b4 S.sep2_1) b5 S.Tf1) fun b hb o e => up b o (fun q => S.zf1 (q ▸ hb)) e
  have a2 : S2 (i + 1) h8 := D2.frame _ _ _ (D2.over k2 b5 S.Tf2) fun b hb o e => up b o (fun q => S.zf2 (q ▸ hb)) e
  rw [sz]
  refine q x y h8 t4 px py z8 (up _ _ S.TOz o5) a1 a2 new e8 fun c o nc e => ?_
  simp only [List.mem_cons, List.not_mem_nil, or_false, not_or] at nc
  obtain ⟨cz, cT, c1, c2⟩ := nc
  exact up c o cz (b5.extBut _ _ cT (b4.extBut _ _ c2 (b3.extBut _ _ cT (b2.extBut _ _ c1 (b1.extBut _ _ cz e)))))
theorem strict_none {Q : Fin → Shared → Prop} (hh : A.handled = none) (S : ZipSep2 z ins held j1 j2 f1 f2) (D1 : Draws prog w A j1 f1 n P1 S1) (D2 : Draws prog w A j2 f2 n P2 S2)
    (hz : StrictZip s.heap z ins held .none) (hI : IsTupOf2 s.heap ins (.ref j1) (.ref j2)) (k1 : S1 n s.heap) (k2 : S2 n s.heap)
    (q : ∀ hp tk e, (∀ c o, c ∉ [z, held, j1, j2] → s.heap.get? c = some o → hp.get? c = some o) → (∃ o, hp.get? e = some o ∧ o.cls = .type "StopIteration") → E (.ref e) { s with heap := hp, toks := tk }) :
    wpAny (model prog w) A (Builtin.«zip.__next__» ⟨[.ref z], []⟩) Q E s := by
  obtain ⟨h0, g, d, t0, os⟩ := s
  simp only at hz hI k1 k2 q
  have ast : ∀ {hp : Heap} {v f : Value} {Q : Unit → Shared → Prop} {E : Value → Shared → Prop}, StrictZip hp z ins held f → (∀ h1, StrictZip h1 z ins held v → Heap.SameBut z hp h1 → Q () ⟨h1, g, d, t0, os⟩) → wpAny (model prog w) A (setField (.ref z) 0 v) Q E ⟨hp, g, d, t0, os⟩ := fun a q => wpAny_setField_rec a (by simp) fun h1 a b => q h1 a b
  wp_walk using wpAny_seqItems hI rfl, ast hz, wpAny_onRaise
  intro h1 z1 b1
  have r1 : ∀ {Q : Option Value → Shared → Prop} {E : Value → Shared → Prop}, (∀ hp, Heap.ExtBut j1 h1 hp → Q none ⟨hp, g, d, t0, os⟩) → wpAny (model prog w) A (Builtin.SmallTypes.nextOrEnd (.ref j1)) Q E ⟨h1, g, d, t0, os⟩ := fun q => orEnd_none D1 (D1.over k1 b1 S.zf1) q
  wp_walk using wpAny_onRaise, r1
  intro h2 b2
  have z2 : StrictZip h2 z ins held .ellipsis := b2 _ _ S.zi1 z1
  wp_walk using ast z2
  intro h3 z3 b3
  have r2 : ∀ {Q : Option Value → Shared → Prop} {E : Value → Shared → Prop}, (∀ hp, Heap.ExtBut j2 h3 hp → Q none ⟨hp, g, d, t0, os⟩) → wpAny (model prog w) A (Builtin.SmallTypes.nextOrEnd (.ref j2)) Q E ⟨h3, g, d, t0, os⟩ := fun q => orEnd_none D2 (D2.over (D2.frame _ _ _ (D2.over k2 b1 S.zf2) fun b hb o e => b2 b o (fun x => S.sep1_2 (x ▸ hb)) e) b3 S.zf2) q
  wp_walk using r2
  intro h4 b4
  wp_walk
  simp only [raiseNew]
  refine wpAny_bind (wpAny_handled ?_)
  rw [hh]
  refine wpAny_bind (wpAny_pure (wpAny_throw ?_))
  refine q _ _ _ (fun c o nc e => ?_) ⟨_, Heap.get?_push_size _ rfl, rfl⟩
  simp only [List.mem_cons, List.not_mem_nil, or_false, not_or] at nc
  obtain ⟨cz, cT, c1, c2⟩ := nc
  exact Heap.get?_push_of_some _ (Heap.get?_push_of_some _ (b4 _ _ c2 (b3.extBut _ _ cz (b2 _ _ c1 (b1.extBut _ _ cz e)))))
theorem next_more {Q : Option Value → Shared → Prop} (S : ZipSep2 z ins held j1 j2 f1 f2) (D1 : Draws prog w A.in1 j1 f1 n P1 S1) (D2 : Draws prog w A.in1 j2 f2 n P2 S2)
    (hz : StrictZip s.heap z ins held .none) (hI : IsTupOf2 s.heap ins (.ref j1) (.ref j2)) (hO : IsTupOf2 s.heap held u1 u2) (k1 : S1 i s.heap) (k2 : S2 i s.heap) (hi : i < n)
    (q : ∀ x y hp tk, P1 i x → P2 i y → StrictZip hp z ins held (rawInt s.heap.objs.size) → IsTupOf2 hp held x y → S1 (i + 1) hp → S2 (i + 1) hp → IsTupOf2 hp s.heap.objs.size x y → hp.objs.size = s.heap.objs.size + 1 →
      (∀ c o, c ∉ [z, held, j1, j2] → s.heap.get? c = some o → hp.get? c = some o) → Q (some (.ref s.heap.objs.size)) { s with heap := hp, toks := tk }) : wpAny (model prog w) A (pyNext (.ref z)) Q E s :=
  have ty : s.TypeIs (.ref z) "zip" := ⟨_, hz, rfl⟩
  wpAny_bind (wpAny_attempt (wpAny_callSpecial?_slot (name := Str.ofString "__next__") ty F.slot_zip_next (wpAny_call_entry F.slot_zip_next ty F.entry_zip_next
    (strict_more S D1 D2 hz hI hO k1 k2 hi fun x y hp tk a b c d e f g h l => wpAny_pure (q x y hp tk a b c d e f g h l)) (F.args_zip_next_1 _))))
theorem next_none {Q : Option Value → Shared → Prop} (hh : A.handled = none) (S : ZipSep2 z ins held j1 j2 f1 f2) (D1 : Draws prog w A.in1 j1 f1 n P1 S1) (D2 : Draws prog w A.in1 j2 f2 n P2 S2)
    (hz : StrictZip s.heap z ins held .none) (hI : IsTupOf2 s.heap ins (.ref j1) (.ref j2)) (k1 : S1 n s.heap) (k2 : S2 n s.heap)
    (q : ∀ hp tk, (∀ c o, c ∉ [z, held, j1, j2] → s.heap.get? c = some o → hp.get? c = some o) → Q none { s with heap := hp, toks := tk }) : wpAny (model prog w) A (pyNext (.ref z)) Q E s :=
  have ty : s.TypeIs (.ref z) "zip" := ⟨_, hz, rfl⟩
  wpAny_bind (wpAny_attempt (wpAny_callSpecial?_slot (name := Str.ofString "__next__") ty F.slot_zip_next (wpAny_call_entry F.slot_zip_next ty F.entry_zip_next
    (strict_none (show A.in1.handled = none from hh) S D1 D2 hz hI k1 k2 fun hp tk e k ⟨o, ho, hc⟩ => wpAny_bind (wpAny_isInstance (T := "StopIteration") (b := true) ⟨o, ho, hc⟩ isSubtype_stop (wpAny_pure (q _ _ k)))) (F.args_zip_next_1 _))))
theorem go_strict {elts : List Expr} {kk : Nat} {pos : Pos} {T : Addr} {Q : Unit → Shared → Prop} (hz : StrictZip s.heap z ins held (rawInt T)) (q : ∀ hp, StrictZip hp z ins held .none → Heap.SameBut z s.heap hp → Q () { s with heap := hp }) :
    wpAny (model prog w) A (letOwnedTupleGo (.Tuple elts kk pos) (.ref z) (.ref T)) Q E s := by
  unfold letOwnedTupleGo
  refine wpAny_bind (wpAny_load hz ?_)
  refine wpAny_ite_true (by simp) ?_
  exact wpAny_bind (wpAny_rule (wpAny_setField_rec hz (by simp) fun hp a b => q hp a b))
theorem iter_strict {v : Value} {Q : Value → Shared → Prop} (hz : StrictZip s.heap z ins held v) (q : Q (.ref z) s) : wpAny (model prog w) A (pyIter (.ref z)) Q E s :=
  have ty : s.TypeIs (.ref z) "zip" := ⟨_, hz, rfl⟩
  wpAny_pyIter_slot ty F.slot_zip_iter (wpAny_call_entry F.slot_zip_iter ty F.entry_zip_iter (wpAny_pure ⟨_, rfl, "zip", _, ty, F.slot_zip_next.lookup, q⟩) (F.args_zip_iter_1 _))
end
end PySem
set_option Elab.async false
set_option linter.all false
set_option maxRecDepth 100000
set_option maxHeartbeats 1000000
namespace N
open PySem PySem.Spec PyProof.Rows L2
open C8 (Cal Met Mak InsC pe_c pe_mt pe_mt0 pe_mk)
inductive Kd
  | lst (a : Addr)
  | tup (a : Addr)
  | txt (x : Str)
def Kd.v : Kd → V
  | .lst a => .ref a
  | .tup a => .ref a
  | .txt x => .str x
def Kd.src (K : PySem.W.Frag) (H : Hp) : Kd → List V → Prop
  | .lst a, xs => SqL K H a xs
  | .tup a, xs => SqT K H a xs
  | .txt x, xs => xs = x.cps.toList.map fun c => V.str ⟨#[c]⟩
def Kd.at (k : Kd) (t : Tok) (it : Addr) (i : Nat) (h : Heap) : Prop := match k with
  | .lst a => h.IsListIter it a i
  | .tup a => h.IsTupleIter it a i
  | .txt x => h.IsStrIter it (strIterType x) x t i
def Kd.low (k : Kd) (b : Nat) : Prop := match k with
  | .lst a => a < b
  | .tup a => a < b
  | .txt _ => True
theorem Kd.keep {k : Kd} {t : Tok} {it : Addr} {i : Nat} {h h' : Heap} (s : k.at t it i h) (e : ∀ o, h.get? it = some o → h'.get? it = some o) : k.at t it i h' := by
  cases k with
  | lst a => exact Heap.IsListIter.at s e
  | tup a => exact Heap.IsTupleIter.at s e
  | txt x =>
    obtain ⟨o, ho, r⟩ := s
    exact ⟨o, e o ho, r⟩
theorem Kd.obj {k : Kd} {t : Tok} {it : Addr} {i : Nat} {h : Heap} (s : k.at t it i h) : ∃ o, h.get? it = some o ∧ ∀ v, o.data ≠ .cell v := by
  cases k with
  | lst a =>
    obtain ⟨o, e, _, d⟩ := s
    exact ⟨o, e, fun v q => by rw [d] at q; cases q⟩
  | tup a =>
    obtain ⟨o, e, _, d⟩ := s
    exact ⟨o, e, fun v q => by rw [d] at q; cases q⟩
  | txt x =>
    obtain ⟨o, e, _, d⟩ := s
    exact ⟨o, e, fun v q => by rw [d] at q; cases q⟩
section
variable {X : Cx} {pins : List (Addr × Obj)} {σ : L2.St} {H : Hp} {s : Shared}
theorem Kd.inj {k : Kd} {xs ys : List V} (I : Inv X pins σ H s) (h : k.src X.K H xs) (h' : k.src X.K H ys) : xs = ys := by
  cases k with
  | lst a => exact I.list_inj h h'
  | tup a => exact I.tuple_inj h h'
  | txt x => exact Eq.trans h (Eq.symm h')
/-- the iterator over a source, as it stands now -/
theorem Kd.draws {k : Kd} {t : Tok} {it : Addr} {xs : List V} (I : Inv X pins σ H s) (hc : X.calm = true) (hs : k.src X.K H xs) {b : Nat} (hl : k.low b) (hb : b ≤ it) :
    ∃ (fp : List Addr) (P : Nat → Value → Prop) (St : Nat → Heap → Prop), Draws X.prog X.w X.A.in1 it fp xs.length P St ∧ it ∈ fp ∧ (∀ c ∈ fp, c = it ∨ c < b) ∧ (∀ i, k.at t it i s.heap → St i s.heap) ∧ (∀ i h, St i h → k.at t it i h) ∧ ∀ i v, P i v → ∃ x, xs[i]? = some x ∧ RelV x v := by
  have hh : X.A.in1.handled = none := I.ok.hd hc
  cases k with
  | lst a =>
    obtain ⟨its, rv, p, _⟩ := I.list hs
    have ne : a ≠ it := Nat.ne_of_lt (Nat.lt_of_lt_of_le hl hb)
    have D := Draws.list (prog := X.prog) (w := X.w) hh it a ne its.toArray
    have e : its.toArray.size = xs.length := by simp [rv.length]
    rw [e] at D
    refine ⟨_, _, _, D, by simp, fun c hc => ?_, fun i st => ⟨st, p.isList⟩, fun i h st => st.1, fun i v h => ?_⟩
    · simp at hc
      rcases hc with e | e
      · exact .inl e
      · subst e
        exact .inr hl
    · have h : its[i]? = some v := by simpa using h
      have hi : i < xs.length := by
        have := (List.getElem?_eq_some_iff.mp h).1
        rw [rv.length]
        exact this
      obtain ⟨u, hu, ru⟩ := rv.get (List.getElem?_eq_getElem hi)
      rw [h] at hu
      cases hu
      exact ⟨_, List.getElem?_eq_getElem hi, ru⟩
  | tup a =>
    obtain ⟨its, rv, p, _⟩ := I.tuple hs
    have ne : a ≠ it := Nat.ne_of_lt (Nat.lt_of_lt_of_le hl hb)
    have D := Draws.tuple (prog := X.prog) (w := X.w) hh it a ne its.toArray
    have e : its.toArray.size = xs.length := by simp [rv.length]
    rw [e] at D
    refine ⟨_, _, _, D, by simp, fun c hc => ?_, fun i st => ⟨st, p⟩, fun i h st => st.1, fun i v h => ?_⟩
    · simp at hc
      rcases hc with e | e
      · exact .inl e
      · subst e
        exact .inr hl
    · have h : its[i]? = some v := by simpa using h
      have hi : i < xs.length := by
        have := (List.getElem?_eq_some_iff.mp h).1
        rw [rv.length]
        exact this
      obtain ⟨u, hu, ru⟩ := rv.get (List.getElem?_eq_getElem hi)
      rw [h] at hu
      cases hu
      exact ⟨_, List.getElem?_eq_getElem hi, ru⟩
  | txt x =>
    have hs : xs = x.cps.toList.map fun c => V.str ⟨#[c]⟩ := hs
    subst hs
    have D := Draws.text (prog := X.prog) (w := X.w) hh it x t
    have e : (x.cps.toList.map fun c => V.str ⟨#[c]⟩).length = x.cps.size := by simp
    rw [e]
    refine ⟨_, _, _, D, by simp, fun c hc => .inl (by simpa using hc), fun i st => st, fun i h st => st, fun i v ⟨c, u, h1, h2⟩ => ?_⟩
    refine ⟨.str ⟨#[c]⟩, ?_, u, h2⟩
    rw [List.getElem?_map]
    have : x.cps.toList[i]? = some c := by simpa using h1
    rw [this]
    rfl
end
def ZAt (strict : Bool) (h : Heap) (z ins held : Addr) (v : Value) : Prop := if strict then StrictZip h z ins held v else IsZip h z ins held v
def ItzK (K : PySem.W.Frag) (k1 k2 : Kd) (strict : Bool) : It :=
  ⟨fun i H => ∃ xs ys : List V, k1.src K H xs ∧ k2.src K H ys ∧ i < xs.length ∧ i < ys.length ∧ (strict = true → xs.length = ys.length),
    fun i H v H' => ∃ T x y, v = .ref T ∧ H T = none ∧ H' = upd H T (.tup [x, y]) ∧ (∀ xs, k1.src K H xs → xs[i]? = some x) ∧ ∀ ys, k2.src K H ys → ys[i]? = some y,
    fun i H => ∃ xs ys : List V, k1.src K H xs ∧ k2.src K H ys ∧ i ≤ xs.length ∧ i ≤ ys.length ∧ (i = xs.length ∨ i = ys.length) ∧ (strict = true → xs.length = ys.length)⟩
theorem ne_add {b c d : Nat} (h : c ≠ d) : b + c ≠ b + d := by omega
theorem zno {b k : Nat} (h : k ≠ 0) (_ : 0 ≠ k) : ¬ (b + k = b ∨ b + k < b) := by omega
theorem zno2 {b k : Nat} (h : k ≠ 1) : ¬ (b + k = b + 1 ∨ b + k < b) := by omega
theorem zsep {b : Nat} {f1 f2 : List Addr} (m1 : b ∈ f1) (m2 : b + 1 ∈ f2) (h1 : ∀ c ∈ f1, c = b ∨ c < b) (h2 : ∀ c ∈ f2, c = b + 1 ∨ c < b) : ZipSep2 (b + 4) (b + 2) (b + 3) b (b + 1) f1 f2 where
  TIz := ne_add (by decide)
  TOz := ne_add (by decide)
  TITO := ne_add (by decide)
  TIi1 := ne_add (c := 2) (d := 0) (by decide)
  mem1 := m1
  zf1 := fun h => zno (by decide) (by decide) (h1 _ h)
  Tf1 := fun h => zno (by decide) (by decide) (h1 _ h)
  TIi2 := ne_add (by decide)
  mem2 := m2
  zf2 := fun h => zno2 (by decide) (h2 _ h)
  Tf2 := fun h => zno2 (by decide) (h2 _ h)
  sep1_2 := fun h => zno2 (k := 0) (by decide) (h2 _ h)
  sep2_1 := fun h => zno (by decide) (by decide) (h1 _ h)
theorem turn_zipK {P : Program} {w : World} {K : PySem.W.Frag} {elts : List Expr} {kk : Nat} {tpos : Pos} {k1 k2 : Kd} {u1 u2 : Tok} {strict : Bool} {b : Nat} (l1 : k1.low b) (l2 : k2.low b) :
    Turn P w K (.Tuple elts kk tpos) (ItzK K k1 k2 strict) [b + 4, b + 2, b + 3, b, b + 1] (b + 4) (fun i h => ZAt strict h (b + 4) (b + 2) (b + 3) .none ∧ IsTupOf2 h (b + 2) (.ref b) (.ref (b + 1)) ∧ (∃ u v, IsTupOf2 h (b + 3) u v) ∧ k1.at u1 b i h ∧ k2.at u2 (b + 1) i h) where
  mem := by simp
  obj := fun i h st c hc => by
    obtain ⟨hz, hI, ⟨x, y, hO⟩, s1, s2⟩ := st
    simp only [List.mem_cons, List.not_mem_nil, or_false] at hc
    rcases hc with rfl | rfl | rfl | rfl | rfl
    · cases strict
      · exact ⟨_, hz, fun v q => nomatch q⟩
      · exact ⟨_, hz, fun v q => nomatch q⟩
    · exact ⟨_, hI, fun v q => nomatch q⟩
    · exact ⟨_, hO, fun v q => nomatch q⟩
    · exact Kd.obj s1
    · exact Kd.obj s2
  keep := fun i h h' st k => by
    obtain ⟨hz, hI, ⟨x, y, hO⟩, s1, s2⟩ := st
    refine ⟨?_, k _ (by simp) _ hI, ⟨x, y, k _ (by simp) _ hO⟩, Kd.keep s1 fun o e => k _ (by simp) o e, Kd.keep s2 fun o e => k _ (by simp) o e⟩
    cases strict
    · exact k (b + 4) (by simp) _ hz
    · exact k (b + 4) (by simp) _ hz
  item := by
    intro X hP hw hK hc i pins s σ H E I hf st hg
    subst hP hw hK
    obtain ⟨hz, hI, ⟨x0, y0, hO⟩, s1, s2⟩ := st
    obtain ⟨xs, ys, hx, hy, i1, i2, hst⟩ := hg
    obtain ⟨f1, P1, S1, D1, m1, b1, t1, o1, v1⟩ := Kd.draws (t := u1) (it := b) I hc hx l1 (Nat.le_refl _)
    obtain ⟨f2, P2, S2, D2, m2, b2, t2, o2, v2⟩ := Kd.draws (t := u2) (it := b + 1) I hc hy l2 (Nat.le_succ _)
    have S := zsep m1 m2 b1 b2
    have lt : b + 4 < s.heap.objs.size := by cases strict <;> exact Heap.lt_size hz
    have fin : ∀ (x y : Value) (h' h2 : Heap) (tk : Tok), P1 i x → P2 i y → ZAt strict h2 (b + 4) (b + 2) (b + 3) .none → Heap.SameBut (b + 4) h' h2 → IsTupOf2 h' (b + 3) x y → S1 (i + 1) h' → S2 (i + 1) h' → IsTupOf2 h' s.heap.objs.size x y →
        (∀ c o, c ≠ b + 4 → c ≠ b + 3 → c ≠ b → c ≠ b + 1 → s.heap.get? c = some o → h'.get? c = some o) →
        ∃ (v : V) (H' : Hp), Inv X pins σ H' { s with heap := h2, toks := tk } ∧ RelV v (.ref s.heap.objs.size) ∧ (ItzK X.K k1 k2 strict).yld i H v H' ∧
          (ZAt strict h2 (b + 4) (b + 2) (b + 3) .none ∧ IsTupOf2 h2 (b + 2) (.ref b) (.ref (b + 1)) ∧ (∃ u v, IsTupOf2 h2 (b + 3) u v) ∧ k1.at u1 b (i + 1) h2 ∧ k2.at u2 (b + 1) (i + 1) h2) ∧ ∀ c ∈ [b + 4, b + 2, b + 3, b, b + 1], H' c = none := by
      intro x y h' h2 tk px py z2 sb o' a1 a2 new kp
      obtain ⟨u, gu, ru⟩ := v1 i x px
      obtain ⟨v, gv, rv⟩ := v2 i y py
      have up : ∀ c o, c ≠ b + 4 → h'.get? c = some o → h2.get? c = some o := fun c o ne e => (sb.2 c ne).trans e
      have new2 : IsTupOf2 h2 s.heap.objs.size x y := up _ _ (Nat.ne_of_gt lt) new
      have ok : ObjOk X.prog X.w (upd H s.heap.objs.size (.tup [u, v])) h2 s.heap.objs.size (.tup [u, v]) :=
        ⟨by show 2 ≤ sizeLine; decide, [x, y], .cons ru (.cons rv .nil), ⟨_, new2, rfl, _, rfl⟩⟩
      have I1 : Inv X pins σ (upd H s.heap.objs.size (.tup [u, v])) { s with heap := h2, toks := tk } :=
        I.turnedNew (t' := tk) (ch := [b + 4, b + 2, b + 3, b, b + 1]) (fun c o hb q => up c o (fun q' => hb (by simp [q'])) (kp c o (fun q' => hb (by simp [q'])) (fun q' => hb (by simp [q'])) (fun q' => hb (by simp [q'])) (fun q' => hb (by simp [q'])) q)) hf (Nat.le_refl _) ok
      refine ⟨.ref s.heap.objs.size, _, I1, rfl, ⟨_, u, v, rfl, I.hok.fresh (Nat.le_refl _), rfl, fun l hl => by rw [Kd.inj I hl hx]; exact gu, fun l hl => by rw [Kd.inj I hl hy]; exact gv⟩, ⟨z2, ?_, ⟨x, y, up _ _ (ne_add (by decide)) o'⟩, ?_, ?_⟩, fun c hcm => ?_⟩
      · exact up _ _ (ne_add (by decide)) (kp _ _ (ne_add (by decide)) (ne_add (by decide)) (ne_add (c := 2) (d := 0) (by decide)) (ne_add (by decide)) hI)
      · exact Kd.keep (o1 _ _ a1) fun o e => up _ _ (ne_add (c := 0) (d := 4) (by decide)) e
      · exact Kd.keep (o2 _ _ a2) fun o e => up _ _ (ne_add (by decide)) e
      · have hlt : c < s.heap.objs.size := by
          simp only [List.mem_cons, List.not_mem_nil, or_false] at hcm
          have lt : (b : Nat) + 4 < s.heap.objs.size := lt
          rcases hcm with rfl | rfl | rfl | rfl | rfl
          · exact lt
          · exact Nat.lt_trans (Nat.add_lt_add_left (by decide) b) lt
          · exact Nat.lt_trans (Nat.add_lt_add_left (by decide) b) lt
          · exact Nat.lt_of_le_of_lt (Nat.le_add_right _ 4) lt
          · exact Nat.lt_trans (Nat.add_lt_add_left (by decide) b) lt
        rw [upd_ne (Nat.ne_of_lt hlt)]
        exact (hf c hcm).1
    cases strict with
    | false =>
      refine wpAny_pyNext_zipD2_item S D1 D2 hz hI hO (t1 _ s1) (t2 _ s2) i1 i2 fun x y h' tk px py z' o' a1 a2 new _ kp => ?_
      exact ⟨_, rfl, wpAny_letOwnedTupleGo_zip (s := { s with heap := h', toks := tk }) z' fun h2 z2 sb => fin x y h' h2 tk px py z2 sb o' a1 a2 new kp⟩
    | true =>
      have e := hst rfl
      rw [← e] at D2
      refine next_more S D1 D2 hz hI hO (t1 _ s1) (t2 _ s2) i1 fun x y h' tk px py z' o' a1 a2 new _ kp => ?_
      exact ⟨_, rfl, go_strict (s := { s with heap := h', toks := tk }) z' fun h2 z2 sb => fin x y h' h2 tk px py z2 sb o' a1 a2 new fun c o c1 c2 c3 c4 q => kp c o (by simp only [List.mem_cons, List.not_mem_nil, or_false, not_or]; exact ⟨c1, c2, c3, c4⟩) q⟩
  done := by
    intro X hP hw hK hc i pins s σ H E I hf st hg
    subst hP hw hK
    obtain ⟨hz, hI, ⟨x0, y0, hO⟩, s1, s2⟩ := st
    obtain ⟨xs, ys, hx, hy, i1, i2, he, hst⟩ := hg
    obtain ⟨f1, P1, S1, D1, m1, b1, t1, o1, v1⟩ := Kd.draws (t := u1) (it := b) I hc hx l1 (Nat.le_refl _)
    obtain ⟨f2, P2, S2, D2, m2, b2, t2, o2, v2⟩ := Kd.draws (t := u2) (it := b + 1) I hc hy l2 (Nat.le_succ _)
    have S := zsep m1 m2 b1 b2
    cases strict with
    | false => exact wpAny_pyNext_zipD2_end S D1 D2 hz hI hO (t1 _ s1) (t2 _ s2) i1 i2 he fun h' tk k => ⟨rfl, I.turnedL (t' := tk) (ch := [b + 4, b + 2, b + 3, b, b + 1]) (fun c o hb q =>
        k c o (fun q' => hb (by simp [q'])) (fun q' => hb (by simp [q'])) (fun q' => hb (by simp [q'])) (fun q' => hb (by simp [q'])) q) hf⟩
    | true =>
      have e := hst rfl
      have ei : i = xs.length := by omega
      subst ei
      rw [← e] at D2
      exact next_none (I.ok.hd hc) S D1 D2 hz hI (t1 _ s1) (t2 _ s2) fun h' tk k => ⟨rfl, I.turnedL (t' := tk) (ch := [b + 4, b + 2, b + 3, b, b + 1]) (fun c o hb q => k c o (fun q' => hb (by simp only [List.mem_cons, List.not_mem_nil, or_false] at q' ⊢; rcases q' with h | h | h | h <;> simp [h])) q) hf⟩
  self := fun A i s Q E st h => by
    cases strict
    · exact wpAny_pyIter_zip st.1 h
    · exact iter_strict st.1 h
end N
set_option Elab.async false
set_option linter.all false
set_option maxRecDepth 100000
set_option maxHeartbeats 1000000
namespace PySem
open Sem (wp)
end PySem
namespace N
open PySem PySem.Spec PyProof.Rows L2
open C8 (Cal Met Mak InsC pe_c pe_mt pe_mt0 pe_mk)
section
variable {X : Cx} {pins : List (Addr × Obj)} {σ : L2.St} {H : Hp} {s : Shared}
theorem Kd.begins {k : Kd} {xs : List V} {u : Value} (I : Inv X pins σ H s) (hs : k.src X.K H xs) (r : RelV k.v u) :
    k.low s.heap.objs.size ∧ ∃ (t : Tok) (o : Obj) (Hq : Heap → Prop), Begins u o Hq ∧ Hq s.heap ∧ ∀ (h : Heap) (it : Addr), h.get? it = some o → k.at t it 0 h := by
  cases k with
  | lst a =>
    cases r
    obtain ⟨its, rv, p, _⟩ := I.list hs
    exact ⟨p.lt, default, _, _, begins_list a its.toArray, p.isList, fun h it e => ⟨_, e, rfl, rfl⟩⟩
  | tup a =>
    cases r
    obtain ⟨its, rv, p, _⟩ := I.tuple hs
    obtain ⟨o, ho, _⟩ := id p
    exact ⟨Heap.lt_size ho, default, _, _, begins_tuple a its.toArray, p, fun h it e => ⟨_, e, rfl, rfl⟩⟩
  | txt x =>
    obtain ⟨t, rfl⟩ := r
    exact ⟨trivial, t, _, _, begins_text x t, trivial, fun h it e => ⟨_, e, rfl, rfl⟩⟩
end
def iZipK (K : PySem.W.Frag) (strict : Bool) (ta : TA) : TI := fun σ H R => ta σ H fun vs H1 => ∃ (k1 k2 : Kd) (xs ys : List V), vs = [k1.v, k2.v] ∧ k1.src K H1 xs ∧ k2.src K H1 ys ∧ R (ItzK K k1 k2 strict) H1
theorem pi_zipK {X : Cx} {e e2 : Expr} {ta : TA} {p pos tpos : Pos} {elts : List Expr} {kk : Nat} (hg : Gl X "zip") (hm : X.mg "zip" = none) (ha : PA X [e, e2] ta)
    (hs : starEach [e, e2] X.env = (false, eval e X.env) :: starEach [e2] X.env := by rfl) (hpl : (backTo pos (starEach [e2] X.env)).any (·.1) = false := by rfl) :
    PI X (.Tuple elts kk tpos) (.Call (.Name "zip" p) [e, e2] [] pos) (iZipK X.K false ta) := by
  refine ⟨fun pins s σ H R I h => ?_⟩
  refine Call_ (ld_blt I hg hm PyProof.Rows.boot_zip (PyProof.Rows.callWith_type1 (thn (ha.run pos pins s σ H _ I h) fun us s1 ⟨vs, H1, I1, r1, q1⟩ => ?_) hs hpl))
  obtain ⟨k1, k2, xs, ys, ex, hx, hy, q⟩ := q1
  subst ex
  cases r1 with
  | cons r rr =>
    cases rr with
    | cons r' rr =>
      cases rr
      obtain ⟨l1, t1, o1, G1, B1, g1, z1⟩ := Kd.begins I1 hx r
      obtain ⟨l2, t2, o2, G2, B2, g2, z2⟩ := Kd.begins I1 hy r'
      refine zip_begins2 B1 B2 g1 g2 fun h' hz hI hO e1 e2 _ kp => wpAny_pyIter_zip hz ?_
      have I2 : Inv X pins σ H1 { s1 with heap := h' } := I1.kept (t' := s1.toks) kp
      refine ⟨_, _, _, _, H1, rfl, I2, turn_zipK (b := s1.heap.objs.size) (strict := false) (u1 := t1) (u2 := t2) l1 l2, ⟨hz, hI, ⟨_, _, hO⟩, z1 _ _ e1, z2 _ _ e2⟩, fun c hc => ?_, q⟩
      have le : s1.heap.objs.size ≤ c := by
        simp only [List.mem_cons, List.not_mem_nil, or_false] at hc
        rcases hc with rfl | rfl | rfl | rfl | rfl
        · exact Nat.le_add_right _ _
        · exact Nat.le_add_right _ _
        · exact Nat.le_add_right _ _
        · exact Nat.le_refl _
        · exact Nat.le_add_right _ _
      exact I1.fpOk le (I1.hok.fresh le)
section
variable {F : FmKit} {T : Kx} {C H H' O O' : Hp} {G : Gm} {W W' : Om} {R : D → Om → Prop} {d e : D} {l m : List D} {ta tk : TA}
/-- a datum that zip takes: list, tuple, text; nothing that is still written -/
def Zs (d : D) (l : List D) : Prop := d = .lst l ∨ d = .tup l ∨ ∃ x : Str, d = .str x ∧ l = x.cps.toList.map fun c => D.str ⟨#[c]⟩
def pairs2 (l m : List D) : List D := (l.zip m).map fun p => .tup [p.1, p.2]
theorem den_chars (x : Str) : DenL F T H (x.cps.toList.map fun c => D.str ⟨#[c]⟩) (x.cps.toList.map fun c => V.str ⟨#[c]⟩) := by
  induction x.cps.toList with
  | nil => rfl
  | cons c cs ih => exact ⟨_, _, rfl, rfl, ih⟩
/-- the source at the machine; it stands -/
theorem Zs.kd {x : V} (h : Zs d l) (k : Den F T H d x) : ∃ (kd : Kd) (xs : List V), x = kd.v ∧ DenL F T H l xs ∧ ∀ H2 O2, Same H H2 → Dis O2 H2 → kd.src T.K (ov O2 H2) xs := by
  rcases h with rfl | rfl | ⟨z, rfl, rfl⟩
  · obtain ⟨a, xs, e, hs, kl⟩ := k
    exact ⟨.lst a, xs, e, kl, fun H2 O2 s di => di.same.seq (s.seq (SqL.of hs))⟩
  · obtain ⟨a, xs, e, hs, kl⟩ := k
    exact ⟨.tup a, xs, e, kl, fun H2 O2 s di => Same.sqT di.same (Same.sqT s hs)⟩
  · have k : x = .str z := k
    exact ⟨.txt z, _, k, den_chars z, fun _ _ _ _ => rfl⟩
theorem pairs2_len : (pairs2 l m).length = min l.length m.length := by simp [pairs2]
theorem pairs2_get {i : Nat} {z : D} (h : (pairs2 l m)[i]? = some z) : ∃ x y, l[i]? = some x ∧ m[i]? = some y ∧ z = .tup [x, y] := by
  unfold pairs2 at h
  rw [List.getElem?_map] at h
  obtain ⟨p, hp, e⟩ := Option.map_eq_some_iff.mp h
  rw [List.getElem?_zip_eq_some] at hp
  exact ⟨p.1, p.2, hp.1, hp.2, e.symm⟩
/-- the walk over a zip -/
theorem wk_zip {H1 : Hp} {k1 k2 : Kd} {xs ys : List V} {strict : Bool} (a1 : DenL F T H1 l xs) (a2 : DenL F T H1 m ys) (s1 : ∀ H2 O2, Same H1 H2 → Dis O2 H2 → k1.src T.K (ov O2 H2) xs) (s2 : ∀ H2 O2, Same H1 H2 → Dis O2 H2 → k2.src T.K (ov O2 H2) ys) (e : strict = true → l.length = m.length) :
    Wk F T (ItzK T.K k1 k2 strict) H1 (pairs2 l m) := fun i H2 O2 s di => by
  refine ⟨fun d hd => ?_, fun ei => ?_⟩
  · obtain ⟨x, y, hx, hy, rfl⟩ := pairs2_get hd
    obtain ⟨u, hu, ku⟩ := a1.get hx
    obtain ⟨v, hv, kv⟩ := a2.get hy
    have i1 := (List.getElem?_eq_some_iff.mp hu).1
    have i2 := (List.getElem?_eq_some_iff.mp hv).1
    refine ⟨⟨xs, ys, s1 _ _ s di, s2 _ _ s di, i1, i2, fun z => by rw [a1.len, a2.len]; exact e z⟩, fun w X ⟨Tp, u', v', e1, e2, e3, e4, e5⟩ => ?_⟩
    have hu' := e4 xs (s1 _ _ s di)
    have hv' := e5 ys (s2 _ _ s di)
    rw [hu] at hu'
    rw [hv] at hv'
    cases hu'
    cases hv'
    obtain ⟨h1, h2⟩ := ov_none e2
    have sm := same_upd (o := .tup [u, v]) h2
    refine ⟨upd H2 Tp (.tup [u, v]), sm, di.updH h1, by rw [e3, ov_updH h1], Tp, _, e1, SqT.of upd_same, ?_⟩
    exact ⟨u, _, rfl, (ku.mono s).mono sm, v, _, rfl, (kv.mono s).mono sm, rfl⟩
  · rw [pairs2_len] at ei
    have h1 := a1.len
    have h2 := a2.len
    exact ⟨xs, ys, s1 _ _ s di, s2 _ _ s di, by omega, by omega, by omega, fun z => by rw [h1, h2]; exact e z⟩
theorem ei_zipK {Y : List D → Om → Prop} (h : EvA F T ta G W fun ds W1 => ∃ d e l m, ds = [d, e] ∧ Zs d l ∧ Zs e m ∧ Y (pairs2 l m) W1) : EvI F T (iZipK T.K false ta) G W Y := fun C H O σ w Q q =>
  h C H O σ w _ fun ds W1 H1 O1 us ⟨d, e, l, m, ed, z1, z2, y⟩ n k => by
    subst ed
    obtain ⟨x, r, e1, k1, x2, r2, e2, k2, e3⟩ := k
    have e3 : r2 = [] := e3
    subst e3 e2 e1
    obtain ⟨kd1, xs, ex, a1, s1⟩ := z1.kd k1
    obtain ⟨kd2, ys, ey, a2, s2⟩ := z2.kd k2
    subst ex ey
    exact ⟨kd1, kd2, xs, ys, rfl, s1 _ _ (.refl _) n.dis, s2 _ _ (.refl _) n.dis, q _ _ W1 H1 O1 y n (wk_zip a1 a2 s1 s2 fun z => by cases z)⟩
end
end N
set_option Elab.async false
set_option linter.all false
set_option maxRecDepth 100000
set_option maxHeartbeats 1000000
namespace N
open PySem PySem.Spec PyProof.Rows L2
open C8 (Cal Met Mak InsC pe_c pe_mt pe_mt0 pe_mk)
def rLtS : R2 := fun x y H Q => ∃ a b : Str, x = .str a ∧ y = .str b ∧ Q (.bl (decide (a.cps.toList < b.cps.toList))) H
section
variable {X : Cx} {o e : Expr} {apos cpos : Pos} {td ty : TE}
theorem op_lt_str : OpR X (compareOp .Lt) rLtS := by
  intro pins s σ H x y v u Q I rx ry h
  obtain ⟨a, b, rfl, rfl, q⟩ := h
  obtain ⟨t, rfl⟩ := rx
  obtain ⟨t', rfl⟩ := ry
  exact PyProof.Rows.lt_str ⟨.bl (decide (a.cps.toList < b.cps.toList)), H, I, rfl, q⟩
end
section
variable {F : FmKit} {T : Kx} {C H H' O O' : Hp} {G : Gm} {W W' : Om} {R : D → Om → Prop} {d e : D} {l m : List D} {te ta tb : TE}
theorem bo_ltS {a b : Str} (r : R (.bl (decide (a.cps.toList < b.cps.toList))) W) : Bo F T rLtS (.str a) (.str b) W R := op_sc fun H Q k => ⟨a, b, rfl, rfl, k _ r⟩
end
end N
set_option Elab.async false
set_option linter.all false
set_option maxRecDepth 100000
set_option maxHeartbeats 1000000
namespace PySem
open Sem (wp)
theorem tc_enum (a : Value) : checkTypeCall "enumerate" ⟨[a], []⟩ = pure () := by kernel_rfl
theorem nc_enum (a : Value) : checkBuiltinCall "enumerate.__new__" ⟨[.type "enumerate", a], []⟩ = pure () := by kernel_rfl
theorem ao_enum (obj a : Value) : argsOk "object.__init__" ⟨[obj, a], []⟩ := by unfold argsOk; kernel_rfl
theorem meets_enum {v : Value} {p : Obj} {Hp : Heap → Prop} (B : Begins v p Hp) :
    Meets (Builtin.«enumerate.__new__» ⟨[.type "enumerate", v], []⟩) (fun _ R s => Hp s.heap ∧ R (.ok (.ret (.ref (s.heap.push p).objs.size))) { s with heap := (s.heap.push p).push { cls := .type "enumerate", data := .fields #[.none, .bool false, .ref s.heap.objs.size, rawInt 0, .none, .none] } }) :=
  .of_wp fun prog w A R s h => by
    obtain ⟨hp, g, d, tk, os⟩ := s
    obtain ⟨a1, h⟩ := h
    have hsub := sub_enumerate
    have q1 : ∀ {A' : Around} {E : Value → Shared → Prop} {Q : Value → Shared → Prop}, Q (.ref hp.objs.size) ⟨hp.push p, g, d, tk, os⟩ → wpAny (model prog w) A' (pyIter v) Q E ⟨hp, g, d, tk, os⟩ :=
      fun z => B.iter prog w _ _ ⟨hp, g, d, tk, os⟩ _ a1 z
    wp_walk using q1
    refine wpAny_stack_any fun st => wpAny_pure ?_
    split
    · rename_i c _ _ _ _ _
      cases (c == Value.type "enumerate") <;> (wp_walk using q1; exact ⟨_, rfl, h⟩)
    · wp_walk using q1
      exact ⟨_, rfl, h⟩
section
variable {prog : Program} {w : World} {A : Around} {E : Value → Shared → Prop} {s : Shared}
theorem enum1_begins {v : Value} {p : Obj} {Hq : Heap → Prop} {Q : Value → Shared → Prop} (B : Begins v p Hq) (a1 : Hq s.heap)
    (h : ∀ h', IsEnum h' (s.heap.objs.size + 1) s.heap.objs.size 0 .none → h'.get? s.heap.objs.size = some p → (∀ c o, s.heap.get? c = some o → h'.get? c = some o) → Q (.ref (s.heap.objs.size + 1)) { s with heap := h' }) :
    wpAny (model prog w) A (call (.type "enumerate") [v]) Q E s := by
  refine callType_new F.called_enumerate (by decide) (tc_enum _) (nc_enum _) (fun obj => ao_enum obj _) F.entry_enumerate_new (meets_enum B) ⟨a1, ?_⟩
  have e0 : (s.heap.push p).objs.size = s.heap.objs.size + 1 := Heap.size_push ..
  show _ ∧ _
  have g := Heap.get?_push_size (s.heap.push p) (o := { cls := .type "enumerate", data := .fields #[.none, .bool false, .ref s.heap.objs.size, rawInt 0, .none, .none] }) rfl
  rw [e0] at g ⊢
  exact ⟨⟨_, g, rfl⟩, h _ g (Heap.get?_push_of_some _ (Heap.get?_push_size _ B.free)) fun c o e => Heap.get?_push_of_some _ (Heap.get?_push_of_some _ e)⟩
end
end PySem
namespace N
open PySem PySem.Spec PyProof.Rows L2
open C8 (Cal Met Mak InsC pe_c pe_mt pe_mt0 pe_mk)
def IteK (K : PySem.W.Frag) (k : Kd) (c : Int) : It :=
  ⟨fun i H => ∃ xs : List V, k.src K H xs ∧ i < xs.length,
    fun i H v H' => ∃ T x, v = .ref T ∧ H T = none ∧ H' = upd H T (.tup [.int (c + (i : Nat)), x]) ∧ ∀ xs, k.src K H xs → xs[i]? = some x,
    fun i H => ∃ xs : List V, k.src K H xs ∧ i = xs.length⟩
theorem turn_enumK {P : Program} {w : World} {K : PySem.W.Frag} {elts : List Expr} {kk : Nat} {tpos : Pos} {k : Kd} {c : Int} {u1 : Tok} {b : Nat} (l1 : k.low b) :
    Turn P w K (.Tuple elts kk tpos) (IteK K k c) [b + 1, b] (b + 1) (fun i h => (∃ old, IsEnum h (b + 1) b (c + (i : Nat)) old) ∧ k.at u1 b i h) where
  mem := by simp
  obj := fun i h st d hd => by
    obtain ⟨⟨old, he⟩, s1⟩ := st
    simp only [List.mem_cons, List.not_mem_nil, or_false] at hd
    rcases hd with rfl | rfl
    · exact ⟨_, he, fun v q => nomatch q⟩
    · exact Kd.obj s1
  keep := fun i h h' st z => by
    obtain ⟨⟨old, he⟩, s1⟩ := st
    exact ⟨⟨old, z _ (by simp) _ he⟩, Kd.keep s1 fun o e => z _ (by simp) o e⟩
  item := by
    intro X hP hw hK hc i pins s σ H E I hf st hg
    subst hP hw hK
    obtain ⟨⟨old, he⟩, s1⟩ := st
    obtain ⟨xs, hx, hi⟩ := hg
    obtain ⟨f1, P1, S1, D1, m1, b1, t1, o1, v1⟩ := Kd.draws (t := u1) (it := b) I hc hx l1 (Nat.le_refl _)
    have lt : b + 1 < s.heap.objs.size := Heap.lt_size he
    refine wpAny_pyNext_enum_itemC D1 he (t1 _ s1) hi (ne_add (c := 1) (d := 0) (by decide)) (fun h => zno (by decide) (by decide) (b1 _ h)) fun x h' tk px ho a1 hT _ kp => ?_
    refine ⟨_, rfl, wpAny_letOwnedTupleGo_enum (s := { s with heap := h', toks := tk + 1 }) ho fun h2 he2 sb => ?_⟩
    obtain ⟨u, gu, ru⟩ := v1 i x px
    have up : ∀ d o, d ≠ b + 1 → h'.get? d = some o → h2.get? d = some o := fun d o ne e => (sb.2 d ne).trans e
    have new2 : h2.get? s.heap.objs.size = some { cls := .type "tuple", data := .seq #[.int (c + (i : Nat)) tk, x] } := up _ _ (Nat.ne_of_gt lt) hT
    have ok : ObjOk X.prog X.w (upd H s.heap.objs.size (.tup [.int (c + (i : Nat)), u])) h2 s.heap.objs.size (.tup [.int (c + (i : Nat)), u]) :=
      ⟨by show 2 ≤ sizeLine; decide, [.int (c + (i : Nat)) tk, x], .cons ⟨_, rfl⟩ (.cons ru .nil), ⟨_, new2, rfl, _, rfl⟩⟩
    have I1 : Inv X pins σ (upd H s.heap.objs.size (.tup [.int (c + (i : Nat)), u])) { s with heap := h2, toks := tk + 1 } :=
      I.turnedNew (t' := tk + 1) (ch := [b + 1, b]) (fun d o hb q => up d o (fun q' => hb (by simp [q'])) (kp d o (fun q' => hb (by simp [q'])) (fun q' => hb (by simp [q'])) q)) hf (Nat.le_refl _) ok
    refine ⟨.ref s.heap.objs.size, _, I1, rfl, ⟨_, u, rfl, I.hok.fresh (Nat.le_refl _), rfl, fun l hl => by rw [Kd.inj I hl hx]; exact gu⟩, ⟨⟨x, ?_⟩, ?_⟩, fun d hd => ?_⟩
    · have e1 : c + ((i + 1 : Nat) : Int) = c + (i : Nat) + 1 := by omega
      rw [e1]
      exact he2
    · exact Kd.keep (o1 _ _ a1) fun o e => up _ _ (ne_add (c := 0) (d := 1) (by decide)) e
    · have hlt : d < s.heap.objs.size := by
        simp only [List.mem_cons, List.not_mem_nil, or_false] at hd
        rcases hd with rfl | rfl
        · exact lt
        · exact Nat.lt_of_succ_lt lt
      rw [upd_ne (Nat.ne_of_lt hlt)]
      exact (hf d hd).1
  done := by
    intro X hP hw hK hc i pins s σ H E I hf st hg
    subst hP hw hK
    obtain ⟨⟨old, he⟩, s1⟩ := st
    obtain ⟨xs, hx, rfl⟩ := hg
    obtain ⟨f1, P1, S1, D1, m1, b1, t1, o1, v1⟩ := Kd.draws (t := u1) (it := b) I hc hx l1 (Nat.le_refl _)
    exact wpAny_pyNext_enum_endD D1 he (t1 _ s1) fun h' z => ⟨rfl, I.turnedL (t' := s.toks) (ch := [b + 1, b]) (fun d o hb q => z d o (fun q' => hb (by simp [q'])) q) hf⟩
  self := fun A i s Q E st h => let ⟨⟨_, he⟩, _⟩ := st; wpAny_pyIter_enum he h
def iEnumK (K : PySem.W.Frag) (ta : TA) : TI := fun σ H R => ta σ H fun vs H1 => ∃ (k : Kd) (xs : List V), vs = [k.v] ∧ k.src K H1 xs ∧ R (IteK K k 0) H1
theorem pi_enumK {X : Cx} {e : Expr} {ta : TA} {p pos tpos : Pos} {elts : List Expr} {kk : Nat} (hg : Gl X "enumerate") (hm : X.mg "enumerate" = none) (ha : PA X [e] ta) (hs : starEach [e] X.env = [(false, eval e X.env)] := by rfl) :
    PI X (.Tuple elts kk tpos) (.Call (.Name "enumerate" p) [e] [] pos) (iEnumK X.K ta) := by
  refine ⟨fun pins s σ H R I h => ?_⟩
  refine Call_ (ld_blt I hg hm boot_enumerate (PyProof.Rows.callWith_type1 (thn (ha.run pos pins s σ H _ I h) fun us s1 ⟨vs, H1, I1, r1, q1⟩ => ?_) hs rfl))
  obtain ⟨k, xs, ex, hx, q⟩ := q1
  subst ex
  cases r1 with
  | cons r rr =>
    cases rr
    obtain ⟨l1, t1, o1, G1, B1, g1, z1⟩ := Kd.begins I1 hx r
    refine enum1_begins B1 g1 fun h' he e1 kp => wpAny_pyIter_enum he ?_
    have I2 : Inv X pins σ H1 { s1 with heap := h' } := I1.kept (t' := s1.toks) kp
    refine ⟨_, _, _, _, H1, rfl, I2, turn_enumK (b := s1.heap.objs.size) (c := 0) (u1 := t1) l1, ⟨⟨.none, he⟩, z1 _ _ e1⟩, fun d hd => ?_, q⟩
    have le : s1.heap.objs.size ≤ d := by
      simp only [List.mem_cons, List.not_mem_nil, or_false] at hd
      rcases hd with rfl | rfl
      · exact Nat.le_add_right _ _
      · exact Nat.le_refl _
    exact I1.fpOk le (I1.hok.fresh le)
section
variable {F : FmKit} {T : Kx} {C H H' O O' : Hp} {G : Gm} {W W' : Om} {R : D → Om → Prop} {l : List D} {ta tk : TA}
theorem wk_enum {H1 : Hp} {k : Kd} {xs : List V} {c : Nat} (a1 : DenL F T H1 l xs) (s1 : ∀ H2 O2, Same H1 H2 → Dis O2 H2 → k.src T.K (ov O2 H2) xs) : Wk F T (IteK T.K k (c : Nat)) H1 (pairsD c l) := fun i H2 O2 s di => by
  refine ⟨fun d hd => ?_, fun ei => ?_⟩
  · obtain ⟨x, hx, rfl⟩ := pairsD_get hd
    obtain ⟨u, hu, ku⟩ := a1.get hx
    refine ⟨⟨xs, s1 _ _ s di, (List.getElem?_eq_some_iff.mp hu).1⟩, fun w X ⟨Tp, u', e1, e2, e3, e4⟩ => ?_⟩
    have hu' := e4 xs (s1 _ _ s di)
    rw [hu] at hu'
    cases hu'
    obtain ⟨h1, h2⟩ := ov_none e2
    have ec : ((c + i : Nat) : Int) = (c : Int) + (i : Nat) := by omega
    have sm := same_upd (o := .tup [.int ((c : Nat) + (i : Nat)), u]) h2
    refine ⟨upd H2 Tp (.tup [.int ((c : Nat) + (i : Nat)), u]), sm, di.updH h1, by rw [e3, ov_updH h1], Tp, _, e1, SqT.of upd_same, ?_⟩
    rw [ec]
    exact ⟨_, _, rfl, rfl, u, _, rfl, (ku.mono s).mono sm, rfl⟩
  · rw [pairsD_len] at ei
    exact ⟨xs, s1 _ _ s di, by rw [a1.len]; exact ei⟩
theorem ei_enumK {Y : List D → Om → Prop} (h : EvA F T ta G W fun ds W1 => ∃ d l, ds = [d] ∧ Zs d l ∧ Y (pairsD 0 l) W1) : EvI F T (iEnumK T.K ta) G W Y := fun C H O σ w Q q =>
  h C H O σ w _ fun ds W1 H1 O1 us ⟨d, l, ed, z1, y⟩ n k => by
    subst ed
    obtain ⟨x, r, e1, k1, e2⟩ := k
    have e2 : r = [] := e2
    subst e2 e1
    obtain ⟨kd1, xs, ex, a1, s1⟩ := z1.kd k1
    subst ex
    exact ⟨kd1, xs, rfl, s1 _ _ (.refl _) n.dis, q _ _ W1 H1 O1 y n (wk_enum (c := 0) a1 s1)⟩
end
end N
set_option Elab.async false
set_option linter.all false
set_option maxRecDepth 100000
namespace N
open PySem PySem.Spec PyProof.Rows L2
namespace Fm
def ht : Fm → Nat
  | .at _ => 0
  | .no => 0
  | .imp a b => 1 + max a.ht b.ht
  | .all a => 1 + a.ht
theorem sz_ht : ∀ f : Fm, f.sz + 5 ≤ 7 * 2 ^ f.ht
  | .at _ => by simp [sz, ht]
  | .no => by simp [sz, ht]
  | .imp a b => by
    have h1 := sz_ht a
    have h2 := sz_ht b
    have l1 : 2 ^ a.ht ≤ 2 ^ max a.ht b.ht := Nat.pow_le_pow_right (by omega) (Nat.le_max_left _ _)
    have l2 : 2 ^ b.ht ≤ 2 ^ max a.ht b.ht := Nat.pow_le_pow_right (by omega) (Nat.le_max_right _ _)
    simp only [sz, ht, Nat.pow_add, Nat.pow_one]
    omega
  | .all a => by
    have h1 := sz_ht a
    have : 1 ≤ 2 ^ a.ht := Nat.one_le_two_pow
    simp only [sz, ht, Nat.pow_add, Nat.pow_one]
    omega
/-- few unlike all-parts -/
def few (k : Nat) (f : Fm) : Prop := ∃ L : List Fm, L.length ≤ k ∧ ∀ g ∈ f.alls, g ∈ L
theorem few.len {k : Nat} {f : Fm} (h : few k f) (ok : f.okL) : f.alls.length ≤ k := by
  obtain ⟨L, h1, h2⟩ := h
  exact Nat.le_trans (len_le (nodup_asc (alls_sub ok).2) h2) h1
theorem few.up {k j : Nat} {f : Fm} (h : few k f) (hk : k ≤ j) : few j f := let ⟨L, h1, h2⟩ := h; ⟨L, by omega, h2⟩
theorem few.imp {k j : Nat} {f g : Fm} (h : few k f) (h' : few j g) : few (k + j) (.imp f g) := by
  obtain ⟨L, h1, h2⟩ := h
  obtain ⟨M, h3, h4⟩ := h'
  refine ⟨L ++ M, by rw [List.length_append]; omega, fun x hx => ?_⟩
  rw [List.mem_append]
  exact (mem_merge.mp hx).imp (h2 x) (h4 x)
theorem few.same {k : Nat} {f : Fm} (h : few k f) : few k (.imp f f) := by
  obtain ⟨L, h1, h2⟩ := h
  exact ⟨L, h1, fun x hx => (mem_merge.mp hx).elim (h2 x) (h2 x)⟩
theorem few.all {k : Nat} {f : Fm} (h : few k f) : few (k + 1) (.all f) := by
  obtain ⟨L, h1, h2⟩ := h
  refine ⟨.all f :: L, by rw [List.length_cons]; omega, fun x hx => ?_⟩
  rw [List.mem_cons]
  rcases mem_merge.mp hx with h | h
  · exact .inr (h2 x h)
  · exact .inl (List.mem_singleton.mp h)
theorem few.at (c : Nat) : few 0 (.at c) := ⟨[], Nat.le_refl _, fun x hx => by simp [alls] at hx⟩
theorem few.no : few 0 .no := ⟨[], Nat.le_refl _, fun x hx => by simp [alls] at hx⟩
theorem few_ht : ∀ f : Fm, few (2 ^ f.ht - 1) f
  | .at c => (few.at c).up (by omega)
  | .no => few.no.up (by omega)
  | .imp a b => by
    have l1 : 2 ^ a.ht ≤ 2 ^ max a.ht b.ht := Nat.pow_le_pow_right (by omega) (Nat.le_max_left _ _)
    have l2 : 2 ^ b.ht ≤ 2 ^ max a.ht b.ht := Nat.pow_le_pow_right (by omega) (Nat.le_max_right _ _)
    refine ((few_ht a).imp (few_ht b)).up ?_
    simp only [ht, Nat.pow_add, Nat.pow_one]
    omega
  | .all a => by
    have : 1 ≤ 2 ^ a.ht := Nat.one_le_two_pow
    refine (few_ht a).all.up ?_
    simp only [ht, Nat.pow_add, Nat.pow_one]
    omega
end Fm
def letters (p : Str) : Prop := ∀ c ∈ lets p, (65 ≤ c ∧ c ≤ 90) ∨ (97 ≤ c ∧ c ≤ 122)
end N
set_option Elab.async false
set_option linter.all false
set_option maxRecDepth 100000
namespace N
open PySem PySem.Spec PyProof.Rows L2
namespace Fm
def inner : Fm → List Fm
  | .imp a b => [a, b]
  | .all a => [a]
  | _ => []
def subs : Fm → List Fm
  | .at c => [.at c]
  | .no => [.no]
  | .imp a b => .imp a b :: (subs a ++ subs b)
  | .all a => .all a :: subs a
theorem subs_len : ∀ f : Fm, (subs f).length = f.many
  | .at _ => rfl
  | .no => rfl
  | .imp a b => by
    simp only [subs, List.length_cons, List.length_append, subs_len a, subs_len b, many]
    omega
  | .all a => by
    simp only [subs, List.length_cons, subs_len a, many]
    omega
theorem subs_self (f : Fm) : f ∈ subs f := by cases f <;> simp [subs]
/-- each one behind those within it -/
inductive Cl : List Fm → Prop
  | nil : Cl []
  | snoc {l : List Fm} {g : Fm} : Cl l → (∀ p ∈ inner g, p ∈ l) → Cl (l ++ [g])
theorem Cl.take {l : List Fm} (h : Cl l) : ∀ i g, l[i]? = some g → ∀ p ∈ inner g, p ∈ l.take i := by
  induction h with
  | nil => intro i g h; simp at h
  | @snoc l g h hp ih =>
    intro i x hx p px
    by_cases hi : i < l.length
    · rw [List.getElem?_append_left hi] at hx
      rw [List.take_append_of_le_length (by omega)]
      exact ih i x hx p px
    · rw [List.getElem?_append_right (by omega)] at hx
      have e : i = l.length := by
        have := (List.getElem?_eq_some_iff.mp hx).1
        simp at this
        omega
      subst e
      simp at hx
      subst hx
      simp
      exact hp p px
structure PW (f : Fm) (K F : List Fm) (L : List (Fm × Bool)) : Prop where
  kn : K.Nodup
  ks : ∀ g ∈ K, g ∈ subs f
  ls : ∀ x ∈ L, x.1 ∈ subs f
  kf : ∀ g, g ∈ K ↔ g ∈ F ∨ (g, true) ∈ L
  fn : F.Nodup
  dj : ∀ g ∈ F, (g, true) ∉ L
  cl : Cl F
  up : ∀ A h B, L = A ++ (h, true) :: B → (∀ x ∈ B, x.1.sz < h.sz) ∧ ∀ p ∈ inner h, p ∈ F ∨ ∃ b, (p, b) ∈ B
  bt : (∃ B, L = (f, true) :: B) ∨ (L = [] ∧ ∃ F', F = F' ++ [f]) ∨ (L = [(f, false)] ∧ K = [])
  ln : L.length ≤ 2 * K.length + 1
theorem PW.start (f : Fm) : PW f [] [] [(f, false)] where
  kn := List.nodup_nil
  ks := by simp
  ls := by simp [subs_self]
  kf := by simp
  fn := List.nodup_nil
  dj := by simp
  cl := .nil
  up := by
    intro A h B e
    have : (h, true) ∈ [(f, false)] := by rw [e]; simp
    simp at this
  bt := .inr (.inr ⟨rfl, rfl⟩)
  ln := by simp
section
variable {f g h : Fm} {K F : List Fm} {L : List (Fm × Bool)}
theorem PW.low (s : PW f K F (L ++ [(h, true)])) : (h, true) ∉ L := fun m => by
  obtain ⟨A, B, e⟩ := List.append_of_mem m
  have := (s.up A h (B ++ [(h, true)]) (by rw [e]; simp)).1 (h, true) (by simp)
  exact Nat.lt_irrefl _ this
theorem PW.room (s : PW f K F L) : K.length ≤ f.many := by
  rw [← subs_len f]
  exact len_le s.kn s.ks
end
/-- others in the place of atoms -/
def sub (σ : Nat → Fm) : Fm → Fm
  | .at c => σ c
  | .no => .no
  | .imp a b => .imp (a.sub σ) (b.sub σ)
  | .all a => .all (a.sub σ)
end Fm
end N
set_option Elab.async false
set_option linter.all false
set_option maxRecDepth 100000
namespace N
open PySem PySem.Spec PyProof.Rows L2
open C8 (Cal Met Mak InsC pe_c pe_mt pe_mt0 pe_mk)
theorem makD {P : Program} {w : World} {K : PySem.W.Frag} {mg : Str → Option Value} {base : Heap} {F : FmKit} {cl : Nat → Addr} {S : FS} {x qual : Str} {C : Addr} {st : Stmt} {f : Addr} {fd : FuncData} {N ps : List Str} {k : Nat} (M : Mk K C f) (hm : mg x = some (.ref C)) (Fn : Fun K "__init__" qual st f fd) (Sc : FnScope N ps (defScope st)) (len : ∀ ds W post, S ds W post → ds.length = ps.length)
    (hb : ∀ (kV doc pm : Value) (an : Option Addr) (cdv ct : Value) (us : List Value), us.length = ps.length → bindArgs (PySem.W.fnOf "__init__" qual (defArgs st) (defBody st) (defScope st) .none kV doc pm an cdv ct) ⟨us, []⟩ = pure (ps.zip us))
    (body : ∀ (cdv : Value) (A : Around) (outer : List Env) (s : Shared) (H : Hp) (E : XK), Room k (A.deeper (envOfC qual (defScope st) s.heap.objs.size f cdv)) →
      ∃ t, PSs (cxOf CX0 P w K mg base N qual (defScope st) f cdv A outer s H E).nox (defBody st) t ∧ ∀ ds W post, S ds W post → Sw F ⟨K, cl⟩ t (startD N ds) W (E_ post)) : Mak P w K mg base (k + 1) x C (spN F ⟨K, cl⟩ S) [] :=
  ⟨f, fd, ps, [], M, okD Fn Sc len body, hm, Fn.binds hb, .nil⟩
def wbNames : List Str := ["below", "atoms", "all_beneath", "all_heights"]
structure Wb where
  below : List (List Nat)
  atoms : List Str
abbrev natD (k : Nat) : D := .int (k : Nat)
abbrev rowD (r : List Nat) : D := .tup (r.map natD)
abbrev rowsD (rs : List (List Nat)) : D := .tup (rs.map rowD)
abbrev atomsD (l : List Str) : D := .tup (l.map .str)
/-- the points beneath each one, by the points directly below -/
def bensF (rs : List (List Nat)) : List (List Nat) := rs.foldl (fun acc r => acc ++ [ascN (r ++ (r.map fun k => acc.getD k []).flatten)]) []
def hgtF (rs : List (List Nat)) : List Nat := rs.foldl (fun acc r => acc ++ [((r.map fun k => 1 + acc.getD k 0)).foldl max 0]) []
structure rowsOk (rs : List (List Nat)) : Prop where
  asc : ∀ (i : Nat) (r : List Nat), rs[i]? = some r → r.Pairwise (· < ·) ∧ ∀ k ∈ r, k < i
  few : rs.length ≤ 63
theorem rowsOk.take {rs : List (List Nat)} (h : rowsOk rs) (n : Nat) : rowsOk (rs.take n) where
  asc := fun i r hr => by
    rw [List.getElem?_take] at hr
    split at hr
    · exact h.asc i r hr
    · cases hr
  few := Nat.le_trans (by rw [List.length_take]; exact Nat.min_le_right _ _) h.few
theorem bensF_snoc (rs : List (List Nat)) (r : List Nat) : bensF (rs ++ [r]) = bensF rs ++ [ascN (r ++ (r.map fun k => (bensF rs).getD k []).flatten)] := by
  unfold bensF
  rw [List.foldl_append]
  rfl
theorem snoc_ind {α : Type} {P : List α → Prop} (h0 : P []) (h1 : ∀ l a, P l → P (l ++ [a])) (l : List α) : P l := by
  rw [← List.reverse_reverse l]
  induction l.reverse with
  | nil => exact h0
  | cons a l ih =>
    rw [List.reverse_cons]
    exact h1 _ a ih
theorem bensF_len (rs : List (List Nat)) : (bensF rs).length = rs.length := by
  induction rs using snoc_ind with
  | h0 => rfl
  | h1 rs r ih => rw [bensF_snoc, List.length_append, List.length_append, ih]; rfl
structure Wb.ok (w : Wb) : Prop where
  rows : rowsOk w.below
  some_ : w.below ≠ []
  len : w.atoms.length = w.below.length
  lets : ∀ s ∈ w.atoms, letters s ∧ (N.lets s).Pairwise (· < ·)
def Wb.d (w : Wb) : D := .obj 1 wbNames [rowsD w.below, atomsD w.atoms, .lst ((bensF w.below).map rowD), .lst ((hgtF w.below).map natD)]
theorem cutD_d1 (l : List D) : cutD l (some 1) none = l.drop 1 := by
  unfold cutD
  rw [show HT.sIx l.length 0 (some 1) = min 1 l.length from HT.sIx_nat l.length 0 1, show HT.sIx l.length l.length none = l.length from rfl]
  rw [List.take_of_length_le (by simp)]
  cases l <;> simp
theorem all_yes (n : Nat) : ((List.replicate n true).all id) = true := by simp
theorem yes_bl (n : Nat) : (List.replicate n true).map D.bl = List.replicate n (D.bl true) := by simp
section
variable {F : FmKit} {T : Kx} {W : Om} {R : D → Om → Prop}
theorem isi_int {i : Int} (r : R (.bl true) W) : Ca F T (rIsi T.K) [.int i, .vl (.ty "int")] W R := ca_isi (.ty "int") tyd_int (by unfold PySem.W.kitOne; rfl) r
theorem isi_intB {i : Int} (r : R (.bl false) W) : Ca F T (rIsi T.K) [.int i, .vl (.ty "bool")] W R := ca_isi (.ty "bool") tyd_int (by unfold PySem.W.kitOne; first | rfl | decide +kernel) r
end
theorem letters_len {s : Str} (hl : letters s) (hp : (lets s).Pairwise (· < ·)) : s.length ≤ 100 := by
  have h1 := hp.imp (S := (· ≠ ·)) fun h => Nat.ne_of_lt h
  have h2 := List.Nodup.length_le_of_subset (l₁ := (lets s).map (· - 30)) (l₂ := List.range 100) ?_ fun x hx => ?_
  · rw [List.length_range, List.length_map, ← str_len] at h2
    exact h2
  · rw [List.Nodup, List.pairwise_map]
    refine hp.imp_of_mem fun {a b} ha hb h => ?_
    have := hl a ha
    have := hl b hb
    omega
  · obtain ⟨c, hc, rfl⟩ := List.mem_map.mp hx
    have := hl c hc
    rw [List.mem_range]
    omega
theorem bensF_low {rs : List (List Nat)} : rowsOk rs → ∀ (i : Nat) (b : List Nat), (bensF rs)[i]? = some b → ∀ x ∈ b, x < i := by
  induction rs using snoc_ind with
  | h0 => intro _ i b h; simp [bensF] at h
  | h1 rs r ih =>
    intro ok i b h x hx
    have ok2 : rowsOk rs := by
      have := ok.take rs.length
      simpa using this
    rw [bensF_snoc] at h
    by_cases hi : i < (bensF rs).length
    · rw [List.getElem?_append_left hi] at h
      exact ih ok2 i b h x hx
    · rw [List.getElem?_append_right (by omega)] at h
      have e : i = rs.length := by
        have := (List.getElem?_eq_some_iff.mp h).1
        rw [bensF_len] at *
        simp at this
        omega
      subst e
      rw [bensF_len] at h
      simp at h
      subst h
      rw [mem_ascN, List.mem_append] at hx
      have hr := (ok.asc rs.length r (by simp)).2
      rcases hx with h | h
      · exact hr x h
      · obtain ⟨l, hl, hx2⟩ := List.mem_flatten.mp h
        obtain ⟨k, hk, rfl⟩ := List.mem_map.mp hl
        have hk2 := hr k hk
        have hb : (bensF rs)[k]? = some ((bensF rs).getD k []) := by
          rw [List.getD_eq_getElem?_getD, List.getElem?_eq_getElem (by rw [bensF_len]; exact hk2)]
          rfl
        have := ih ok2 k _ hb x hx2
        omega
theorem low_len {ks : List Nat} {j : Nat} (nd : ks.Nodup) (h : ∀ x ∈ ks, x < j) : ks.length ≤ j := by
  have h2 := List.Nodup.length_le_of_subset (l₁ := ks) (l₂ := List.range j) nd fun x hx => List.mem_range.mpr (h x hx)
  rwa [List.length_range] at h2
section
variable {F : FmKit} {T : Kx} {RR : Om → Prop} {x : Addr} {z : D} {n : Str} {ns nm : List Str} {l : List D} {c : Nat}
theorem rcv_newC (zf : CZ T.K (T.cl c) nm) (hn : n ∈ nm) (h : n ∉ ns) (hl : ns.length < 1000) (r : RR [(x, .ins c (ns ++ [n]) (l ++ [z]))]) : Rcv F T (.adr x) z n [(x, .ins c ns l)] RR :=
  ⟨x, c, ns, l, [], [], _, _, rfl, rfl, zf.cls, zf.nos n hn, hl, .new ns l h, r⟩
end
inductive FldW : Str → Wb → D → Prop
  | below (w : Wb) : FldW "below" w (rowsD w.below)
  | atoms (w : Wb) : FldW "atoms" w (atomsD w.atoms)
  | bens (w : Wb) : FldW "all_beneath" w (.lst ((bensF w.below).map rowD))
  | hgts (w : Wb) : FldW "all_heights" w (.lst ((hgtF w.below).map natD))
end N
set_option Elab.async false
set_option linter.all false
set_option maxRecDepth 100000
namespace N
open PySem PySem.Spec PyProof.Rows L2
open C8 (Cal Met Mak InsC pe_c pe_mt pe_mt0 pe_mk)
/-- a def of the text with defaults -/
abbrev FunT (K : PySem.W.Frag) (x qual : Str) (st : Stmt) (dvs : List V) (f : Addr) (fd : FuncData) : Prop := FunD K x qual (defArgs st) (defBody st) (defScope st) dvs [] f fd
section
variable {P : Program} {w : World} {K : PySem.W.Frag} {mg : Str → Option Value} {base : Heap} {F : FmKit} {cl : Nat → Addr} {S : FS}
/-- every argument is written -/
theorem FunT.all {x qual : Str} {st : Stmt} {dvs : List V} {f : Addr} {fd : FuncData} {ps : List Str} (Fn : FunT K x qual st dvs f fd) (hd : dvs ≠ [])
    (h : ∀ (T : Addr) (kV doc pm : Value) (an : Option Addr) (cdv ct : Value) (us its : List Value), us.length = ps.length → its.length = dvs.length →
      ∃ k, bindArgs (PySem.W.fnOf x qual (defArgs st) (defBody st) (defScope st) (.ref T) kV doc pm an cdv ct) ⟨us, []⟩ = seqItems? (.ref T) >>= k ∧ k (some its.toArray) = pure (ps.zip us)) : Binds K fd ps [] := by
  obtain ⟨ds, r, b⟩ := FunD.binds1 (ps := ps) Fn ps.length dvs.length hd (by omega) (fun T kV doc pm an cdv ct us its h1 h2 => by
    obtain ⟨k, e1, e2⟩ := h T kV doc pm an cdv ct us its h1 h2
    refine ⟨k, e1, ?_⟩
    rw [e2, List.drop_of_length_le (by omega), List.append_nil])
  rw [List.drop_of_length_le (Nat.le_refl _)] at r
  cases r
  exact b
end
theorem inst_wb {F : FmKit} {W : Om} (w : Wb) : Inst F W w.d 1 wbNames [rowsD w.below, atomsD w.atoms, .lst ((bensF w.below).map rowD), .lst ((hgtF w.below).map natD)] := .obj _ _ _
/-- a field of a formula or of a web -/
theorem ev_fwF {T : Kx} {G : Gm} {W : Om} {R : D → Om → Prop} {ta : TE} {n : Str} (zf : FZ T.K (T.cl 0)) (zw : CZ T.K (T.cl 1) wbNames)
    (h : Ev FK T ta G W fun d W1 => (∃ f z, d = .fm f ∧ FldF n f z ∧ R z W1) ∨ ∃ w z, d = Wb.d w ∧ FldW n w z ∧ R z W1) : Ev FK T (tFld T.K ta n) G W R :=
  ev_fld (h.imp fun d W1 hh => by
    rcases hh with ⟨f, z, e, k, r⟩ | ⟨w, z, e, f, r⟩
    · subst e
      exact ⟨0, fmNames, fmVals FK f, z, .fm f, zf.cls, zf.nos n k.look.1, k.look.2, r⟩
    · subst e
      refine ⟨1, wbNames, _, z, .obj _ _ _, zw.cls, ?_, ?_, r⟩
      · cases f <;> exact zw.nos _ (by decide +kernel)
      · cases f <;> rfl)
end N
set_option Elab.async false
set_option linter.all false
set_option maxRecDepth 100000
set_option maxHeartbeats 4000000
namespace N
open PySem PySem.Spec PyProof.Rows L2
def rSetL (K : PySem.W.Frag) (w : World) : List V → Hp → VK → Prop := fun xs H Q => ∃ (l : Addr) (ns : List Int), xs = [.ref l] ∧ SqL K H l (ns.map V.int) ∧ ns.length < 4000 ∧ ∀ a c, c ≤ ns.length → H a = none → Q (.ref a) (upd H a (SetO w a (fun j => decide (j ∈ ns)) c))
end N
set_option Elab.async false
set_option linter.all false
set_option maxRecDepth 100000
set_option maxHeartbeats 4000000
namespace N
open PySem PySem.Spec PyProof.Rows L2
section
variable {F : FmKit} {T : Kx} {C H H' O O' : Hp} {G : Gm} {W W' : Om} {R : D → Om → Prop} {σ : L2.St} {d e : D} {l m : List D} {te ta tb to ti : TE}
theorem ca_listF (hv : Vs W d l) (r : R (.lst l) W) : Ca F T (fun xs H Q => ∃ p ys, xs = [.ref p] ∧ (SqL T.K H p ys ∨ SqT T.K H p ys) ∧ ∀ q, H q = none → Q (.ref q) (upd H q (.lst ys))) [d] W R :=
  ca_fz (ca_list hv fun p hp => ⟨p, _, W, _, rfl, List.Perm.refl _, .lst _, r⟩)
theorem ev_tupRg1 (h : Ev F T ta G W fun d W1 => ∃ n : Int, d = .int n ∧ RgOk 0 n ∧ R (.tup ((rgV 0 n).map .vl)) W1) : Ev F T (tTupRg (tRg1 ta)) G W R := fun C H O σ w Q q =>
  h C H O σ w _ fun d W1 H1 O1 x ⟨n, e, ok, r⟩ n1 k1 => by
    subst e
    have k1 : x = .int n := k1
    refine ⟨n, k1, ok, fun p hp => ?_⟩
    obtain ⟨n2, e2, s2⟩ := n1.newF (o := .tup (rgV 0 n)) hp
    rw [e2]
    exact q _ W1 _ _ _ r n2 ⟨p, _, rfl, SqT.of upd_same, .vls _⟩
end
end N
set_option Elab.async false
set_option linter.all false
set_option maxRecDepth 100000
set_option maxHeartbeats 4000000
set_option Elab.async false
set_option linter.all false
set_option maxRecDepth 100000
namespace N
open PySem PySem.Spec PyProof.Rows L2
theorem getD_snoc_lt {α : Type} {l : List α} {a d : α} {i : Nat} (h : i < l.length) : (l ++ [a]).getD i d = l.getD i d := by
  rw [List.getD_eq_getElem?_getD, List.getD_eq_getElem?_getD, List.getElem?_append_left h]
theorem getD_snoc_eq {α : Type} {l : List α} {a d : α} {i : Nat} (h : i = l.length) : (l ++ [a]).getD i d = a := by
  subst h
  rw [List.getD_eq_getElem?_getD, List.getElem?_append_right (Nat.le_refl _)]
  simp
theorem rowsOk.init {rs : List (List Nat)} {r : List Nat} (h : rowsOk (rs ++ [r])) : rowsOk rs := by
  have := h.take rs.length
  simpa using this
theorem rowsOk.at_ {rs : List (List Nat)} (h : rowsOk rs) {i : Nat} (hi : i < rs.length) : (rs.getD i []).Pairwise (· < ·) ∧ ∀ k ∈ rs.getD i [], k < i :=
  h.asc i _ (by rw [List.getD_eq_getElem?_getD, List.getElem?_eq_getElem hi]; rfl)
theorem bens_at {rs : List (List Nat)} : rowsOk rs → ∀ {i : Nat}, i < rs.length → (bensF rs).getD i [] = ascN (rs.getD i [] ++ ((rs.getD i []).map fun k => (bensF rs).getD k []).flatten) := by
  induction rs using snoc_ind with
  | h0 => intro _ i h; cases h
  | h1 rs r ih =>
    intro ok i hi
    rw [bensF_snoc]
    have hl := bensF_len rs
    rw [List.length_append] at hi
    have hi : i < rs.length + 1 := hi
    rcases Nat.lt_or_eq_of_le (Nat.le_of_lt_succ hi) with h | h
    · rw [getD_snoc_lt (by omega), getD_snoc_lt h, ih ok.init h]
      congr 3
      refine List.map_congr_left fun k hk => ?_
      have := (ok.init.at_ h).2 k hk
      rw [getD_snoc_lt (by omega)]
    · rw [getD_snoc_eq (by omega), getD_snoc_eq h]
      congr 3
      refine List.map_congr_left fun k hk => ?_
      have := (ok.asc rs.length r (by simp)).2 k hk
      rw [getD_snoc_lt (by omega)]
theorem bens_mem {rs : List (List Nat)} (ok : rowsOk rs) {i x : Nat} (hi : i < rs.length) : x ∈ (bensF rs).getD i [] ↔ x ∈ rs.getD i [] ∨ ∃ k ∈ rs.getD i [], x ∈ (bensF rs).getD k [] := by
  rw [bens_at ok hi, mem_ascN, List.mem_append, List.mem_flatten]
  refine or_congr Iff.rfl ⟨fun ⟨l, h1, h2⟩ => ?_, fun ⟨k, h1, h2⟩ => ⟨_, List.mem_map.mpr ⟨k, h1, rfl⟩, h2⟩⟩
  obtain ⟨k, h3, rfl⟩ := List.mem_map.mp h1
  exact ⟨k, h3, h2⟩
theorem bens_lt {rs : List (List Nat)} (ok : rowsOk rs) {i x : Nat} (hi : i < rs.length) (h : x ∈ (bensF rs).getD i []) : x < i :=
  bensF_low ok i _ (by rw [List.getD_eq_getElem?_getD, List.getElem?_eq_getElem (by rw [bensF_len]; exact hi)]; rfl) x h
theorem bens_trans {rs : List (List Nat)} (ok : rowsOk rs) {x k : Nat} : ∀ (i : Nat), i < rs.length → k ∈ (bensF rs).getD i [] → x ∈ (bensF rs).getD k [] → x ∈ (bensF rs).getD i [] := by
  intro i
  induction i using Nat.strongRecOn with
  | ind i ih =>
    intro hi h hx
    rcases (bens_mem ok hi).mp h with h1 | ⟨q, h1, h2⟩
    · exact (bens_mem ok hi).mpr (.inr ⟨k, h1, hx⟩)
    · have hq := (ok.at_ hi).2 q h1
      exact (bens_mem ok hi).mpr (.inr ⟨q, h1, ih q hq (by omega) h2 hx⟩)
theorem bens_row {rs : List (List Nat)} (ok : rowsOk rs) {i x k : Nat} (hi : i < rs.length) (h : k ∈ (bensF rs).getD i []) (hx : x ∈ rs.getD k []) : x ∈ (bensF rs).getD i [] := by
  have := bens_lt ok hi h
  exact bens_trans ok i hi h ((bens_mem ok (by omega)).mpr (.inl hx))
/-- the ways, gone one by one -/
structure WW (rs : List (List Nat)) (i : Nat) (met wait : List Nat) : Prop where
  nd : met.Nodup
  ms : ∀ x ∈ met, x ∈ (bensF rs).getD i []
  ws : ∀ x ∈ wait, x ∈ (bensF rs).getD i []
  top : ∀ k ∈ rs.getD i [], k ∈ met ∨ k ∈ wait
  cl : ∀ m ∈ met, ∀ k ∈ rs.getD m [], k ∈ met ∨ k ∈ wait
theorem WW.start {rs : List (List Nat)} (ok : rowsOk rs) {i : Nat} (hi : i < rs.length) : WW rs i [] (rs.getD i []) :=
  ⟨List.nodup_nil, by simp, fun x hx => (bens_mem ok hi).mpr (.inl hx), fun k hk => .inr hk, by simp⟩
theorem WW.new {rs : List (List Nat)} (ok : rowsOk rs) {i k : Nat} {met wait : List Nat} (hi : i < rs.length) (w : WW rs i met (wait ++ [k])) (h : k ∉ met) : WW rs i (met ++ [k]) (wait ++ rs.getD k []) := by
  have hk := w.ws k (by simp)
  have mv : ∀ x, x ∈ met ∨ x ∈ wait ++ [k] → x ∈ met ++ [k] ∨ x ∈ wait ++ rs.getD k [] := fun x hx => by
    simp only [List.mem_append, List.mem_singleton] at hx ⊢
    rcases hx with h | h | h
    · exact .inl (.inl h)
    · exact .inr (.inl h)
    · exact .inl (.inr h)
  refine ⟨?_, fun x hx => ?_, fun x hx => ?_, fun x hx => mv x (w.top x hx), fun m hm x hx => ?_⟩
  · rw [List.nodup_append]
    refine ⟨w.nd, by simp, fun a ha b hb e => ?_⟩
    rw [List.mem_singleton] at hb
    subst hb e
    exact h ha
  · rcases List.mem_append.mp hx with h1 | h1
    · exact w.ms x h1
    · rw [List.mem_singleton] at h1
      exact h1 ▸ hk
  · rcases List.mem_append.mp hx with h1 | h1
    · exact w.ws x (by simp [h1])
    · exact bens_row ok hi hk h1
  · rcases List.mem_append.mp hm with h1 | h1
    · exact mv x (w.cl m h1 x hx)
    · rw [List.mem_singleton] at h1
      subst h1
      exact .inr (List.mem_append_right _ hx)
theorem WW.few {rs : List (List Nat)} (ok : rowsOk rs) {i : Nat} {met wait : List Nat} (hi : i < rs.length) (w : WW rs i met wait) : met.length ≤ i :=
  low_len w.nd fun x hx => bens_lt ok hi (w.ms x hx)
theorem rowsOk.nil : rowsOk [] := ⟨fun i r h => by simp at h, by simp⟩
theorem rowsOk.snoc {rs : List (List Nat)} {r : List Nat} (h : rowsOk rs) (h1 : r.Pairwise (· < ·)) (h2 : ∀ k ∈ r, k < rs.length) (hl : rs.length < 63) : rowsOk (rs ++ [r]) := by
  refine ⟨fun i q hq => ?_, by simp; omega⟩
  by_cases hi : i < rs.length
  · rw [List.getElem?_append_left hi] at hq
    exact h.asc i q hq
  · rw [List.getElem?_append_right (by omega)] at hq
    have e : i - rs.length = 0 := by
      have := (List.getElem?_eq_some_iff.mp hq).1
      simp at this
      omega
    rw [e] at hq
    have hq : some r = some q := hq
    cases hq
    have e : i = rs.length := by omega
    subst e
    exact ⟨h1, h2⟩
theorem rgV_nat {i : Nat} {b : Int} (h : b = (i : Nat)) : (rgV 0 b).map D.vl = (List.range i).map natD := by
  subst h
  unfold rgV
  rw [List.map_map]
  have e : ((i : Int) - 0).toNat = i := by omega
  rw [e]
  refine List.map_congr_left fun x _ => ?_
  show D.int _ = D.int _
  congr 1
  omega
end N
set_option Elab.async false
set_option linter.all false
set_option maxRecDepth 100000
set_option Elab.async false
set_option linter.all false
set_option maxRecDepth 100000
set_option maxHeartbeats 4000000
set_option Elab.async false
set_option linter.all false
set_option maxRecDepth 100000
namespace N
open PySem PySem.Spec PyProof.Rows L2
namespace Fm
def sm (f : Fm) : Fm := neg (.all (neg f))
def yes : Fm := .imp .no .no
end Fm
def S_yes : FS := fun ds W post => ds = [] ∧ W = [] ∧ post (.fm Fm.yes) []
theorem yes_ok : Fm.yes.okF := ⟨⟨trivial, trivial⟩, by decide, by decide⟩
theorem okF10 {k : Nat} {f : Fm} (h : f.okL) (ht : f.ht ≤ 12) (hf : Fm.few k f) (hk : k ≤ 63) : f.okF := by
  refine ⟨h, ?_, Nat.lt_of_le_of_lt (hf.len h) (by omega)⟩
  have h1 := Fm.sz_ht f
  have h2 : 2 ^ f.ht ≤ 2 ^ 12 := Nat.pow_le_pow_right (by omega) ht
  have e : (2 : Nat) ^ 12 = 4096 := by decide
  omega
/-- drawn formulas -/
structure sm10 (f : Fm) : Prop where
  ok : f.okL
  ht : f.ht ≤ 5
theorem sm10.few {f : Fm} (h : sm10 f) : Fm.few 31 f := (Fm.few_ht f).up (by
  have : (2 : Nat) ^ f.ht ≤ 2 ^ 5 := Nat.pow_le_pow_right (by omega) h.ht
  omega)
theorem sm10.okF {f : Fm} (h : sm10 f) : f.okF := okF10 h.ok (Nat.le_trans h.ht (by decide)) h.few (by decide)
theorem sm10.neg {f : Fm} (h : sm10 f) : (Fm.neg f).okF := okF10 ⟨h.ok, trivial⟩ (by have := h.ht; simp only [Fm.neg, Fm.ht]; omega) (h.few.imp Fm.few.no) (by decide)
theorem sm10.imp {f g : Fm} (h : sm10 f) (k : sm10 g) : (Fm.imp f g).okF := okF10 ⟨h.ok, k.ok⟩ (by have := h.ht; have := k.ht; simp only [Fm.ht]; omega) (h.few.imp k.few) (by decide)
theorem sm10.conj {f g : Fm} (h : sm10 f) (k : sm10 g) : (Fm.conj f g).okF :=
  okF10 ⟨⟨h.ok, k.ok, trivial⟩, trivial⟩ (by have := h.ht; have := k.ht; simp only [Fm.conj, Fm.neg, Fm.ht]; omega) ((h.few.imp (k.few.imp Fm.few.no)).imp Fm.few.no) (by decide)
theorem sm10.disj {f g : Fm} (h : sm10 f) (k : sm10 g) : (Fm.disj f g).okF :=
  okF10 ⟨⟨h.ok, trivial⟩, k.ok⟩ (by have := h.ht; have := k.ht; simp only [Fm.disj, Fm.neg, Fm.ht]; omega) ((h.few.imp Fm.few.no).imp k.few) (by decide)
theorem sm10.sm {f : Fm} (h : sm10 f) : (Fm.sm f).okF :=
  okF10 (show (Fm.sm f).okL from ⟨⟨h.ok, trivial⟩, trivial⟩) (by have := h.ht; simp only [Fm.sm, Fm.neg, Fm.ht]; omega) ((h.few.imp Fm.few.no).all.imp Fm.few.no) (by decide)
theorem sm10.all {f g : Fm} (h : sm10 f) (k : sm10 g) : (Fm.all (.imp f g)).okF :=
  okF10 (show (Fm.all (.imp f g)).okL from ⟨h.ok, k.ok⟩) (by have := h.ht; have := k.ht; simp only [Fm.ht]; omega) (h.few.imp k.few).all (by decide)
end N
set_option Elab.async false
set_option linter.all false
set_option maxRecDepth 100000
namespace N
open PySem PySem.Spec PyProof.Rows L2
/-- the place of a number in a list -/
def idxL : List Nat → Nat → Nat
  | [], _ => 0
  | a :: l, x => if a = x then 0 else idxL l x + 1
/-- a point and all beneath it -/
def keptL (w : Wb) (k : Nat) : List Nat := (bensF w.below).getD k [] ++ [k]
def Wb.cut (w : Wb) (k : Nat) : Wb := ⟨(keptL w k).map fun o => (w.below.getD o []).map (idxL (keptL w k)), (keptL w k).map fun o => w.atoms.getD o ""⟩
def Wb.top (w : Wb) (s : Str) (r : List Nat) : Wb := ⟨w.below ++ [r], w.atoms ++ [s]⟩
def Wb.join (w u : Wb) : Wb := ⟨w.below ++ u.below.map fun r => r.map (w.below.length + ·), w.atoms ++ u.atoms⟩
end N
set_option Elab.async false
set_option linter.all false
set_option maxRecDepth 100000
set_option Elab.async false
set_option linter.all false
set_option maxRecDepth 100000
set_option Elab.async false
set_option linter.all false
set_option maxRecDepth 100000
namespace N
open PySem PySem.Spec PyProof.Rows L2
def ltr (c : Nat) : Prop := (65 ≤ c ∧ c ≤ 90) ∨ (97 ≤ c ∧ c ≤ 122)
end N
set_option Elab.async false
set_option linter.all false
set_option maxRecDepth 100000
set_option maxHeartbeats 1000000
set_option Elab.async false
set_option linter.all false
set_option maxRecDepth 100000
set_option maxHeartbeats 1000000
namespace N
open PySem PySem.Spec PyProof.Rows L2
open C8 (Cal Met Mak InsC pe_c pe_mt pe_mt0 pe_mk)
structure NkAt (K : PySem.W.Frag) (w : World) (H : Hp) (p : Addr) (as : List (NestedKey × Addr × V)) : Prop where
  at_ : H p = some (NkO w p as)
  key : ∀ z ∈ as, NkV K H z.1 (.ref z.2.1) ∧ z.1.depth ≤ 8
  nd : (as.map (·.1)).Nodup
def getA {α : Type} (as : List (NestedKey × Addr × α)) (k : NestedKey) : Option α := (as.find? fun z => decide (z.1 = k)).map (·.2.2)
section
variable {X : Cx} {pins : List (Addr × Obj)} {σ : L2.St} {H : Hp} {s : Shared} {p : Addr} {as : List (NestedKey × Addr × V)}
mutual
theorem NkV.is (I : L2.Inv X pins σ H s) : ∀ (k : NestedKey) (v : V) (u : Value), NkV X.K H k v → RelV v u → NestedIs s.heap k u
  | .none, _, u, h, r => by
    have h : _ = V.non := h
    subst h
    obtain rfl : u = .none := r
    exact .none
  | .num i, _, u, h, r => by
    rcases h with h | ⟨b, h, hi⟩
    · subst h
      obtain ⟨t, rfl⟩ := r
      exact .int i t
    · subst h
      obtain rfl : u = .bool b := r
      exact .bool hi
  | .text x, _, u, h, r => by
    have h : _ = V.str x := h
    subst h
    obtain ⟨t, rfl⟩ := r
    exact .text x t
  | .tup ks, _, u, ⟨a, xs, e, hs, hl⟩, r => by
    subst e
    obtain rfl : u = .ref a := r
    obtain ⟨its, r2, ⟨o, ho, hc, n, hd⟩, hz⟩ := I.tuple hs
    exact .tup ho hc hd (by rw [List.toList_toArray]; exact NkL.is I ks xs its hl r2)
theorem NkL.is (I : L2.Inv X pins σ H s) : ∀ (ks : List NestedKey) (xs : List V) (us : List Value), NkL X.K H ks xs → Vals xs us → NestedAll s.heap ks us
  | [], _, us, h, r => by
    have h : _ = [] := h
    subst h
    cases r
    exact .nil
  | k :: ks, _, us, ⟨v, t, e, h1, h2⟩, r => by
    subst e
    cases r with
    | cons r1 r2 => exact .cons (NkV.is I k v _ h1 r1) (NkL.is I ks t _ h2 r2)
end
abbrev NkPd : List (NestedKey × Addr × V) → List (NestedKey × Addr × Value) → Prop := Paired (fun (a : NestedKey × Addr × V) (u : NestedKey × Addr × Value) => a.1 = u.1 ∧ a.2.1 = u.2.1 ∧ RelV a.2.2 u.2.2)
theorem NkPd.keys : ∀ {as : List (NestedKey × Addr × V)} {us : List (NestedKey × Addr × Value)}, NkPd as us → us.map (·.1) = as.map (·.1)
  | [], _, h => by cases h; rfl
  | a :: as, _, h => by
    cases h with
    | cons h1 h2 => rw [List.map_cons, List.map_cons, NkPd.keys h2, h1.1]
theorem NkPd.get {k : NestedKey} : ∀ {as : List (NestedKey × Addr × V)} {us : List (NestedKey × Addr × Value)}, NkPd as us → (atKey us k = none ∧ getA as k = none) ∨ ∃ q v, atKey us k = some q ∧ getA as k = some v ∧ RelV v q.2
  | [], _, h => by cases h; exact .inl ⟨rfl, rfl⟩
  | a :: as, _, h => by
    cases h with
    | cons h1 h2 =>
      rename_i u us
      obtain ⟨e1, e2, e3⟩ := h1
      unfold atKey getA
      rw [List.find?_cons, List.find?_cons, ← e1]
      by_cases e : a.1 = k
      · rw [decide_eq_true e]
        exact .inr ⟨_, _, rfl, rfl, e3⟩
      · rw [decide_eq_false e]
        exact NkPd.get h2
theorem NkPd.mem : ∀ {as : List (NestedKey × Addr × V)} {us : List (NestedKey × Addr × Value)}, NkPd as us → ∀ x ∈ us, ∃ a ∈ as, a.1 = x.1 ∧ a.2.1 = x.2.1
  | [], _, h, x, hx => by cases h; cases hx
  | a :: as, _, h, x, hx => by
    cases h with
    | cons h1 h2 =>
      rcases List.mem_cons.mp hx with rfl | hx
      · exact ⟨a, List.mem_cons_self, h1.1, h1.2.1⟩
      · obtain ⟨b, hb, e⟩ := NkPd.mem h2 x hx
        exact ⟨b, List.mem_cons_of_mem _ hb, e⟩
theorem NkPd.snoc {a : NestedKey × Addr × V} {u : NestedKey × Addr × Value} (h1 : a.1 = u.1 ∧ a.2.1 = u.2.1 ∧ RelV a.2.2 u.2.2) : ∀ {as : List (NestedKey × Addr × V)} {us : List (NestedKey × Addr × Value)}, NkPd as us → NkPd (as ++ [a]) (us ++ [u])
  | [], _, h => by cases h; exact .cons h1 .nil
  | b :: as, _, h => by
    cases h with
    | cons h2 h3 => exact .cons h2 (NkPd.snoc h1 h3)
theorem nk_new {P : Program} {w : World} {H : Hp} {h : Heap} {us : List (NestedKey × Addr × Value)} (hs : (p == sysModules) = false) (hd : h.DictOfH (nestedKind P w) p us) (hp : NkPd as us) : ObjOk P w H h p (NkO w p as) := by
  obtain ⟨o, es, ep, ho, hx, hdd, he, _, _⟩ := hd
  exact ⟨⟨o, es, ep, us, hs, ho, hx, hdd, he, hp⟩, ⟨o, ho⟩, fun h1 h2 ⟨o, es, ep, us, hs, ho, hx, hdd, he, hp⟩ k => ⟨o, es, ep, us, hs, k o ho, hx, hdd, he, hp⟩⟩
end
end N
set_option Elab.async false
set_option linter.all false
set_option maxRecDepth 100000
set_option maxHeartbeats 4000000
set_option Elab.async false
set_option linter.all false
set_option maxRecDepth 100000
set_option maxHeartbeats 4000000
namespace N
open PySem PySem.Spec PyProof.Rows L2
section
variable {F : FmKit} {T : Kx} {C H H' O O' : Hp} {G : Gm} {W W' : Om} {R : D → Om → Prop} {d : D} {w : World} {p : Addr} {ta tb : TE}
theorem getA_cons {α : Type} (z : NestedKey × Addr × α) (as : List (NestedKey × Addr × α)) (k : NestedKey) : getA (z :: as) k = if z.1 = k then some z.2.2 else getA as k := by
  unfold getA
  rw [List.find?_cons]
  by_cases h : z.1 = k
  · rw [decide_eq_true h, if_pos h]
    rfl
  · rw [decide_eq_false h, if_neg h]
end
end N
set_option Elab.async false
set_option linter.all false
set_option maxRecDepth 100000
set_option maxHeartbeats 1000000
namespace N
open PySem PySem.Spec PyProof.Rows L2
/-- a class: the letters, the classes beneath, the height -/
abbrev Ent := Str × List Nat × Nat
def posE (es : List Ent) (s : Str) (r : List Nat) : Option Nat := es.findIdx? fun e => decide (e.1 = s ∧ e.2.1 = r)
def stepC (w : Wb) (st : List Ent × List Nat) (i : Nat) : List Ent × List Nat :=
  match posE st.1 (w.atoms.getD i "") (ascN (((bensF w.below).getD i []).map fun j => st.2.getD j 0)) with
  | some k => (st.1, st.2 ++ [k])
  | none => (st.1 ++ [(w.atoms.getD i "", ascN (((bensF w.below).getD i []).map fun j => st.2.getD j 0), (hgtF w.below).getD i 0)], st.2 ++ [st.1.length])
/-- the first points of a web -/
def webAt (es : List Ent) (w : Wb) (i : Nat) : List Ent × List Nat := (List.range i).foldl (stepC w) (es, [])
def webCl (es : List Ent) (w : Wb) : List Ent × List Nat := webAt es w w.below.length
def allC (ws : List Wb) : List Ent × List (List Nat) := ws.foldl (fun st w => ((webCl st.1 w).1, st.2 ++ [(webCl st.1 w).2])) ([], [])
theorem webAt_zero (es : List Ent) (w : Wb) : webAt es w 0 = (es, []) := rfl
theorem webAt_succ (es : List Ent) (w : Wb) (i : Nat) : webAt es w (i + 1) = stepC w (webAt es w i) i := by
  unfold webAt
  rw [List.range_succ, List.foldl_append]
  rfl
theorem stepC_old {w : Wb} {st : List Ent × List Nat} {i k : Nat} (h : posE st.1 (w.atoms.getD i "") (ascN (((bensF w.below).getD i []).map fun j => st.2.getD j 0)) = some k) : stepC w st i = (st.1, st.2 ++ [k]) := by
  unfold stepC
  rw [h]
theorem stepC_new {w : Wb} {st : List Ent × List Nat} {i : Nat} (h : posE st.1 (w.atoms.getD i "") (ascN (((bensF w.below).getD i []).map fun j => st.2.getD j 0)) = none) : stepC w st i = (st.1 ++ [(w.atoms.getD i "", ascN (((bensF w.below).getD i []).map fun j => st.2.getD j 0), (hgtF w.below).getD i 0)], st.2 ++ [st.1.length]) := by
  unfold stepC
  rw [h]
theorem webAt_len (es : List Ent) (w : Wb) : ∀ i, (webAt es w i).2.length = i ∧ (webAt es w i).1.length ≤ es.length + i
  | 0 => ⟨rfl, Nat.le_refl _⟩
  | i + 1 => by
    have ⟨h1, h2⟩ := webAt_len es w i
    rw [webAt_succ]
    cases e : posE (webAt es w i).1 (w.atoms.getD i "") (ascN (((bensF w.below).getD i []).map fun j => (webAt es w i).2.getD j 0)) with
    | some k =>
      rw [stepC_old e]
      simp only [List.length_append, List.length_cons, List.length_nil]
      omega
    | none =>
      rw [stepC_new e]
      simp only [List.length_append, List.length_cons, List.length_nil]
      omega
theorem allC_snoc (ws : List Wb) (w : Wb) : allC (ws ++ [w]) = ((webCl (allC ws).1 w).1, (allC ws).2 ++ [(webCl (allC ws).1 w).2]) := by
  unfold allC
  rw [List.foldl_append]
  rfl
theorem posE_snoc {es : List Ent} {s : Str} {r : List Nat} (h : Nat) (hn : posE es s r = none) : posE (es ++ [(s, r, h)]) s r = some es.length := by
  unfold posE at hn ⊢
  rw [List.findIdx?_append, hn]
  simp
end N
set_option Elab.async false
set_option linter.all false
set_option maxRecDepth 100000
set_option maxHeartbeats 1000000
namespace N
open PySem PySem.Spec PyProof.Rows L2
theorem allC_len (ws : List Wb) : (allC ws).2.length = ws.length := by
  induction ws using snoc_ind with
  | h0 => rfl
  | h1 ws w ih => rw [allC_snoc, List.length_append, List.length_append, ih]; rfl
end N
set_option Elab.async false
set_option linter.all false
set_option maxRecDepth 100000
set_option maxHeartbeats 4000000
set_option Elab.async false
set_option linter.all false
set_option maxRecDepth 100000
set_option maxHeartbeats 1000000
namespace N
open PySem PySem.Spec PyProof.Rows L2
/-- the number of a point's class -/
def clsN (ws : List Wb) (i p : Nat) : Nat := ((allC ws).2.getD i []).getD p 0
end N
set_option Elab.async false
set_option linter.all false
set_option maxRecDepth 100000
set_option maxHeartbeats 1000000
namespace N
open PySem PySem.Spec PyProof.Rows L2
theorem posE_app {es : List Ent} {s : Str} {r : List Nat} {k : Nat} (l : List Ent) (h : posE es s r = some k) : posE (es ++ l) s r = some k := by
  unfold posE at h ⊢
  rw [List.findIdx?_append, h]
  rfl
/-- equal places, equal keys -/
theorem posE_inj {es : List Ent} {s s' : Str} {r r' : List Nat} {k : Nat} (h : posE es s r = some k) (h' : posE es s' r' = some k) : s = s' ∧ r = r' := by
  unfold posE at h h'
  obtain ⟨h1, h2, _⟩ := List.findIdx?_eq_some_iff_getElem.mp h
  obtain ⟨h3, h4, _⟩ := List.findIdx?_eq_some_iff_getElem.mp h'
  have h2 := of_decide_eq_true h2
  have h4 := of_decide_eq_true h4
  exact ⟨h2.1.symm.trans h4.1, h2.2.symm.trans h4.2⟩
/-- the key of a point, by numbers -/
def keyA (w : Wb) (ns : List Nat) (p : Nat) : Str × List Nat := (w.atoms.getD p "", ascN (((bensF w.below).getD p []).map fun j => ns.getD j 0))
theorem bens_low {w : Wb} (hw : w.ok) {p : Nat} : ∀ x ∈ (bensF w.below).getD p [], x < p := fun x hx => by
  rw [List.getD_eq_getElem?_getD] at hx
  cases e : (bensF w.below)[p]? with
  | none => rw [e] at hx; simp at hx
  | some b =>
    rw [e] at hx
    exact bensF_low hw.rows p b e x hx
theorem keyA_snoc {w : Wb} (hw : w.ok) (ns : List Nat) (k p : Nat) (hp : p ≤ ns.length) : keyA w (ns ++ [k]) p = keyA w ns p := by
  unfold keyA
  congr 2
  refine List.map_congr_left fun x hx => ?_
  have := bens_low hw x hx
  rw [List.getD_eq_getElem?_getD, List.getD_eq_getElem?_getD, List.getElem?_append_left (by omega)]
/-- what holds of the points that are met -/
theorem webAt_pos {w : Wb} (hw : w.ok) (es : List Ent) : ∀ i, (∃ l, (webAt es w i).1 = es ++ l) ∧ ∀ p, p < i → posE (webAt es w i).1 (keyA w (webAt es w i).2 p).1 (keyA w (webAt es w i).2 p).2 = some ((webAt es w i).2.getD p 0)
  | 0 => ⟨⟨[], by simp [webAt_zero]⟩, fun p h => absurd h (Nat.not_lt_zero _)⟩
  | i + 1 => by
    obtain ⟨⟨l, hl⟩, hp⟩ := webAt_pos hw es i
    obtain ⟨n1, n2⟩ := webAt_len es w i
    rw [webAt_succ]
    have e0 : (w.atoms.getD i "", ascN (((bensF w.below).getD i []).map fun j => (webAt es w i).2.getD j 0)) = keyA w (webAt es w i).2 i := rfl
    cases e : posE (webAt es w i).1 (w.atoms.getD i "") (ascN (((bensF w.below).getD i []).map fun j => (webAt es w i).2.getD j 0)) with
    | some k =>
      rw [stepC_old e]
      refine ⟨⟨l, hl⟩, fun p hlt => ?_⟩
      show posE (webAt es w i).1 (keyA w ((webAt es w i).2 ++ [k]) p).1 (keyA w ((webAt es w i).2 ++ [k]) p).2 = some (((webAt es w i).2 ++ [k]).getD p 0)
      rw [keyA_snoc hw _ _ _ (by omega)]
      by_cases h : p < i
      · rw [hp p h, List.getD_eq_getElem?_getD, List.getD_eq_getElem?_getD, List.getElem?_append_left (by omega)]
      · have h : p = i := by omega
        subst h
        rw [List.getD_eq_getElem?_getD, List.getElem?_append_right (by omega), n1]
        simp only [Nat.sub_self, List.getElem?_cons_zero, Option.getD_some]
        exact e
    | none =>
      rw [stepC_new e]
      refine ⟨⟨l ++ [_], by rw [hl, List.append_assoc]⟩, fun p hlt => ?_⟩
      show posE ((webAt es w i).1 ++ [_]) (keyA w ((webAt es w i).2 ++ [_]) p).1 (keyA w ((webAt es w i).2 ++ [_]) p).2 = some (((webAt es w i).2 ++ [_]).getD p 0)
      rw [keyA_snoc hw _ _ _ (by omega)]
      by_cases h : p < i
      · rw [posE_app _ (hp p h), List.getD_eq_getElem?_getD, List.getD_eq_getElem?_getD, List.getElem?_append_left (by omega)]
      · have h : p = i := by omega
        subst h
        rw [List.getD_eq_getElem?_getD (l := (webAt es w p).2 ++ [(webAt es w p).1.length]), List.getElem?_append_right (by omega), n1]
        simp only [Nat.sub_self, List.getElem?_cons_zero, Option.getD_some]
        exact posE_snoc _ e
theorem allC_pos (ws : List Wb) (hws : ∀ w ∈ ws, w.ok) : ∀ (i : Nat) (w : Wb) (p : Nat), ws[i]? = some w → p < w.below.length → posE (allC ws).1 (keyA w ((allC ws).2.getD i []) p).1 (keyA w ((allC ws).2.getD i []) p).2 = some (clsN ws i p) := by
  induction ws using snoc_ind with
  | h0 => intro i w p h; simp at h
  | h1 ws v ih =>
    intro i w p h hp
    have hl := allC_len ws
    have ih := ih fun w hw => hws w (List.mem_append_left _ hw)
    have hv := hws v (by simp)
    obtain ⟨⟨l, hl2⟩, h2⟩ := webAt_pos hv (allC ws).1 v.below.length
    unfold clsN
    rw [allC_snoc]
    by_cases hi : i < ws.length
    · rw [List.getElem?_append_left hi] at h
      have e : ((allC ws).2 ++ [(webCl (allC ws).1 v).2]).getD i [] = (allC ws).2.getD i [] := by
        rw [List.getD_eq_getElem?_getD, List.getD_eq_getElem?_getD, List.getElem?_append_left (by omega)]
      show posE (webCl (allC ws).1 v).1 (keyA w (((allC ws).2 ++ [(webCl (allC ws).1 v).2]).getD i []) p).1 (keyA w (((allC ws).2 ++ [(webCl (allC ws).1 v).2]).getD i []) p).2 = some ((((allC ws).2 ++ [(webCl (allC ws).1 v).2]).getD i []).getD p 0)
      rw [e]
      have : (webCl (allC ws).1 v).1 = (allC ws).1 ++ l := hl2
      rw [this]
      exact posE_app _ (ih i w p h hp)
    · rw [List.getElem?_append_right (by omega)] at h
      have hi2 : i = ws.length := by
        rcases Nat.lt_or_ge (i - ws.length) 1 with q | q
        · omega
        · rw [List.getElem?_eq_none (by simpa using q)] at h
          cases h
      subst hi2
      have h : v = w := by simpa using h
      subst h
      have e : ((allC ws).2 ++ [(webCl (allC ws).1 v).2]).getD ws.length [] = (webCl (allC ws).1 v).2 := by
        rw [List.getD_eq_getElem?_getD, List.getElem?_append_right (by omega), hl]
        simp
      show posE (webCl (allC ws).1 v).1 (keyA v (((allC ws).2 ++ [(webCl (allC ws).1 v).2]).getD ws.length []) p).1 (keyA v (((allC ws).2 ++ [(webCl (allC ws).1 v).2]).getD ws.length []) p).2 = some ((((allC ws).2 ++ [(webCl (allC ws).1 v).2]).getD ws.length []).getD p 0)
      rw [e]
      exact h2 p hp
/-- two points have one class where the letters and the classes beneath are the same -/
theorem cls_iff {ws : List Wb} (hws : ∀ w ∈ ws, w.ok) {i j p q : Nat} {w v : Wb} (hi : ws[i]? = some w) (hj : ws[j]? = some v) (hp : p < w.below.length) (hq : q < v.below.length) :
    clsN ws i p = clsN ws j q ↔ w.atoms.getD p "" = v.atoms.getD q "" ∧ ∀ x, (∃ a ∈ (bensF w.below).getD p [], clsN ws i a = x) ↔ (∃ b ∈ (bensF v.below).getD q [], clsN ws j b = x) := by
  have h1 := allC_pos ws hws i w p hi hp
  have h2 := allC_pos ws hws j v q hj hq
  have asc : ∀ {a b : List Nat}, ascN a = ascN b ↔ ∀ x, x ∈ a ↔ x ∈ b := fun {a b} => by
    constructor
    · intro e x
      rw [← mem_ascN, e, mem_ascN]
    · intro h
      exact ascN_ext (asc_ascN a) (asc_ascN b) fun x => by rw [mem_ascN, mem_ascN, h]
  have mm : ∀ (w : Wb) (i p x : Nat), x ∈ (((bensF w.below).getD p []).map fun j => ((allC ws).2.getD i []).getD j 0) ↔ ∃ a ∈ (bensF w.below).getD p [], clsN ws i a = x := fun w i p x => by
    rw [List.mem_map]
    exact Iff.rfl
  constructor
  · intro e
    rw [e] at h1
    obtain ⟨g1, g2⟩ := posE_inj h1 h2
    refine ⟨g1, fun x => ?_⟩
    rw [← mm, ← mm]
    exact asc.mp g2 x
  · rintro ⟨g1, g2⟩
    have e1 : (keyA w ((allC ws).2.getD i []) p).1 = (keyA v ((allC ws).2.getD j []) q).1 := g1
    have e2 : (keyA w ((allC ws).2.getD i []) p).2 = (keyA v ((allC ws).2.getD j []) q).2 := asc.mpr fun x => by rw [mm, mm]; exact g2 x
    rw [e1, e2, h2] at h1
    exact (Option.some.inj h1).symm
end N
set_option Elab.async false
set_option linter.all false
set_option maxRecDepth 100000
set_option maxHeartbeats 1000000
namespace N
open PySem PySem.Spec PyProof.Rows L2
structure Bis (u w : Wb) (R : Nat → Nat → Prop) : Prop where
  dom : ∀ i p, R i p → i < u.below.length ∧ p < w.below.length
  at_ : ∀ i p, R i p → u.atoms.getD i "" = w.atoms.getD p ""
  forth : ∀ i p, R i p → ∀ a ∈ (bensF u.below).getD i [], ∃ b ∈ (bensF w.below).getD p [], R a b
  back : ∀ i p, R i p → ∀ b ∈ (bensF w.below).getD p [], ∃ a ∈ (bensF u.below).getD i [], R a b
section
variable {u w : Wb} {R : Nat → Nat → Prop} (hu : u.ok) (hw : w.ok) (B : Bis u w R)
include hu hw B
theorem Bis.cls {i p : Nat} (r : R i p) : clsN [u, w] 0 i = clsN [u, w] 1 p := by
  have hws : ∀ x ∈ [u, w], x.ok := by simp [hu, hw]
  let Q : Nat → Nat → Nat → Nat → Prop := fun i p j q => i = 0 ∧ j = 1 ∧ R p q
  have key : ∀ m p q, p < m → R p q → clsN [u, w] 0 p = clsN [u, w] 1 q := by
    intro m
    induction m with
    | zero => intro p q h; exact absurd h (Nat.not_lt_zero _)
    | succ m ih =>
      intro p q hm r
      obtain ⟨h1, h2⟩ := B.dom p q r
      refine (cls_iff hws (i := 0) (j := 1) rfl rfl h1 h2).mpr ⟨B.at_ p q r, fun x => ⟨?_, ?_⟩⟩
      · rintro ⟨a, ha, e⟩
        obtain ⟨b, hb, r2⟩ := B.forth p q r a ha
        have := bens_low hu a ha
        exact ⟨b, hb, by rw [← e, ih a b (by omega) r2]⟩
      · rintro ⟨b, hb, e⟩
        obtain ⟨a, ha, r2⟩ := B.back p q r b hb
        have := bens_low hu a ha
        exact ⟨a, ha, by rw [← e, ih a b (by omega) r2]⟩
  exact key (i + 1) i p (Nat.lt_succ_self _) r
end
end N
set_option Elab.async false
set_option linter.all false
set_option maxRecDepth 100000
set_option maxHeartbeats 1000000
set_option Elab.async false
set_option linter.all false
set_option maxRecDepth 100000
set_option maxHeartbeats 1000000
set_option Elab.async false
set_option linter.all false
set_option maxRecDepth 100000
set_option maxHeartbeats 1000000
set_option Elab.async false
set_option linter.all false
set_option maxRecDepth 100000
set_option maxHeartbeats 1000000
namespace N
open PySem PySem.Spec PyProof.Rows L2
open C8 (Cal Met Mak InsC pe_c pe_mt pe_mt0 pe_mk)
open TL (numL numL_lt numL_step numL_digits numL_ne int_num split_join joinL tl_join join_eq tl_num)
theorem str_lets (x : Str) : x.length = (lets x).length := str_len x
/-- a number's text -/
def numS (n : Nat) : Str := Str.ofString (toString ((n : Nat) : Int))
theorem numS_lets (n : Nat) : lets (numS n) = numL n := tl_num n
theorem numL_two {n : Nat} (h : 10 ≤ n) (h2 : n < 100) : numL n = [48 + n / 10, 48 + n % 10] := by
  rw [numL_step h, numL_lt (by omega)]
  rfl
theorem numS_len {n : Nat} (h : n < 100) : (numS n).length ≤ 2 ∧ (numS n).length ≠ 0 := by
  rw [str_lets, numS_lets]
  by_cases h2 : n < 10
  · rw [numL_lt h2]
    simp
  · rw [numL_two (by omega) h]
    simp
/-- the word of the letters -/
def wordL (s : Str) : Str := if s = "" then "-" else s
def lineL (s : Str) (r : List Nat) : List Str := wordL s :: r.map numS
def lineS (s : Str) (r : List Nat) : Str := Txt.join " " (lineL s r)
def Wb.lines (w : Wb) : List Str := List.zipWith lineS w.atoms w.below
def Wb.text (w : Wb) : Str := Txt.join "\n" w.lines
theorem sum_len {ps : List Str} {n : Nat} (h : ∀ p ∈ ps, p.length ≤ n) : (ps.map (·.length)).sum ≤ ps.length * n := by
  induction ps with
  | nil => simp
  | cons p ps ih =>
    have h1 := h p List.mem_cons_self
    have h2 := ih fun z hz => h z (List.mem_cons_of_mem _ hz)
    rw [List.map_cons, List.sum_cons, List.length_cons, Nat.add_mul, Nat.one_mul]
    omega
theorem word_len {s : Str} (h : s.length ≤ 100) : (wordL s).length ≤ 100 := by
  unfold wordL
  split
  · decide
  · exact h
structure LineOk (s : Str) (r : List Nat) : Prop where
  lets : letters s
  asc : (N.lets s).Pairwise (· < ·)
  few : r.length ≤ 63
  low : ∀ k ∈ r, k < 63
theorem LineOk.len {s : Str} {r : List Nat} (h : LineOk s r) : s.length ≤ 100 := letters_len h.lets h.asc
theorem LineOk.part {s : Str} {r : List Nat} (h : LineOk s r) : ∀ p ∈ lineL s r, p.length ≤ 100 := fun p hp => by
  rcases List.mem_cons.mp hp with rfl | hp
  · exact word_len h.len
  · obtain ⟨n, hn, rfl⟩ := List.mem_map.mp hp
    have := (numS_len (n := n) (by have := h.low n hn; omega)).1
    omega
theorem LineOk.parts {s : Str} {r : List Nat} (h : LineOk s r) : (lineL s r).length ≤ 64 := by
  have := h.few
  simp [lineL]
  omega
theorem LineOk.sum {s : Str} {r : List Nat} (h : LineOk s r) : ((lineL s r).map (·.length)).sum + (lineL s r).length * (" " : Str).length ≤ 16777216 := by
  have h1 := sum_len h.part
  have h2 := h.parts
  have h3 : (" " : Str).length = 1 := rfl
  rw [h3]
  have := Nat.mul_le_mul_right 100 h2
  omega
theorem Wb.ok.line {w : Wb} (hw : w.ok) {i : Nat} {s : Str} {r : List Nat} (h1 : w.atoms[i]? = some s) (h2 : w.below[i]? = some r) : LineOk s r where
  lets := (hw.lets s (List.mem_of_getElem? h1)).1
  asc := (hw.lets s (List.mem_of_getElem? h1)).2
  few := by
    obtain ⟨a, b⟩ := hw.rows.asc i r h2
    have h3 := low_len (a.imp fun h => Nat.ne_of_lt h) b
    have := hw.rows.few
    have := (List.getElem?_eq_some_iff.mp h2).1
    omega
  low := fun k hk => by
    have h3 := (hw.rows.asc i r h2).2 k hk
    have := hw.rows.few
    have := (List.getElem?_eq_some_iff.mp h2).1
    omega
end N
namespace N
open PySem PySem.Spec PyProof.Rows L2
theorem strOk_low {s : Str} (h : ∀ c ∈ lets s, c < 200) : PyData.strOk s = true := by
  unfold PyData.strOk
  simp only [Array.all_eq_true, decide_eq_true_eq]
  intro i hi
  have := h s.cps[i] (by simp [lets])
  omega
end N
set_option Elab.async false
set_option linter.all false
set_option maxRecDepth 100000
set_option maxHeartbeats 1000000
namespace N
open PySem PySem.Spec PyProof.Rows L2
abbrev Mk15 := Sum Str Nat
abbrev mk0 : Mk15 := .inr 0
section
variable {ws : List Wb} (hws : ∀ w ∈ ws, w.ok)
include hws
/-- the number of points -/
def total (ws : List Wb) : Nat := (ws.map fun w => w.below.length).sum
end
end N
set_option Elab.async false
set_option linter.all false
set_option maxRecDepth 100000
set_option maxHeartbeats 1000000
set_option Elab.async false
set_option linter.all false
set_option maxRecDepth 100000
set_option maxHeartbeats 1000000
set_option Elab.async false
set_option linter.all false
set_option maxRecDepth 100000
set_option maxHeartbeats 1000000
namespace N
open PySem PySem.Spec PyProof.Rows L2
theorem some_of {α : Type} {l : List α} {i : Nat} {d : α} (h : i < l.length) : l[i]? = some (l.getD i d) := by
  rw [List.getD_eq_getElem?_getD, List.getElem?_eq_getElem h]
  rfl
end N
set_option Elab.async false
set_option linter.all false
set_option maxRecDepth 100000
set_option maxHeartbeats 4000000
namespace N
open PySem PySem.Spec PyProof.Rows L2 PpSet
section
variable {P : Program} {w : World} {A : Around} {R : Result → Shared → Prop} {s : Shared} {e a xs b ys : Expr} {f0 f1 : List Expr} {sc : Scope} {ps : Pos} {it acc : Value} {env : Env}
/-- what an error leads to -/
abbrev nbR (P : Program) (w : World) (A : Around) (env : Env) (R : Result → Shared → Prop) : Value → Shared → Prop := notedBy (model P w) A env fun x s' => R (.error x) s'
/-- all tests -/
abbrev tsR (fs : List Expr) (env : Env) : Sem Bool := forIn fs true fun c r => if r = true then do let ok ← isTrue c env (eval c env); pure (ForInStep.yield ok) else pure (ForInStep.yield r)
end
section
variable {X : Cx}
theorem wipe_out2 {σ : L2.St} {i : Nat} : ∀ {vs : List Nat}, i ∉ vs → (wipe σ vs)[i]? = σ[i]?
  | [], _ => rfl
  | v :: vs, h => by
    unfold wipe
    rw [List.getElem?_set_ne (fun q : v = i => h (by rw [q]; exact List.mem_cons_self)), wipe_out2 fun m => h (List.mem_cons_of_mem _ m)]
end
end N
namespace N
open PySem PySem.Spec PyProof.Rows L2 PpSet
section
variable {F : FmKit} {T : Kx} {G : Gm} {W : Om} {R : D → Om → Prop} {te : TE} {w : World} {vs us : List Nat}
theorem yes_tt {σ : L2.St} {H : Hp} {A B : Hp → Prop} (h : A H) : tYes σ H (fun b H' => if b = true then A H' else B H') := (if_pos rfl : ite (true = true) (A H) (B H) = A H).mpr h
end
end N
set_option Elab.async false
set_option linter.all false
set_option maxRecDepth 100000
set_option maxHeartbeats 1000000
set_option Elab.async false
set_option linter.all false
set_option maxRecDepth 100000
set_option maxHeartbeats 1000000
namespace N
open PySem PySem.Spec PyProof.Rows L2
theorem Bis.symm {u w : Wb} {R : Nat → Nat → Prop} (B : Bis u w R) : Bis w u fun p i => R i p :=
  ⟨fun p i r => (B.dom i p r).symm, fun p i r => (B.at_ i p r).symm, fun p i r => B.back i p r, fun p i r => B.forth i p r⟩
theorem Bis.comp {u v w : Wb} {R S : Nat → Nat → Prop} (B : Bis u v R) (C : Bis v w S) : Bis u w fun i p => ∃ j, R i j ∧ S j p :=
  ⟨fun i p ⟨j, r, s⟩ => ⟨(B.dom i j r).1, (C.dom j p s).2⟩, fun i p ⟨j, r, s⟩ => (B.at_ i j r).trans (C.at_ j p s), fun i p ⟨j, r, s⟩ a ha => by
    obtain ⟨b, hb, r2⟩ := B.forth i j r a ha
    obtain ⟨c, hc, s2⟩ := C.forth j p s b hb
    exact ⟨c, hc, b, r2, s2⟩, fun i p ⟨j, r, s⟩ c hc => by
    obtain ⟨b, hb, s2⟩ := C.back j p s c hc
    obtain ⟨a, ha, r2⟩ := B.back i j r b hb
    exact ⟨a, ha, b, r2, s2⟩⟩
end N
set_option Elab.async false
set_option linter.all false
set_option maxRecDepth 100000
set_option maxHeartbeats 1000000
namespace N
open PySem PySem.Spec PyProof.Rows L2
structure rlOk (rs : List (Nat × Fm)) : Prop where
  some_ : rs ≠ []
  few : rs.length ≤ 4
  asc : (rs.map (·.1)).Pairwise (· < ·)
  cap : ∀ p ∈ rs, 65 ≤ p.1 ∧ p.1 ≤ 90
  form : ∀ p ∈ rs, p.2.okF
  bare : ∀ p ∈ rs, ∀ c ∈ lets p.2.outer, c ∉ rs.map (·.1)
end N
set_option Elab.async false
set_option linter.all false
set_option maxRecDepth 100000
set_option maxHeartbeats 1000000
namespace N
open PySem PySem.Spec PyProof.Rows L2
theorem Den.weak {F : FmKit} {T : Kx} {H : Hp} {l : List D} {v : V} (h : Den F T H (.tupz l) v) : Den F T H (.tup l) v := by
  obtain ⟨a, xs, o, e, h1, _, k⟩ := h
  exact ⟨a, xs, e, .inl (.inr ⟨o, h1⟩), k⟩
end N
set_option Elab.async false
set_option linter.all false
set_option maxRecDepth 100000
set_option maxHeartbeats 1000000
namespace N
open PySem PySem.Spec PyProof.Rows L2
abbrev argR (es : List (Nat × D × Fm)) : D := .tup (es.map fun e => .tup [.str (sg e.1), e.2.1])
def rsOf (es : List (Nat × D × Fm)) : List (Nat × Fm) := es.map fun e => (e.1, e.2.2)
theorem caps_in {c : Nat} (h1 : 65 ≤ c) (h2 : c ≤ 90) : decide (c ∈ ("ABCDEFGHIJKLMNOPQRSTUVWXYZ" : Str).cps.toList) = true := by
  have h : ∀ c ∈ List.range 91, 65 ≤ c → decide (c ∈ ("ABCDEFGHIJKLMNOPQRSTUVWXYZ" : Str).cps.toList) = true := by decide +kernel
  exact h c (List.mem_range.mpr (by omega)) h1
def S_ismark : FS := fun ds W post => ∃ c : Nat, ds = [.str (sg c)] ∧ W = [] ∧ 65 ≤ c ∧ c ≤ 90 ∧ post (.bl true) []
def S_isrule : FS := fun ds W post => ∃ (c : Nat) (d : D) (f : Fm), ds = [.tup [.str (sg c), d]] ∧ W = [] ∧ 65 ≤ c ∧ c ≤ 90 ∧ Opd d f ∧ post (.bl true) []
end N
set_option Elab.async false
set_option linter.all false
namespace N
open PySem
def bkNames : List Str := ["forms_by_name", "levels_played"]
end N
set_option Elab.async false
set_option linter.all false
set_option maxRecDepth 100000
namespace N
open PySem PySem.Spec PyProof.Rows L2
namespace Fm
/-- whether a formula without atoms holds at a height -/
def allB (p : Nat → Bool) : Nat → Bool
  | 0 => true
  | n + 1 => allB p n && p n
def hAt : Fm → Nat → Bool
  | .at _, _ => false
  | .no, _ => false
  | .imp a b, n => !(hAt a n) || hAt b n
  | .all a, n => allB (hAt a) n
/-- ifs within one another -/
def dep : Fm → Nat
  | .imp a b => 1 + max a.dep b.dep
  | _ => 0
/-- by what is told of the all-parts -/
def hld (s : Fm → Bool) : Fm → Bool
  | .at _ => false
  | .no => false
  | .imp a b => !(hld s a) || hld s b
  | .all a => s (.all a)
theorem hld_at : ∀ (f : Fm) (n : Nat), hld (fun g => hAt g n) f = hAt f n
  | .at _, _ => rfl
  | .no, _ => rfl
  | .imp a b, n => by simp [hld, hAt, hld_at a n, hld_at b n]
  | .all a, n => rfl
theorem mem_alls_all (a : Fm) : Fm.all a ∈ (Fm.all a).alls := mem_merge.mpr (.inr (by simp))
theorem alls_all {a x : Fm} (h : x ∈ a.alls) : x ∈ (Fm.all a).alls := mem_merge.mpr (.inl h)
theorem alls_l {a b x : Fm} (h : x ∈ a.alls) : x ∈ (Fm.imp a b).alls := mem_merge.mpr (.inl h)
theorem alls_r {a b x : Fm} (h : x ∈ b.alls) : x ∈ (Fm.imp a b).alls := mem_merge.mpr (.inr h)
theorem same_at {n m : Nat} : ∀ {f : Fm}, (∀ g ∈ f.alls, hAt g n = hAt g m) → hAt f n = hAt f m
  | .at _, _ => rfl
  | .no, _ => rfl
  | .imp a b, h => by
    simp only [hAt]
    rw [same_at (f := a) fun g hg => h g (alls_l hg), same_at (f := b) fun g hg => h g (alls_r hg)]
  | .all a, h => h _ (mem_alls_all a)
/-- what is in all-parts of all-parts -/
theorem alls_trans : ∀ {f : Fm} {g x : Fm}, g ∈ f.alls → x ∈ g.alls → x ∈ f.alls
  | .at _, _, _, h, _ => by simp [alls] at h
  | .no, _, _, h, _ => by simp [alls] at h
  | .imp a b, g, x, h, k => by
    rcases mem_merge.mp h with h | h
    · exact alls_l (alls_trans h k)
    · exact alls_r (alls_trans h k)
  | .all a, g, x, h, k => by
    rcases mem_merge.mp h with h | h
    · exact alls_all (alls_trans h k)
    · rw [List.mem_singleton] at h
      subst h
      exact k
theorem alls_form : ∀ {f g : Fm}, g ∈ f.alls → ∃ a, g = .all a ∧ ∀ x ∈ a.alls, x ∈ f.alls
  | .at _, _, h => by simp [alls] at h
  | .no, _, h => by simp [alls] at h
  | .imp a b, g, h => by
    rcases mem_merge.mp h with h | h
    · obtain ⟨c, e, k⟩ := alls_form h
      exact ⟨c, e, fun x hx => alls_l (k x hx)⟩
    · obtain ⟨c, e, k⟩ := alls_form h
      exact ⟨c, e, fun x hx => alls_r (k x hx)⟩
  | .all a, g, h => by
    rcases mem_merge.mp h with h | h
    · obtain ⟨c, e, k⟩ := alls_form h
      exact ⟨c, e, fun x hx => alls_all (k x hx)⟩
    · rw [List.mem_singleton] at h
      subst h
      exact ⟨a, rfl, fun x hx => alls_all hx⟩
/-- the all-parts stand still from n to n + 1 -/
def still (f : Fm) (n : Nat) : Prop := ∀ g ∈ f.alls, hAt g (n + 1) = hAt g n
theorem still_next {f : Fm} {n : Nat} (h : still f n) : still f (n + 1) := fun g hg => by
  obtain ⟨a, e, k⟩ := alls_form hg
  subst e
  have h1 := h _ hg
  have h2 : hAt a (n + 1) = hAt a n := same_at fun x hx => h x (k x hx)
  simp only [hAt, allB] at h1 ⊢
  rw [h2, h1]
  rw [← h1]
  cases allB (hAt a) n <;> cases hAt a n <;> rfl
theorem still_on {f : Fm} {n : Nat} (h : still f n) : ∀ m, n ≤ m → still f m := fun m hm => by
  induction m with
  | zero =>
    have : n = 0 := by omega
    subst this
    exact h
  | succ m ih =>
    by_cases e : n = m + 1
    · subst e
      exact h
    · exact still_next (ih (by omega))
theorem still_all {f : Fm} {n : Nat} (h : still f n) : ∀ m, n ≤ m → hAt f m = hAt f n := fun m hm => by
  induction m with
  | zero =>
    have : n = 0 := by omega
    subst this
    rfl
  | succ m ih =>
    by_cases e : n = m + 1
    · subst e
      rfl
    · rw [← ih (by omega)]
      exact same_at (still_on h m (by omega))
/-- how many all-parts hold -/
def cnt (f : Fm) (n : Nat) : Nat := (f.alls.filter fun g => hAt g n).length
theorem falls {f g : Fm} {n : Nat} (hg : g ∈ f.alls) (h : hAt g (n + 1) = true) : hAt g n = true := by
  obtain ⟨a, e, _⟩ := alls_form hg
  subst e
  simp only [hAt, allB, Bool.and_eq_true] at h ⊢
  exact h.1
theorem filter_le {α : Type} {p q : α → Bool} : ∀ {l : List α}, (∀ x ∈ l, p x = true → q x = true) → (l.filter p).length ≤ (l.filter q).length ∧ ((∃ x ∈ l, p x ≠ q x) → (l.filter p).length < (l.filter q).length)
  | [], _ => ⟨Nat.le_refl _, fun ⟨x, h, _⟩ => by simp at h⟩
  | a :: l, h => by
    obtain ⟨h1, h2⟩ := filter_le (l := l) (p := p) (q := q) fun x hx => h x (List.mem_cons_of_mem _ hx)
    have ha := h a List.mem_cons_self
    cases ep : p a <;> cases eq : q a
    · simp only [List.filter_cons, ep, eq]
      refine ⟨h1, fun ⟨x, hx, hn⟩ => h2 ?_⟩
      rcases List.mem_cons.mp hx with e | e
      · subst e
        exact absurd (ep.trans eq.symm) hn
      · exact ⟨x, e, hn⟩
    · simp only [List.filter_cons, ep, eq]
      simp
      omega
    · rw [ep, eq] at ha
      exact absurd (ha rfl) (by simp)
    · simp only [List.filter_cons, ep, eq]
      simp
      refine ⟨h1, fun hx => ?_⟩
      rcases hx with e | ⟨x, e⟩
      · exact absurd (by rw [ep, eq]) e
      · exact h2 ⟨_, e.1, e.2⟩
theorem cnt_lt {f : Fm} {n : Nat} (h : ¬ still f n) : cnt f (n + 1) < cnt f n := by
  unfold cnt
  refine (filter_le fun x hx => falls hx).2 ?_
  unfold still at h
  simp only [Classical.not_forall] at h
  obtain ⟨g, hg, hn⟩ := h
  exact ⟨g, hg, hn⟩
end Fm
end N
namespace N
open PySem PySem.Spec PyProof.Rows L2
/-- what a table of truth values tells of formulas -/
def Tab (ks : List (Key × Bool)) (s : Fm → Bool) : Fm → Prop
  | .at _ => True
  | .no => True
  | .imp a b => Tab ks s a ∧ Tab ks s b
  | .all a => getG ks (Sum.inr (Fm.all a).spell) = some (s (.all a))
def S_held (j : Nat) : FS := fun ds W post => ∃ (f : Fm) (sd : D) (ks : List (Key × Bool)) (s : Fm → Bool), ds = [.fm f, sd] ∧ Vd W sd (blD ks) ∧ f.dep < j ∧ Tab ks s f ∧ post (.bl (Fm.hld s f)) W
theorem getG_bl {k : Key} : ∀ {ls : List (Key × Bool)}, getG (blD ls) k = (getG ls k).map D.bl
  | [] => rfl
  | (j, b) :: r => by
    have ih := getG_bl (k := k) (ls := r)
    unfold getG blD at *
    rw [List.map_cons, List.find?_cons, List.find?_cons]
    by_cases h : j = k
    · simp [h]
    · simp only [h, decide_false]
      exact ih
end N
namespace N
open PySem PySem.Spec PyProof.Rows L2
/-- all all-parts nest few ifs -/
def flat (j : Nat) (f : Fm) : Prop := f.dep < j ∧ ∀ a, Fm.all a ∈ f.alls → a.dep < j
def S_values : FS := fun ds W post => ∃ f : Fm, ds = [.fm f] ∧ W = [] ∧ f.okF ∧ flat 60 f ∧
  ∀ (p : Addr) (m : Nat), m ≤ 64 → Fm.still f m → post (.adr p) [(p, .lst ((List.range (m + 1)).map fun i => .bl (Fm.hAt f i)))]
end N
namespace N
open PySem PySem.Spec PyProof.Rows L2
def Fm.inn : Fm → Fm
  | .all a => a
  | f => f
/-- the rows of an all-part's text and what is in it -/
def rowsH (f : Fm) : List D := f.alls.map fun g => .tup [.str g.spell, .fm g.inn]
end N
namespace N
open PySem PySem.Spec PyProof.Rows L2
theorem getG_map {α β : Type} {key : α → Key} {v : α → β} : ∀ {l : List α} {x : α}, x ∈ l → (l.map key).Nodup → getG (l.map fun y => (key y, v y)) (key x) = some (v x)
  | [], x, h, _ => by simp at h
  | y :: l, x, h, nd => by
    rw [List.map_cons, List.nodup_cons] at nd
    unfold getG
    rw [List.map_cons, List.find?_cons]
    by_cases e : key y = key x
    · simp only [e, decide_true, Option.map_some]
      rcases List.mem_cons.mp h with h | h
      · rw [h]
      · exact absurd (List.mem_map.mpr ⟨x, h, e.symm⟩) nd.1
    · simp only [e, decide_false]
      rcases List.mem_cons.mp h with h | h
      · exact absurd (by rw [h]) e
      · exact getG_map h nd.2
/-- the table of the all-parts at a height -/
def ksAt (f : Fm) (n : Nat) : List (Key × Bool) := f.alls.map fun g => (Sum.inr g.spell, g.hAt n)
theorem keys_nd {f : Fm} (hf : f.okL) : (f.alls.map fun g => (Sum.inr g.spell : Key)).Nodup := by
  obtain ⟨h1, h2⟩ := Fm.alls_sub hf
  unfold List.Nodup
  rw [List.pairwise_map]
  refine h2.imp fun {a b} h e => ?_
  have e := Sum.inr.inj e
  unfold Fm.ltF at h
  rw [e, ltS_irrefl] at h
  cases h
theorem ksAt_get {f g : Fm} {n : Nat} (hf : f.okL) (hg : g ∈ f.alls) : getG (ksAt f n) (Sum.inr g.spell) = some (g.hAt n) := getG_map (key := fun g : Fm => (Sum.inr g.spell : Key)) (v := fun g : Fm => g.hAt n) hg (keys_nd hf)
theorem tab_ks {f : Fm} {n : Nat} (hf : f.okL) : ∀ {a : Fm}, (∀ x ∈ a.alls, x ∈ f.alls) → Tab (ksAt f n) (fun g => g.hAt n) a
  | .at _, _ => trivial
  | .no, _ => trivial
  | .imp a b, h => ⟨tab_ks hf fun x hx => h x (Fm.alls_l hx), tab_ks hf fun x hx => h x (Fm.alls_r hx)⟩
  | .all a, h => ksAt_get hf (h _ (Fm.mem_alls_all a))
theorem eq_ks {f : Fm} {n : Nat} (hf : f.okL) : eqDB (ksAt f (n + 1)) (ksAt f n) = true ↔ f.still n := by
  unfold eqDB
  rw [List.all_eq_true]
  constructor
  · intro h g hg
    have := h _ (List.mem_map.mpr ⟨g, hg, rfl⟩)
    simp only [decide_eq_true_eq, ksAt_get hf hg, Option.some.injEq] at this
    exact this.symm
  · intro h q hq
    obtain ⟨g, hg, e⟩ := List.mem_map.mp hq
    subst e
    simp only [decide_eq_true_eq, ksAt_get hf hg, Option.some.injEq]
    exact (h g hg).symm
theorem nodup_notin {α : Type} : ∀ {l : List α} {i : Nat} {x : α}, l.Nodup → l[i]? = some x → x ∉ l.take i
  | [], i, x, _, h => by simp at h
  | a :: l, 0, x, _, h => by simp
  | a :: l, i + 1, x, nd, h => by
    rw [List.nodup_cons] at nd
    rw [List.getElem?_cons_succ] at h
    rw [List.take_succ_cons, List.mem_cons, not_or]
    exact ⟨fun e => nd.1 (by rw [← e]; exact List.mem_of_getElem? h), nodup_notin nd.2 h⟩
/-- a table is filled in order -/
theorem put_row {f g : Fm} (hf : f.okL) {v : Fm → Bool} {i : Nat} (hg : f.alls[i]? = some g) : putG (blD ((f.alls.map fun g => ((Sum.inr g.spell : Key), v g)).take i)) (Sum.inr g.spell) (.bl (v g)) = blD ((f.alls.map fun g => ((Sum.inr g.spell : Key), v g)).take (i + 1)) := by
  rw [putG_new]
  · rw [List.take_add_one, List.getElem?_map, hg]
    simp [blD]
  · have nd := keys_nd hf
    have h1 := nodup_notin nd (i := i) (x := Sum.inr g.spell) (by rw [List.getElem?_map, hg]; rfl)
    have e : (blD ((f.alls.map fun g => ((Sum.inr g.spell : Key), v g)).take i)).map (·.1) = (f.alls.map fun g => (Sum.inr g.spell : Key)).take i := by
      simp [blD, List.map_take, Function.comp_def]
    rw [e]
    exact h1
theorem inn_all {f g : Fm} (h : g ∈ f.alls) : g = .all g.inn ∧ ∀ x ∈ g.inn.alls, x ∈ f.alls := by
  obtain ⟨a, e, k⟩ := Fm.alls_form h
  subst e
  exact ⟨rfl, k⟩
theorem hAt_succ {f g : Fm} {n : Nat} (h : g ∈ f.alls) : g.hAt (n + 1) = (g.hAt n && g.inn.hAt n) := by
  obtain ⟨a, e, k⟩ := Fm.alls_form h
  subst e
  rfl
theorem hAt_zero {f g : Fm} (h : g ∈ f.alls) : g.hAt 0 = true := by
  obtain ⟨a, e, k⟩ := Fm.alls_form h
  subst e
  rfl
theorem cnt_le (f : Fm) (n : Nat) : f.cnt n ≤ f.alls.length := List.length_filter_le _ _
end N
namespace N
open PySem PySem.Spec PyProof.Rows L2
/-- the heights at which it is otherwise than at last -/
def hsOf (f : Fm) (m : Nat) : List Int := ((List.range (m + 1)).filter fun i => f.hAt i != f.hAt m).map fun (i : Nat) => (i : Int)
def S_trace : FS := fun ds W post => ∃ f : Fm, ds = [.fm f] ∧ W = [] ∧ f.okF ∧ flat 60 f ∧ ∀ m : Nat, m ≤ 64 → f.still m → post (.tup [.tup ((hsOf f m).map D.int), .bl (f.hAt m)]) []
theorem atI_last {α : Type} {g : Nat → α} (m : Nat) : atI ((List.range (m + 1)).map g) (-1) = some (g m) := by
  unfold atI ixN
  rw [List.length_map, List.length_range, if_neg (by decide), if_pos (by omega)]
  have e : (-1 + ((m + 1 : Nat) : Int)).toNat = m := by omega
  rw [e]
  simp
end N
set_option Elab.async false
set_option linter.all false
set_option maxRecDepth 100000
set_option maxHeartbeats 1000000
set_option Elab.async false
set_option linter.all false
set_option maxRecDepth 100000
set_option maxHeartbeats 1000000
namespace N
open PySem PySem.Spec PyProof.Rows L2
namespace Fm
/-- a tree over letters outside and letters within -/
def Frm : Fm → Str → Str → Prop
  | .at c, p, _ => c ∈ lets p
  | .no, _, _ => True
  | .imp a b, p, q => Frm a p q ∧ Frm b p q
  | .all a, p, q => Frm a (p ++ q ++ q) ""
theorem frm_bare : ∀ {f : Fm}, Frm f "" "" → f.bare
  | .at c, h => by
    have h : c ∈ lets ("" : Str) := h
    rw [show lets ("" : Str) = [] from rfl] at h
    cases h
  | .no, _ => trivial
  | .imp a b, h => ⟨frm_bare h.1, frm_bare h.2⟩
  | .all a, h => frm_bare (f := a) h
theorem few_many : ∀ f : Fm, few f.many f
  | .at c => (few.at c).up (Nat.zero_le _)
  | .no => few.no.up (Nat.zero_le _)
  | .imp a b => ((few_many a).imp (few_many b)).up (by simp only [many]; omega)
  | .all a => (few_many a).all.up (by simp only [many]; omega)
theorem sz_many : ∀ f : Fm, f.sz ≤ 5 * f.many
  | .at c => by simp [sz, many]
  | .no => by simp [sz, many]
  | .imp a b => by have := sz_many a; have := sz_many b; simp only [sz, many]; omega
  | .all a => by have := sz_many a; simp only [sz, many]; omega
theorem ht_many : ∀ f : Fm, f.ht < f.many
  | .at c => by simp [ht, many]
  | .no => by simp [ht, many]
  | .imp a b => by have := ht_many a; have := ht_many b; simp only [ht, many]; omega
  | .all a => by have := ht_many a; simp only [ht, many]; omega
theorem dep_ht : ∀ f : Fm, f.dep ≤ f.ht
  | .at c => Nat.le_refl _
  | .no => Nat.le_refl _
  | .imp a b => by have := dep_ht a; have := dep_ht b; simp only [dep, ht]; omega
  | .all a => Nat.zero_le _
theorem alls_ht : ∀ {f g : Fm}, g ∈ f.alls → g.ht ≤ f.ht
  | .at _, _, h => by simp [alls] at h
  | .no, _, h => by simp [alls] at h
  | .imp a b, g, h => by
    rcases mem_merge.mp h with h | h
    · have := alls_ht h; simp only [ht]; omega
    · have := alls_ht h; simp only [ht]; omega
  | .all a, g, h => by
    rcases mem_merge.mp h with h | h
    · have := alls_ht h; simp only [ht]; omega
    · rw [List.mem_singleton] at h
      subst h
      exact Nat.le_refl _
theorem flat_ht {f : Fm} {j : Nat} (h : f.ht < j) : flat j f := ⟨Nat.lt_of_le_of_lt (dep_ht f) h, fun a ha => by
  have h1 := alls_ht ha
  have h2 := dep_ht a
  simp only [ht] at h1
  omega⟩
/-- towers of alls -/
def belo : Nat → Fm
  | 0 => .no
  | n + 1 => .all (belo n)
theorem belo_few : ∀ n, few n (belo n)
  | 0 => few.no
  | n + 1 => (belo_few n).all
theorem belo_sz : ∀ n, (belo n).sz = 4 * n + 2
  | 0 => rfl
  | n + 1 => by simp only [belo, sz, belo_sz n]; omega
theorem belo_ht : ∀ n, (belo n).ht = n
  | 0 => rfl
  | n + 1 => by simp only [belo, ht, belo_ht n]; omega
theorem belo_bare : ∀ n, (belo n).bare
  | 0 => trivial
  | n + 1 => belo_bare n
/-- small formulas without atoms -/
structure H (n s t : Nat) (f : Fm) : Prop where
  bare : f.bare
  few : few n f
  sz : f.sz ≤ s
  ht : f.ht ≤ t
theorem H.up {n s t n' s' t' : Nat} {f : Fm} (h : H n s t f) (h1 : n ≤ n') (h2 : s ≤ s') (h3 : t ≤ t') : H n' s' t' f := ⟨h.bare, h.few.up h1, Nat.le_trans h.sz h2, Nat.le_trans h.ht h3⟩
theorem H.belo (n : Nat) : H n (4 * n + 2) n (belo n) := ⟨belo_bare n, belo_few n, Nat.le_of_eq (belo_sz n), Nat.le_of_eq (belo_ht n)⟩
theorem H.no : H 0 2 0 .no := ⟨trivial, few.no, Nat.le_refl _, Nat.le_refl _⟩
theorem H.imp {n s t n' s' t' : Nat} {f g : Fm} (h : H n s t f) (k : H n' s' t' g) : H (n + n') (5 + s + s') (1 + max t t') (.imp f g) := ⟨⟨h.bare, k.bare⟩, h.few.imp k.few, by have := h.sz; have := k.sz; simp only [Fm.sz]; omega, by have := h.ht; have := k.ht; simp only [Fm.ht]; omega⟩
theorem H.all {n s t : Nat} {f : Fm} (h : H n s t f) : H (n + 1) (4 + s) (1 + t) (.all f) := ⟨h.bare, h.few.all, by have := h.sz; simp only [Fm.sz]; omega, by have := h.ht; simp only [Fm.ht]; omega⟩
theorem H.neg {n s t : Nat} {f : Fm} (h : H n s t f) : H n (7 + s) (1 + t) (neg f) := (h.imp H.no).up (by omega) (by omega) (by omega)
abbrev H26 (f : Fm) : Prop := H 40 1000 50 f
theorem H.okF {f : Fm} (h : H26 f) : f.okF := ⟨bare_ok h.bare, by have := h.sz; omega, by have := h.few.len (bare_ok h.bare); omega⟩
theorem H.flat {f : Fm} (h : H26 f) : flat 60 f := flat_ht (by have := h.ht; omega)
theorem H.tree {f : Fm} (h : Frm f "" "") (hm : f.many ≤ 40) : H26 f := ⟨frm_bare h, (few_many f).up hm, by have := sz_many f; omega, by have := ht_many f; omega⟩
theorem still_ex {f : Fm} : ∀ k, (∀ n, n < k → ¬ still f n) → cnt f k + k ≤ cnt f 0
  | 0, _ => Nat.le_refl _
  | k + 1, h => by
    have h1 := still_ex k fun n hn => h n (by omega)
    have h2 := cnt_lt (h k (by omega))
    omega
theorem H.still {f : Fm} (h : H26 f) : Fm.still f 47 := by
  have hex : ∃ n, n < 41 ∧ Fm.still f n := by
    refine Classical.byContradiction fun hn => ?_
    have h1 := still_ex (f := f) 41 fun n hn2 hs => hn ⟨n, hn2, hs⟩
    have h2 := N.cnt_le f 0
    have h3 := h.few.len (bare_ok h.bare)
    omega
  obtain ⟨n, hn, hs⟩ := hex
  exact still_on hs 47 (by omega)
end Fm
theorem range_more26 {p : Nat → Bool} {N : Nat} (h : ∀ i, N ≤ i → p i = false) : ∀ k, (List.range (N + k)).filter p = (List.range N).filter p
  | 0 => rfl
  | k + 1 => by
    rw [← Nat.add_assoc, List.range_succ, List.filter_append, range_more26 h k]
    simp [h (N + k) (by omega)]
theorem range_same26 {p : Nat → Bool} {N M : Nat} (h : ∀ i, N ≤ i → p i = false) (k : ∀ i, M ≤ i → p i = false) : (List.range N).filter p = (List.range M).filter p := by
  rw [← range_more26 h M, Nat.add_comm, range_more26 k N]
def S_atom : FS := fun ds W post => ∃ c : Nat, ds = [.str (sg c)] ∧ W = [] ∧ (Fm.at c).okL ∧ post (.fm (.at c)) []
end N
set_option Elab.async false
set_option linter.all false
set_option maxRecDepth 100000
set_option maxHeartbeats 1000000
namespace N
open PySem PySem.Spec PyProof.Rows L2
open C8 (Cal Met Mak InsC pe_c pe_mt pe_mt0 pe_mk)
abbrev tx (f : Fm) : List Nat := lets f.spell
theorem tx_imp (a b : Fm) : tx (.imp a b) = 40 :: (tx a ++ (32 :: 62 :: 32 :: (tx b ++ [41]))) := by
  show lets ((("(" ++ a.spell ++ " > " ++ b.spell ++ ")" : Str))) = _
  simp only [lets, TL.tl_append]
  show (([40] ++ tx a) ++ [32, 62, 32] ++ tx b) ++ [41] = _
  simp
theorem tx_all (a : Fm) : tx (.all a) = 97 :: 108 :: 108 :: 32 :: tx a := by
  show lets ("all " ++ a.spell) = _
  simp only [lets, TL.tl_append]
  rfl
inductive ItP where
  | al | l (b : Fm) | r (a : Fm)
def wt : Fm → Nat
  | .at _ => 1
  | .no => 1
  | .imp a b => 3 + wt a + wt b
  | .all a => 2 + wt a
def wk : List ItP → Nat
  | [] => 0
  | .al :: K => 1 + wk K
  | .l b :: K => 2 + wt b + wk K
  | .r _ :: K => 1 + wk K
theorem spell_len : ∀ f : Fm, f.spell.length = f.sz
  | .at _ => rfl
  | .no => rfl
  | .imp a b => by
    have h := congrArg List.length (tx_imp a b)
    have ea := spell_len a
    have eb := spell_len b
    rw [show a.spell.length = (tx a).length from str_len _] at ea
    rw [show b.spell.length = (tx b).length from str_len _] at eb
    rw [show (Fm.imp a b).spell.length = (tx (.imp a b)).length from str_len _, h]
    simp only [List.length_cons, List.length_append, List.length_nil, ea, eb]
    show _ = 5 + a.sz + b.sz
    omega
  | .all a => by
    have h := congrArg List.length (tx_all a)
    have ea := spell_len a
    rw [show a.spell.length = (tx a).length from str_len _] at ea
    rw [show (Fm.all a).spell.length = (tx (.all a)).length from str_len _, h]
    simp only [List.length_cons, ea]
    show _ = 4 + a.sz
    omega
end N
set_option Elab.async false
set_option linter.all false
set_option maxRecDepth 100000
set_option maxHeartbeats 1000000
set_option Elab.async false
set_option linter.all false
set_option maxRecDepth 100000
set_option maxHeartbeats 1000000
namespace N
open PySem PySem.Spec PyProof.Rows L2
namespace Fm
theorem allB_lt (k : Nat) : ∀ n, allB (fun j => decide (j < k)) n = decide (n < k + 1)
  | 0 => by simp [allB]
  | n + 1 => by
    simp only [allB, allB_lt k n]
    rw [Bool.eq_iff_iff]
    simp
    omega
theorem hAt_belo : ∀ (k n : Nat), hAt (belo k) n = decide (n < k)
  | 0, n => by simp [belo, hAt]
  | k + 1, n => by
    simp only [belo, hAt]
    rw [show hAt (belo k) = fun j => decide (j < k) from funext fun j => hAt_belo k j]
    exact allB_lt k n
theorem mem_belo : ∀ {k : Nat} {g : Fm}, g ∈ (belo k).alls → ∃ i, i < k ∧ g = belo (i + 1)
  | 0, g, h => by simp [belo, alls] at h
  | k + 1, g, h => by
    rcases mem_merge.mp h with h | h
    · obtain ⟨i, hi, e⟩ := mem_belo h
      exact ⟨i, by omega, e⟩
    · rw [List.mem_singleton] at h
      exact ⟨k, by omega, h⟩
/-- no other all-parts than the first sixty-one towers -/
structure Q (s d : Nat) (f : Fm) : Prop where
  bare : f.bare
  alls : ∀ g ∈ f.alls, ∃ i, i < 61 ∧ g = belo (i + 1)
  sz : f.sz ≤ s
  dep : f.dep ≤ d
theorem Q.belo {k : Nat} (h : k ≤ 61) : Q (4 * k + 2) 0 (belo k) := ⟨belo_bare k, fun g hg => let ⟨i, hi, e⟩ := mem_belo hg; ⟨i, by omega, e⟩, Nat.le_of_eq (belo_sz k), by cases k <;> exact Nat.le_refl _⟩
theorem Q.no : Q 2 0 .no := ⟨trivial, fun g h => by simp [Fm.alls] at h, Nat.le_refl _, Nat.le_refl _⟩
theorem Q.imp {s d s' d' : Nat} {f g : Fm} (h : Q s d f) (k : Q s' d' g) : Q (5 + s + s') (1 + max d d') (.imp f g) :=
  ⟨⟨h.bare, k.bare⟩, fun x hx => (mem_merge.mp hx).elim (h.alls x) (k.alls x), by have := h.sz; have := k.sz; simp only [Fm.sz]; omega, by have := h.dep; have := k.dep; simp only [Fm.dep]; omega⟩
theorem Q.up {s d s' d' : Nat} {f : Fm} (h : Q s d f) (hs : s ≤ s') (hd : d ≤ d') : Q s' d' f := ⟨h.bare, h.alls, Nat.le_trans h.sz hs, Nat.le_trans h.dep hd⟩
theorem Q.neg {s d : Nat} {f : Fm} (h : Q s d f) : Q (7 + s) (1 + d) (neg f) := (h.imp Q.no).up (by omega) (by omega)
theorem Q.conj {s d s' d' : Nat} {f g : Fm} (h : Q s d f) (k : Q s' d' g) : Q (20 + s + s') (3 + max d d') (conj f g) := ((h.imp k.neg).neg).up (by omega) (by omega)
theorem Q.disj {s d s' d' : Nat} {f g : Fm} (h : Q s d f) (k : Q s' d' g) : Q (15 + s + s') (1 + max (1 + d) d') (disj f g) := (h.neg.imp k).up (by omega) (by omega)
theorem Q.few {s d : Nat} {f : Fm} (h : Q s d f) : f.alls.length ≤ 61 := by
  have h1 := len_le (nodup_asc (alls_sub (bare_ok h.bare)).2) (m := (List.range 61).map fun i => Fm.belo (i + 1)) fun x hx => by
    obtain ⟨i, hi, e⟩ := h.alls x hx
    exact List.mem_map.mpr ⟨i, by simpa using hi, e.symm⟩
  simpa using h1
theorem Q.okF {s d : Nat} {f : Fm} (h : Q s d f) (hs : s ≤ 1000000) : f.okF := ⟨bare_ok h.bare, Nat.le_trans h.sz hs, by have := h.few; omega⟩
theorem Q.flat {s d : Nat} {f : Fm} (h : Q s d f) (hd : d < 60) : flat 60 f := ⟨Nat.lt_of_le_of_lt h.dep hd, fun a ha => by
  obtain ⟨i, _, e⟩ := h.alls _ ha
  injection e with e
  subst e
  have : (Fm.belo i).dep = 0 := by cases i <;> rfl
  omega⟩
theorem hAt_neg (f : Fm) (n : Nat) : hAt (neg f) n = !hAt f n := by simp [hAt]
theorem hAt_conj (f g : Fm) (n : Nat) : hAt (conj f g) n = (hAt f n && hAt g n) := by simp [hAt]
theorem hAt_disj (f g : Fm) (n : Nat) : hAt (disj f g) n = (hAt f n || hAt g n) := by simp [hAt]
/-- just at one height -/
def one (h : Nat) : Fm := conj (belo (h + 1)) (neg (belo h))
theorem hAt_one (h n : Nat) : hAt (one h) n = decide (n = h) := by
  unfold one
  rw [hAt_conj, hAt_neg, hAt_belo, hAt_belo, Bool.eq_iff_iff]
  simp
  omega
theorem Q.one {h : Nat} (hh : h ≤ 60) : Q (40 + 8 * h) 4 (one h) := ((Q.belo (by omega)).conj (Q.belo (by omega)).neg).up (by omega) (by omega)
/-- at these heights -/
def forL (hs : List Nat) : Fm := hs.foldl (fun f h => disj f (one h)) .no
theorem forL_snoc (hs : List Nat) (h : Nat) : forL (hs ++ [h]) = disj (forL hs) (one h) := by unfold forL; rw [List.foldl_append]; rfl
theorem Q.forL {hs : List Nat} : (∀ h ∈ hs, h ≤ 60) → Q (2 + 600 * hs.length) (4 + 2 * hs.length) (forL hs) := by
  induction hs using snoc_ind with
  | h0 => exact fun _ => Q.no.up (by simp) (by omega)
  | h1 hs h ih =>
    intro hh
    have h1 := hh h (List.mem_append_right _ List.mem_cons_self)
    rw [forL_snoc, List.length_append, List.length_singleton]
    exact ((ih fun x hx => hh x (List.mem_append_left _ hx)).disj (Q.one h1)).up (by omega) (by omega)
theorem hAt_forL {hs : List Nat} (n : Nat) : (forL hs).hAt n = decide (n ∈ hs) := by
  induction hs using snoc_ind with
  | h0 => simp [forL, hAt]
  | h1 hs h ih =>
    rw [forL_snoc, hAt_disj, hAt_one, ih, Bool.eq_iff_iff]
    simp
/-- at these heights, or at all but these -/
def forF (hs : List Nat) (b : Bool) : Fm := if b then neg (forL hs) else forL hs
theorem Q.forF {hs : List Nat} {b : Bool} (h : ∀ x ∈ hs, x ≤ 60) (hl : hs.length ≤ 20) : Q 12020 45 (forF hs b) := by
  unfold Fm.forF
  split
  · exact (Q.forL h).neg.up (by omega) (by omega)
  · exact (Q.forL h).up (by omega) (by omega)
theorem hAt_forF (hs : List Nat) (b : Bool) (n : Nat) : (forF hs b).hAt n = (decide (n ∈ hs) != b) := by
  unfold forF
  split
  · rename_i hb
    rw [hAt_neg, hAt_forL, hb]
    cases decide (n ∈ hs) <;> rfl
  · rename_i hb
    rw [hAt_forL, Bool.not_eq_true] at *
    rw [hb]
    cases decide (n ∈ hs) <;> rfl
end Fm
theorem range_asc {hs : List Nat} (ha : hs.Pairwise (· < ·)) {N : Nat} (hb : ∀ h ∈ hs, h < N) : (List.range N).filter (fun i => decide (i ∈ hs)) = hs := by
  refine asc_ext (lt := fun a b : Nat => a < b) (fun a => Nat.lt_irrefl a) (fun a b c => Nat.lt_trans) (List.pairwise_lt_range.sublist List.filter_sublist) ha fun x => ?_
  rw [List.mem_filter, List.mem_range, decide_eq_true_iff]
  exact ⟨fun h => h.2, fun h => ⟨hb x h, h⟩⟩
/-- what trace tells of such a formula -/
theorem hs_for {f : Fm} {hs : List Nat} {b : Bool} {m : Nat} (hf : ∀ n, f.hAt n = (decide (n ∈ hs) != b)) (ha : hs.Pairwise (· < ·)) (hh : ∀ h ∈ hs, h ≤ 60) (hst : f.still m) : hsOf f m = hs.map (fun j : Nat => (j : Int)) ∧ f.hAt m = b := by
  have hfar : ∀ n, 61 ≤ n → f.hAt n = b := fun n hn => by
    rw [hf, decide_eq_false (fun h => by have := hh n h; omega)]
    cases b <;> rfl
  have e : f.hAt m = b := by rw [← Fm.still_all hst (m + 61) (by omega), hfar _ (by omega)]
  refine ⟨?_, e⟩
  unfold hsOf
  congr 1
  rw [range_same26 (M := 61) (fun i hi => by rw [Fm.still_all hst i (by omega)]; simp) (fun i hi => by rw [hfar i hi, e]; simp)]
  refine Eq.trans (List.filter_congr fun i hi => ?_) (range_asc ha (N := 61) fun h hm => by have := hh h hm; omega)
  rw [e, hf]
  cases decide (i ∈ hs) <;> cases b <;> rfl
def S_holdsbelow : FS := fun ds W post => ∃ n : Nat, ds = [natD n] ∧ W = [] ∧ n ≤ 61 ∧ post (.fm (Fm.belo n)) []
def S_formfor : FS := fun ds W post => ∃ (hs : List Nat) (b : Bool), ds = [.tup (hs.map natD), .bl b] ∧ W = [] ∧ hs.length ≤ 20 ∧ (∀ h ∈ hs, h ≤ 60) ∧ post (.fm (Fm.forF hs b)) []
end N
set_option Elab.async false
set_option linter.all false
set_option maxRecDepth 100000
set_option maxHeartbeats 1000000
set_option Elab.async false
set_option linter.all false
set_option maxRecDepth 100000
set_option maxHeartbeats 1000000
set_option Elab.async false
set_option linter.all false
set_option maxRecDepth 100000
set_option maxHeartbeats 1000000
set_option Elab.async false
set_option linter.all false
set_option maxRecDepth 100000
set_option maxHeartbeats 4000000
namespace L2
open PySem PySem.Spec PyProof.Rows
end L2
set_option Elab.async false
set_option linter.all false
set_option maxRecDepth 100000
set_option maxHeartbeats 4000000
namespace N
open PySem PySem.Spec PyProof.Rows L2
open C8 (Cal Met Mak pe_c pe_mt pe_mt0 pe_mk)
/-- what __init__ of an error class does -/
def spEr (C : Addr) (f : Str) : Sp := fun vs H Q _ => ∃ a y, vs = [.ref a, y] ∧ H a = some (exo a C none) ∧ ∀ dx, H dx = none → dx ≠ a → Q .non (upd (upd H dx (exd dx [(f, y)])) a (exo a C (some dx)))
def tCmS (C : Addr) (sp : Sp) (E : L2.St → XK) (ta : TE) (t : TA) : TE := fun σ H Q => ta σ H fun x H1 => x = .ref C ∧ t σ H1 fun vs H2 => sp (.ref C :: vs) H2 Q (E σ)
def tCmKS (C : Addr) (n : Nat) (sp : Sp) (gV : List V → List V → List V) (E : L2.St → XK) (ta : TE) (tk : TA) : TE := fun σ H Q => ta σ H fun x H1 => x = .ref C ∧ tk σ H1 fun zs H2 => zs.length = n ∧ sp (gV [.ref C] zs) H2 Q (E σ)
def tMakS (C : Addr) (sp : Sp) (E : L2.St → XK) (t : TA) : TE := fun σ H Q => t σ H fun vs H1 => ∀ x dx, H1 x = none → H1 dx = none → dx ≠ x →
  sp (.ref x :: vs) (upd (upd H1 dx (.own x)) x (.ins C dx [])) (fun v H2 => v = .non ∧ Q (.ref x) H2) (E σ)
def tMakKS (C : Addr) (n : Nat) (sp : Sp) (gV : List V → List V → List V) (E : L2.St → XK) (tk : TA) : TE := fun σ H Q => tk σ H fun zs H2 => zs.length = n ∧ ∀ x dx, H2 x = none → H2 dx = none → dx ≠ x →
  sp (gV [.ref x] zs) (upd (upd H2 dx (.own x)) x (.ins C dx [])) (fun v H3 => v = .non ∧ Q (.ref x) H3) (E σ)
end N
set_option Elab.async false
set_option linter.all false
set_option maxRecDepth 100000
set_option maxHeartbeats 1000000
namespace N
open PySem PySem.Spec PyProof.Rows L2
/-- how an exception leaves: the class, the place of its dict, slots, owned cells (its dict among them) -/
abbrev EX := Nat → Addr → Gm → Om → Prop
/-- the dict of an exception of the class c: none for the classes from 100 on, which keep no fields -/
def dq (c : Nat) (d : Addr) : Option Addr := match Nat.ble 100 c with
  | true => none
  | false => some d
abbrev FX := List D → Om → (D → Om → Prop) → (Nat → Addr → Om → Prop) → Prop
section
variable (F : FmKit) (T : Kx)
def XOk (C H : Hp) (ex : EX) (W0 : WX) : Prop := ∀ c d G W H' O' σ, ex c d G W → Nx F T C W H H' O' → Lo F T H' G σ → W0 (.ref (T.cl c)) (dq c d) σ (ov O' H')
def EvX (W0 : WX) (te : TE) (G : Gm) (W : Om) (R : D → Om → Prop) (ex : EX) : Prop :=
  ∀ (C H O : Hp) (σ : L2.St), Wd F T C G W H O σ → XOk F T C H ex W0 → ∀ Q : VK, (∀ d W' H' O' v, R d W' → Nx F T C W' H H' O' → Den F T H' d v → Q v (ov O' H')) → te σ (ov O H) Q
def SwX (W0 : WX) (ts : TS) (G : Gm) (W : Om) (E : En) (ex : EX) : Prop :=
  ∀ (C H O : Hp) (σ : L2.St), Wd F T C G W H O σ → XOk F T C H ex W0 → ∀ B : Ends, EnOk F T C H E B → ts B σ (ov O H)
def spX (S : FX) : Sp := fun vs X Q E => ∃ (ds : List D) (W : Om) (C H O : Hp) (post : D → Om → Prop) (ex : Nat → Addr → Om → Prop), X = ov O H ∧ Dis O H ∧ Same C O ∧ Ow F T H C O W ∧ DenL F T H ds vs ∧ S ds W post ex ∧
  (∀ d W' H' O' v, post d W' → Nx F T C W' H H' O' → Den F T H' d v → Q v (ov O' H')) ∧ ∀ c d W' H' O', ex c d W' → Nx F T C W' H H' O' → E (.ref (T.cl c)) (dq c d) (ov O' H')
end
section
variable {F : FmKit} {T : Kx} {C H H' O O' : Hp} {G : Gm} {W W' : Om} {σ : L2.St} {a p : Addr} {od : OD} {d : D} {l : List D}
  {te ta tb : TE} {t u : TT} {R R' : D → Om → Prop} {Z : Bool → Om → Prop} {tr tk : TA} {ts tz : TS} {En1 E : En} {ex ex' : EX} {W0 : WX} {S : FX}
theorem XOk.up (h : XOk F T C H ex W0) (e : Same H H') : XOk F T C H' ex W0 := fun c d G W H2 O' σ x n l => h c d G W H2 O' σ x ⟨e.trans n.ext, n.dis, n.oc, n.own⟩ l
theorem evx_of (h : Ev F T te G W R) : EvX F T W0 te G W R ex := fun C H O σ w _ Q q => h C H O σ w Q q
theorem swx_of (h : Sw F T ts G W E) : SwX F T W0 ts G W E ex := fun C H O σ w _ B b => h C H O σ w B b
theorem XOk.imp (h : XOk F T C H ex' W0) (i : ∀ c d G W, ex c d G W → ex' c d G W) : XOk F T C H ex W0 := fun c d G W H2 O' σ x n l => h c d G W H2 O' σ (i c d G W x) n l
theorem swx_seq (h : SwX F T W0 ts G W { E with nx := fun G' W' => SwX F T W0 tz G' W' E ex } ex) : SwX F T W0 (tSeq ts tz) G W E ex := fun C H O σ w x B b =>
  h C H O σ w x { B with nx := tz B } ⟨fun G' W' H' O' σ' a n l => a C H' O' σ' ⟨n.dis, n.oc, l, n.own⟩ (x.up n.ext) B (b.up n.ext), b.rt, b.bk, b.ct⟩
theorem swx_if (h : EvT F T t G W fun c W' => if c = true then SwX F T W0 ts G W' E ex else SwX F T W0 tz G W' E ex) : SwX F T W0 (tIfS t ts tz) G W E ex := fun C H O σ w x B b =>
  h C H O σ w _ fun c W' H' O' r n => by
    cases c with
    | true => exact r C H' O' σ (w.step n) (x.up n.ext) B (b.up n.ext)
    | false => exact r C H' O' σ (w.step n) (x.up n.ext) B (b.up n.ext)
theorem swx_set {i : Nat} (h : EvX F T W0 te G W (fun d W' => E.nx (G.set i (some d)) W') ex) : SwX F T W0 (tAsg te (gName i)) G W E ex := fun C H O σ w x B b =>
  h C H O σ w x _ fun d W' H' O' v r n k => b.nx _ W' H' O' _ r n ((w.loc.mono n.ext).set k)
theorem swx_asg {g : TG} (h : EvX F T W0 te G W (fun d W' => Ta F T g d G W' fun G2 W2 => E.nx G2 W2) ex) : SwX F T W0 (tAsg te g) G W E ex := fun C H O σ w x B b =>
  h C H O σ w x _ fun d W' H' O' v r n k => r C H' O' σ (w.step n) v k _ fun G2 W2 H2 O2 σ2 r2 n2 l2 => b.nx G2 W2 H2 O2 σ2 r2 (n.trans n2) l2
theorem swx_ret (h : EvX F T W0 te G W E.rt ex) : SwX F T W0 (tRet te) G W E ex := fun C H O σ w x B b =>
  h C H O σ w x _ fun d W' H' O' v r n k => b.rt d W' H' O' v r n k
theorem swx_drop (h : EvX F T W0 te G W (fun _ W' => E.nx G W') ex) : SwX F T W0 (tDrop te) G W E ex := fun C H O σ w x B b =>
  h C H O σ w x _ fun d W' H' O' v r n k => b.nx G W' H' O' σ r n (w.loc.mono n.ext)
theorem swx_next (h : E.nx G W) : SwX F T W0 tNext G W E ex := swx_of (sw_next h)
theorem swx_brk (h : E.bk G W) : SwX F T W0 tBreak G W E ex := swx_of (sw_brk h)
theorem swx_cont (h : E.ct G W) : SwX F T W0 tCont G W E ex := swx_of (sw_cont h)
theorem swx_retN (h : E.rt .non W) : SwX F T W0 tRetN G W E ex := swx_of (sw_retN h)
theorem swx_par {i j : Nat} (h : EvA F T tr G W fun ds W' => ∃ d1 d2, ds = [d1, d2] ∧ E.nx ((G.set i (some d1)).set j (some d2)) W') : SwX F T W0 (tPar i j tr) G W E ex := swx_of (sw_par h)
theorem swx_fld {n : Str} (h : Ev F T tb G W fun z W1 => Ev F T ta G W1 fun d W2 => Rcv F T d z n W2 (E.nx G)) : SwX F T W0 (sFld T.K ta tb n) G W E ex := swx_of (sw_fld h)
theorem frame {Wc Wf : Om} (di : Dis O H) (oc : Same C O) (ow : Ow F T H C O (Wc ++ Wf)) : ∃ C', Same C' O ∧ Ow F T H C' O Wc ∧ ∀ W' H' O', Nx F T C' W' H H' O' → Nx F T C (W' ++ Wf) H H' O' := by
  have nd := ow.nd
  have nd2 : (akeys Wc ++ akeys Wf).Nodup := by
    have e : akeys (Wc ++ Wf) = akeys Wc ++ akeys Wf := by simp [akeys]
    rw [← e]
    exact nd
  rw [List.nodup_append] at nd2
  obtain ⟨ndc, ndf, dj⟩ := nd2
  have inF : ∀ b, b ∈ akeys Wf → ∃ od, (b, od) ∈ Wf := fun b hb => by
    obtain ⟨x, hx, e⟩ := List.mem_map.mp hb
    exact ⟨x.2, by rw [← e]; exact hx⟩
  have atF : ∀ b od, (b, od) ∈ Wf → C b = none ∧ OdAt F T H (O b) od := fun b od m => ow.at_ b od (List.mem_append_right _ m)
  refine ⟨fun b => if b ∈ akeys Wf then O b else C b, fun b o e => ?_, ⟨ndc, fun a od m => ?_⟩, fun W' H' O' n => ⟨n.ext, n.dis, fun b o e => ?_, ⟨?_, fun a od m => ?_⟩⟩⟩
  · by_cases hb : b ∈ akeys Wf
    · simp only [if_pos hb] at e
      exact e
    · simp only [if_neg hb] at e
      exact oc b o e
  · have hn : a ∉ akeys Wf := fun z => dj a (mem_akeys m) a z rfl
    rw [if_neg hn]
    exact ow.at_ a od (List.mem_append_left _ m)
  · refine n.oc b o ?_
    by_cases hb : b ∈ akeys Wf
    · obtain ⟨od, m⟩ := inF b hb
      rw [(atF b od m).1] at e
      cases e
    · rw [if_neg hb]
      exact e
  · have e : akeys (W' ++ Wf) = akeys W' ++ akeys Wf := by simp [akeys]
    rw [e, List.nodup_append]
    refine ⟨n.own.nd, ndf, fun x hx y hy exy => ?_⟩
    subst exy
    obtain ⟨z, hz, ez⟩ := List.mem_map.mp hx
    have h1 := (n.own.at_ z.1 z.2 hz).1
    rw [ez, if_pos hy] at h1
    obtain ⟨od, m⟩ := inF _ hy
    obtain ⟨o, eo⟩ := (atF _ od m).2.some
    rw [h1] at eo
    cases eo
  · rcases List.mem_append.mp m with m | m
    · obtain ⟨h1, h2⟩ := n.own.at_ a od m
      refine ⟨?_, h2⟩
      by_cases hb : a ∈ akeys Wf
      · obtain ⟨od', m'⟩ := inF a hb
        exact (atF a od' m').1
      · rw [if_neg hb] at h1
        exact h1
    · obtain ⟨h1, h2⟩ := atF a od m
      obtain ⟨o, eo⟩ := h2.some
      have e2 : O' a = some o := n.oc a o (by rw [if_pos (mem_akeys (x := (a, od)) m)]; exact eo)
      rw [eo] at h2
      rw [e2]
      exact ⟨h1, h2.mono n.ext⟩
def HandX (S : FX) (ds : List D) (W : Om) (R : D → Om → Prop) (rx : Nat → Addr → Om → Prop) : Prop := ∃ Wc Wf, W.Perm (Wc ++ Wf) ∧ S ds Wc (fun d W' => R d (W' ++ Wf)) fun c d W' => rx c d (W' ++ Wf)
variable {rx : Nat → Addr → Om → Prop}
theorem HandX.run {ds : List D} {vs : List V} {Q : VK} {XE : XK} (h : HandX S ds W R rx) (di : Dis O H) (oc : Same C O) (ow : Ow F T H C O W) (k : DenL F T H ds vs) (q : ∀ d W' H' O' v, R d W' → Nx F T C W' H H' O' → Den F T H' d v → Q v (ov O' H'))
    (x : ∀ c d W' H' O', rx c d W' → Nx F T C W' H H' O' → XE (.ref (T.cl c)) (dq c d) (ov O' H')) : spX F T S vs (ov O H) Q XE := by
  obtain ⟨Wc, Wf, hp, hs⟩ := h
  obtain ⟨C', h1, h2, h3⟩ := frame di oc (ow.perm hp)
  exact ⟨ds, Wc, C', H, O, _, _, rfl, di, h1, h2, k, hs, fun d W' H' O' v r n kd => q d _ H' O' v r (h3 W' H' O' n) kd, fun c d W' H' O' r n => x c d _ H' O' r (h3 W' H' O' n)⟩
theorem evx_call (h : EvA F T tr G W fun ds W1 => HandX S ds W1 R fun c d W' => ex c d G W') : EvX F T W0 (tCallS (spX F T S) (WE W0) tr) G W R ex := fun C H O σ w x Q q =>
  h C H O σ w _ fun ds W1 H1 O1 vs h1 n k => h1.run n.dis n.oc n.own k (fun d W' H' O' v r n2 kd => q d W' H' O' v r (n.trans n2) kd) fun c d W' H' O' r n2 => x c d G W' H' O' σ r (n.trans n2) (w.loc.mono (n.trans n2).ext)
theorem evx_cm {c : Nat} (h : Ev F T te G W fun d W1 => d = .adr (T.cl c) ∧ EvA F T tr G W1 fun ds W2 => HandX S (.adr (T.cl c) :: ds) W2 R fun c d W' => ex c d G W') : EvX F T W0 (tCmS (T.cl c) (spX F T S) (WE W0) te tr) G W R ex := fun C H O σ w x Q q =>
  h C H O σ w _ fun d W1 H1 O1 y ⟨ed, ha⟩ n1 k1 => by
    subst ed
    exact ⟨k1, ha C H1 O1 σ (w.step n1) _ fun ds W2 H2 O2 vs hh n2 k2 => hh.run n2.dis n2.oc n2.own ⟨_, _, rfl, rfl, k2⟩ (fun d W' H' O' v r n3 kd => q d W' H' O' v r ((n1.trans n2).trans n3) kd)
      fun c d W' H' O' r n3 => x c d G W' H' O' σ r ((n1.trans n2).trans n3) (w.loc.mono ((n1.trans n2).trans n3).ext)⟩
theorem evx_cmk {c n : Nat} {gV : List V → List V → List V} (h : Ev F T te G W fun d W1 => d = .adr (T.cl c) ∧ EvA F T tk G W1 fun ds W2 => ds.length = n ∧ ∃ as, (∀ H x zs, Den F T H d x → DenL F T H ds zs → DenL F T H as (gV [x] zs)) ∧ HandX S as W2 R fun c d W' => ex c d G W') :
    EvX F T W0 (tCmKS (T.cl c) n (spX F T S) gV (WE W0) te tk) G W R ex := fun C H O σ w x Q q =>
  h C H O σ w _ fun d W1 H1 O1 y ⟨ed, ha⟩ n1 k1 => by
    subst ed
    refine ⟨k1, ha C H1 O1 σ (w.step n1) _ fun ds W2 H2 O2 vs ⟨hl, as, hg, hh⟩ n2 k2 => ⟨by rw [k2.len]; exact hl, ?_⟩⟩
    exact hh.run n2.dis n2.oc n2.own (hg H2 _ vs rfl k2) (fun d W' H' O' v r n3 kd => q d W' H' O' v r ((n1.trans n2).trans n3) kd)
      fun c d W' H' O' r n3 => x c d G W' H' O' σ r ((n1.trans n2).trans n3) (w.loc.mono ((n1.trans n2).trans n3).ext)
/-- a new instance is handed to a raising __init__ -/
theorem run_makeX {c : Nat} {as : Addr → List D} {vs : Addr → List V} {x dx : Addr} {Q : VK} {XE : XK} (n : Nx F T C W H H' O') (k : ∀ H2 x, Same H' H2 → DenL F T H2 (as x) (vs x)) (h : ∀ x, x ∉ akeys W → HandX S (as x) ((x, .ins c [] []) :: W) (fun d W' => d = .non ∧ R (.adr x) W') rx)
    (hx : ov O' H' x = none) (hdx : ov O' H' dx = none) (ne : dx ≠ x) (q : ∀ d W2 H2 O2 v, R d W2 → Nx F T C W2 H H2 O2 → Den F T H2 d v → Q v (ov O2 H2)) (xq : ∀ c d W2 H2 O2, rx c d W2 → Nx F T C W2 H H2 O2 → XE (.ref (T.cl c)) (dq c d) (ov O2 H2)) :
    spX F T S (vs x) (upd (upd (ov O' H') dx (.own x)) x (.ins (T.cl c) dx [])) (fun v H2 => v = .non ∧ Q (.ref x) H2) XE := by
  obtain ⟨n2, e2, s2⟩ := n.newF (o := .own x) hdx
  rw [e2]
  have hx2 : ov O' (upd H' dx (.own x)) x = none := by rw [← e2, upd_ne ne.symm]; exact hx
  obtain ⟨n3, e3, np⟩ := n2.newO (od := .ins c [] []) (o := .ins (T.cl c) dx []) hx2 ⟨dx, [], rfl, rfl, rfl⟩
  rw [e3]
  refine (h x np).run n3.dis n3.oc n3.own (k _ x s2) (fun d W' H2 O2 v ⟨e, r⟩ n4 kd => ?_) fun c d W' H2 O2 r n4 => xq c d W' H2 O2 r (n3.trans n4)
  subst e
  exact ⟨kd, q (.adr x) W' H2 O2 _ r (n3.trans n4) rfl⟩
theorem evx_mk {c : Nat} (h : EvA F T tr G W fun ds W1 => ∀ x, x ∉ akeys W1 → HandX S (.adr x :: ds) ((x, .ins c [] []) :: W1) (fun d W' => d = .non ∧ R (.adr x) W') fun c d W' => ex c d G W') : EvX F T W0 (tMakS (T.cl c) (spX F T S) (WE W0) tr) G W R ex := fun C H O σ w xo Q q =>
  h C H O σ w _ fun ds W1 H1 O1 vs h1 n k x dx hx hdx ne => run_makeX (as := fun x => .adr x :: ds) (vs := fun x => .ref x :: vs) n (fun H2 x s => ⟨_, _, rfl, rfl, k.mono s⟩) h1 hx hdx ne q
    fun c d W' H' O' r n2 => xo c d G W' H' O' σ r n2 (w.loc.mono n2.ext)
theorem evx_mkk {c m : Nat} {gV : List V → List V → List V} (h : EvA F T tk G W fun ds W1 => ds.length = m ∧ ∃ as : Addr → List D, (∀ H x zs, DenL F T H ds zs → DenL F T H (as x) (gV [.ref x] zs)) ∧ ∀ x, x ∉ akeys W1 → HandX S (as x) ((x, .ins c [] []) :: W1) (fun d W' => d = .non ∧ R (.adr x) W') fun c d W' => ex c d G W') :
    EvX F T W0 (tMakKS (T.cl c) m (spX F T S) gV (WE W0) tk) G W R ex := fun C H O σ w xo Q q =>
  h C H O σ w _ fun ds W1 H1 O1 vs ⟨hl, as, hg, h1⟩ n k => ⟨by rw [k.len]; exact hl, fun x dx hx hdx ne => run_makeX (as := as) (vs := fun x => gV [.ref x] vs) n (fun H2 x s => hg H2 x vs (k.mono s)) h1 hx hdx ne q
    fun c d W' H' O' r n2 => xo c d G W' H' O' σ r n2 (w.loc.mono n2.ext)⟩
theorem swx_raise {c : Nat} {f : Str} (h : EvA F T tr G W fun ds W1 => ∃ z, ds = [z] ∧ ∀ d, d ∉ akeys W1 → ex c d G ((d, .xd [f] [z]) :: W1)) (hc : Nat.ble 100 c = false) :
    SwX F T W0 (fun _ σ H => tMkO (T.cl c) (spEr (T.cl c) f) [] tr σ H fun cls d H' => W0 cls d σ H') G W E ex := fun C H O σ w xo B b =>
  h C H O σ w _ fun ds W1 H1 O1 vs ⟨z, e, hz⟩ n k => by
    subst e
    obtain ⟨v, r', e1, k1, e2⟩ := k
    have e2 : r' = [] := e2
    subst e2 e1
    refine ⟨by simp, fun a ha => ⟨a, v, rfl, upd_same, fun dx h1 h2 => ⟨rfl, dx, [(f, v)], upd_same, ?_, ?_, ?_⟩⟩⟩
    · rw [upd_ne h2, upd_same]
    · rwa [upd_ne h2] at h1
    · have h3 : ov O1 H1 dx = none := by rwa [upd_ne h2] at h1
      have e : upd (del (upd (upd (upd (ov O1 H1) a (exo a (T.cl c) none)) dx (exd dx [(f, v)])) a (exo a (T.cl c) (some dx))) a) dx (.xd [(f, v)]) = upd (ov O1 H1) dx (.xd [(f, v)]) := by
        funext y
        by_cases hy : y = dx
        · rw [hy, upd_same, upd_same]
        · rw [upd_ne hy, upd_ne hy]
          unfold del
          by_cases ha2 : y = a
          · rw [if_pos ha2, ha2, ha]
          · rw [if_neg ha2, upd_ne ha2, upd_ne hy, upd_ne ha2]
      show W0 _ _ σ (upd (L2.del _ a) dx _)
      have e' := e
      obtain ⟨n2, e3, np⟩ := n.newO (od := .xd [f] [z]) (o := .xd [(f, v)]) h3 ⟨[(f, v)], rfl, rfl, .one k1⟩
      rw [show upd (L2.del (upd (upd (upd (ov O1 H1) a (exo a (T.cl c) none)) dx (exd dx [(f, v)])) a (exo a (T.cl c) (some dx))) a) dx (.xd [(f, v)]) = upd (ov O1 H1) dx (.xd [(f, v)]) from e', e3]
      have xx := xo c dx G _ _ _ σ (hz dx np) n2 (w.loc.mono n2.ext)
      rw [show dq c dx = some dx from by unfold dq; rw [hc]] at xx
      exact xx
end
end N
set_option Elab.async false
set_option linter.all false
set_option maxRecDepth 100000
set_option maxHeartbeats 1000000
namespace N
open PySem PySem.Spec PyProof.Rows L2
inductive Tok where
  | form | sg (c : Nat)
def cl (l : List Nat) : Nat := l.count 108
end N
set_option Elab.async false
set_option linter.all false
set_option maxRecDepth 100000
set_option maxHeartbeats 1000000
namespace N
open PySem PySem.Spec PyProof.Rows L2
def lookN (l : List (Nat × Fm)) (c : Nat) : Option Fm := (l.find? fun p => decide (p.1 = c)).map (·.2)
def putN (l : List (Nat × Fm)) (c : Nat) (f : Fm) : List (Nat × Fm) := if (l.any fun q => decide (q.1 = c)) = true then l.map (fun q => if q.1 = c then (q.1, f) else q) else l ++ [(c, f)]
def srtR (l : List (Nat × Fm)) : List (Nat × Fm) := (ascN (l.map (·.1))).map fun c => (c, (lookN l c).getD .no)
theorem any_key {l : List (Nat × Fm)} {c : Nat} : (l.any fun q => decide (q.1 = c)) = true ↔ c ∈ l.map (·.1) := by
  rw [List.any_eq_true]
  constructor
  · rintro ⟨p, hp, e⟩
    exact List.mem_map.mpr ⟨p, hp, of_decide_eq_true e⟩
  · intro h
    obtain ⟨p, hp, e⟩ := List.mem_map.mp h
    exact ⟨p, hp, decide_eq_true e⟩
theorem putN_keys (l : List (Nat × Fm)) (c : Nat) (f : Fm) : (putN l c f).map (·.1) = if c ∈ l.map (·.1) then l.map (·.1) else l.map (·.1) ++ [c] := by
  unfold putN
  by_cases h : c ∈ l.map (·.1)
  · rw [if_pos (any_key.mpr h), if_pos h, List.map_map]
    refine List.map_congr_left fun p _ => ?_
    show (if p.1 = c then (p.1, f) else p).1 = p.1
    split <;> rfl
  · rw [if_neg (fun e => h (any_key.mp e)), if_neg h, List.map_append]
    rfl
theorem lookN_mem {l : List (Nat × Fm)} {c : Nat} {f : Fm} (h : lookN l c = some f) : (c, f) ∈ l := by
  unfold lookN at h
  obtain ⟨p, hp, e⟩ := Option.map_eq_some_iff.mp h
  have e1 : p.1 = c := of_decide_eq_true (List.find?_some (p := fun p : Nat × Fm => decide (p.1 = c)) hp)
  have := List.mem_of_find?_eq_some hp
  rw [← e1, ← e]
  exact this
theorem lookN_none {l : List (Nat × Fm)} {c : Nat} : lookN l c = none ↔ c ∉ l.map (·.1) := by
  unfold lookN
  rw [Option.map_eq_none_iff, List.find?_eq_none]
  constructor
  · intro h m
    obtain ⟨p, hp, e⟩ := List.mem_map.mp m
    exact h p hp (decide_eq_true e)
  · intro h p hp e
    exact h (List.mem_map.mpr ⟨p, hp, of_decide_eq_true e⟩)
theorem lookN_of {l : List (Nat × Fm)} {c : Nat} {f : Fm} (nd : (l.map (·.1)).Nodup) (h : (c, f) ∈ l) : lookN l c = some f := by
  cases e : lookN l c with
  | none => exact absurd (List.mem_map.mpr ⟨_, h, rfl⟩) (lookN_none.mp e)
  | some g =>
    have m := lookN_mem e
    obtain ⟨i, hi⟩ := List.getElem?_of_mem h
    obtain ⟨j, hj⟩ := List.getElem?_of_mem m
    have e1 : (l.map (·.1))[i]? = some c := by rw [List.getElem?_map, hi]; rfl
    have e2 : (l.map (·.1))[j]? = some c := by rw [List.getElem?_map, hj]; rfl
    have li := (List.getElem?_eq_some_iff.mp e1).1
    have : i = j := (List.getElem?_inj li nd).mp (e1.trans e2.symm)
    subst this
    rw [hi] at hj
    have := congrArg Prod.snd (Option.some.inj hj)
    exact congrArg some this.symm
theorem lookN_isSome {l : List (Nat × Fm)} {c : Nat} (h : c ∈ l.map (·.1)) : ∃ f, lookN l c = some f := by
  cases e : lookN l c with
  | none => exact absurd h (lookN_none.mp e)
  | some f => exact ⟨f, rfl⟩
theorem srtR_keys (l : List (Nat × Fm)) : (srtR l).map (·.1) = ascN (l.map (·.1)) := by
  unfold srtR
  rw [List.map_map]
  exact List.map_id _
theorem srtR_asc (l : List (Nat × Fm)) : ((srtR l).map (·.1)).Pairwise (· < ·) := by
  rw [srtR_keys]
  exact asc_ascN _
theorem srtR_look {l : List (Nat × Fm)} {p : Nat × Fm} (h : p ∈ srtR l) : lookN l p.1 = some p.2 := by
  unfold srtR at h
  obtain ⟨c, hc, rfl⟩ := List.mem_map.mp h
  obtain ⟨f, e⟩ := lookN_isSome (mem_ascN.mp hc)
  show lookN l c = some ((lookN l c).getD .no)
  rw [e]
  rfl
theorem srtR_mem {l : List (Nat × Fm)} {p : Nat × Fm} (h : p ∈ srtR l) : p ∈ l := lookN_mem (srtR_look h)
theorem mem_srtR {l : List (Nat × Fm)} (nd : (l.map (·.1)).Nodup) {p : Nat × Fm} (h : p ∈ l) : p ∈ srtR l := by
  have e := lookN_of (f := p.2) nd h
  unfold srtR
  refine List.mem_map.mpr ⟨p.1, mem_ascN.mpr (List.mem_map.mpr ⟨p, h, rfl⟩), ?_⟩
  rw [e]
  rfl
theorem nd_pairs {l : List (Nat × Fm)} (nd : (l.map (·.1)).Nodup) : l.Nodup := by
  rw [List.nodup_iff_pairwise_ne, List.pairwise_map] at nd
  exact nd.imp fun h e => h (congrArg Prod.fst e)
theorem srtR_nd (l : List (Nat × Fm)) : ((srtR l).map (·.1)).Nodup := (srtR_asc l).imp fun h => Nat.ne_of_lt h
theorem srtR_perm {l : List (Nat × Fm)} (nd : (l.map (·.1)).Nodup) : l.Perm (srtR l) :=
  (List.perm_ext_iff_of_nodup (nd_pairs nd) (nd_pairs (srtR_nd l))).mpr fun _ => ⟨mem_srtR nd, srtR_mem⟩
theorem srtR_len {l : List (Nat × Fm)} (nd : (l.map (·.1)).Nodup) : (srtR l).length = l.length := (srtR_perm nd).length_eq.symm
def bentR (j : List (Nat × Fm)) (f : Fm) : Bool := (lets f.outer).any fun c => decide (c ∈ j.map (·.1))
def Fm.py : Fm → PyData
  | .at c => .tuple [.str "atom", .str (sg c)]
  | .no => .tuple [.str "no"]
  | .imp a b => .tuple [.str "if", a.py, b.py]
  | .all a => .tuple [.str "all", a.py]
end N
set_option Elab.async false
set_option linter.all false
set_option maxRecDepth 100000
namespace N
open PySem L2
/-- whether a form holds at a level, by what its letters do at the levels -/
def hv (r : Nat → Nat → Bool) : Fm → Nat → Bool
  | .at c, k => r c k
  | .no, _ => false
  | .imp a b, k => !hv r a k || hv r b k
  | .all a, k => (List.range k).all fun j => hv r a j
/-- the letters stand within all alone -/
def inn : Fm → Prop
  | .at _ => False
  | .no => True
  | .imp a b => inn a ∧ inn b
  | .all _ => True
/-- all letters are of a kind -/
def ltp (P : Nat → Prop) : Fm → Prop
  | .at c => P c
  | .no => True
  | .imp a b => ltp P a ∧ ltp P b
  | .all a => ltp P a
theorem all_congr {k : Nat} {f g : Nat → Bool} (h : ∀ j, j < k → f j = g j) : (List.range k).all f = (List.range k).all g := by
  rw [Bool.eq_iff_iff, List.all_eq_true, List.all_eq_true]
  constructor
  · intro z j hj
    rw [← h j (List.mem_range.mp hj)]
    exact z j hj
  · intro z j hj
    rw [h j (List.mem_range.mp hj)]
    exact z j hj
theorem all_succ (k : Nat) (f : Nat → Bool) : (List.range (k + 1)).all f = ((List.range k).all f && f k) := by
  rw [List.range_succ, List.all_append]
  simp
theorem hv_le {P : Nat → Prop} {r s : Nat → Nat → Bool} : ∀ (f : Fm) {k : Nat}, ltp P f → (∀ c, P c → ∀ j, j ≤ k → r c j = s c j) → hv r f k = hv s f k
  | .at c, k, hl, h => h c hl k (Nat.le_refl _)
  | .no, _, _, _ => rfl
  | .imp a b, k, hl, h => by
    show (!hv r a k || hv r b k) = (!hv s a k || hv s b k)
    rw [hv_le a hl.1 h, hv_le b hl.2 h]
  | .all a, k, hl, h => all_congr fun j hj => hv_le a hl fun c hc i hi => h c hc i (by omega)
theorem hv_lt {P : Nat → Prop} {r s : Nat → Nat → Bool} : ∀ (f : Fm) {k : Nat}, inn f → ltp P f → (∀ c, P c → ∀ j, j < k → r c j = s c j) → hv r f k = hv s f k
  | .at c, k, hi, _, _ => hi.elim
  | .no, _, _, _, _ => rfl
  | .imp a b, k, hi, hl, h => by
    show (!hv r a k || hv r b k) = (!hv s a k || hv s b k)
    rw [hv_lt a hi.1 hl.1 h, hv_lt b hi.2 hl.2 h]
  | .all a, k, _, hl, h => all_congr fun j hj => hv_le a hl fun c hc i hi => h c hc i (by omega)
/-- by a state of the all-parts and what the letters do here -/
def hs (st : Fm → Bool) (at_ : Nat → Bool) : Fm → Bool
  | .at c => at_ c
  | .no => false
  | .imp a b => !hs st at_ a || hs st at_ b
  | .all a => st a
theorem hv_hs (r : Nat → Nat → Bool) (k : Nat) : ∀ f : Fm, hv r f k = hs (fun g => (List.range k).all (hv r g)) (fun c => r c k) f
  | .at _ => rfl
  | .no => rfl
  | .imp a b => by
    show (!hv r a k || hv r b k) = (!hs _ _ a || hs _ _ b)
    rw [hv_hs r k a, hv_hs r k b]
  | .all _ => rfl
theorem hs_congr {P : Nat → Prop} {st st' : Fm → Bool} {a a' : Nat → Bool} : ∀ {f : Fm}, ltp P f → (∀ x, Fm.all x ∈ f.alls → st x = st' x) → (∀ c, P c → a c = a' c) → hs st a f = hs st' a' f
  | .at c, hl, _, h => h c hl
  | .no, _, _, _ => rfl
  | .imp x y, hl, hx, h => by
    show (!hs st a x || hs st a y) = (!hs st' a' x || hs st' a' y)
    rw [hs_congr (f := x) hl.1 (fun z hz => hx z (Fm.alls_l hz)) h, hs_congr (f := y) hl.2 (fun z hz => hx z (Fm.alls_r hz)) h]
  | .all x, _, hx, _ => hx x (Fm.mem_alls_all x)
theorem hs_inn {st : Fm → Bool} {a a' : Nat → Bool} : ∀ {f : Fm}, inn f → hs st a f = hs st a' f
  | .at c, hi => hi.elim
  | .no, _ => rfl
  | .imp x y, hi => by
    show (!hs st a x || hs st a y) = (!hs st a' x || hs st a' y)
    rw [hs_inn hi.1, hs_inn hi.2]
  | .all x, _ => rfl
abbrev Plr := List (Nat × Fm)
def frmB (b : Plr) (c : Nat) : Fm := (lookN b c).getD .no
def envB (D : Nat × Nat → Nat → Bool) (p : Nat × Nat) (c : Nat) : Nat → Bool := if c = 109 then D p else if c = 111 then D (p.2, p.1) else D (p.2, c)
def stepB (b : Plr) (D : Nat × Nat → Nat → Bool) (p : Nat × Nat) (k : Nat) : Bool := hv (envB D p) (frmB b p.1) k
def playB (b : Plr) : Nat → Nat × Nat → Nat → Bool
  | 0 => fun _ _ => false
  | t + 1 => stepB b (playB b t)
def deed (b : Plr) (p : Nat × Nat) (k : Nat) : Bool := playB b (k + 1) p k
def isN (b : Plr) (c : Nat) : Prop := c = 109 ∨ c = 111 ∨ c ∈ b.map (·.1)
structure Bok (b : Plr) : Prop where
  inn : ∀ p ∈ b, inn p.2
  ltp : ∀ p ∈ b, ltp (isN b) p.2
theorem Bok.i {b : Plr} (h : Bok b) (c : Nat) : N.inn (frmB b c) := by
  unfold frmB
  cases e : lookN b c with
  | none => exact trivial
  | some f => exact h.inn _ (lookN_mem e)
theorem Bok.l {b : Plr} (h : Bok b) (c : Nat) : N.ltp (isN b) (frmB b c) := by
  unfold frmB
  cases e : lookN b c with
  | none => exact trivial
  | some f => exact h.ltp _ (lookN_mem e)
/-- a pair of the book -/
def prB (b : Plr) (p : Nat × Nat) : Prop := p.1 ∈ b.map (·.1) ∧ p.2 ∈ b.map (·.1)
theorem envB_congr {b : Plr} {D E : Nat × Nat → Nat → Bool} {p : Nat × Nat} {k : Nat} (hp : prB b p) (h : ∀ q, prB b q → ∀ j, j < k → D q j = E q j) : ∀ c, isN b c → ∀ j, j < k → envB D p c j = envB E p c j := by
  intro c hc j hj
  unfold envB
  split
  · exact h _ hp j hj
  · split
    · exact h _ ⟨hp.2, hp.1⟩ j hj
    · rcases hc with h1 | h1 | h1
      · contradiction
      · contradiction
      · exact h _ ⟨hp.2, h1⟩ j hj
theorem plays_ok {b : Plr} (hb : Bok b) : ∀ (t s : Nat) (p : Nat × Nat) (k : Nat), prB b p → k < t → k < s → playB b t p k = playB b s p k
  | 0, _, _, _, _, h, _ => absurd h (Nat.not_lt_zero _)
  | _, 0, _, _, _, _, h => absurd h (Nat.not_lt_zero _)
  | t + 1, s + 1, p, k, hp, h1, h2 => hv_lt _ (hb.i _) (hb.l _) (envB_congr hp fun q hq j hj => plays_ok hb t s q j hq (by omega) (by omega))
theorem deed_step {b : Plr} (hb : Bok b) {p : Nat × Nat} (hp : prB b p) (k : Nat) : deed b p k = hv (envB (deed b) p) (frmB b p.1) k :=
  hv_lt _ (hb.i _) (hb.l _) (envB_congr hp fun q hq j hj => plays_ok hb k (j + 1) q j hq hj (by omega))
/-- whether what stands within an all-part of a player held at all lower levels -/
def stB (b : Plr) (p : Nat × Nat) (k : Nat) (g : Fm) : Bool := (List.range k).all (hv (envB (deed b) p) g)
theorem deed_st {b : Plr} (hb : Bok b) {p : Nat × Nat} (hp : prB b p) (k : Nat) : deed b p k = hs (stB b p k) (fun c => envB (deed b) p c k) (frmB b p.1) := by
  rw [deed_step hb hp, hv_hs]
  rfl
theorem stB_succ (b : Plr) (p : Nat × Nat) (k : Nat) (g : Fm) : stB b p (k + 1) g = (stB b p k g && hs (stB b p k) (fun c => envB (deed b) p c k) g) := by
  unfold stB
  rw [all_succ, hv_hs]
theorem stB_mono {b : Plr} {p : Nat × Nat} {k : Nat} {g : Fm} (h : stB b p (k + 1) g = true) : stB b p k g = true := by
  rw [stB_succ, Bool.and_eq_true] at h
  exact h.1
/-- nothing changes any more behind a level -/
def still (b : Plr) (L : Nat) : Prop := ∀ p, prB b p → ∀ g, Fm.all g ∈ (frmB b p.1).alls → stB b p (L + 1) g = stB b p L g
theorem ltp_alls {P : Nat → Prop} : ∀ {f x : Fm}, ltp P f → Fm.all x ∈ f.alls → ltp P x
  | .at _, _, _, h => nomatch h
  | .no, _, _, h => nomatch h
  | .imp a b, _, hl, h => (Fm.mem_merge.mp h).elim (ltp_alls (f := a) hl.1) (ltp_alls (f := b) hl.2)
  | .all a, _, hl, h => (Fm.mem_merge.mp h).elim (ltp_alls (f := a) hl) fun h => by
    rw [List.mem_singleton] at h
    obtain rfl := Fm.all.inj h
    exact hl
theorem deed_same {b : Plr} (hb : Bok b) {k L : Nat} (h : ∀ p, prB b p → ∀ g, Fm.all g ∈ (frmB b p.1).alls → stB b p k g = stB b p L g) {p : Nat × Nat} (hp : prB b p) : deed b p k = deed b p L := by
  rw [deed_st hb hp, deed_st hb hp, hs_inn (hb.i p.1) (a' := fun c => envB (deed b) p c L)]
  exact hs_congr (hb.l p.1) (h p hp) fun _ _ => rfl
theorem still_on {b : Plr} (hb : Bok b) {L : Nat} (h : still b L) : ∀ n p, prB b p → ∀ g, Fm.all g ∈ (frmB b p.1).alls → stB b p (L + n) g = stB b p L g
  | 0, _, _, _, _ => rfl
  | n + 1, p, hp, g, hg => by
    have ih := still_on hb h n
    have hd : ∀ q, prB b q → deed b q (L + n) = deed b q L := fun q hq => deed_same hb ih hq
    have hl := ltp_alls (hb.l p.1) hg
    have he : ∀ c, isN b c → envB (deed b) p c (L + n) = envB (deed b) p c L := by
      intro c hc
      unfold envB
      split
      · exact hd _ hp
      · split
        · exact hd _ ⟨hp.2, hp.1⟩
        · rcases hc with h1 | h1 | h1
          · contradiction
          · contradiction
          · exact hd _ ⟨hp.2, h1⟩
    rw [← Nat.add_assoc, stB_succ, ih p hp g hg, hs_congr hl (st' := stB b p L) (fun x hx => ih p hp x (Fm.alls_trans hg (Fm.alls_all hx))) he, ← stB_succ, h p hp g hg]
theorem still_deed {b : Plr} (hb : Bok b) {L : Nat} (h : still b L) {p : Nat × Nat} (hp : prB b p) {k : Nat} (hk : L ≤ k) : deed b p k = deed b p L := by
  obtain ⟨n, rfl⟩ := Nat.exists_eq_add_of_le hk
  exact deed_same hb (still_on hb h n) hp
/-- what can only fall comes to rest -/
theorem rest_by {α : Type} (l : List α) (s : Nat → α → Bool) (mono : ∀ k x, s (k + 1) x = true → s k x = true) : ∃ L, L ≤ l.length ∧ ∀ x ∈ l, s (L + 1) x = s L x := by
  have key : ∀ n, (∃ L, L < n ∧ ∀ x ∈ l, s (L + 1) x = s L x) ∨ l.countP (s n) + n ≤ l.length := by
    intro n
    induction n with
    | zero => exact .inr (by have := List.countP_le_length (p := s 0) (l := l); omega)
    | succ n ih =>
      rcases ih with ⟨L, h1, h2⟩ | ih
      · exact .inl ⟨L, by omega, h2⟩
      · by_cases h : ∀ x ∈ l, s (n + 1) x = s n x
        · exact .inl ⟨n, by omega, h⟩
        · refine .inr ?_
          have hlt : l.countP (s (n + 1)) < l.countP (s n) := by
            clear ih
            induction l with
            | nil => exact absurd (fun x hx => by cases hx) h
            | cons y l ihl =>
              have hle : l.countP (s (n + 1)) ≤ l.countP (s n) := List.countP_mono_left fun x _ hx => mono n x hx
              rw [List.countP_cons, List.countP_cons]
              by_cases hy : s (n + 1) y = s n y
              · have hn : ¬ ∀ x ∈ l, s (n + 1) x = s n x := fun hh => h fun x hx => by
                  rcases List.mem_cons.mp hx with rfl | hx
                  · exact hy
                  · exact hh x hx
                have := ihl hn
                rw [hy]
                omega
              · have h1 : s (n + 1) y = false := by
                  cases e : s (n + 1) y with
                  | false => rfl
                  | true => exact absurd (e.trans (mono n y e).symm) hy
                have h2 : s n y = true := by
                  cases e : s n y with
                  | true => rfl
                  | false => exact absurd (h1.trans e.symm) hy
                rw [h1, h2]
                simp
                omega
          omega
  rcases key (l.length + 1) with ⟨L, h1, h2⟩ | h
  · exact ⟨L, by omega, h2⟩
  · omega
end N
set_option Elab.async false
set_option linter.all false
set_option maxRecDepth 100000
namespace N
open PySem L2
/-- the rows at last -/
def lastB (b : Plr) (m : Nat) (p : Nat × Nat) : List Bool := (List.range m).map (deed b p)
/-- the all-parts of a player: what stands within -/
def innB (b : Plr) (c : Nat) : List Fm := (frmB b c).alls.filterMap fun x => match x with
  | .all g => some g
  | _ => none
theorem mem_innB {b : Plr} {c : Nat} {g : Fm} : g ∈ innB b c ↔ Fm.all g ∈ (frmB b c).alls := by
  unfold innB
  rw [List.mem_filterMap]
  constructor
  · rintro ⟨x, hx, e⟩
    cases x with
    | all a =>
      have e : some a = some g := e
      cases e
      exact hx
    | _ => cases e
  · exact fun h => ⟨_, h, rfl⟩
/-- the pairs of a book -/
def prsB (b : Plr) : List (Nat × Nat) := b.flatMap fun x => b.map fun y => (x.1, y.1)
theorem mem_prsB {b : Plr} {p : Nat × Nat} : p ∈ prsB b ↔ prB b p := by
  unfold prsB prB
  rw [List.mem_flatMap]
  constructor
  · rintro ⟨x, hx, h⟩
    obtain ⟨y, hy, rfl⟩ := List.mem_map.mp h
    exact ⟨List.mem_map_of_mem hx, List.mem_map_of_mem hy⟩
  · rintro ⟨h1, h2⟩
    obtain ⟨x, hx, e1⟩ := List.mem_map.mp h1
    obtain ⟨y, hy, e2⟩ := List.mem_map.mp h2
    exact ⟨x, hx, List.mem_map.mpr ⟨y, hy, by rw [e1, e2]⟩⟩
/-- all all-parts of all pairs -/
def allB2 (b : Plr) : List ((Nat × Nat) × Fm) := (prsB b).flatMap fun p => (innB b p.1).map fun g => (p, g)
theorem still_ex (b : Plr) : ∃ L, L ≤ (allB2 b).length ∧ still b L := by
  obtain ⟨L, h1, h2⟩ := rest_by (allB2 b) (fun k x => stB b x.1 k x.2) fun k x h => stB_mono h
  refine ⟨L, h1, fun p hp g hg => h2 (p, g) ?_⟩
  unfold allB2
  rw [List.mem_flatMap]
  exact ⟨p, mem_prsB.mpr hp, List.mem_map.mpr ⟨g, mem_innB.mpr hg, rfl⟩⟩
theorem allB2_len (b : Plr) : (allB2 b).length = (b.map fun x => (innB b x.1).length).sum * b.length := by
  unfold allB2 prsB
  rw [List.flatMap_assoc, List.length_flatMap]
  have e : ∀ l : Plr, (l.map fun x => ((b.map fun y => (x.1, y.1)).flatMap fun p => (innB b p.1).map fun g => (p, g)).length).sum = (l.map fun x => (innB b x.1).length).sum * b.length := fun l => by
    induction l with
    | nil => simp
    | cons x l ih =>
      rw [List.map_cons, List.map_cons, List.sum_cons, List.sum_cons, ih, Nat.add_mul]
      congr 1
      rw [List.length_flatMap, List.map_map]
      have : ∀ k : Plr, ((k.map ((fun p : Nat × Nat => ((innB b p.1).map fun g => (p, g)).length) ∘ fun y : Nat × Fm => (x.1, y.1))).sum) = (innB b x.1).length * k.length := fun k => by
        induction k with
        | nil => simp
        | cons y k ih => rw [List.map_cons, List.sum_cons, ih, List.length_cons, Nat.mul_succ, Nat.add_comm]; simp
      exact this b
  exact e b
end N
set_option Elab.async false
set_option linter.all false
set_option maxRecDepth 100000
set_option maxHeartbeats 1000000
namespace N
open PySem PySem.Spec PyProof.Rows L2
structure NkRd (K : PySem.W.Frag) (w : World) (H : Hp) (p : Addr) (as : List (NestedKey × Addr × V)) : Prop where
  at_ : Rd H p (NkO w p as)
  key : ∀ z ∈ as, NkV K H z.1 (.ref z.2.1) ∧ z.1.depth ≤ 8
  nd : (as.map (·.1)).Nodup
theorem NkAt.rd {K : PySem.W.Frag} {w : World} {H : Hp} {p : Addr} {as : List (NestedKey × Addr × V)} (h : NkAt K w H p as) : NkRd K w H p as := ⟨.inl h.at_, h.key, h.nd⟩
section
variable {X : Cx} {pins : List (Addr × Obj)} {σ : L2.St} {H : Hp} {s : Shared} {p : Addr} {as : List (NestedKey × Addr × V)}
theorem nk_rd (I : L2.Inv X pins σ H s) (h : NkRd X.K X.w H p as) : (p == sysModules) = false ∧ ∃ us, s.heap.DictOfH (nestedKind X.prog X.w) p us ∧ NkPd as us := by
  have hr : NkRaw X.w s.heap p as := by
    have := h.at_.ok I.hok
    exact this.1
  obtain ⟨o, es, ep, us, hs, ho, hx, hd, he, hp⟩ := hr
  refine ⟨hs, us, ⟨o, es, ep, ho, hx, hd, he, fun x hx => ?_, by rw [NkPd.keys hp]; exact h.nd⟩, hp⟩
  obtain ⟨a, ha, e1, e2⟩ := NkPd.mem hp x hx
  obtain ⟨k1, k2⟩ := h.key a ha
  rw [e1, e2] at k1
  exact ⟨NkV.is I _ _ _ k1 rfl, by rw [← e1]; exact k2⟩
theorem NkPd.len2 {as : List (NestedKey × Addr × V)} {us : List (NestedKey × Addr × Value)} (h : NkPd as us) : us.length = as.length := by
  have := congrArg List.length (NkPd.keys h)
  simpa using this
/-- the pinned dict -/
theorem frzN {o : Obj} (I : L2.Inv X pins σ H s) (h : H p = some (.frz o (NkO X.w p as))) : (p == sysModules) = false ∧ s.heap.get? p = some o ∧ o.ExactDict ∧ ∃ es ep us, o.data = .dict es ep ∧ es.toList = us.map (fun x : NestedKey × Addr × Value => (⟨x.1.hash X.w, .ref x.2.1, x.2.2⟩ : DictEntry)) ∧ NkPd as us := by
  obtain ⟨hg, hr⟩ := I.hok p _ h
  obtain ⟨o2, es, ep, us, hs, ho, hx, hd, he, hp⟩ : NkRaw X.w s.heap p as := hr.1
  rw [hg] at ho
  cases ho
  exact ⟨hs, hg, hx, es, ep, us, hd, he, hp⟩
theorem NkPd.at : ∀ {as : List (NestedKey × Addr × V)} {us : List (NestedKey × Addr × Value)} {i : Nat} {z : NestedKey × Addr × V}, NkPd as us → as[i]? = some z → ∃ u, us[i]? = some u ∧ z.1 = u.1 ∧ z.2.1 = u.2.1 ∧ RelV z.2.2 u.2.2
  | [], _, i, z, h, e => by cases h; simp at e
  | a :: as, _, 0, z, h, e => by
    cases h with
    | cons h1 h2 =>
      obtain rfl : a = z := Option.some.inj e
      exact ⟨_, rfl, h1⟩
  | a :: as, _, i + 1, z, h, e => by
    cases h with
    | cons h1 h2 => exact NkPd.at (i := i) (z := z) h2 e
end
def tFrz (t : TE) : TE := fun σ H Q => t σ H fun v H' => ∃ d u, v = .ref d ∧ H' d = some u ∧ Mut (some u) ∧ ∀ od, Q v (upd H' d (.frz od u))
theorem pe_frz {X : Cx} {e : Expr} {t : TE} (h : PE X e t) : PE X e (tFrz t) := by
  refine ⟨fun pins s σ H Q I hw => ?_⟩
  refine thn (h.run pins s σ H _ I hw) fun v s1 ⟨x, H1, I1, r, d, u, ex, hd, mu, q⟩ => ?_
  obtain ⟨od, I2⟩ := I1.lock hd mu
  exact ⟨x, _, I2, r, q od⟩
def Itn (w : World) (d : Addr) (o : Obj) (as : List (NestedKey × Addr × V)) : It :=
  ⟨fun i H => H d = some (.frz o (NkO w d as)) ∧ i < as.length, fun i H x H' => H' = H ∧ ∃ z, as[i]? = some z ∧ x = .ref z.2.1, fun i H => H d = some (.frz o (NkO w d as)) ∧ as.length ≤ i⟩
theorem turn_keysN {P : Program} {w : World} {K : PySem.W.Frag} {tg : Expr} {d : Addr} {o : Obj} {es : Array DictEntry} {ep : Nat} {as : List (NestedKey × Addr × V)} (it : Addr) (hod : o.data = .dict es ep) : Turn P w K tg (Itn w d o as) [it] it (fun i h => h.IsKeyIter it d i as.length ep) where
  mem := by simp
  obj := fun i h st b hb => by
    have e : b = it := by simpa using hb
    subst e
    obtain ⟨oi, e, c, dd⟩ := st
    exact ⟨oi, e, fun v z => by rw [dd] at z; cases z⟩
  keep := fun i h h' st k => st.at fun oi e => k it (by simp) oi e
  item := by
    intro X hP hw hK hc i pins s σ H E I hf st hg
    subst hP hw hK
    obtain ⟨hd, hi⟩ := hg
    obtain ⟨f0, f1, f2, f3, f4, f5⟩ := hf it (by simp)
    obtain ⟨hs, hgd, hx, es', ep', us, hdt, he, hp⟩ := frzN I hd
    obtain ⟨rfl, rfl⟩ := dict_ep hod hdt
    have hl : us.length = as.length := NkPd.len2 hp
    have hsz : es'.size = as.length := by rw [← Array.length_toList, he, List.length_map, hl]
    obtain ⟨z, hz⟩ : ∃ z, as[i]? = some z := ⟨as[i], List.getElem?_eq_getElem hi⟩
    obtain ⟨u, hu, e1, e2, e3⟩ := NkPd.at hp hz
    have hen : es'[i]? = some ⟨u.1.hash X.w, .ref u.2.1, u.2.2⟩ := by rw [← Array.getElem?_toList, he, List.getElem?_map, hu]; rfl
    refine next_key_item st hgd hdt hsz hen fun h' st' sb => ?_
    have I1 : L2.Inv X pins σ H { s with heap := h' } := I.turned (t' := s.toks) (fun b ob hb e => (sb.2 b hb).trans e) f0 f1 f3 f4 f5
    obtain ⟨oi, e, c, dd⟩ := id st'
    exact ⟨_, rfl, go_of (s := { s with heap := h' }) e c dd (by decide) ⟨.ref z.2.1, H, I1, by rw [e2]; rfl, ⟨rfl, z, hz, rfl⟩, st', fun b hb => (hf b hb).1⟩⟩
  done := by
    intro X hP hw hK hc i pins s σ H E I hf st hg
    subst hP hw hK
    obtain ⟨hd, hi⟩ := hg
    obtain ⟨f0, f1, f2, f3, f4, f5⟩ := hf it (by simp)
    obtain ⟨hs, hgd, hx, es', ep', us, hdt, he, hp⟩ := frzN I hd
    obtain ⟨rfl, rfl⟩ := dict_ep hod hdt
    have hl : us.length = as.length := NkPd.len2 hp
    have hsz : es'.size = as.length := by rw [← Array.length_toList, he, List.length_map, hl]
    exact next_key_end (I.ok.hd hc) st hgd hdt hsz hi fun h' eb => ⟨rfl, I.turned (t' := s.toks) (fun b ob hb e => eb b ob hb e) f0 f1 f3 f4 f5⟩
  self := fun A i s Q E st h => by
    refine wpAny_pyIter_slot st.typeIs F.slot_dict_keyiterator_iter (wpAny_call_entry F.slot_dict_keyiterator_iter st.typeIs F.entry_dict_keyiterator_iter ?_ (F.args_dict_keyiterator_iter_1 _))
    show wpAny _ _ (ret (.ref it)) _ _ s
    exact wpAny_pure ⟨_, rfl, "dict_keyiterator", _, st.typeIs, F.slot_dict_keyiterator_next.lookup, h⟩
def iKeysN (w : World) (td : TE) : TI := fun σ H R => td σ H fun x H1 => ∃ d o as, x = .ref d ∧ H1 d = some (.frz o (NkO w d as)) ∧ R (Itn w d o as) H1
theorem pi_keysN {X : Cx} {tg e : Expr} {td : TE} (he : PE X e td) : PI X tg e (iKeysN X.w td) := by
  refine ⟨fun pins s σ H R I h => ?_⟩
  refine thn (he.run pins s σ H _ I h) fun u s1 ⟨x, H1, I1, rx, d, o, as, ex, hd, q⟩ => ?_
  subst ex
  obtain rfl : u = Value.ref d := rx
  obtain ⟨hs, hgd, hx, es, ep, us, hdt, hes, hp⟩ := frzN I1 hd
  have hsz : es.size = as.length := by rw [← Array.length_toList, hes, List.length_map, NkPd.len2 hp]
  refine iter_keys hs hgd hx hdt (pi_one (tk := s1.toks) I1 _ (turn_keysN _ hdt) ⟨_, Heap.get?_push_size _ rfl, rfl, ?_⟩ q)
  rw [hsz] <;> rfl
def tGetK (K : PySem.W.Frag) (w : World) (td ty : TE) : TE := fun σ H Q => td σ H fun x H1 => ty σ H1 fun y H2 => ∃ a p as k v, x = .ref p ∧ y = .ref a ∧ NkRd K w H2 p as ∧ NkV K H2 k (.ref a) ∧ k.depth ≤ 8 ∧ getA as k = some v ∧ Q v H2
theorem pe_getK {X : Cx} {o i : Expr} {td ty : TE} {pos : Pos} (hu : X.A.units + 64 < cLine) (ho : PE X o td) (hi : PE X i ty) (hs : NoSl i) : PE X (.Subscript o i pos) (tGetK X.K X.w td ty) := by
  refine ⟨fun pins s σ H Q I h => ?_⟩
  refine subD_of PySem.F.slot_dict_getitem.lookup hs (thn (ho.run pins s σ H _ I h) fun u s1 ⟨x, H1, I1, rx, q1⟩ => thn (hi.run pins s1 σ H1 _ I1 q1) fun iv s2 ⟨y, H2, I2, ry, a, p, as, k, v, ex, ey, hn, hk, hd, hg, q2⟩ => ?_)
  subst ex ey
  obtain rfl : u = .ref p := rx
  obtain rfl : iv = .ref a := ry
  obtain ⟨hs, us, hm, hp⟩ := nk_rd I2 hn
  refine ⟨hm.typeIs, ?_⟩
  rcases NkPd.get (k := k) hp with ⟨e1, e2⟩ | ⟨q, v', e1, e2, rv⟩
  · rw [hg] at e2
    cases e2
  · rw [hg] at e2
    cases e2
    exact wpAny_getItem_heap (knd := nestedKind X.prog X.w) (k := k) (by show X.A.units + 1 + 8 < cLine; omega) ⟨NkV.is I2 _ _ _ hk rfl, hd⟩ hm e1 ⟨v, H2, I2.tok _, rv, q2⟩
def putA {α : Type} (as : List (NestedKey × Addr × α)) (k : NestedKey) (a : Addr) (v : α) : List (NestedKey × Addr × α) :=
  if (getA as k).isSome then as.map (fun z => if z.1 = k then (z.1, z.2.1, v) else z) else as ++ [(k, a, v)]
section
variable {X : Cx} {pins : List (Addr × Obj)} {σ : L2.St} {H : Hp} {s : Shared} {p : Addr} {as : List (NestedKey × Addr × V)}
theorem NkPd.put {k : NestedKey} {a : Addr} {v : V} {u : Value} (rv : RelV v u) {us : List (NestedKey × Addr × Value)} (h : NkPd as us) : NkPd (putA as k a v) (storedH us k a u) := by
  unfold putA storedH
  rcases NkPd.get (k := k) h with ⟨e1, e2⟩ | ⟨q, x, e1, e2, _⟩
  · rw [e1, e2]
    exact NkPd.snoc (a := (k, a, v)) (u := (k, a, u)) ⟨rfl, rfl, rv⟩ h
  · rw [e1, e2]
    simp only [Option.isSome_some, if_true]
    clear e1 e2
    induction h with
    | nil => exact .nil
    | @cons y z _ _ h1 h2 ih =>
      refine .cons ?_ ih
      obtain ⟨q1, q2, q3⟩ := h1
      unfold putAt
      dsimp only
      by_cases e : y.1 = k
      · rw [if_pos e, if_pos (by rw [← q1]; exact e)]
        exact ⟨q1, q2, rv⟩
      · rw [if_neg e, if_neg (by rw [← q1]; exact e)]
        exact ⟨q1, q2, q3⟩
/-- d[k] = v, in a heap -/
theorem d_setN {E : Value → Shared → Prop} {a : Addr} {k : NestedKey} {v : V} {r : Value} {Q : Unit → Shared → Prop} (hu : X.A.units + 64 < cLine) (I : L2.Inv X pins σ H s) (hn : NkAt X.K X.w H p as) (hk : NkV X.K H k (.ref a)) (hd : k.depth ≤ 8) (hl : as.length < 100000) (rv : RelV v r)
    (h : ∀ s', L2.Inv X pins σ (upd H p (NkO X.w p (putA as k a v))) s' → Q () s') : wpAny (model X.prog X.w) X.A (dictSet p (.ref a) r) Q E s := by
  obtain ⟨hs, us, hm, hp⟩ := nk_rd I hn.rd
  have hus := NkPd.len2 hp
  refine wpAny_dictSet_heap (knd := nestedKind X.prog X.w) (k := k) (by show X.A.units + 8 < cLine; omega) ⟨NkV.is I _ _ _ hk rfl, hd⟩ hm (fun h' hm' sb => ?_) (by have := sizeLine_eq; omega)
  have he : ∃ u, h'.get? p = some u := by
    obtain ⟨o, es, ep, ho, _⟩ := id hm'
    exact ⟨o, ho⟩
  exact h _ (I.write (e := p) (by rw [hn.at_]; trivial) (.inl rfl) (fun b u hb hu => (sb.2 b hb).trans hu) he (nk_new hs hm' (NkPd.put rv hp)))
end
end N
set_option Elab.async false
set_option linter.all false
set_option maxRecDepth 100000
set_option maxHeartbeats 4000000
namespace N
open PySem PySem.Spec PyProof.Rows L2 PpSet
section
variable {X : Cx}
/-- {k: v for .. in .. if ..}, p the new dict -/
def tDcK (K : PySem.W.Frag) (w : World) (wi : TI) (g : TG) (tt : TT) (tk tv : TE) (vs : List Nat) : TE := fun σ H Q => wi σ H fun J H1 => ∀ p, H1 p = none → ∃ W : Nat → Nat → Hp → Prop, (∃ m, W 0 m (upd H1 p (NkO w p []))) ∧ ∀ i m H, W i m H →
  (J.stop i H ∧ Q (.ref p) H) ∨ (J.go i H ∧ ∃ Nx : Hp → Prop, (∀ H', Nx H' → ∃ m', m' < m ∧ W (i + 1) m' H') ∧ ∀ x H', J.yld i H x H' → g x (wipe σ vs) H' fun σ2 H2 => wipe σ2 vs = wipe σ vs ∧ tt σ2 H2 fun b H3 =>
    if b = true then tk σ2 H3 fun y H4 => tv σ2 H4 fun z H5 => ∃ (ka : Addr) (as : List (NestedKey × Addr × V)) (k : NestedKey), y = .ref ka ∧ NkAt K w H5 p as ∧ NkV K H5 k (.ref ka) ∧ k.depth ≤ 8 ∧ as.length < 100000 ∧ Nx (upd H5 p (NkO w p (putA as k ka z))) else Nx H3)
theorem pe_dcK {kx vx tg iter : Expr} {ifs : List Expr} {scope : Scope} {own : List (PySem.Str × Nat)} {pos : Pos} {wi : TI} {g : TG} {tt : TT} {tk tv : TE} (hu : X.A.units + 64 < cLine) (hc : X.calm = true) (hN : X.N.Nodup) (hi : PI X tg iter wi) (ok : BlkOk X.N X.env.scope scope own)
    (hg : ∀ (s : Shared) (H : Hp) (C : Addr) (cl : List (PySem.Str × Addr)) (fp : List Addr), PG (X.blk s H scope (compEnvC scope cl C X.env) fp) tg g) (ht : ∀ (s : Shared) (H : Hp) (C : Addr) (cl : List (PySem.Str × Addr)) (fp : List Addr), PTs (X.blk s H scope (compEnvC scope cl C X.env) fp) ifs tt)
    (hk : ∀ (s : Shared) (H : Hp) (C : Addr) (cl : List (PySem.Str × Addr)) (fp : List Addr), PE (X.blk s H scope (compEnvC scope cl C X.env) fp) kx tk)
    (he : ∀ (s : Shared) (H : Hp) (C : Addr) (cl : List (PySem.Str × Addr)) (fp : List Addr), PE (X.blk s H scope (compEnvC scope cl C X.env) fp) vx tv) (hs : ∀ x, foldedSetIterable iter X.env x = pure x := by intro _; rfl) :
    PE X (.DictComp kx vx [⟨tg, iter, ifs, 0⟩] scope pos) (tDcK X.K X.w wi g tt tk tv (own.map (·.2))) := by
  refine ⟨fun pins s σ H Q I h => ?_⟩
  rw [arm_eval_DictComp]
  have hfree : ∀ y ∈ scope.names, y.2 = .free → ∃ c, X.env.cells.lookup y.1 = some c := fun y hy e => by
    rcases ok.free y hy e with k | k
    · exact I.ok.has _ (.inl k)
    · exact I.ok.has _ (.inr k)
  refine wpAny_comprehension_free (use := none) rfl hs (closure_ok hfree) ok.kind (fun y hy e => by rw [ok.uniq y hy, e])
    (thn (hi.run pins s σ H _ I h) fun xv s1 hx => thn hx fun itv s2 h2 => ?_)
  obtain ⟨it, fp, tn, J, H2, e, I2, T, st2, f2, q⟩ := h2
  subst e
  refine wpAny_newObj_type (newEnv_comp ?_)
  obtain ⟨W, ⟨m0, w0⟩, turn⟩ := q s2.heap.objs.size (I2.hok.fresh (Nat.le_refl _))
  -- with the new dict
  have pushed : ∀ {h : Heap} {b : Addr} {o u : Obj}, h.get? b = some o → (h.push u).get? b = some o := fun e => Heap.get?_push_of_some _ e
  have J1 : Inv X pins σ (upd H2 s2.heap.objs.size (NkO X.w s2.heap.objs.size [])) { s2 with heap := s2.heap.push { cls := .type "dict", data := .dict #[] } } :=
    I2.laid (t' := s2.toks) (fun b o e => pushed e) (Nat.le_refl _) (nk_new (us := []) (beq_eq_false_iff_ne.mpr (Ne.symm (Nat.ne_of_lt I2.big))) (Heap.DictOfH.new s2.heap) .nil)
  have small : ∀ b ∈ fp, b < s2.heap.objs.size := fun b hb => by
    obtain ⟨o, e, _⟩ := T.obj _ _ st2 b hb
    exact Heap.lt_size e
  revert w0 turn J1
  generalize e3 : s2.heap.objs.size = p
  intro turn w0 J1
  generalize hH3 : upd H2 p (NkO X.w p []) = H3 at w0 J1
  generalize hs3 : ({ s2 with heap := s2.heap.push { cls := .type "dict", data := .dict #[] } } : Shared) = s3 at J1
  have h3 : s3.heap = s2.heap.push { cls := .type "dict", data := .dict #[] } := by rw [← hs3]
  have f3 : ∀ b ∈ fp, FpOk X pins H3 b ∧ b < s3.heap.objs.size := fun b hb => by
    have hlt := small b hb
    refine ⟨⟨?_, (f2 b hb).2⟩, by rw [h3, Heap.size_push]; exact Nat.lt_succ_of_lt hlt⟩
    rw [← hH3, upd_ne (by rw [← e3]; exact Nat.ne_of_lt hlt)]
    exact (f2 b hb).1
  have st3 : tn 0 s3.heap := T.keep _ _ _ st2 fun b _ o e => by rw [h3]; exact pushed e
  have I4 := block_start J1 ok hN f3
  have pg := hg s3 H3 s3.heap.objs.size (cellsFrom (s3.heap.objs.size + 1) scope.names (cloFrom X.env.cells scope.names [])) fp
  have pt := ht s3 H3 s3.heap.objs.size (cellsFrom (s3.heap.objs.size + 1) scope.names (cloFrom X.env.cells scope.names [])) fp
  have pk := hk s3 H3 s3.heap.objs.size (cellsFrom (s3.heap.objs.size + 1) scope.names (cloFrom X.env.cells scope.names [])) fp
  have pe := he s3 H3 s3.heap.objs.size (cellsFrom (s3.heap.objs.size + 1) scope.names (cloFrom X.env.cells scope.names [])) fp
  have el : ∀ (scp : Scope) (cs : List (PySem.Str × Addr)) (L : Addr) (ev : Env), (compEnvC scp cs L ev).locals = L := fun _ _ _ _ => rfl
  have goal : ∀ ce, compEnvC scope (cellsFrom (s3.heap.objs.size + 1) scope.names (cloFrom X.env.cells scope.names [])) s3.heap.objs.size X.env = ce →
      codeAny (model X.prog X.w) X.A (.compStart (.DictComp kx vx [⟨tg, iter, ifs, 0⟩] scope pos) 0 (.ref it) (.ref p) ce) (compPost (model X.prog X.w) X.A X.xe none (EP X pins σ Q) (.ref p) s3.heap.objs.size) { s3 with heap := pushCells (s3.heap.push { cls := .type "dict", data := .dict #[] }) scope.names } := by
    intro ce hce
    have cL : ce.locals = s3.heap.objs.size := by rw [← hce]; exact el _ _ _ _
    rw [hce] at I4 pg pt pk pe
    generalize hs4 : ({ s3 with heap := pushCells (s3.heap.push { cls := .type "dict", data := .dict #[] }) scope.names } : Shared) = s4 at I4 ⊢
    have st4 : tn 0 s4.heap := T.keep _ _ _ st3 fun b _ o e => by rw [← hs4]; exact pushCells_keeps _ _ _ _ (pushed e)
    have stat : ∀ {σ' : L2.St} {H' : Hp} {s' : Shared}, Inv (X.blk s3 H3 scope ce fp) [] σ' H' s' → (∀ b ∈ fp, H' b = none) → ∀ b ∈ fp, FpOk (X.blk s3 H3 scope ce fp) [] H' b := fun I' hn b hb =>
      ⟨hn b hb, (I'.ok.exf b hb).1, I'.ok.exfs b hb, .inl hb, fun x c e => (I'.ok.exf b hb).2 x c e, fun p hp => absurd (show p ∈ ([] : List (Addr × Obj)) ++ [] from hp) (by simp)⟩
    refine codeAny_compStart_dict ?loop (T.self X.A 0 _ _ _ st4 ?loop)
    refine compLoop_anyD (fun n s' => ∃ i H', Inv (X.blk s3 H3 scope ce fp) [] (wipe σ (own.map (·.2))) H' s' ∧ tn i s'.heap ∧ (∀ b ∈ fp, H' b = none) ∧ W i n H') ?_ m0 ⟨0, H3, I4, st4, fun b hb => (f3 b hb).1.1, w0⟩
    rintro n s5 ⟨i, H5, I5, st5, n5, w5⟩
    rcases turn i n H5 w5 with ⟨stop, qq⟩ | ⟨go, Nx, hNx, step⟩
    · refine thnF (T.done (X.blk s3 H3 scope ce fp) rfl rfl rfl hc i [] s5 _ H5 (fun _ _ => False) I5 (stat I5 n5) st5 stop) fun r s6 ⟨hr, I6⟩ => ?_
      subst hr
      have I7 : Inv X pins σ H5 s6 := J1.call' (ch := fp) I6.os I6.base I6.hok I6.bare fun b hb => ⟨(f3 b hb).1.2.2.2.1, (f3 b hb).1.2.1, (f3 b hb).1.2.2.2.2.1, (f3 b hb).1.2.2.2.2.2⟩
      have nC : H5 s3.heap.objs.size = none := cL ▸ (show H5 ce.locals = none from I6.free)
      obtain ⟨m, hn, _⟩ := I6.loc
      have hn : s6.heap.Ns s3.heap.objs.size m := cL ▸ (show s6.heap.Ns ce.locals m from hn)
      refine ⟨m, hn, fun h'' sb => ?_⟩
      obtain ⟨g0, g1, g2, g3, g4, g5⟩ := J1.fpOk (Nat.le_refl _) nC
      exact ⟨.ref p, H5, I7.turned (t' := s6.toks) (fun b o hb e => (sb.2 b hb).trans e) g0 g1 g3 g4 g5, rfl, qq⟩
    · refine thnF (T.item (X.blk s3 H3 scope ce fp) rfl rfl rfl hc i [] s5 _ H5 (fun _ _ => False) I5 (stat I5 n5) st5 go) fun r s6 ⟨u, hr, h6⟩ => ?_
      subst hr
      refine thnF h6 fun _ s7 ⟨x, H7, I7, r7, y7, st7, n7⟩ => ?_
      have I7' := I7.pinned (stat I7 n7) (T.obj _ _ st7)
      refine thnF (pg.run _ s7 _ H7 x u _ I7' r7 (step x H7 y7)) fun _ s8 ⟨σ8, H8, I8, hw8, q8⟩ => ?_
      refine thnF (pt.run _ s8 σ8 H8 _ I8 q8) fun b s9 ⟨H9, I9, q9⟩ => ?_
      have next : ∀ {s' : Shared} {H' : Hp}, Inv (X.blk s3 H3 scope ce fp) ([] ++ pinsAt fp s7.heap) σ8 H' s' → Nx H' → ∃ m, m < n ∧ ∃ i H', Inv (X.blk s3 H3 scope ce fp) [] (wipe σ (own.map (·.2))) H' s' ∧ tn i s'.heap ∧ (∀ b ∈ fp, H' b = none) ∧ W i m H' := fun {s' H'} I' nx => by
        obtain ⟨m', hm, w'⟩ := hNx H' nx
        have pin : ∀ b ∈ fp, ∀ o, s7.heap.get? b = some o → s'.heap.get? b = some o ∧ H' b = none := fun b hb o e =>
          have z := I'.pin (b, o) (List.mem_append_right _ (List.mem_append_right _ (mem_pinsAt hb e)))
          ⟨z.1, z.2.1⟩
        refine ⟨m', hm, i + 1, H', (I'.unpinned (pins := [])).weak (by rw [← hw8, wipe_length]) (fun j v e => (wipe_some (hw8 ▸ e)).1), T.keep _ _ _ st7 fun b hb o e => (pin b hb o e).1, fun b hb => ?_, w'⟩
        obtain ⟨o, e, _⟩ := T.obj _ _ st7 b hb
        exact (pin b hb o e).2
      cases b with
      | false => exact next I9 q9
      | true =>
        refine thnF (pk.run _ s9 σ8 H9 _ I9 q9) fun z s10 ⟨yk, H10, I10, r10, q10⟩ => ?_
        refine thnF (pe.run _ s10 σ8 H10 _ I10 q10) fun z2 s11 ⟨yv, H11, I11, r11, ka, as, k, ek, hn, hk, hd, hz, nx⟩ => ?_
        subst ek
        obtain rfl : z = Value.ref ka := r10
        exact d_setN (X := X.blk s3 H3 scope ce fp) hu I11 hn hk hd hz r11 fun s12 I12 => next I12 nx
  exact goal _ rfl
end
end N
set_option Elab.async false
set_option linter.all false
set_option maxRecDepth 100000
set_option maxHeartbeats 4000000
namespace N
open PySem PySem.Spec PyProof.Rows L2 PpSet
/-- {kx: vx for a in xs if .. for b in ys if ..} -/
abbrev DcE (kx vx a xs b ys : Expr) (f0 f1 : List Expr) (sc : Scope) (ps : Pos) : Expr := .DictComp kx vx [⟨a, xs, f0, 0⟩, ⟨b, ys, f1, 0⟩] sc ps
theorem dcE_one (kx vx a xs b ys : Expr) (f0 f1 : List Expr) (sc : Scope) (ps : Pos) (it acc : Value) (env : Env) :
    compTurn (DcE kx vx a xs b ys f0 f1 sc ps) 0 it acc env = (do
      standAt xs.pos
      match ← pyNext it with
      | none => pure (.done .next)
      | some v =>
        letOwnedTupleGo a it v
        assign a env v
        let mut good := true
        for c in f0 do
          if good then good ← isTrue c env (eval c env)
        if good then
          let z ← eval ys env
          standAt ys.pos
          let z ← foldedSetIterable ys env z
          let _ ← runOwn (.compStart (DcE kx vx a xs b ys f0 f1 sc ps) 1 (← holding [z] (pyIter z)) acc env) env
        again (.compLoop (DcE kx vx a xs b ys f0 f1 sc ps) 0 it acc env)) := by rfl
theorem dcE_two (kx vx a xs b ys : Expr) (f0 f1 : List Expr) (sc : Scope) (ps : Pos) (it : Value) (D : Addr) (env : Env) :
    compTurn (DcE kx vx a xs b ys f0 f1 sc ps) 1 it (.ref D) env = (do
      standAt ys.pos
      match ← pyNext it with
      | none => pure (.done .next)
      | some v =>
        letOwnedTupleGo b it v
        assign b env v
        let mut good := true
        for c in f1 do
          if good then good ← isTrue c env (eval c env)
        if good then
          (do
            let kv ← eval kx env
            let vv ← holding [kv] (eval vx env)
            standAt { kx.pos with endLine := vx.pos.endLine, endCol := vx.pos.endCol }
            holding [kv, vv] (dictSet D kv vv))
        again (.compLoop (DcE kx vx a xs b ys f0 f1 sc ps) 1 it (.ref D) env)) := by rfl
section
variable {P : Program} {w : World} {A : Around} {R : Result → Shared → Prop} {s : Shared} {kx vx a xs b ys : Expr} {f0 f1 : List Expr} {sc : Scope} {ps : Pos} {it acc : Value} {env : Env} {D : Addr}
theorem dcE_loop1 (hz : ∀ x, foldedSetIterable ys env x = pure x) (I : Nat → Shared → Prop)
    (turn : ∀ n s, I n s → wpAny (model P w) A (pyNext it) (fun r s1 => match r with
      | none => R (.ok .next) s1
      | some v => wpAny (model P w) A (letOwnedTupleGo a it v) (fun _ s2 => wpAny (model P w) A (assign a env v) (fun _ s3 =>
          wpAny (model P w) A (tsR f0 env) (fun good s4 =>
            if good = true then wpAny (model P w) A (eval ys env) (fun z s5 => wpAny (model P w) A (pyIter z) (fun it1 s6 =>
              codeAny (model P w) A (.compStart (DcE kx vx a xs b ys f0 f1 sc ps) 1 it1 acc env) (fun r s' => match r with
                | .ok _ => ∃ m, m < n ∧ I m s'
                | .error _ => False) s6) (nbR P w A env R) s5) (nbR P w A env R) s4
            else ∃ m, m < n ∧ I m s4) (nbR P w A env R) s3) (nbR P w A env R) s2) (nbR P w A env R) s1) (nbR P w A env R) s)
    (n : Nat) (h : I n s) : codeAny (model P w) A (.compLoop (DcE kx vx a xs b ys f0 f1 sc ps) 0 it acc env) R s := by
  refine codeAny_loop rfl I (fun n s hI => ?_) n h
  show wpAny _ A ((compTurn (DcE kx vx a xs b ys f0 f1 sc ps) 0 it acc env).onRaise (fun x => do noteFrame x env; theTreesLotGoes x)) _ _ s
  refine wpAny_noted ?_
  rw [dcE_one]
  have up : ∀ {α : Type} {t : Sem α} {Q Q' : α → Shared → Prop} {E : Value → Shared → Prop} {s : Shared}, wpAny (model P w) A t Q E s → (∀ x s', Q x s' → Q' x s') → wpAny (model P w) A t Q' E s := fun h k => wpAny_mono h k fun _ _ z => z
  refine wpAny_bind (wpAny_standAt (wpAny_bind (up (turn n s hI) fun r s1 k1 => ?_)))
  cases r with
  | none => exact wpAny_pure k1
  | some v =>
    refine wpAny_bind (up k1 fun _ s2 k2 => wpAny_bind (up k2 fun _ s3 k3 => wpAny_bind (up k3 fun good s4 k4 => ?_)))
    cases good with
    | false => exact wpAny_pure ⟨rfl, k4⟩
    | true =>
      refine wpAny_bind (up k4 fun z s5 k5 => wpAny_bind (wpAny_standAt (wpAny_bind (wpAny_of_eq (hz z) (wpAny_bind (wpAny_holding (up k5 fun it1 s6 k6 => ?_)))))))
      refine wpAny_bind (wpAny_runOwn ?_)
      rw [Around.mark_none]
      refine codeAny_mono k6 fun r s' hr => ?_
      cases r with
      | error x => exact hr.elim
      | ok y =>
        first
          | exact wpAny_pure ⟨rfl, hr⟩
          | exact wpAny_bind (wpAny_pure (wpAny_pure ⟨rfl, hr⟩))
theorem dcE_loop2 (I : Nat → Shared → Prop)
    (turn : ∀ n s, I n s → wpAny (model P w) A (pyNext it) (fun r s1 => match r with
      | none => R (.ok .next) s1
      | some v => wpAny (model P w) A (letOwnedTupleGo b it v) (fun _ s2 => wpAny (model P w) A (assign b env v) (fun _ s3 =>
          wpAny (model P w) A (tsR f1 env) (fun good s4 =>
            if good = true then wpAny (model P w) A (eval kx env) (fun z s5 => wpAny (model P w) A (eval vx env) (fun z2 s6 =>
              wpAny (model P w) A (dictSet D z z2) (fun _ s7 => ∃ m, m < n ∧ I m s7) (nbR P w A env R) s6) (nbR P w A env R) s5) (nbR P w A env R) s4
            else ∃ m, m < n ∧ I m s4) (nbR P w A env R) s3) (nbR P w A env R) s2) (nbR P w A env R) s1) (nbR P w A env R) s)
    (n : Nat) (h : I n s) : codeAny (model P w) A (.compLoop (DcE kx vx a xs b ys f0 f1 sc ps) 1 it (.ref D) env) R s := by
  refine codeAny_loop rfl I (fun n s hI => ?_) n h
  show wpAny _ A ((compTurn (DcE kx vx a xs b ys f0 f1 sc ps) 1 it (.ref D) env).onRaise (fun x => do noteFrame x env; theTreesLotGoes x)) _ _ s
  refine wpAny_noted ?_
  rw [dcE_two]
  have up : ∀ {α : Type} {t : Sem α} {Q Q' : α → Shared → Prop} {E : Value → Shared → Prop} {s : Shared}, wpAny (model P w) A t Q E s → (∀ x s', Q x s' → Q' x s') → wpAny (model P w) A t Q' E s := fun h k => wpAny_mono h k fun _ _ z => z
  refine wpAny_bind (wpAny_standAt (wpAny_bind (up (turn n s hI) fun r s1 k1 => ?_)))
  cases r with
  | none => exact wpAny_pure k1
  | some v =>
    refine wpAny_bind (up k1 fun _ s2 k2 => wpAny_bind (up k2 fun _ s3 k3 => wpAny_bind (up k3 fun good s4 k4 => ?_)))
    cases good with
    | false => exact wpAny_pure ⟨rfl, k4⟩
    | true => exact wpAny_bind (wpAny_bind (up k4 fun z s5 k5 => wpAny_bind (wpAny_holding (up k5 fun z2 s6 k6 => wpAny_bind (wpAny_standAt (wpAny_holding (up k6 fun _ s7 k7 => wpAny_pure ⟨rfl, k7⟩)))))))
theorem dcE_start2 (h0 : codeAny (model P w) A (.compLoop (DcE kx vx a xs b ys f0 f1 sc ps) 1 it acc env) R s)
    (h : wpAny (model P w) A (pyIter it) (fun it' s' => codeAny (model P w) A (.compLoop (DcE kx vx a xs b ys f0 f1 sc ps) 1 it' acc env) R s') (nbR P w A env R) s) :
    codeAny (model P w) A (.compStart (DcE kx vx a xs b ys f0 f1 sc ps) 1 it acc env) R s := by
  refine codeAny_of_tree ?_
  show wpAny _ _ ((compStart (DcE kx vx a xs b ys f0 f1 sc ps) 1 it acc env).onRaise (fun x => do noteFrame x env; standAt theWindowsPlace)) _ _ s
  refine wpAny_notedAt ?_
  unfold compStart
  show wpAny _ _ (ask >>= _) _ _ s
  refine wpAny_bind (wpAny_askSetting (wpAny_ite ?_))
  split
  · first
      | exact wpAny_bind (wpAny_pure (wpAny_pure (And.intro rfl h0)))
      | exact wpAny_pure (And.intro rfl h0)
  · first
      | exact wpAny_bind (wpAny_rule (wpAny_bind (wpAny_standAt (wpAny_bind (wpAny_mono h (fun it' s' h' => wpAny_pure (And.intro rfl h')) fun _ _ x => x)))))
      | (refine wpAny_bind (wpAny_rule ?_); show wpAny _ _ (standAt ys.pos >>= _) _ _ s; exact wpAny_bind (wpAny_standAt (wpAny_bind (wpAny_mono h (fun it' s' h' => wpAny_pure (And.intro rfl h')) fun _ _ x => x))))
end
section
variable {X : Cx}
/-- {k: v for .. in .. if .. for .. in .. if ..}, p the new dict -/
def tDcK2 (KK : PySem.W.Frag) (w : World) (wi : TI) (g : TG) (tt : TT) (wj : TI) (g1 : TG) (tt1 : TT) (tk tv : TE) (vs us : List Nat) : TE := fun σ H Q => wi σ H fun J H1 => ∀ p, H1 p = none → ∃ W : Nat → Nat → Hp → Prop, (∃ m, W 0 m (upd H1 p (NkO w p []))) ∧ ∀ i m H, W i m H →
  (J.stop i H ∧ Q (.ref p) H) ∨ (J.go i H ∧ ∃ Nx : Hp → Prop, (∀ H', Nx H' → ∃ m', m' < m ∧ W (i + 1) m' H') ∧ ∀ x H', J.yld i H x H' → g x (wipe σ vs) H' fun σ2 H2 => wipe σ2 vs = wipe σ vs ∧ tt σ2 H2 fun b H3 =>
    if b = true then wj σ2 H3 fun K H4 => ∃ V : Nat → Nat → Hp → Prop, (∃ m, V 0 m H4) ∧ ∀ j k H, V j k H →
      (K.stop j H ∧ Nx H) ∨ (K.go j H ∧ ∃ Nx1 : Hp → Prop, (∀ H', Nx1 H' → ∃ k', k' < k ∧ V (j + 1) k' H') ∧ ∀ x H', K.yld j H x H' → g1 x (wipe σ2 us) H' fun σ3 H5 => wipe σ3 us = wipe σ2 us ∧ tt1 σ3 H5 fun b H6 =>
        if b = true then tk σ3 H6 fun y H7 => tv σ3 H7 fun z H8 => ∃ (ka : Addr) (as : List (NestedKey × Addr × L2.V)) (k : NestedKey), y = .ref ka ∧ NkAt KK w H8 p as ∧ NkV KK H8 k (.ref ka) ∧ k.depth ≤ 8 ∧ as.length < 100000 ∧ Nx1 (upd H8 p (NkO w p (putA as k ka z))) else Nx1 H6)
    else Nx H3)
theorem pe_dcK2 {kx vx tg iter tj jter : Expr} {f0 f1 : List Expr} {scope : Scope} {own : List (PySem.Str × Nat)} {us : List Nat} {pos : Pos} {wi wj : TI} {g g1 : TG} {tt tt1 : TT} {tk tv : TE} (hu : X.A.units + 64 < cLine) (hc : X.calm = true) (hN : X.N.Nodup) (hi : PI X tg iter wi) (ok : BlkOk X.N X.env.scope scope own) (hv : ∀ i ∈ us, i ∈ own.map (·.2))
    (hg : ∀ (s : Shared) (H : Hp) (C : Addr) (cl : List (PySem.Str × Addr)) (fp : List Addr), PG (X.blk s H scope (compEnvC scope cl C X.env) fp) tg g) (ht : ∀ (s : Shared) (H : Hp) (C : Addr) (cl : List (PySem.Str × Addr)) (fp : List Addr), PTs (X.blk s H scope (compEnvC scope cl C X.env) fp) f0 tt)
    (hj : ∀ (s : Shared) (H : Hp) (C : Addr) (cl : List (PySem.Str × Addr)) (fp : List Addr), PI (X.blk s H scope (compEnvC scope cl C X.env) fp) tj jter wj)
    (hg1 : ∀ (s : Shared) (H : Hp) (C : Addr) (cl : List (PySem.Str × Addr)) (fp : List Addr), PG (X.blk s H scope (compEnvC scope cl C X.env) fp) tj g1) (ht1 : ∀ (s : Shared) (H : Hp) (C : Addr) (cl : List (PySem.Str × Addr)) (fp : List Addr), PTs (X.blk s H scope (compEnvC scope cl C X.env) fp) f1 tt1)
    (hk : ∀ (s : Shared) (H : Hp) (C : Addr) (cl : List (PySem.Str × Addr)) (fp : List Addr), PE (X.blk s H scope (compEnvC scope cl C X.env) fp) kx tk)
    (he : ∀ (s : Shared) (H : Hp) (C : Addr) (cl : List (PySem.Str × Addr)) (fp : List Addr), PE (X.blk s H scope (compEnvC scope cl C X.env) fp) vx tv) (hs : ∀ x, foldedSetIterable iter X.env x = pure x := by intro _; rfl) (hs1 : ∀ env x, foldedSetIterable jter env x = pure x := by intro _ _; rfl) :
    PE X (.DictComp kx vx [⟨tg, iter, f0, 0⟩, ⟨tj, jter, f1, 0⟩] scope pos) (tDcK2 X.K X.w wi g tt wj g1 tt1 tk tv (own.map (·.2)) us) := by
  refine ⟨fun pins s σ H Q I h => ?_⟩
  rw [arm_eval_DictComp]
  have hfree : ∀ y ∈ scope.names, y.2 = .free → ∃ c, X.env.cells.lookup y.1 = some c := fun y hy e => by
    rcases ok.free y hy e with k | k
    · exact I.ok.has _ (.inl k)
    · exact I.ok.has _ (.inr k)
  refine wpAny_comprehension_free (use := none) rfl hs (closure_ok hfree) ok.kind (fun y hy e => by rw [ok.uniq y hy, e])
    (thn (hi.run pins s σ H _ I h) fun xv s1 hx => thn hx fun itv s2 h2 => ?_)
  obtain ⟨it, fp, tn, J, H2, e0, I2, T, st2, f2, q⟩ := h2
  subst e0
  refine wpAny_newObj_type (newEnv_comp ?_)
  obtain ⟨W, ⟨m0, w0⟩, turn⟩ := q s2.heap.objs.size (I2.hok.fresh (Nat.le_refl _))
  -- with the new dict
  have pushed : ∀ {h : Heap} {b : Addr} {o u : Obj}, h.get? b = some o → (h.push u).get? b = some o := fun e => Heap.get?_push_of_some _ e
  have J1 : Inv X pins σ (upd H2 s2.heap.objs.size (NkO X.w s2.heap.objs.size [])) { s2 with heap := s2.heap.push { cls := .type "dict", data := .dict #[] } } :=
    I2.laid (t' := s2.toks) (fun b o e => pushed e) (Nat.le_refl _) (nk_new (us := []) (beq_eq_false_iff_ne.mpr (Ne.symm (Nat.ne_of_lt I2.big))) (Heap.DictOfH.new s2.heap) .nil)
  have small : ∀ b ∈ fp, b < s2.heap.objs.size := fun b hb => by
    obtain ⟨o, e, _⟩ := T.obj _ _ st2 b hb
    exact Heap.lt_size e
  revert w0 turn J1
  generalize e3 : s2.heap.objs.size = p
  intro turn w0 J1
  generalize hH3 : upd H2 p (NkO X.w p []) = H3 at w0 J1
  generalize hs3 : ({ s2 with heap := s2.heap.push { cls := .type "dict", data := .dict #[] } } : Shared) = s3 at J1
  have h3 : s3.heap = s2.heap.push { cls := .type "dict", data := .dict #[] } := by rw [← hs3]
  have f3 : ∀ b ∈ fp, FpOk X pins H3 b ∧ b < s3.heap.objs.size := fun b hb => by
    have hlt := small b hb
    refine ⟨⟨?_, (f2 b hb).2⟩, by rw [h3, Heap.size_push]; exact Nat.lt_succ_of_lt hlt⟩
    rw [← hH3, upd_ne (by rw [← e3]; exact Nat.ne_of_lt hlt)]
    exact (f2 b hb).1
  have st3 : tn 0 s3.heap := T.keep _ _ _ st2 fun b _ o e => by rw [h3]; exact pushed e
  have I4 := block_start J1 ok hN f3
  have pg := hg s3 H3 s3.heap.objs.size (cellsFrom (s3.heap.objs.size + 1) scope.names (cloFrom X.env.cells scope.names [])) fp
  have pt := ht s3 H3 s3.heap.objs.size (cellsFrom (s3.heap.objs.size + 1) scope.names (cloFrom X.env.cells scope.names [])) fp
  have pj := hj s3 H3 s3.heap.objs.size (cellsFrom (s3.heap.objs.size + 1) scope.names (cloFrom X.env.cells scope.names [])) fp
  have pg1 := hg1 s3 H3 s3.heap.objs.size (cellsFrom (s3.heap.objs.size + 1) scope.names (cloFrom X.env.cells scope.names [])) fp
  have pt1 := ht1 s3 H3 s3.heap.objs.size (cellsFrom (s3.heap.objs.size + 1) scope.names (cloFrom X.env.cells scope.names [])) fp
  have pk := hk s3 H3 s3.heap.objs.size (cellsFrom (s3.heap.objs.size + 1) scope.names (cloFrom X.env.cells scope.names [])) fp
  have pe := he s3 H3 s3.heap.objs.size (cellsFrom (s3.heap.objs.size + 1) scope.names (cloFrom X.env.cells scope.names [])) fp
  have el : ∀ (scp : Scope) (cs : List (PySem.Str × Addr)) (L : Addr) (ev : Env), (compEnvC scp cs L ev).locals = L := fun _ _ _ _ => rfl
  have goal : ∀ ce, compEnvC scope (cellsFrom (s3.heap.objs.size + 1) scope.names (cloFrom X.env.cells scope.names [])) s3.heap.objs.size X.env = ce →
      codeAny (model X.prog X.w) X.A (.compStart (DcE kx vx tg iter tj jter f0 f1 scope pos) 0 (.ref it) (.ref p) ce) (compPost (model X.prog X.w) X.A X.xe none (EP X pins σ Q) (.ref p) s3.heap.objs.size) { s3 with heap := pushCells (s3.heap.push { cls := .type "dict", data := .dict #[] }) scope.names } := by
    intro ce hce
    have cL : ce.locals = s3.heap.objs.size := by rw [← hce]; exact el _ _ _ _
    rw [hce] at I4 pg pt pj pg1 pt1 pk pe
    generalize hs4 : ({ s3 with heap := pushCells (s3.heap.push { cls := .type "dict", data := .dict #[] }) scope.names } : Shared) = s4 at I4 ⊢
    have st4 : tn 0 s4.heap := T.keep _ _ _ st3 fun b _ o e => by rw [← hs4]; exact pushCells_keeps _ _ _ _ (pushed e)
    have stat : ∀ {σ' : L2.St} {H' : Hp} {s' : Shared}, Inv (X.blk s3 H3 scope ce fp) [] σ' H' s' → (∀ b ∈ fp, H' b = none) → ∀ b ∈ fp, FpOk (X.blk s3 H3 scope ce fp) [] H' b := fun I' hn b hb =>
      ⟨hn b hb, (I'.ok.exf b hb).1, I'.ok.exfs b hb, .inl hb, fun x c e => (I'.ok.exf b hb).2 x c e, fun p hp => absurd (show p ∈ ([] : List (Addr × Obj)) ++ [] from hp) (by simp)⟩
    refine codeAny_compStart_dict ?loop (T.self X.A 0 _ _ _ st4 ?loop)
    refine dcE_loop1 (hs1 ce) (fun n s' => ∃ i H', Inv (X.blk s3 H3 scope ce fp) [] (wipe σ (own.map (·.2))) H' s' ∧ tn i s'.heap ∧ (∀ b ∈ fp, H' b = none) ∧ W i n H') ?_ m0 ⟨0, H3, I4, st4, fun b hb => (f3 b hb).1.1, w0⟩
    rintro n s5 ⟨i, H5, I5, st5, n5, w5⟩
    rcases turn i n H5 w5 with ⟨stop, qq⟩ | ⟨go, Nx, hNx, step⟩
    · refine thnF (T.done (X.blk s3 H3 scope ce fp) rfl rfl rfl hc i [] s5 _ H5 (fun _ _ => False) I5 (stat I5 n5) st5 stop) fun r s6 ⟨hr, I6⟩ => ?_
      subst hr
      have I7 : Inv X pins σ H5 s6 := J1.call' (ch := fp) I6.os I6.base I6.hok I6.bare fun b hb => ⟨(f3 b hb).1.2.2.2.1, (f3 b hb).1.2.1, (f3 b hb).1.2.2.2.2.1, (f3 b hb).1.2.2.2.2.2⟩
      have nC : H5 s3.heap.objs.size = none := cL ▸ (show H5 ce.locals = none from I6.free)
      obtain ⟨m, hn, _⟩ := I6.loc
      have hn : s6.heap.Ns s3.heap.objs.size m := cL ▸ (show s6.heap.Ns ce.locals m from hn)
      refine ⟨m, hn, fun h'' sb => ?_⟩
      obtain ⟨g0, g1, g2, g3, g4, g5⟩ := J1.fpOk (Nat.le_refl _) nC
      exact ⟨.ref p, H5, I7.turned (t' := s6.toks) (fun b o hb e => (sb.2 b hb).trans e) g0 g1 g3 g4 g5, rfl, qq⟩
    · refine thnF (T.item (X.blk s3 H3 scope ce fp) rfl rfl rfl hc i [] s5 _ H5 (fun _ _ => False) I5 (stat I5 n5) st5 go) fun r s6 ⟨u, hr, h6⟩ => ?_
      subst hr
      refine thnF h6 fun _ s7 ⟨x, H7, I7, r7, y7, st7, n7⟩ => ?_
      have I7' := I7.pinned (stat I7 n7) (T.obj _ _ st7)
      refine thnF (pg.run _ s7 _ H7 x u _ I7' r7 (step x H7 y7)) fun _ s8 ⟨σ8, H8, I8, hw8, q8⟩ => ?_
      refine thnF (pt.run _ s8 σ8 H8 _ I8 q8) fun b s9 ⟨H9, I9, q9⟩ => ?_
      -- the outer turn's end
      have next : ∀ {σ9 : L2.St} {s' : Shared} {H' : Hp}, Inv (X.blk s3 H3 scope ce fp) ([] ++ pinsAt fp s7.heap) σ9 H' s' → (wipe σ (own.map (·.2))).length = σ9.length → (∀ (j : Nat) v, (wipe σ (own.map (·.2)))[j]? = some (some v) → σ9[j]? = some (some v)) → Nx H' →
          ∃ m, m < n ∧ ∃ i H', Inv (X.blk s3 H3 scope ce fp) [] (wipe σ (own.map (·.2))) H' s' ∧ tn i s'.heap ∧ (∀ b ∈ fp, H' b = none) ∧ W i m H' := fun {σ9 s' H'} I' hl hk nx => by
        obtain ⟨m', hm, w'⟩ := hNx H' nx
        have pin : ∀ b ∈ fp, ∀ o, s7.heap.get? b = some o → s'.heap.get? b = some o ∧ H' b = none := fun b hb o e =>
          have z := I'.pin (b, o) (List.mem_append_right _ (List.mem_append_right _ (mem_pinsAt hb e)))
          ⟨z.1, z.2.1⟩
        refine ⟨m', hm, i + 1, H', (I'.unpinned (pins := [])).weak hl hk, T.keep _ _ _ st7 fun b hb o e => (pin b hb o e).1, fun b hb => ?_, w'⟩
        obtain ⟨o, e, _⟩ := T.obj _ _ st7 b hb
        exact (pin b hb o e).2
      have l8 : (wipe σ (own.map (·.2))).length = σ8.length := by rw [← hw8, wipe_length]
      have k8 : ∀ (j : Nat) v, (wipe σ (own.map (·.2)))[j]? = some (some v) → σ8[j]? = some (some v) ∧ j ∉ own.map (·.2) := fun j v e => wipe_some (hw8 ▸ e)
      cases b with
      | false => exact next I9 l8 (fun j v e => (k8 j v e).1) q9
      | true =>
        refine thnF (pj.run _ s9 σ8 H9 _ I9 q9) fun xv s10 hx => thnF hx fun itv s11 h11 => ?_
        obtain ⟨it1, fp1, tn1, K1, H11, e1, I11, T1, st11, f11, V, ⟨m1, w1⟩, turn1⟩ := h11
        subst e1
        have stat1 : ∀ {H' : Hp}, (∀ b ∈ fp1, H' b = none) → ∀ b ∈ fp1, FpOk (X.blk s3 H3 scope ce fp) ([] ++ pinsAt fp s7.heap) H' b := fun hn b hb => ⟨hn b hb, (f11 b hb).2⟩
        refine dcE_start2 ?inner (T1.self X.A 0 _ _ _ st11 ?inner)
        refine dcE_loop2 (fun k s' => ∃ j H', Inv (X.blk s3 H3 scope ce fp) ([] ++ pinsAt fp s7.heap) (wipe σ8 us) H' s' ∧ tn1 j s'.heap ∧ (∀ b ∈ fp1, H' b = none) ∧ V j k H') ?_ m1 ⟨0, H11, I11.weak (wipe_length _ _) (fun j v e => (wipe_some e).1), st11, fun b hb => (f11 b hb).1, w1⟩
        rintro k s12 ⟨j, H12, I12, st12, n12, w12⟩
        rcases turn1 j k H12 w12 with ⟨stop1, nx1⟩ | ⟨go1, Nx1, hNx1, step1⟩
        · refine thnF (T1.done (X.blk s3 H3 scope ce fp) rfl rfl rfl hc j _ s12 (wipe σ8 us) H12 (fun _ _ => False) I12 (stat1 n12) st12 stop1) fun r s13 ⟨hr, I13⟩ => ?_
          subst hr
          refine next I13 (l8.trans (wipe_length σ8 us).symm) (fun j v e => ?_) nx1
          obtain ⟨g1, g2⟩ := k8 j v e
          rw [wipe_out2 fun z => g2 (hv j z)]
          exact g1
        · refine thnF (T1.item (X.blk s3 H3 scope ce fp) rfl rfl rfl hc j _ s12 (wipe σ8 us) H12 (fun _ _ => False) I12 (stat1 n12) st12 go1) fun r s13 ⟨u1, hr, h13⟩ => ?_
          subst hr
          refine thnF h13 fun _ s14 ⟨x1, H14, I14, r14, y14, st14, n14⟩ => ?_
          have I14' := I14.pinned (stat1 n14) (T1.obj _ _ st14)
          refine thnF (pg1.run _ s14 (wipe σ8 us) H14 x1 u1 _ I14' r14 (step1 x1 H14 y14)) fun _ s15 ⟨σ15, H15, I15, hw15, q15⟩ => ?_
          refine thnF (pt1.run _ s15 σ15 H15 _ I15 q15) fun b1 s16 ⟨H16, I16, q16⟩ => ?_
          have next1 : ∀ {s' : Shared} {H' : Hp}, Inv (X.blk s3 H3 scope ce fp) (([] ++ pinsAt fp s7.heap) ++ pinsAt fp1 s14.heap) σ15 H' s' → Nx1 H' → ∃ m, m < k ∧ ∃ j H', Inv (X.blk s3 H3 scope ce fp) ([] ++ pinsAt fp s7.heap) (wipe σ8 us) H' s' ∧ tn1 j s'.heap ∧ (∀ b ∈ fp1, H' b = none) ∧ V j m H' := fun {s' H'} I' nx => by
            obtain ⟨m', hm, w'⟩ := hNx1 H' nx
            have pin : ∀ b ∈ fp1, ∀ o, s14.heap.get? b = some o → s'.heap.get? b = some o ∧ H' b = none := fun b hb o e =>
              have z := I'.pin (b, o) (List.mem_append_right _ (List.mem_append_right _ (mem_pinsAt hb e)))
              ⟨z.1, z.2.1⟩
            refine ⟨m', hm, j + 1, H', I'.unpinned.weak (by rw [← hw15, wipe_length]) (fun j v e => (wipe_some (hw15 ▸ e)).1), T1.keep _ _ _ st14 fun b hb o e => (pin b hb o e).1, fun b hb => ?_, w'⟩
            obtain ⟨o, e, _⟩ := T1.obj _ _ st14 b hb
            exact (pin b hb o e).2
          cases b1 with
          | false => exact next1 I16 q16
          | true =>
            refine thnF (pk.run _ s16 σ15 H16 _ I16 q16) fun z s17 ⟨yk, H17, I17, r17, q17⟩ => ?_
            refine thnF (pe.run _ s17 σ15 H17 _ I17 q17) fun z2 s18 ⟨yv, H18, I18, r18, ka, as, kk, ek, hn, hkk, hd, hz, nx⟩ => ?_
            subst ek
            obtain rfl : z = Value.ref ka := r17
            exact d_setN (X := X.blk s3 H3 scope ce fp) hu I18 hn hkk hd hz r18 fun s19 I19 => next1 I19 nx
  exact goal _ rfl
end
end N
set_option Elab.async false
set_option linter.all false
set_option maxRecDepth 100000
set_option maxHeartbeats 1000000
namespace XK
open PySem PySem.W PySem.Calls PyProof.Rows PyProof.V PySem.Spec
section
variable {prog : Program} {w : World} {K : Type} [DecidableEq K] {knd : HeapKind prog w K} {A : Around} {E : Value → Shared → Prop} {s : Shared}
/-- == of two values, in this program -/
def EqW (prog : Program) (w : World) (A : Around) (s : Shared) (x y : Value) (b : Bool) : Prop := ∀ (E : Value → Shared → Prop) (Q : Bool → Shared → Prop), Q b s → wpAny (model prog w) A (eqBool x y) Q E s
theorem EqW.of {x y : Value} {b : Bool} (h : SeqAt.EqAt A s x y b) : EqW prog w A s x y b := fun E Q => h prog w E Q
/-- what the walk over the left one finds in the right one -/
inductive Kq (prog : Program) (w : World) (A : Around) (s : Shared) (kb : List (K × Addr × Value)) : List (K × Addr × Value) → Bool → Prop
  | nil : Kq prog w A s kb [] true
  | miss {x : K × Addr × Value} {r : List (K × Addr × Value)} : atKey kb x.1 = none → Kq prog w A s kb (x :: r) false
  | hit {x : K × Addr × Value} {r : List (K × Addr × Value)} {y : Addr × Value} {e b : Bool} : atKey kb x.1 = some y → EqW prog w A s x.2.2 y.2 e → Kq prog w A s kb r b → Kq prog w A s kb (x :: r) (e && b)
theorem same_heap {nm : String} {a b : Addr} {ka kb : List (K × Addr × Value)} {r : Bool} {Q : Bool → Shared → Prop} (hu : knd.room A) (ha : (a == sysModules) = false) (hb : (b == sysModules) = false)
    (da : s.heap.DictOfH knd a ka) (db : s.heap.DictOfH knd b kb) (kq : ka.length = kb.length → Kq prog w A s kb ka r) (h : Q (ka.length == kb.length && r) s) : wpAny (model prog w) A (Builtin.Dict.samePairs nm a b) Q E s := by
  obtain ⟨oa, ea, pa, ga, _, xa, la, ia, na⟩ := da
  obtain ⟨ob, eb, pb, gb, _, xb, lb, ib, nb⟩ := db
  have za := size_of_entries la
  have zb := size_of_entries lb
  rw [← za, ← zb] at h kq
  unfold Builtin.Dict.samePairs Builtin.Dict.showsAll
  rw [if_neg (by rw [ha]; decide), if_neg (by rw [hb]; decide)]
  refine wpAny_bind (wpAny_pure (wpAny_bind (wpAny_pure (wpAny_bind (wpAny_dictEntries ga xa ?_)))))
  show wpAny _ _ (dictEntries b >>= _) _ _ s
  refine wpAny_bind (wpAny_dictEntries gb xb ?_)
  by_cases hz : ea.size = eb.size
  · have hq : Q r s := by simpa [hz] using h
    have kq := kq hz
    rw [if_neg (by rw [hz]; simp)]
    refine wpAny_bind (wpAny_dictEpoch ga xa (wpAny_bind ?_))
    rw [Std.Legacy.Range.forIn_eq_forIn_range']
    simp only [Std.Legacy.Range.size, Nat.sub_zero, Nat.add_sub_cancel, Nat.div_one]
    refine wpAny_forIn_list _ (fun rest q s' => s' = s ∧ q = (none, ()) ∧ ∃ i, rest = List.range' i (ea.size - i) ∧ i ≤ ea.size ∧ Kq prog w A s kb (ka.drop i) r) _ ?_ ?_ _ _ ⟨rfl, rfl, 0, by simp, Nat.zero_le _, kq⟩
    · rintro x rest q s' ⟨rfl, rfl, i, hr, hi, hk⟩
      have hl : i < ea.size := (Nat.lt_or_ge i ea.size).elim id fun h => by rw [Nat.sub_eq_zero_of_le h] at hr; cases hr
      have e1 : ea.size - i = ea.size - (i + 1) + 1 := by omega
      rw [e1, List.range'_succ] at hr
      obtain ⟨rfl, hrest⟩ := List.cons.inj hr
      have hl2 : x < ka.length := by omega
      have hd := List.drop_eq_getElem_cons hl2
      have hee : ea[x]? = some (entryOfKey knd ka[x]) := by rw [entry_at la, List.getElem?_eq_getElem hl2]; rfl
      refine wpAny_bind (wpAny_dictEntries ga xa ?_)
      rw [hee]
      rw [hd] at hk
      dsimp only
      have hkey : knd.is s'.heap ka[x].1 ka[x].2.1 := ia _ (List.getElem_mem hl2)
      generalize ka[x] = z at hk hkey
      obtain ⟨k, c, v⟩ := z
      show wpAny _ _ (holding [.ref c, v] _ >>= _) _ _ _
      refine wpAny_bind (wpAny_holding (wpAny_bind (wpAny_dictFind_heap hu hkey gb xb lb ib nb ?_ ?_)))
      · intro hno
        have hn := atKey_none_of_get hno
        cases hk with
        | miss _ => exact wpAny_pure (by show wpAny _ _ (if (!false) = true then _ else _) _ _ _; rw [if_pos (by decide)]; exact wpAny_pure (wpAny_pure hq))
        | hit hy _ _ => exact absurd (hy.symm.trans hn) (by simp)
      · intro j p hj
        have hp := atKey_of_get nb hj
        refine wpAny_bind (wpAny_dictEntries gb xb ?_)
        rw [entry_at lb, hj]
        cases hk with
        | miss hm => exact absurd (hm.symm.trans hp) (by simp)
        | @hit _ _ y e b' hy he hr2 =>
          obtain rfl : y = p := Option.some.inj (hy.symm.trans hp)
          refine wpAny_holding (he _ _ ?_)
          cases e with
          | false =>
            show wpAny _ _ (if (!false) = true then _ else _) _ _ _
            rw [if_pos (by decide)]
            exact wpAny_pure (wpAny_pure (by simpa using hq))
          | true =>
            show wpAny _ _ (if (!true) = true then _ else _) _ _ _
            rw [if_neg (by decide)]
            refine wpAny_bind (wpAny_dictEpoch ga xa ?_)
            rw [if_neg (by simp)]
            exact wpAny_pure ⟨rfl, rfl, x + 1, hrest, hl, by simpa using hr2⟩
    · rintro q s' ⟨rfl, rfl, i, hr, hi, hk⟩
      obtain rfl : i = ea.size := by
        rcases Nat.lt_or_ge i ea.size with h | h
        · rw [show ea.size - i = ea.size - (i + 1) + 1 from by omega, List.range'_succ] at hr
          cases hr
        · omega
      rw [za, List.drop_length] at hk
      cases hk
      exact wpAny_pure hq
  · have hf : (ea.size == eb.size) = false := by simpa using hz
    rw [if_pos (by simpa using hz)]
    rw [hf, Bool.false_and] at h
    exact wpAny_bind (wpAny_rule (wpAny_pure h))
theorem ne_heap {a b : Addr} {ka kb : List (K × Addr × Value)} {r : Bool} {Q : Value → Shared → Prop} (hc : A.units < cLine) (hu : knd.room A.in1) (ha : (a == sysModules) = false) (hb : (b == sysModules) = false)
    (da : s.heap.DictOfH knd a ka) (db : s.heap.DictOfH knd b kb) (kq : ka.length = kb.length → Kq prog w A.in1 s kb ka r) (h : Q (.bool (!(ka.length == kb.length && r))) s) : wpAny (model prog w) A (compareOp .NotEq (.ref a) (.ref b)) Q E s := by
  have ta := da.typeIs
  have tb := db.typeIs
  refine wpAny_richCompare_same_room (op := .NotEq) ta tb PySem.F.slot_dict_ne (wpAny_call_entry PySem.F.slot_dict_ne ta PySem.F.entry_dict_ne ?_ (PySem.F.args_dict_ne_2 _ _)) hc
  show wpAny _ _ (Builtin.Dict.dictSlotArgs "__ne__" ⟨[.ref a, .ref b], []⟩ >>= _) _ _ s
  unfold Builtin.Dict.dictSlotArgs
  refine wpAny_bind (wpAny_bind (wpAny_notOrdered_dict ta (wpAny_pure ?_)))
  refine wpAny_bind (wpAny_isInstance (T := "dict") tb PySem.F.sub_dict_dict ?_)
  simp only [Bool.not_true, Bool.false_eq_true, if_false]
  refine wpAny_bind (wpAny_pure (wpAny_bind (wpAny_pure (wpAny_bind (same_heap hu ha hb da db kq (wpAny_pure ⟨_, rfl, ?_, ?_⟩))))))
  · exact fun x => by cases x
  · simpa using h
theorem EqW.self (v : Value) : EqW prog w A s v v true := .of (SeqAt.EqAt.same v)
theorem EqW.refs {x y : Addr} {b : Bool} (hne : x ≠ y) (h : ∀ (E : Value → Shared → Prop) (Q : Value → Shared → Prop), Q (.bool b) s → wpAny (model prog w) A (richCompare .Eq (.ref x) (.ref y)) Q E s) : EqW prog w A s (.ref x) (.ref y) b := fun E Q q => by
  unfold eqBool
  refine wpAny_holding (wpAny_ite_split (fun e => ?_) fun _ => ?_)
  · exact absurd (Value.ref.inj (eq_of_beq e)) hne
  · show wpAny _ _ (richCompare .Eq (.ref x) (.ref y) >>= _) _ _ _
    exact wpAny_bind (h E _ (wpAny_truthy_bool q))
theorem EqW.dicts {K' : Type} [DecidableEq K'] {kk : KeyKind prog w K'} {x y : Addr} {kx ky : List (K' × Value)} {r : Bool} (hne : x ≠ y) (hc : A.units < cLine) (hx : (x == sysModules) = false) (hy : (y == sysModules) = false)
    (dx : s.heap.DictOf kk x kx) (dy : s.heap.DictOf kk y ky) (hits : kx.length = ky.length → KeqHits A.in1 s ky kx r) : EqW prog w A s (.ref x) (.ref y) (kx.length == ky.length && r) := .refs hne fun E Q q => keq_eq hx hy dx dy hc hits q
end
end XK
set_option Elab.async false
set_option linter.all false
set_option maxRecDepth 100000
set_option maxHeartbeats 1000000
namespace N
open PySem PySem.Spec PyProof.Rows L2
open XK
/-- what is known of == of two values -/
abbrev EqvT := Hp → V → V → Bool → Prop
def EqvOk (X : Cx) (EV : EqvT) : Prop := ∀ (pins : List (Addr × Obj)) (s : Shared) (σ : L2.St) (H : Hp) (x y : V) (b : Bool) (v u : Value), L2.Inv X pins σ H s → EV H x y b → RelV x v → RelV y u → EqW X.prog X.w X.A.in1 s v u b
inductive KqV (EV : EqvT) (H : Hp) (bs : List (NestedKey × Addr × V)) : List (NestedKey × Addr × V) → Bool → Prop
  | nil : KqV EV H bs [] true
  | miss {x : NestedKey × Addr × V} {r : List (NestedKey × Addr × V)} : getA bs x.1 = none → KqV EV H bs (x :: r) false
  | hit {x : NestedKey × Addr × V} {r : List (NestedKey × Addr × V)} {y : V} {e b : Bool} : getA bs x.1 = some y → EV H x.2.2 y e → KqV EV H bs r b → KqV EV H bs (x :: r) (e && b)
section
variable {X : Cx} {pins : List (Addr × Obj)} {σ : L2.St} {H : Hp} {s : Shared} {EV : EqvT}
theorem KqV.kq (I : L2.Inv X pins σ H s) (ok : EqvOk X EV) {bs : List (NestedKey × Addr × V)} {ws : List (NestedKey × Addr × Value)} (hb : NkPd bs ws) : ∀ {as : List (NestedKey × Addr × V)} {us : List (NestedKey × Addr × Value)} {r : Bool}, NkPd as us → KqV EV H bs as r → Kq X.prog X.w X.A.in1 s ws us r
  | [], _, _, h, k => by
    cases h
    cases k
    exact .nil
  | x :: as, _, _, h, k => by
    cases h with
    | cons h1 h2 =>
      rename_i u us
      obtain ⟨e1, e2, e3⟩ := h1
      rcases NkPd.get (k := x.1) hb with ⟨g1, g2⟩ | ⟨q, v, g1, g2, rv⟩
      · cases k with
        | miss _ => exact .miss (by rw [← e1]; exact g1)
        | hit hy _ _ => exact absurd (hy.symm.trans g2) (by simp)
      · cases k with
        | miss hm => exact absurd (hm.symm.trans g2) (by simp)
        | @hit _ _ y e b hy he hr =>
          obtain rfl : y = v := Option.some.inj (hy.symm.trans g2)
          exact .hit (by rw [← e1]; exact g1) (ok pins s σ H _ _ _ _ _ I he e3 rv) (KqV.kq I ok hb h2 hr)
theorem NkPd.len {as : List (NestedKey × Addr × V)} {us : List (NestedKey × Addr × Value)} (h : NkPd as us) : us.length = as.length := by
  have := congrArg List.length (NkPd.keys h)
  simpa using this
end
end N
set_option Elab.async false
set_option linter.all false
set_option maxRecDepth 100000
set_option maxHeartbeats 4000000
namespace N
open PySem PySem.Spec PyProof.Rows L2
section
variable {F : FmKit} {T : Kx} {C H H' O O' : Hp} {G : Gm} {W W' : Om} {R : D → Om → Prop} {d : D} {w : World} {p a : Addr} {ta tb te : TE} {od : OD}
mutual
theorem den_key : ∀ (d : D) (v : V) (k : NestedKey), Den F T H d v → nkOf d = some k → NkV T.K H k v
  | .vl x, v, k, h, e => by
    have h : v = x := h
    subst h
    cases v <;> simp only [nkOf] at e <;> first | (cases e; done) | skip
    · cases e; exact rfl
    · cases e; exact .inr ⟨_, rfl, rfl⟩
    · cases e; exact .inl rfl
    · cases e; exact rfl
  | .tup l, v, k, ⟨a, xs, e1, hs, hl⟩, e => by
    simp only [nkOf] at e
    obtain ⟨ks, e2, rfl⟩ := Option.map_eq_some_iff.mp e
    exact ⟨a, xs, e1, hs, den_keyL l xs ks hl e2⟩
  | .lst _, _, _, _, e => by simp only [nkOf] at e; cases e
  | .dct _ _, _, _, _, e => by simp only [nkOf] at e; cases e
  | .obj _ _ _, _, _, _, e => by simp only [nkOf] at e; cases e
  | .fm _, _, _, _, e => by simp only [nkOf] at e; cases e
  | .scr _, _, _, _, e => by simp only [nkOf] at e; cases e
  | .kdd _ _ _, _, _, _, e => by simp only [nkOf] at e; cases e
  | .dcz _ _, _, _, _, e => by simp only [nkOf] at e; cases e
  | .tupz _, _, _, _, e => by simp only [nkOf] at e; cases e
theorem den_keyL : ∀ (l : List D) (vs : List V) (ks : List NestedKey), DenL F T H l vs → nkOfL l = some ks → NkL T.K H ks vs
  | [], vs, ks, h, e => by
    simp only [nkOfL] at e
    cases e
    exact h
  | d :: l, vs, ks, ⟨v, r, e1, h1, h2⟩, e => by
    simp only [nkOfL] at e
    cases hk : nkOf d with
    | none => rw [hk] at e; cases e
    | some k =>
      cases hr : nkOfL l with
      | none => rw [hk, hr] at e; cases e
      | some kr =>
        rw [hk, hr] at e
        cases e
        exact ⟨v, r, e1, den_key d v k h1 hk, den_keyL l r kr h2 hr⟩
end
/-- a datum that is a key at an address -/
def Kyd (d : D) (k : NestedKey) : Prop := nkOf d = some k ∧ (∃ l, d = .tup l) ∧ k.depth ≤ 8
theorem Kyd.at {k : NestedKey} {v : V} (h : Kyd d k) (hd : Den F T H d v) : ∃ a, v = .ref a ∧ NkV T.K H k (.ref a) := by
  obtain ⟨e, ⟨l, rfl⟩, _⟩ := h
  have z := den_key _ _ _ hd e
  obtain ⟨a, xs, e1, _⟩ := id hd
  subst e1
  exact ⟨a, rfl, z⟩
/-- what stands at a key -/
def getQ (ps : List (D × D)) (k : NestedKey) : Option D := (ps.find? fun z => decide (nkOf z.1 = some k)).map (·.2)
theorem getQ_cons (z : D × D) (ps : List (D × D)) (k : NestedKey) : getQ (z :: ps) k = if nkOf z.1 = some k then some z.2 else getQ ps k := by
  unfold getQ
  rw [List.find?_cons]
  by_cases h : nkOf z.1 = some k
  · rw [decide_eq_true h, if_pos h]
    rfl
  · rw [decide_eq_false h, if_neg h]
theorem getQ_den {k : NestedKey} : ∀ {ps : List (D × D)} {as : List (NestedKey × Addr × V)}, (as.map fun z => some z.1) = ps.map (fun z => nkOf z.1) → DenL F T H (ps.map (·.2)) (as.map (·.2.2)) →
    (getA as k = none ∧ getQ ps k = none) ∨ ∃ v z, getA as k = some v ∧ getQ ps k = some z ∧ Den F T H z v
  | [], [], _, _ => .inl ⟨rfl, rfl⟩
  | [], a :: as, h, _ => by simp at h
  | z :: ps, [], h, _ => by simp at h
  | z :: ps, a :: as, h, h2 => by
    rw [List.map_cons, List.map_cons] at h h2
    obtain ⟨e1, e2⟩ := List.cons.inj h
    obtain ⟨v, r, e, d1, d2⟩ := h2
    obtain ⟨rfl, rfl⟩ := List.cons.inj e
    rw [getQ_cons, getA_cons, ← e1]
    by_cases hk : a.1 = k
    · rw [if_pos hk, if_pos (by rw [hk])]
      exact .inr ⟨_, _, rfl, rfl, d1⟩
    · rw [if_neg hk, if_neg fun q => hk (Option.some.inj q)]
      exact getQ_den e2 d2
/-- a dict there, owned or pinned -/
def Qd (w : World) (W : Om) (d : D) (ps : List (D × D)) : Prop := (∃ p, d = .adr p ∧ (p, OD.kd w p ps) ∈ W) ∨ d = .kdd w (ps.map (·.1)) (ps.map (·.2))
theorem Qd.rd {x : V} {ps : List (D × D)} (h : Qd w W d ps) (di : Dis O H) (ow : Ow F T H C O W) (k : Den F T H d x) : ∃ p as, x = .ref p ∧ NkRd T.K w (ov O H) p as ∧ (as.map fun z => some z.1) = ps.map (fun z => nkOf z.1) ∧ DenL F T H (ps.map (·.1)) (as.map fun z => .ref z.2.1) ∧ DenL F T H (ps.map (·.2)) (as.map (·.2.2)) := by
  rcases h with ⟨p, rfl, hm⟩ | rfl
  · have k : x = .ref p := k
    obtain ⟨_, as, h1, h2, h3, h4, h5, h6⟩ := ow.at_ p _ hm
    exact ⟨p, as, k, ⟨.inl (ov_own h1), fun z hz => ⟨NkV.mono di.same _ _ (h4 z hz).1, (h4 z hz).2⟩, h3⟩, h2, h5, h6⟩
  · obtain ⟨p, o, as, e, h1, h2, h3, h4, h5, h6⟩ := k
    refine ⟨p, as, e, ⟨.inr ⟨o, di.same _ _ h1⟩, fun z hz => ⟨NkV.mono di.same _ _ (h4 z hz).1, (h4 z hz).2⟩, h3⟩, ?_, h5, h6⟩
    rw [h2, List.map_map]
    rfl
theorem alen {ps : List (D × D)} {as : List (NestedKey × Addr × V)} (h : (as.map fun z => some z.1) = ps.map (fun z => nkOf z.1)) : as.length = ps.length := by
  have := congrArg List.length h
  rwa [List.length_map, List.length_map] at this
theorem ev_getK (h : Ev F T ta G W fun d W1 => Ev F T tb G W1 fun y W2 => ∃ ps k z, Qd w W2 d ps ∧ Kyd y k ∧ getQ ps k = some z ∧ R z W2) : Ev F T (tGetK T.K w ta tb) G W R := fun C H O σ w0 Q q =>
  h C H O σ w0 _ fun d W1 H1 O1 x h1 n1 k1 => h1 C H1 O1 σ (w0.step n1) _ fun y W2 H2 O2 yv ⟨ps, k, z, hq, hy, hg, r⟩ n2 k2 => by
    obtain ⟨p, as, e, g1, g2, g3, g4⟩ := hq.rd n2.dis n2.own (k1.mono n2.ext)
    obtain ⟨a, ea, ka⟩ := hy.at k2
    rcases getQ_den (k := k) g2 g4 with ⟨e1, e2⟩ | ⟨v, z', e1, e2, kz⟩
    · rw [e2] at hg
      cases hg
    · rw [e2] at hg
      cases hg
      exact ⟨a, p, as, k, v, e, ea, g1, NkV.mono n2.dis.same _ _ ka, hy.2.2, e1, q z W2 H2 O2 v r (n1.trans n2) kz⟩
/-- gone through, pinned -/
theorem ei_keysN {td : TE} {Z : List D → Om → Prop} (h : Ev F T td G W fun d W1 => ∃ ks l, d = .kdd w ks l ∧ Z ks W1) : EvI F T (iKeysN w td) G W Z := fun C H O σ w0 Q q =>
  h C H O σ w0 _ fun d W1 H1 O1 x ⟨ks, l, e, z⟩ n k => by
    subst e
    obtain ⟨p, o, as, e, h1, h2, h3, h4, h5, h6⟩ := k
    have hlen : as.length = ks.length := by
      have := congrArg List.length h2
      rwa [List.length_map, List.length_map] at this
    refine ⟨p, o, as, e, n.dis.same _ _ h1, q _ ks W1 H1 O1 z n fun i H2 O2 e2 d2 => ?_⟩
    have f1 : ov O2 H2 p = some (.frz o (NkO w p as)) := d2.same _ _ (e2 _ _ h1)
    refine ⟨fun d hd => ⟨⟨f1, by have := (List.getElem?_eq_some_iff.mp hd).1; omega⟩, fun x X ⟨eX, z, hz, ex⟩ => ⟨H2, Same.refl _, d2, eX, ?_⟩⟩, fun e => ⟨f1, by omega⟩⟩
    subst ex
    obtain ⟨v, hv, kv⟩ := h5.get (i := i) (d := d) hd
    rw [List.getElem?_map, hz] at hv
    cases hv
    exact kv.mono e2
end
end N
set_option Elab.async false
set_option linter.all false
set_option maxRecDepth 100000
set_option maxHeartbeats 4000000
namespace N
open PySem PySem.Spec PyProof.Rows L2
section
variable {F : FmKit} {T : Kx} {C H H' O O' : Hp} {G : Gm} {W W' W1 W2 : Om} {R : D → Om → Prop} {d : D} {w : World} {p a : Addr} {td ty tv ta tb te : TE} {od : OD} {vs us : List Nat}
/-- a value stored at a key -/
def putQ (ps : List (D × D)) (y : D) (z : D) : List (D × D) := if (ps.any fun u => decide (nkOf u.1 = nkOf y)) = true then ps.map (fun u => if nkOf u.1 = nkOf y then (u.1, z) else u) else ps ++ [(y, z)]
theorem any_get {ps : List (D × D)} {k : NestedKey} : (ps.any fun u => decide (nkOf u.1 = some k)) = (getQ ps k).isSome := by
  induction ps with
  | nil => rfl
  | cons u ps ih =>
    rw [List.any_cons, getQ_cons, ih]
    by_cases h : nkOf u.1 = some k
    · rw [decide_eq_true h, if_pos h]
      rfl
    · rw [decide_eq_false h, if_neg h]
      rfl
theorem denL_put {k : NestedKey} {z : D} {v : V} (kz : Den F T H z v) : ∀ {ps : List (D × D)} {as : List (NestedKey × Addr × V)}, (as.map fun z => some z.1) = ps.map (fun z => nkOf z.1) → DenL F T H (ps.map (·.2)) (as.map (·.2.2)) →
    DenL F T H ((ps.map fun u => if nkOf u.1 = some k then (u.1, z) else u).map (·.2)) ((as.map fun z => if z.1 = k then (z.1, z.2.1, v) else z).map (·.2.2))
  | [], [], _, _ => rfl
  | [], a :: as, h, _ => by simp at h
  | z :: ps, [], h, _ => by simp at h
  | u :: ps, a :: as, h, h2 => by
    rw [List.map_cons, List.map_cons] at h h2
    obtain ⟨e1, e2⟩ := List.cons.inj h
    obtain ⟨v', r, e, d1, d2⟩ := h2
    obtain ⟨rfl, rfl⟩ := List.cons.inj e
    have ih := denL_put (k := k) kz e2 d2
    by_cases hk : a.1 = k
    · refine ⟨v, _, ?_, ?_, ih⟩
      · rw [List.map_cons, List.map_cons, if_pos hk]
      · show Den F T H (if nkOf u.1 = some k then (u.1, z) else u).2 v
        rw [if_pos (by rw [← e1, hk])]
        exact kz
    · refine ⟨a.2.2, _, ?_, ?_, ih⟩
      · rw [List.map_cons, List.map_cons, if_neg hk]
      · show Den F T H (if nkOf u.1 = some k then (u.1, z) else u).2 a.2.2
        rw [if_neg fun q => hk (Option.some.inj (e1.trans q))]
        exact d1
/-- the dict's cell behind a store -/
theorem put_od {k : NestedKey} {y z : D} {ka : Addr} {v : V} {ps : List (D × D)} {as : List (NestedKey × Addr × V)} (hy : Kyd y k) (ky : Den F T H y (.ref ka)) (kk : NkV T.K H k (.ref ka)) (kz : Den F T H z v)
    (h2 : (as.map fun z => some z.1) = ps.map (fun z => nkOf z.1)) (h3 : (as.map (·.1)).Nodup) (h4 : ∀ z ∈ as, NkV T.K H z.1 (.ref z.2.1) ∧ z.1.depth ≤ 8) (h5 : DenL F T H (ps.map (·.1)) (as.map fun z => .ref z.2.1)) (h6 : DenL F T H (ps.map (·.2)) (as.map (·.2.2))) :
    OdAt F T H (some (NkO w p (putA as k ka v))) (.kd w p (putQ ps y z)) := by
  refine ⟨putA as k ka v, rfl, ?_⟩
  have hs : (getA as k).isSome = (getQ ps k).isSome := by
    rcases getQ_den (k := k) h2 h6 with ⟨e1, e2⟩ | ⟨v', z', e1, e2, _⟩ <;> rw [e1, e2] <;> rfl
  have hany : (ps.any fun u => decide (nkOf u.1 = nkOf y)) = (getA as k).isSome := by rw [hy.1, any_get, hs]
  unfold putQ putA
  rw [hany, hy.1]
  cases hg : (getA as k).isSome with
  | true =>
    rw [if_pos rfl, if_pos rfl]
    have e1 : (as.map fun z => if z.1 = k then (z.1, z.2.1, v) else z).map (fun z => some z.1) = as.map fun z => some z.1 := by
      rw [List.map_map]
      refine List.map_congr_left fun z _ => ?_
      show some (if z.1 = k then (z.1, z.2.1, v) else z).1 = some z.1
      split <;> rfl
    have e2 : (ps.map fun u => if nkOf u.1 = some k then (u.1, z) else u).map (fun z => nkOf z.1) = ps.map fun z => nkOf z.1 := by
      rw [List.map_map]
      refine List.map_congr_left fun u _ => ?_
      show nkOf (if nkOf u.1 = some k then (u.1, z) else u).1 = nkOf u.1
      split <;> rfl
    have e3 : (as.map fun z => if z.1 = k then (z.1, z.2.1, v) else z).map (·.1) = as.map (·.1) := by
      rw [List.map_map]
      refine List.map_congr_left fun z _ => ?_
      show (if z.1 = k then (z.1, z.2.1, v) else z).1 = z.1
      split <;> rfl
    have e4 : (ps.map fun u => if nkOf u.1 = some k then (u.1, z) else u).map (·.1) = ps.map (·.1) := by
      rw [List.map_map]
      refine List.map_congr_left fun u _ => ?_
      show (if nkOf u.1 = some k then (u.1, z) else u).1 = u.1
      split <;> rfl
    have e5 : (as.map fun z => if z.1 = k then (z.1, z.2.1, v) else z).map (fun z => V.ref z.2.1) = as.map fun z => V.ref z.2.1 := by
      rw [List.map_map]
      refine List.map_congr_left fun z _ => ?_
      show V.ref (if z.1 = k then (z.1, z.2.1, v) else z).2.1 = V.ref z.2.1
      split <;> rfl
    refine ⟨by rw [e1, e2, h2], by rw [e3]; exact h3, fun u hu => ?_, by rw [e4, e5]; exact h5, denL_put kz h2 h6⟩
    obtain ⟨u0, hu0, rfl⟩ := List.mem_map.mp hu
    have := h4 u0 hu0
    split
    · exact this
    · exact this
  | false =>
    rw [if_neg (by decide), if_neg (by decide)]
    have hn : ∀ q ∈ as.map (·.1), q ≠ k := fun q hq e => by
      subst e
      obtain ⟨u, hu, eu⟩ := List.mem_map.mp hq
      have hf : (as.find? fun z => decide (z.1 = q)).isSome := List.find?_isSome.mpr ⟨u, hu, decide_eq_true eu⟩
      have hg' := hg
      unfold getA at hg'
      rw [Option.isSome_map] at hg'
      rw [hf] at hg'
      cases hg'
    refine ⟨by rw [List.map_append, List.map_append, h2]; show _ ++ [some k] = _ ++ [nkOf y]; rw [hy.1], ?_, fun u hu => ?_, ?_, ?_⟩
    · rw [List.map_append]
      refine List.nodup_append.mpr ⟨h3, by simp, fun q hq q2 hq2 => ?_⟩
      rw [List.map_cons, List.map_nil, List.mem_singleton] at hq2
      exact hq2 ▸ hn q hq
    · rcases List.mem_append.mp hu with hu | hu
      · exact h4 u hu
      · rw [List.mem_singleton] at hu
        subst hu
        exact ⟨kk, hy.2.2⟩
    · rw [List.map_append, List.map_append]
      exact h5.app (.one ky)
    · rw [List.map_append, List.map_append]
      exact h6.app (.one kz)
/-- pinned for good -/
theorem ev_frzK (h : Ev F T te G W fun d W1 => ∃ p ps W2, d = .adr p ∧ W1 = (p, .kd w p ps) :: W2 ∧ R (.kdd w (ps.map (·.1)) (ps.map (·.2))) W2) : Ev F T (tFrz te) G W R := fun C H O σ w0 Q q =>
  h C H O σ w0 _ fun d W1 H1 O1 x ⟨p, ps, W2, ed, eW, r⟩ n k => by
    subst ed eW
    have k : x = .ref p := k
    obtain ⟨_, as, e1, e2, e3, e4, e5, e6⟩ := n.own.at_ p _ List.mem_cons_self
    refine ⟨p, NkO w p as, k, ov_own e1, trivial, fun od => ?_⟩
    obtain ⟨n2, e7⟩ := Nx.write (W1 := []) n (o := .frz od (NkO w p as)) (od2 := .any (.frz od (NkO w p as))) rfl
    rw [e7]
    have ow := n2.own
    obtain ⟨ca, oa⟩ := ow.at_ p _ List.mem_cons_self
    have oa : upd O1 p (.frz od (NkO w p as)) p = some (.frz od (NkO w p as)) := oa
    have hn : H1 p = none := n2.dis p _ oa
    have sm := same_upd (o := HO.frz od (NkO w p as)) hn
    have nd := ow.nd
    rw [List.nil_append, akeys_cons, List.nodup_cons] at nd
    rw [ov_freeze oa]
    refine q (.kdd w (ps.map (·.1)) (ps.map (·.2))) W2 _ _ x r ⟨n2.ext.trans sm, n2.dis.freeze, fun b x q => ?_, ⟨nd.2, fun b ob m => ?_⟩⟩ ?_
    · rw [del_ne (ne_of_none q ca)]
      exact n2.oc b x q
    · have hb : b ≠ p := fun q => nd.1 (q ▸ mem_akeys (x := (b, ob)) m)
      rw [del_ne hb]
      obtain ⟨g1, g2⟩ := ow.at_ b ob (List.mem_cons_of_mem _ m)
      exact ⟨g1, g2.mono sm⟩
    · subst k
      exact ⟨p, od, as, rfl, upd_same, by rw [e2, List.map_map]; rfl, e3, fun z hz => ⟨NkV.mono sm _ _ (e4 z hz).1, (e4 z hz).2⟩, e5.mono sm, e6.mono sm⟩
end
end N
set_option Elab.async false
set_option linter.all false
set_option maxRecDepth 100000
set_option maxHeartbeats 4000000
namespace N
open PySem PySem.Spec PyProof.Rows L2
section
variable {F : FmKit} {T : Kx} {C H H' O O' : Hp} {G : Gm} {W W' W1 W2 : Om} {R : D → Om → Prop} {d : D} {w : World} {p a : Addr} {td ty tv ta tb te tk : TE} {t : TT} {od : OD} {vs us : List Nat}
theorem putQ_new {ps : List (D × D)} {y z : D} (h : nkOf y ∉ ps.map fun u => nkOf u.1) : putQ ps y z = ps ++ [(y, z)] := by
  unfold putQ
  rw [if_neg]
  intro q
  obtain ⟨u, hu, e⟩ := List.any_eq_true.mp q
  exact h (List.mem_map.mpr ⟨u, hu, of_decide_eq_true e⟩)
theorem nd_take {α : Type} {l : List α} (h : l.Nodup) {i : Nat} {x : α} (hx : l[i]? = some x) : x ∉ l.take i := fun hm => by
  obtain ⟨j, hj⟩ := List.getElem?_of_mem hm
  have hlt : j < i := by
    have := (List.getElem?_eq_some_iff.mp hj).1
    rw [List.length_take] at this
    omega
  rw [List.getElem?_take, if_pos hlt] at hj
  have := (List.getElem?_inj (List.getElem?_eq_some_iff.mp hj).1 h).mp (hj.trans hx.symm)
  omega
/-- one more entry in the hidden dict -/
theorem hid_put {y z : D} {yv zv : V} {k : NestedKey} {ps : List (D × D)} {av : List (NestedKey × Addr × V)} {Dp : Addr} {H1 H2 O2 : Hp} {W2 : Om} (cp : C Dp = none) (n : Nx F T (upd C Dp (NkO w Dp av)) W2 H1 H2 O2) (ho : OdAt F T H2 (some (NkO w Dp av)) (.kd w Dp ps))
    (hy : Kyd y k) (ky : Den F T H2 y yv) (kz : Den F T H2 z zv) (hl : ps.length < 100000) :
    ∃ ka as, yv = .ref ka ∧ NkAt T.K w (ov O2 H2) Dp as ∧ NkV T.K (ov O2 H2) k (.ref ka) ∧ k.depth ≤ 8 ∧ as.length < 100000 ∧ ∃ av', NkO w Dp (putA as k ka zv) = NkO w Dp av' ∧ Nx F T (upd C Dp (NkO w Dp av')) W2 H1 H2 (upd O2 Dp (NkO w Dp av')) ∧ upd (ov O2 H2) Dp (NkO w Dp av') = ov (upd O2 Dp (NkO w Dp av')) H2 ∧ OdAt F T H2 (some (NkO w Dp av')) (.kd w Dp (putQ ps y z)) := by
  obtain ⟨as, e1, e2, e3, e4, e5, e6⟩ := ho
  obtain ⟨ka, ea, kk⟩ := hy.at ky
  subst ea
  have hO : ov O2 H2 Dp = some (NkO w Dp as) := (ov_own (n.oc Dp _ upd_same)).trans e1
  refine ⟨ka, as, rfl, ⟨hO, fun z hz => ⟨NkV.mono n.dis.same _ _ (e4 z hz).1, (e4 z hz).2⟩, e3⟩, NkV.mono n.dis.same _ _ kk, hy.2.2, by rw [alen e2]; exact hl, putA as k ka zv, rfl, ?_⟩
  obtain ⟨n5, e7⟩ := Nx.rehide (o' := NkO w Dp (putA as k ka zv)) n cp
  exact ⟨n5, e7, put_od hy ky kk kz e2 e3 e4 e5 e6⟩
/-- {k: v for ..}: each entry by itself -/
theorem ev_dcK {wi : TI} {g : TG} (h : EvI F T wi G W fun ds W1 => ∃ es : List (D × D), es.length = ds.length ∧ es.length < 100000 ∧ (es.map fun e => nkOf e.1).Nodup ∧ (∀ e ∈ es, ∃ k, Kyd e.1 k) ∧
      (∀ (i : Nat) (d : D) (e : D × D), ds[i]? = some d → es[i]? = some e → Tw F T vs g d (wipeG G vs) fun G2 => EvT F T t G2 W1 fun b W2 => b = true ∧ Ev F T tk G2 W2 fun y W3 => y = e.1 ∧ Ev F T tv G2 W3 fun z W4 => z = e.2 ∧ W4 = W1) ∧
      (∀ p, p ∉ akeys W1 → R (.adr p) ((p, .kd w p es) :: W1))) : Ev F T (tDcK T.K w wi g t tk tv vs) G W R := fun C H O σ w0 Q q =>
  h C H O σ w0 _ fun J ds W1 H1 O1 ⟨es, hl, hz, hnd, hky, turn, fin⟩ n1 wk Dp hD => by
    obtain ⟨n0, e0, cp⟩ := n1.hide (o := NkO w Dp []) hD
    refine ⟨fun i m X => m = ds.length - i ∧ i ≤ ds.length ∧ ∃ av H' O', X = ov O' H' ∧ Nx F T (upd C Dp (NkO w Dp av)) W1 H1 H' O' ∧ OdAt F T H' (some (NkO w Dp av)) (.kd w Dp (es.take i)),
      ⟨ds.length, by simp, Nat.zero_le _, [], H1, _, e0, n0, [], rfl, rfl, List.nodup_nil, by simp, rfl, rfl⟩, ?_⟩
    rintro i m X ⟨rfl, hi, av, H', O', rfl, n, ho⟩
    have k := wk i H' O' n.ext n.dis
    have lo1 := (w0.loc.mono n1.ext).mono n.ext
    by_cases hlt : i < ds.length
    · obtain ⟨k1, k2⟩ := k.1 ds[i] (by simp [hlt])
      have hes : es[i]? = some es[i] := List.getElem?_eq_getElem (by omega)
      obtain ⟨ky, hk⟩ := hky _ (List.mem_of_getElem? hes)
      have htk : es.take (i + 1) = putQ (es.take i) es[i].1 es[i].2 := by
        rw [putQ_new, List.take_add_one, hes]
        · rfl
        · rw [List.map_take]
          exact nd_take hnd (by rw [List.getElem?_map, hes]; rfl)
      refine .inr ⟨k1, fun X2 => ∃ av H2 O2, X2 = ov O2 H2 ∧ Nx F T (upd C Dp (NkO w Dp av)) W1 H1 H2 O2 ∧ OdAt F T H2 (some (NkO w Dp av)) (.kd w Dp (es.take (i + 1))), fun X2 y => ⟨ds.length - (i + 1), by omega, rfl, hlt, y⟩, fun x X2 y => ?_⟩
      obtain ⟨H2, s2, d2, rfl, kx⟩ := k2 x X2 y
      refine turn i ds[i] es[i] (by simp [hlt]) hes H2 _ _ x ((lo1.mono s2).wipe vs) d2.same kx _ fun G3 σ3 et l3 wz => ⟨wz.trans wipe_wipe, ?_⟩
      refine et (upd C Dp (NkO w Dp av)) H2 O' σ3 ⟨d2, n.oc, l3, n.own.mono s2⟩ _ fun b W3 H3 O3 ⟨eb, r3⟩ n3 => ?_
      subst eb
      have n03 : Nx F T (upd C Dp (NkO w Dp av)) W3 H1 H3 O3 := ⟨(n.ext.trans s2).trans n3.ext, n3.dis, n3.oc, n3.own⟩
      have w3 : Wd F T (upd C Dp (NkO w Dp av)) G3 W3 H3 O3 σ3 := ⟨n3.dis, n3.oc, l3.mono n3.ext, n3.own⟩
      rw [if_pos rfl]
      refine r3 _ H3 O3 σ3 w3 _ fun y W4 H4 O4 yv ⟨hy, r4⟩ n4 k4 => ?_
      refine r4 _ H4 O4 σ3 (w3.step n4) _ fun z W5 H5 O5 zv ⟨hzz, e5⟩ n5 k5 => ?_
      subst hy hzz e5
      have n05 := (n03.trans n4).trans n5
      obtain ⟨ka, as, a1, a2, a3, a4, a5, av', a6, a7, a8, a9⟩ := hid_put cp n05 (((ho.mono s2).mono n3.ext |>.mono n4.ext).mono n5.ext) hk (k4.mono n5.ext) k5 (by rw [List.length_take]; omega)
      refine ⟨ka, as, ky, a1, a2, a3, a4, a5, ?_⟩
      rw [a6]
      exact ⟨av', H5, _, a8, a7, by rw [htk]; exact a9⟩
    · have e : i = ds.length := by omega
      subst e
      refine .inl ⟨k.2 rfl, ?_⟩
      rw [← hl, List.take_length] at ho
      obtain ⟨n6, np⟩ := n.show (od := .kd w Dp es) cp ho
      exact q (.adr Dp) _ H' O' _ (fin Dp np) (Nx.trans ⟨n1.ext, n1.dis, n1.oc, n1.own⟩ n6) rfl
/-- .. with two fors, row after row -/
theorem ev_dcK2 {wi wj : TI} {g g1 : TG} (h : EvI F T wi G W fun ds W1 => ∃ ess : List (List (D × D)), ess.length = ds.length ∧ ess.flatten.length < 100000 ∧ (ess.flatten.map fun e => nkOf e.1).Nodup ∧ (∀ e ∈ ess.flatten, ∃ k, Kyd e.1 k) ∧
      (∀ (i : Nat) (d : D) (es : List (D × D)), ds[i]? = some d → ess[i]? = some es → Tw F T vs g d (wipeG G vs) fun G2 => EvI F T wj G2 W1 fun es' W2 => W2 = W1 ∧ es'.length = es.length ∧
        ∀ (j : Nat) (x : D) (e : D × D), es'[j]? = some x → es[j]? = some e → Tw F T us g1 x (wipeG G2 us) fun G3 => Ev F T tk G3 W1 fun y W3 => y = e.1 ∧ Ev F T tv G3 W3 fun z W4 => z = e.2 ∧ W4 = W1) ∧
      (∀ p, p ∉ akeys W1 → R (.adr p) ((p, .kd w p ess.flatten) :: W1))) : Ev F T (tDcK2 T.K w wi g tYes wj g1 tYes tk tv vs us) G W R := fun C H O σ w0 Q q =>
  h C H O σ w0 _ fun J ds W1 H1 O1 ⟨ess, hl, hz, hnd, hky, turn, fin⟩ n1 wk Dp hD => by
    obtain ⟨n0, e0, cp⟩ := n1.hide (o := NkO w Dp []) hD
    refine ⟨fun i m X => m = ds.length - i ∧ i ≤ ds.length ∧ ∃ av H' O', X = ov O' H' ∧ Nx F T (upd C Dp (NkO w Dp av)) W1 H1 H' O' ∧ OdAt F T H' (some (NkO w Dp av)) (.kd w Dp (ess.take i).flatten),
      ⟨ds.length, by simp, Nat.zero_le _, [], H1, _, e0, n0, [], rfl, rfl, List.nodup_nil, by simp, rfl, rfl⟩, ?_⟩
    rintro i m X ⟨rfl, hi, av, H', O', rfl, n, ho⟩
    have k := wk i H' O' n.ext n.dis
    have lo1 := (w0.loc.mono n1.ext).mono n.ext
    by_cases hlt : i < ds.length
    · obtain ⟨k1, k2⟩ := k.1 ds[i] (by simp [hlt])
      obtain ⟨es, hes⟩ : ∃ es, ess[i]? = some es := ⟨_, List.getElem?_eq_getElem (by omega)⟩
      have htk : (ess.take (i + 1)).flatten = (ess.take i).flatten ++ es := by rw [List.take_add_one, hes, List.flatten_append]; simp
      have hfl : ess.flatten = ((ess.take i).flatten ++ es) ++ (ess.drop (i + 1)).flatten := by rw [← htk, ← List.flatten_append, List.take_append_drop]
      have hbd : (ess.take i).flatten.length + es.length < 100000 := by
        rw [hfl, List.length_append, List.length_append] at hz
        omega
      have hmem : ∀ e ∈ es, ∃ k, Kyd e.1 k := fun e he => hky e (by rw [hfl]; exact List.mem_append_left _ (List.mem_append_right _ he))
      have hnew : ∀ (j : Nat) (e : D × D), es[j]? = some e → (ess.take i).flatten ++ es.take (j + 1) = putQ ((ess.take i).flatten ++ es.take j) e.1 e.2 := fun j e he => by
        rw [putQ_new, List.take_add_one, he, List.append_assoc]
        · rfl
        · rw [hfl] at hnd
          have hj : ((((ess.take i).flatten ++ es) ++ (ess.drop (i + 1)).flatten).map fun e => nkOf e.1)[(ess.take i).flatten.length + j]? = some (nkOf e.1) := by
            rw [List.getElem?_map, List.getElem?_append_left (by rw [List.length_append]; have := (List.getElem?_eq_some_iff.mp he).1; omega), List.getElem?_append_right (by omega), Nat.add_sub_cancel_left, he]
            rfl
          have := nd_take hnd hj
          rw [← List.map_take, List.take_append_of_le_length (by rw [List.length_append]; have := (List.getElem?_eq_some_iff.mp he).1; omega), List.take_append, List.take_of_length_le (by omega), Nat.add_sub_cancel_left] at this
          exact this
      refine .inr ⟨k1, fun X2 => ∃ av H2 O2, X2 = ov O2 H2 ∧ Nx F T (upd C Dp (NkO w Dp av)) W1 H1 H2 O2 ∧ OdAt F T H2 (some (NkO w Dp av)) (.kd w Dp (ess.take (i + 1)).flatten), fun X2 y => ⟨ds.length - (i + 1), by omega, rfl, hlt, y⟩, fun x X2 y => ?_⟩
      obtain ⟨H2, s2, d2, rfl, kx⟩ := k2 x X2 y
      refine turn i ds[i] es (by simp [hlt]) hes H2 _ _ x ((lo1.mono s2).wipe vs) d2.same kx _ fun G3 σ3 et l3 wz => ⟨wz.trans wipe_wipe, ?_⟩
      refine yes_tt ?_
      refine et (upd C Dp (NkO w Dp av)) H2 O' σ3 ⟨d2, n.oc, l3, n.own.mono s2⟩ _ fun K es' W2 H3 O3 ⟨eW, hel, turn1⟩ n3 wk1 => ?_
      subst eW
      refine ⟨fun j m X => m = es'.length - j ∧ j ≤ es'.length ∧ ∃ av H' O', X = ov O' H' ∧ Nx F T (upd C Dp (NkO w Dp av)) W2 H3 H' O' ∧ OdAt F T H' (some (NkO w Dp av)) (.kd w Dp ((ess.take i).flatten ++ es.take j)),
        ⟨es'.length, by simp, Nat.zero_le _, av, H3, O3, rfl, ⟨Same.refl _, n3.dis, n3.oc, n3.own⟩, by rw [List.take_zero, List.append_nil]; exact (ho.mono s2).mono n3.ext⟩, ?_⟩
      rintro j m X ⟨rfl, hj, av1, H5, O5, rfl, n5, ho5⟩
      have k5 := wk1 j H5 O5 n5.ext n5.dis
      by_cases hlt2 : j < es'.length
      · obtain ⟨k6, k7⟩ := k5.1 es'[j] (by simp [hlt2])
        have hej : es[j]? = some es[j] := List.getElem?_eq_getElem (by omega)
        obtain ⟨ky, hk⟩ := hmem _ (List.mem_of_getElem? hej)
        refine .inr ⟨k6, fun X2 => ∃ av H2 O2, X2 = ov O2 H2 ∧ Nx F T (upd C Dp (NkO w Dp av)) W2 H3 H2 O2 ∧ OdAt F T H2 (some (NkO w Dp av)) (.kd w Dp ((ess.take i).flatten ++ es.take (j + 1))), fun X2 y => ⟨es'.length - (j + 1), by omega, rfl, hlt2, y⟩, fun x X2 y => ?_⟩
        obtain ⟨H6, s6, d6, rfl, kx6⟩ := k7 x X2 y
        refine turn1 j es'[j] es[j] (by simp [hlt2]) hej H6 _ _ x (((l3.mono (n3.ext.trans n5.ext)).mono s6).wipe us) d6.same kx6 _ fun G4 σ4 et4 l4 wz4 => ⟨wz4.trans wipe_wipe, ?_⟩
        refine yes_tt ?_
        have w4 : Wd F T (upd C Dp (NkO w Dp av1)) G4 W2 H6 O5 σ4 := ⟨d6, n5.oc, l4, n5.own.mono s6⟩
        refine et4 (upd C Dp (NkO w Dp av1)) H6 O5 σ4 w4 _ fun y W4 H7 O7 yv ⟨hy, e4⟩ n7 k8 => ?_
        refine e4 _ H7 O7 σ4 (w4.step n7) _ fun z W5 H8 O8 zv ⟨hzz, e5⟩ n8 k9 => ?_
        subst hy hzz e5
        have n58 : Nx F T (upd C Dp (NkO w Dp av1)) W5 H3 H8 O8 := ⟨((n5.ext.trans s6).trans n7.ext).trans n8.ext, n8.dis, n8.oc, n8.own⟩
        obtain ⟨ka, as, a1, a2, a3, a4, a5, av', a6, a7, a8, a9⟩ := hid_put cp n58 (((ho5.mono s6).mono n7.ext).mono n8.ext) hk (k8.mono n8.ext) k9 (by rw [List.length_append, List.length_take]; omega)
        refine ⟨ka, as, ky, a1, a2, a3, a4, a5, ?_⟩
        rw [a6]
        exact ⟨av', H8, _, a8, a7, by rw [hnew j _ hej]; exact a9⟩
      · have e : j = es'.length := by omega
        subst e
        refine .inl ⟨k5.2 rfl, av1, H5, O5, rfl, ⟨((n.ext.trans s2).trans n3.ext).trans n5.ext, n5.dis, n5.oc, n5.own⟩, ?_⟩
        rw [hel, List.take_length] at ho5
        rw [htk]
        exact ho5
    · have e : i = ds.length := by omega
      subst e
      refine .inl ⟨k.2 rfl, ?_⟩
      rw [← hl, List.take_length] at ho
      obtain ⟨n6, np⟩ := n.show (od := .kd w Dp ess.flatten) cp ho
      exact q (.adr Dp) _ H' O' _ (fin Dp np) (Nx.trans ⟨n1.ext, n1.dis, n1.oc, n1.own⟩ n6) rfl
end
end N
set_option Elab.async false
set_option linter.all false
set_option maxRecDepth 100000
set_option maxHeartbeats 2000000
namespace N
open PySem PySem.Spec PyProof.Rows L2
open XK
/-- two dicts of bools under the same keys -/
def EvB : EqvT := fun H x y r => ∃ (p q : Addr) (ks : List Key) (as bs : List Bool), x = .ref p ∧ y = .ref q ∧ H p = some (.dK (ks.zip (as.map V.bl))) ∧ H q = some (.dK (ks.zip (bs.map V.bl))) ∧ ks.Nodup ∧ as.length = ks.length ∧ bs.length = ks.length ∧ r = decide (as = bs)
section
variable {X : Cx} {A : Around} {s : Shared}
theorem hits_zip {kb : List (Key × Value)} : ∀ {ks : List Key} {as bs : List Bool}, as.length = ks.length → bs.length = ks.length →
    (∀ (i : Nat) (k : Key) (b : Bool), ks[i]? = some k → bs[i]? = some b → valueAt kb k = some (.bool b)) → ∀ {va : List (Key × Value)}, KV (ks.zip (as.map V.bl)) va → PySem.W.KeqHits A s kb va (decide (as = bs))
  | [], [], [], _, _, _, va, h => by
    cases h
    exact .nil
  | [], a :: as, bs, h, _, _, _, _ => by cases h
  | [], [], b :: bs, _, h, _, _, _ => by cases h
  | k :: ks, [], bs, h, _, _, _, _ => by cases h
  | k :: ks, a :: as, [], _, h, _, _, _ => by cases h
  | k :: ks, a :: as, b :: bs, h1, h2, hv, va, hk => by
    cases hk with
    | @cons _ q _ qs e t =>
      obtain ⟨kq, vq⟩ := q
      obtain ⟨e1, e2⟩ := e
      have e1 : k = kq := e1
      have e2 : vq = Value.bool a := e2
      subst e1 e2
      have ih := hits_zip (kb := kb) (ks := ks) (as := as) (bs := bs) (by simpa using h1) (by simpa using h2) (fun i k b hk hb => hv (i + 1) k b hk hb) t
      have e3 : decide (a :: as = b :: bs) = ((a == b) && decide (as = bs)) := by
        rw [Bool.eq_iff_iff]
        simp
      rw [e3]
      exact .hit (hv 0 k b rfl rfl) (SeqAt.EqAt.bool_bool a b) ih
theorem zip_val {ks : List Key} {bs : List Bool} (nd : ks.Nodup) {i : Nat} {k : Key} {b : Bool} (hk : ks[i]? = some k) (hb : bs[i]? = some b) : valV (ks.zip (bs.map V.bl)) k = some (.bl b) := by
  induction ks generalizing bs i with
  | nil => simp at hk
  | cons x ks ih =>
    cases bs with
    | nil => simp at hb
    | cons y bs =>
      rw [List.nodup_cons] at nd
      show valV ((x, V.bl y) :: ks.zip (bs.map V.bl)) k = _
      cases i with
      | zero =>
        obtain rfl : x = k := Option.some.inj hk
        obtain rfl : y = b := Option.some.inj hb
        simp [valV]
      | succ i =>
        have hm : k ∈ ks := List.mem_of_getElem? hk
        rw [valV_neg (p := (x, V.bl y)) (fun e : x = k => nd.1 (e ▸ hm))]
        exact ih nd.2 hk hb
theorem bls_inj : ∀ {as bs : List Bool}, as.map V.bl = bs.map V.bl → as = bs
  | [], [], _ => rfl
  | [], _ :: _, e => by cases e
  | _ :: _, [], e => by cases e
  | a :: as, b :: bs, e => by
    obtain ⟨h1, h2⟩ := List.cons.inj e
    cases h1
    rw [bls_inj h2]
theorem evB_ok (hc : X.A.in1.units < cLine) : EqvOk X EvB := by
  intro pins s σ H x y r v u I h rx ry
  obtain ⟨p, q, ks, as, bs, rfl, rfl, hp, hq, nd, la, lb, rfl⟩ := h
  obtain rfl : v = .ref p := rx
  obtain rfl : u = .ref q := ry
  by_cases e : p = q
  · subst e
    rw [hp] at hq
    have e1 : ks.zip (as.map V.bl) = ks.zip (bs.map V.bl) := by
      injection hq with hq
      injection hq
    have e2 := congrArg (List.map Prod.snd) e1
    rw [List.map_snd_zip (by rw [List.length_map]; omega), List.map_snd_zip (by rw [List.length_map]; omega)] at e2
    have e3 : as = bs := bls_inj e2
    rw [decide_eq_true e3]
    exact EqW.self _
  · obtain ⟨_, ya, va, ra, da⟩ := dk_of I.hok hp
    obtain ⟨_, yb, vb, rb, db⟩ := dk_of I.hok hq
    have l1 : va.length = ks.length := by
      rw [← Paired.length ra, List.length_zip, List.length_map]
      omega
    have l2 : vb.length = ks.length := by
      rw [← Paired.length rb, List.length_zip, List.length_map]
      omega
    have := EqW.dicts (r := decide (as = bs)) e hc ya yb da db fun _ => hits_zip (A := X.A.in1.in1) (s := s) la lb (fun i k b hk hb => by
      have z := zip_val nd hk hb
      have rr : RelO (some (.bl b)) (valueAt vb k) := by rw [← z]; exact rb.val k
      obtain ⟨w, hw, rw'⟩ := rr.some_of
      have rw' : w = Value.bool b := rw'
      rw [hw, rw']) ra
    rw [l1, l2, beq_self_eq_true, Bool.true_and] at this
    exact this
def rEqK (EV : EqvT) (K : PySem.W.Frag) (w : World) (f : Bool → Bool) : R2 := fun x y H Q => ∃ a b as bs r, x = .ref a ∧ y = .ref b ∧ NkRd K w H a as ∧ NkRd K w H b bs ∧ (as.length = bs.length → KqV EV H bs as r) ∧ Q (.bl (f (as.length == bs.length && r))) H
theorem op_neK {EV : EqvT} (hu : X.A.units + 64 < cLine) (ok : EqvOk X EV) : OpR X (compareOp .NotEq) (rEqK EV X.K X.w not) := by
  intro pins s σ H x y v u Q I rx ry h
  obtain ⟨a, b, as, bs, r, rfl, rfl, ha, hb, kq, q⟩ := h
  obtain rfl : v = .ref a := rx
  obtain rfl : u = .ref b := ry
  obtain ⟨sa, us, ma, pa⟩ := nk_rd I ha
  obtain ⟨sb, ws, mb, pb⟩ := nk_rd I hb
  refine XK.ne_heap (knd := nestedKind X.prog X.w) (by omega) (by show X.A.units + 1 + 8 < cLine; omega) sa sb ma mb (fun e => (kq (by rw [← NkPd.len pa, ← NkPd.len pb]; exact e)).kq I ok pb pa) ?_
  rw [NkPd.len pa, NkPd.len pb]
  exact ⟨.bl _, H, I, rfl, q⟩
theorem op_neKB (hu : X.A.units + 64 < cLine) : OpR X (compareOp .NotEq) (rEqK EvB X.K X.w not) := op_neK hu (evB_ok (by show X.A.units + 1 < cLine; omega))
end
/-- a key, the keys within, two rows of bools -/
structure RowB where
  k : D
  ks : List Key
  a : List Bool
  b : List Bool
def dB (ks : List Key) (bs : List Bool) : D := .dct ks (bs.map D.bl)
section
variable {F : FmKit} {T : Kx} {C H H' O O' : Hp} {G : Gm} {W : Om} {R : D → Om → Prop} {w : World}
theorem den_dB {ks : List Key} {bs : List Bool} {v : V} (h : Den F T H (dB ks bs) v) : ∃ p, v = .ref p ∧ H p = some (.dK (ks.zip (bs.map V.bl))) ∧ ks.Nodup ∧ bs.length = ks.length := by
  obtain ⟨p, kvs, e, h1, h2, h3, h4⟩ := h
  have h5 : kvs.map (·.2) = bs.map V.bl := DenL.vls_inv (ws := bs.map V.bl) (by rw [List.map_map]; exact h4)
  have h6 : kvs = ks.zip (bs.map V.bl) := by
    rw [← h2, ← h5]
    clear h1 h2 h3 h4 h5
    induction kvs with
    | nil => rfl
    | cons z kvs ih => rw [List.map_cons, List.map_cons, List.zip_cons_cons, ← ih]
  refine ⟨p, e, by rw [← h6]; exact h1, h3, ?_⟩
  have l1 := congrArg List.length h2
  have l2 := congrArg List.length h5
  rw [List.length_map] at l1 l2
  rw [List.length_map] at l2
  omega
theorem getA_at : ∀ {as : List (NestedKey × Addr × V)} {i : Nat} {z : NestedKey × Addr × V}, (as.map (·.1)).Nodup → as[i]? = some z → getA as z.1 = some z.2.2
  | [], i, z, _, h => by simp at h
  | a :: as, 0, z, _, h => by
    obtain rfl : a = z := Option.some.inj h
    rw [getA_cons, if_pos rfl]
  | a :: as, i + 1, z, nd, h => by
    rw [List.map_cons, List.nodup_cons] at nd
    have hm : z ∈ as := List.mem_of_getElem? h
    rw [getA_cons, if_neg fun e => nd.1 (List.mem_map.mpr ⟨z, hm, e.symm⟩)]
    exact getA_at nd.2 h
theorem kqv_rows {H : Hp} {bs0 : List (NestedKey × Addr × V)} (nd : (bs0.map (·.1)).Nodup) : ∀ {rs : List RowB} {as bs : List (NestedKey × Addr × V)} (n : Nat), bs0.drop n = bs → as.map (·.1) = bs.map (·.1) →
    DenL F T H (rs.map fun r => dB r.ks r.a) (as.map (·.2.2)) → DenL F T H (rs.map fun r => dB r.ks r.b) (bs.map (·.2.2)) → KqV EvB H bs0 as (rs.all fun r => decide (r.a = r.b))
  | [], [], [], _, _, _, _, _ => .nil
  | [], [], b :: bs, _, _, h, _, _ => by cases h
  | [], a :: as, bs, _, _, _, h, _ => by cases (show a.2.2 :: _ = [] from h)
  | r :: rs, [], bs, _, _, _, ⟨v, t, e, _⟩, _ => by cases e
  | r :: rs, a :: as, [], _, _, h, _, _ => by cases h
  | r :: rs, a :: as, b :: bs, n, hd, h, ⟨v, t, e, d1, d2⟩, ⟨v2, t2, e2, d3, d4⟩ => by
    obtain ⟨rfl, rfl⟩ := List.cons.inj e
    obtain ⟨rfl, rfl⟩ := List.cons.inj e2
    rw [List.map_cons, List.map_cons] at h
    obtain ⟨h1, h2⟩ := List.cons.inj h
    have hb : bs0[n]? = some b := by
      have := congrArg (fun l => l[0]?) hd
      simpa using this
    have ih := kqv_rows nd (rs := rs) (as := as) (bs := bs) (n + 1) (by rw [← List.drop_drop, hd]; rfl) h2 d2 d4
    obtain ⟨p, ep, hp, n1, l1⟩ := den_dB d1
    obtain ⟨q, eq, hq, n2, l2⟩ := den_dB d3
    rw [List.all_cons]
    exact .hit (by rw [h1]; exact getA_at nd hb) ⟨p, q, r.ks, r.a, r.b, ep, eq, hp, hq, n1, l1, l2, rfl⟩ ih
/-- != of two such dicts with the same keys -/
theorem bo_neKB {rs : List RowB} (r : R (.bl (!(rs.all fun r => decide (r.a = r.b)))) W) : Bo F T (rEqK EvB T.K w not) (.kdd w (rs.map (·.k)) (rs.map fun r => dB r.ks r.a)) (.kdd w (rs.map (·.k)) (rs.map fun r => dB r.ks r.b)) W R := fun C H O di oc ow x y kx ky Q q => by
  obtain ⟨a, oa, as, ea, h1, h2, h3, h4, h5, h6⟩ := kx
  obtain ⟨b, ob, bs, eb, g1, g2, g3, g4, g5, g6⟩ := ky
  have key : as.map (·.1) = bs.map (·.1) := by
    have e := h2.trans g2.symm
    have := congrArg (List.map fun z => z.getD .none) e
    rw [List.map_map, List.map_map] at this
    exact this
  have hl : as.length = bs.length := by
    have := congrArg List.length key
    rwa [List.length_map, List.length_map] at this
  refine ⟨a, b, as, bs, rs.all fun r => decide (r.a = r.b), ea, eb, ⟨.inr ⟨oa, di.same _ _ h1⟩, fun z hz => ⟨NkV.mono di.same _ _ (h4 z hz).1, (h4 z hz).2⟩, h3⟩, ⟨.inr ⟨ob, di.same _ _ g1⟩, fun z hz => ⟨NkV.mono di.same _ _ (g4 z hz).1, (g4 z hz).2⟩, g3⟩, fun _ => ?_, ?_⟩
  · exact kqv_rows g3 0 (by rw [List.drop_zero]) key (h6.mono di.same) (g6.mono di.same)
  · rw [hl, beq_self_eq_true, Bool.true_and]
    exact q _ W H O _ r (.refl di oc ow) rfl
end
end N
set_option Elab.async false
set_option linter.all false
set_option maxRecDepth 100000
set_option maxHeartbeats 1000000
set_option Elab.async false
set_option linter.all false
set_option maxRecDepth 100000
set_option maxHeartbeats 4000000
set_option Elab.async false
set_option linter.all false
set_option maxRecDepth 100000
set_option maxHeartbeats 1000000
set_option Elab.async false
set_option linter.all false
set_option maxRecDepth 100000
set_option maxHeartbeats 2000000
namespace N
open PySem PySem.Spec PyProof.Rows L2
section
variable {F : FmKit} {T : Kx} {C H H' O O' : Hp} {G : Gm} {W W' W1 W2 : Om} {R : D → Om → Prop} {d : D} {w : World} {ta tb te td : TE}
/-- a dict of texts and ints: owned, frozen or pinned -/
def Vz (W : Om) (d : D) (ps : List (Key × D)) : Prop := Vd W d ps ∨ d = .dcz (ps.map (·.1)) (ps.map (·.2))
theorem Vz.at {x : V} {ps : List (Key × D)} (h : Vz W d ps) (di : Dis O H) (ow : Ow F T H C O W) (k : Den F T H d x) : ∃ a kvs, x = .ref a ∧ Rd (ov O H) a (.dK kvs) ∧ kvs.map (·.1) = ps.map (·.1) ∧ (ps.map (·.1)).Nodup ∧ DenL F T H (ps.map (·.2)) (kvs.map (·.2)) := by
  rcases h with h | rfl
  · obtain ⟨a, kvs, e, h1, h2, h3, h4⟩ := h.at di ow k
    exact ⟨a, kvs, e, .inl h1, h2, h3, h4⟩
  · obtain ⟨a, o, kvs, e, h1, h2, h3, h4⟩ := k
    exact ⟨a, kvs, e, .inr ⟨o, di.same _ _ h1⟩, h2, h3, h4⟩
theorem ev_dgetz (h : Ev F T ta G W fun d W1 => Ev F T tb G W1 fun y W2 => ∃ ps k z, Vz W2 d ps ∧ y = kD k ∧ getG ps k = some z ∧ R z W2) : Ev F T (tDGet ta tb) G W R := fun C H O σ w Q q =>
  h C H O σ w _ fun d W1 H1 O1 x h1 n1 k1 => h1 C H1 O1 σ (w.step n1) _ fun y W2 H2 O2 yv ⟨ps, k, z, hv, ey, hg, r⟩ n2 k2 => by
    subst ey
    obtain ⟨a, kvs, ex, ha, e1, e2, kl⟩ := hv.at n2.dis n2.own (k1.mono n2.ext)
    have k2 : yv = kV k := k2
    subst ex k2
    rcases getG_den (k := k) e1 kl with ⟨g1, _⟩ | ⟨z', v, g1, g2, kz⟩
    · rw [g1] at hg
      cases hg
    · rw [g1] at hg
      cases hg
      exact ⟨a, v, rfl, .inl ⟨kvs, k, ha, rfl, g2.symm⟩, q z W2 H2 O2 v r (n1.trans n2) kz⟩
theorem ev_dnotinz (h : Ev F T tb G W fun y W1 => Ev F T ta G W1 fun d W2 => ∃ ps k, Vz W2 d ps ∧ y = kD k ∧ R (.bl (!(getG ps k).isSome)) W2) : Ev F T (tDNotIn tb ta) G W R := fun C H O σ w Q q =>
  h C H O σ w _ fun y W1 H1 O1 yv h1 n1 k1 => h1 C H1 O1 σ (w.step n1) _ fun d W2 H2 O2 x ⟨ps, k, hv, ey, r⟩ n2 k2 => by
    subst ey
    have k1 : yv = kV k := k1
    obtain ⟨a, kvs, ex, ha, e1, e2, kl⟩ := hv.at n2.dis n2.own k2
    subst ex k1
    refine ⟨a, valV kvs k, rfl, .inl ⟨kvs, k, ha, rfl, rfl⟩, ?_⟩
    have e : (valV kvs k).isSome = (getG ps k).isSome := by
      rcases getG_den (k := k) e1 kl with ⟨g1, g2⟩ | ⟨z', v, g1, g2, kz⟩
      · rw [g1, g2]
        rfl
      · rw [g1, g2]
        rfl
    rw [e]
    exact q _ W2 H2 O2 _ r (n1.trans n2) rfl
theorem zlen {ps : List (Key × D)} {kvs : List (Key × V)} (h : kvs.map (·.1) = ps.map (·.1)) : kvs.length = ps.length := by
  have := congrArg List.length h
  rwa [List.length_map, List.length_map] at this
theorem zget {ps : List (Key × D)} {kvs : List (Key × V)} (h2 : kvs.map (·.1) = ps.map (·.1)) (h4 : DenL F T H (ps.map (·.2)) (kvs.map (·.2))) {i : Nat} {p : Key × D} (hp : ps[i]? = some p) : ∃ v, kvs[i]? = some (p.1, v) ∧ Den F T H p.2 v := by
  obtain ⟨v, hv, kv⟩ := h4.get (i := i) (d := p.2) (by rw [List.getElem?_map, hp]; rfl)
  rw [List.getElem?_map] at hv
  obtain ⟨⟨k', v'⟩, hkv, e⟩ := Option.map_eq_some_iff.mp hv
  have e : v' = v := e
  subst e
  have h1 : (kvs.map (·.1))[i]? = (ps.map (·.1))[i]? := by rw [h2]
  rw [List.getElem?_map, List.getElem?_map, hkv, hp] at h1
  have h1 : k' = p.1 := Option.some.inj h1
  subst h1
  exact ⟨v', hkv, kv⟩
/-- gone through, pinned: the keys -/
theorem ei_keysz {Y : List D → Om → Prop} (h : Ev F T td G W fun d W1 => ∃ ps : List (Key × D), d = .dcz (ps.map (·.1)) (ps.map (·.2)) ∧ Y (ps.map fun p => kD p.1) W1) : EvI F T (iKeys td) G W Y := fun C H O σ w0 Q q =>
  h C H O σ w0 _ fun d W1 H1 O1 x ⟨ps, e, y⟩ n k => by
    subst e
    obtain ⟨a, o, kvs, e, h1, h2, h3, h4⟩ := k
    have hl := zlen h2
    refine ⟨a, o, e, .inl ⟨kvs, n.dis.same _ _ h1, q _ _ W1 H1 O1 y n fun i H2 O2 e2 d2 => ?_⟩⟩
    have f1 : ov O2 H2 a = some (.frz o (.dK kvs)) := d2.same _ _ (e2 _ _ h1)
    refine ⟨fun d hd => ?_, fun e => ⟨f1, by rw [e, List.length_map]; omega⟩⟩
    rw [List.getElem?_map] at hd
    obtain ⟨p, hp, rfl⟩ := Option.map_eq_some_iff.mp hd
    obtain ⟨v, hv, kv⟩ := zget h2 h4 hp
    refine ⟨⟨f1, (List.getElem?_eq_some_iff.mp hv).1⟩, fun x X ⟨eX, k', v', e0, e1⟩ => ?_⟩
    rw [hv] at e0
    cases e0
    exact ⟨H2, Same.refl _, d2, eX, e1⟩
/-- .. the pairs -/
theorem ei_itemsz {Y : List D → Om → Prop} (h : Ev F T td G W fun d W1 => ∃ ps : List (Key × D), d = .dcz (ps.map (·.1)) (ps.map (·.2)) ∧ Y (ps.map fun p => .tup [kD p.1, p.2]) W1) : EvI F T (iItems td) G W Y := fun C H O σ w0 Q q =>
  h C H O σ w0 _ fun d W1 H1 O1 x ⟨ps, e, y⟩ n k => by
    subst e
    obtain ⟨a, o, kvs, e, h1, h2, h3, h4⟩ := k
    have hl := zlen h2
    refine ⟨a, o, kvs, e, n.dis.same _ _ h1, q _ _ W1 H1 O1 y n fun i H2 O2 e2 d2 => ?_⟩
    have f1 : ov O2 H2 a = some (.frz o (.dK kvs)) := d2.same _ _ (e2 _ _ h1)
    refine ⟨fun d hd => ?_, fun e => ⟨f1, by rw [e, List.length_map]; omega⟩⟩
    rw [List.getElem?_map] at hd
    obtain ⟨p, hp, rfl⟩ := Option.map_eq_some_iff.mp hd
    obtain ⟨v, hv, kv⟩ := zget h2 (h4.mono e2) hp
    refine ⟨⟨f1, (List.getElem?_eq_some_iff.mp hv).1⟩, fun x X ⟨Tp, k', v', e0, e1, e3, e4⟩ => ?_⟩
    rw [hv] at e0
    cases e0
    obtain ⟨g1, g2⟩ := ov_none e3
    have sm := same_upd (o := .tup [kV p.1, v]) g2
    refine ⟨upd H2 Tp (.tup [kV p.1, v]), sm, d2.updH g1, by rw [e4, ov_updH g1], ?_⟩
    exact ⟨Tp, _, e1, SqT.of upd_same, _, _, rfl, rfl, .one (kv.mono sm)⟩
/-- pinned for good -/
theorem ev_pinD (h : Ev F T te G W fun d W1 => ∃ p ps W2, d = .adr p ∧ W1 = (p, .dp ps) :: W2 ∧ R (.dcz (ps.map (·.1)) (ps.map (·.2))) W2) : Ev F T (tFrz te) G W R := fun C H O σ w0 Q q =>
  h C H O σ w0 _ fun d W1 H1 O1 x ⟨p, ps, W2, ed, eW, r⟩ n k => by
    subst ed eW
    have k : x = .ref p := k
    obtain ⟨_, kvs, e1, e2, e3, e4⟩ := n.own.at_ p _ List.mem_cons_self
    refine ⟨p, .dK kvs, k, ov_own e1, trivial, fun od => ?_⟩
    obtain ⟨n2, e7⟩ := Nx.write (W1 := []) n (o := .frz od (.dK kvs)) (od2 := .any (.frz od (.dK kvs))) rfl
    rw [e7]
    have ow := n2.own
    obtain ⟨ca, oa⟩ := ow.at_ p _ List.mem_cons_self
    have oa : upd O1 p (.frz od (.dK kvs)) p = some (.frz od (.dK kvs)) := oa
    have hn : H1 p = none := n2.dis p _ oa
    have sm := same_upd (o := HO.frz od (.dK kvs)) hn
    have nd := ow.nd
    rw [List.nil_append, akeys_cons, List.nodup_cons] at nd
    rw [ov_freeze oa]
    refine q (.dcz (ps.map (·.1)) (ps.map (·.2))) W2 _ _ x r ⟨n2.ext.trans sm, n2.dis.freeze, fun b x q => ?_, ⟨nd.2, fun b ob m => ?_⟩⟩ ?_
    · rw [del_ne (ne_of_none q ca)]
      exact n2.oc b x q
    · have hb : b ≠ p := fun q => nd.1 (q ▸ mem_akeys (x := (b, ob)) m)
      rw [del_ne hb]
      obtain ⟨g1, g2⟩ := ow.at_ b ob (List.mem_cons_of_mem _ m)
      exact ⟨g1, g2.mono sm⟩
    · subst k
      exact ⟨p, od, kvs, rfl, upd_same, e2, e3, e4.mono sm⟩
/-- {k: v for ..}: each entry by itself -/
theorem ev_dcM {wi : TI} {g : TG} {t : TT} {tk tv : TE} {vs : List Nat} (h : EvI F T wi G W fun ds W1 => ∃ es : List (Key × D), es.length = ds.length ∧ es.length < sizeLine ∧ (es.map (·.1)).Nodup ∧
      (∀ (i : Nat) (d : D) (e : Key × D), ds[i]? = some d → es[i]? = some e → Tw F T vs g d (wipeG G vs) fun G2 => EvT F T t G2 W1 fun b W2 => b = true ∧ Ev F T tk G2 W2 fun y W3 => y = kD e.1 ∧ Ev F T tv G2 W3 fun z W4 => z = e.2 ∧ W4 = W1) ∧
      (∀ p, p ∉ akeys W1 → R (.adr p) ((p, .dp es) :: W1))) : Ev F T (tDc wi g t tk tv vs) G W R :=
  ev_dc (ei_imp h fun ds W1 ⟨es, hl, hz, nd, turn, fin⟩ => ⟨fun i acc W' => W' = W1 ∧ acc = es.take i, ⟨rfl, by simp⟩, fun i d acc W' hd ⟨e1, e2⟩ => by
    subst e1 e2
    have hi : i < ds.length := (List.getElem?_eq_some_iff.mp hd).1
    have he : es[i]? = some es[i] := List.getElem?_eq_getElem (by omega)
    refine fun H H1 σ v lo s k Q q => turn i d es[i] hd he H H1 σ v lo s k Q fun G2 σ2 et l2 w2 => q G2 σ2 (fun C H O σ w Q q => et C H O σ w Q fun b W2 H2 O2 ⟨e, ev⟩ n => q b W2 H2 O2 ?_ n) l2 w2
    subst e
    rw [if_pos rfl]
    refine ev.imp fun y W3 ⟨ey, ez⟩ => ez.imp fun z W4 ⟨e3, e4⟩ => ⟨es[i].1, ey, by rw [List.length_take]; omega, e4, ?_⟩
    have hn : es[i].1 ∉ (es.take i).map (·.1) := by
      rw [List.map_take]
      exact nd_take nd (by rw [List.getElem?_map, he]; rfl)
    rw [putG_new hn, List.take_add_one, he, e3]
    rfl, fun acc W' ⟨e1, e2⟩ p hp => by
    subst e1 e2
    rw [← hl, List.take_length]
    exact fin p hp⟩)
end
theorem pe_getKK {X : Cx} {K : PySem.W.Frag} {w : World} {o i : Expr} {td ty : TE} {pos : Pos} (hK : X.K = K) (hw : X.w = w) (hu : X.A.units + 64 < cLine) (ho : PE X o td) (hi : PE X i ty) (hs : NoSl i) : PE X (.Subscript o i pos) (tGetK K w td ty) := by
  subst hK hw
  exact pe_getK hu ho hi hs
structure MetR (P : Program) (w : World) (K : PySem.W.Frag) (mg : Str → Option Value) (base : Heap) (k : Nat) (C : Addr) (m : Str) (sp : Sp) : Prop where
  ex : ∃ f, Cls K C ∧ Meth K C m f ∧ FnR P w K mg base CX0 k f sp
theorem pe_mtR {X : Cx} {k j : Nat} {C : Addr} {m : Str} {sp : Sp} {o e : Expr} {es : List Expr} {ta : TE} {t : TA} {apos pos : Pos} {pl : Sem Bool} (c : MetR X.prog X.w X.K X.mg X.base k C m sp) (hr : Room j X.A) (hk : k ≤ j) (he : PE X o ta) (ha : PA X (e :: es) t)
    (hst : starEach (e :: es) X.env = (false, eval e X.env) :: starEach es X.env := by rfl) (hpl : (backTo pos (starEach es X.env)).any (·.1) = false := by rfl)
    (ht : eval (.Call (.Attribute o m apos) (e :: es) [] pos) X.env = (do
      let ov ← eval o X.env
      standAt apos.atName
      let (f, first) ← holding [ov] (getMethod ov m pl)
      callWith pos f first (backTo pos (starEach (e :: es) X.env)) (backToKw pos (keywordEach [] X.env))) := by rfl) :
    PE X (.Call (.Attribute o m apos) (e :: es) [] pos) (tMeth C m sp [] C8.E0 ta t) := by
  obtain ⟨f, cc, hm, F⟩ := c.ex
  refine ⟨fun pins s σ H Q I h => ?_⟩
  refine PySem.W.methodCall_KW (pl := pl) (thn (he.run pins s σ H _ I h) fun u s1 ⟨x, H1, I1, rx, a, dx, fs, ex, ea, l, q⟩ => ?_) ht
  subst ex
  obtain rfl : u = Value.ref a := rx
  refine getmeth_ok I1 ea cc hm l ?_
  refine PySem.W.callWith_K (first := [.ref a]) (h₀ := X.base) I.ok.mod.kin hm.kp (thn (ha.run pos pins s1 σ H1 _ I1 q) fun us s2 ⟨vs, H2, I2, r, q2⟩ => ⟨I2.kIn, ?_⟩) hst hpl
  refine wpAny_call (run_fnR (us := .ref a :: us) (vs := .ref a :: vs) F (hr.mono hk) (C8.pass0 (E := C8.E0)) I2 (.cons rfl r) ?_)
  have q2 : sp (V.ref a :: (vs ++ [])) H2 Q C8.E0 := q2
  rw [List.append_nil] at q2
  exact q2
end N
set_option Elab.async false
set_option linter.all false
set_option maxRecDepth 100000
set_option maxHeartbeats 4000000
set_option Elab.async false
set_option linter.all false
set_option maxRecDepth 100000
set_option maxHeartbeats 1000000
namespace XU
open PySem
open Sem (wp)
section
variable {prog : Program} {w : World} {K : Type} [DecidableEq K] {knd : KeyKind prog w K} {A : Around} {E : Value → Shared → Prop} {s : Shared}
theorem put_pairs {d : Addr} {kvs : List (K × Value)} {k : K} {key v : Value} {Q : Unit → Shared → Prop} (hk : knd.is k key = true) (hm : s.heap.DictOf knd d kvs)
    (hq : ∀ h', h'.DictOf knd d (stored kvs k v) → Heap.SameBut d s.heap h' → Q () { s with heap := h' }) (hz : kvs.length ≤ sizeLine) : wpAny (model prog w) A (dictPut d (knd.hash k) key v) Q E s := by
  obtain ⟨o, es, ep, ho, hc, hd, hks, hp, hn⟩ := hm
  have e1 : es.toList.length = kvs.length := by have := hp.length; omega
  have ez : es.size ≤ sizeLine := by have e2 : es.toList.length = es.size := by simp
                                     omega
  unfold dictPut
  refine wpAny_bind (wpAny_dictFind_of hk ho hd hks ?_)
  have ix : (es.findIdx? fun e => knd.is k e.key) = kvs.findIdx? fun kv => decide (kv.1 = k) := by
    rw [← hp.findIdx k]
    obtain ⟨l⟩ := es
    simp
  cases hi : es.findIdx? fun e => knd.is k e.key with
  | some i =>
    refine wpAny_updateDict ho hd (hq _ ⟨_, _, ep, Heap.get?_update_self _ ho (Obj.isFreed_of_dict (Obj.data_mapDict hd _)), hc.mapDict _, Obj.data_mapDict hd _, hks.modify _ _, ?_, ?_⟩ (Heap.SameBut.update ..))
    · rw [stored, if_pos (any_of_findIdx_some (ix ▸ hi))]
      have hl : (es.toList.findIdx? fun e => knd.is k e.key) = some i := hi ▸ (by obtain ⟨l⟩ := es; simp)
      have z := hp.modify hn hl v
      obtain ⟨l⟩ := es
      simpa using z
    · rw [stored, if_pos (any_of_findIdx_some (ix ▸ hi)), keys_map_store]
      exact hn
  | none =>
    have no : k ∉ kvs.map (·.1) := not_mem_of_findIdx_none (ix ▸ hi)
    have na : ¬ (kvs.any fun kv => decide (kv.1 = k)) = true := fun h => by
      obtain ⟨kv, h1, h2⟩ := List.any_eq_true.mp h
      exact no (List.mem_map.mpr ⟨kv, h1, of_decide_eq_true h2⟩)
    refine wpAny_updateDictKeys (hz := ez) ho hd (hq _ ⟨_, _, ep + 1, Heap.get?_update_self _ ho (Obj.isFreed_of_dict (Obj.data_mapDictKeys hd _)), hc.mapDictKeys _, Obj.data_mapDictKeys hd _, hks.push hk _, ?_, ?_⟩ (Heap.SameBut.update ..))
    · rw [stored, if_neg na]
      have z := hp.append hk (knd.hash k) v
      obtain ⟨l⟩ := es
      simpa using z
    · rw [stored, if_neg na, List.map_append, List.nodup_append]
      refine ⟨hn, by simp, fun a ha b hb e => ?_⟩
      simp only [List.map_cons, List.map_nil, List.mem_singleton] at hb
      subst hb
      exact no (e ▸ ha)
theorem merge_map {d o : Addr} {kvs more : List (K × Value)} {Q : Unit → Shared → Prop} (nr : ∀ k a, knd.is k (.ref a) = false) (ne : d ≠ o) (hs : (o == sysModules) = false) (hd : s.heap.DictOf knd d kvs) (ho : s.heap.DictOf knd o more)
    (hq : ∀ h', h'.DictOf knd d (merged kvs more) → h'.DictOf knd o more → Heap.SameBut d s.heap h' → Q () { s with heap := h' }) (hz : kvs.length + more.length ≤ sizeLine) : wpAny (model prog w) A (mergeMapping d (.ref o) false) Q E s := by
  obtain ⟨od, e1, p1, god, cod, dod, kod, pod, nod⟩ := id hd
  obtain ⟨oo, e2, p2, goo, coo, doo, koo, poo, noo⟩ := id ho
  have hlen : more.length = e2.size := by rw [← poo.length]; simp
  unfold mergeMapping
  refine wpAny_bind (wpAny_isInstance ho.typeIs isSubtype_dict_dict ?_)
  simp only [if_true]
  refine wpAny_bind (wpAny_specialOf ho.typeIs F.slot_dict_iter.lookup ?_)
  simp only [beq_self_eq_true, pure_bind]
  rw [if_neg (by rw [hs]; exact Bool.false_ne_true)]
  refine wpAny_bind (wpAny_dictEntries god dod ?_)
  have key_no : ∀ e ∈ e2.toList, ∀ a, e.key ≠ .ref a := fun e he a h => by
    obtain ⟨k, hk, _⟩ := koo e (Array.mem_toList_iff.mp he)
    rw [h, nr] at hk
    cases hk
  refine wpAny_ite_split (fun _ => ?ea) (fun _ => ?eb)
  case' ea =>
    refine wpAny_bind (wpAny_dictEntries goo doo (wpAny_bind ?_))
    rw [← Array.forIn_toList]
    refine wpAny_forIn_list _ (fun rest _ t => t = s ∧ ∀ e ∈ rest, ∀ a, e.key ≠ .ref a) _ ?_ ?_ _ _ ⟨rfl, key_no⟩
    · rintro e rest b t ⟨rfl, all⟩
      have h1 := all e List.mem_cons_self
      split
      · rename_i a h
        exact absurd h (h1 a)
      · exact wpAny_pure ⟨rfl, fun x hx => all x (List.mem_cons_of_mem _ hx)⟩
    rintro b t ⟨et, _⟩
    rw [et]
  all_goals
    refine wpAny_bind (wpAny_dictEntries goo doo ?_)
    refine wpAny_bind (wpAny_dictEpoch goo doo ?_)
    refine wpAny_bind ?_
    refine wpAny_forIn_list _ (fun rest _ t => ∃ h' i, t = { s with heap := h' } ∧ rest = (List.range e2.size).drop i ∧ i ≤ e2.size ∧ h'.DictOf knd d (merged kvs (more.take i)) ∧ h'.get? o = some oo ∧ Heap.SameBut d s.heap h') _ ?_ ?_ _ _ ⟨s.heap, 0, rfl, rfl, Nat.zero_le _, by simpa [merged] using hd, goo, Heap.SameBut.refl _ _⟩
    · rintro x rest b t ⟨h', i, rfl, hr, hi, hd', go', hs'⟩
      have lt : i < e2.size := by
        rcases Nat.lt_or_ge i e2.size with h | h
        · exact h
        · rw [List.drop_of_length_le (by simpa using h)] at hr
          cases hr
      rw [List.drop_eq_getElem_cons (by simpa using lt), List.getElem_range] at hr
      obtain ⟨rfl, hrest⟩ := List.cons.inj hr
      refine wpAny_bind (wpAny_dictEntries go' doo ?_)
      rw [Array.getElem?_eq_getElem lt]
      obtain ⟨⟨k, v⟩, hkv⟩ : ∃ kv, more[x]? = some kv := ⟨more[x]'(by rw [hlen]; exact lt), List.getElem?_eq_getElem _⟩
      obtain ⟨hkey, hval⟩ := poo.get? (e := e2[x]) (by simp [lt]) hkv
      obtain ⟨k', hkey', hhash⟩ := koo e2[x] (Array.getElem_mem lt)
      obtain rfl : k' = k := knd.inj _ _ _ hkey' hkey
      have hmx : (merged kvs (more.take x)).length ≤ sizeLine := by
        have z1 := merged_length_le kvs (more.take x)
        have z2 : (more.take x).length ≤ more.length := by rw [List.length_take]; omega
        omega
      dsimp only
      rw [if_neg (by decide), hhash, hval]
      refine wpAny_bind (wpAny_holding (put_pairs hkey hd' (fun h2 hd2 hs2 => ?_) hmx))
      have go2 : h2.get? o = some oo := (hs2.2 o (Ne.symm ne)).trans go'
      refine wpAny_bind (wpAny_dictEpoch go2 doo ?_)
      rw [if_neg (by simp)]
      exact wpAny_pure ⟨h2, x + 1, rfl, hrest, lt, by rw [merged_take_succ kvs more x (k', v) hkv]; exact hd2, go2, hs'.trans hs2⟩
    · rintro b t ⟨h', i, rfl, hr, hi, hd', go', hs'⟩
      have ei : i = e2.size := by
        rcases Nat.lt_or_ge i e2.size with h | h
        · rw [List.drop_eq_getElem_cons (by simpa using h)] at hr
          cases hr
        · omega
      refine wpAny_pure (hq h' ?_ ⟨oo, e2, p2, go', coo, doo, koo, poo, noo⟩ hs')
      rw [ei, ← hlen, List.take_length] at hd'
      exact hd'
end
end XU
namespace N
open PySem PySem.Spec PyProof.Rows L2
section
variable {F : FmKit} {T : Kx} {C H H' O O' : Hp} {G : Gm} {W W' : Om} {R : D → Om → Prop} {ta tk tv : TE}
theorem Nx.unhide {q : Addr} {o : HO} (n : Nx F T (upd C q o) W H H' O') (cq : C q = none) : Nx F T C W H H' O' :=
  ⟨n.ext, n.dis, fun b x e => n.oc b x (by rw [upd_ne (ne_of_none e cq)]; exact e), ⟨n.own.nd, fun b ob m => ⟨by
    have z := (n.own.at_ b ob m).1
    by_cases e : b = q
    · rw [e]
      exact cq
    · rwa [upd_ne e] at z, (n.own.at_ b ob m).2⟩⟩⟩
end
end N
set_option Elab.async false
set_option linter.all false
set_option maxRecDepth 100000
set_option maxHeartbeats 1000000
namespace XU
open PySem
open Sem (wp)
section
variable {prog : Program} {w : World} {K : Type} [DecidableEq K] {knd : KeyKind prog w K} {A : Around} {E : Value → Shared → Prop} {s : Shared}
theorem disp_two {env : Env} {a k v l u : Expr} {pos : Pos} {Q : Value → Shared → Prop} (nr : ∀ k a, knd.is k (.ref a) = false)
    (h : wpAny (model prog w) A (eval a env) (fun m s2 => ∃ o more, m = .ref o ∧ s.heap.objs.size ≠ o ∧ (o == sysModules) = false ∧ s2.heap.DictOf knd s.heap.objs.size [] ∧ s2.heap.DictOf knd o more ∧ more.length < sizeLine ∧
      ∀ h3, h3.DictOf knd s.heap.objs.size (merged [] more) → Heap.SameBut s.heap.objs.size s2.heap h3 →
        wpAny (model prog w) A (eval k env) (fun y s4 => wpAny (model prog w) A (eval v env) (fun z s5 => wpAny (model prog w) A (eval l env) (fun y1 s6 => wpAny (model prog w) A (eval u env) (fun z1 s7 => ∃ kk kl, knd.is kk y = true ∧ knd.is kl y1 = true ∧ kk ≠ kl ∧ s7.heap.DictOf knd h3.objs.size [] ∧ s.heap.objs.size ≠ h3.objs.size ∧ (h3.objs.size == sysModules) = false ∧
          ∀ h6, h6.DictOf knd h3.objs.size [(kk, z), (kl, z1)] → Heap.SameBut h3.objs.size s7.heap h6 → ∃ cur, h6.DictOf knd s.heap.objs.size cur ∧ cur.length + 2 ≤ sizeLine ∧
            ∀ h7 tk, h7.DictOf knd s.heap.objs.size (stored (stored cur kk z) kl z1) → Heap.SameBut s.heap.objs.size h6 h7 → Q (.ref s.heap.objs.size) { s7 with heap := h7, toks := tk }) E s6) E s5) E s4) E { s2 with heap := h3.push { cls := .type "dict", data := .dict #[] } }) E
      { s with heap := s.heap.push { cls := .type "dict", data := .dict #[] } }) : wpAny (model prog w) A (eval (.Dict [none, some k, some l] [a, v, u] pos) env) Q E s := by
  rw [arm_eval_Dict]
  refine wpAny_bind (wpAny_standAt ?_)
  have e : (evalEachOpt [none, some k, some l] env).zip ((evalEach [a, v, u] env).map fun v => do let x ← v; standAt pos; pure x) = [(none, do let x ← eval a env; standAt pos; pure x), (some (eval k env), do let x ← eval v env; standAt pos; pure x), (some (eval l env), do let x ← eval u env; standAt pos; pure x)] := by rfl
  rw [e]
  unfold dictDisplay
  simp only [List.forIn_cons, List.forIn_nil, List.isEmpty_nil, if_true, pure_bind, bind_assoc, List.nil_append, List.length_cons, List.length_nil, List.isEmpty_cons, Nat.reduceAdd, Nat.reduceBEq, Bool.false_eq_true, if_false, List.cons_append]
  refine wpAny_bind (wpAny_alloc ?_)
  refine wpAny_bind (wpAny_holding (wpAny_bind (wpAny_mono h (fun m s2 z => ?_) fun _ _ e => e)))
  obtain ⟨o, more, rfl, ne, hs, d1, d2, hl, h⟩ := z
  refine wpAny_bind (wpAny_standAt (wpAny_pure ?_))
  refine wpAny_bind (wpAny_onRaise (wpAny_tryCatch (wpAny_onRaise (wpAny_holding (merge_map nr ne hs d1 d2 (fun h3 z1 z2 z3 => ?_) (by simpa using Nat.le_of_lt hl))))))
  have h := h h3 z1 z3
  refine wpAny_bind (wpAny_holding (wpAny_subDict (knd := knd) (Nat.le_of_ble_eq_true rfl) ?_))
  refine evalPairs_cons (wpAny_mono h (fun y s4 h4 => wpAny_bind (wpAny_mono h4 (fun z s5 h5 => ?_) fun _ _ e => e)) fun _ _ e => e)
  refine wpAny_bind (wpAny_standAt (wpAny_pure ?_))
  refine evalPairs_cons (wpAny_mono h5 (fun y1 s6 h6 => wpAny_bind (wpAny_mono h6 (fun z1 s7 h7 => ?_) fun _ _ e => e)) fun _ _ e => e)
  refine wpAny_bind (wpAny_standAt (wpAny_pure (evalPairs_nil ?_)))
  obtain ⟨kk, kl, g1, g1', gne, g2, g3, g4, g5⟩ := h7
  refine ⟨[(kk, z), (kl, z1)], ⟨g1, rfl, g1', rfl, trivial⟩, g2, fun h6 z6 z7 => ?_⟩
  have em : merged [] [(kk, z), (kl, z1)] = [(kk, z), (kl, z1)] := by
    show stored (stored [] kk z) kl z1 = _
    simp [stored, gne]
  rw [em] at z6
  obtain ⟨cur, g6, hm, g7⟩ := g5 h6 z6 z7
  refine wpAny_bind (wpAny_onRaise (wpAny_holding (merge_map nr g3 g4 g6 z6 (fun h7 y1 y2 y3 => ?_) hm)))
  exact wpAny_pure (g7 h7 _ y1 y3)
end
end XU
namespace N
open PySem PySem.Spec PyProof.Rows L2
/-- {**a, k: v, l: u} -/
def tDispS2 (ta tk tv tl tu : TE) : TE := fun σ H Q => ∀ p, H p = none → ta σ (upd H p (.dK [])) fun x H2 => ∃ o more, x = .ref o ∧ o ≠ p ∧ H2 p = some (.dK []) ∧ Rd H2 o (.dK more) ∧ more.length + 1 ≤ sizeLine ∧
  ∀ q, upd H2 p (.dK (mergeK [] more)) q = none → tk σ (upd (upd H2 p (.dK (mergeK [] more))) q (.dK [])) fun y H3 => tv σ H3 fun z H4 => tl σ H4 fun y1 H5 => tu σ H5 fun z1 H6 => ∃ k l cur, y = kV k ∧ y1 = kV l ∧ k ≠ l ∧ H6 q = some (.dK []) ∧ H6 p = some (.dK cur) ∧ cur.length + 2 ≤ sizeLine ∧
    Q (.ref p) (upd (upd H6 q (.dK [(k, z), (l, z1)])) p (.dK (putK (putK cur k z) l z1)))
theorem pe_dispS2 {X : Cx} {pos : Pos} {a k v l u : Expr} {ta tk tv tl tu : TE} (ha : PE X a ta) (hk : PE X k tk) (hv : PE X v tv) (hl : PE X l tl) (hu : PE X u tu) : PE X (.Dict [none, some k, some l] [a, v, u] pos) (tDispS2 ta tk tv tl tu) := by
  refine ⟨fun pins s σ H Q I q => ?_⟩
  have hn := I.hok.fresh (Nat.le_refl s.heap.objs.size)
  have I1 := I.laid (a := s.heap.objs.size) (o := .dK []) (h' := s.heap.push { cls := .type "dict", data := .dict #[] }) (t' := s.toks) (fun _ _ z => Heap.get?_push_of_some _ z) (Nat.le_refl _) (dk_empty s.heap I.big)
  refine XU.disp_two (knd := mixKind X.prog X.w) (fun k a => by cases k <;> rfl) (thn (ha.run pins _ σ _ _ I1 (q _ hn)) fun m s2 ⟨x, H2, I2, rx, o, more, ex, ne, e2, eo, hz, q2⟩ => ?_)
  subst ex
  obtain rfl : m = Value.ref o := rx
  obtain ⟨_, hd1, vs1, r1, dd1⟩ := dk_of I2.hok e2
  cases r1
  obtain ⟨_, hd2, vs2, r2, dd2⟩ := dk_rd I2.hok eo
  refine ⟨o, vs2, rfl, fun e => ne e.symm, hd2, dd1, dd2, by rw [← r2.length]; omega, fun h3 d3 hs3 => ?_⟩
  have hm : (mergeK [] more).length ≤ sizeLine := by
    have := length_mergeK more []
    rw [List.length_nil] at this
    omega
  have I3 := d_write (t' := s2.toks) (ob := .dK (mergeK [] more)) I2 (by rw [e2]; exact True.intro) hs3 (let ⟨q, _, _, hq, _⟩ := d3; ⟨q, hq⟩) (dk_new hm hd1 (r2.merge .nil) d3)
  have hq := I3.hok.fresh (Nat.le_refl h3.objs.size)
  have I4 := I3.laid (a := h3.objs.size) (o := .dK []) (h' := h3.push { cls := .type "dict", data := .dict #[] }) (t' := s2.toks) (fun _ _ z => Heap.get?_push_of_some _ z) (Nat.le_refl _) (dk_empty h3 I3.big)
  refine thn (hk.run pins _ σ _ _ I4 (q2 _ hq)) fun y s4 ⟨y', H5, I5, ry, q5⟩ => thn (hv.run pins _ σ _ _ I5 q5) fun z s6 ⟨z', H6, I6, rz, q6⟩ =>
    thn (hl.run pins _ σ _ _ I6 q6) fun y1 s7 ⟨y1', H7, I7, ry1, q7⟩ => thn (hu.run pins _ σ _ _ I7 q7) fun z1 s8 ⟨z1', H8, I8, rz1, kk, kl, cur, ey, ey1, hne, eq, ep, hc, q8⟩ => ?_
  subst ey ey1
  obtain ⟨_, hdq, vsq, rq, ddq⟩ := dk_of I8.hok eq
  cases rq
  have npq : s.heap.objs.size ≠ h3.objs.size := fun e => by
    rw [← e, upd_same] at hq
    cases hq
  refine ⟨kk, kl, kV_is ry, kV_is ry1, hne, ddq, npq, hdq, fun h9 d9 hs9 => ?_⟩
  have I9 := d_write (t' := s8.toks) (ob := .dK [(kk, z'), (kl, z1')]) I8 (by rw [eq]; exact True.intro) hs9 (let ⟨q, _, _, hq, _⟩ := d9; ⟨q, hq⟩) (dk_new (by rw [sizeLine_eq]; exact Nat.le_of_ble_eq_true rfl) hdq (show KV [(kk, z'), (kl, z1')] [(kk, z), (kl, z1)] from .cons ⟨rfl, rz⟩ (.cons ⟨rfl, rz1⟩ .nil)) d9)
  have ep9 : upd H8 h3.objs.size (.dK [(kk, z'), (kl, z1')]) s.heap.objs.size = some (.dK cur) := by rw [upd_ne npq]; exact ep
  obtain ⟨_, hdp, vsp, rp, ddp⟩ := dk_of I9.hok ep9
  refine ⟨vsp, ddp, by rw [← rp.length]; exact hc, fun h10 tk d10 hs10 => ?_⟩
  have hz10 : (putK (putK cur kk z') kl z1').length ≤ sizeLine := by
    have := length_putK cur kk z'
    have := length_putK (putK cur kk z') kl z1'
    omega
  have I10 := d_write (t' := tk) (ob := .dK (putK (putK cur kk z') kl z1')) I9 (by rw [ep9]; exact True.intro) hs10 (let ⟨q, _, _, hq, _⟩ := d10; ⟨q, hq⟩) (dk_new hz10 hdp ((rp.put kk rz).put kl rz1) d10)
  exact ⟨.ref s.heap.objs.size, _, I10, rfl, q8⟩
section
variable {F : FmKit} {T : Kx} {C H H' O O' : Hp} {G : Gm} {W W' : Om} {R : D → Om → Prop} {ta tk tv tl tu : TE}
theorem ev_dispS2 (h : Ev F T ta G W fun d W1 => ∃ ps : List (Key × D), d = .dp ps ∧ ps.length + 2 ≤ sizeLine ∧ Ev F T tk G W1 fun y W2 => Ev F T tv G W2 fun z W3 => Ev F T tl G W3 fun y1 W4 => Ev F T tu G W4 fun z1 W5 => ∃ k l, y = kD k ∧ y1 = kD l ∧ k ≠ l ∧ ∀ p, p ∉ akeys W5 → R (.adr p) ((p, .dp (putG (putG (mergeG ps) k z) l z1)) :: W5)) :
    Ev F T (tDispS2 ta tk tv tl tu) G W R := fun C H O σ w Q q p hp => by
  obtain ⟨n0, e0, cp⟩ := w.nx.hide (o := .dK []) hp
  rw [e0]
  refine h (upd C p (.dK [])) H (upd O p (.dK [])) σ ⟨n0.dis, n0.oc, w.loc, n0.own⟩ _ fun d W1 H1 O1 x ⟨ps, ed, hl, h1⟩ n1 k1 => ?_
  subst ed
  obtain ⟨o, kvs, ex, ho, e1, nd, dl⟩ := k1
  have hO : O1 p = some (.dK []) := n1.oc p _ upd_same
  have op : o ≠ p := fun e => by
    rw [e, n1.dis p _ hO] at ho
    cases ho
  have hlen : kvs.length = ps.length := by
    have := congrArg List.length e1
    rwa [List.length_map, List.length_map] at this
  refine ⟨o, kvs, ex, op, ov_own hO, .inl (n1.dis.same _ _ ho), by omega, fun b hb => ?_⟩
  obtain ⟨m1, m2, m3⟩ := mergeK_keys (F := F) (T := T) (H := H1) (acc := []) (av := []) e1 rfl List.nodup_nil dl (show DenL F T H1 (([] : List (Key × D)).map (·.2)) (([] : List (Key × V)).map (·.2)) from rfl)
  obtain ⟨n2, e2⟩ := Nx.rehide (o' := .dK (mergeK [] kvs)) n1 cp
  rw [e2] at hb ⊢
  obtain ⟨n3, e3, cb⟩ := n2.hide (o := .dK []) hb
  rw [e3]
  have w3 : Wd F T (upd (upd C p (.dK (mergeK [] kvs))) b (.dK [])) G W1 H1 (upd (upd O1 p (.dK (mergeK [] kvs))) b (.dK [])) σ := ⟨n3.dis, n3.oc, w.loc.mono n1.ext, n3.own⟩
  refine h1 _ H1 _ σ w3 _ fun y W2 H2 O2 yv h2 n4 k4 => h2 _ H2 O2 σ (w3.step n4) _ fun z W3 H3 O3 zv h3 n5 k5 => h3 _ H3 O3 σ ((w3.step n4).step n5) _ fun y1 W4 H4 O4 y1v h4 n6 k6 => h4 _ H4 O4 σ (((w3.step n4).step n5).step n6) _ fun z1 W5 H5 O5 z1v ⟨k, l, ek, el, hne, r⟩ n7 k7 => ?_
  subst ek el
  have bp : b ≠ p := fun e => by
    rw [e, upd_same] at cb
    cases cb
  have hb3 : O5 b = some (.dK []) := n7.oc b _ upd_same
  have hp3 : O5 p = some (.dK (mergeK [] kvs)) := n7.oc p _ (by rw [upd_ne (Ne.symm bp)]; exact upd_same)
  have hml := length_mergeK kvs []
  rw [List.length_nil] at hml
  refine ⟨k, l, mergeK [] kvs, k4, k6, hne, ov_own hb3, ov_own hp3, by omega, ?_⟩
  obtain ⟨n8, e8⟩ := Nx.rehide (C := upd C p (.dK (mergeK [] kvs))) (o' := .dK [(k, zv), (l, z1v)]) n7 cb
  rw [e8]
  have comm : upd (upd C p (.dK (mergeK [] kvs))) b (.dK [(k, zv), (l, z1v)]) = upd (upd C b (.dK [(k, zv), (l, z1v)])) p (.dK (mergeK [] kvs)) := by
    funext c
    by_cases c1 : c = b
    · subst c1
      rw [upd_same, upd_ne bp, upd_same]
    · rw [upd_ne c1]
      by_cases c2 : c = p
      · subst c2
        rw [upd_same, upd_same]
      · rw [upd_ne c2, upd_ne c2, upd_ne c1]
  rw [comm] at n8
  have cp2 : upd C b (.dK [(k, zv), (l, z1v)]) p = none := by rw [upd_ne (Ne.symm bp)]; exact cp
  have cb2 : C b = none := by rwa [upd_ne bp] at cb
  obtain ⟨n9, e9⟩ := Nx.rehide (C := upd C b (.dK [(k, zv), (l, z1v)])) (o' := .dK (putK (putK (mergeK [] kvs) k zv) l z1v)) n8 cp2
  rw [e9]
  have k5' : Den F T H5 z zv := (k5.mono n6.ext).mono n7.ext
  obtain ⟨g1, g2, g3⟩ := mergeK_keys (F := F) (T := T) (H := H5) (ps := [(k, z), (l, z1)]) (kvs := [(k, zv), (l, z1v)]) (acc := mergeG ps) (av := mergeK [] kvs) rfl m1 m2 ⟨zv, [z1v], rfl, k5', z1v, [], rfl, k7, rfl⟩ (m3.mono (((n4.ext.trans n5.ext).trans n6.ext).trans n7.ext))
  obtain ⟨n10, np⟩ := n9.show (od := .dp (putG (putG (mergeG ps) k z) l z1)) cp2 ⟨putK (putK (mergeK [] kvs) k zv) l z1v, rfl, g1, g2, g3⟩
  have n11 := n10.unhide cb2
  exact q (.adr p) _ H5 _ _ (r p np) ⟨n1.ext.trans (n4.ext.trans (n5.ext.trans (n6.ext.trans n11.ext))), n11.dis, n11.oc, n11.own⟩ rfl
end
end N
set_option Elab.async false
set_option linter.all false
set_option maxRecDepth 100000
set_option Elab.async false
set_option linter.all false
set_option maxRecDepth 100000
set_option maxHeartbeats 1000000
namespace N
open PySem PySem.Spec PyProof.Rows L2
/-- a right book -/
structure BkOk (b : Plr) : Prop where
  some_ : b ≠ []
  few : b.length ≤ 5
  asc : (b.map (·.1)).Pairwise (· < ·)
  cap : ∀ p ∈ b, 65 ≤ p.1 ∧ p.1 ≤ 90
  form : ∀ p ∈ b, p.2.okF ∧ p.2.ht < 90
  bok : Bok b
theorem BkOk.nd {b : Plr} (h : BkOk b) : (b.map (·.1)).Nodup := h.asc.imp fun h => Nat.ne_of_lt h
def bodyF : Fm → Fm
  | .all x => x
  | f => f
abbrev kN (c : Nat) : Key := Sum.inr (sg c)
def inKs (f : Fm) : List Key := f.alls.map fun g => Sum.inr g.spell
def inPs (f : Fm) : List (Key × D) := f.alls.map fun g => (Sum.inr g.spell, .fm (bodyF g))
def frPs (b : Plr) : List (Key × D) := b.map fun p => (kN p.1, .fm p.2)
abbrev pin (ps : List (Key × D)) : D := .dcz (ps.map (·.1)) (ps.map (·.2))
def innD (f : Fm) : D := pin (inPs f)
def inaPs (b : Plr) : List (Key × D) := b.map fun p => (kN p.1, innD p.2)
def kP (p : Nat × Nat) : D := .tup [.str (sg p.1), .str (sg p.2)]
/-- which all-parts of a player still hold -/
def stL (b : Plr) (p : Nat × Nat) (k : Nat) : List Bool := (frmB b p.1).alls.map fun g => stB b p k (bodyF g)
def stD (w : World) (b : Plr) (k : Nat) : D := .kdd w ((prsB b).map kP) ((prsB b).map fun p => dB (inKs (frmB b p.1)) (stL b p k))
def hereD (w : World) (b : Plr) (k : Nat) : D := .kdd w ((prsB b).map kP) ((prsB b).map fun p => .bl (deed b p k))
def bkD (w : World) (b : Plr) (L : Nat) : D := .obj 5 bkNames [pin (frPs b), .lst ((List.range (L + 1)).map (hereD w b))]
/-- the first level at which nothing changes any more -/
def restB (b : Plr) (L : Nat) : Prop := still b L ∧ ∀ k, k < L → ¬ still b k
theorem rest_ex (b : Plr) : ∃ L, L ≤ (allB2 b).length ∧ restB b L := by
  obtain ⟨L, hL, hs⟩ := still_ex b
  have key : ∀ n, (∀ k, k < n → ¬ still b k) ∨ ∃ m, m < n ∧ restB b m := by
    intro n
    induction n with
    | zero => exact .inl fun k hk => absurd hk (Nat.not_lt_zero _)
    | succ n ih =>
      rcases ih with ih | ⟨m, h1, h2⟩
      · by_cases h : still b n
        · exact .inr ⟨n, Nat.lt_succ_self _, h, ih⟩
        · exact .inl fun k hk => by
            rcases Nat.lt_succ_iff_lt_or_eq.mp hk with hk | rfl
            · exact ih k hk
            · exact h
      · exact .inr ⟨m, by omega, h2⟩
  rcases key (L + 1) with h | ⟨m, h1, h2⟩
  · exact absurd hs (h L (Nat.lt_succ_self _))
  · exact ⟨m, by omega, h2⟩
theorem ky_kP (p : Nat × Nat) : Kyd (kP p) (.tup [.text (sg p.1), .text (sg p.2)]) := ⟨by simp [kP, nkOf, nkOfL], ⟨_, rfl⟩, by show max 0 (max 0 0) + 1 ≤ 8; decide⟩
theorem nk_kP (p : Nat × Nat) : nkOf (kP p) = some (.tup [.text (sg p.1), .text (sg p.2)]) := (ky_kP p).1
theorem nk_inj {p q : Nat × Nat} (h : nkOf (kP p) = nkOf (kP q)) : p = q := by
  rw [nk_kP, nk_kP] at h
  injection h with h
  injection h with h
  obtain ⟨h1, h2⟩ := List.cons.inj h
  obtain ⟨h2, _⟩ := List.cons.inj h2
  injection h1 with h1
  injection h2 with h2
  exact Prod.ext (sg_inj h1) (sg_inj h2)
/-- what stands at a pair -/
theorem getQ_pair {f : Nat × Nat → D} {p : Nat × Nat} : ∀ {l : List (Nat × Nat)}, p ∈ l → getQ (l.map fun q => (kP q, f q)) (.tup [.text (sg p.1), .text (sg p.2)]) = some (f p)
  | [], h => nomatch h
  | q :: l, h => by
    rw [List.map_cons, getQ_cons]
    by_cases e : p = q
    · subst e
      rw [if_pos (nk_kP p)]
    · rw [if_neg fun z => e (nk_inj ((nk_kP p).trans z.symm))]
      exact getQ_pair ((List.mem_cons.mp h).resolve_left e)
theorem kdd_pairs (w : World) (l : List (Nat × Nat)) (f : Nat × Nat → D) : D.kdd w (l.map kP) (l.map f) = .kdd w ((l.map fun q => (kP q, f q)).map (·.1)) ((l.map fun q => (kP q, f q)).map (·.2)) := by
  rw [List.map_map, List.map_map]
  rfl
theorem getG_fr {α : Type} {f : Nat × α → D} {p : Nat × α} : ∀ {l : List (Nat × α)}, (l.map (·.1)).Nodup → p ∈ l → getG (l.map fun q => ((kN q.1 : Key), f q)) (kN p.1) = some (f p)
  | [], _, h => nomatch h
  | q :: l, nd, h => by
    rw [List.map_cons, List.nodup_cons] at nd
    rcases List.mem_cons.mp h with rfl | h
    · exact getG_hd _ _ _
    · rw [List.map_cons]
      refine getG_tl (decide_eq_false fun e => nd.1 ?_) (getG_fr nd.2 h)
      have e : sg q.1 = sg p.1 := Sum.inr.inj e
      rw [sg_inj e]
      exact List.mem_map.mpr ⟨p, h, rfl⟩
theorem frmB_mem {b : Plr} (nd : (b.map (·.1)).Nodup) {p : Nat × Fm} (h : p ∈ b) : frmB b p.1 = p.2 := by
  unfold frmB
  rw [lookN_of nd h]
  rfl
theorem pairs_nd : ∀ {l m : List Nat}, l.Nodup → m.Nodup → (l.flatMap fun x => m.map fun y => (x, y)).Nodup
  | [], m, _, _ => List.nodup_nil
  | x :: l, m, h, hm => by
    rw [List.nodup_cons] at h
    rw [List.flatMap_cons]
    refine List.nodup_append.mpr ⟨?_, pairs_nd h.2 hm, fun a ha b hb e => ?_⟩
    · exact List.Pairwise.map _ (fun a b hne e => hne (congrArg Prod.snd e)) hm
    · subst e
      obtain ⟨u, _, rfl⟩ := List.mem_map.mp ha
      obtain ⟨z, hz, hz2⟩ := List.mem_flatMap.mp hb
      obtain ⟨v, _, e⟩ := List.mem_map.mp hz2
      have e1 : z = x := congrArg Prod.fst e
      exact h.1 (e1 ▸ hz)
theorem prsB_eq (b : Plr) : prsB b = (b.map (·.1)).flatMap fun x => (b.map (·.1)).map fun y => (x, y) := by
  unfold prsB
  rw [List.flatMap_map]
  congr 1
  funext x
  rw [List.map_map]
  rfl
theorem prsB_nd {b : Plr} (nd : (b.map (·.1)).Nodup) : (prsB b).Nodup := by
  rw [prsB_eq]
  exact pairs_nd nd nd
theorem keys_pairs {b : Plr} (nd : (b.map (·.1)).Nodup) : ((prsB b).map fun p => nkOf (kP p)).Nodup :=
  List.Pairwise.map _ (fun a b hne e => hne (nk_inj e)) (prsB_nd nd)
theorem prsB_len (b : Plr) : (prsB b).length = b.length * b.length := by
  rw [prsB_eq, List.length_flatMap]
  simp [List.map_map, Function.comp_def, List.map_const', List.sum_replicate_nat]
def S_holdsby (j : Nat) : FS := fun ds W post => ∃ (f : Fm) (ps qs : List (Key × D)) (σ : Fm → Bool) (at_ : Nat → Bool), ds = [.fm f, .dp ps, .dp qs] ∧ W = [] ∧ f.ht < j ∧
  (∀ x, Fm.all x ∈ f.alls → getG ps (Sum.inr (Fm.all x).spell) = some (.bl (σ x))) ∧ (∀ c ∈ lets f.outer, getG qs (kN c) = some (.bl (at_ c))) ∧ post (.bl (hs σ at_ f)) []
def S_innerby : FS := fun ds W post => ∃ f : Fm, ds = [.fm f] ∧ W = [] ∧ f.okF ∧ post (innD f) []
def S_statebeh (w : World) : FS := fun ds W post => ∃ (b : Plr) (p : Nat × Nat) (k : Nat), ds = [pin (inaPs b), kP p, dB (inKs (frmB b p.1)) (stL b p k), hereD w b k] ∧ W = [] ∧ BkOk b ∧ prB b p ∧ post (dB (inKs (frmB b p.1)) (stL b p (k + 1))) []
def S_levels (w : World) : FS := fun ds W post => ∃ b : Plr, ds = [pin (frPs b)] ∧ W = [] ∧ BkOk b ∧ ∀ L, L ≤ (allB2 b).length → restB b L → post (.lst ((List.range (L + 1)).map (hereD w b))) []
def S_isplayer : FS := fun ds W post => ∃ (b : Plr) (f : Fm), ds = [.lst (b.map fun p => .str (sg p.1)), .fm f] ∧ W = [] ∧ f.okF ∧ inn f ∧ ltp (isN b) f ∧ b.length ≤ 10 ∧ post (.bl true) []
def S_checkBk : FS := fun ds W post => ∃ es : List (Nat × D × Fm), ds = [argR es] ∧ W = [] ∧ (∀ e ∈ es, Opd e.2.1 e.2.2) ∧ BkOk (rsOf es) ∧ post .non []
def S_initBk (w : World) : FS := fun ds W post => ∃ (x : Addr) (es : List (Nat × D × Fm)), ds = [.adr x, argR es] ∧ W = [(x, .ins 5 [] [])] ∧ (∀ e ∈ es, Opd e.2.1 e.2.2) ∧ BkOk (rsOf es) ∧
  ∀ L, L ≤ (allB2 (rsOf es)).length → restB (rsOf es) L → post .non [(x, .ins 5 bkNames [pin (frPs (rsOf es)), .lst ((List.range (L + 1)).map (hereD w (rsOf es)))])]
/-- one of the two, told in a book at rest -/
def S_knownBk (w : World) : FS := fun ds W post => ∃ (b : Plr) (L : Nat) (cs : List Nat), ds = [bkD w b L, .tup (cs.map fun c => .str (sg c))] ∧ W = [] ∧ BkOk b ∧ (∀ c ∈ cs, c ∈ b.map (·.1)) ∧ post .non []
def S_deedsBk (w : World) : FS := fun ds W post => ∃ (b : Plr) (L : Nat) (p : Nat × Nat), ds = [bkD w b L, .str (sg p.1), .str (sg p.2)] ∧ W = [] ∧ BkOk b ∧ prB b p ∧ L < 100000 ∧ post (.lst ((List.range (L + 1)).map fun k => .bl (deed b p k))) []
def S_endBk (w : World) : FS := fun ds W post => ∃ (b : Plr) (L : Nat) (p : Nat × Nat), ds = [bkD w b L, .str (sg p.1), .str (sg p.2)] ∧ W = [] ∧ BkOk b ∧ prB b p ∧ L < 100000 ∧ post (.tup [.bl (deed b p L), .bl (deed b (p.2, p.1) L)]) []
end N
set_option Elab.async false
set_option linter.all false
set_option maxRecDepth 100000
set_option maxHeartbeats 4000000
namespace N
open PySem PySem.Spec PyProof.Rows L2 PpSet
section
variable {X : Cx}
theorem dcK_core {pins : List (Addr × Obj)} {s : Shared} {σ : L2.St} {H : Hp} {Q : VK} {kx vx tg iter : Expr} {ifs : List Expr} {scope : Scope} {own : List (PySem.Str × Nat)} {pos pos2 : Pos} {wi : TI} {g : TG} {tt : TT} {tk tv : TE} {use : Option (Value → Sem Unit)} {Qf : Value → Shared → Prop} (hu : X.A.units + 64 < cLine) (hc : X.calm = true) (hN : X.N.Nodup) (I : Inv X pins σ H s) (hi : PI X tg iter wi) (ok : BlkOk X.N X.env.scope scope own)
    (hg : ∀ (s : Shared) (H : Hp) (C : Addr) (cl : List (PySem.Str × Addr)) (fp : List Addr), PG (X.blk s H scope (compEnvC scope cl C X.env) fp) tg g) (ht : ∀ (s : Shared) (H : Hp) (C : Addr) (cl : List (PySem.Str × Addr)) (fp : List Addr), PTs (X.blk s H scope (compEnvC scope cl C X.env) fp) ifs tt)
    (hk : ∀ (s : Shared) (H : Hp) (C : Addr) (cl : List (PySem.Str × Addr)) (fp : List Addr), PE (X.blk s H scope (compEnvC scope cl C X.env) fp) kx tk)
    (he : ∀ (s : Shared) (H : Hp) (C : Addr) (cl : List (PySem.Str × Addr)) (fp : List Addr), PE (X.blk s H scope (compEnvC scope cl C X.env) fp) vx tv) (hs : ∀ x, foldedSetIterable iter X.env x = pure x)
    (h : tDcK X.K X.w wi g tt tk tv (own.map (·.2)) σ H Q)
    (hRR : ∀ D C s' m H', Inv X pins σ H' s' → Q (.ref D) H' → s'.heap.Ns C m → FpOk X pins H' C → compPost (model X.prog X.w) X.A X.xe use Qf (.ref D) C (.ok .next) s') :
    wpAny (model X.prog X.w) X.A (comprehension (.DictComp kx vx [⟨tg, iter, ifs, 0⟩] scope pos) scope X.env pos2 newDict false (eval iter X.env) use) Qf X.xe s := by
  have hfree : ∀ y ∈ scope.names, y.2 = .free → ∃ c, X.env.cells.lookup y.1 = some c := fun y hy e => by
    rcases ok.free y hy e with k | k
    · exact I.ok.has _ (.inl k)
    · exact I.ok.has _ (.inr k)
  refine wpAny_comprehension_free (use := use) rfl hs (closure_ok hfree) ok.kind (fun y hy e => by rw [ok.uniq y hy, e])
    (thn (hi.run pins s σ H _ I h) fun xv s1 hx => thn hx fun itv s2 h2 => ?_)
  obtain ⟨it, fp, tn, J, H2, e, I2, T, st2, f2, q⟩ := h2
  subst e
  refine wpAny_newObj_type (newEnv_comp ?_)
  obtain ⟨W, ⟨m0, w0⟩, turn⟩ := q s2.heap.objs.size (I2.hok.fresh (Nat.le_refl _))
  -- with the new dict
  have pushed : ∀ {h : Heap} {b : Addr} {o u : Obj}, h.get? b = some o → (h.push u).get? b = some o := fun e => Heap.get?_push_of_some _ e
  have J1 : Inv X pins σ (upd H2 s2.heap.objs.size (NkO X.w s2.heap.objs.size [])) { s2 with heap := s2.heap.push { cls := .type "dict", data := .dict #[] } } :=
    I2.laid (t' := s2.toks) (fun b o e => pushed e) (Nat.le_refl _) (nk_new (us := []) (beq_eq_false_iff_ne.mpr (Ne.symm (Nat.ne_of_lt I2.big))) (Heap.DictOfH.new s2.heap) .nil)
  have small : ∀ b ∈ fp, b < s2.heap.objs.size := fun b hb => by
    obtain ⟨o, e, _⟩ := T.obj _ _ st2 b hb
    exact Heap.lt_size e
  revert w0 turn J1
  generalize e3 : s2.heap.objs.size = p
  intro turn w0 J1
  generalize hH3 : upd H2 p (NkO X.w p []) = H3 at w0 J1
  generalize hs3 : ({ s2 with heap := s2.heap.push { cls := .type "dict", data := .dict #[] } } : Shared) = s3 at J1
  have h3 : s3.heap = s2.heap.push { cls := .type "dict", data := .dict #[] } := by rw [← hs3]
  have f3 : ∀ b ∈ fp, FpOk X pins H3 b ∧ b < s3.heap.objs.size := fun b hb => by
    have hlt := small b hb
    refine ⟨⟨?_, (f2 b hb).2⟩, by rw [h3, Heap.size_push]; exact Nat.lt_succ_of_lt hlt⟩
    rw [← hH3, upd_ne (by rw [← e3]; exact Nat.ne_of_lt hlt)]
    exact (f2 b hb).1
  have st3 : tn 0 s3.heap := T.keep _ _ _ st2 fun b _ o e => by rw [h3]; exact pushed e
  have I4 := block_start J1 ok hN f3
  have pg := hg s3 H3 s3.heap.objs.size (cellsFrom (s3.heap.objs.size + 1) scope.names (cloFrom X.env.cells scope.names [])) fp
  have pt := ht s3 H3 s3.heap.objs.size (cellsFrom (s3.heap.objs.size + 1) scope.names (cloFrom X.env.cells scope.names [])) fp
  have pk := hk s3 H3 s3.heap.objs.size (cellsFrom (s3.heap.objs.size + 1) scope.names (cloFrom X.env.cells scope.names [])) fp
  have pe := he s3 H3 s3.heap.objs.size (cellsFrom (s3.heap.objs.size + 1) scope.names (cloFrom X.env.cells scope.names [])) fp
  have el : ∀ (scp : Scope) (cs : List (PySem.Str × Addr)) (L : Addr) (ev : Env), (compEnvC scp cs L ev).locals = L := fun _ _ _ _ => rfl
  have goal : ∀ ce, compEnvC scope (cellsFrom (s3.heap.objs.size + 1) scope.names (cloFrom X.env.cells scope.names [])) s3.heap.objs.size X.env = ce →
      codeAny (model X.prog X.w) X.A (.compStart (.DictComp kx vx [⟨tg, iter, ifs, 0⟩] scope pos) 0 (.ref it) (.ref p) ce) (compPost (model X.prog X.w) X.A X.xe use Qf (.ref p) s3.heap.objs.size) { s3 with heap := pushCells (s3.heap.push { cls := .type "dict", data := .dict #[] }) scope.names } := by
    intro ce hce
    have cL : ce.locals = s3.heap.objs.size := by rw [← hce]; exact el _ _ _ _
    rw [hce] at I4 pg pt pk pe
    generalize hs4 : ({ s3 with heap := pushCells (s3.heap.push { cls := .type "dict", data := .dict #[] }) scope.names } : Shared) = s4 at I4 ⊢
    have st4 : tn 0 s4.heap := T.keep _ _ _ st3 fun b _ o e => by rw [← hs4]; exact pushCells_keeps _ _ _ _ (pushed e)
    have stat : ∀ {σ' : L2.St} {H' : Hp} {s' : Shared}, Inv (X.blk s3 H3 scope ce fp) [] σ' H' s' → (∀ b ∈ fp, H' b = none) → ∀ b ∈ fp, FpOk (X.blk s3 H3 scope ce fp) [] H' b := fun I' hn b hb =>
      ⟨hn b hb, (I'.ok.exf b hb).1, I'.ok.exfs b hb, .inl hb, fun x c e => (I'.ok.exf b hb).2 x c e, fun p hp => absurd (show p ∈ ([] : List (Addr × Obj)) ++ [] from hp) (by simp)⟩
    refine codeAny_compStart_dict ?loop (T.self X.A 0 _ _ _ st4 ?loop)
    refine compLoop_anyD (fun n s' => ∃ i H', Inv (X.blk s3 H3 scope ce fp) [] (wipe σ (own.map (·.2))) H' s' ∧ tn i s'.heap ∧ (∀ b ∈ fp, H' b = none) ∧ W i n H') ?_ m0 ⟨0, H3, I4, st4, fun b hb => (f3 b hb).1.1, w0⟩
    rintro n s5 ⟨i, H5, I5, st5, n5, w5⟩
    rcases turn i n H5 w5 with ⟨stop, qq⟩ | ⟨go, Nx, hNx, step⟩
    · refine thnF (T.done (X.blk s3 H3 scope ce fp) rfl rfl rfl hc i [] s5 _ H5 (fun _ _ => False) I5 (stat I5 n5) st5 stop) fun r s6 ⟨hr, I6⟩ => ?_
      subst hr
      have I7 : Inv X pins σ H5 s6 := J1.call' (ch := fp) I6.os I6.base I6.hok I6.bare fun b hb => ⟨(f3 b hb).1.2.2.2.1, (f3 b hb).1.2.1, (f3 b hb).1.2.2.2.2.1, (f3 b hb).1.2.2.2.2.2⟩
      have nC : H5 s3.heap.objs.size = none := cL ▸ (show H5 ce.locals = none from I6.free)
      obtain ⟨m, hn, _⟩ := I6.loc
      have hn : s6.heap.Ns s3.heap.objs.size m := cL ▸ (show s6.heap.Ns ce.locals m from hn)
      exact hRR p s3.heap.objs.size s6 m H5 I7 qq hn (J1.fpOk (Nat.le_refl _) nC)
    · refine thnF (T.item (X.blk s3 H3 scope ce fp) rfl rfl rfl hc i [] s5 _ H5 (fun _ _ => False) I5 (stat I5 n5) st5 go) fun r s6 ⟨u, hr, h6⟩ => ?_
      subst hr
      refine thnF h6 fun _ s7 ⟨x, H7, I7, r7, y7, st7, n7⟩ => ?_
      have I7' := I7.pinned (stat I7 n7) (T.obj _ _ st7)
      refine thnF (pg.run _ s7 _ H7 x u _ I7' r7 (step x H7 y7)) fun _ s8 ⟨σ8, H8, I8, hw8, q8⟩ => ?_
      refine thnF (pt.run _ s8 σ8 H8 _ I8 q8) fun b s9 ⟨H9, I9, q9⟩ => ?_
      have next : ∀ {s' : Shared} {H' : Hp}, Inv (X.blk s3 H3 scope ce fp) ([] ++ pinsAt fp s7.heap) σ8 H' s' → Nx H' → ∃ m, m < n ∧ ∃ i H', Inv (X.blk s3 H3 scope ce fp) [] (wipe σ (own.map (·.2))) H' s' ∧ tn i s'.heap ∧ (∀ b ∈ fp, H' b = none) ∧ W i m H' := fun {s' H'} I' nx => by
        obtain ⟨m', hm, w'⟩ := hNx H' nx
        have pin : ∀ b ∈ fp, ∀ o, s7.heap.get? b = some o → s'.heap.get? b = some o ∧ H' b = none := fun b hb o e =>
          have z := I'.pin (b, o) (List.mem_append_right _ (List.mem_append_right _ (mem_pinsAt hb e)))
          ⟨z.1, z.2.1⟩
        refine ⟨m', hm, i + 1, H', (I'.unpinned (pins := [])).weak (by rw [← hw8, wipe_length]) (fun j v e => (wipe_some (hw8 ▸ e)).1), T.keep _ _ _ st7 fun b hb o e => (pin b hb o e).1, fun b hb => ?_, w'⟩
        obtain ⟨o, e, _⟩ := T.obj _ _ st7 b hb
        exact (pin b hb o e).2
      cases b with
      | false => exact next I9 q9
      | true =>
        refine thnF (pk.run _ s9 σ8 H9 _ I9 q9) fun z s10 ⟨yk, H10, I10, r10, q10⟩ => ?_
        refine thnF (pe.run _ s10 σ8 H10 _ I10 q10) fun z2 s11 ⟨yv, H11, I11, r11, ka, as, k, ek, hn, hk, hd, hz, nx⟩ => ?_
        subst ek
        obtain rfl : z = Value.ref ka := r10
        exact d_setN (X := X.blk s3 H3 scope ce fp) hu I11 hn hk hd hz r11 fun s12 I12 => next I12 nx
  exact goal _ rfl
theorem ps_setDcK {i : Nat} {y : PySem.Str} {py : Pos} {kx vx tg iter : Expr} {ifs : List Expr} {scope : Scope} {own : List (PySem.Str × Nat)} {pos spos : Pos} {wi : TI} {g : TG} {tt : TT} {tk tv : TE} (hu : X.A.units + 64 < cLine) (hc : X.calm = true) (hN : X.N.Nodup) (hy : X.N[i]? = some y) (hyl : X.env.scope.names.lookup y = some .local)
    (hsw : swapsWith (.DictComp kx vx [⟨tg, iter, ifs, 0⟩] scope pos) (some (.Name y py)) spos.line X.env = pure true) (hi : PI X tg iter wi) (ok : BlkOk X.N X.env.scope scope own)
    (hg : ∀ (s : Shared) (H : Hp) (C : Addr) (cl : List (PySem.Str × Addr)) (fp : List Addr), PG (X.blk s H scope (compEnvC scope cl C X.env) fp) tg g) (ht : ∀ (s : Shared) (H : Hp) (C : Addr) (cl : List (PySem.Str × Addr)) (fp : List Addr), PTs (X.blk s H scope (compEnvC scope cl C X.env) fp) ifs tt)
    (hk : ∀ (s : Shared) (H : Hp) (C : Addr) (cl : List (PySem.Str × Addr)) (fp : List Addr), PE (X.blk s H scope (compEnvC scope cl C X.env) fp) kx tk)
    (he : ∀ (s : Shared) (H : Hp) (C : Addr) (cl : List (PySem.Str × Addr)) (fp : List Addr), PE (X.blk s H scope (compEnvC scope cl C X.env) fp) vx tv) (hs : ∀ x, foldedSetIterable iter X.env x = pure x := by intro _; rfl) :
    PS X (.Assign [.Name y py] (.DictComp kx vx [⟨tg, iter, ifs, 0⟩] scope pos) spos) (tAsg (tFrz (tDcK X.K X.w wi g tt tk tv (own.map (·.2)))) (gName i)) := by
  refine ⟨fun pins s σ H D I h => ?_⟩
  rw [exec_Assign_Name_used _ _ _ _ hsw]
  refine wpAny_bind (wpAny_standAt (wpAny_bind ?_))
  show wpAny _ X.A (do let _ ← comprehension (.DictComp kx vx [⟨tg, iter, ifs, 0⟩] scope pos) scope X.env (firstIterPos [⟨tg, iter, ifs, 0⟩] pos) newDict false (eval iter X.env) (some (assign (.Name y py) X.env))) _ _ s
  have h : tDcK X.K X.w wi g tt tk tv (own.map (·.2)) σ H (fun v H' => ∃ d u, v = .ref d ∧ H' d = some u ∧ Mut (some u) ∧ ∀ od, gName i v σ (upd H' d (.frz od u)) D.nx) := h
  refine wpAny_bind (thn (dcK_core (Qf := fun _ s' => SP X pins D .next s') hu hc hN I hi ok hg ht hk he hs h fun L C s' m H' I' q hn f => ?_) fun _ s' hq => wpAny_pure (wpAny_pure hq))
  obtain ⟨d, u, ed, hd, mu, q⟩ := q
  injection ed with ed
  subst ed
  obtain ⟨od, I2⟩ := I'.lock hd mu
  show wpAny _ _ (assign (.Name y py) X.env (.ref L)) _ _ _
  refine wpAny_assign_Name (store_ok2 (v := V.ref L) I2 hN hy (.inl hyl) rfl (fun s2 I3 ⟨a, sb, ha⟩ => ?_) (.inr hyl))
  obtain ⟨f0, f1, f2, f3, f4, f5⟩ := f
  have haC : C ≠ a := by
    rcases ha with z | z
    · rw [z]; exact f1
    · exact fun e => f4 y a z e.symm
  refine ⟨m, hn.sameBut sb haC, fun h3 sb3 => ?_⟩
  have hC : C ≠ L := fun e => by rw [e, hd] at f0; cases f0
  exact ⟨_, _, I3.turned (t' := s2.toks) (fun b o hb e => (sb3.2 b hb).trans e) (by rw [upd_ne hC]; exact f0) f1 f3 f4 f5, q od⟩
end
end N
set_option Elab.async false
set_option linter.all false
set_option maxRecDepth 100000
set_option maxHeartbeats 1000000
namespace N
open PySem PySem.Spec PyProof.Rows L2
theorem getG_mapB {α : Type} (k j : Key) (z : α) : ∀ ps : List (Key × α), getG (ps.map fun q => if q.1 = k then (q.1, z) else q) j = if k = j then (getG ps j).map (fun _ => z) else getG ps j
  | [] => by
    by_cases e : k = j
    · rw [if_pos e]; rfl
    · rw [if_neg e]; rfl
  | (a, b) :: qs => by
    have ih := getG_mapB k j z qs
    rw [List.map_cons]
    by_cases e : a = j
    · subst e
      rw [getG_hd]
      by_cases e2 : a = k
      · subst e2
        rw [if_pos rfl, if_pos rfl, getG_hd]
        rfl
      · rw [if_neg e2, if_neg (fun h => e2 h.symm), getG_hd]
    · have f : decide (a = j) = false := decide_eq_false e
      rw [getG_tl f rfl]
      by_cases e2 : a = k
      · rw [if_pos e2, getG_tl f ih]
      · rw [if_neg e2, getG_tl f ih]
theorem getG_snocB {α : Type} {k j : Key} {z : α} : ∀ {ps : List (Key × α)}, ¬ (ps.any fun q => decide (q.1 = k)) = true → getG (ps ++ [(k, z)]) j = if k = j then some z else getG ps j
  | [], _ => by
    by_cases e : k = j
    · subst e
      rw [if_pos rfl]
      exact getG_hd _ _ _
    · rw [if_neg e]
      exact getG_tl (decide_eq_false e) rfl
  | (a, b) :: qs, h => by
    have h1 : a ≠ k := fun e => h (by rw [List.any_cons, decide_eq_true e]; rfl)
    have h2 : ¬ (qs.any fun q => decide (q.1 = k)) = true := fun e => h (by rw [List.any_cons, e, Bool.or_true])
    rw [List.cons_append]
    by_cases e : a = j
    · subst e
      rw [getG_hd, getG_hd, if_neg fun e => h1 e.symm]
    · have f : decide (a = j) = false := decide_eq_false e
      rw [getG_tl f (getG_snocB h2), getG_tl f rfl]
theorem getG_anyB {α : Type} {k : Key} : ∀ {ps : List (Key × α)}, (ps.any fun q => decide (q.1 = k)) = true → ∃ v, getG ps k = some v
  | [], h => by cases h
  | (a, b) :: qs, h => by
    by_cases e : a = k
    · subst e
      exact ⟨b, getG_hd _ _ _⟩
    · rw [List.any_cons, decide_eq_false e, Bool.false_or] at h
      obtain ⟨v, hv⟩ := getG_anyB h
      exact ⟨v, getG_tl (decide_eq_false e) hv⟩
theorem getG_putB {α : Type} (ps : List (Key × α)) (k j : Key) (z : α) : getG (putG ps k z) j = if k = j then some z else getG ps j := by
  unfold putG
  by_cases h : (ps.any fun q => decide (q.1 = k)) = true
  · rw [if_pos h, getG_mapB]
    by_cases e : k = j
    · subst e
      obtain ⟨v, hv⟩ := getG_anyB h
      rw [if_pos rfl, if_pos rfl, hv]
      rfl
    · rw [if_neg e, if_neg e]
  · rw [if_neg h, getG_snocB h]
theorem ltp_out {P : Nat → Prop} : ∀ {f : Fm} {c : Nat}, ltp P f → c ∈ lets f.outer → P c
  | .at d, c, hl, h => by
    have h : c ∈ [d] := h
    rw [List.mem_singleton.mp h]
    exact hl
  | .no, c, _, h => nomatch (show c ∈ ([] : List Nat) from h)
  | .imp a b, c, hl, h => (mem_unite.mp h).elim (ltp_out (f := a) hl.1) (ltp_out (f := b) hl.2)
  | .all a, c, hl, h => by
    first
    | exact ltp_out (f := a) hl h
    | exact nomatch (show c ∈ ([] : List Nat) from h)
theorem frmB_in {b : Plr} (hb : BkOk b) {c : Nat} (h : c ∈ b.map (·.1)) : (c, frmB b c) ∈ b := by
  obtain ⟨p, hp, rfl⟩ := List.mem_map.mp h
  rw [frmB_mem hb.nd hp]
  exact hp
theorem BkOk.frm {b : Plr} (hb : BkOk b) {c : Nat} (h : c ∈ b.map (·.1)) : (frmB b c).okF ∧ (frmB b c).ht < 90 := hb.form _ (frmB_in hb h)
def knPs (b : Plr) (p : Nat × Nat) (k : Nat) : List (Key × D) := b.map fun q => (kN q.1, .bl (deed b (p.2, q.1) k))
theorem knPs_keys (b : Plr) (p : Nat × Nat) (k : Nat) : (knPs b p k).map (·.1) = (b.map (·.1)).map fun c => kN c := by
  unfold knPs
  rw [List.map_map, List.map_map]
  rfl
theorem kN_nd {l : List Nat} (h : l.Nodup) : (l.map fun c => kN c).Nodup := List.Pairwise.map _ (fun a b hne e => hne (sg_inj (Sum.inr.inj e))) h
theorem knPs_nd {b : Plr} (hb : BkOk b) (p : Nat × Nat) (k : Nat) : ((knPs b p k).map (·.1)).Nodup := by
  rw [knPs_keys]
  exact kN_nd hb.nd
def dePs (b : Plr) (p : Nat × Nat) (k : Nat) : List (Key × D) := putG (putG (mergeG (knPs b p k)) (kN 109) (.bl (deed b p k))) (kN 111) (.bl (deed b (p.2, p.1) k))
theorem getG_deeds {b : Plr} (hb : BkOk b) {p : Nat × Nat} {k c : Nat} (hc : isN b c) : getG (dePs b p k) (kN c) = some (.bl (envB (deed b) p c k)) := by
  have inj : ∀ {x y : Nat}, kN x = kN y → x = y := fun e => sg_inj (Sum.inr.inj e)
  unfold dePs
  rw [getG_putB, getG_putB]
  by_cases h1 : c = 111
  · subst h1
    rw [if_pos rfl]
    rfl
  · rw [if_neg fun e => h1 (inj e).symm]
    by_cases h2 : c = 109
    · subst h2
      rw [if_pos rfl]
      rfl
    · rw [if_neg fun e => h2 (inj e).symm, mergeG_nd (knPs_nd hb p k)]
      obtain ⟨q, hq, rfl⟩ := List.mem_map.mp ((hc.resolve_left h2).resolve_left h1)
      rw [show knPs b p k = b.map fun q => (kN q.1, D.bl (deed b (p.2, q.1) k)) from rfl, getG_fr (f := fun q : Nat × Fm => D.bl (deed b (p.2, q.1) k)) hb.nd hq]
      unfold envB
      rw [if_neg h2, if_neg h1]
def stPs (b : Plr) (p : Nat × Nat) (k : Nat) : List (Key × D) := (frmB b p.1).alls.map fun g => (Sum.inr g.spell, .bl (stB b p k (bodyF g)))
theorem dB_st (b : Plr) (p : Nat × Nat) (k : Nat) : dB (inKs (frmB b p.1)) (stL b p k) = .dp (stPs b p k) := by
  unfold dB inKs stL stPs
  show _ = D.dct _ _
  rw [List.map_map, List.map_map, List.map_map]
  rfl
theorem getG_st {b : Plr} {p : Nat × Nat} {k : Nat} (hf : (frmB b p.1).okF) {x : Fm} (hx : Fm.all x ∈ (frmB b p.1).alls) : getG (stPs b p k) (Sum.inr (Fm.all x).spell) = some (.bl (stB b p k x)) :=
  getG_map (key := fun g : Fm => (Sum.inr g.spell : Key)) (v := fun g : Fm => D.bl (stB b p k (bodyF g))) hx (keys_nd hf.ok)
theorem getQ_deed {b : Plr} {q : Nat × Nat} {k : Nat} (hq : prB b q) : getQ ((prsB b).map fun q => (kP q, D.bl (deed b q k))) (.tup [.text (sg q.1), .text (sg q.2)]) = some (.bl (deed b q k)) := by
  refine getQ_pair (f := fun q => D.bl (deed b q k)) ?_
  rw [prsB_eq]
  exact List.mem_flatMap.mpr ⟨_, hq.1, List.mem_map.mpr ⟨_, hq.2, rfl⟩⟩
theorem prsB_mem {b : Plr} {q : Nat × Nat} : q ∈ prsB b ↔ prB b q := by
  rw [prsB_eq]
  constructor
  · intro h
    obtain ⟨x, hx, h⟩ := List.mem_flatMap.mp h
    obtain ⟨y, hy, rfl⟩ := List.mem_map.mp h
    exact ⟨hx, hy⟩
  · intro h
    exact List.mem_flatMap.mpr ⟨_, h.1, List.mem_map.mpr ⟨_, h.2, rfl⟩⟩
theorem ht_alls : ∀ {f x : Fm}, Fm.all x ∈ f.alls → x.ht ≤ f.ht
  | .at _, _, h => nomatch h
  | .no, _, h => nomatch h
  | .imp a b, x, h => (Fm.mem_merge.mp h).elim (fun h => by have := ht_alls (f := a) h; simp only [Fm.ht]; omega) (fun h => by have := ht_alls (f := b) h; simp only [Fm.ht]; omega)
  | .all a, x, h => (Fm.mem_merge.mp h).elim (fun h => by have := ht_alls (f := a) h; simp only [Fm.ht]; omega) fun h => by
    have h : Fm.all x ∈ [Fm.all a] := h
    have e := List.mem_singleton.mp h
    injection e with e
    subst e
    simp only [Fm.ht]
    omega
theorem inn_out : ∀ {f : Fm}, inn f → lets f.outer = []
  | .at _, h => h.elim
  | .no, _ => rfl
  | .imp a b, h => by
    have h1 := inn_out (f := a) h.1
    have h2 := inn_out (f := b) h.2
    have e : ∀ c, c ∉ lets (Fm.imp a b).outer := fun c hc => by
      rcases mem_unite.mp hc with h | h
      · rw [h1] at h; cases h
      · rw [h2] at h; cases h
    exact List.eq_nil_iff_forall_not_mem.mpr e
  | .all _, _ => rfl
/-- the state at the start, by rows -/
def st0 (b : Plr) : List (List (D × D)) := (b.map (·.1)).map fun x => (b.map (·.1)).map fun y => (kP (x, y), dB (inKs (frmB b x)) (stL b (x, y) 0))
def stKs (b : Plr) (k : Nat) : List (D × D) := (prsB b).map fun p => (kP p, dB (inKs (frmB b p.1)) (stL b p k))
theorem st0_flat (b : Plr) : (st0 b).flatten = stKs b 0 := by
  unfold st0 stKs
  rw [prsB_eq, List.map_flatMap, List.flatMap_def]
  congr 1
  refine List.map_congr_left fun x _ => ?_
  simp only [List.map_map]
  rfl
def heKs (b : Plr) (k : Nat) : List (D × D) := (prsB b).map fun p => (kP p, .bl (deed b p k))
theorem stD_eq (w : World) (b : Plr) (k : Nat) : stD w b k = .kdd w ((stKs b k).map (·.1)) ((stKs b k).map (·.2)) := kdd_pairs w _ _
theorem hereD_eq (w : World) (b : Plr) (k : Nat) : hereD w b k = .kdd w ((heKs b k).map (·.1)) ((heKs b k).map (·.2)) := kdd_pairs w _ _
theorem ksP_nd {b : Plr} (hb : BkOk b) (f : Nat × Nat → D) : ((((prsB b).map fun p => (kP p, f p)) : List (D × D)).map fun e => nkOf e.1).Nodup := by
  rw [List.map_map]
  exact keys_pairs hb.nd
theorem ksP_ky {b : Plr} {f : Nat × Nat → D} {e : D × D} (h : e ∈ (prsB b).map fun p => (kP p, f p)) : ∃ k, Kyd e.1 k := by
  obtain ⟨p, _, rfl⟩ := List.mem_map.mp h
  exact ⟨_, ky_kP p⟩
theorem prsB_few {b : Plr} (hb : BkOk b) : (prsB b).length ≤ 25 := by
  rw [prsB_len]
  have := hb.few
  exact Nat.mul_le_mul this this
def rwB (b : Plr) (k : Nat) : List RowB := (prsB b).map fun p => ⟨kP p, inKs (frmB b p.1), stL b p (k + 1), stL b p k⟩
theorem rwB_a (w : World) (b : Plr) (k : Nat) : stD w b (k + 1) = .kdd w ((rwB b k).map (·.k)) ((rwB b k).map fun r => dB r.ks r.a) := by
  unfold rwB stD
  rw [List.map_map, List.map_map]
  rfl
theorem rwB_b (w : World) (b : Plr) (k : Nat) : stD w b k = .kdd w ((rwB b k).map (·.k)) ((rwB b k).map fun r => dB r.ks r.b) := by
  unfold rwB stD
  rw [List.map_map, List.map_map]
  rfl
theorem rwB_all (b : Plr) (k : Nat) : ((rwB b k).all fun r => decide (r.a = r.b)) = true ↔ still b k := by
  unfold rwB
  rw [List.all_map, List.all_eq_true]
  constructor
  · intro h p hp g hg
    have h := of_decide_eq_true (h p (prsB_mem.mpr hp))
    have h : (frmB b p.1).alls.map (fun g => stB b p (k + 1) (bodyF g)) = (frmB b p.1).alls.map fun g => stB b p k (bodyF g) := h
    exact List.map_inj_left.mp h _ hg
  · intro h p hp
    refine decide_eq_true ?_
    refine List.map_congr_left fun g hg => ?_
    obtain ⟨a, rfl, _⟩ := Fm.alls_form hg
    exact h p (prsB_mem.mp hp) a hg
theorem getQ_st {b : Plr} {q : Nat × Nat} {k : Nat} (hq : prB b q) : getQ (stKs b k) (.tup [.text (sg q.1), .text (sg q.2)]) = some (dB (inKs (frmB b q.1)) (stL b q k)) :=
  getQ_pair (f := fun q => dB (inKs (frmB b q.1)) (stL b q k)) (prsB_mem.mpr hq)
theorem fr_get {b : Plr} (hb : BkOk b) {c : Nat} (hc : c ∈ b.map (·.1)) : getG (frPs b) (kN c) = some (.fm (frmB b c)) :=
  getG_fr (f := fun p : Nat × Fm => D.fm p.2) hb.nd (frmB_in hb hc)
theorem ina_get {b : Plr} (hb : BkOk b) {c : Nat} (hc : c ∈ b.map (·.1)) : getG (inaPs b) (kN c) = some (innD (frmB b c)) :=
  getG_fr (f := fun p : Nat × Fm => innD p.2) hb.nd (frmB_in hb hc)
theorem sum_le {α : Type} {f : α → Nat} {m : Nat} : ∀ {l : List α}, (∀ x ∈ l, f x ≤ m) → (l.map f).sum ≤ l.length * m
  | [], _ => by simp
  | x :: l, h => by
    have h1 := h x List.mem_cons_self
    have h2 := sum_le (l := l) fun y hy => h y (List.mem_cons_of_mem _ hy)
    rw [List.map_cons, List.sum_cons, List.length_cons, Nat.succ_mul]
    omega
theorem innB_few {b : Plr} (hb : BkOk b) {c : Nat} (hc : c ∈ b.map (·.1)) : (innB b c).length ≤ 64 := by
  have := (hb.frm hc).1.alls
  unfold innB
  first
  | (rw [List.length_map]; omega)
  | (refine Nat.le_trans (List.length_filterMap_le _ _) ?_; omega)
theorem allB2_few {b : Plr} (hb : BkOk b) : (allB2 b).length ≤ 1600 := by
  rw [allB2_len]
  have h5 := hb.few
  have h := sum_le (l := b) (f := fun x => (innB b x.1).length) (m := 64) fun x hx => innB_few hb (List.mem_map.mpr ⟨x, hx, rfl⟩)
  have h1 : (b.map fun x => (innB b x.1).length).sum ≤ 320 := by omega
  exact Nat.le_trans (Nat.mul_le_mul h1 h5) (by decide)
def S_asc : FS := fun ds W post => ∃ cs : List Nat, ds = [.lst (cs.map fun c => .str (sg c))] ∧ W = [] ∧ cs.length ≤ 10 ∧ cs.Pairwise (· < ·) ∧ post (.bl true) []
theorem str_nil {x : Str} (h : x.cps.toList = []) : x = "" := by
  obtain ⟨a⟩ := x
  have h : a.toList = [] := h
  have : a = #[] := by
    rw [← Array.toArray_toList (xs := a), h]
  subst this
  rfl
theorem ltp_atoms {P : Nat → Prop} : ∀ {f : Fm} {c : Nat}, ltp P f → c ∈ lets f.atoms → P c
  | .at d, c, hl, h => by
    have h : c ∈ [d] := h
    rw [List.mem_singleton.mp h]
    exact hl
  | .no, c, _, h => nomatch (show c ∈ ([] : List Nat) from h)
  | .imp a b, c, hl, h => (mem_unite.mp h).elim (ltp_atoms (f := a) hl.1) (ltp_atoms (f := b) hl.2)
  | .all a, c, hl, h => ltp_atoms (f := a) hl h
end N
set_option Elab.async false
set_option linter.all false
set_option maxRecDepth 100000
set_option maxHeartbeats 1000000
namespace PySem
open Sem (wp)
section
variable {prog : Program} {w : World} {A : Around} {E : Value → Shared → Prop} {s : Shared} {z TI TO T i1 i2 : Addr} {fp1 fp2 : List Addr} {n i : Nat} {P1 P2 : Nat → Value → Prop} {St1 St2 : Nat → Heap → Prop} {f : Bool} {oT : Obj}
theorem zipH_item {Q : Value → Shared → Prop} (S : ZipSep2 z TI TO i1 i2 fp1 fp2) (D1 : Draws prog w A i1 fp1 n P1 St1) (D2 : Draws prog w A i2 fp2 n P2 St2)
    (hz : IsZipHeld s.heap z TI TO T f) (hT : s.heap.get? T = some oT) (hTI : IsTupOf2 s.heap TI (.ref i1) (.ref i2)) (st1 : St1 i s.heap) (st2 : St2 i s.heap) (hi : i < n)
    (hQ : ∀ x1 x2 h' tk, P1 i x1 → P2 i x2 → IsZipHeld h' z TI TO T true → St1 (i + 1) h' → St2 (i + 1) h' → IsTupOf2 h' s.heap.objs.size x1 x2 → h'.objs.size = s.heap.objs.size + 1 →
      (∀ c o, c ≠ z → c ≠ i1 → c ≠ i2 → s.heap.get? c = some o → h'.get? c = some o) → Q (.ref s.heap.objs.size) { s with heap := h', toks := tk }) :
    wpAny (model prog w) A (Builtin.«zip.__next__» ⟨[.ref z], []⟩) (fun fin s' => ∃ v, fin = .done (.ret v) ∧ Q v s') E s := by
  obtain ⟨hp, g, d, tk0, os⟩ := s
  show wpAny _ _ (field (.ref z) 2 >>= _) _ _ _
  refine wpAny_bind (wpAny_field hz rfl (x := .bool false) rfl ?_)
  show wpAny _ _ (field (.ref z) 3 >>= _) _ _ _
  refine wpAny_bind (wpAny_field hz rfl (x := .ref TI) rfl ?_)
  refine wpAny_bind (wpAny_seqItems hTI rfl ?_)
  show wpAny _ _ (Builtin.SmallTypes.ownedTupleIsFree (.ref z) >>= _) _ _ _
  refine wpAny_bind (wpAny_tupleHeld_zip hz hT fun h₁ hz₁ hs₁ => ?_)
  simp only [Bool.false_eq_true, if_false]
  refine wpAny_bind ?_
  rw [← Array.forIn_toList]
  simp only [List.forIn_cons, List.forIn_nil]
  refine wpAny_bind (wpAny_bind (wpAny_holding ?_))
  show wpAny _ _ (Builtin.SmallTypes.nextOf (.ref i1) >>= _) _ _ ⟨h₁, g, d, tk0, os⟩
  refine wpAny_bind (D1.item i ⟨h₁, g, d, tk0, os⟩ _ _ hi (D1.over st1 hs₁ S.zf1) fun x1 h₂ tk1 hx1 sn1 hs₂ => wpAny_pure ?_)
  replace hs₂ : Heap.SameBut i1 h₁ h₂ := hs₂
  refine wpAny_pure ?_
  refine wpAny_bind (wpAny_bind (wpAny_holding ?_))
  show wpAny _ _ (Builtin.SmallTypes.nextOf (.ref i2) >>= _) _ _ ⟨h₂, g, d, tk1, os⟩
  refine wpAny_bind (D2.item i ⟨h₂, g, d, tk1, os⟩ _ _ hi (D2.over (D2.over st2 hs₁ S.zf2) hs₂ S.sep1_2) fun x2 h₃ tk2 hx2 sn2 hs₃ => wpAny_pure ?_)
  replace hs₃ : Heap.SameBut i2 h₂ h₃ := hs₃
  refine wpAny_pure (wpAny_pure ?_)
  show wpAny _ _ (newTuple [x1, x2] >>= _) _ _ ⟨h₃, g, d, tk2, os⟩
  refine wpAny_bind (wpAny_newTuple ?_)
  have hsz : h₃.objs.size = hp.objs.size := by rw [hs₃.1, hs₂.1, hs₁.1]
  have hz₃ : IsZipHeld h₃ z TI TO T true := hs₃.extBut _ _ S.zi2 (hs₂.extBut _ _ S.zi1 hz₁)
  have hk : ∀ c o, c ≠ z → c ≠ i1 → c ≠ i2 → hp.get? c = some o → h₃.get? c = some o := fun c o c1 c2 c3 e => hs₃.extBut _ _ c3 (hs₂.extBut _ _ c2 (hs₁.extBut _ _ c1 e))
  refine wpAny_pure ⟨_, rfl, ?_⟩
  show Q (.ref h₃.objs.size) ⟨_, g, d, tk2, os⟩
  have hpp : IsTupOf2 (h₃.push { cls := .type "tuple", data := .seq #[x1, x2] }) h₃.objs.size x1 x2 := Heap.get?_push_size _ rfl
  have hz4 : (h₃.push { cls := .type "tuple", data := .seq #[x1, x2] }).objs.size = h₃.objs.size + 1 := Heap.size_push ..
  have a1 : St1 (i + 1) (h₃.push { cls := .type "tuple", data := .seq #[x1, x2] }) := D1.frame _ _ _ (D1.over sn1 hs₃ S.sep2_1) fun b hb o e => Heap.get?_push_of_some _ e
  have a2 : St2 (i + 1) (h₃.push { cls := .type "tuple", data := .seq #[x1, x2] }) := D2.frame _ _ _ sn2 fun b hb o e => Heap.get?_push_of_some _ e
  rw [hsz] at hpp hz4 ⊢
  exact hQ x1 x2 _ tk2 hx1 hx2 (Heap.get?_push_of_some _ hz₃) a1 a2 hpp hz4 fun c o c1 c2 c3 e => Heap.get?_push_of_some _ (hk c o c1 c2 c3 e)
theorem zipH_end {Q : Fin → Shared → Prop} (S : ZipSep2 z TI TO i1 i2 fp1 fp2) (D1 : Draws prog w A i1 fp1 n P1 St1)
    (hz : IsZipHeld s.heap z TI TO T f) (hT : s.heap.get? T = some oT) (hTI : IsTupOf2 s.heap TI (.ref i1) (.ref i2)) (st1 : St1 n s.heap)
    (hE : ∀ h' e, (∀ c o, c ≠ z → c ≠ TO → c ≠ i1 → c ≠ i2 → s.heap.get? c = some o → h'.get? c = some o) → (∃ o, h'.get? e = some o ∧ o.cls = .type "StopIteration") → E (.ref e) { s with heap := h' }) :
    wpAny (model prog w) A (Builtin.«zip.__next__» ⟨[.ref z], []⟩) Q E s := by
  obtain ⟨hp, g, d, tk0, os⟩ := s
  show wpAny _ _ (field (.ref z) 2 >>= _) _ _ _
  refine wpAny_bind (wpAny_field hz rfl (x := .bool false) rfl ?_)
  show wpAny _ _ (field (.ref z) 3 >>= _) _ _ _
  refine wpAny_bind (wpAny_field hz rfl (x := .ref TI) rfl ?_)
  refine wpAny_bind (wpAny_seqItems hTI rfl ?_)
  show wpAny _ _ (Builtin.SmallTypes.ownedTupleIsFree (.ref z) >>= _) _ _ _
  refine wpAny_bind (wpAny_tupleHeld_zip hz hT fun h₁ hz₁ hs₁ => ?_)
  simp only [Bool.false_eq_true, if_false]
  refine wpAny_bind ?_
  rw [← Array.forIn_toList]
  simp only [List.forIn_cons, List.forIn_nil]
  refine wpAny_bind (wpAny_bind (wpAny_holding ?_))
  show wpAny _ _ (Builtin.SmallTypes.nextOf (.ref i1) >>= _) _ _ ⟨h₁, g, d, tk0, os⟩
  refine wpAny_bind (D1.done ⟨h₁, g, d, tk0, os⟩ _ _ (D1.over st1 hs₁ S.zf1) fun h₂ e hs₂ he => ?_)
  exact hE h₂ e (fun c o c1 _ c2 _ x => hs₂ _ _ c2 (hs₁.extBut _ _ c1 x)) he
theorem nextH_item {Q : Option Value → Shared → Prop} (S : ZipSep2 z TI TO i1 i2 fp1 fp2) (D1 : Draws prog w A.in1 i1 fp1 n P1 St1) (D2 : Draws prog w A.in1 i2 fp2 n P2 St2)
    (hz : IsZipHeld s.heap z TI TO T f) (hT : s.heap.get? T = some oT) (hTI : IsTupOf2 s.heap TI (.ref i1) (.ref i2)) (st1 : St1 i s.heap) (st2 : St2 i s.heap) (hi : i < n)
    (hQ : ∀ x1 x2 h' tk, P1 i x1 → P2 i x2 → IsZipHeld h' z TI TO T true → St1 (i + 1) h' → St2 (i + 1) h' → IsTupOf2 h' s.heap.objs.size x1 x2 → h'.objs.size = s.heap.objs.size + 1 →
      (∀ c o, c ≠ z → c ≠ i1 → c ≠ i2 → s.heap.get? c = some o → h'.get? c = some o) → Q (some (.ref s.heap.objs.size)) { s with heap := h', toks := tk }) : wpAny (model prog w) A (pyNext (.ref z)) Q E s := by
  have ty : s.TypeIs (.ref z) "zip" := ⟨_, hz, rfl⟩
  unfold pyNext
  exact wpAny_bind (wpAny_attempt (wpAny_callSpecial?_slot (name := Str.ofString "__next__") ty F.slot_zip_next (wpAny_call_entry F.slot_zip_next ty F.entry_zip_next
    (zipH_item S D1 D2 hz hT hTI st1 st2 hi fun x y hp tk a b c d e f g h => wpAny_pure (hQ x y hp tk a b c d e f g h)) (F.args_zip_next_1 _))))
theorem nextH_end {Q : Option Value → Shared → Prop} (S : ZipSep2 z TI TO i1 i2 fp1 fp2) (D1 : Draws prog w A.in1 i1 fp1 n P1 St1)
    (hz : IsZipHeld s.heap z TI TO T f) (hT : s.heap.get? T = some oT) (hTI : IsTupOf2 s.heap TI (.ref i1) (.ref i2)) (st1 : St1 n s.heap)
    (hQ : ∀ h', (∀ c o, c ≠ z → c ≠ TO → c ≠ i1 → c ≠ i2 → s.heap.get? c = some o → h'.get? c = some o) → Q none { s with heap := h' }) : wpAny (model prog w) A (pyNext (.ref z)) Q E s := by
  have ty : s.TypeIs (.ref z) "zip" := ⟨_, hz, rfl⟩
  unfold pyNext
  refine wpAny_bind (wpAny_attempt (wpAny_callSpecial?_slot (name := Str.ofString "__next__") ty F.slot_zip_next (wpAny_call_entry F.slot_zip_next ty F.entry_zip_next
    (zipH_end S D1 hz hT hTI st1 fun hp e k he => ?_) (F.args_zip_next_1 _))))
  obtain ⟨o, ho, hc⟩ := he
  refine wpAny_bind (wpAny_isInstance (T := "StopIteration") (b := true) ⟨o, ho, hc⟩ isSubtype_stop ?_)
  exact wpAny_pure (hQ _ k)
theorem zip_no_len : typeLookup (.type "zip") "__len__" = pure none := am_miss_of_fast (by decide +kernel)
theorem zip_no_hint : typeLookup (.type "zip") "__length_hint__" = pure none := am_miss_of_fast (by decide +kernel)
/-- list.__init__ of a zip, up to the loop -/
theorem init_zip {R : Result → Shared → Prop} {I S : Addr} (ty : s.TypeIs (.ref I) "zip") (hSI : S ≠ I) (hS : s.heap.get? S = some { cls := .type "list", data := .seq #[] })
    (self : ∀ (h' : Heap) (Q : Value → Shared → Prop) (E : Value → Shared → Prop), (∀ b o, b ≠ S → s.heap.get? b = some o → h'.get? b = some o) → Q (.ref I) { s with heap := h' } → wpAny (model prog w) A.in1 (pyIter (.ref I)) Q E { s with heap := h' })
    (loop : ∀ h' c, h'.get? S = some { cls := .type "list", dict := none, data := .seq #[] c, slots := #[] } → (∀ b o, b ≠ S → s.heap.get? b = some o → h'.get? b = some o) →
      codeAny (model prog w) A (.builtin "list.extend.loop" ⟨[.ref S, .ref I, .none], []⟩) R { s with heap := h' }) :
    wpAny (model prog w) A.in1 (Builtin.«list.__init__» ⟨[.ref S, .ref I], []⟩)
      (fun fin s' => match fin with | .done f => R (.ok f) s' | .again c' => c'.quiet = true ∧ codeAny (model prog w) A c' R s') (fun e s' => R (.error e) s') s := by
  show wpAny _ A.in1 (do let old ← Builtin.List.listItems (.ref S); Builtin.List.listUpdate (.ref S) (fun _ => #[]); letGo old.toList.reverse; Builtin.List.listExtendWith (.ref S) (.ref I) .none) _ _ s
  refine wpAny_bind ?_
  unfold Builtin.List.listItems
  refine wpAny_bind (wpAny_seqItems hS rfl (wpAny_pure ?_))
  show wpAny _ A.in1 (updateSeq S (fun _ => #[]) >>= fun _ => letGo (#[] : Array Value).toList.reverse >>= fun _ => Builtin.List.listExtendWith (.ref S) (.ref I) .none) _ _ s
  refine wpAny_bind (wpAny_updateSeq hS rfl ?_)
  have hS1 := Heap.get?_update_self (Obj.mapSeq (fun _ => (#[] : Array Value))) hS rfl
  have o1 : ∀ b o, b ≠ S → s.heap.get? b = some o → (s.heap.update S (Obj.mapSeq (fun _ => (#[] : Array Value)))).get? b = some o :=
    fun b o hb e => (Heap.get?_update_other _ _ (Ne.symm hb)).trans e
  refine wpAny_bind (wpAny_letGo ?_)
  have ty1 : ({ s with heap := s.heap.update S (Obj.mapSeq (fun _ => (#[] : Array Value))) } : Shared).TypeIs (.ref I) "zip" := by
    obtain ⟨o, ho, hc⟩ := ty
    exact ⟨o, o1 _ _ (Ne.symm hSI) ho, hc⟩
  unfold Builtin.List.listExtendWith
  refine wpAny_bind (wpAny_typeOf ty1 ?_)
  have h1 : Builtin.List.listSameRef (.ref S) (.ref I) = false := by simp [Builtin.List.listSameRef, hSI]
  have h2 : (Value.type "zip" == Value.type "list") = false := by decide
  have h3 : (Value.type "zip" == Value.type "tuple") = false := by decide
  simp only [h1, h2, h3, Bool.or_false, Bool.false_eq_true, if_false]
  refine wpAny_bind (self _ _ _ o1 ?_)
  refine wpAny_bind (wpAny_holding ?_)
  unfold Builtin.List.listLengthHint
  refine wpAny_bind (wpAny_specialOf ty1 zip_no_len ?_)
  show wpAny _ A.in1 (specialOf (Value.ref I) (Str.ofString "__length_hint__") >>= _) _ _ _
  refine wpAny_bind (wpAny_specialOf ty1 zip_no_hint ?_)
  refine wpAny_pure ?_
  show wpAny _ A.in1 (rule "list.extend.makes-room" >>= fun _ => Builtin.List.listTouch (.ref S) >>= fun _ =>
    again (.builtin "list.extend.loop" ⟨[.ref S, .ref I, .none], []⟩)) _ _ _
  refine wpAny_bind (wpAny_rule ?_)
  refine wpAny_bind ?_
  show wpAny _ A.in1 (updateSeq S (·.push .none) >>= fun _ => updateSeq S (·.pop)) _ _ _
  refine wpAny_bind (wpAny_updateSeq hS1 rfl ?_)
  have hS2 := Heap.get?_update_self (Obj.mapSeq (·.push Value.none)) hS1 rfl
  refine wpAny_updateSeq (hz := by seq_fits) hS2 rfl ?_
  have hS3 := Heap.get?_update_self (Obj.mapSeq (·.pop)) hS2 rfl
  refine wpAny_pure ⟨plainId_quiet F.plain_extend_loop _, loop _ _ hS3 fun b o hb e => ?_⟩
  exact (Heap.get?_update_other _ _ (Ne.symm hb)).trans ((Heap.get?_update_other _ _ (Ne.symm hb)).trans (o1 b o hb e))
end
end PySem
set_option Elab.async false
set_option linter.all false
set_option maxRecDepth 100000
set_option maxHeartbeats 1000000
namespace N
open PySem PySem.Spec PyProof.Rows L2
theorem Kd.same {K : PySem.W.Frag} {H H' : Hp} {k : Kd} {xs : List V} (e : Same H H') (h : k.src K H xs) : k.src K H' xs := by
  cases k with
  | lst a =>
    rcases h with (h | ⟨o, h⟩) | h
    · exact .inl (.inl (e _ _ h))
    · exact .inl (.inr ⟨o, e _ _ h⟩)
    · exact .inr h
  | tup a => exact Same.sqT e h
  | txt x => exact h
section
variable {X : Cx} {pins : List (Addr × Obj)} {σ : L2.St} {H : Hp} {s : Shared}
theorem Kd.drawsA {A : Around} (hh : A.handled = none) {k : Kd} {t : PySem.Tok} {it : Addr} {xs : List V} (I : Inv X pins σ H s) (hs : k.src X.K H xs) {b : Nat} (hl : k.low b) (hb : b ≤ it) :
    ∃ (fp : List Addr) (P : Nat → Value → Prop) (St : Nat → Heap → Prop), Draws X.prog X.w A it fp xs.length P St ∧ it ∈ fp ∧ (∀ c ∈ fp, c = it ∨ c < b) ∧ (∀ i, k.at t it i s.heap → St i s.heap) ∧ (∀ i h, St i h → k.at t it i h) ∧ ∀ i v, P i v → ∃ x, xs[i]? = some x ∧ RelV x v := by
  cases k with
  | lst a =>
    obtain ⟨its, rv, p, _⟩ := I.list hs
    have ne : a ≠ it := Nat.ne_of_lt (Nat.lt_of_lt_of_le hl hb)
    have D := Draws.list (prog := X.prog) (w := X.w) hh it a ne its.toArray
    have e : its.toArray.size = xs.length := by simp [rv.length]
    rw [e] at D
    refine ⟨_, _, _, D, by simp, fun c hc => ?_, fun i st => ⟨st, p.isList⟩, fun i h st => st.1, fun i v h => ?_⟩
    · simp at hc
      rcases hc with e | e
      · exact .inl e
      · subst e
        exact .inr hl
    · have h : its[i]? = some v := by simpa using h
      have hi : i < xs.length := by
        have := (List.getElem?_eq_some_iff.mp h).1
        rw [rv.length]
        exact this
      obtain ⟨u, hu, ru⟩ := rv.get (List.getElem?_eq_getElem hi)
      rw [h] at hu
      cases hu
      exact ⟨_, List.getElem?_eq_getElem hi, ru⟩
  | tup a =>
    obtain ⟨its, rv, p, _⟩ := I.tuple hs
    have ne : a ≠ it := Nat.ne_of_lt (Nat.lt_of_lt_of_le hl hb)
    have D := Draws.tuple (prog := X.prog) (w := X.w) hh it a ne its.toArray
    have e : its.toArray.size = xs.length := by simp [rv.length]
    rw [e] at D
    refine ⟨_, _, _, D, by simp, fun c hc => ?_, fun i st => ⟨st, p⟩, fun i h st => st.1, fun i v h => ?_⟩
    · simp at hc
      rcases hc with e | e
      · exact .inl e
      · subst e
        exact .inr hl
    · have h : its[i]? = some v := by simpa using h
      have hi : i < xs.length := by
        have := (List.getElem?_eq_some_iff.mp h).1
        rw [rv.length]
        exact this
      obtain ⟨u, hu, ru⟩ := rv.get (List.getElem?_eq_getElem hi)
      rw [h] at hu
      cases hu
      exact ⟨_, List.getElem?_eq_getElem hi, ru⟩
  | txt x =>
    have hs : xs = x.cps.toList.map fun c => V.str ⟨#[c]⟩ := hs
    subst hs
    have D := Draws.text (prog := X.prog) (w := X.w) hh it x t
    have e : (x.cps.toList.map fun c => V.str ⟨#[c]⟩).length = x.cps.size := by simp
    rw [e]
    refine ⟨_, _, _, D, by simp, fun c hc => .inl (by simpa using hc), fun i st => st, fun i h st => st, fun i v ⟨c, u, h1, h2⟩ => ?_⟩
    refine ⟨.str ⟨#[c]⟩, ?_, u, h2⟩
    rw [List.getElem?_map]
    have : x.cps.toList[i]? = some c := by simpa using h1
    rw [this]
    rfl
end
/-- pairs laid one behind the other -/
inductive Puts (H : Hp) : List (V × V) → List Addr → Hp → Prop
  | nil : Puts H [] [] H
  | snoc {ps : List (V × V)} {Ts : List Addr} {H2 : Hp} {T : Addr} (p : V × V) : Puts H ps Ts H2 → H2 T = none → Puts H (ps ++ [p]) (Ts ++ [T]) (upd H2 T (.tup [p.1, p.2]))
theorem Puts.same {H H2 : Hp} {ps : List (V × V)} {Ts : List Addr} (h : Puts H ps Ts H2) : Same H H2 := by
  induction h with
  | nil => exact .refl _
  | snoc p _ hn ih => exact fun b o e => same_upd hn b o (ih b o e)
def zFive (b : Nat) : List Addr := [b + 4, b + 2, b + 3, b, b + 1]
def ZSt (b : Nat) (S : Addr) (i : Nat) (h : Heap) : Prop := (i = 0 ∧ IsZip h (b + 4) (b + 2) (b + 3) .none) ∨ ∃ (T : Addr) (f : Bool) (oT : Obj), IsZipHeld h (b + 4) (b + 2) (b + 3) T f ∧ h.get? T = some oT ∧ T ∉ zFive b ∧ T ≠ S
theorem vals_snoc {xs : List V} {us : List Value} {x : V} {u : Value} (h : Vals xs us) (r : RelV x u) : Vals (xs ++ [x]) (us ++ [u]) := by
  induction h with
  | nil => exact .cons r .nil
  | cons r1 _ ih => exact .cons r1 ih
theorem zip_loop {X : Cx} {pins : List (Addr × Obj)} {σ : L2.St} {A : Around} (hA : A.handled = none) {k1 k2 : Kd} {u1 u2 : PySem.Tok} {b S : Nat} (l1 : k1.low b) (l2 : k2.low b) (hS : S ∉ zFive b) {H1 : Hp} {xs ys : List V} (hx : k1.src X.K H1 xs) (hy : k2.src X.K H1 ys) (hl : xs.length = ys.length) (hn : xs.length < sizeLine) {R : Result → Shared → Prop} :
    ∀ (k i : Nat) (s : Shared) (H2 : Hp) (Ts : List Addr), xs.length - i = k → i ≤ xs.length → Inv X pins σ (upd H2 S (.lst (Ts.map V.ref))) s → (∀ c ∈ zFive b, FpOk X pins (upd H2 S (.lst (Ts.map V.ref))) c) → Puts H1 ((xs.zip ys).take i) Ts H2 → H2 S = none → Ts.length = i →
      ZSt b S i s.heap → k1.at u1 b i s.heap → k2.at u2 (b + 1) i s.heap → IsTupOf2 s.heap (b + 2) (.ref b) (.ref (b + 1)) → (∃ u v, IsTupOf2 s.heap (b + 3) u v) →
      (∀ s' H2' Ts', Inv X pins σ (upd H2' S (.lst (Ts'.map V.ref))) s' → Puts H1 (xs.zip ys) Ts' H2' → H2' S = none → R (.ok (.ret .none)) s') →
      codeAny (model X.prog X.w) A (.builtin "list.extend.loop" ⟨[.ref S, .ref (b + 4), .none], []⟩) R s := by
  have nS : ∀ {c}, c ∈ zFive b → c ≠ S := fun hc e => hS (e ▸ hc)
  have m0 : b + 4 ∈ zFive b := by simp [zFive]
  have m1 : b + 2 ∈ zFive b := by simp [zFive]
  have m2 : b + 3 ∈ zFive b := by simp [zFive]
  have m3 : b ∈ zFive b := by simp [zFive]
  have m4 : b + 1 ∈ zFive b := by simp [zFive]
  have zl : (xs.zip ys).length = xs.length := by simp [List.length_zip, hl]
  intro k
  induction k with
  | zero =>
    intro i s H2 Ts hk hi I hf hp hHS hTl hz s1 s2 hI hO hR
    have hin : i = xs.length := by omega
    subst hin
    obtain ⟨x0, y0, hO⟩ := hO
    have sm : Same H1 (upd H2 S (.lst (Ts.map V.ref))) := fun b o e => same_upd hHS b o (hp.same b o e)
    obtain ⟨f1, P1, S1, D1, a1, b1, t1, o1, v1⟩ := Kd.drawsA (A := A.in1.in1) (show A.in1.in1.handled = none from hA) (t := u1) (it := b) I (Kd.same sm hx) l1 (Nat.le_refl _)
    obtain ⟨f2, P2, S2, D2, a2, b2, t2, o2, v2⟩ := Kd.drawsA (A := A.in1.in1) (show A.in1.in1.handled = none from hA) (t := u2) (it := b + 1) I (Kd.same sm hy) l2 (Nat.le_succ _)
    have SS := zsep a1 a2 b1 b2
    rw [← hl] at D2
    refine codeAny_builtin F.entry_extend_loop ?_
    rw [Around.under_plainId F.plain_extend_loop _]
    show wpAny _ A.in1 (pyNext (.ref (b + 4)) >>= _) _ _ s
    rw [List.take_of_length_le (by omega)] at hp
    have fin : ∀ (h' : Heap) (tk : PySem.Tok), (∀ c o, c ≠ b + 4 → c ≠ b + 3 → c ≠ b → c ≠ b + 1 → s.heap.get? c = some o → h'.get? c = some o) → R (.ok (.ret .none)) { s with heap := h', toks := tk } := fun h' tk kp =>
      hR _ H2 Ts (I.turnedL (t' := tk) (ch := zFive b) (fun c o hb q => kp c o (fun e => hb (e ▸ m0)) (fun e => hb (e ▸ m2)) (fun e => hb (e ▸ m3)) (fun e => hb (e ▸ m4)) q) hf) hp hHS
    rcases hz with ⟨h0, hz⟩ | ⟨T, f, oT, hz, hT, _, _⟩
    · exact wpAny_bind (wpAny_pyNext_zipD2_end SS D1 D2 hz hI hO (t1 _ s1) (t2 _ s2) (Nat.le_refl _) (Nat.le_refl _) (.inl rfl) fun h' tk kp => wpAny_pure (fin h' tk kp))
    · exact wpAny_bind (nextH_end SS D1 hz hT hI (t1 _ s1) fun h' kp => wpAny_pure (fin h' s.toks kp))
  | succ k ih =>
    intro i s H2 Ts hk hi I hf hp hHS hTl hz s1 s2 hI hO hR
    have hlt : i < xs.length := by omega
    obtain ⟨x0, y0, hO⟩ := hO
    have sm : Same H1 (upd H2 S (.lst (Ts.map V.ref))) := fun b o e => same_upd hHS b o (hp.same b o e)
    obtain ⟨f1, P1, S1, D1, a1, b1, t1, o1, v1⟩ := Kd.drawsA (A := A.in1.in1) (show A.in1.in1.handled = none from hA) (t := u1) (it := b) I (Kd.same sm hx) l1 (Nat.le_refl _)
    obtain ⟨f2, P2, S2, D2, a2, b2, t2, o2, v2⟩ := Kd.drawsA (A := A.in1.in1) (show A.in1.in1.handled = none from hA) (t := u2) (it := b + 1) I (Kd.same sm hy) l2 (Nat.le_succ _)
    have SS := zsep a1 a2 b1 b2
    rw [← hl] at D2
    obtain ⟨hz0, its, n, rv, hlen, hg⟩ := I.lstM (l := S) (xs := Ts.map V.ref) upd_same
    rw [List.length_map, hTl] at hlen
    have ltS : S < s.heap.objs.size := Heap.lt_size hg
    have lt5 : ∀ c ∈ zFive b, c < s.heap.objs.size := fun c hc => by
      have h4 : b + 4 < s.heap.objs.size := by
        rcases hz with ⟨_, hz⟩ | ⟨T, f, oT, hz, _⟩
        · exact Heap.lt_size hz
        · exact Heap.lt_size hz
      simp only [zFive, List.mem_cons, List.not_mem_nil, or_false] at hc
      have h4 : (b : Nat) + 4 < s.heap.objs.size := h4
      rcases hc with rfl | rfl | rfl | rfl | rfl
      · exact h4
      · exact Nat.lt_trans (Nat.add_lt_add_left (by decide) b) h4
      · exact Nat.lt_trans (Nat.add_lt_add_left (by decide) b) h4
      · exact Nat.lt_of_le_of_lt (Nat.le_add_right _ 4) h4
      · exact Nat.lt_trans (Nat.add_lt_add_left (by decide) b) h4
    refine codeAny_builtin F.entry_extend_loop ?_
    rw [Around.under_plainId F.plain_extend_loop _]
    show wpAny _ A.in1 (pyNext (.ref (b + 4)) >>= _) _ _ s
    have fin : ∀ (x y : Value) (h' : Heap) (tk : PySem.Tok), P1 i x → P2 i y → ZSt b S (i + 1) h' → S1 (i + 1) h' → S2 (i + 1) h' → IsTupOf2 h' s.heap.objs.size x y →
        (∀ c o, c ≠ b + 4 → c ≠ b + 3 → c ≠ b → c ≠ b + 1 → s.heap.get? c = some o → h'.get? c = some o) → (∃ u v, IsTupOf2 h' (b + 3) u v) →
        wpAny (model X.prog X.w) A.in1 (updateSeq S (·.push (.ref s.heap.objs.size)) >>= fun _ => again (.builtin "list.extend.loop" ⟨[.ref S, .ref (b + 4), .none], []⟩))
          (fun fin s' => match fin with | .done f => R (.ok f) s' | .again c' => c'.quiet = true ∧ codeAny (model X.prog X.w) A c' R s') (fun e s' => R (.error e) s') { s with heap := h', toks := tk } := by
      intro x y h' tk px py zs' q1 q2 new kp hO'
      obtain ⟨u, gu, ru⟩ := v1 i x px
      obtain ⟨v, gv, rv2⟩ := v2 i y py
      have ok : ObjOk X.prog X.w (upd (upd H2 S (.lst (Ts.map V.ref))) s.heap.objs.size (.tup [u, v])) h' s.heap.objs.size (.tup [u, v]) :=
        ⟨by show 2 ≤ sizeLine; decide, [x, y], .cons ru (.cons rv2 .nil), ⟨_, new, rfl, _, rfl⟩⟩
      have I1 : Inv X pins σ (upd (upd H2 S (.lst (Ts.map V.ref))) s.heap.objs.size (.tup [u, v])) { s with heap := h', toks := tk } :=
        I.turnedNew (t' := tk) (ch := zFive b) (fun c o hb q => kp c o (fun e => hb (e ▸ m0)) (fun e => hb (e ▸ m2)) (fun e => hb (e ▸ m3)) (fun e => hb (e ▸ m4)) q) hf (Nat.le_refl _) ok
      have kS : h'.get? S = some { cls := .type "list", dict := none, data := .seq its.toArray n, slots := #[] } := kp S _ (fun e => hS (e ▸ m0)) (fun e => hS (e ▸ m2)) (fun e => hS (e ▸ m3)) (fun e => hS (e ▸ m4)) hg
      have eS : (upd (upd H2 S (.lst (Ts.map V.ref))) s.heap.objs.size (.tup [u, v])) S = some (.lst (Ts.map V.ref)) := by
        rw [upd_ne (Nat.ne_of_lt ltS)]
        exact upd_same
      have nT : H2 s.heap.objs.size = none := by
        have := I.hok.fresh (Nat.le_refl _)
        rwa [upd_ne (Nat.ne_of_gt ltS)] at this
      have eH : upd (upd (upd H2 S (.lst (Ts.map V.ref))) s.heap.objs.size (.tup [u, v])) S (.lst ((Ts ++ [s.heap.objs.size]).map V.ref)) = upd (upd H2 s.heap.objs.size (.tup [u, v])) S (.lst ((Ts ++ [s.heap.objs.size]).map V.ref)) := by
        funext c
        by_cases e : c = S
        · subst e
          rw [upd_same, upd_same]
        · rw [upd_ne e, upd_ne e]
          by_cases e2 : c = s.heap.objs.size
          · subst e2
            rw [upd_same, upd_same]
          · rw [upd_ne e2, upd_ne e2, upd_ne e]
      refine wpAny_bind ?_
      refine wpAny_updateSeq kS rfl (wpAny_pure ⟨plainId_quiet F.plain_extend_loop _, ?_⟩) (by simp; omega) (by simp; omega)
      have gS := Heap.get?_update_self (Obj.mapSeq (·.push (Value.ref s.heap.objs.size))) kS rfl
      have oth : ∀ c o, c ≠ S → h'.get? c = some o → (h'.update S (Obj.mapSeq (·.push (Value.ref s.heap.objs.size)))).get? c = some o := fun c o ne e => (Heap.get?_update_other _ _ (Ne.symm ne)).trans e
      have I2 := I1.write (t' := tk) (h' := h'.update S (Obj.mapSeq (·.push (Value.ref s.heap.objs.size)))) (x := S) (e := S) (o := .lst ((Ts ++ [s.heap.objs.size]).map V.ref)) (by rw [eS]; trivial) (.inl rfl) (fun c o ne e => oth c o ne e) ⟨_, gS⟩
        (show ObjOk X.prog X.w _ _ S (.lst _) from ⟨by rw [List.length_map, List.length_append, List.length_singleton, hTl]; omega, its ++ [.ref s.heap.objs.size], _, by rw [List.map_append]; exact vals_snoc rv rfl, by rw [gS]; simp [Obj.mapSeq]; rfl⟩)
      rw [eH] at I2
      refine ih (i + 1) _ (upd H2 s.heap.objs.size (.tup [u, v])) (Ts ++ [s.heap.objs.size]) (by omega) hlt I2 (fun c hc => ⟨?_, (hf c hc).2⟩) ?_ ?_ (by simp [hTl]) ?_ ?_ ?_ ?_ ?_ hR
      · rw [upd_ne (nS hc), upd_ne (Nat.ne_of_lt (lt5 c hc))]
        have := (hf c hc).1
        rwa [upd_ne (nS hc)] at this
      · have e : (xs.zip ys).take (i + 1) = (xs.zip ys).take i ++ [(u, v)] := by
          rw [List.take_add_one, (List.getElem?_zip_eq_some (z := (u, v))).mpr ⟨gu, gv⟩]
          rfl
        rw [e]
        exact .snoc (u, v) hp nT
      · rw [upd_ne (Nat.ne_of_lt ltS)]
        exact hHS
      · rcases zs' with ⟨e, _⟩ | ⟨T, f, oT, g1, g2, g3, g4⟩
        · omega
        · exact .inr ⟨T, f, oT, oth _ _ (nS m0) g1, oth _ _ g4 g2, g3, g4⟩
      · exact Kd.keep (o1 _ _ q1) fun o e => oth _ _ (nS m3) e
      · exact Kd.keep (o2 _ _ q2) fun o e => oth _ _ (nS m4) e
      · refine oth _ _ (nS m1) (kp _ _ ?_ ?_ ?_ ?_ hI)
        · exact ne_add (by decide)
        · exact ne_add (by decide)
        · exact ne_add (c := 2) (d := 0) (by decide)
        · exact ne_add (by decide)
      · obtain ⟨a, c, h⟩ := hO'
        exact ⟨a, c, oth _ _ (nS m2) h⟩
    have n5 : s.heap.objs.size ∉ zFive b := fun hc => Nat.lt_irrefl _ (lt5 _ hc)
    rcases hz with ⟨h0, hz⟩ | ⟨T, f, oT, hz, hT, hT5, hTS⟩
    · refine wpAny_bind (wpAny_pyNext_zipD2_item SS D1 D2 hz hI hO (t1 _ s1) (t2 _ s2) hlt hlt fun x y h' tk px py z' o' q1 q2 new _ kp => ?_)
      exact fin x y h' tk px py (.inr ⟨_, false, _, z', new, n5, Nat.ne_of_gt ltS⟩) q1 q2 new kp ⟨_, _, o'⟩
    · refine wpAny_bind (nextH_item SS D1 D2 hz hT hI (t1 _ s1) (t2 _ s2) hlt fun x y h' tk px py z' q1 q2 new _ kp => ?_)
      refine fin x y h' tk px py (.inr ⟨T, true, oT, z', kp T oT ?_ ?_ ?_ hT, hT5, hTS⟩) q1 q2 new (fun c o e1 _ e2 e3 e => kp c o e1 e2 e3 e) ⟨_, _, kp _ _ ?_ ?_ ?_ hO⟩
      · exact fun e => hT5 (e ▸ m0)
      · exact fun e => hT5 (e ▸ m3)
      · exact fun e => hT5 (e ▸ m4)
      · exact ne_add (by decide)
      · exact ne_add (c := 3) (d := 0) (by decide)
      · exact ne_add (by decide)
def tLzip (K : PySem.W.Frag) (ta : TA) : TE := fun σ H Q => ta σ H fun vs H1 => ∃ (k1 k2 : Kd) (xs ys : List V), vs = [k1.v, k2.v] ∧ k1.src K H1 xs ∧ k2.src K H1 ys ∧ xs.length = ys.length ∧ xs.length ≤ 1000 ∧ ∀ Ts H2 p, Puts H1 (xs.zip ys) Ts H2 → H2 p = none → Q (.ref p) (upd H2 p (.lst (Ts.map V.ref)))
theorem pe_lzip {X : Cx} {e e2 : Expr} {ta : TA} {p p2 pos pos2 : Pos} (hgl : Gl X "list") (hml : X.mg "list" = none) (hg : Gl X "zip") (hm : X.mg "zip" = none) (hc : X.calm = true) (ha : PA X [e, e2] ta)
    (hs : starEach [e, e2] X.env = (false, eval e X.env) :: starEach [e2] X.env := by rfl) (hpl : (backTo pos (starEach [e2] X.env)).any (·.1) = false := by rfl)
    (hs2 : starEach [.Call (.Name "zip" p) [e, e2] [] pos] X.env = (false, eval (.Call (.Name "zip" p) [e, e2] [] pos) X.env) :: starEach [] X.env := by rfl) (hpl2 : (backTo pos2 (starEach [] X.env)).any (·.1) = false := by rfl) :
    PE X (.Call (.Name "list" p2) [.Call (.Name "zip" p) [e, e2] [] pos] [] pos2) (tLzip X.K ta) := by
  refine ⟨fun pins s σ H Q I h => ?_⟩
  refine Call_ (ld_blt I hgl hml PyProof.Rows.boot_list (PyProof.Rows.callWith_type1 ?_ hs2 hpl2))
  rw [hs2]
  show wpAny _ _ (spliced ((false, eval (.Call (.Name "zip" p) [e, e2] [] pos) X.env) :: backTo pos2 (starEach [] X.env))) _ _ s
  refine Calls.spliced_cons ?_
  refine Call_ (ld_blt I hg hm PyProof.Rows.boot_zip (PyProof.Rows.callWith_type1 (thn (ha.run pos pins s σ H _ I h) fun us s1 ⟨vs, H1, I1, r1, q1⟩ => ?_) hs hpl))
  obtain ⟨k1, k2, xs, ys, ex, hx, hy, hl, hn, q⟩ := q1
  subst ex
  cases r1 with
  | cons r rr =>
    cases rr with
    | cons r' rr =>
      cases rr
      obtain ⟨l1, t1, o1, G1, B1, g1, z1⟩ := Kd.begins I1 hx r
      obtain ⟨l2, t2, o2, G2, B2, g2, z2⟩ := Kd.begins I1 hy r'
      refine zip_begins2 B1 B2 g1 g2 fun h' hz hI hO e1 e2 hsz kp => ?_
      have I2 : Inv X pins σ H1 { s1 with heap := h' } := I1.kept (t' := s1.toks) kp
      refine wpAny_pure ?_
      refine callType_codes (Q₁ := fun obj s₁ => obj = .ref h'.objs.size ∧ s₁ = ({ s1 with heap := h'.push { cls := .type "list", data := .seq #[] } } : Shared)) F.called_list (F.typeCall_list_1 _) F.entry_list_init (code_list_new _ ⟨rfl, rfl⟩) fun obj s₁ h₁ => ?_
      obtain ⟨rfl, rfl⟩ := h₁
      have gS : (h'.push { cls := .type "list", data := .seq #[] }).get? h'.objs.size = some { cls := .type "list", data := .seq #[] } := Heap.get?_push_size _ rfl
      have up : ∀ c o, h'.get? c = some o → (h'.push { cls := .type "list", data := .seq #[] }).get? c = some o := fun c o e => Heap.get?_push_of_some _ e
      have le5 : ∀ c ∈ zFive s1.heap.objs.size, s1.heap.objs.size ≤ c ∧ c < h'.objs.size := fun c hc => by
        rw [hsz]
        simp only [zFive, List.mem_cons, List.not_mem_nil, or_false] at hc
        rcases hc with rfl | rfl | rfl | rfl | rfl
        · exact ⟨Nat.le_add_right _ _, Nat.add_lt_add_left (by decide) _⟩
        · exact ⟨Nat.le_add_right _ _, Nat.add_lt_add_left (by decide) _⟩
        · exact ⟨Nat.le_add_right _ _, Nat.add_lt_add_left (by decide) _⟩
        · exact ⟨Nat.le_refl _, Nat.lt_add_of_pos_right (by decide)⟩
        · exact ⟨Nat.le_add_right _ _, Nat.add_lt_add_left (by decide) _⟩
      have hS5 : h'.objs.size ∉ zFive s1.heap.objs.size := fun hc => Nat.lt_irrefl _ (le5 _ hc).2
      have ne5 : ∀ c ∈ zFive s1.heap.objs.size, c ≠ h'.objs.size := fun c hc => Nat.ne_of_lt (le5 c hc).2
      have m0 : s1.heap.objs.size + 4 ∈ zFive s1.heap.objs.size := by simp [zFive]
      refine ⟨⟨_, gS, rfl⟩, F.args_list_init_2 _ _, init_zip (I := s1.heap.objs.size + 4) (S := h'.objs.size) ⟨_, up _ _ hz, rfl⟩ (fun e => ne5 _ m0 e.symm) gS (fun h2 Q E ke q => wpAny_pyIter_zip (ke _ _ (ne5 _ m0) (up _ _ hz)) q) fun h2 c gc ke => ?_⟩
      have kp2 : ∀ b u, h'.get? b = some u → h2.get? b = some u := fun b u e => ke _ _ (Nat.ne_of_lt (Heap.lt_size e)) (up _ _ e)
      have I3 : Inv X pins σ (upd H1 h'.objs.size (.lst (([] : List Addr).map V.ref))) { s1 with heap := h2 } :=
        I2.laid (t' := s1.toks) kp2 (Nat.le_refl _) (show ObjOk X.prog X.w _ h2 _ (.lst []) from ⟨Nat.zero_le _, [], c, .nil, gc⟩)
      have hn' : H1 h'.objs.size = none := I2.hok.fresh (Nat.le_refl _)
      refine zip_loop (A := X.A.in1) (show X.A.in1.handled = none from I.ok.hd hc) (u1 := t1) (u2 := t2) l1 l2 hS5 hx hy hl (Nat.lt_of_le_of_lt hn (by decide)) xs.length 0 _ H1 [] rfl (Nat.zero_le _) I3 (fun c hc => ?_) (by rw [List.take_zero]; exact .nil) hn' rfl (.inl ⟨rfl, kp2 _ _ hz⟩) ?_ ?_ (kp2 _ _ hI) ⟨_, _, kp2 _ _ hO⟩ fun s' H2' Ts' I' hp' hn2 => ⟨rfl, .ref h'.objs.size, _, I', rfl, q Ts' H2' _ hp' hn2⟩
      · refine I1.fpOk (le5 c hc).1 ?_
        rw [upd_ne (ne5 c hc)]
        exact I1.hok.fresh (le5 c hc).1
      · exact Kd.keep (z1 _ _ e1) fun o e => kp2 _ _ e
      · exact Kd.keep (z2 _ _ e2) fun o e => kp2 _ _ e
section
variable {F : FmKit} {T : Kx} {C H H' O O' : Hp} {G : Gm} {W W' : Om} {R : D → Om → Prop} {d e : D} {l m : List D} {ta tk : TA}
theorem puts_den {H1 O1 : Hp} (n : Nx F T C W H H1 O1) : ∀ {ps : List (V × V)} {Ts : List Addr} {H2 : Hp}, Puts (ov O1 H1) ps Ts H2 → ∀ {l m : List D}, DenL F T H1 l (ps.map (·.1)) → DenL F T H1 m (ps.map (·.2)) →
    ∃ H3, Nx F T C W H H3 O1 ∧ H2 = ov O1 H3 ∧ Same H1 H3 ∧ DenL F T H3 (pairs2 l m) (Ts.map V.ref) := by
  intro ps Ts H2 h
  induction h with
  | nil =>
    intro l m h1 h2
    have e1 : l = [] := by
      have := h1.len
      exact List.length_eq_zero_iff.mp this.symm
    subst e1
    exact ⟨H1, n, rfl, .refl _, rfl⟩
  | snoc p hp hn ih =>
    intro l m h1 h2
    rw [List.map_append] at h1 h2
    have split : ∀ {l : List D} {vs : List V} {v : V}, DenL F T H1 l (vs ++ [v]) → ∃ l' x, l = l' ++ [x] ∧ DenL F T H1 l' vs ∧ Den F T H1 x v := fun {l vs v} h => by
      rcases List.eq_nil_or_concat l with e | ⟨l', x, e⟩
      · subst e
        have := h.len
        simp at this
      · rw [List.concat_eq_append] at e
        subst e
        obtain ⟨us, ws, e, g1, g2⟩ := h.app_inv
        obtain ⟨w, r, e2, g3, g4⟩ := g2
        have g4 : r = [] := g4
        subst g4 e2
        obtain ⟨e3, e4⟩ := List.append_inj' e rfl
        cases e4
        subst e3
        exact ⟨l', x, rfl, g1, g3⟩
    obtain ⟨l', x, rfl, a1, a2⟩ := split h1
    obtain ⟨m', y, rfl, b1, b2⟩ := split h2
    obtain ⟨H3, n3, e3, sm, kl⟩ := ih a1 b1
    subst e3
    obtain ⟨n4, e4, s4⟩ := n3.newF (o := .tup [p.1, p.2]) hn
    have el : l'.length = m'.length := by rw [← a1.len, ← b1.len, List.length_map, List.length_map]
    refine ⟨_, n4, e4, sm.trans s4, ?_⟩
    have ep : pairs2 (l' ++ [x]) (m' ++ [y]) = pairs2 l' m' ++ [.tup [x, y]] := by
      unfold pairs2
      rw [List.zip_append el, List.map_append]
      rfl
    rw [ep, List.map_append]
    exact (kl.mono s4).app ⟨_, [], rfl, ⟨_, _, rfl, SqT.of upd_same, _, _, rfl, (a2.mono sm).mono s4, _, _, rfl, (b2.mono sm).mono s4, rfl⟩, rfl⟩
theorem ev_lzip (h : EvA F T ta G W fun ds W1 => ∃ d e l m, ds = [d, e] ∧ Zs d l ∧ Zs e m ∧ l.length = m.length ∧ l.length ≤ 1000 ∧ R (.lst (pairs2 l m)) W1) : Ev F T (tLzip T.K ta) G W R := fun C H O σ w Q q =>
  h C H O σ w _ fun ds W1 H1 O1 us ⟨d, e, l, m, ed, z1, z2, hl, hn, r⟩ n k => by
    subst ed
    obtain ⟨x, r1, e1, k1, x2, r2, e2, k2, e3⟩ := k
    have e3 : r2 = [] := e3
    subst e3 e2 e1
    obtain ⟨kd1, xs, ex, a1, s1⟩ := z1.kd k1
    obtain ⟨kd2, ys, ey, a2, s2⟩ := z2.kd k2
    subst ex ey
    have el : xs.length = ys.length := by rw [a1.len, a2.len, hl]
    refine ⟨kd1, kd2, xs, ys, rfl, s1 _ _ (.refl _) n.dis, s2 _ _ (.refl _) n.dis, el, by rw [a1.len]; exact hn, fun Ts H2 p hp hn2 => ?_⟩
    obtain ⟨H3, n3, e3, sm, kl⟩ := puts_den n hp (l := l) (m := m) (by rw [List.map_fst_zip (by omega)]; exact a1) (by rw [List.map_snd_zip (by omega)]; exact a2)
    subst e3
    obtain ⟨n4, e4, s4⟩ := n3.newF (o := .lst (Ts.map V.ref)) hn2
    rw [e4]
    exact q (.lst (pairs2 l m)) W1 _ _ _ r n4 ⟨p, _, rfl, upd_same, kl.mono s4⟩
end
end N
set_option Elab.async false
set_option linter.all false
set_option maxRecDepth 100000
set_option maxHeartbeats 1000000
namespace N
open PySem PySem.Spec PyProof.Rows L2
theorem atI_natP {α : Type} {l : List α} {m : Nat} {x : α} (h : l[m]? = some x) : atI l ((m : Nat) : Int) = some x := by
  have hm := (List.getElem?_eq_some_iff.mp h).1
  unfold atI ixN
  rw [if_pos (by omega), if_pos (by omega)]
  exact h
theorem eqv_bb (a b c d : Bool) : PyData.eqv (.tuple [.bool a, .bool b]) (.tuple [.bool c, .bool d]) = (decide (a = c) && decide (b = d)) := by
  cases a <;> cases b <;> cases c <;> cases d <;> rfl
theorem vp_bb {W : Om} (a b : Bool) : Vp W (.tup [.bl a, .bl b]) (.tuple [.bool a, .bool b]) := .inl rfl
def bothB (b : Plr) (p : Nat × Nat) (L : Nat) : List D := (List.range (L + 1)).map fun k => .tup [.bl (deed b p k), .bl (deed b (p.2, p.1) k)]
theorem bothB_eq (b : Plr) (p : Nat × Nat) (L : Nat) : pairs2 ((List.range (L + 1)).map fun k => .bl (deed b p k)) ((List.range (L + 1)).map fun k => .bl (deed b (p.2, p.1) k)) = bothB b p L := by
  unfold pairs2 bothB
  rw [List.zip_map', List.map_map]
  rfl
theorem bothB_get {b : Plr} {p : Nat × Nat} {L k : Nat} (h : k ≤ L) : (bothB b p L)[k]? = some (.tup [.bl (deed b p k), .bl (deed b (p.2, p.1) k)]) := by
  unfold bothB
  rw [List.getElem?_map, List.getElem?_range (by omega)]
  rfl
def S_restB (w : World) : FS := fun ds W post => ∃ (b : Plr) (L : Nat) (p : Nat × Nat), ds = [bkD w b L, .str (sg p.1), .str (sg p.2)] ∧ W = [] ∧ BkOk b ∧ prB b p ∧ L < 900 ∧
  ∀ n, n ≤ L → (∀ k, n ≤ k → k ≤ L → deed b p k = deed b p L ∧ deed b (p.2, p.1) k = deed b (p.2, p.1) L) → (0 < n → ¬ (deed b p (n - 1) = deed b p L ∧ deed b (p.2, p.1) (n - 1) = deed b (p.2, p.1) L)) → post (natD n) []
end N
set_option linter.all false
set_option maxRecDepth 100000
namespace N
open PySem PySem.Spec PyProof.Rows L2
@[reducible] def dkC (a l : Addr) (cells : List Int) (s c : Int) : Om := [(a, .dp [(kS "cells", .adr l), (kS "blend", .int s), (kS "draws", .int c)]), (l, .lst (cells.map D.int))]
def DkC : Deck := fun a c W => ∃ (l : Addr) (cells : List Int) (s n : Int), W = dkC a l cells s n ∧ cells.length ≤ 64 ∧ 0 ≤ n ∧ n ≤ c
theorem DkC_mono {a : Addr} {c c' : Int} {W : Om} (h : DkC a c W) (hc : c ≤ c') : DkC a c' W := let ⟨l, cells, s, n, h1, h2, h3, h4⟩ := h; ⟨l, cells, s, n, h1, h2, h3, by omega⟩
end N
set_option linter.all false
set_option Elab.async false
set_option linter.all false
set_option maxRecDepth 100000
set_option Elab.async false
set_option linter.all false
set_option maxRecDepth 100000
set_option maxHeartbeats 1000000
set_option Elab.async false
set_option linter.all false
set_option maxRecDepth 100000
set_option maxHeartbeats 1000000
set_option Elab.async false
set_option linter.all false
set_option maxRecDepth 100000
set_option maxHeartbeats 1000000
set_option Elab.async false
set_option linter.all false
set_option maxRecDepth 100000
set_option maxHeartbeats 1000000
namespace N
open PySem PySem.Spec PyProof.Rows L2
theorem strOk_sg {c : Nat} (h : ltr c) : PyData.strOk (sg c) = true := strOk_low fun d hd => by
  have hd : d ∈ [c] := hd
  rw [List.mem_singleton] at hd
  have h : (65 ≤ c ∧ c ≤ 90) ∨ (97 ≤ c ∧ c ≤ 122) := h
  omega
theorem Fm.canLay : ∀ {f : Fm}, f.okL → PyData.canLay0 f.py = true
  | .at c, h => by
    have h1 := strOk_sg h
    have h2 : PyData.strOk "atom" = true := by decide +kernel
    simp [Fm.py, PyData.canLay0, PyData.canLayAll0, h1, h2]
  | .no, _ => by decide +kernel
  | .imp a b, h => by
    have h1 := Fm.canLay h.1
    have h3 := Fm.canLay h.2
    have h2 : PyData.strOk "if" = true := by decide +kernel
    simp [Fm.py, PyData.canLay0, PyData.canLayAll0, h1, h2, h3]
  | .all a, h => by
    have h1 := Fm.canLay (f := a) h
    have h2 : PyData.strOk "all" = true := by decide +kernel
    simp [Fm.py, PyData.canLay0, PyData.canLayAll0, h1, h2]
theorem Fm.depth_py : ∀ f : Fm, PyData.depth f.py ≤ f.ht + 1
  | .at c => by simp [Fm.py, Fm.ht, PyData.depth, PyData.depthAll]
  | .no => by simp [Fm.py, Fm.ht, PyData.depth, PyData.depthAll]
  | .imp a b => by
    have := Fm.depth_py a
    have := Fm.depth_py b
    simp only [Fm.py, Fm.ht, PyData.depth, PyData.depthAll]
    omega
  | .all a => by
    have := Fm.depth_py a
    simp only [Fm.py, Fm.ht, PyData.depth, PyData.depthAll]
    omega
theorem Fm.shaped {f : Fm} (h : f.okL) (hh : f.ht < 60) : SeqAt.shaped f.py = true := by
  have := Fm.depth_py f
  unfold SeqAt.shaped
  rw [Fm.canLay h, Bool.true_and, decide_eq_true_eq]
  omega
/-- rules drawn: small forms -/
structure Sml (rs : List (Nat × Fm)) : Prop where
  ok : rlOk rs
  sm : ∀ p ∈ rs, p.2.many ≤ 9
theorem Sml.ht {rs : List (Nat × Fm)} (h : Sml rs) : ∀ p ∈ rs, p.2.ht < 50 := fun p hp => by
  have := Fm.ht_many p.2
  have := h.sm p hp
  omega
theorem mem_putN_val {l : List (Nat × Fm)} {c : Nat} {f : Fm} (hc : c ∈ l.map (·.1)) {p : Nat × Fm} (h : p ∈ putN l c f) : p ∈ l ∨ p = (c, f) := by
  unfold putN at h
  rw [if_pos (any_key.mpr hc)] at h
  obtain ⟨q, hq, rfl⟩ := List.mem_map.mp h
  by_cases e : q.1 = c
  · rw [if_pos e, e]
    exact .inr rfl
  · rw [if_neg e]
    exact .inl hq
theorem Sml.put {ts : List (Nat × Fm)} (h : Sml ts) {c : Nat} {f : Fm} (hc : c ∈ ts.map (·.1)) (hf : f.okF) (hm : f.many ≤ 9) (hb : bentR ts f = false) : Sml (putN ts c f) ∧ (putN ts c f).map (·.1) = ts.map (·.1) := by
  have hk : (putN ts c f).map (·.1) = ts.map (·.1) := by rw [putN_keys, if_pos hc]
  refine ⟨⟨⟨fun e => ?_, ?_, by rw [hk]; exact h.ok.asc, fun p hp => ?_, fun p hp => ?_, fun p hp d hd => ?_⟩, fun p hp => ?_⟩, hk⟩
  · rw [e] at hk
    exact h.ok.some_ (List.map_eq_nil_iff.mp hk.symm)
  · have := congrArg List.length hk
    rw [List.length_map, List.length_map] at this
    have := h.ok.few
    omega
  · rcases mem_putN_val hc hp with h1 | rfl
    · exact h.ok.cap p h1
    · obtain ⟨q, hq, e⟩ := List.mem_map.mp hc
      have := h.ok.cap q hq
      rw [e] at this
      exact this
  · rcases mem_putN_val hc hp with h1 | rfl
    · exact h.ok.form p h1
    · exact hf
  · rw [hk]
    rcases mem_putN_val hc hp with h1 | rfl
    · exact h.ok.bare p h1 d hd
    · intro hm2
      unfold bentR at hb
      rw [List.any_eq_false] at hb
      exact hb d hd (decide_eq_true hm2)
  · rcases mem_putN_val hc hp with h1 | rfl
    · exact h.sm p h1
    · exact hm
structure SmF (j : List (Nat × Fm)) : Prop where
  few : j.length ≤ 8
  cap : ∀ p ∈ j, 65 ≤ p.1 ∧ p.1 ≤ 90
  ok : ∀ p ∈ j, p.2.okL
  sm : ∀ p ∈ j, p.2.many ≤ 9
theorem Sml.f {rs : List (Nat × Fm)} (h : Sml rs) : SmF rs := ⟨by have := h.ok.few; omega, h.ok.cap, fun p hp => (h.ok.form p hp).ok, h.sm⟩
end N
set_option Elab.async false
set_option linter.all false
set_option maxRecDepth 100000
set_option Elab.async false
set_option linter.all false
set_option maxRecDepth 100000
set_option maxHeartbeats 1000000
namespace N
open PySem PySem.Spec PyProof.Rows L2
theorem okF_many {f : Fm} (h : f.okL) (hm : f.many ≤ 60) : f.okF := ⟨h, by have := Fm.sz_many f; omega, by have := (Fm.few_many f).len h; omega⟩
end N
set_option Elab.async false
set_option linter.all false
set_option maxRecDepth 100000
set_option maxHeartbeats 1000000
set_option Elab.async false
set_option linter.all false
set_option maxRecDepth 100000
set_option maxHeartbeats 1000000
namespace N
open PySem PySem.Spec PyProof.Rows L2
theorem ht_many : ∀ f : Fm, f.ht + 1 ≤ f.many
  | .at _ => by simp [Fm.ht, Fm.many]
  | .no => by simp [Fm.ht, Fm.many]
  | .imp a b => by have := ht_many a; have := ht_many b; simp only [Fm.ht, Fm.many]; omega
  | .all a => by have := ht_many a; simp only [Fm.ht, Fm.many]; omega
section
variable {F : FmKit} {T : Kx} {G : Gm} {W : Om} {R : D → Om → Prop} {tr : TA} {E : XK} {w : World}
theorem ev_mkBk (h : EvA F T tr G W fun ds W1 => ∃ es : List (Nat × D × Fm), ds = [argR es] ∧ (∀ e ∈ es, Opd e.2.1 e.2.2) ∧ BkOk (rsOf es) ∧ ∀ L, L ≤ (allB2 (rsOf es)).length → restB (rsOf es) L → R (bkD w (rsOf es) L) W1) : Ev F T (tMake (T.cl 5) (spN F T (S_initBk w)) [] E tr) G W R :=
  ev_fz (ev_make (fun C H O σ w0 Q q => h C H O σ w0 Q fun ds W1 H1 O1 vs ⟨es, e, he, hr, r⟩ n k => q ds W1 H1 O1 vs (fun x hx => by
    subst e
    exact ⟨[(x, .ins 5 [] [])], W1, List.Perm.refl _, x, es, rfl, rfl, he, hr, fun L h1 h2 => ⟨rfl, x, _, W1, bkD w (rsOf es) L, rfl, List.Perm.refl _, .obj _ _ _, r L h1 h2⟩⟩) n k))
end
/-- formulas as they are passed -/
def esF (b : Plr) : List (Nat × D × Fm) := b.map fun p => (p.1, .fm p.2, p.2)
theorem esF_rs (b : Plr) : rsOf (esF b) = b := by
  unfold rsOf esF
  rw [List.map_map]
  exact List.map_id _
theorem esF_opd (b : Plr) : ∀ e ∈ esF b, Opd e.2.1 e.2.2 := fun e h => by
  obtain ⟨p, _, rfl⟩ := List.mem_map.mp h
  exact .inl rfl
theorem esF_arg (b : Plr) : argR (esF b) = .tup (b.map fun p => .tup [.str (sg p.1), .fm p.2]) := by
  unfold argR esF
  rw [List.map_map]
  rfl
/-- drawn names -/
def nmB (f s n : Nat) : List Nat := (List.range n).map fun k => 65 + (f + s * k) % 26
theorem nmB_cap {f s n c : Nat} (h : c ∈ nmB f s n) : 65 ≤ c ∧ c ≤ 90 := by
  obtain ⟨k, _, rfl⟩ := List.mem_map.mp h
  omega
theorem abc_at {i : Nat} (h : i < 26) : atI (lets ("ABCDEFGHIJKLMNOPQRSTUVWXYZ" : Str)) ((i : Nat) : Int) = some (65 + i) := by
  have : ∀ i : Fin 26, atI (lets ("ABCDEFGHIJKLMNOPQRSTUVWXYZ" : Str)) ((i.val : Nat) : Int) = some (65 + i.val) := by decide +kernel
  exact this ⟨i, h⟩
theorem ltp_mono {P Q : Nat → Prop} : ∀ {f : Fm}, ltp P f → (∀ c, P c → Q c) → ltp Q f
  | .at c, h, k => k c h
  | .no, _, _ => trivial
  | .imp a b, h, k => ⟨ltp_mono (f := a) h.1 k, ltp_mono (f := b) h.2 k⟩
  | .all a, h, k => ltp_mono (f := a) h k
end N
set_option Elab.async false
set_option linter.all false
set_option maxRecDepth 100000
set_option maxHeartbeats 1000000
set_option Elab.async false
set_option linter.all false
set_option maxRecDepth 100000
set_option maxHeartbeats 1000000
namespace N
open PySem L2
theorem frmB_srt {l : Plr} (nd : (l.map (·.1)).Nodup) (c : Nat) : frmB (srtR l) c = frmB l c := by
  unfold frmB
  congr 1
  by_cases h : c ∈ l.map (·.1)
  · obtain ⟨p, hp, rfl⟩ := List.mem_map.mp h
    rw [lookN_of nd hp, lookN_of (srtR_nd l) (mem_srtR nd hp)]
  · have e1 : lookN l c = none := by
      cases e : lookN l c with
      | none => rfl
      | some f => exact absurd (List.mem_map.mpr ⟨_, lookN_mem e, rfl⟩) h
    have e2 : lookN (srtR l) c = none := by
      cases e : lookN (srtR l) c with
      | none => rfl
      | some f => exact absurd (List.mem_map.mpr ⟨_, srtR_mem (lookN_mem e), rfl⟩) h
    rw [e1, e2]
theorem prB_srt {l : Plr} {p : Nat × Nat} : prB (srtR l) p ↔ prB l p := by
  unfold prB
  rw [srtR_keys]
  exact ⟨fun h => ⟨mem_ascN.mp h.1, mem_ascN.mp h.2⟩, fun h => ⟨mem_ascN.mpr h.1, mem_ascN.mpr h.2⟩⟩
theorem isN_srt {l : Plr} {c : Nat} (h : isN l c) : isN (srtR l) c := by
  unfold isN at *
  rw [srtR_keys]
  exact h.imp id fun h => h.imp id fun h => mem_ascN.mpr h
/-- players with no order -/
structure PlyU (l : List (Nat × Fm)) : Prop where
  some_ : l ≠ []
  nd : (l.map (·.1)).Nodup
  cap : ∀ p ∈ l, 65 ≤ p.1 ∧ p.1 ≤ 90
  inn : ∀ p ∈ l, inn p.2
  ltp : ∀ p ∈ l, ltp (isN l) p.2
  few : ∀ p ∈ l, p.2.many ≤ 60
theorem okL_isN {l : Plr} (cap : ∀ p ∈ l, 65 ≤ p.1 ∧ p.1 ≤ 90) : ∀ {f : Fm}, ltp (isN l) f → f.okL
  | .at c, h => by
    rcases (show isN l c from h) with h | h | h
    · rw [h]; show (65 ≤ 109 ∧ 109 ≤ 90) ∨ (97 ≤ 109 ∧ 109 ≤ 122); omega
    · rw [h]; show (65 ≤ 111 ∧ 111 ≤ 90) ∨ (97 ≤ 111 ∧ 111 ≤ 122); omega
    · obtain ⟨p, hp, e⟩ := List.mem_map.mp h
      rw [← e]
      exact .inl (cap p hp)
  | .no, _ => trivial
  | .imp a b, h => ⟨okL_isN cap (f := a) h.1, okL_isN cap (f := b) h.2⟩
  | .all a, h => okL_isN cap (f := a) h
theorem PlyU.bok {l : List (Nat × Fm)} (h : PlyU l) : Bok l := ⟨h.inn, h.ltp⟩
theorem PlyU.bk {l : List (Nat × Fm)} (h : PlyU l) (h5 : l.length ≤ 5) : BkOk (srtR l) where
  some_ := fun e => h.some_ (by have := srtR_len h.nd; rw [e] at this; exact List.length_eq_zero_iff.mp this.symm)
  few := by rw [srtR_len h.nd]; exact h5
  asc := srtR_asc l
  cap := fun p hp => h.cap p (srtR_mem hp)
  form := fun p hp => by
    have hm := h.few p (srtR_mem hp)
    have := ht_many p.2
    exact ⟨okF_many (okL_isN h.cap (h.ltp p (srtR_mem hp))) hm, by omega⟩
  bok := ⟨fun p hp => h.inn p (srtR_mem hp), fun p hp => ltp_mono (h.ltp p (srtR_mem hp)) fun c hc => isN_srt hc⟩
theorem frmB_of {l : Plr} (nd : (l.map (·.1)).Nodup) {c : Nat} {f : Fm} (h : (c, f) ∈ l) : frmB l c = f := frmB_mem nd h
theorem PlyU.at_ {l : List (Nat × Fm)} (h : PlyU l) {c : Nat} (hc : c ∈ l.map (·.1)) : (c, frmB l c) ∈ l := by
  obtain ⟨p, hp, rfl⟩ := List.mem_map.mp hc
  rw [frmB_mem h.nd hp]
  exact hp
theorem PlyU.ne {l : List (Nat × Fm)} (h : PlyU l) {c : Nat} (hc : c ∈ l.map (·.1)) : c ≠ 109 ∧ c ≠ 111 := by
  have := h.cap _ (h.at_ hc)
  have : 65 ≤ c ∧ c ≤ 90 := this
  omega
end N
set_option Elab.async false
set_option linter.all false
set_option maxRecDepth 100000
set_option maxHeartbeats 1000000
namespace N
open PySem PySem.Spec PyProof.Rows L2 PySem.W
theorem each_vals : ∀ {bs : List (V × PyData)} {its : List Value}, Vals (bs.map (·.1)) its → EachIs (fun u b => RelV b.1 u) its bs
  | [], _, .nil => .nil
  | b :: bs, _, .cons r t => .cons r (each_vals t)
theorem vals_each : ∀ {bs : List (V × PyData)} {its : List Value}, EachIs (fun u b => RelV b.1 u) its bs → Vals (bs.map (·.1)) its
  | _, _, .nil => .nil
  | _, _, .cons r t => .cons r (vals_each t)
section
variable {F : FmKit} {T : Kx} {W : Om} {R : D → Om → Prop} {d : D} {H : Hp}
theorem denL_zip {α : Type} {f : α → D} : ∀ {cs : List (V × α)}, (∀ c ∈ cs, Den F T H (f c.2) c.1) → DenL F T H (cs.map fun c => f c.2) (cs.map (·.1))
  | [], _ => rfl
  | c :: cs, h => ⟨_, _, rfl, h c List.mem_cons_self, denL_zip fun x hx => h x (List.mem_cons_of_mem _ hx)⟩
theorem zip_den {α : Type} {f : α → D} : ∀ {as : List α} {xs : List V}, DenL F T H (as.map f) xs → ∃ cs : List (V × α), cs.map (·.1) = xs ∧ cs.map (·.2) = as ∧ ∀ c ∈ cs, Den F T H (f c.2) c.1
  | [], xs, h => ⟨[], (show xs = [] from h).symm, rfl, fun c hc => nomatch hc⟩
  | a :: as, xs, ⟨v, r, e, h1, h2⟩ => by
    obtain ⟨cs, e1, e2, h3⟩ := zip_den h2
    subst e
    refine ⟨(v, a) :: cs, by rw [List.map_cons, e1], by rw [List.map_cons, e2], fun c hc => ?_⟩
    rcases List.mem_cons.mp hc with rfl | hc
    · exact h1
    · exact h3 c hc
end
end N
set_option Elab.async false
set_option linter.all false
set_option maxRecDepth 100000
set_option maxHeartbeats 2000000
namespace N
open PySem PySem.Spec PySem.Calls PyProof.Rows L2 PySem.W
section
variable {P : Program} {w : World} {K : PySem.W.Frag} {mg : Str → Option Value} {base : Heap} {A : Around} {outer : List Env} {s : Shared} {H : Hp}
abbrev lmEnv (qual : Str) (scope : Scope) (L f c : Addr) : Env := envOfC qual scope L f (.ref c)
theorem lam_turn (e0 : Env0 P w K mg base A outer s H) (hr : Room 1 A) {N : List Str} {x qual : Str} {params : Arguments} {body : Expr} {scope : Scope} {pm ctv : Value} {f c' : Addr} {v : V} {u : Value} (rv : RelV v u)
    (ho : s.heap.get? f = some (kla_obj "<lambda>" qual params body scope [] pm c' ctv)) (hc : s.heap.CodeRec (.ref c') qual) (S : FnScope N [x] scope) (hb : ∀ u, bindArgs (kla_fn "<lambda>" qual params body scope [] pm (.ref c') ctv) ⟨[u], []⟩ = pure [(x, u)])
    {kd : PyData} (hbody : ∀ (s1 : Shared) (E : Value → Shared → Prop) (Q : Value → Shared → Prop), Inv (cxOf CX0 P w K mg base N qual scope f (.ref c') A outer s H E0) [] (L2.start N [v]) H s1 → (∀ b o, s.heap.get? b = some o → s1.heap.get? b = some o) →
      (∀ z tk, Reads s1.heap z kd [] → Q z { s1 with toks := tk }) → wpAny (model P w) (A.deeper (lmEnv qual scope s.heap.objs.size f c')) (eval body (lmEnv qual scope s.heap.objs.size f c')) Q E s1) :
    wpAny (model P w) A (call (.ref f) [u]) (KeyPure kd s) (fun _ _ => False) s := by
  have lim : s.heap.NoLimit := e0.mod.nolimit.keeps fun b o e => (e0.bs b o e).1
  refine wpAny_call (kla_callFunE hr.depth ho rfl S.co S.gen rfl hc ?_)
  rw [hb u]
  refine wpAny_pure ?_
  have hkind : ∀ y ∈ [(x, u)], scope.names.lookup y.1 = some .local ∨ (scope.names.lookup y.1 = some .cell ∧ ((cellsFrom (s.heap.objs.size + 1) scope.names []).lookup y.1).isSome = true) := fun y hy => by
    rw [List.mem_singleton.mp hy]
    rcases S.par x (by simp) with q | q
    · exact .inl q
    · exact .inr ⟨q, PySem.W.cellsFrom_some _ _ _ (.inl q)⟩
  refine wpAny_newFunctionEnv_cells (s := s) S.kind hkind fun env he s1 y => ?_
  subst he
  refine ⟨lim.keeps y.toInCall.keep, kla_codeExpr ?_⟩
  have I : Inv (cxOf CX0 P w K mg base N qual scope f (.ref c') A outer s H E0) [] (L2.start N [v]) H s1 := inv_start (ps := [x]) S hr.hd e0 rfl (.cons rv .nil) y
  obtain ⟨h1, tk, e, hk⟩ := y.done
  subst e
  refine hbody _ _ _ I hk fun z tk2 hz => ?_
  exact ⟨h1, tk2, rfl, hk, hz⟩
end
end N
namespace N
open PySem PySem.Spec PySem.Calls PyProof.Rows L2 PySem.W LamX
/-- the entry of the table: where the lambda stands, and its code object -/
def tbE (pos : Pos) (c : Addr) : Array Value := #[rawInt pos.line, rawInt pos.col, .ref c]
/-- the function object of a lambda -/
def LamO (f c : Addr) (q : Str) (params : Arguments) (body : Expr) (scope : Scope) : HO := .ext fun h => ∃ pm ctv : Value, h.get? f = some (kla_obj "<lambda>" q params body scope [] pm c ctv)
theorem lamO_ok {P : Program} {w : World} {H : Hp} {h : Heap} {f c : Addr} {q : Str} {params : Arguments} {body : Expr} {scope : Scope} {pm ctv : Value} (e : h.get? f = some (kla_obj "<lambda>" q params body scope [] pm c ctv)) : ObjOk P w H h f (LamO f c q params body scope) :=
  ⟨⟨pm, ctv, e⟩, ⟨_, e⟩, fun _ _ ⟨p, t, a⟩ st => ⟨p, t, st _ a⟩⟩
def tMkL (P : Addr) (q : Str) (params : Arguments) (body : Expr) (scope : Scope) (pos : Pos) : TE := fun _ H Q =>
  (H P = some (.tbl #[]) ∧ ∀ c f, H c = none → H f = none → c ≠ f → Q (.ref f) (upd (upd (upd H P (.tbl (tbE pos c))) c (CodeO c q)) f (LamO f c q params body scope))) ∨
  ∃ c, H P = some (.tbl (tbE pos c)) ∧ H c = some (CodeO c q) ∧ ∀ f, H f = none → Q (.ref f) (upd H f (LamO f c q params body scope))
section
variable {X : Cx} {pins : List (Addr × Obj)} {σ : L2.St} {H : Hp} {s : Shared}
theorem pe_lam {c P : Addr} {q : Str} {params : Arguments} {body : Expr} {scope : Scope} {pos : Pos} (TB : TabB X.base X.mg c P) (hcode : X.env.code = .ref c) (hq : X.env.qual ++ "<lambda>" = q) (hdef : defaultsOf params X.env = ([], []) := by rfl)
    (hfree : ∀ y ∈ scope.names, y.2 ≠ .free) (hclo : cloFrom X.env.cells scope.names [] = []) : PE X (.Lambda params body scope pos) (tMkL P q params body scope pos) := by
  subst hq
  refine ⟨fun pins s σ H Q I h => kla_eval hdef ?_⟩
  have bP : s.heap.BuiltinsAt X.mg P := TB.bm.keeps I.bk
  have clo := closure_ok (scope := scope) (env := X.env) fun y hy e => absurd e (hfree y hy)
  rw [hclo] at clo
  rcases h with ⟨hP, q⟩ | ⟨c2, hP, hc2, q⟩
  · have hP2 : s.heap.get? P = some { cls := .none, data := .fields #[] } := I.hok P _ hP
    refine kla_makeFunction (mg := X.mg) (c := c) (P := P) (ps := #[]) clo I.ok.glob (I.mod.glob.keeps I.bk) hcode (TB.code.keeps I.bk) hP2 True.intro (by simp [codeAmong]) TB.gP bP fun c' ctv h' tk hx hge hlt hrec htb => ?_
    obtain ⟨c0, oc, vs, t, e0, hoc, hd, hv⟩ := hrec
    cases e0
    have hsz : s.heap.objs.size ≤ h'.objs.size := Nat.le_trans hge (Nat.le_of_lt hlt)
    have nC : H c' = none := I.hok.fresh hge
    have nF : H h'.objs.size = none := I.hok.fresh hsz
    have n1 : h'.objs.size ≠ c' := Nat.ne_of_gt hlt
    have n2 : h'.objs.size ≠ P := Nat.ne_of_gt (Nat.lt_of_lt_of_le (Heap.lt_size hP2) hsz)
    have e1 : (#[] : Array Value) ++ tbE pos c' = tbE pos c' := by simp
    have I1 := inv_table (q := X.env.qual ++ "<lambda>") (t' := tk) (more := tbE pos c') (h' := h') I hP hx (by rw [e1]; exact htb) hge ⟨oc, vs, t, hoc, hd, hv⟩
    rw [e1] at I1
    have nF2 : (upd (upd H P (.tbl (tbE pos c'))) c' (CodeO c' (X.env.qual ++ "<lambda>"))) h'.objs.size = none := by rw [upd_ne n1, upd_ne n2]; exact nF
    have I2 := I1.laid (t' := tk) (h' := h'.push (kla_obj "<lambda>" (X.env.qual ++ "<lambda>") params body scope [] ((X.mg "__name__").getD .none) c' ctv)) (fun b o e => Heap.get?_push_of_some _ e) (Nat.le_refl _) (lamO_ok (c := c') (q := X.env.qual ++ "<lambda>") (Heap.get?_push_size _ rfl))
    exact ⟨.ref _, _, I2, rfl, q c' _ nC nF (Ne.symm n1)⟩
  · have hP2 : s.heap.get? P = some { cls := .none, data := .fields (tbE pos c2) } := I.hok P _ hP
    refine kla_makeFunctionHit (cv := .ref c2) (mg := X.mg) (c := c) (P := P) (ps := tbE pos c2) clo I.ok.glob (I.mod.glob.keeps I.bk) hcode (TB.code.keeps I.bk) hP2 (by unfold tbE; exact ⟨⟩) (by simp [tbE, codeAmong, rawInt]) bP fun ctv h' tk hx hsz => ?_
    have I2 := I.laid (t' := tk) (h' := h'.push (kla_obj "<lambda>" (X.env.qual ++ "<lambda>") params body scope [] ((X.mg "__name__").getD .none) c2 ctv)) (fun b o e => Heap.get?_push_of_some _ (hx b o e)) hsz (lamO_ok (c := c2) (q := X.env.qual ++ "<lambda>") (Heap.get?_push_size _ rfl))
    exact ⟨.ref _, _, I2, rfl, q _ (I.hok.fresh hsz)⟩
end
end N
namespace N
open PySem PySem.Spec PySem.Calls PyProof.Rows L2 PySem.W LamX
/-- x[0] in a key's body -/
theorem eval_ix0 {X : Cx} {pins : List (Addr × Obj)} {σ : L2.St} {H : Hp} {s : Shared} {E : Value → Shared → Prop} {Q : Value → Shared → Prop} {x : Str} {p1 p2 p3 : Pos} {k : Nat} {t : Addr} {z : V} {zs : List V} (I : Inv X pins σ H s)
    (hN : X.N[0]? = some x) (hv : Vis X.env.scope x) (hσ : σ[0]? = some (some (.ref t))) (hd : (x == ("__debug__" : Str)) = false) (hcd : (x == ("__classdict__" : Str)) = false) (ht : SqT X.K H t (z :: zs)) (q : ∀ u tk, RelV z u → Q u { s with toks := tk }) :
    wpAny (model X.prog X.w) X.A (eval (.Subscript (.Name x p1) (.Constant (.int 0) k p2) p3) X.env) Q E s := by
  refine Subscript_ ?_
  have key : wpAny (model X.prog X.w) X.A (eval (.Constant (.int 0) k p2) X.env) (fun i s₂ => wpAny (model X.prog X.w) X.A (subscriptTail (.Name x p1) (.Constant (.int 0) k p2) (.ref t) i) Q E s₂) E s := by
    refine wpAny_Constant_int ?_
    obtain ⟨its, r, pl, hz⟩ := I.tuple ht
    cases r with
    | cons r1 r2 =>
      rename_i u us
      have hn := line63
      exact subscriptTail_builtinR (x := u) pl.typeIs slot_tuple_getitem.lookup (getItem_tuple (j := 0) (Q := fun r s' => r = u ∧ Q r s') pl (by omega) (by omega) (by rw [List.size_toArray]; exact PySem.StrLaws.seqIndex_nonneg (by omega) (by simp only [List.length_cons]; omega)) (by simp) ⟨rfl, q _ _ r1⟩) (by rfl)
  obtain ⟨m, hn, hl⟩ := I.loc
  obtain ⟨u, r, l⟩ := hl 0 x _ hN hσ hv
  cases r
  rcases l with ⟨hk, hm⟩ | ⟨hk, c, hc, hcell⟩
  · exact wpAny_Name (wpAny_loadName_local I.ok.kind hk hn hm key) hd
  · rcases hk with hk | hk
    · exact wpAny_Name (wpAny_loadName_cell I.ok.kind hk hc hcell key) hd
    · exact wpAny_Name (wpAny_loadName_free I.ok.kind hk hc hcell key hcd) hd
end N
namespace N
open PySem PySem.Spec PySem.Calls PyProof.Rows L2 PySem.W LamX
abbrev Kf := PySem.W.Frag → Hp → V → PyData → Prop
/-- the number of the first item, a sign -/
def kfO : Kf := fun K H v kd => ∃ (t : Addr) (kx : Str) (zs : List V), v = .ref t ∧ SqT K H t (.str kx :: zs) ∧ kx.length = 1 ∧ kd = .int ((kx.cps.getD 0 0 : Nat) : Int)
def KBody (P : Program) (w : World) (K : PySem.W.Frag) (mg : Str → Option Value) (kf : Kf) (N : List Str) (qual : Str) (scope : Scope) (body : Expr) : Prop :=
  ∀ (base : Heap) (A : Around) (outer : List Env) (s : Shared) (H : Hp) (f c : Addr) (v : V) (kd : PyData) (s1 : Shared) (E Q : Value → Shared → Prop), kf K H v kd → Inv (cxOf CX0 P w K mg base N qual scope f (.ref c) A outer s H E0) [] (L2.start N [v]) H s1 →
    (∀ z tk, Reads s1.heap z kd [] → Q z { s1 with toks := tk }) → wpAny (model P w) (A.deeper (lmEnv qual scope s.heap.objs.size f c)) (eval body (lmEnv qual scope s.heap.objs.size f c)) Q E s1
section
variable {P : Program} {w : World} {K : PySem.W.Frag} {mg : Str → Option Value} {x qual : Str} {scope : Scope} {p1 p2 p3 q1 q2 : Pos} {k : Nat}
theorem kb_ord (hv : scope.names.lookup x = some .local) (hd : (x == ("__debug__" : Str)) = false) (hcd : (x == ("__classdict__" : Str)) = false) (hg : scope.names.lookup ("ord" : Str) = some .globalImplicit) (hm : mg "ord" = none) :
    KBody P w K mg kfO [x] qual scope (.Call (.Name "ord" q1) [.Subscript (.Name x p1) (.Constant (.int 0) k p2) p3] [] q2) := by
  intro base A outer s H f c v kd s1 E Q hk I q
  obtain ⟨t, kx, zs, rfl, ht, h1, rfl⟩ := hk
  refine Call_ (ld_blt I hg hm boot_ord ?_)
  refine PyProof.Rows.callWith_builtin1 (PyProof.Rows.args_cons ?_ rfl) rfl rfl
  refine eval_ix0 (zs := zs) (z := .str kx) I rfl (.inl hv) rfl hd hcd ht fun u tk r => ?_
  obtain ⟨t2, rfl⟩ := r
  refine PyProof.Rows.args_nil ?_
  exact ord_of_one h1 (q _ _ (.int _ _))
end
def rSortL (K : PySem.W.Frag) (kf : Kf) (q : Str) (params : Arguments) (body : Expr) (scope : Scope) : List V → List V → Hp → VK → Prop := fun vs zs H Q => ∃ (l f c : Addr) (bs : List (V × PyData)), vs = [.ref l] ∧ zs = [.ref f] ∧ SqL K H l (bs.map (·.1)) ∧ (∀ b ∈ bs, kf K H b.1 b.2) ∧ AllAlike (bs.map (·.2)) ∧ Sortable (bs.map (·.2)) ∧ (∀ b ∈ bs, b.2.depth ≤ 60) ∧
  H f = some (LamO f c q params body scope) ∧ H c = some (CodeO c q) ∧ ∀ p, H p = none → Q (.ref p) (upd H p (.lst ((bs.mergeSort (dataLe false Prod.snd)).map (·.1))))
theorem cr_sortedL {X : Cx} {kf : Kf} {x q : Str} {params : Arguments} {body : Expr} {scope : Scope} {j : Nat} (hr : Room (j + 3) X.A) (S : FnScope [x] [x] scope) (hb : ∀ (pm ctv : Value) (c : Addr) (u : Value), bindArgs (kla_fn "<lambda>" q params body scope [] pm (.ref c) ctv) ⟨[u], []⟩ = pure [(x, u)])
    (hbody : KBody X.prog X.w X.K X.mg kf [x] q scope body) : CallRK X (.builtin "sorted") [Str.ofString "key"] (rSortL X.K kf q params body scope) := by
  intro pins s σ H vs zs us ws Q I r rz h
  obtain ⟨l, f, c, bs, rfl, rfl, hs, hkf, hal, hk, hdp, hf, hc, qq⟩ := h
  obtain rfl := Vals.ref1 r
  obtain ⟨w1, rfl, e1⟩ := vals1 rz
  obtain rfl : w1 = Value.ref f := e1
  obtain ⟨its, rv, hl, hz⟩ := I.list hs
  rw [List.length_map] at hz
  have hu := hr.un
  have hr2 : Room (j + 1) X.A.in1.in1 := (show Room (j + 2) X.A.in1 from Room.in1 hr).in1
  refine sorted_key_data (b := false) (bs := bs) (R := fun u b => RelV b.1 u ∧ b ∈ bs) Prod.snd hl.isList ?_ hal hk hz (fun b hb => ?_) (PyProof.Rows.ksk_s1 _ _) (fun _ => PyProof.Rows.ksk_l1 _ _) (fun _ => PyProof.Rows.ksk_t1 _ _) (fun v b hR hx h tk kp => ?_) fun out ep h' tk kp fresh hat ho eo => ?_
  · exact each_mem (each_vals rv)
  · have := hdp b hb
    omega
  · have I2 : Inv X pins σ H { s with heap := h, toks := tk } := I.kept kp
    obtain ⟨pm, ctv, hfo⟩ := (I2.hok f _ hf).1
    obtain ⟨oc, vs, t, hco, hcd, hcv⟩ := (I2.hok c _ hc).1
    refine lam_turn (N := [x]) (x := x) I2.env0.in1.in1 (Room.mono hr2 (by omega)) hR.1 hfo ⟨c, oc, vs, t, rfl, hco, hcd, hcv⟩ S (hb pm ctv c) fun s1 E Q J kp2 q2 => ?_
    exact hbody X.base _ _ _ H f c b.1 b.2 s1 E Q (hkf b hx) J q2
  · have hlen : ((bs.mergeSort (dataLe false Prod.snd)).map (·.1)).length ≤ sizeLine := by
      rw [List.length_map, List.length_mergeSort]
      exact hz
    have ev : EachIs (fun u b => RelV b.1 u) out (bs.mergeSort (dataLe false Prod.snd)) := eo.mono fun _ _ z => z.1
    exact ⟨.ref _, upd H (s.heap.objs.size + 1) (.lst ((bs.mergeSort (dataLe false Prod.snd)).map (·.1))), I.laid (t' := tk) kp (Nat.le_succ _) ⟨hlen, out, ep, vals_each ev, hat⟩, rfl, qq _ (I.hok.fresh (Nat.le_succ _))⟩
end N
set_option Elab.async false
set_option linter.all false
set_option maxRecDepth 100000
set_option maxHeartbeats 2000000
namespace N
open PySem PySem.Spec PySem.Calls PyProof.Rows L2 PySem.W LamX
open C8 (Cal)
section
variable {P : Program} {w : World} {K : PySem.W.Frag} {mg : Str → Option Value} {base : Heap} {F : FmKit} {cl : Nat → Addr} {S : FS}
theorem okDC {x qual : Str} {st : Stmt} {f cc : Addr} {fd : FuncData} {N ps : List Str} {k : Nat} (Fn : Fun K x qual st f fd) (hcc : fd.code = .ref cc) (Sc : FnScope N ps (defScope st)) (len : ∀ ds W post, S ds W post → ds.length = ps.length)
    (body : ∀ (A : Around) (outer : List Env) (s : Shared) (H : Hp) (E : XK), Room k (A.deeper (envOfC qual (defScope st) s.heap.objs.size f (.ref cc))) →
      ∃ t, PSs (cxOf CX0 P w K mg base N qual (defScope st) f (.ref cc) A outer s H E).nox (defBody st) t ∧ ∀ ds W post, S ds W post → Sw F ⟨K, cl⟩ t (startD N ds) W (E_ post)) : FnOk P w K mg base CX0 (k + 1) f fd ps (spN F ⟨K, cl⟩ S) := by
  obtain ⟨oc, od, kV, doc, pm, an, cdv, ct, osl, rfl, lk, hcd⟩ := Fn.ex
  have hcc : cdv = .ref cc := hcc
  subst hcc
  refine fn_of lk hcd Sc (spN_len len) fun A outer s H vs Q E hr hsp => ?_
  obtain ⟨t, ht, b⟩ := body A outer s H E hr
  exact ⟨t, ht.nox, body_run hsp b⟩
theorem calDC {x : Str} {st : Stmt} {f cc : Addr} {fd : FuncData} {N ps : List Str} {k : Nat} (hm : mg x = some (.ref f)) (Fn : Fun K x x st f fd) (hcc : fd.code = .ref cc) (Sc : FnScope N ps (defScope st)) (len : ∀ ds W post, S ds W post → ds.length = ps.length)
    (hb : ∀ (kV doc pm : Value) (an : Option Addr) (cdv ct : Value) (us : List Value), us.length = ps.length → bindArgs (PySem.W.fnOf x x (defArgs st) (defBody st) (defScope st) .none kV doc pm an cdv ct) ⟨us, []⟩ = pure (ps.zip us))
    (body : ∀ (A : Around) (outer : List Env) (s : Shared) (H : Hp) (E : XK), Room k (A.deeper (envOfC x (defScope st) s.heap.objs.size f (.ref cc))) →
      ∃ t, PSs (cxOf CX0 P w K mg base N x (defScope st) f (.ref cc) A outer s H E).nox (defBody st) t ∧ ∀ ds W post, S ds W post → Sw F ⟨K, cl⟩ t (startD N ds) W (E_ post)) : Cal P w K mg base (k + 1) x (spN F ⟨K, cl⟩ S) [] :=
  ⟨f, fd, ps, [], okDC Fn hcc Sc len body, hm, Fn.kp, Fn.binds hb, .nil⟩
end
def tbW (P : Addr) (q : Str) (pos : Pos) : Option Addr → Om
  | none => [(P, .any (.tbl #[]))]
  | some c => [(c, .any (CodeO c q)), (P, .any (.tbl (tbE pos c)))]
section
variable {F : FmKit} {T : Kx} {C H H' O O' : Hp} {G : Gm} {W : Om} {R : D → Om → Prop}
theorem Nx.perm {W2 : Om} (n : Nx F T C W H H' O') (h : W.Perm W2) : Nx F T C W2 H H' O' := ⟨n.ext, n.dis, n.oc, n.own.perm h⟩
/-- the list that sorted gives, laid -/
theorem sort_fin {α : Type} {as : List α} {f : α → D} {g : α → PyData} {cs : List (V × α)} {p : Addr} {W2 : Om} (n : Nx F T C W2 H H' O') (e2 : cs.map (·.2) = as) (hd : ∀ c ∈ cs, Den F T H' (f c.2) c.1) (hn : ov O' H' p = none)
    {Q : VK} (q : ∀ d W' H2 O2 v, R d W' → Nx F T C W' H H2 O2 → Den F T H2 d v → Q v (ov O2 H2)) (r : R (.lst ((as.mergeSort (dataLe false g)).map f)) W2) :
    Q (.ref p) (upd (ov O' H') p (.lst (((cs.map fun c => (c.1, g c.2)).mergeSort (dataLe false Prod.snd)).map (·.1)))) := by
  have s1 : ((cs.map fun c => (c.1, g c.2)).mergeSort (dataLe false Prod.snd)).map (·.1) = (cs.mergeSort (dataLe false fun c => g c.2)).map (·.1) := by
    rw [← sort_maps (fun c : V × α => (c.1, g c.2)) (r := dataLe false fun c => g c.2) fun a _ b _ => rfl, List.map_map]
    rfl
  have s2 : as.mergeSort (dataLe false g) = (cs.mergeSort (dataLe false fun c => g c.2)).map (·.2) := by
    have := sort_maps (r := dataLe false fun c : V × α => g c.2) (s := dataLe false g) (l := cs) (fun c => c.2) fun a _ b _ => rfl
    rw [e2] at this
    exact this.symm
  rw [s1]
  obtain ⟨n2, e3, s2'⟩ := n.newF (o := .lst ((cs.mergeSort (dataLe false fun c => g c.2)).map (·.1))) hn
  rw [e3]
  refine q _ W2 _ O' _ r n2 ⟨p, _, rfl, upd_same, ?_⟩
  rw [s2, List.map_map]
  refine denL_zip (f := f) fun c hc => ?_
  exact (hd c ((List.mergeSort_perm _ _).mem_iff.mp hc)).mono s2'
theorem ev_sortL {ta : TE} {kf : Kf} {P : Addr} {q : Str} {pos : Pos} {params : Arguments} {body : Expr} {scope : Scope} {α : Type} {f : α → D} {g : α → PyData}
    (hkf : ∀ (O H : Hp) (a : α) (v : V), Dis O H → Den F T H (f a) v → kf T.K (ov O H) v (g a))
    (h : Ev F T ta G W fun d W1 => ∃ (as : List α) (oc : Option Addr) (Wr : Om), W1.Perm (tbW P q pos oc ++ Wr) ∧ d = .lst (as.map f) ∧ AllAlike (as.map g) ∧ Sortable (as.map g) ∧ (∀ a ∈ as, (g a).depth ≤ 60) ∧ ∀ oc', R (.lst ((as.mergeSort (dataLe false g)).map f)) (tbW P q pos oc' ++ Wr)) :
    Ev F T (tCKw (rSortL T.K kf q params body scope) (tCons ta tNil) (tCons (tMkL P q params body scope pos) tNil)) G W R := fun C H O σ w Q qq =>
  h C H O σ w _ fun d W1 H1 O1 x ⟨as, oc, Wr, hp, ed, hal, hk, hdp, r⟩ n k => by
    subst ed
    obtain ⟨l, xs, rfl, hs, kl⟩ := k
    obtain ⟨cs, e1, e2, hd⟩ := zip_den kl
    have hmem : ∀ c ∈ cs, c.2 ∈ as := fun c hc => by rw [← e2]; exact List.mem_map.mpr ⟨c, hc, rfl⟩
    have eb : (cs.map fun c => (c.1, g c.2)).map (·.1) = xs := by rw [List.map_map, ← e1]; rfl
    have eg : (cs.map fun c => (c.1, g c.2)).map (·.2) = as.map g := by rw [List.map_map, ← e2, List.map_map]; rfl
    have fin : ∀ {W2 : Om} {H2 O2 : Hp} {fa c : Addr}, Nx F T C W2 H H2 O2 → Same H1 H2 → R (.lst ((as.mergeSort (dataLe false g)).map f)) W2 → ov O2 H2 fa = some (LamO fa c q params body scope) → ov O2 H2 c = some (CodeO c q) →
        rSortL T.K kf q params body scope [.ref l] [.ref fa] (ov O2 H2) Q := fun {W2 H2 O2 fa c} n2 s2 r2 hf hc =>
      ⟨l, fa, c, cs.map fun c => (c.1, g c.2), rfl, rfl, by rw [eb]; exact SqL.of (n2.dis.same _ _ (s2 _ _ hs)), fun b hb => by
        obtain ⟨c0, hc0, rfl⟩ := List.mem_map.mp hb
        exact hkf O2 H2 c0.2 c0.1 n2.dis ((hd c0 hc0).mono s2), by rw [eg]; exact hal, by rw [eg]; exact hk, fun b hb => by
        obtain ⟨c0, hc0, rfl⟩ := List.mem_map.mp hb
        exact hdp _ (hmem c0 hc0), hf, hc, fun p hn => sort_fin n2 e2 (fun c0 hc0 => (hd c0 hc0).mono s2) hn qq r2⟩
    have n0 := n.perm hp
    cases oc with
    | none =>
      have hO : O1 P = some (.tbl #[]) := (n0.own.at_ P (.any (.tbl #[])) (by simp [tbW])).2
      refine .inl ⟨ov_own hO, fun c fa hc hfa hcf => ?_⟩
      have n1 : Nx F T C ([] ++ (P, .any (.tbl #[])) :: Wr) H H1 O1 := n0
      obtain ⟨n2, e3⟩ := n1.write (o := .tbl (tbE pos c)) (od2 := .any (.tbl (tbE pos c))) rfl
      have hPc : P ≠ c := fun z => by rw [← z, ov_own hO] at hc; cases hc
      have hPf : P ≠ fa := fun z => by rw [← z, ov_own hO] at hfa; cases hfa
      rw [e3]
      have hc2 : ov (upd O1 P (.tbl (tbE pos c))) H1 c = none := by rw [← e3, upd_ne (Ne.symm hPc)]; exact hc
      obtain ⟨n3, e4, _⟩ := n2.newO (od := .any (CodeO c q)) (o := CodeO c q) hc2 rfl
      rw [e4]
      have hf2 : ov (upd (upd O1 P (.tbl (tbE pos c))) c (CodeO c q)) H1 fa = none := by rw [← e4, upd_ne (Ne.symm hcf), ← e3, upd_ne (Ne.symm hPf)]; exact hfa
      obtain ⟨n4, e5, s4⟩ := n3.newF (o := LamO fa c q params body scope) hf2
      show rSortL T.K kf q params body scope [.ref l] [.ref fa] (upd _ fa _) Q
      rw [e5]
      refine fin (c := c) n4 s4 (r (some c)) ?_ ?_
      · rw [← e5, upd_same]
      · rw [← e5, upd_ne hcf]
        rw [← e4, upd_same]
    | some c =>
      have hO : O1 P = some (.tbl (tbE pos c)) := (n0.own.at_ P (.any (.tbl (tbE pos c))) (by simp [tbW])).2
      have hC : O1 c = some (CodeO c q) := (n0.own.at_ c (.any (CodeO c q)) (by simp [tbW])).2
      refine .inr ⟨c, ov_own hO, ov_own hC, fun fa hfa => ?_⟩
      have hcf : c ≠ fa := fun z => by rw [← z, ov_own hC] at hfa; cases hfa
      obtain ⟨n4, e5, s4⟩ := n0.newF (o := LamO fa c q params body scope) hfa
      show rSortL T.K kf q params body scope [.ref l] [.ref fa] (upd _ fa _) Q
      rw [e5]
      refine fin (c := c) n4 s4 (r (some c)) ?_ ?_
      · rw [← e5, upd_same]
      · rw [← e5, upd_ne hcf]
        exact ov_own hC
end
end N
set_option Elab.async false
set_option linter.all false
set_option maxRecDepth 100000
set_option maxHeartbeats 1000000
namespace N
open PySem PySem.Spec PyProof.Rows L2
/-- so many alls ahead of a form -/
def deepF : Nat → Fm → Fm
  | 0, f => f
  | n + 1, f => .all (deepF n f)
theorem hv_all {r : Nat → Nat → Bool} {f : Fm} {k : Nat} : hv r (.all f) k = true ↔ ∀ m, m < k → hv r f m = true := by
  show (List.range k).all (fun j => hv r f j) = true ↔ _
  rw [List.all_eq_true]
  exact ⟨fun h m hm => h m (List.mem_range.mpr hm), fun h m hm => h m (List.mem_range.mp hm)⟩
theorem hv_deep {r : Nat → Nat → Bool} {f : Fm} : ∀ (n k : Nat), hv r (deepF (n + 1) f) k = true ↔ ∀ m, m + (n + 1) ≤ k → hv r f m = true
  | 0, k => by
    show hv r (.all f) k = true ↔ _
    rw [hv_all]
    exact ⟨fun h m hm => h m (by omega), fun h m hm => h m (by omega)⟩
  | n + 1, k => by
    show hv r (.all (deepF (n + 1) f)) k = true ↔ _
    rw [hv_all]
    constructor
    · intro h m hm
      exact (hv_deep n (k - 1)).mp (h (k - 1) (by omega)) m (by omega)
    · intro h j hj
      exact (hv_deep n j).mpr fun m hm => h m (by omega)
theorem many_deep : ∀ (n : Nat) (f : Fm), (deepF n f).many = f.many + n
  | 0, _ => rfl
  | n + 1, f => by
    simp only [deepF, Fm.many, many_deep n f]
    omega
theorem okL_deep : ∀ {n : Nat} {f : Fm}, f.okL → (deepF n f).okL
  | 0, _, h => h
  | n + 1, f, h => okL_deep (n := n) (f := f) h
theorem ltp_deep {P : Nat → Prop} : ∀ {n : Nat} {f : Fm}, ltp P f → ltp P (deepF n f)
  | 0, _, h => h
  | n + 1, f, h => ltp_deep (n := n) (f := f) h
/-- a deed that changes once -/
def thr (t : Nat) (c : Bool) (n : Nat) : Bool := decide (n < t) != c
theorem thr_lo {t n : Nat} {c : Bool} (h : n < t) : thr t c n = !c := by unfold thr; rw [decide_eq_true h]; cases c <;> rfl
theorem thr_hi {t n : Nat} {c : Bool} (h : t ≤ n) : thr t c n = c := by unfold thr; rw [decide_eq_false (by omega)]; cases c <;> rfl
theorem thr_T {t n : Nat} : thr t false n = true ↔ n < t := by unfold thr; simp
theorem thr_F {t n : Nat} : thr t true n = true ↔ t ≤ n := by unfold thr; simp
theorem thr_of {f : Nat → Bool} {t : Nat} (h : ∀ n, f n = true ↔ n < t) : ∀ n, f n = thr t false n := fun n => by
  rw [Bool.eq_iff_iff, h, thr_T]
theorem thr_ofT {f : Nat → Bool} {t : Nat} (h : ∀ n, f n = true ↔ t ≤ n) : ∀ n, f n = thr t true n := fun n => by
  rw [Bool.eq_iff_iff, h, thr_F]
section
variable {b : Plr} {L : Nat} {p : Nat × Nat} {t t' : Nat} {c c' : Bool}
theorem thr_rest (hb : Bok b) (hr : restB b L) (hp : prB b p) (h : ∀ n, deed b p n = thr t c n) : t ≤ L := by
  refine Nat.le_of_not_lt fun hl => ?_
  have e := still_deed hb hr.1 hp (Nat.le_of_lt hl)
  rw [h, h, thr_lo hl, thr_hi (Nat.le_refl t)] at e
  cases c <;> cases e
theorem thr_filter (h : ∀ n, deed b p n = thr t c n) (hL : t ≤ L) : (List.range (L + 1)).filter (fun k => deed b p k != deed b p L) = List.range t := by
  have e : (List.range (L + 1)).filter (fun k => deed b p k != deed b p L) = (List.range (L + 1)).filter fun k => decide (k ∈ List.range t) := by
    refine List.filter_congr fun k hk => ?_
    rw [h, h, thr_hi hL]
    unfold thr
    rw [show decide (k ∈ List.range t) = decide (k < t) by rw [Bool.eq_iff_iff]; simp]
    cases decide (k < t) <;> cases c <;> rfl
  rw [e]
  exact range_asc List.pairwise_lt_range fun x hx => by have := List.mem_range.mp hx; omega
end
section
variable {b : Plr} {x y : Nat}
theorem dd_yes (hb : Bok b) (hp : prB b (x, y)) (e : frmB b x = .imp .no .no) (n : Nat) : deed b (x, y) n = true := by
  rw [deed_step hb hp]
  show hv _ (frmB b x) n = true
  rw [e]
  rfl
theorem dd_no (hb : Bok b) (hp : prB b (x, y)) (e : frmB b x = .no) (n : Nat) : deed b (x, y) n = false := by
  rw [deed_step hb hp]
  show hv _ (frmB b x) n = false
  rw [e]
  rfl
theorem dd_late (hb : Bok b) (hp : prB b (x, y)) {k : Nat} (e : frmB b x = deepF (k + 1) .no) (n : Nat) : deed b (x, y) n = true ↔ n < k + 1 := by
  rw [deed_step hb hp]
  show hv _ (frmB b x) n = true ↔ _
  rw [e, hv_deep]
  constructor
  · intro h
    refine Nat.lt_of_not_le fun hl => ?_
    have := h 0 (by omega)
    cases this
  · intro h m hm
    omega
theorem dd_wait (hb : Bok b) (hp : prB b (x, y)) {j : Nat} (e : frmB b x = deepF (j + 1) (.at 111)) (n : Nat) : deed b (x, y) n = true ↔ ∀ m, m + (j + 1) ≤ n → deed b (y, x) m = true := by
  rw [deed_step hb hp]
  show hv _ (frmB b x) n = true ↔ _
  rw [e, hv_deep]
  rfl
theorem dd_ask (hb : Bok b) (hp : prB b (x, y)) {a : Nat} (ha : a ≠ 109 ∧ a ≠ 111) (e : frmB b x = .all (.at a)) (n : Nat) : deed b (x, y) n = true ↔ ∀ m, m < n → deed b (y, a) m = true := by
  rw [deed_step hb hp]
  show hv _ (frmB b x) n = true ↔ _
  rw [e, hv_all]
  have q : ∀ m, hv (envB (deed b) (x, y)) (.at a) m = deed b (y, a) m := fun m => by
    show envB (deed b) (x, y) a m = _
    unfold envB
    rw [if_neg ha.1, if_neg ha.2]
  exact ⟨fun h m hm => (q m).symm.trans (h m hm), fun h m hm => (q m).trans (h m hm)⟩
theorem dd_guard (hb : Bok b) (hp : prB b (x, y)) {a : Nat} (ha : a ≠ 109 ∧ a ≠ 111) (e : frmB b x = .all (Fm.neg (.at a))) (n : Nat) : deed b (x, y) n = true ↔ ∀ m, m < n → deed b (y, a) m = false := by
  rw [deed_step hb hp]
  show hv _ (frmB b x) n = true ↔ _
  rw [e, hv_all]
  have q : ∀ m, hv (envB (deed b) (x, y)) (Fm.neg (.at a)) m = !deed b (y, a) m := fun m => by
    show (!(envB (deed b) (x, y) a m) || false) = _
    unfold envB
    rw [if_neg ha.1, if_neg ha.2, Bool.or_false]
  constructor
  · intro h m hm
    have := h m hm
    rw [q] at this
    simpa using this
  · intro h m hm
    rw [q, h m hm]
    rfl
theorem dd_shy (hb : Bok b) (hp : prB b (x, y)) (e : frmB b x = Fm.neg (.all (Fm.neg (.at 111)))) (n : Nat) : deed b (x, y) n = true ↔ ∃ m, m < n ∧ deed b (y, x) m = true := by
  rw [deed_step hb hp]
  show hv _ (frmB b x) n = true ↔ _
  rw [e]
  show (!(hv (envB (deed b) (x, y)) (.all (Fm.neg (.at 111))) n) || false) = true ↔ _
  have q : ∀ m, hv (envB (deed b) (x, y)) (Fm.neg (.at 111)) m = !deed b (y, x) m := fun m => by
    show (!(deed b (y, x) m) || false) = _
    rw [Bool.or_false]
  rw [Bool.or_false, Bool.not_eq_true', ← Bool.not_eq_true, hv_all]
  constructor
  · intro h
    refine Classical.byContradiction fun z => h fun m hm => ?_
    rw [q]
    cases e : deed b (y, x) m
    · rfl
    · exact absurd ⟨m, hm, e⟩ z
  · rintro ⟨m, hm, e⟩ z
    have := z m hm
    rw [q, e] at this
    cases this
theorem dd_odd (hb : Bok b) (hp : prB b (x, y)) (e : frmB b x = Fm.neg (.all (.at 111))) (n : Nat) : deed b (x, y) n = true ↔ ∃ m, m < n ∧ deed b (y, x) m = false := by
  rw [deed_step hb hp]
  show hv _ (frmB b x) n = true ↔ _
  rw [e]
  show (!(hv (envB (deed b) (x, y)) (.all (.at 111)) n) || false) = true ↔ _
  have q : ∀ m, hv (envB (deed b) (x, y)) (.at 111) m = deed b (y, x) m := fun m => rfl
  rw [Bool.or_false, Bool.not_eq_true', ← Bool.not_eq_true, hv_all]
  constructor
  · intro h
    refine Classical.byContradiction fun z => h fun m hm => ?_
    rw [q]
    cases e : deed b (y, x) m
    · exact absurd ⟨m, hm, e⟩ z
    · rfl
  · rintro ⟨m, hm, e⟩ z
    have := z m hm
    rw [q, e] at this
    cases this
end
theorem lv_le {l : Plr} (h : PlyU l) (h5 : l.length ≤ 5) {L : Nat} (hL : L ≤ (allB2 (srtR l)).length) : L ≤ (l.map fun p => p.2.alls.length).sum * l.length := by
  have B := h.bk h5
  rw [allB2_len, srtR_len h.nd] at hL
  have key : ∀ x ∈ srtR l, (innB (srtR l) x.1).length ≤ x.2.alls.length := fun x hx => by
    have e1 : frmB (srtR l) x.1 = x.2 := frmB_mem B.nd hx
    unfold innB
    rw [e1]
    exact List.length_filterMap_le _ _
  have h1 : ∀ m : Plr, (∀ x ∈ m, x ∈ srtR l) → (m.map fun x => (innB (srtR l) x.1).length).sum ≤ (m.map fun p => p.2.alls.length).sum := fun m => by
    induction m with
    | nil => exact fun _ => Nat.le_refl _
    | cons a m ih =>
      intro hm
      have a1 := key a (hm a List.mem_cons_self)
      have a2 := ih fun x hx => hm x (List.mem_cons_of_mem _ hx)
      simp only [List.map_cons, List.sum_cons]
      omega
  have h2 := h1 _ fun _ h => h
  have h3 : ((srtR l).map fun p => p.2.alls.length).sum = (l.map fun p => p.2.alls.length).sum := (((srtR_perm h.nd).map fun p => p.2.alls.length).sum_nat).symm
  rw [h3] at h2
  exact Nat.le_trans hL (Nat.mul_le_mul_right _ h2)
theorem ins_leF (g : Fm) : ∀ l : List Fm, (Fm.ins g l).length ≤ l.length + 1
  | [] => Nat.le_refl _
  | h :: r => by
    have := ins_leF g r
    simp only [Fm.ins]
    split
    · exact Nat.le_succ _
    · split
      · exact Nat.le_refl _
      · simp only [List.length_cons]
        omega
theorem merge_leF (xs ys : List Fm) : (Fm.merge xs ys).length ≤ xs.length + ys.length := by
  unfold Fm.merge
  split
  · omega
  · split
    · omega
    · have key : ∀ zs : List Fm, (zs.foldr Fm.ins []).length ≤ zs.length := fun zs => by
        induction zs with
        | nil => exact Nat.le_refl _
        | cons a l ih =>
          have := ins_leF a (l.foldr Fm.ins [])
          simp only [List.foldr_cons, List.length_cons]
          omega
      have := key (xs ++ ys)
      rw [List.length_append] at this
      exact this
theorem alls_deep {f : Fm} (h : f.alls = []) : ∀ n, (deepF n f).alls.length ≤ n
  | 0 => by
    show f.alls.length ≤ 0
    rw [h]
    exact Nat.le_refl _
  | n + 1 => by
    have := alls_deep h n
    have := merge_leF (deepF n f).alls [Fm.all (deepF n f)]
    show (Fm.merge (deepF n f).alls [Fm.all (deepF n f)]).length ≤ n + 1
    simp only [List.length_singleton] at this
    omega
theorem bk_frm {l : Plr} (h : PlyU l) {c : Nat} {f : Fm} (m : (c, f) ∈ l) : frmB (srtR l) c = f := by
  rw [frmB_srt h.nd]
  exact frmB_of h.nd m
theorem bk_pr {l : Plr} {x y : Nat} {f g : Fm} (h1 : (x, f) ∈ l) (h2 : (y, g) ∈ l) : prB (srtR l) (x, y) := prB_srt.mpr ⟨List.mem_map.mpr ⟨_, h1, rfl⟩, List.mem_map.mpr ⟨_, h2, rfl⟩⟩
def waitL (s h x w o k j i : Nat) : Plr := [(s, Fm.yes), (h, .no), (x, deepF (k + 1) .no), (w, deepF (j + 1) (.at 111)), (o, deepF (i + 1) (.at 111))]
def askL (s h w p g : Nat) : Plr := [(s, Fm.yes), (h, .no), (w, .all (.at 111)), (p, .all (.at s)), (g, .all (Fm.neg (.at h)))]
def ansL (y x d s k : Nat) : Plr := [(y, Fm.neg (.all (Fm.neg (.at 111)))), (x, deepF (k + 1) .no), (d, Fm.neg (.all (.at 111))), (s, Fm.yes)]
theorem wait_u {s h x w o k j i : Nat} (nd : [s, h, x, w, o].Nodup) (cap : ∀ c ∈ [s, h, x, w, o], 65 ≤ c ∧ c ≤ 90) (hk : k ≤ 3) (hj : j ≤ 3) (hi : i ≤ 3) : PlyU (waitL s h x w o k j i) where
  some_ := by simp [waitL]
  nd := nd
  cap := fun p hp => cap _ (List.mem_map_of_mem (f := Prod.fst) hp)
  inn := fun p hp => by
    simp only [waitL, List.mem_cons, List.not_mem_nil, or_false] at hp
    rcases hp with rfl | rfl | rfl | rfl | rfl <;> first | trivial | exact ⟨trivial, trivial⟩
  ltp := fun p hp => by
    simp only [waitL, List.mem_cons, List.not_mem_nil, or_false] at hp
    rcases hp with rfl | rfl | rfl | rfl | rfl
    · exact ⟨trivial, trivial⟩
    · trivial
    · exact ltp_deep (f := .no) trivial
    · exact ltp_deep (f := .at 111) (.inr (.inl rfl))
    · exact ltp_deep (f := .at 111) (.inr (.inl rfl))
  few := fun p hp => by
    simp only [waitL, List.mem_cons, List.not_mem_nil, or_false] at hp
    rcases hp with rfl | rfl | rfl | rfl | rfl <;> simp only [many_deep, Fm.many, Fm.yes] <;> omega
theorem ask_u {s h w p g : Nat} (nd : [s, h, w, p, g].Nodup) (cap : ∀ c ∈ [s, h, w, p, g], 65 ≤ c ∧ c ≤ 90) : PlyU (askL s h w p g) where
  some_ := by simp [askL]
  nd := nd
  cap := fun q hq => cap _ (List.mem_map_of_mem (f := Prod.fst) hq)
  inn := fun q hq => by
    simp only [askL, List.mem_cons, List.not_mem_nil, or_false] at hq
    rcases hq with rfl | rfl | rfl | rfl | rfl <;> first | trivial | exact ⟨trivial, trivial⟩
  ltp := fun q hq => by
    simp only [askL, List.mem_cons, List.not_mem_nil, or_false] at hq
    rcases hq with rfl | rfl | rfl | rfl | rfl
    · exact ⟨trivial, trivial⟩
    · trivial
    · exact (Or.inr (.inl rfl) : isN _ 111)
    · exact (Or.inr (.inr (show s ∈ [s, h, w, p, g] by simp)) : isN (askL s h w p g) s)
    · exact ⟨(Or.inr (.inr (show h ∈ [s, h, w, p, g] by simp)) : isN (askL s h w p g) h), trivial⟩
  few := fun q hq => by
    simp only [askL, List.mem_cons, List.not_mem_nil, or_false] at hq
    rcases hq with rfl | rfl | rfl | rfl | rfl <;> simp only [Fm.many, Fm.yes, Fm.neg] <;> omega
theorem ans_u {y x d s k : Nat} (nd : [y, x, d, s].Nodup) (cap : ∀ c ∈ [y, x, d, s], 65 ≤ c ∧ c ≤ 90) (hk : k ≤ 3) : PlyU (ansL y x d s k) where
  some_ := by simp [ansL]
  nd := nd
  cap := fun q hq => cap _ (List.mem_map_of_mem (f := Prod.fst) hq)
  inn := fun q hq => by
    simp only [ansL, List.mem_cons, List.not_mem_nil, or_false] at hq
    rcases hq with rfl | rfl | rfl | rfl <;> first | trivial | exact ⟨trivial, trivial⟩
  ltp := fun q hq => by
    simp only [ansL, List.mem_cons, List.not_mem_nil, or_false] at hq
    have h1 : isN [(y, Fm.neg (.all (Fm.neg (.at 111)))), (x, deepF (k + 1) .no), (d, Fm.neg (.all (.at 111))), (s, Fm.yes)] 111 := .inr (.inl rfl)
    rcases hq with rfl | rfl | rfl | rfl
    · exact ⟨⟨h1, trivial⟩, trivial⟩
    · exact ltp_deep (f := .no) trivial
    · exact ⟨h1, trivial⟩
    · exact ⟨trivial, trivial⟩
  few := fun q hq => by
    simp only [ansL, List.mem_cons, List.not_mem_nil, or_false] at hq
    rcases hq with rfl | rfl | rfl | rfl <;> simp only [many_deep, Fm.many, Fm.yes, Fm.neg] <;> omega
theorem wait_L {s h x w o k j i L : Nat} (u : PlyU (waitL s h x w o k j i)) (hk : k ≤ 3) (hj : j ≤ 3) (hi : i ≤ 3) (hL : L ≤ (allB2 (srtR (waitL s h x w o k j i))).length) : L ≤ 60 := by
  have e := lv_le u (by show 5 ≤ 5; omega) hL
  have e : L ≤ (0 + (0 + ((deepF (k + 1) .no).alls.length + ((deepF (j + 1) (.at 111)).alls.length + ((deepF (i + 1) (.at 111)).alls.length + 0))))) * 5 := e
  have h1 := alls_deep (f := .no) rfl (k + 1)
  have h2 := alls_deep (f := .at 111) rfl (j + 1)
  have h3 := alls_deep (f := .at 111) rfl (i + 1)
  omega
theorem ask_L {s h w p g L : Nat} (u : PlyU (askL s h w p g)) (hL : L ≤ (allB2 (srtR (askL s h w p g))).length) : L ≤ 60 := by
  have e := lv_le u (by show 5 ≤ 5; omega) hL
  have e : L ≤ (0 + (0 + (1 + (1 + (1 + 0))))) * 5 := e
  omega
theorem ans_L {y x d s k L : Nat} (u : PlyU (ansL y x d s k)) (hk : k ≤ 3) (hL : L ≤ (allB2 (srtR (ansL y x d s k))).length) : L ≤ 60 := by
  have e := lv_le u (by show 4 ≤ 5; omega) hL
  have e : L ≤ (1 + ((deepF (k + 1) .no).alls.length + (1 + (0 + 0)))) * 4 := e
  have h1 := alls_deep (f := .no) rfl (k + 1)
  omega
end N
set_option Elab.async false
set_option linter.all false
set_option maxRecDepth 100000
set_option maxHeartbeats 1000000
namespace N
open PySem PySem.Spec PyProof.Rows L2
/-- what two do when they meet -/
structure Meet (b : Plr) (p : Nat × Nat) (t : Nat) (c : Bool) (t' : Nat) (c' : Bool) : Prop where
  pr : prB b p
  few : t ≤ 10
  one : ∀ n, deed b p n = thr t c n
  two : ∀ n, deed b (p.2, p.1) n = thr t' c' n
structure WaitOk (b : Plr) (s h x w o k j i : Nat) : Prop where
  soft : ∀ y ∈ [w, o, s], ∀ z ∈ [w, o, s], Meet b (y, z) 0 true 0 true
  wx : Meet b (w, x) (k + j) false k false
  xo : Meet b (x, o) k false (k + i) false
  oh : Meet b (o, h) i false 0 false
  sh : Meet b (s, h) 0 true 0 false
  xx : Meet b (x, x) k false k false
structure AskOk (b : Plr) (s h w p g : Nat) : Prop where
  pw : Meet b (p, w) 0 true 0 true
  ph : Meet b (p, h) 1 false 0 false
  gh : Meet b (g, h) 0 true 0 false
  gw : Meet b (g, w) 1 false 2 false
  gs : Meet b (g, s) 1 false 0 true
  ps : Meet b (p, s) 0 true 0 true
structure AnsOk (b : Plr) (y x d s k : Nat) : Prop where
  yx : Meet b (y, x) 1 true k false
  dx : Meet b (d, x) (k + 1) true k false
  dd : Meet b (d, d) 1 true 1 true
  yy : Meet b (y, y) 0 false 0 false
  ds : Meet b (d, s) 0 false 0 true
theorem wait_ok {s h x w o k j i : Nat} (u : PlyU (waitL s h x w o k j i)) (hk : k ≤ 3) (hj : j ≤ 3) (hi : i ≤ 3) : WaitOk (srtR (waitL s h x w o k j i)) s h x w o (k + 1) (j + 1) (i + 1) := by
  obtain ⟨l, hl⟩ : ∃ l, l = waitL s h x w o k j i := ⟨_, rfl⟩
  have ms : (s, Fm.yes) ∈ l := by rw [hl]; simp [waitL]
  have mh : (h, Fm.no) ∈ l := by rw [hl]; simp [waitL]
  have mx : (x, deepF (k + 1) .no) ∈ l := by rw [hl]; simp [waitL]
  have mw : (w, deepF (j + 1) (.at 111)) ∈ l := by rw [hl]; simp [waitL]
  have mo : (o, deepF (i + 1) (.at 111)) ∈ l := by rw [hl]; simp [waitL]
  rw [← hl] at u ⊢
  have hb : Bok (srtR l) := (u.bk (by rw [hl]; show 5 ≤ 5; omega)).bok
  have ys : ∀ y f, (y, f) ∈ l → ∀ n, deed (srtR l) (s, y) n = true := fun y f m => dd_yes hb (bk_pr ms m) (bk_frm u ms)
  have yh : ∀ y f, (y, f) ∈ l → ∀ n, deed (srtR l) (h, y) n = false := fun y f m => dd_no hb (bk_pr mh m) (bk_frm u mh)
  have yx : ∀ y f, (y, f) ∈ l → ∀ n, deed (srtR l) (x, y) n = true ↔ n < k + 1 := fun y f m => dd_late hb (bk_pr mx m) (bk_frm u mx)
  have yw : ∀ y f, (y, f) ∈ l → ∀ n, deed (srtR l) (w, y) n = true ↔ ∀ m, m + (j + 1) ≤ n → deed (srtR l) (y, w) m = true := fun y f m => dd_wait hb (bk_pr mw m) (bk_frm u mw)
  have yo : ∀ y f, (y, f) ∈ l → ∀ n, deed (srtR l) (o, y) n = true ↔ ∀ m, m + (i + 1) ≤ n → deed (srtR l) (y, o) m = true := fun y f m => dd_wait hb (bk_pr mo m) (bk_frm u mo)
  have fs : ∀ y ∈ [w, o, s], ∃ f, (y, f) ∈ l := fun y hy => by
    simp only [List.mem_cons, List.not_mem_nil, or_false] at hy
    rcases hy with rfl | rfl | rfl
    · exact ⟨_, mw⟩
    · exact ⟨_, mo⟩
    · exact ⟨_, ms⟩
  have mutu : ∀ N n, n < N → ∀ y ∈ [w, o, s], ∀ z ∈ [w, o, s], deed (srtR l) (y, z) n = true := fun N => by
    induction N with
    | zero => exact fun n hn => absurd hn (Nat.not_lt_zero _)
    | succ N ih =>
      intro n hn y hy z hz
      obtain ⟨g, mg⟩ := fs z hz
      have hy' := hy
      simp only [List.mem_cons, List.not_mem_nil, or_false] at hy'
      rcases hy' with rfl | rfl | rfl
      · exact (yw z g mg n).mpr fun m hm => ih m (by omega) z hz _ hy
      · exact (yo z g mg n).mpr fun m hm => ih m (by omega) z hz _ hy
      · exact ys z g mg n
  have t0 : ∀ n, thr 0 true n = true := fun n => thr_hi (Nat.zero_le _)
  have f0 : ∀ n, thr 0 false n = false := fun n => thr_hi (Nat.zero_le _)
  refine ⟨fun y hy z hz => ?_, ?_, ?_, ?_, ?_, ?_⟩
  · obtain ⟨f, mf⟩ := fs y hy
    obtain ⟨g, mg⟩ := fs z hz
    exact ⟨bk_pr mf mg, by omega, fun n => (mutu (n + 1) n (by omega) y hy z hz).trans (t0 n).symm, fun n => (mutu (n + 1) n (by omega) z hz y hy).trans (t0 n).symm⟩
  · refine ⟨bk_pr mw mx, by omega, thr_of fun n => ?_, thr_of (yx _ _ mw)⟩
    rw [yw _ _ mx]
    constructor
    · intro q
      refine Nat.lt_of_not_le fun hl => ?_
      have := (yx _ _ mw (k + 1)).mp (q (k + 1) (by omega))
      omega
    · exact fun q m hm => (yx _ _ mw m).mpr (by omega)
  · refine ⟨bk_pr mx mo, by omega, thr_of (yx _ _ mo), thr_of fun n => ?_⟩
    show deed (srtR l) (o, x) n = true ↔ _
    rw [yo _ _ mx]
    constructor
    · intro q
      refine Nat.lt_of_not_le fun hl => ?_
      have := (yx _ _ mo (k + 1)).mp (q (k + 1) (by omega))
      omega
    · exact fun q m hm => (yx _ _ mo m).mpr (by omega)
  · refine ⟨bk_pr mo mh, by omega, thr_of fun n => ?_, fun n => (yh _ _ mo n).trans (f0 n).symm⟩
    rw [yo _ _ mh]
    constructor
    · intro q
      refine Nat.lt_of_not_le fun hl => ?_
      have := q 0 (by omega)
      rw [yh _ _ mo] at this
      cases this
    · intro q m hm
      omega
  · exact ⟨bk_pr ms mh, by omega, fun n => (ys _ _ mh n).trans (t0 n).symm, fun n => (yh _ _ ms n).trans (f0 n).symm⟩
  · exact ⟨bk_pr mx mx, by omega, thr_of (yx _ _ mx), thr_of (yx _ _ mx)⟩
theorem ask_ok {s h w p g : Nat} (u : PlyU (askL s h w p g)) : AskOk (srtR (askL s h w p g)) s h w p g := by
  obtain ⟨l, hl⟩ : ∃ l, l = askL s h w p g := ⟨_, rfl⟩
  have ms : (s, Fm.yes) ∈ l := by rw [hl]; simp [askL]
  have mh : (h, Fm.no) ∈ l := by rw [hl]; simp [askL]
  have mw : (w, Fm.all (.at 111)) ∈ l := by rw [hl]; simp [askL]
  have mp : (p, Fm.all (.at s)) ∈ l := by rw [hl]; simp [askL]
  have mg : (g, Fm.all (Fm.neg (.at h))) ∈ l := by rw [hl]; simp [askL]
  rw [← hl] at u ⊢
  have hb : Bok (srtR l) := (u.bk (by rw [hl]; show 5 ≤ 5; omega)).bok
  have ns : s ≠ 109 ∧ s ≠ 111 := u.ne (List.mem_map.mpr ⟨_, ms, rfl⟩)
  have nh : h ≠ 109 ∧ h ≠ 111 := u.ne (List.mem_map.mpr ⟨_, mh, rfl⟩)
  have ys : ∀ y f, (y, f) ∈ l → ∀ n, deed (srtR l) (s, y) n = true := fun y f m => dd_yes hb (bk_pr ms m) (bk_frm u ms)
  have yh : ∀ y f, (y, f) ∈ l → ∀ n, deed (srtR l) (h, y) n = false := fun y f m => dd_no hb (bk_pr mh m) (bk_frm u mh)
  have yw : ∀ y f, (y, f) ∈ l → ∀ n, deed (srtR l) (w, y) n = true ↔ ∀ m, m + (0 + 1) ≤ n → deed (srtR l) (y, w) m = true := fun y f m => dd_wait hb (bk_pr mw m) (bk_frm u mw)
  have yp : ∀ y f, (y, f) ∈ l → ∀ n, deed (srtR l) (p, y) n = true ↔ ∀ m, m < n → deed (srtR l) (y, s) m = true := fun y f m => dd_ask hb (bk_pr mp m) ns (bk_frm u mp)
  have yg : ∀ y f, (y, f) ∈ l → ∀ n, deed (srtR l) (g, y) n = true ↔ ∀ m, m < n → deed (srtR l) (y, h) m = false := fun y f m => dd_guard hb (bk_pr mg m) nh (bk_frm u mg)
  have t0 : ∀ n, thr 0 true n = true := fun n => thr_hi (Nat.zero_le _)
  have f0 : ∀ n, thr 0 false n = false := fun n => thr_hi (Nat.zero_le _)
  have ws : ∀ n, deed (srtR l) (w, s) n = true := fun n => (yw _ _ ms n).mpr fun m _ => ys _ _ mw m
  have pw : ∀ n, deed (srtR l) (p, w) n = true := fun n => (yp _ _ mw n).mpr fun m _ => ws m
  have wp : ∀ n, deed (srtR l) (w, p) n = true := fun n => (yw _ _ mp n).mpr fun m _ => pw m
  have wh : ∀ n, deed (srtR l) (w, h) n = true ↔ n < 1 := fun n => by
    rw [yw _ _ mh]
    constructor
    · intro q
      refine Nat.lt_of_not_le fun hl => ?_
      have := q 0 (by omega)
      rw [yh _ _ mw] at this
      cases this
    · intro q m hm
      omega
  have gw : ∀ n, deed (srtR l) (g, w) n = true ↔ n < 1 := fun n => by
    rw [yg _ _ mw]
    constructor
    · intro q
      refine Nat.lt_of_not_le fun hl => ?_
      have := q 0 (by omega)
      rw [(wh 0).mpr (by omega)] at this
      cases this
    · intro q m hm
      omega
  refine ⟨?_, ?_, ?_, ?_, ?_, ?_⟩
  · exact ⟨bk_pr mp mw, by omega, fun n => (pw n).trans (t0 n).symm, fun n => (wp n).trans (t0 n).symm⟩
  · refine ⟨bk_pr mp mh, by omega, thr_of fun n => ?_, fun n => (yh _ _ mp n).trans (f0 n).symm⟩
    rw [yp _ _ mh]
    constructor
    · intro q
      refine Nat.lt_of_not_le fun hl => ?_
      have := q 0 (by omega)
      rw [yh _ _ ms] at this
      cases this
    · intro q m hm
      omega
  · exact ⟨bk_pr mg mh, by omega, fun n => ((yg _ _ mh n).mpr fun m _ => yh _ _ mh m).trans (t0 n).symm, fun n => (yh _ _ mg n).trans (f0 n).symm⟩
  · refine ⟨bk_pr mg mw, by omega, thr_of gw, thr_of fun n => ?_⟩
    show deed (srtR l) (w, g) n = true ↔ _
    rw [yw _ _ mg]
    constructor
    · intro q
      refine Nat.lt_of_not_le fun hl => ?_
      have := (gw 1).mp (q 1 (by omega))
      omega
    · exact fun q m hm => (gw m).mpr (by omega)
  · refine ⟨bk_pr mg ms, by omega, thr_of fun n => ?_, fun n => (ys _ _ mg n).trans (t0 n).symm⟩
    rw [yg _ _ ms]
    constructor
    · intro q
      refine Nat.lt_of_not_le fun hl => ?_
      have := q 0 (by omega)
      rw [ys _ _ mh] at this
      cases this
    · intro q m hm
      omega
  · exact ⟨bk_pr mp ms, by omega, fun n => ((yp _ _ ms n).mpr fun m _ => ys _ _ ms m).trans (t0 n).symm, fun n => (ys _ _ mp n).trans (t0 n).symm⟩
theorem ans_ok {y x d s k : Nat} (u : PlyU (ansL y x d s k)) (hk : k ≤ 3) : AnsOk (srtR (ansL y x d s k)) y x d s (k + 1) := by
  obtain ⟨l, hl⟩ : ∃ l, l = ansL y x d s k := ⟨_, rfl⟩
  have my : (y, Fm.neg (.all (Fm.neg (.at 111)))) ∈ l := by rw [hl]; simp [ansL]
  have mx : (x, deepF (k + 1) .no) ∈ l := by rw [hl]; simp [ansL]
  have md : (d, Fm.neg (.all (.at 111))) ∈ l := by rw [hl]; simp [ansL]
  have ms : (s, Fm.yes) ∈ l := by rw [hl]; simp [ansL]
  rw [← hl] at u ⊢
  have hb : Bok (srtR l) := (u.bk (by rw [hl]; show 4 ≤ 5; omega)).bok
  have ys : ∀ y f, (y, f) ∈ l → ∀ n, deed (srtR l) (s, y) n = true := fun y f m => dd_yes hb (bk_pr ms m) (bk_frm u ms)
  have yx : ∀ y f, (y, f) ∈ l → ∀ n, deed (srtR l) (x, y) n = true ↔ n < k + 1 := fun y f m => dd_late hb (bk_pr mx m) (bk_frm u mx)
  have yy : ∀ z f, (z, f) ∈ l → ∀ n, deed (srtR l) (y, z) n = true ↔ ∃ m, m < n ∧ deed (srtR l) (z, y) m = true := fun z f m => dd_shy hb (bk_pr my m) (bk_frm u my)
  have yd : ∀ z f, (z, f) ∈ l → ∀ n, deed (srtR l) (d, z) n = true ↔ ∃ m, m < n ∧ deed (srtR l) (z, d) m = false := fun z f m => dd_odd hb (bk_pr md m) (bk_frm u md)
  have t0 : ∀ n, thr 0 true n = true := fun n => thr_hi (Nat.zero_le _)
  have f0 : ∀ n, thr 0 false n = false := fun n => thr_hi (Nat.zero_le _)
  have d0 : ∀ z f, (z, f) ∈ l → deed (srtR l) (d, z) 0 = false := fun z f m => by
    rw [← Bool.not_eq_true, yd z f m]
    rintro ⟨q, h, _⟩
    omega
  have dd : ∀ n, deed (srtR l) (d, d) n = true ↔ 1 ≤ n := fun n => by
    rw [yd _ _ md]
    exact ⟨fun ⟨m, h, _⟩ => by omega, fun h => ⟨0, by omega, d0 _ _ md⟩⟩
  have sy : ∀ N n, n < N → deed (srtR l) (y, y) n = false := fun N => by
    induction N with
    | zero => exact fun n h => absurd h (Nat.not_lt_zero _)
    | succ N ih =>
      intro n hn
      rw [← Bool.not_eq_true, yy _ _ my]
      rintro ⟨m, hm, e⟩
      rw [ih m (by omega)] at e
      cases e
  have ds : ∀ n, deed (srtR l) (d, s) n = false := fun n => by
    rw [← Bool.not_eq_true, yd _ _ ms]
    rintro ⟨m, hm, e⟩
    rw [ys _ _ md] at e
    cases e
  refine ⟨?_, ?_, ?_, ?_, ?_⟩
  · refine ⟨bk_pr my mx, by omega, thr_ofT fun n => ?_, thr_of (yx _ _ my)⟩
    rw [yy _ _ mx]
    exact ⟨fun ⟨m, h, _⟩ => by omega, fun h => ⟨0, by omega, (yx _ _ my 0).mpr (by omega)⟩⟩
  · refine ⟨bk_pr md mx, by omega, thr_ofT fun n => ?_, thr_of (yx _ _ md)⟩
    rw [yd _ _ mx]
    constructor
    · rintro ⟨m, hm, e⟩
      refine Nat.le_of_not_lt fun hl => ?_
      rw [(yx _ _ md m).mpr (by omega)] at e
      cases e
    · intro q
      refine ⟨k + 1, by omega, ?_⟩
      rw [← Bool.not_eq_true, yx _ _ md]
      omega
  · exact ⟨bk_pr md md, by omega, thr_ofT dd, thr_ofT dd⟩
  · exact ⟨bk_pr my my, by omega, fun n => (sy (n + 1) n (by omega)).trans (f0 n).symm, fun n => (sy (n + 1) n (by omega)).trans (f0 n).symm⟩
  · exact ⟨bk_pr md ms, by omega, fun n => (ds n).trans (f0 n).symm, fun n => (ys _ _ md n).trans (t0 n).symm⟩
end N
set_option Elab.async false
set_option linter.all false
set_option maxRecDepth 100000
set_option maxHeartbeats 2000000
namespace N
open PySem PySem.Spec PyProof.Rows L2 LamX
/-- law with a table: the script in, True out -/
def S_lawT (P : Addr) (q : Str) (pos : Pos) : FS := fun ds W post => ∃ ns : List Int, ds = [.scr (ns.map V.int)] ∧ W = tbW P q pos none ∧ ns.length ≤ 63 ∧ ∀ W', post (.bl true) W'
def spTopT (K : PySem.W.Frag) (P : Addr) : Sp := fun vs H Q _ => ∃ (a : Addr) (ns : List Int), vs = [.ref a] ∧ H P = some (.tbl #[]) ∧ SqL K H a (ns.map V.int) ∧ ns.length ≤ 63 ∧ ∀ H', Q (.bl true) H'
theorem topT_sp {K : PySem.W.Frag} {cl : Nat → Addr} {P : Addr} {q : Str} {pos : Pos} {vs : List V} {H : Hp} {Q : VK} {E : XK} (h : spTopT K P vs H Q E) : spN FK ⟨K, cl⟩ (S_lawT P q pos) vs H Q E := by
  obtain ⟨a, ns, rfl, hP, hs, hl, qq⟩ := h
  have eo : H = ov (fun b => if b = P then some (.tbl #[]) else none) (fun b => if b = P then none else H b) := by
    funext b
    by_cases hb : b = P
    · unfold ov
      rw [hb]
      simp [hP]
    · unfold ov
      simp [hb]
  have hs2 : SqL K (fun b => if b = P then none else H b) a (ns.map V.int) := by
    rcases hs with hs | hs
    · refine .inl ?_
      have ha : a ≠ P := fun z => by
        rw [z] at hs
        rcases hs with e | ⟨o, e⟩ <;> (rw [hP] at e; cases e)
      rcases hs with e | ⟨o, e⟩
      · exact .inl ((if_neg ha).trans e)
      · exact .inr ⟨o, (if_neg ha).trans e⟩
    · exact .inr hs
  refine ⟨[.scr (ns.map V.int)], tbW P q pos none, fun _ => none, fun b => if b = P then none else H b, fun b => if b = P then some (.tbl #[]) else none, fun d W' => d = .bl true, eo, ?_, fun _ _ e => (by cases e), ⟨by simp [tbW, akeys], fun b ob m => ?_⟩, ⟨_, _, rfl, ⟨a, rfl, hs2⟩, rfl⟩, ⟨ns, rfl, rfl, hl, fun W' => rfl⟩, fun d W' H' O' v e n kd => ?_⟩
  · intro b o e
    by_cases hb : b = P
    · simp [hb]
    · simp [hb] at e
  · unfold tbW at m
    obtain ⟨rfl, rfl⟩ := Prod.mk.inj (List.mem_singleton.mp m)
    exact ⟨rfl, if_pos rfl⟩
  · subst e
    have kd : v = .bl true := kd
    subst kd
    exact qq _
end N
set_option Elab.async false
set_option linter.all false
set_option maxRecDepth 100000
set_option maxHeartbeats 1000000
namespace N
open PySem PySem.Spec PyProof.Rows L2 PySem.Calls PySem.W LamX
def rowsP (l : Plr) : List D := l.map fun p => .tup [.str (sg p.1), .fm p.2]
def S_deep76 : FS := fun ds W post => ∃ (n : Nat) (f : Fm), ds = [natD n, .fm f] ∧ W = [] ∧ n ≤ 10 ∧ f.okL ∧ f.many ≤ 40 ∧ post (.fm (deepF n f)) []
theorem deep_ok {n : Nat} {f : Fm} (hn : n ≤ 10) (h : f.okL) (hm : f.many ≤ 40) : (deepF n f).okF := okF_many (okL_deep h) (by rw [many_deep]; omega)
def S_rowform61 : FS := fun ds W post => ∃ (bs : List Bool) (last : Bool), ds = [.lst (bs.map D.bl), .bl last] ∧ W = [] ∧ bs.length ≤ 61 ∧ ((List.range bs.length).filter fun i => bs[i]? != some last).length ≤ 20 ∧ post (.fm (Fm.forF ((List.range bs.length).filter fun i => bs[i]? != some last) last)) []
def S_form61 (w : World) : FS := fun ds W post => ∃ (b : Plr) (L : Nat) (p : Nat × Nat), ds = [bkD w b L, .str (sg p.1), .str (sg p.2)] ∧ W = [] ∧ BkOk b ∧ prB b p ∧ L ≤ 60 ∧ ((List.range (L + 1)).filter fun k => deed b p k != deed b p L).length ≤ 20 ∧ post (.fm (Fm.forF ((List.range (L + 1)).filter fun k => deed b p k != deed b p L) (deed b p L))) []
def firD (n : Nat) : D := .tup [.tup ((List.range n).map natD), .bl false]
def toldD (t : Nat) (c : Bool) (t' : Nat) (c' : Bool) : D := .tup [.tup [.bl c, .bl c'], natD (max t t'), .tup [.tup ((List.range t).map natD), .bl c]]
def S_first76 : FS := fun ds W post => ∃ n : Nat, ds = [natD n] ∧ W = [] ∧ n ≤ 20 ∧ post (firD n) []
def S_told76 (w : World) : FS := fun ds W post => ∃ (b : Plr) (L : Nat) (p : Nat × Nat) (t : Nat) (c : Bool) (t' : Nat) (c' : Bool), ds = [bkD w b L, .str (sg p.1), .str (sg p.2)] ∧ W = [] ∧ BkOk b ∧ restB b L ∧ L ≤ 60 ∧ Meet b p t c t' c' ∧ post (toldD t c t' c') []
def S_book76 (w : World) (P : Addr) (q : Str) (pos : Pos) : FS := fun ds W post => ∃ (l : Plr) (oc : Option Addr), ds = [.lst (rowsP l)] ∧ W = tbW P q pos oc ∧ PlyU l ∧ l.length ≤ 5 ∧ ∀ L, L ≤ (allB2 (srtR l)).length → restB (srtR l) L → ∀ oc', post (bkD w (srtR l) L) (tbW P q pos oc')
def S_names76 : FS := fun ds W post => ∃ (a : Addr) (c : Int) (n : Nat), ds = [.adr a, natD n] ∧ DkC a c W ∧ c < 2 ^ 58 ∧ n ≤ 5 ∧ ∀ (cs : List Nat) (W' : Om), cs.length = n → cs.Nodup → (∀ x ∈ cs, 65 ≤ x ∧ x ≤ 90) → DkC a (c + 2) W' → post (.lst (cs.map fun x => .str (sg x))) W'
def S_look76 (P : Addr) (q : Str) (pos : Pos) : FS := fun ds W post => ∃ (a : Addr) (c : Int) (Wd : Om) (oc : Option Addr), ds = [.adr a] ∧ W = Wd ++ tbW P q pos oc ∧ DkC a c Wd ∧ c < 2 ^ 57 ∧ ∀ (W' : Om) (oc' : Option Addr), DkC a (c + 10) W' → post (.bl true) (W' ++ tbW P q pos oc')
section
variable {b : Plr} {L : Nat} {p : Nat × Nat} {t t' : Nat} {c c' : Bool}
theorem Meet.hi (m : Meet b p t c t' c') (h : BkOk b) (hr : restB b L) : t ≤ L ∧ t' ≤ L := ⟨thr_rest h.bok hr m.pr m.one, thr_rest h.bok hr (p := (p.2, p.1)) ⟨m.pr.2, m.pr.1⟩ m.two⟩
theorem Meet.end_ (m : Meet b p t c t' c') (h : BkOk b) (hr : restB b L) : deed b p L = c ∧ deed b (p.2, p.1) L = c' := by
  obtain ⟨h1, h2⟩ := m.hi h hr
  exact ⟨(m.one L).trans (thr_hi h1), (m.two L).trans (thr_hi h2)⟩
theorem Meet.rest (m : Meet b p t c t' c') (h : BkOk b) (hr : restB b L) : max t t' ≤ L ∧ (∀ k, max t t' ≤ k → k ≤ L → deed b p k = deed b p L ∧ deed b (p.2, p.1) k = deed b (p.2, p.1) L) ∧
    (0 < max t t' → ¬ (deed b p (max t t' - 1) = deed b p L ∧ deed b (p.2, p.1) (max t t' - 1) = deed b (p.2, p.1) L)) := by
  obtain ⟨h1, h2⟩ := m.hi h hr
  obtain ⟨e1, e2⟩ := m.end_ h hr
  refine ⟨by omega, fun k hk _ => ⟨?_, ?_⟩, fun h0 => ?_⟩
  · rw [e1, m.one, thr_hi (by omega)]
  · rw [e2, m.two, thr_hi (by omega)]
  · rintro ⟨z1, z2⟩
    rw [e1, m.one] at z1
    rw [e2, m.two] at z2
    rcases Nat.le_total t t' with q | q
    · rw [thr_lo (by omega)] at z2
      cases c' <;> cases z2
    · rw [thr_lo (by omega)] at z1
      cases c <;> cases z1
theorem Meet.flt (m : Meet b p t c t' c') (h : BkOk b) (hr : restB b L) : (List.range (L + 1)).filter (fun k => deed b p k != deed b p L) = List.range t := thr_filter m.one (m.hi h hr).1
end
theorem for_tr {t m : Nat} {c : Bool} (ht : t ≤ 10) (hst : (Fm.forF (List.range t) c).still m) : hsOf (Fm.forF (List.range t) c) m = (List.range t).map (fun j : Nat => (j : Int)) ∧ (Fm.forF (List.range t) c).hAt m = c :=
  hs_for (Fm.hAt_forF _ _) List.pairwise_lt_range (fun h hh => by have := List.mem_range.mp hh; omega) hst
theorem nmB_nd6 {f s n : Nat} (hs : s = 1 ∨ s = 3 ∨ s = 5 ∨ s = 7 ∨ s = 9 ∨ s = 25) (hn : n ≤ 5) : (nmB f s n).Nodup := by
  unfold nmB
  refine List.pairwise_map.mpr (List.Pairwise.imp_of_mem ?_ List.pairwise_lt_range)
  intro i j hi hj hij
  have hj := List.mem_range.mp hj
  rcases hs with rfl | rfl | rfl | rfl | rfl | rfl <;> omega
theorem len5 {l : List Nat} (h : l.length = 5) : ∃ a b c d e, l = [a, b, c, d, e] := by
  match l, h with
  | [a, b, c, d, e], _ => exact ⟨a, b, c, d, e, rfl⟩
theorem len4 {l : List Nat} (h : l.length = 4) : ∃ a b c d, l = [a, b, c, d] := by
  match l, h with
  | [a, b, c, d], _ => exact ⟨a, b, c, d, rfl⟩
theorem ord_le {a b : Nat × Fm} (h : dataLe false (fun p : Nat × Fm => PyData.int ((p.1 : Nat) : Int)) a b = true) : a.1 ≤ b.1 := by
  have e : dataLe false (fun p : Nat × Fm => PyData.int ((p.1 : Nat) : Int)) a b = !(decide (((b.1 : Nat) : Int) < ((a.1 : Nat) : Int)) || (!(decide (((a.1 : Nat) : Int) < ((b.1 : Nat) : Int))) && false)) := rfl
  rw [e] at h
  simp at h
  omega
theorem ord_sort {l : Plr} (nd : (l.map (·.1)).Nodup) : l.mergeSort (dataLe false fun p => PyData.int ((p.1 : Nat) : Int)) = srtR l := by
  have tot := sortLe_total (listOrd itemOrd) false fun p : Nat × Fm => keyToks (PyData.int ((p.1 : Nat) : Int))
  have pm := List.mergeSort_perm l (dataLe false fun p => PyData.int ((p.1 : Nat) : Int))
  have pw : (l.mergeSort (dataLe false fun p => PyData.int ((p.1 : Nat) : Int))).Pairwise (fun a b => dataLe false (fun p : Nat × Fm => PyData.int ((p.1 : Nat) : Int)) a b = true) := List.pairwise_mergeSort (fun a b c => tot.trans a b c) (fun a b => by
    rcases tot.total a b with k | k
    · exact Bool.or_eq_true _ _ ▸ .inl k
    · exact Bool.or_eq_true _ _ ▸ .inr k) _
  generalize l.mergeSort (dataLe false fun p => PyData.int ((p.1 : Nat) : Int)) = m at pm pw
  have ndm : (m.map (·.1)).Nodup := (pm.map _).nodup_iff.mpr nd
  have lt1 : m.Pairwise (fun a b : Nat × Fm => a.1 < b.1) := by
    have h2 : m.Pairwise (fun a b : Nat × Fm => a.1 ≠ b.1) := List.pairwise_map.mp ndm
    refine (pw.and h2).imp fun {a b} h => ?_
    have := ord_le h.1
    have := h.2
    omega
  have lt2 : (srtR l).Pairwise (fun a b : Nat × Fm => a.1 < b.1) := List.pairwise_map.mp (srtR_asc l)
  exact asc_ext (lt := fun a b : Nat × Fm => a.1 < b.1) (fun a => Nat.lt_irrefl a.1) (fun a b c => Nat.lt_trans) lt1 lt2 fun x => (pm.mem_iff).trans (srtR_perm nd).mem_iff
theorem kfO_row {F : FmKit} {T : Kx} (O H : Hp) (p : Nat × Fm) (v : V) (di : Dis O H) (k : Den F T H (.tup [.str (sg p.1), .fm p.2]) v) : kfO T.K (ov O H) v (.int ((p.1 : Nat) : Int)) := by
  obtain ⟨t, xs, rfl, ht, x, r, rfl, hx, _⟩ := k
  have hx : x = .str (sg p.1) := hx
  subst hx
  exact ⟨t, sg p.1, r, rfl, Same.sqT di.same ht, rfl, rfl⟩
theorem rows_alike (l : Plr) : AllAlike (l.map fun p => PyData.int ((p.1 : Nat) : Int)) := fun d hd d' hd' => by
  obtain ⟨p, _, rfl⟩ := List.mem_map.mp hd
  obtain ⟨q, _, rfl⟩ := List.mem_map.mp hd'
  rfl
theorem rows_sortable (l : Plr) : Sortable (l.map fun p => PyData.int ((p.1 : Nat) : Int)) := .inr fun d hd => by
  obtain ⟨p, _, rfl⟩ := List.mem_map.mp hd
  exact ⟨(fun e => nomatch e), (fun xs e => nomatch e)⟩
def toldP (t m : Nat) (c c' : Bool) : PyData := .tuple [.tuple [.bool c, .bool c'], .int ((m : Nat) : Int), .tuple [.tuple (((List.range t).map fun (k : Nat) => ((k : Nat) : Int)).map PyData.int), .bool c]]
theorem lay_ints (l : List Int) : PyData.canLayAll0 (l.map PyData.int) = true := by
  induction l with
  | nil => rfl
  | cons i l ih => rw [List.map_cons, PyData.canLayAll0, ih]; rfl
theorem shaped_told (t m : Nat) (c c' : Bool) : SeqAt.shaped (toldP t m c c') = true := by
  unfold SeqAt.shaped toldP
  rw [Bool.and_eq_true, decide_eq_true_eq]
  constructor
  · simp only [PyData.canLay0, PyData.canLayAll0, lay_ints]
    rfl
  · simp only [PyData.depth, PyData.depthAll, depth_ints]
    decide
theorem eqv_told (t m : Nat) (c c' : Bool) : PyData.eqv (toldP t m c c') (toldP t m c c') = true := SeqAt.eqv_refl _ (SeqAt.canLay_of_shaped (shaped_told t m c c'))
theorem vp_told {W : Om} (t : Nat) (c : Bool) (t' : Nat) (c' : Bool) : Vp W (toldD t c t' c') (toldP t (max t t') c c') := .inl (by
  have e : (D.tup ((List.range t).map natD)).pd = some (.tuple (((List.range t).map fun (k : Nat) => ((k : Nat) : Int)).map PyData.int)) := by
    rw [List.map_map]
    exact pd_tup (pdL_map natD (fun k : Nat => PyData.int ((k : Nat) : Int)) (fun _ => rfl) _)
  exact pd_tup (pdL_cons (d := .tup [.bl c, .bl c']) rfl (pdL_cons (d := natD (max t t')) rfl (pdL_cons (pd_tup (pdL_cons e (pdL_cons (d := .bl c) rfl rfl))) rfl))))
section
variable {F : FmKit} {T : Kx} {W : Om} {R : D → Om → Prop} {t t' : Nat} {c c' : Bool} {d : D}
theorem bo_neTold (e : d = toldD t c t' c') (r : R (.bl false) W) : Bo F T (rNeD T.K) (toldD t c t' c') d W R := by
  subst e
  refine bo_neD (vp_told _ _ _ _) (vp_told _ _ _ _) (shaped_told _ _ _ _) (shaped_told _ _ _ _) ?_
  rw [eqv_told]
  exact r
theorem bo_eqTold (e : d = toldD t c t' c') (r : R (.bl true) W) : Bo F T (rEqD T.K) (toldD t c t' c') d W R := by
  subst e
  refine bo_eqD (vp_told _ _ _ _) (vp_told _ _ _ _) (shaped_told _ _ _ _) (shaped_told _ _ _ _) ?_
  rw [eqv_told]
  exact r
theorem bo_eqPr {a b : Bool} (r : R (.bl true) W) : Bo F T (rEqD T.K) (.tup [.bl a, .bl b]) (.tup [.bl a, .bl b]) W R := by
  refine bo_eqD (vp_bb a b) (vp_bb a b) rfl rfl ?_
  rw [show PyData.eqv (.tuple [.bool a, .bool b]) (.tuple [.bool a, .bool b]) = true by cases a <;> cases b <;> rfl]
  exact r
end
theorem len3 {l : List Nat} (h : l.length = 3) : ∃ a b c, l = [a, b, c] := by
  match l, h with
  | [a, b, c], _ => exact ⟨a, b, c, rfl⟩
theorem tl_fir {n t t' : Nat} {c' : Bool} (h : n = max t t') : D.tup [.tup [.bl false, .bl c'], .int ((n : Nat) : Int), firD t] = toldD t false t' c' := by
  subst h
  rfl
theorem bo_neP {F : FmKit} {T : Kx} {W : Om} {R : D → Om → Prop} {t t' n : Nat} {c' : Bool} (h : n = max t t') (r : R (.bl false) W) : Bo F T (rNeD T.K) (toldD t false t' c') (.tup [.tup [.bl false, .bl c'], .int ((n : Nat) : Int), firD t]) W R := bo_neTold (tl_fir h) r
theorem Meet.rest_eq {b : Plr} {L : Nat} {p : Nat × Nat} {t t' : Nat} {c c' : Bool} (m : Meet b p t c t' c') (h : BkOk b) (hr : restB b L) {n : Nat} (h1 : n ≤ L) (h2 : ∀ k, n ≤ k → k ≤ L → deed b p k = deed b p L ∧ deed b (p.2, p.1) k = deed b (p.2, p.1) L)
    (h3 : 0 < n → ¬ (deed b p (n - 1) = deed b p L ∧ deed b (p.2, p.1) (n - 1) = deed b (p.2, p.1) L)) : n = max t t' := by
  obtain ⟨r1, r2, r3⟩ := m.rest h hr
  rcases Nat.lt_trichotomy n (max t t') with q | q | q
  · exact absurd (h2 _ (by omega) (by omega)) (r3 (by omega))
  · exact q
  · exact absurd (r2 (n - 1) (by omega) (by omega)) (h3 (by omega))
end N
set_option Elab.async false
set_option linter.all false
set_option maxRecDepth 100000
set_option maxHeartbeats 2000000
namespace N
open PySem PySem.Spec PySem.Calls PyProof.Rows L2 PySem.W LamX
theorem pe_sortL {X : Cx} {kf : Kf} {c P : Addr} {y q : Str} {params : Arguments} {body : Expr} {scope : Scope} {pos p cpos kpos : Pos} {e : Expr} {t : TE} {j : Nat} (TB : TabB X.base X.mg c P) (hr : Room (j + 3) X.A) (hcode : X.env.code = .ref c) (hq : X.env.qual ++ "<lambda>" = q)
    (S : FnScope [y] [y] scope) (hb : ∀ (pm ctv : Value) (c : Addr) (u : Value), bindArgs (kla_fn "<lambda>" q params body scope [] pm (.ref c) ctv) ⟨[u], []⟩ = pure [(y, u)]) (hbody : KBody X.prog X.w X.K X.mg kf [y] q scope body)
    (hdef : defaultsOf params X.env = ([], [])) (hfree : ∀ y ∈ scope.names, y.2 ≠ .free) (hclo : cloFrom X.env.cells scope.names [] = []) (hg : Gl X "sorted") (hm : X.mg "sorted" = none) (ha : PA X [e] (tCons t tNil))
    (he : backTo cpos (starEach [e] X.env) = (false, eval e X.env) :: backTo cpos (starEach [] X.env) := by rfl) (hpl : (backTo cpos (starEach [e] X.env)).any (·.1) = false := by rfl) :
    PE X (.Call (.Name "sorted" p) [e] [⟨some "key", .Lambda params body scope pos, kpos⟩] cpos) (tCKw (rSortL X.K kf q params body scope) (tCons t tNil) (tCons (tMkL P q params body scope pos) tNil)) :=
  pe_callBK (cr_sortedL hr S hb hbody) hg hm bt_sorted ha (pk_cons (pe_lam TB hcode hq hdef hfree hclo) pk_nil) (by decide) (by decide) he hpl
section
variable {F : FmKit} {T : Kx} {G : Gm} {W : Om}
theorem ta_lstU {n : Nat} {gs : TGs} {ds : List D} {RR : Gm → Om → Prop} (hn : ds.length = n) (h : Tas F T gs ds G W RR) : Ta F T (gLst T.K n gs) (.lst ds) G W RR := fun C H O σ w v k Q q => by
  obtain ⟨a, xs, ev, hs, kl⟩ := k
  exact ⟨a, xs, ev, SqL.of (w.dis.same _ _ hs), by rw [kl.len, hn], h C H O σ w xs kl Q q⟩
end
end N
set_option Elab.async false
set_option linter.all false
set_option maxRecDepth 100000
set_option maxHeartbeats 2000000
namespace N
open PySem PySem.Spec PyProof.Rows L2
theorem isStrG_ok {K : Fg} {x z : Str} (h : isStrG K x z = true) : ∃ t, PySem.W.nsIn K mainGlobals x = some (some (.str z t)) := by
  unfold isStrG at h
  split at h
  · rename_i y t e
    have := of_decide_eq_true h
    subst this
    exact ⟨t, e⟩
  · cases h
theorem isIntIn_ok {K : Fg} {d : Addr} {x : Str} {i : Int} (h : isIntIn K d x i = true) : ∃ t, PySem.W.nsIn K d x = some (some (.int i t)) := by
  unfold isIntIn at h
  split at h
  · rename_i y t e
    have := of_decide_eq_true h
    subst this
    exact ⟨t, e⟩
  · cases h
theorem keysLit {P : Params} : ∀ {l : List DictEntry} {ks : List Str}, (l.all fun e => match e.key with
    | .str _ _ => true
    | _ => false) = true → (l.map fun e => match e.key with
    | .str x _ => (x, e.hash)
    | _ => (("" : Str), 0)) = ks.map (fun k => (k, PyData.keyHash P k)) → PySem.W.KeysLit P l
  | [], _, _, _ => trivial
  | e :: l, [], _, h => by cases h
  | e :: l, k :: ks, ha, h => by
    rw [List.all_cons, Bool.and_eq_true] at ha
    rw [List.map_cons, List.map_cons] at h
    obtain ⟨h1, h2⟩ := List.cons.inj h
    refine ⟨?_, keysLit ha.2 h2⟩
    have ha1 := ha.1
    split at ha1
    · rename_i x t ek
      rw [ek] at h1
      have h1 : (x, e.hash) = (k, PyData.keyHash P k) := h1
      obtain ⟨h3, h4⟩ := Prod.mk.inj h1
      subst h3
      exact ⟨x, t, ek, h4⟩
    · cases ha1
theorem isDic_ok {K : Fg} {d : Addr} {P : Params} {ks : List Str} (h : isDic K d = true) (hk : keysY K d = ks.map fun k => (k, PyData.keyHash P k)) : ∃ es n, K.lookup d = some ⟨.type "dict", none, .dict es n, #[]⟩ ∧ PySem.W.KeysLit P es.toList := by
  unfold isDic at h
  unfold keysY at hk
  split at h
  · rename_i c es n sl e
    rw [e] at hk
    simp only [Bool.and_eq_true, decide_eq_true_eq] at h
    obtain ⟨h1, h2, h3⟩ := h
    subst h1
    obtain ⟨sl⟩ := sl
    have h2 : sl = [] := List.isEmpty_iff.mp h2
    subst h2
    exact ⟨es, n, e, keysLit h3 hk⟩
  · cases h
theorem isNon_ok {v : Value} (h : isNon v = true) : v = .none := by
  cases v <;> first | rfl | cases h
theorem DefT.get {K : Fg} {d : DefT} (e : fnY K (d.at_ K) = d.val) (c : d.ok K = true) : ∃ oc od osl dV kV doc pm an cdv ct, K.lookup (d.at_ K) = some ⟨oc, od, .func (PySem.W.fnOf d.name d.qual (defArgs d.st) (defBody d.st) (defScope d.st) dV kV doc pm an cdv ct), osl⟩ ∧ PySem.W.codeIn K cdv d.qual = true ∧
    (match d.dn with
    | false => isNon dV
    | true => nonSeq K dV) = true ∧ PySem.W.keepIn K (.ref (d.at_ K)) = true := by
  obtain ⟨kp, c2⟩ := Bool.and_eq_true_iff.mp c
  unfold fnY at e
  cases q : K.lookup (d.at_ K) with
  | none =>
    rw [q] at c2
    cases c2
  | some o =>
    obtain ⟨oc, od, dt, osl⟩ := o
    rw [q] at c2 e
    cases dt with
    | func fd =>
      obtain ⟨n1, n2, n3, n4, n5, n6, n7, n8, n9, n10, n11, n12, n13, n14, n15⟩ := fd
      have e2 : (some (n1, n2, n3, n4, n5, n6, n7, n15) : He.FnW) = some (d.name, d.qual, defArgs d.st, .stmts (defBody d.st), defScope d.st, mainGlobals, [], builtinsNs) := e
      simp only [Option.some.injEq, Prod.mk.injEq] at e2
      obtain ⟨h1, h2, h3, h4, h5, h6, h7, h8⟩ := e2
      obtain ⟨c3, c4⟩ := Bool.and_eq_true_iff.mp (show (PySem.W.codeIn K n13 d.qual && (match d.dn with
    | false => isNon n8
    | true => nonSeq K n8)) = true from c2)
      subst h1 h2 h3 h4 h5 h6 h7 h8
      exact ⟨oc, od, osl, n8, n9, n10, n11, n12, n13, n14, rfl, c3, c4, kp⟩
    | _ => cases c2
theorem DefT.fun_ {K : Fg} {d : DefT} (e : fnY K (d.at_ K) = d.val) (c : d.ok K = true) (hd : d.dn = false) : ∃ fd, Fun K d.name d.qual d.st (d.at_ K) fd := by
  obtain ⟨oc, od, osl, dV, kV, doc, pm, an, cdv, ct, l, cc, dn, kp⟩ := d.get e c
  rw [hd] at dn
  obtain rfl := isNon_ok dn
  exact ⟨_, fun_mk l cc kp⟩
section
variable {ts : List (Fg → Bool)} {fn : List DefT} {dk : List DicT} {w : World} {K : Fg}
theorem SaysT.test (c : SaysT ts fn dk w K) (i : Nat) {t : Fg → Bool} (h : ts[i]? = some t := by rfl) : t K = true := by
  have c1 := (Bool.and_eq_true_iff.mp (show ((ts.all fun t => t K) && (fn.all fun d => d.ok K)) = true from congrArg (fun z : AlT => z.1) c)).1
  exact List.all_eq_true.mp c1 t (List.mem_of_getElem? h)
theorem SaysT.def_ (c : SaysT ts fn dk w K) (i : Nat) {d : DefT} (h : fn[i]? = some d) : fnY K (d.at_ K) = d.val ∧ d.ok K = true := by
  have c2 := (Bool.and_eq_true_iff.mp (show ((ts.all fun t => t K) && (fn.all fun d => d.ok K)) = true from congrArg (fun z : AlT => z.1) c)).2
  have e : fn.map (fun d => fnY K (d.at_ K)) = fn.map DefT.val := congrArg (fun z : AlT => z.2.1) c
  have e2 : (fn.map fun d => fnY K (d.at_ K))[i]? = (fn.map DefT.val)[i]? := by rw [e]
  rw [List.getElem?_map, List.getElem?_map, h] at e2
  exact ⟨Option.some.inj e2, List.all_eq_true.mp c2 d (List.mem_of_getElem? h)⟩
theorem SaysT.fun_ (c : SaysT ts fn dk w K) (i : Nat) {d : DefT} (h : fn[i]? = some d := by rfl) (hd : d.dn = false := by rfl) : ∃ fd, Fun K d.name d.qual d.st (d.at_ K) fd := DefT.fun_ (c.def_ i h).1 (c.def_ i h).2 hd
theorem SaysT.dic (c : SaysT ts fn dk w K) (i : Nat) {d : DicT} (h : dk[i]? = some d := by rfl) (hs : isDic K (d.at_ K) = true) : ∃ es n, K.lookup (d.at_ K) = some ⟨.type "dict", none, .dict es n, #[]⟩ ∧ PySem.W.KeysLit w.params es.toList := by
  have e : dk.map (fun d => keysY K (d.at_ K)) = dk.map fun d => d.keys.map fun k => (k, PyData.keyHash w.params k) := congrArg (fun z : AlT => z.2.2) c
  have e2 : (dk.map fun d => keysY K (d.at_ K))[i]? = (dk.map fun d => d.keys.map fun k => (k, PyData.keyHash w.params k))[i]? := by rw [e]
  rw [List.getElem?_map, List.getElem?_map, h] at e2
  exact isDic_ok hs (Option.some.inj e2)
end
end N
set_option Elab.async false
set_option linter.all false
set_option maxRecDepth 100000
set_option maxHeartbeats 2000000
namespace N
open PySem PySem.Spec PyProof.Rows L2 LamX
theorem isCd_ok {K : Fg} {c P : Addr} {h : Heap} (KX : K.In h) (e : isCd K c P = true) : PySem.W.CodeHd h c P ∧ K.lookup P = none := by
  unfold isCd at e
  split at e
  · rename_i k dd vs sl q
    simp only [Bool.and_eq_true, decide_eq_true_eq] at e
    obtain ⟨h1, h2, h3, h4, h5, h6, h7, h8⟩ := e
    have g : ∀ (i : Nat) (v : Value), vs.toList[i]? = some v → vs.getD i .none = v := fun i v hv => by
      rw [Array.getD_eq_getD_getElem?, ← Array.getElem?_toList, hv]
      rfl
    refine ⟨?_, Option.isNone_iff_eq_none.mp h8⟩
    split at h3
    · rename_i a3 b3 e3
      split at h4
      · rename_i a4 b4 e4
        split at h5
        · rename_i a5 e5
          split at h6
          · rename_i a6 b6 e6
            exact ⟨_, vs, a3, b3, a4, b4, a5, a6, b6, KX _ _ q, h1, rfl, by rw [← Array.getElem?_toList]; exact h2, g 11 _ h2, g 18 _ e3, g 7 _ e4, g 9 _ e5, g 10 _ e6, h7⟩
          · cases h6
        · cases h5
      · cases h4
    · cases h3
  · cases e
theorem isCdR_ok {K : Fg} {x qual : Str} {st : Stmt} {f : Addr} {fd : FuncData} (Fn : Fun K x qual st f fd) (e : isCdR K f = true) : fd.code = .ref (cdA K f) := by
  obtain ⟨oc, od, kV, doc, pm, an, cdv, ct, osl, rfl, lk, hcd⟩ := Fn.ex
  unfold isCdR at e
  rw [lk] at e
  exact of_decide_eq_true e
theorem walkTT {l : PySem.W.OpenLaw} {n k : Nat} {q : Program} {loose : List Str} {XP : (Str → Option Value) → Heap → Prop} {YP : World → Heap → Prop} {Sy : World → Fg → Prop} {d : DefRec} {tb : List (Fg → Addr)} {x : Str}
    (hn : l.most = some n) (hn2 : n ≤ sizeLine) (hdf : d.params.defaults = []) (hr : Room k callerA) (hY : ∀ (w : World) (h : Heap), YP w h → ∃ K : Fg, K.In h ∧ Sy w K ∧ ∀ t ∈ tb, h.get? (t K) = some { cls := .none, data := .fields #[] })
    (Fn : ∀ (w : World) (mg : Str → Option Value) (fa : Addr) (h : Heap) (K : Fg), K.In h → Sy w K → h.Ns mainGlobals mg → mg d.name = some (.ref fa) → ∃ (fd : FuncData) (c P : Addr) (t : Fg → Addr) (sp : Sp), t ∈ tb ∧ P = t K ∧ isCd K c P = true ∧ (∀ (s : Shared) (u : Value), BindsTo s fd ⟨[u], []⟩ [(x, u)]) ∧
      (∀ (H : Hp) (a : Addr) (ns : List Int), ns.length ≤ n → H P = some (.tbl #[]) → SqL K H a (ns.map V.int) → sp [.ref a] H (fun v _ => v = .bl true) fun _ _ _ => False) ∧
      ∀ base : Heap, K.In base → base.Ns mainGlobals mg → TabB base mg c P → FnOk l.prog w K mg base CX0 k fa fd [x] sp) :
    PySem.W.WalkO q loose XP YP l.row.toRowW d [] (fun f vs => PySem.call f vs) := by
  refine Att.attach_callB hn hdf fun w s0 s1 mg mb fa o pm cd doc a vs ns G Y ho hd hcd hmg hobj hints hlen hbits hg => ?_
  obtain ⟨K, KX, sy, tbs⟩ := hY w _ Y
  obtain ⟨fd, c, P, t, sp, ht, rfl, hc, hb, hsp, hF⟩ := Fn w mg fa _ K KX sy G.T.g hmg
  obtain ⟨h1, h2⟩ := isCd_ok KX hc
  refine law_callTs (cs := [(c, t K)]) KX G.T.g G.T.b G.T.builtins G.T.nolimit hg (fun p hp => ?_) (fun p hp => ?_) (fun p hp => ?_) G.T.bmain hobj hints (Nat.le_trans hlen hn2) hr (fun base h3 h4 h5 => hF base h3 h4 (h5 _ List.mem_cons_self)) hb (fun H hH hS => hsp H a ns hlen (hH _ List.mem_cons_self) hS) fun H e s' z => ?_
  · rw [List.mem_singleton.mp hp]
    exact tbs t ht
  · rw [List.mem_singleton.mp hp]
    exact h2
  · rw [List.mem_singleton.mp hp]
    exact h1
  · exact z
end N
set_option Elab.async false
set_option linter.all false
set_option maxRecDepth 100000
namespace N
open PySem PySem.Spec PyProof.Rows L2
open C8 (Cal Met Mak InsC pe_c pe_mt pe_mt0 pe_mk)
set_option maxHeartbeats 4000000
local macro_rules | `(tactic| walk_at "vl") => `(tactic| first | exact .inl (.inl rfl) | exact .inr ⟨_, rfl, List.mem_cons_self⟩ | exact .inr ⟨_, rfl, List.mem_cons_of_mem _ List.mem_cons_self⟩ | exact .inr ⟨_, rfl, List.mem_cons_of_mem _ (List.mem_cons_of_mem _ List.mem_cons_self)⟩ | exact .inr ⟨_, rfl, List.mem_cons_of_mem _ (List.mem_cons_of_mem _ (List.mem_cons_of_mem _ List.mem_cons_self))⟩ | exact .inl (.inr ⟨_, rfl, rfl⟩))
local macro_rules | `(tactic| walk_at "vt") => `(tactic| first | exact .inl rfl | exact .inr ⟨_, rfl, List.mem_cons_self⟩ | exact .inr ⟨_, rfl, List.mem_cons_of_mem _ List.mem_cons_self⟩ | exact .inr ⟨_, rfl, List.mem_cons_of_mem _ (List.mem_cons_of_mem _ List.mem_cons_self)⟩ | exact .inr ⟨_, rfl, List.mem_cons_of_mem _ (List.mem_cons_of_mem _ (List.mem_cons_of_mem _ List.mem_cons_self))⟩)
local macro_rules | `(tactic| walk_at "vd") => `(tactic| first | exact .inl rfl | exact .inr ⟨_, rfl, List.mem_cons_self⟩ | exact .inr ⟨_, rfl, List.mem_cons_of_mem _ List.mem_cons_self⟩ | exact .inr ⟨_, rfl, List.mem_cons_of_mem _ (List.mem_cons_of_mem _ List.mem_cons_self)⟩ | exact .inr ⟨_, rfl, List.mem_cons_of_mem _ (List.mem_cons_of_mem _ (List.mem_cons_of_mem _ List.mem_cons_self))⟩)
local macro_rules | `(tactic| walk_at "gg") => `(tactic| first | exact getG_hd _ _ _ | (refine getG_tl (by decide +kernel) ?_; walk_at "gg"))
local macro_rules | `(tactic| walk_at "vs") => `(tactic| first | exact .inr rfl | (refine .inl ?_; walk_at "vl"))
local macro_rules | `(tactic| walk_at "nc") => `(tactic| first | omega | (unfold CMul; omega) | (unfold CDiv; omega) | (unfold CPow; decide) | (show (0 : Int) < _; omega))
local macro_rules | `(tactic| walk_at "sx") => `(tactic| first
  | with_reducible refine swx_seq ?_ | with_reducible refine swx_set ?_ | with_reducible refine swx_if ?_ | with_reducible refine swx_asg ?_ | with_reducible refine swx_ret ?_ | with_reducible refine swx_drop ?_ | ((with_reducible refine' swx_raise ?h ?hc); (case hc => exact rfl)) | with_reducible refine swx_next ?_ | with_reducible refine swx_brk ?_ | with_reducible refine swx_cont ?_ | with_reducible refine swx_retN ?_ | with_reducible refine swx_par ?_ | with_reducible refine swx_fld ?_
  | with_reducible refine evx_call ?_ | with_reducible refine evx_cm ?_ | with_reducible refine evx_cmk ?_ | with_reducible refine evx_mk ?_ | with_reducible refine evx_mkk ?_ | with_reducible refine evx_of ?_)
local macro_rules | `(tactic| walk_at "s1") => `(tactic| first
  | with_reducible refine sw_seq ?_ | with_reducible refine sw_set ?_ | (with_reducible refine' ev_var ?h ?_); (case h => rfl) | with_reducible refine ev_c ?_ | with_reducible refine ev_op ?_
  | with_reducible refine bo_I0 ?_ | with_reducible refine ev_tup ?_ | with_reducible refine ev_lstF ?_ | with_reducible refine ev_cb ?_ | with_reducible refine ea_cons ?_ | with_reducible refine ea_nil ?_
  | with_reducible refine bo_eqI ?_ | with_reducible refine bo_neI ?_ | with_reducible refine bo_eqS ?_ | with_reducible refine bo_neS ?_ | with_reducible refine bo_eqB ?_ | with_reducible refine bo_neB ?_
  | with_reducible refine isi_str ?_ | (with_reducible refine' ca_intBt ?h1 ?_); (case h1 => decide +kernel) | (with_reducible refine' ca_intBf ?h1 ?_); (case h1 => decide +kernel) | with_reducible refine ca_intB ?_ | with_reducible refine ca_int ?_ | with_reducible refine ca_max2 ?_ | with_reducible refine ca_min2 ?_
  | with_reducible refine sw_if ?_ | with_reducible refine sw_ret ?_ | with_reducible refine sw_drop ?_ | with_reducible refine sw_setL ?_ | with_reducible refine sw_next ?_ | with_reducible refine sw_par ?_ | with_reducible refine ev_neg ?_ | with_reducible refine ev_mkF ?_ | with_reducible refine ev_inv ?_ | with_reducible refine ev_prpF ?_ | with_reducible refine ta_fld ?_ | with_reducible refine ta_name ?_ | (with_reducible refine' ta_tup ?hl ?_); (case hl => rfl) | with_reducible refine tas_cons ?_ | with_reducible refine tas_nil ?_
  | with_reducible refine et_ifE ?_ | with_reducible refine ev_orV ?_ | with_reducible refine ev_andV ?_ | with_reducible refine ev_notV ?_ | with_reducible refine et_or ?_ | with_reducible refine et_and ?_ | with_reducible refine sw_asgA ?_ | with_reducible refine sw_asg2 ?_ | with_reducible refine sw_asg3 ?_ | with_reducible refine sw_fld ?_ | with_reducible refine et_test ?_ | with_reducible refine et_B ?_ | with_reducible refine ⟨_, rfl, ?_⟩ | with_reducible refine ⟨_, _, rfl, ?_⟩ | with_reducible refine et_not ?_ | with_reducible refine ev_if ?_
  | (with_reducible refine' bo_ixL ?h1 ?h2 ?_); (case h1 => walk_at "vl"); (case h2 => rfl) | (with_reducible refine' bo_ixT ?h2 ?_); (case h2 => rfl) | with_reducible refine ev_call ?_ | ((with_reducible refine' ev_fwF ?hz ?hy ?_); (case hz => assumption); (case hy => assumption)) | (with_reducible refine' ev_fmF ?hz ?_; case hz => assumption) | with_reducible refine ev_fld ?_
  | with_reducible refine .inr ⟨_, _, rfl, FldW.below _, ?_⟩ | with_reducible refine .inr ⟨_, _, rfl, FldW.atoms _, ?_⟩ | with_reducible refine .inr ⟨_, _, rfl, FldW.bens _, ?_⟩ | with_reducible refine .inr ⟨_, _, rfl, FldW.hgts _, ?_⟩
  | with_reducible refine .inl ⟨_, _, rfl, FldF.kind _, ?_⟩ | with_reducible refine .inl ⟨_, _, rfl, FldF.parts _, ?_⟩ | with_reducible refine .inl ⟨_, _, rfl, FldF.many _, ?_⟩ | with_reducible refine .inl ⟨_, _, rfl, FldF.deep _, ?_⟩ | with_reducible refine .inl ⟨_, _, rfl, FldF.atoms _, ?_⟩ | with_reducible refine .inl ⟨_, _, rfl, FldF.bare _, ?_⟩ | with_reducible refine .inl ⟨_, _, rfl, FldF.spell _, ?_⟩ | with_reducible refine .inl ⟨_, _, rfl, FldF.alls _, ?_⟩
  | with_reducible refine ev_meth ?_ | ((with_reducible refine' ⟨_, _, inst_wb _, ?hm, ?_⟩); (case hm => decide +kernel)) | ((with_reducible refine' ⟨_, _, Inst.fm _, ?hm, ?_⟩); (case hm => decide +kernel))
  | with_reducible refine ⟨_, _, rfl, FldF.kind _, ?_⟩ | with_reducible refine ⟨_, _, rfl, FldF.parts _, ?_⟩ | with_reducible refine ⟨_, _, rfl, FldF.many _, ?_⟩ | with_reducible refine ⟨_, _, rfl, FldF.deep _, ?_⟩ | with_reducible refine ⟨_, _, rfl, FldF.atoms _, ?_⟩ | with_reducible refine ⟨_, _, rfl, FldF.bare _, ?_⟩ | with_reducible refine ⟨_, _, rfl, FldF.spell _, ?_⟩ | with_reducible refine ⟨_, _, rfl, FldF.alls _, ?_⟩
  | ((with_reducible refine' ⟨len_ok ?hl, ?_⟩); (case hl => exact Nat.le_of_ble_eq_true rfl))
  | (with_reducible refine' bo_I ?h1 ?_); (case h1 => walk_at "nc")
  | with_reducible refine ev_sl ?_ | with_reducible refine eo_none ?_ | with_reducible refine eo_some ?_ | (with_reducible refine' ca_slF ?h1 ?_); (case h1 => walk_at "vl") | with_reducible refine ev_revF ?_ | with_reducible refine ev_dget ?_ | with_reducible refine sw_dput ?_ | with_reducible refine ev_dispF ?_ | with_reducible refine eps_cons ?_ | with_reducible refine eps_nil ?_ | with_reducible refine exk_str ?_ | with_reducible refine exk_int ?_ | (with_reducible refine' dg_str ?h1 ?h2 ?_); (case h1 => walk_at "vd"); (case h2 => walk_at "gg")
  | with_reducible refine unr_cons ?_ | with_reducible refine unr_nil ?_ | with_reducible refine swu_cons ?_ | with_reducible refine swu_nil ?_ | with_reducible refine et_yes ?_ | with_reducible refine tg_name ?_ | (with_reducible refine' tw_name ?h1 ?_); (case h1 => simp) | ((with_reducible refine' ⟨acc_ok ?h1, ?_⟩); (case h1 => exact Nat.le_of_ble_eq_true rfl)) | with_reducible refine ei_tup ?_ | with_reducible refine ei_list ?_ | with_reducible refine ei_rng1 ?_
  | with_reducible refine ca_strF ?_ | with_reducible refine ca_lenF ?_ | with_reducible refine isi_tup ?_ | with_reducible refine isi_int ?_ | with_reducible refine isi_intB ?_ | with_reducible refine et_chain ?_ | with_reducible refine ev_chain ?_ | (with_reducible refine' isi_fm ?hz ?_; case hz => assumption)
  | (with_reducible refine' ca_len ?h1 ?_); (case h1 => walk_at "vs")
  | (with_reducible refine' if_so ?h1 ?_); (case h1 => first | rfl | decide +kernel) | (with_reducible refine' if_not ?h1 ?_); (case h1 => first | rfl | decide +kernel))
local macro_rules | `(tactic| walk_at "st") => `(tactic| repeat first | walk_at "s1" | walk_at "sx")
section
def top (i : Nat) : Stmt := PySem.Challenge.pw_allbeneath_k76_whole_players_whose_ends.main.body.getD i (.Pass ⟨0, 0, 0, 0⟩)
/-- what the module has written -/
structure ZZ (K : PySem.W.Frag) (w : World) (mg : Str → Option Value) (cl : Nat → Addr) where
  g_LETTERS : ∃ u, mg "LETTERS" = some u ∧ RelV (.str "ABCDEFGHIJKLMNOPQRSTUVWXYZabcdefghijklmnopqrstuvwxyz") u
  g_ATOM : ∃ u, mg "ATOM" = some u ∧ RelV (.str "atom") u
  g_NO : ∃ u, mg "NO" = some u ∧ RelV (.str "no") u
  g_IF_formulas : ∃ u, mg "IF_formulas" = some u ∧ RelV (.str "if") u
  g_ALL_formulas : ∃ u, mg "ALL_formulas" = some u ∧ RelV (.str "all") u
  d_PARTS_OF : Addr
  e_PARTS_OF : Array DictEntry
  n_PARTS_OF : Nat
  g_PARTS_OF : mg "PARTS_OF" = some (.ref d_PARTS_OF)
  t_PARTS_OF : KDict K w d_PARTS_OF e_PARTS_OF n_PARTS_OF
  k_PARTS_OF_atom : ∃ t, PySem.W.nsIn K d_PARTS_OF "atom" = some (some (.int 1 t))
  k_PARTS_OF_no : ∃ t, PySem.W.nsIn K d_PARTS_OF "no" = some (some (.int 0 t))
  k_PARTS_OF_if : ∃ t, PySem.W.nsIn K d_PARTS_OF "if" = some (some (.int 2 t))
  k_PARTS_OF_all : ∃ t, PySem.W.nsIn K d_PARTS_OF "all" = some (some (.int 1 t))
  g_ALL_AHEAD : ∃ u, mg "ALL_AHEAD" = some u ∧ RelV (.str "all ") u
  g_BETWEEN : ∃ u, mg "BETWEEN" = some u ∧ RelV (.str " > ") u
  g_ALL_heights : ∃ u, mg "ALL_heights" = some u ∧ RelV (.str "all") u
  g_IF_heights : ∃ u, mg "IF_heights" = some u ∧ RelV (.str "if") u
  g_PAIR_PARTS : ∃ u, mg "PAIR_PARTS" = some u ∧ RelV (.int 2) u
  g_CAPITALS : ∃ u, mg "CAPITALS" = some u ∧ RelV (.str "ABCDEFGHIJKLMNOPQRSTUVWXYZ") u
  g_ROWS : ∃ u, mg "ROWS" = some u ∧ RelV (.str "rows") u
  g_ORDER : ∃ u, mg "ORDER" = some u ∧ RelV (.str "order") u
  g_MINE : ∃ u, mg "MINE" = some u ∧ RelV (.str "m") u
  g_OTHERS : ∃ u, mg "OTHERS" = some u ∧ RelV (.str "o") u
  g_MOST_PLAYERS : ∃ u, mg "MOST_PLAYERS" = some u ∧ RelV (.int 5) u
  g_Formula : mg "Formula" = some (.ref (cl 0))
  z0 : CZ K (cl 0) fmNames
  g_Book : mg "Book" = some (.ref (cl 5))
  z5 : CZ K (cl 5) bkNames
  no_ord : mg "ord" = none
abbrev s_united : Stmt := top 18
theorem sc_united : FnScope ["one", "other"] ["one", "other"] (defScope s_united) := ⟨rfl, rfl, rfl, by decide +kernel, rfl, by decide +kernel, by decide +kernel⟩
theorem c_united {P : Program} {w : World} {K : PySem.W.Frag} {mg : Str → Option Value} {base : Heap} {cl : Nat → Addr} {f : Addr} {fd : FuncData} (hm : mg "united" = some (.ref f)) (B : Blt mg) (Z : ZZ K w mg cl) (Fn : Fun K "united" "united" s_united f fd) : Cal P w K mg base 1 "united" (spN FK ⟨K, cl⟩ S_united) [] := by
  have fz := Z.z0
  refine calD hm Fn sc_united (by intro ds W post h; first | (obtain ⟨rfl, _⟩ := h; rfl) | (obtain ⟨_, rfl, _⟩ := h; rfl) | (obtain ⟨_, _, rfl, _⟩ := h; rfl) | (obtain ⟨_, _, _, rfl, _⟩ := h; rfl) | (obtain ⟨_, _, _, _, rfl, _⟩ := h; rfl) | (obtain ⟨_, _, _, _, _, rfl, _⟩ := h; rfl) | (obtain ⟨_, _, _, _, _, _, rfl, _⟩ := h; rfl) | (obtain ⟨_, _, _, _, _, _, _, rfl, _⟩ := h; rfl) | (obtain ⟨_, _, _, _, _, _, _, _, rfl, _⟩ := h; rfl) | (obtain ⟨_, _, _, _, _, _, _, _, _, rfl, _⟩ := h; rfl) | (obtain ⟨_, _, _, _, _, _, _, _, _, _, rfl, _⟩ := h; rfl) | (obtain ⟨_, _, _, _, _, _, _, _, _, _, _, rfl, _⟩ := h; rfl)) (fun _ _ _ _ _ _ us hl => match us, hl with | [_, _], _ => rfl) fun cdv A outer s H E hr => ⟨_, pss_one (ps_ret (pe_ifExp (pt_cmpR op_eq (pv 0) (pv 1) (nomark _)) (pv 0) (pe_join pe_str (pe_callB (cr_sortedT rfl) (by rfl) B.sorted bt_sorted (pa_cons (pe_callTy (cr_setT rfl) (by rfl) B.set bt_set (pa_cons (pe_op op_add_str (pv 0) (pv 1)) pa_nil)) pa_nil))))), ?_⟩
  rintro ds W post ⟨x, y, rfl, hl, rfl, k⟩
  try dsimp only [cxOf, Cx.nox, Cx.wish]
  walk_at "st"
  refine if_dec (fun e => ?_) (fun e => ?_)
  · walk_at "st"
    show post _ _
    simpa [unite, e] using k
  · have h16 := sizeLine_eq
    walk_at "st"
    refine ev_join ?_
    walk_at "st"
    refine bo_addS (by omega) ?_
    try walk_at "st"
    refine ca_setT (.inr ⟨_, rfl, rfl⟩) (by unfold signs; rw [List.length_map, ← str_len, str_app_len]; omega) fun p c hp hc => ?_
    have hs : (signs (x ++ y)).length = x.length + y.length := by unfold signs; rw [List.length_map, ← str_len, str_app_len]
    walk_at "st"
    refine ca_sortedT (by omega) ⟨ascS (signs (x ++ y)), .inl (.inl (.inl rfl)), ?_, ?_⟩
    · have h1 := ascS_len (signs (x ++ y))
      have h2 : (ascS (signs (x ++ y))).map (·.length) = (ascS (signs (x ++ y))).map fun _ => 1 := List.map_congr_left fun z hz => by
        obtain ⟨c, _, e⟩ := List.mem_map.mp (mem_ascS.mp hz)
        subst e
        rfl
      rw [h2, List.map_const', List.sum_replicate_nat]
      show _ * 1 + _ * 0 ≤ _
      omega
    · have e1 : signs (x ++ y) = ((lets x ++ lets y)).map sg := by unfold signs; rw [str_app]; rfl
      rw [e1, ascS_sg, join_nil_sg]
      have e2 : unite x y = ⟨((lets x ++ lets y).foldr insN []).toArray⟩ := by unfold unite; rw [if_neg e]
      rw [← e2]
      exact k
abbrev s_merged : Stmt := top 19
theorem sc_merged : FnScope ["one", "other", "formula", "found", "text"] ["one", "other"] (defScope s_merged) := ⟨rfl, rfl, rfl, by decide +kernel, rfl, by decide +kernel, by decide +kernel⟩
theorem c_merged {P : Program} {w : World} {K : PySem.W.Frag} {mg : Str → Option Value} {base : Heap} {cl : Nat → Addr} {f : Addr} {fd : FuncData} (hm : mg "merged" = some (.ref f)) (B : Blt mg) (Z : ZZ K w mg cl) (Fn : Fun K "merged" "merged" s_merged f fd) : Cal P w K mg base 1 "merged" (spN FK ⟨K, cl⟩ S_merged) [] := by
  have fz := Z.z0
  refine calD hm Fn sc_merged (by intro ds W post h; first | (obtain ⟨rfl, _⟩ := h; rfl) | (obtain ⟨_, rfl, _⟩ := h; rfl) | (obtain ⟨_, _, rfl, _⟩ := h; rfl) | (obtain ⟨_, _, _, rfl, _⟩ := h; rfl) | (obtain ⟨_, _, _, _, rfl, _⟩ := h; rfl) | (obtain ⟨_, _, _, _, _, rfl, _⟩ := h; rfl) | (obtain ⟨_, _, _, _, _, _, rfl, _⟩ := h; rfl) | (obtain ⟨_, _, _, _, _, _, _, rfl, _⟩ := h; rfl) | (obtain ⟨_, _, _, _, _, _, _, _, rfl, _⟩ := h; rfl) | (obtain ⟨_, _, _, _, _, _, _, _, _, rfl, _⟩ := h; rfl) | (obtain ⟨_, _, _, _, _, _, _, _, _, _, rfl, _⟩ := h; rfl) | (obtain ⟨_, _, _, _, _, _, _, _, _, _, _, rfl, _⟩ := h; rfl)) (fun _ _ _ _ _ _ us hl => match us, hl with | [_, _], _ => rfl) fun cdv A outer s H E hr => ⟨_, pss_cons (ps_if (PW.pt (pw_or (pt_cmpR op_eq (pe_callB call_len (by rfl) B.len bt_len (pa_cons (pv 0) pa_nil)) pe_int (nomark _)) (pw_or1 (pt_cmpR op_eq (pe_callB call_len (by rfl) B.len bt_len (pa_cons (pv 1) pa_nil)) pe_int (nomark _))))) (pss_one (ps_ret (pe_op op_catA (pv 0) (pv 1)))) (pss_nil))
 (pss_cons (ps_set (i := 3) sc_merged.nd rfl (Or.inr rfl) (pe_dc (own := [("formula", 2)]) (by rfl) sc_merged.nd (pi_tup (pe_op op_catA (pv 0) (pv 1))) (blkOk_by (own := [("formula", 2)]) (N := ["one", "other", "formula", "found", "text"]) (sc := defScope s_merged) (by decide +kernel)) (fun _ _ _ _ _ => (pg_name (i := 2) sc_merged.nd rfl (Or.inl rfl))) (fun _ _ _ _ _ => pts_nil) (fun _ _ _ _ _ => (pe_fldK (K := K) rfl (pv 2) rfl)) (fun _ _ _ _ _ => (pv 2))))
 (pss_one (ps_ret (pe_callTy call_tuple_of (by rfl) B.tuple bt_tuple (pa_cons (pe_lc (own := [("text", 4)]) (by rfl) sc_merged.nd (pi_list (pe_callB (call_sortedD rfl) (by rfl) B.sorted bt_sorted (pa_cons (pv 3) pa_nil))) (blkOk_by (own := [("text", 4)]) (N := ["one", "other", "formula", "found", "text"]) (sc := defScope s_merged) (by decide +kernel)) (fun _ _ _ _ _ => (pg_name (i := 4) sc_merged.nd rfl (Or.inl rfl))) (fun _ _ _ _ _ => pts_nil) (fun _ _ _ _ _ => (pe_dget (by exact hu_of hr) (pv 3) (pv 4) (fun _ _ => rfl)))) pa_nil))))), ?_⟩
  rintro ds W post ⟨e1, e2, rfl, hs, l1, l2, lm, k⟩
  try dsimp only [cxOf, Cx.nox, Cx.wish]
  walk_at "st"
  try refine ca_len (.inr rfl) ?_
  walk_at "st"
  refine if_dec (fun h1 => ?_) (fun h1 => ?_)
  · try refine if_so rfl ?_
    walk_at "st"
    refine bo_catA (by have := sizeLine_eq; simp; omega) ?_
    have e : e1 = [] := by simpa using h1
    subst e
    exact k e2 (by simp [Fm.merge]) (fun p h => by simpa using h)
  · walk_at "st"
    try refine ca_len (.inr rfl) ?_
    walk_at "st"
    refine if_dec (fun h2 => ?_) (fun h2 => ?_)
    · walk_at "st"
      refine bo_catA (by have := sizeLine_eq; simp; omega) ?_
      have e : e2 = [] := by simpa using h2
      subst e
      have e : e1 ≠ [] := by simpa using h1
      refine (show post (.tup (e1.map (·.1) ++ [])) W from ?_)
      rw [List.append_nil]
      exact k e1 (by simp [Fm.merge, e]) (fun p h => by simpa using h)
    · have n1 : e1 ≠ [] := by simpa using h1
      have n2 : e2 ≠ [] := by simpa using h2
      walk_at "st"
      refine ev_dc (ei_tup ?_)
      walk_at "st"
      refine bo_catA (by have := sizeLine_eq; simp; omega) ⟨_, rfl, fun i acc W' => W' = W ∧ ∃ l : List (D × Fm), acc = kvE l ∧ (l.map fun p => p.2.spell).Nodup ∧ (∀ p ∈ l, p ∈ e1 ++ e2) ∧ (∀ p ∈ (e1 ++ e2).take i, p.2 ∈ l.map (·.2)) ∧ l.length ≤ i, ⟨rfl, [], rfl, List.nodup_nil, by simp, by simp, by simp⟩, ?_, ?_⟩
      · rintro i d acc W' hd ⟨rfl, l, rfl, nd, hl, hm, hn⟩
        rw [← List.map_append, List.getElem?_map] at hd
        obtain ⟨p, hp, e⟩ := Option.map_eq_some_iff.mp hd
        subst e
        have hpm : p ∈ e1 ++ e2 := List.mem_of_getElem? hp
        refine tw_name (by simp) (et_yes ?_)
        try refine if_so rfl ?_
        refine ev_spl (g := p.2) Z.z0 ?_
        walk_at "st"
        refine ⟨(hs p hpm).2, ?_⟩
        walk_at "st"
        obtain ⟨l', e, h3, h4, h5, h6⟩ := put_kvE (d := p.1) (fun q hq => (hs q (hl q hq)).1) (hs p hpm).1
        have hi : i < (e1 ++ e2).length := (List.getElem?_eq_some_iff.mp hp).1
        refine ⟨by have := sizeLine_eq; simp at hi ⊢; omega, rfl, l', e, ?_, fun q hq => ?_, fun q hq => ?_, by omega⟩
        · have := putG_nodup (k := Sum.inr p.2.spell) (z := p.1) (ps := kvE l) (by rw [kvE_keys]; exact nd.map Sum.inr (fun a b hab => fun e => hab (Sum.inr.inj e)))
          rw [e, kvE_keys] at this
          exact List.Pairwise.of_map Sum.inr (fun a b h e => h (by rw [e])) this
        · rcases h3 q hq with h | h
          · exact hl q h
          · rw [h]
            exact hpm
        · rw [List.take_add_one, hp] at hq
          rcases List.mem_append.mp hq with h | h
          · exact h4 _ (hm q h)
          · simp at h
            subst h
            exact h5
      · rintro acc W' ⟨rfl, l, rfl, nd, hl, hm, hn⟩ p hp
        have e0 : (e1.map (·.1) ++ e2.map (·.1)).length = (e1 ++ e2).length := by simp
        rw [e0, List.take_length] at hm
        have ms : ∀ x, x ∈ l.map (·.2) ↔ x ∈ e1.map (·.2) ++ e2.map (·.2) := fun x => by
          rw [← List.map_append]
          constructor
          · intro h
            obtain ⟨q, hq, e⟩ := List.mem_map.mp h
            exact List.mem_map.mpr ⟨q, hl q hq, e⟩
          · intro h
            obtain ⟨q, hq, e⟩ := List.mem_map.mp h
            subst e
            exact hm q hq
        have ok2 : ∀ x ∈ e1.map (·.2) ++ e2.map (·.2), x.okL := fun x hx => by
          rw [← List.map_append] at hx
          obtain ⟨q, hq, e⟩ := List.mem_map.mp hx
          subst e
          exact (hs q hq).1
        have nd2 : (l.map (·.2)).Nodup := by
          have : ((l.map (·.2)).map Fm.spell).Nodup := by
            rw [List.map_map]
            exact nd
          exact List.Pairwise.of_map Fm.spell (fun a b h e => h (by rw [e])) this
        walk_at "st"
        refine ev_lc (ei_list ?_)
        walk_at "st"
        refine ca_sortedD (ps := kvE l) (ks := l.map fun p => p.2.spell) (.inr ⟨p, rfl, List.mem_cons_self⟩) (kvE_keys l) ?_ ?_
        · refine Nat.lt_of_le_of_lt ?_ lm
          have := Fm.len_le nd2 (m := Fm.merge (e1.map (·.2)) (e2.map (·.2))) fun x hx => by
            rw [Fm.mem_merge, ← List.mem_append]
            exact (ms x).mp hx
          simpa using this
        · intro ys hp2 hss
          obtain ⟨e', hpe, ey⟩ := perm_map_inv hp2
          subst ey
          refine ⟨_, rfl, fun i acc W2 => acc = (e'.take i).map (·.1) ∧ W2 = (p, .dp (kvE l)) :: W', ⟨by simp, rfl⟩, ?_, ?_⟩
          · rintro i d acc W2 hd ⟨rfl, rfl⟩
            rw [List.map_map, List.getElem?_map] at hd
            obtain ⟨q, hq, e⟩ := Option.map_eq_some_iff.mp hd
            subst e
            have hqm : q ∈ l := hpe.mem_iff.mp (List.mem_of_getElem? hq)
            refine tw_name (by simp) (et_yes ?_)
            try refine if_so rfl ?_
            refine ev_dget ?_
            walk_at "st"
            refine ⟨kvE l, Sum.inr q.2.spell, q.1, .inr ⟨p, rfl, List.mem_cons_self⟩, rfl, getG_kvE hqm nd, ?_, ?_, rfl⟩
            · have h7 := hpe.length_eq
              have := sizeLine_eq
              simp at hn ⊢
              omega
            · rw [List.take_add_one, hq]
              simp
          · rintro acc W2 ⟨rfl, rfl⟩ p2 hp3
            walk_at "st"
            refine ca_drp (ca_tup (.inr ⟨p2, rfl, List.mem_cons_self⟩) ?_)
            refine ⟨W', (List.sublist_cons_self _ _).trans (List.sublist_cons_self _ _), ?_⟩
            have e : (e'.take (List.map D.str (e'.map fun p => p.2.spell)).length) = e' := by simp
            rw [e]
            refine k e' (merge_of (by simpa using n1) (by simpa using n2) ok2 hss (hp2.nodup_iff.mpr nd) fun x => ?_) fun q hq => hl q (hpe.mem_iff.mp hq)
            rw [← ms x]
            exact (hpe.map _).mem_iff
abbrev s_is_atom : Stmt := top 17
theorem sc_is_atom : FnScope ["thing"] ["thing"] (defScope s_is_atom) := ⟨rfl, rfl, rfl, by decide +kernel, rfl, by decide +kernel, by decide +kernel⟩
theorem c_is_atom {P : Program} {w : World} {K : PySem.W.Frag} {mg : Str → Option Value} {base : Heap} {cl : Nat → Addr} {f : Addr} {fd : FuncData} (hm : mg "is_atom" = some (.ref f)) (B : Blt mg) (Z : ZZ K w mg cl) (Fn : Fun K "is_atom" "is_atom" s_is_atom f fd) : Cal P w K mg base 1 "is_atom" (spN FK ⟨K, cl⟩ S_isatom) [] := by
  have fz := Z.z0
  refine calD hm Fn sc_is_atom (by intro ds W post h; first | (obtain ⟨rfl, _⟩ := h; rfl) | (obtain ⟨_, rfl, _⟩ := h; rfl) | (obtain ⟨_, _, rfl, _⟩ := h; rfl) | (obtain ⟨_, _, _, rfl, _⟩ := h; rfl) | (obtain ⟨_, _, _, _, rfl, _⟩ := h; rfl) | (obtain ⟨_, _, _, _, _, rfl, _⟩ := h; rfl) | (obtain ⟨_, _, _, _, _, _, rfl, _⟩ := h; rfl) | (obtain ⟨_, _, _, _, _, _, _, rfl, _⟩ := h; rfl) | (obtain ⟨_, _, _, _, _, _, _, _, rfl, _⟩ := h; rfl) | (obtain ⟨_, _, _, _, _, _, _, _, _, rfl, _⟩ := h; rfl) | (obtain ⟨_, _, _, _, _, _, _, _, _, _, rfl, _⟩ := h; rfl) | (obtain ⟨_, _, _, _, _, _, _, _, _, _, _, rfl, _⟩ := h; rfl)) (fun _ _ _ _ _ _ us hl => match us, hl with | [_], _ => rfl) fun cdv A outer s H E hr => ⟨_, pss_one (ps_ret (pe_and (pe_callB call_isi (by rfl) B.isinstance bt_isinstance (pa_cons (pv 0) (pa_cons (pe_bltn (by rfl) B.str bt_str (relV_ty _)) pa_nil))) (pe_and (pe_cmpR op_eq (pe_callB call_len (by rfl) B.len bt_len (pa_cons (pv 0) pa_nil)) pe_int (nomark _)) (pe_one (pe_cmpR op_in_sign (pv 0) (C8.pe_gc (by rfl) Z.g_LETTERS) rfl))))), ?_⟩
  rintro ds W post ⟨x, rfl, rfl, hl, k⟩
  try dsimp only [cxOf, Cx.nox, Cx.wish]
  walk_at "st"
  try refine if_so rfl ?_
  walk_at "st"
  refine ca_lenS (by have := sizeLine_eq; omega) ?_
  walk_at "st"
  refine if_dec (fun e => ?_) (fun e => ?_)
  · have e : x.length = 1 := by omega
    obtain ⟨c, rfl⟩ := one_sign e
    walk_at "st"
    refine bo_inSg ?_
    walk_at "st"
    rw [in_letters]
    exact k
  · rw [isLet_long (show x.length ≠ 1 by omega)] at k
    exact k
end
section
theorem kd_facts {P : Program} {w : World} {K : PySem.W.Frag} {mg : Str → Option Value} {cl : Nat → Addr} (Z : ZZ K w mg cl) (f : Fm) : (∃ r, PySem.W.nsIn K Z.d_PARTS_OF f.kind = some (some r)) ∧ KDct K w Z.d_PARTS_OF f.kind (.int ((partsD f).length : Nat)) := by
  cases f with
  | «at» c => obtain ⟨t, h⟩ := Z.k_PARTS_OF_atom; exact ⟨⟨_, h⟩, _, _, _, Z.t_PARTS_OF.at_, Z.t_PARTS_OF.lit, h, t, rfl⟩
  | no => obtain ⟨t, h⟩ := Z.k_PARTS_OF_no; exact ⟨⟨_, h⟩, _, _, _, Z.t_PARTS_OF.at_, Z.t_PARTS_OF.lit, h, t, rfl⟩
  | imp a b => obtain ⟨t, h⟩ := Z.k_PARTS_OF_if; exact ⟨⟨_, h⟩, _, _, _, Z.t_PARTS_OF.at_, Z.t_PARTS_OF.lit, h, t, rfl⟩
  | all a => obtain ⟨t, h⟩ := Z.k_PARTS_OF_all; exact ⟨⟨_, h⟩, _, _, _, Z.t_PARTS_OF.at_, Z.t_PARTS_OF.lit, h, t, rfl⟩
abbrev s_Formula___init__ : Stmt := inClass (top 20) 0
theorem sc_Formula___init__ : FnScope ["self", "kind", "parts", "part", "inner", "first", "second"] ["self", "kind", "parts"] (defScope s_Formula___init__) := ⟨rfl, rfl, rfl, by decide +kernel, rfl, by decide +kernel, by decide +kernel⟩
theorem m_Formula {P : Program} {w : World} {K : PySem.W.Frag} {mg : Str → Option Value} {base : Heap} {cl : Nat → Addr} {f : Addr} {fd : FuncData} (mk : Mk K (cl 0) f) (B : Blt mg) (Z : ZZ K w mg cl) (Fn : Fun K "__init__" "Formula.__init__" s_Formula___init__ f fd)
    (c_united : Cal P w K mg base 1 "united" (spN FK ⟨K, cl⟩ S_united) [])
    (c_merged : Cal P w K mg base 1 "merged" (spN FK ⟨K, cl⟩ S_merged) [])
    (c_is_atom : Cal P w K mg base 1 "is_atom" (spN FK ⟨K, cl⟩ S_isatom) []) : MakR P w K mg base 2 "Formula" (cl 0) (spN FK ⟨K, cl⟩ (starS 2 S_init)) := by
  have fz := Z.z0
  refine ⟨f, mk, okS (ps := ["self", "kind"]) (pv := "parts") Fn sc_Formula___init__ (fun _ _ _ _ _ _ us rest hl => match us, hl, rest with | [_, _], _, [] => rfl | [_, _], _, [_] => rfl | [_, _], _, _ :: _ :: _ => rfl) fun cdv A outer s H E hr => ⟨_, PSs.nox (pss_cons (ps_if (PW.pt (pw_or (pt_not (pt_val (pe_callB call_isi (by rfl) B.isinstance bt_isinstance (pa_cons (pv 1) (pa_cons (pe_bltn (by rfl) B.str bt_str (relV_ty _)) pa_nil))))) (pw_or1 (pt_cmpR (op_notIn_kd Z.t_PARTS_OF) (pv 1) (pe_glob (by rfl) Z.g_PARTS_OF (relV_ref _)) rfl)))) (pss_one (ps_never)) (pss_nil))
 (pss_cons (ps_if (pt_cmpR op_ne (pe_callB call_len (by rfl) B.len bt_len (pa_cons (pv 2) pa_nil)) (pe_ix ix_kdict (pe_glob (by rfl) Z.g_PARTS_OF (relV_ref _)) (pv 1) (fun _ _ => rfl)) (nomark _)) (pss_one (ps_never)) (pss_nil))
 (pss_cons (ps_for PassesOwn.never rfl (pi_tup (pv 2)) (pg_name (i := 3) sc_Formula___init__.nd rfl (Or.inl rfl)) (pss_one (ps_if (pt_not (pt_ifE (pt_cmpR op_eq (pv 1) (C8.pe_gc (by rfl) Z.g_ATOM) (nomark _)) (pt_val (pe_c c_is_atom hr (by omega) (by rfl) (pa_cons (pv 3) pa_nil))) (pt_val (pe_callB call_isi (by rfl) B.isinstance bt_isinstance (pa_cons (pv 3) (pa_cons (pe_glob (by rfl) Z.g_Formula (relV_ref _)) pa_nil)))))) (pss_one (ps_never)) (pss_nil))))
 (pss_cons (ps_fld (pv 0) (pv 1) rfl)
 (pss_cons (ps_fld (pv 0) (pv 2) rfl)
 (pss_cons (ps_fld (pv 0) pe_int rfl)
 (pss_cons (ps_fld (pv 0) (pe_callTy call_int1 (by rfl) B.int bt_int (pa_cons (pe_cmpR op_eq (pv 1) (C8.pe_gc (by rfl) Z.g_ALL_formulas) (nomark _)) pa_nil)) rfl)
 (pss_cons (ps_asg2 pe_str (pg_fld (pv 0)) (pg_fld (pv 0)))
 (pss_cons (ps_asg (pe_tup (pa_cons (C8.pe_gc (by rfl) Z.g_NO) (pa_cons (pe_tup pa_nil) pa_nil))) (pg_tup (n := 2) rfl (pgs_cons (pg_fld (pv 0)) (pgs_cons (pg_fld (pv 0)) pgs_nil))))
 (pss_one (ps_if (pt_cmpR op_eq (pv 1) (C8.pe_gc (by rfl) Z.g_ATOM) (nomark _)) (pss_one (ps_asg3 (pe_ix ix_tup (pv 2) pe_int (fun _ _ => rfl)) (pg_fld (pv 0)) (pg_fld (pv 0)) (pg_fld (pv 0)))) (pss_one (ps_if (pt_cmpR op_eq (pv 1) (C8.pe_gc (by rfl) Z.g_ALL_formulas) (nomark _)) (pss_cons (ps_set (i := 4) sc_Formula___init__.nd rfl (Or.inl rfl) (pe_ix ix_tup (pv 2) pe_int (fun _ _ => rfl)))
 (pss_cons (ps_asg (pe_tup (pa_cons (pe_op op_add pe_int (pe_fld (pv 4) rfl)) (pa_cons (pe_op op_add pe_int (pe_fld (pv 4) rfl)) pa_nil))) (pg_tup (n := 2) rfl (pgs_cons (pg_fld (pv 0)) (pgs_cons (pg_fld (pv 0)) pgs_nil))))
 (pss_cons (ps_asg (pe_tup (pa_cons (pe_fld (pv 4) rfl) (pa_cons (pe_op op_add_str (C8.pe_gc (by rfl) Z.g_ALL_AHEAD) (pe_fld (pv 4) rfl)) pa_nil))) (pg_tup (n := 2) rfl (pgs_cons (pg_fld (pv 0)) (pgs_cons (pg_fld (pv 0)) pgs_nil))))
 (pss_one (ps_fld (pv 0) (pe_c c_merged hr (by omega) (by rfl) (pa_cons (pe_fld (pv 4) rfl) (pa_cons (pe_tup (pa_cons (pv 0) pa_nil)) pa_nil))) rfl))))) (pss_one (ps_if (pt_cmpR op_eq (pv 1) (C8.pe_gc (by rfl) Z.g_IF_formulas) (nomark _)) (pss_cons (ps_asg (pv 2) (pg_tup (n := 2) rfl (pgs_cons (pg_name (i := 5) sc_Formula___init__.nd rfl (Or.inl rfl)) (pgs_cons (pg_name (i := 6) sc_Formula___init__.nd rfl (Or.inl rfl)) pgs_nil))))
 (pss_cons (ps_asg (pe_tup (pa_cons (pe_op op_add (pe_op op_add pe_int (pe_fld (pv 5) rfl)) (pe_fld (pv 6) rfl)) (pa_cons (pe_callB (call_max2 rfl) (by rfl) B.max bt_max (pa_cons (pe_fld (pv 5) rfl) (pa_cons (pe_fld (pv 6) rfl) pa_nil))) pa_nil))) (pg_tup (n := 2) rfl (pgs_cons (pg_fld (pv 0)) (pgs_cons (pg_fld (pv 0)) pgs_nil))))
 (pss_cons (ps_fld (pv 0) (pe_c c_united hr (by omega) (by rfl) (pa_cons (pe_fld (pv 5) rfl) (pa_cons (pe_fld (pv 6) rfl) pa_nil))) rfl)
 (pss_cons (ps_fld (pv 0) (pe_c c_united hr (by omega) (by rfl) (pa_cons (pe_fld (pv 5) rfl) (pa_cons (pe_fld (pv 6) rfl) pa_nil))) rfl)
 (pss_cons (ps_fld (pv 0) (pe_c c_merged hr (by omega) (by rfl) (pa_cons (pe_fld (pv 5) rfl) (pa_cons (pe_fld (pv 6) rfl) pa_nil))) rfl)
 (pss_one (ps_fld (pv 0) (pe_joined (PJ.cons pe_str (PJ.cons (pe_fmt (pe_fld (pv 5) rfl)) (PJ.cons (pe_fmt (C8.pe_gc (by rfl) Z.g_BETWEEN)) (PJ.cons (pe_fmt (pe_fld (pv 6) rfl)) (PJ.cons pe_str PJ.nil)))))) rfl))))))) (pss_nil)))))))))))))))), ?_⟩, Z.g_Formula⟩
  rintro ds W post ⟨x, f, rfl, rfl, hf, k⟩
  try dsimp only [cxOf, Cx.nox, Cx.wish]
  walk_at "st"
  obtain ⟨⟨r0, hk1⟩, hk2⟩ := kd_facts (P := P) Z f
  walk_at "st"
  try refine if_not rfl ?_
  walk_at "st"
  refine bo_knin hk1 ?_
  walk_at "st"
  try refine if_not rfl ?_
  walk_at "st"
  try refine ca_len (.inr rfl) ?_
  walk_at "st"
  refine bo_kix hk2 ?_
  walk_at "st"
  refine if_not (by simp) ?_
  walk_at "st"
  refine sw_for (ei_tup ?_)
  walk_at "st"
  refine ⟨fun i G' W' => W' = [(x, .ins 0 [] [])] ∧ ∃ o, G' = [some (.adr x), some (.str f.kind), some (.tup (partsD f)), o, none, none, none], ⟨rfl, _, rfl⟩, ?_, ?_⟩
  · rintro i d G' W' hd ⟨rfl, o, rfl⟩
    refine tg_name ?_
    walk_at "st"
    refine if_dec (fun e => ?_) (fun e => ?_)
    · obtain ⟨c, rfl⟩ := kind_at.mp e
      have hd := List.mem_of_getElem? hd
      simp only [partsD, List.mem_singleton] at hd
      subst hd
      walk_at "st"
      refine hand0 ⟨_, rfl, rfl, Nat.le_of_ble_eq_true rfl, ?_⟩
      rw [show isLet ⟨#[c]⟩ = true from (isLet_sg c).trans (decide_eq_true hf.ok)]
      simp only [List.nil_append]
      walk_at "st"
      try refine if_not rfl ?_
      walk_at "st"
      exact ⟨rfl, _, rfl⟩
    · obtain ⟨g, rfl⟩ := parts_fm (fun c ec => e (kind_at.mpr ⟨c, ec⟩)) d (List.mem_of_getElem? hd)
      walk_at "st"
      try refine isi_ins (.fm g) Z.z0.ins ?_
      walk_at "st"
      try refine if_not rfl ?_
      walk_at "st"
      exact ⟨rfl, _, rfl⟩
  · rintro G' W' ⟨rfl, o, rfl⟩
    walk_at "st"
    refine rcv_new Z.z0 (by decide +kernel) (by decide +kernel) (by decide) ?_
    walk_at "st"
    refine rcv_new Z.z0 (by decide +kernel) (by decide +kernel) (by decide) ?_
    walk_at "st"
    refine rcv_new Z.z0 (by decide +kernel) (by decide +kernel) (by decide) ?_
    walk_at "st"
    refine rcv_new Z.z0 (by decide +kernel) (by decide +kernel) (by decide) ?_
    walk_at "st"
    refine rcv_new Z.z0 (by decide +kernel) (by decide +kernel) (by decide) ?_
    walk_at "st"
    refine rcv_new Z.z0 (by decide +kernel) (by decide +kernel) (by decide) ?_
    walk_at "st"
    refine rcv_new Z.z0 (by decide +kernel) (by decide +kernel) (by decide) ?_
    walk_at "st"
    refine rcv_new Z.z0 (by decide +kernel) (by decide +kernel) (by decide) ?_
    walk_at "st"
    cases f with
    | «at» c =>
      try refine if_so (show decide (("atom" : Str) = "atom") = true by decide +kernel) ?_
      simp only [partsD]
      walk_at "st"
      refine rcv_at 4 Z.z0 (by decide +kernel) (by decide +kernel) rfl (by decide) ?_
      walk_at "st"
      refine rcv_at 5 Z.z0 (by decide +kernel) (by decide +kernel) rfl (by decide) ?_
      walk_at "st"
      refine rcv_at 6 Z.z0 (by decide +kernel) (by decide +kernel) rfl (by decide) ?_
      exact k [] rfl
    | no =>
      try refine if_not (show decide (("no" : Str) = "atom") = false by decide +kernel) ?_
      walk_at "st"
      try refine if_not (by decide +kernel) ?_
      walk_at "st"
      try refine if_not (by decide +kernel) ?_
      walk_at "st"
      exact k [] rfl
    | all a =>
      try refine if_not (show decide (("all" : Str) = "atom") = false by decide +kernel) ?_
      walk_at "st"
      try refine if_so (show decide (("all" : Str) = "all") = true by decide +kernel) ?_
      simp only [partsD]
      walk_at "st"
      refine rcv_at 2 Z.z0 (by decide +kernel) (by decide +kernel) rfl (by decide) ?_
      walk_at "st"
      refine rcv_at 3 Z.z0 (by decide +kernel) (by decide +kernel) rfl (by decide) ?_
      walk_at "st"
      have hsz := hf.sz
      simp only [Fm.sz] at hsz
      have h16 := sizeLine_eq
      refine bo_addS (by rw [Fm.spell_len]; show 4 + _ ≤ _; omega) ?_
      walk_at "st"
      refine rcv_at 4 Z.z0 (by decide +kernel) (by decide +kernel) rfl (by decide) ?_
      walk_at "st"
      refine rcv_at 6 Z.z0 (by decide +kernel) (by decide +kernel) rfl (by decide) ?_
      walk_at "st"
      refine handA ⟨a.alls.map fun g => (D.fm g, g), [(.adr x, .all a)], by rw [fm_map]; rfl, ?_, ?_, by simp, ?_, ?_⟩
      · intro p hp
        rcases List.mem_append.mp hp with h | h
        · obtain ⟨g, hg, e⟩ := List.mem_map.mp h
          subst e
          exact ⟨(Fm.alls_sub (f := a) hf.a.ok).1 g hg, spl_fm g⟩
        · rw [List.mem_singleton] at h
          subst h
          exact ⟨hf.ok, _, _, .own x 0 _ _ List.mem_cons_self, rfl⟩
      · rw [List.length_map]
        exact hf.a.alls
      · rw [fm_map2]
        exact hf.alls
      · intro e' h1 h2
        rw [fm_map2] at h1
        walk_at "st"
        refine rcv_at 7 Z.z0 (by decide +kernel) (by decide +kernel) rfl (by decide) ?_
        have := allsD_of (x := x) (f := .all a) (e := e') fun p hp => by
          rcases List.mem_append.mp (h2 p hp) with h | h
          · obtain ⟨g, hg, e⟩ := List.mem_map.mp h
            subst e
            exact .inl rfl
          · rw [List.mem_singleton] at h
            subst h
            exact .inr ⟨rfl, rfl⟩
        rw [h1] at this
        exact k _ this
    | imp a b =>
      try refine if_not (show decide (("if" : Str) = "atom") = false by decide +kernel) ?_
      walk_at "st"
      try refine if_not (show decide (("if" : Str) = "all") = false by decide +kernel) ?_
      walk_at "st"
      try refine if_so (show decide (("if" : Str) = "if") = true by decide +kernel) ?_
      simp only [partsD]
      walk_at "st"
      refine rcv_at 2 Z.z0 (by decide +kernel) (by decide +kernel) rfl (by decide) ?_
      walk_at "st"
      refine rcv_at 3 Z.z0 (by decide +kernel) (by decide +kernel) rfl (by decide) ?_
      walk_at "st"
      have la := Fm.atoms_len hf.ok.1
      have lb := Fm.atoms_len hf.ok.2
      have lc := Fm.outer_len hf.ok.1
      have ld := Fm.outer_len hf.ok.2
      refine hand0 ⟨_, _, rfl, by omega, rfl, ?_⟩
      rw [List.nil_append]
      walk_at "st"
      refine rcv_at 4 Z.z0 (by decide +kernel) (by decide +kernel) rfl (by decide) ?_
      walk_at "st"
      refine hand0 ⟨_, _, rfl, by omega, rfl, ?_⟩
      rw [List.nil_append]
      walk_at "st"
      refine rcv_at 5 Z.z0 (by decide +kernel) (by decide +kernel) rfl (by decide) ?_
      walk_at "st"
      refine handA ⟨a.alls.map fun g => (D.fm g, g), b.alls.map fun g => (D.fm g, g), by rw [fm_map, fm_map]; rfl, ?_, ?_, ?_, ?_, ?_⟩
      · intro p hp
        rw [← List.map_append] at hp
        obtain ⟨g, hg, e⟩ := List.mem_map.mp hp
        subst e
        refine ⟨?_, spl_fm g⟩
        rcases List.mem_append.mp hg with h | h
        · exact (Fm.alls_sub hf.l.ok).1 g h
        · exact (Fm.alls_sub hf.r.ok).1 g h
      · rw [List.length_map]
        exact hf.l.alls
      · rw [List.length_map]
        exact hf.r.alls
      · rw [fm_map2, fm_map2]
        exact hf.alls
      · intro e' h1 h2
        rw [fm_map2, fm_map2] at h1
        walk_at "st"
        refine rcv_at 7 Z.z0 (by decide +kernel) (by decide +kernel) rfl (by decide) ?_
        have := allsD_of (x := x) (f := .imp a b) (e := e') fun p hp => by
          have h := h2 p hp
          rw [← List.map_append] at h
          obtain ⟨g, hg, e⟩ := List.mem_map.mp h
          subst e
          exact .inl rfl
        rw [h1] at this
        have k2 := k _ this
        walk_at "st"
        refine ev_joined ?_
        have hsz := hf.sz
        simp only [Fm.sz] at hsz
        have h16 := sizeLine_eq
        have l1 : ("(" : Str).length = 1 := rfl
        have l2 : (" > " : Str).length = 3 := rfl
        have l3 : (")" : Str).length = 1 := rfl
        have l4 := Fm.spell_len a
        have l5 := Fm.spell_len b
        refine ev_c ⟨_, rfl, by rw [empty_app, l1]; omega, ?_⟩
        refine ev_fmt ?_
        walk_at "st"
        refine ⟨by omega, _, rfl, by rw [empty_app, str_app_len]; omega, ?_⟩
        refine ev_fmt ?_
        walk_at "st"
        refine ⟨by rw [empty_app, str_app_len, str_app_len]; omega, ?_⟩
        refine ev_fmt ?_
        walk_at "st"
        refine ⟨by omega, _, rfl, by rw [empty_app, str_app_len, str_app_len, str_app_len]; omega, ?_⟩
        refine ev_c ⟨_, rfl, by rw [empty_app, str_app_len, str_app_len, str_app_len, str_app_len]; omega, ?_⟩
        rw [empty_app]
        refine ev_var rfl ?_
        refine rcv_at 6 Z.z0 (by decide +kernel) (by decide +kernel) rfl (by decide) ?_
        rw [max_int]
        exact k2
end
section
abbrev s_no : Stmt := top 26
theorem sc_no : FnScope [] [] (defScope s_no) := ⟨rfl, rfl, rfl, by decide +kernel, rfl, by decide +kernel, by decide +kernel⟩
theorem c_no {P : Program} {w : World} {K : PySem.W.Frag} {mg : Str → Option Value} {base : Heap} {cl : Nat → Addr} {f : Addr} {fd : FuncData} (hm : mg "no" = some (.ref f)) (B : Blt mg) (Z : ZZ K w mg cl) (Fn : Fun K "no" "no" s_no f fd)
    (m_Formula : MakR P w K mg base 2 "Formula" (cl 0) (spN FK ⟨K, cl⟩ (starS 2 S_init))) : Cal P w K mg base 5 "no" (spN FK ⟨K, cl⟩ S_no) [] := by
  have fz := Z.z0
  refine calD hm Fn sc_no (by intro ds W post h; first | (obtain ⟨rfl, _⟩ := h; rfl) | (obtain ⟨_, rfl, _⟩ := h; rfl) | (obtain ⟨_, _, rfl, _⟩ := h; rfl) | (obtain ⟨_, _, _, rfl, _⟩ := h; rfl) | (obtain ⟨_, _, _, _, rfl, _⟩ := h; rfl) | (obtain ⟨_, _, _, _, _, rfl, _⟩ := h; rfl) | (obtain ⟨_, _, _, _, _, _, rfl, _⟩ := h; rfl) | (obtain ⟨_, _, _, _, _, _, _, rfl, _⟩ := h; rfl) | (obtain ⟨_, _, _, _, _, _, _, _, rfl, _⟩ := h; rfl) | (obtain ⟨_, _, _, _, _, _, _, _, _, rfl, _⟩ := h; rfl) | (obtain ⟨_, _, _, _, _, _, _, _, _, _, rfl, _⟩ := h; rfl) | (obtain ⟨_, _, _, _, _, _, _, _, _, _, _, rfl, _⟩ := h; rfl)) (fun _ _ _ _ _ _ us hl => match us, hl with | [], _ => rfl) fun cdv A outer s H E hr => ⟨_, pss_one (ps_ret (pe_mkR m_Formula hr (by omega) (by rfl) (pa_cons (C8.pe_gc (by rfl) Z.g_NO) pa_nil))), ?_⟩
  rintro ds W post ⟨rfl, rfl, k⟩
  try dsimp only [cxOf, Cx.nox, Cx.wish]
  walk_at "st"
  exact ⟨.no, rfl, ⟨trivial, by decide, by decide⟩, k⟩
abbrev s_every : Stmt := top 28
theorem sc_every : FnScope ["formula"] ["formula"] (defScope s_every) := ⟨rfl, rfl, rfl, by decide +kernel, rfl, by decide +kernel, by decide +kernel⟩
theorem c_every {P : Program} {w : World} {K : PySem.W.Frag} {mg : Str → Option Value} {base : Heap} {cl : Nat → Addr} {f : Addr} {fd : FuncData} (hm : mg "every" = some (.ref f)) (B : Blt mg) (Z : ZZ K w mg cl) (Fn : Fun K "every" "every" s_every f fd)
    (m_Formula : MakR P w K mg base 2 "Formula" (cl 0) (spN FK ⟨K, cl⟩ (starS 2 S_init))) : Cal P w K mg base 5 "every" (spN FK ⟨K, cl⟩ S_every) [] := by
  have fz := Z.z0
  refine calD hm Fn sc_every (by intro ds W post h; first | (obtain ⟨rfl, _⟩ := h; rfl) | (obtain ⟨_, rfl, _⟩ := h; rfl) | (obtain ⟨_, _, rfl, _⟩ := h; rfl) | (obtain ⟨_, _, _, rfl, _⟩ := h; rfl) | (obtain ⟨_, _, _, _, rfl, _⟩ := h; rfl) | (obtain ⟨_, _, _, _, _, rfl, _⟩ := h; rfl) | (obtain ⟨_, _, _, _, _, _, rfl, _⟩ := h; rfl) | (obtain ⟨_, _, _, _, _, _, _, rfl, _⟩ := h; rfl) | (obtain ⟨_, _, _, _, _, _, _, _, rfl, _⟩ := h; rfl) | (obtain ⟨_, _, _, _, _, _, _, _, _, rfl, _⟩ := h; rfl) | (obtain ⟨_, _, _, _, _, _, _, _, _, _, rfl, _⟩ := h; rfl) | (obtain ⟨_, _, _, _, _, _, _, _, _, _, _, rfl, _⟩ := h; rfl)) (fun _ _ _ _ _ _ us hl => match us, hl with | [_], _ => rfl) fun cdv A outer s H E hr => ⟨_, pss_one (ps_ret (pe_mkR m_Formula hr (by omega) (by rfl) (pa_cons (C8.pe_gc (by rfl) Z.g_ALL_formulas) (pa_cons (pv 0) pa_nil)))), ?_⟩
  rintro ds W post ⟨f, rfl, rfl, hf, k⟩
  try dsimp only [cxOf, Cx.nox, Cx.wish]
  walk_at "st"
  exact ⟨.all f, rfl, hf, k⟩
abbrev s_as_formula : Stmt := top 21
theorem sc_as_formula : FnScope ["value"] ["value"] (defScope s_as_formula) := ⟨rfl, rfl, rfl, by decide +kernel, rfl, by decide +kernel, by decide +kernel⟩
theorem c_as_formula {P : Program} {w : World} {K : PySem.W.Frag} {mg : Str → Option Value} {base : Heap} {cl : Nat → Addr} {f : Addr} {fd : FuncData} (hm : mg "as_formula" = some (.ref f)) (B : Blt mg) (Z : ZZ K w mg cl) (Fn : Fun K "as_formula" "as_formula" s_as_formula f fd)
    (c_is_atom : Cal P w K mg base 1 "is_atom" (spN FK ⟨K, cl⟩ S_isatom) [])
    (m_Formula : MakR P w K mg base 2 "Formula" (cl 0) (spN FK ⟨K, cl⟩ (starS 2 S_init))) : Cal P w K mg base 5 "as_formula" (spN FK ⟨K, cl⟩ S_opd) [] := by
  have fz := Z.z0
  refine calD hm Fn sc_as_formula (by intro ds W post h; first | (obtain ⟨rfl, _⟩ := h; rfl) | (obtain ⟨_, rfl, _⟩ := h; rfl) | (obtain ⟨_, _, rfl, _⟩ := h; rfl) | (obtain ⟨_, _, _, rfl, _⟩ := h; rfl) | (obtain ⟨_, _, _, _, rfl, _⟩ := h; rfl) | (obtain ⟨_, _, _, _, _, rfl, _⟩ := h; rfl) | (obtain ⟨_, _, _, _, _, _, rfl, _⟩ := h; rfl) | (obtain ⟨_, _, _, _, _, _, _, rfl, _⟩ := h; rfl) | (obtain ⟨_, _, _, _, _, _, _, _, rfl, _⟩ := h; rfl) | (obtain ⟨_, _, _, _, _, _, _, _, _, rfl, _⟩ := h; rfl) | (obtain ⟨_, _, _, _, _, _, _, _, _, _, rfl, _⟩ := h; rfl) | (obtain ⟨_, _, _, _, _, _, _, _, _, _, _, rfl, _⟩ := h; rfl)) (fun _ _ _ _ _ _ us hl => match us, hl with | [_], _ => rfl) fun cdv A outer s H E hr => ⟨_, pss_cons (ps_if (pt_val (pe_callB call_isi (by rfl) B.isinstance bt_isinstance (pa_cons (pv 0) (pa_cons (pe_glob (by rfl) Z.g_Formula (relV_ref _)) pa_nil)))) (pss_one (ps_ret (pv 0))) (pss_nil))
 (pss_one (ps_ret (pe_ifExp (pt_val (pe_c c_is_atom hr (by omega) (by rfl) (pa_cons (pv 0) pa_nil))) (pe_mkR m_Formula hr (by omega) (by rfl) (pa_cons (C8.pe_gc (by rfl) Z.g_ATOM) (pa_cons (pv 0) pa_nil))) pe_non))), ?_⟩
  rintro ds W post ⟨d, f, rfl, rfl, hd, k⟩
  try dsimp only [cxOf, Cx.nox, Cx.wish]
  rcases hd with rfl | ⟨c, hc, rfl, rfl⟩
  · walk_at "st"
    try refine isi_ins (.fm f) fz.ins ?_
    walk_at "st"
    try refine if_so (by first | rfl | decide +kernel | simp) ?_
    try walk_at "st"
    exact k
  · walk_at "st"
    refine isi_strF fz ?_
    walk_at "st"
    try refine if_not (by first | rfl | decide +kernel | simp) ?_
    try walk_at "st"
    refine hand0 ⟨_, rfl, rfl, Nat.le_of_ble_eq_true rfl, ?_⟩
    try simp only [List.nil_append]
    try walk_at "st"
    rw [isLet_sg, decide_eq_true hc]
    try refine if_so (by first | rfl | decide +kernel | simp) ?_
    try walk_at "st"
    exact ⟨.at c, rfl, ⟨hc, Nat.le_of_ble_eq_true rfl, Nat.lt_of_lt_of_le Nat.zero_lt_one (Nat.le_of_ble_eq_true rfl)⟩, k⟩
abbrev s_operand : Stmt := top 22
theorem sc_operand : FnScope ["value", "found"] ["value"] (defScope s_operand) := ⟨rfl, rfl, rfl, by decide +kernel, rfl, by decide +kernel, by decide +kernel⟩
theorem c_operand {P : Program} {w : World} {K : PySem.W.Frag} {mg : Str → Option Value} {base : Heap} {cl : Nat → Addr} {f : Addr} {fd : FuncData} (hm : mg "operand" = some (.ref f)) (B : Blt mg) (Z : ZZ K w mg cl) (Fn : Fun K "operand" "operand" s_operand f fd)
    (c_as_formula : Cal P w K mg base 5 "as_formula" (spN FK ⟨K, cl⟩ S_opd) []) : Cal P w K mg base 6 "operand" (spN FK ⟨K, cl⟩ S_opd) [] := by
  have fz := Z.z0
  refine calD hm Fn sc_operand (by intro ds W post h; first | (obtain ⟨rfl, _⟩ := h; rfl) | (obtain ⟨_, rfl, _⟩ := h; rfl) | (obtain ⟨_, _, rfl, _⟩ := h; rfl) | (obtain ⟨_, _, _, rfl, _⟩ := h; rfl) | (obtain ⟨_, _, _, _, rfl, _⟩ := h; rfl) | (obtain ⟨_, _, _, _, _, rfl, _⟩ := h; rfl) | (obtain ⟨_, _, _, _, _, _, rfl, _⟩ := h; rfl) | (obtain ⟨_, _, _, _, _, _, _, rfl, _⟩ := h; rfl) | (obtain ⟨_, _, _, _, _, _, _, _, rfl, _⟩ := h; rfl) | (obtain ⟨_, _, _, _, _, _, _, _, _, rfl, _⟩ := h; rfl) | (obtain ⟨_, _, _, _, _, _, _, _, _, _, rfl, _⟩ := h; rfl) | (obtain ⟨_, _, _, _, _, _, _, _, _, _, _, rfl, _⟩ := h; rfl)) (fun _ _ _ _ _ _ us hl => match us, hl with | [_], _ => rfl) fun cdv A outer s H E hr => ⟨_, pss_cons (ps_set (i := 1) sc_operand.nd rfl (Or.inl rfl) (pe_c c_as_formula hr (by omega) (by rfl) (pa_cons (pv 0) pa_nil)))
 (pss_cons (ps_if (pt_cmp (pc_isN (pv 1))) (pss_one (ps_never)) (pss_nil))
 (pss_one (ps_ret (pv 1)))), ?_⟩
  rintro ds W post ⟨d, f, rfl, rfl, hd, k⟩
  try dsimp only [cxOf, Cx.nox, Cx.wish]
  walk_at "st"
  refine hand0 ⟨d, f, rfl, rfl, hd, ?_⟩
  try simp only [List.nil_append]
  try walk_at "st"
  refine ev_isN_fm (f := f) ?_
  walk_at "st"
  refine ⟨rfl, ?_⟩
  walk_at "st"
  try refine if_not (by first | rfl | decide +kernel | simp) ?_
  try walk_at "st"
  exact k
abbrev s_Formula___invert__ : Stmt := inClass (top 20) 10
theorem sc_Formula___invert__ : FnScope ["self"] ["self"] (defScope s_Formula___invert__) := ⟨rfl, rfl, rfl, by decide +kernel, rfl, by decide +kernel, by decide +kernel⟩
theorem o_inv {P : Program} {w : World} {K : PySem.W.Frag} {mg : Str → Option Value} {base : Heap} {cl : Nat → Addr} {f : Addr} {fd : FuncData} (o : Own2 K (cl 0) "__invert__" f) (B : Blt mg) (Z : ZZ K w mg cl) (Fn : Fun K "__invert__" "Formula.__invert__" s_Formula___invert__ f fd)
    (m_Formula : MakR P w K mg base 2 "Formula" (cl 0) (spN FK ⟨K, cl⟩ (starS 2 S_init)))
    (c_no : Cal P w K mg base 5 "no" (spN FK ⟨K, cl⟩ S_no) []) : Opn P w K mg base 6 (cl 0) "__invert__" (spN FK ⟨K, cl⟩ S_inv) := by
  have fz := Z.z0
  refine opnD o Fn sc_Formula___invert__ (by intro ds W post h; first | (obtain ⟨rfl, _⟩ := h; rfl) | (obtain ⟨_, rfl, _⟩ := h; rfl) | (obtain ⟨_, _, rfl, _⟩ := h; rfl) | (obtain ⟨_, _, _, rfl, _⟩ := h; rfl) | (obtain ⟨_, _, _, _, rfl, _⟩ := h; rfl) | (obtain ⟨_, _, _, _, _, rfl, _⟩ := h; rfl) | (obtain ⟨_, _, _, _, _, _, rfl, _⟩ := h; rfl) | (obtain ⟨_, _, _, _, _, _, _, rfl, _⟩ := h; rfl) | (obtain ⟨_, _, _, _, _, _, _, _, rfl, _⟩ := h; rfl) | (obtain ⟨_, _, _, _, _, _, _, _, _, rfl, _⟩ := h; rfl) | (obtain ⟨_, _, _, _, _, _, _, _, _, _, rfl, _⟩ := h; rfl) | (obtain ⟨_, _, _, _, _, _, _, _, _, _, _, rfl, _⟩ := h; rfl)) (fun _ _ _ _ _ _ us hl => match us, hl with | [_], _ => rfl) fun cdv A outer s H E hr => ⟨_, pss_one (ps_ret (pe_mkR m_Formula hr (by omega) (by rfl) (pa_cons (C8.pe_gc (by rfl) Z.g_IF_formulas) (pa_cons (pv 0) (pa_cons (pe_c0 c_no hr (by omega) (by rfl)) pa_nil))))), ?_⟩
  rintro ds W post ⟨f, rfl, rfl, hf, k⟩
  try dsimp only [cxOf, Cx.nox, Cx.wish]
  walk_at "st"
  refine hand0 ⟨rfl, rfl, ?_⟩
  simp only [List.nil_append, List.append_nil]
  walk_at "st"
  exact ⟨.imp f .no, rfl, hf, k⟩
abbrev s_both : Stmt := top 23
theorem sc_both : FnScope ["one", "other"] ["one", "other"] (defScope s_both) := ⟨rfl, rfl, rfl, by decide +kernel, rfl, by decide +kernel, by decide +kernel⟩
theorem c_both {P : Program} {w : World} {K : PySem.W.Frag} {mg : Str → Option Value} {base : Heap} {cl : Nat → Addr} {f : Addr} {fd : FuncData} (hm : mg "both" = some (.ref f)) (B : Blt mg) (Z : ZZ K w mg cl) (Fn : Fun K "both" "both" s_both f fd)
    (m_Formula : MakR P w K mg base 2 "Formula" (cl 0) (spN FK ⟨K, cl⟩ (starS 2 S_init)))
    (o_inv : Opn P w K mg base 6 (cl 0) "__invert__" (spN FK ⟨K, cl⟩ S_inv)) : Cal P w K mg base 9 "both" (spN FK ⟨K, cl⟩ S_and) [] := by
  have fz := Z.z0
  refine calD hm Fn sc_both (by intro ds W post h; first | (obtain ⟨rfl, _⟩ := h; rfl) | (obtain ⟨_, rfl, _⟩ := h; rfl) | (obtain ⟨_, _, rfl, _⟩ := h; rfl) | (obtain ⟨_, _, _, rfl, _⟩ := h; rfl) | (obtain ⟨_, _, _, _, rfl, _⟩ := h; rfl) | (obtain ⟨_, _, _, _, _, rfl, _⟩ := h; rfl) | (obtain ⟨_, _, _, _, _, _, rfl, _⟩ := h; rfl) | (obtain ⟨_, _, _, _, _, _, _, rfl, _⟩ := h; rfl) | (obtain ⟨_, _, _, _, _, _, _, _, rfl, _⟩ := h; rfl) | (obtain ⟨_, _, _, _, _, _, _, _, _, rfl, _⟩ := h; rfl) | (obtain ⟨_, _, _, _, _, _, _, _, _, _, rfl, _⟩ := h; rfl) | (obtain ⟨_, _, _, _, _, _, _, _, _, _, _, rfl, _⟩ := h; rfl)) (fun _ _ _ _ _ _ us hl => match us, hl with | [_, _], _ => rfl) fun cdv A outer s H E hr => ⟨_, pss_one (ps_ret (pe_un (un_opn o_inv hr (by omega)) (pe_mkR m_Formula hr (by omega) (by rfl) (pa_cons (C8.pe_gc (by rfl) Z.g_IF_formulas) (pa_cons (pv 0) (pa_cons (pe_un (un_opn o_inv hr (by omega)) (pv 1)) pa_nil)))))), ?_⟩
  rintro ds W post ⟨f, g, rfl, rfl, hf, k⟩
  try dsimp only [cxOf, Cx.nox, Cx.wish]
  walk_at "st"
  refine hand0 ⟨g, rfl, rfl, hf.l.r, ?_⟩
  simp only [List.nil_append, List.append_nil]
  walk_at "st"
  refine ⟨.imp f (Fm.neg g), rfl, hf.l, ?_⟩
  walk_at "st"
  exact hand0 ⟨_, rfl, rfl, hf, k⟩
abbrev s_either : Stmt := top 24
theorem sc_either : FnScope ["one", "other"] ["one", "other"] (defScope s_either) := ⟨rfl, rfl, rfl, by decide +kernel, rfl, by decide +kernel, by decide +kernel⟩
theorem c_either {P : Program} {w : World} {K : PySem.W.Frag} {mg : Str → Option Value} {base : Heap} {cl : Nat → Addr} {f : Addr} {fd : FuncData} (hm : mg "either" = some (.ref f)) (B : Blt mg) (Z : ZZ K w mg cl) (Fn : Fun K "either" "either" s_either f fd)
    (m_Formula : MakR P w K mg base 2 "Formula" (cl 0) (spN FK ⟨K, cl⟩ (starS 2 S_init)))
    (o_inv : Opn P w K mg base 6 (cl 0) "__invert__" (spN FK ⟨K, cl⟩ S_inv)) : Cal P w K mg base 9 "either" (spN FK ⟨K, cl⟩ S_or) [] := by
  have fz := Z.z0
  refine calD hm Fn sc_either (by intro ds W post h; first | (obtain ⟨rfl, _⟩ := h; rfl) | (obtain ⟨_, rfl, _⟩ := h; rfl) | (obtain ⟨_, _, rfl, _⟩ := h; rfl) | (obtain ⟨_, _, _, rfl, _⟩ := h; rfl) | (obtain ⟨_, _, _, _, rfl, _⟩ := h; rfl) | (obtain ⟨_, _, _, _, _, rfl, _⟩ := h; rfl) | (obtain ⟨_, _, _, _, _, _, rfl, _⟩ := h; rfl) | (obtain ⟨_, _, _, _, _, _, _, rfl, _⟩ := h; rfl) | (obtain ⟨_, _, _, _, _, _, _, _, rfl, _⟩ := h; rfl) | (obtain ⟨_, _, _, _, _, _, _, _, _, rfl, _⟩ := h; rfl) | (obtain ⟨_, _, _, _, _, _, _, _, _, _, rfl, _⟩ := h; rfl) | (obtain ⟨_, _, _, _, _, _, _, _, _, _, _, rfl, _⟩ := h; rfl)) (fun _ _ _ _ _ _ us hl => match us, hl with | [_, _], _ => rfl) fun cdv A outer s H E hr => ⟨_, pss_one (ps_ret (pe_mkR m_Formula hr (by omega) (by rfl) (pa_cons (C8.pe_gc (by rfl) Z.g_IF_formulas) (pa_cons (pe_un (un_opn o_inv hr (by omega)) (pv 0)) (pa_cons (pv 1) pa_nil))))), ?_⟩
  rintro ds W post ⟨f, g, rfl, rfl, hf, k⟩
  try dsimp only [cxOf, Cx.nox, Cx.wish]
  walk_at "st"
  refine hand0 ⟨f, rfl, rfl, hf.l, ?_⟩
  simp only [List.nil_append, List.append_nil]
  walk_at "st"
  exact ⟨_, rfl, hf, k⟩
abbrev s_Formula___and__ : Stmt := inClass (top 20) 11
theorem sc_Formula___and__ : FnScope ["self", "other"] ["self", "other"] (defScope s_Formula___and__) := ⟨rfl, rfl, rfl, by decide +kernel, rfl, by decide +kernel, by decide +kernel⟩
theorem o_and {P : Program} {w : World} {K : PySem.W.Frag} {mg : Str → Option Value} {base : Heap} {cl : Nat → Addr} {f : Addr} {fd : FuncData} (o : Own2 K (cl 0) "__and__" f) (B : Blt mg) (Z : ZZ K w mg cl) (Fn : Fun K "__and__" "Formula.__and__" s_Formula___and__ f fd)
    (c_operand : Cal P w K mg base 6 "operand" (spN FK ⟨K, cl⟩ S_opd) [])
    (c_both : Cal P w K mg base 9 "both" (spN FK ⟨K, cl⟩ S_and) []) : Opn P w K mg base 10 (cl 0) "__and__" (spN FK ⟨K, cl⟩ S_and) := by
  have fz := Z.z0
  refine opnD o Fn sc_Formula___and__ (by intro ds W post h; first | (obtain ⟨rfl, _⟩ := h; rfl) | (obtain ⟨_, rfl, _⟩ := h; rfl) | (obtain ⟨_, _, rfl, _⟩ := h; rfl) | (obtain ⟨_, _, _, rfl, _⟩ := h; rfl) | (obtain ⟨_, _, _, _, rfl, _⟩ := h; rfl) | (obtain ⟨_, _, _, _, _, rfl, _⟩ := h; rfl) | (obtain ⟨_, _, _, _, _, _, rfl, _⟩ := h; rfl) | (obtain ⟨_, _, _, _, _, _, _, rfl, _⟩ := h; rfl) | (obtain ⟨_, _, _, _, _, _, _, _, rfl, _⟩ := h; rfl) | (obtain ⟨_, _, _, _, _, _, _, _, _, rfl, _⟩ := h; rfl) | (obtain ⟨_, _, _, _, _, _, _, _, _, _, rfl, _⟩ := h; rfl) | (obtain ⟨_, _, _, _, _, _, _, _, _, _, _, rfl, _⟩ := h; rfl)) (fun _ _ _ _ _ _ us hl => match us, hl with | [_, _], _ => rfl) fun cdv A outer s H E hr => ⟨_, pss_one (ps_ret (pe_c c_both hr (by omega) (by rfl) (pa_cons (pv 0) (pa_cons (pe_c c_operand hr (by omega) (by rfl) (pa_cons (pv 1) pa_nil)) pa_nil)))), ?_⟩
  rintro ds W post ⟨f, g, rfl, rfl, hf, k⟩
  try dsimp only [cxOf, Cx.nox, Cx.wish]
  walk_at "st"
  refine hand0 ⟨_, g, rfl, rfl, .inl rfl, ?_⟩
  simp only [List.nil_append, List.append_nil]
  walk_at "st"
  exact hand0 ⟨f, g, rfl, rfl, hf, k⟩
abbrev s_Formula___or__ : Stmt := inClass (top 20) 13
theorem sc_Formula___or__ : FnScope ["self", "other"] ["self", "other"] (defScope s_Formula___or__) := ⟨rfl, rfl, rfl, by decide +kernel, rfl, by decide +kernel, by decide +kernel⟩
theorem o_or {P : Program} {w : World} {K : PySem.W.Frag} {mg : Str → Option Value} {base : Heap} {cl : Nat → Addr} {f : Addr} {fd : FuncData} (o : Own2 K (cl 0) "__or__" f) (B : Blt mg) (Z : ZZ K w mg cl) (Fn : Fun K "__or__" "Formula.__or__" s_Formula___or__ f fd)
    (c_operand : Cal P w K mg base 6 "operand" (spN FK ⟨K, cl⟩ S_opd) [])
    (c_either : Cal P w K mg base 9 "either" (spN FK ⟨K, cl⟩ S_or) []) : Opn P w K mg base 10 (cl 0) "__or__" (spN FK ⟨K, cl⟩ S_or) := by
  have fz := Z.z0
  refine opnD o Fn sc_Formula___or__ (by intro ds W post h; first | (obtain ⟨rfl, _⟩ := h; rfl) | (obtain ⟨_, rfl, _⟩ := h; rfl) | (obtain ⟨_, _, rfl, _⟩ := h; rfl) | (obtain ⟨_, _, _, rfl, _⟩ := h; rfl) | (obtain ⟨_, _, _, _, rfl, _⟩ := h; rfl) | (obtain ⟨_, _, _, _, _, rfl, _⟩ := h; rfl) | (obtain ⟨_, _, _, _, _, _, rfl, _⟩ := h; rfl) | (obtain ⟨_, _, _, _, _, _, _, rfl, _⟩ := h; rfl) | (obtain ⟨_, _, _, _, _, _, _, _, rfl, _⟩ := h; rfl) | (obtain ⟨_, _, _, _, _, _, _, _, _, rfl, _⟩ := h; rfl) | (obtain ⟨_, _, _, _, _, _, _, _, _, _, rfl, _⟩ := h; rfl) | (obtain ⟨_, _, _, _, _, _, _, _, _, _, _, rfl, _⟩ := h; rfl)) (fun _ _ _ _ _ _ us hl => match us, hl with | [_, _], _ => rfl) fun cdv A outer s H E hr => ⟨_, pss_one (ps_ret (pe_c c_either hr (by omega) (by rfl) (pa_cons (pv 0) (pa_cons (pe_c c_operand hr (by omega) (by rfl) (pa_cons (pv 1) pa_nil)) pa_nil)))), ?_⟩
  rintro ds W post ⟨f, g, rfl, rfl, hf, k⟩
  try dsimp only [cxOf, Cx.nox, Cx.wish]
  walk_at "st"
  refine hand0 ⟨_, g, rfl, rfl, .inl rfl, ?_⟩
  simp only [List.nil_append, List.append_nil]
  walk_at "st"
  exact hand0 ⟨f, g, rfl, rfl, hf, k⟩
abbrev s_Formula___str__ : Stmt := inClass (top 20) 7
theorem sc_Formula___str__ : FnScope ["self"] ["self"] (defScope s_Formula___str__) := ⟨rfl, rfl, rfl, by decide +kernel, rfl, by decide +kernel, by decide +kernel⟩
theorem o_str {P : Program} {w : World} {K : PySem.W.Frag} {mg : Str → Option Value} {base : Heap} {cl : Nat → Addr} {f : Addr} {fd : FuncData} (o : Own2 K (cl 0) "__str__" f) (B : Blt mg) (Z : ZZ K w mg cl) (Fn : Fun K "__str__" "Formula.__str__" s_Formula___str__ f fd) : Opn P w K mg base 1 (cl 0) "__str__" (spN FK ⟨K, cl⟩ S_str) := by
  have fz := Z.z0
  refine opnD o Fn sc_Formula___str__ (by intro ds W post h; first | (obtain ⟨rfl, _⟩ := h; rfl) | (obtain ⟨_, rfl, _⟩ := h; rfl) | (obtain ⟨_, _, rfl, _⟩ := h; rfl) | (obtain ⟨_, _, _, rfl, _⟩ := h; rfl) | (obtain ⟨_, _, _, _, rfl, _⟩ := h; rfl) | (obtain ⟨_, _, _, _, _, rfl, _⟩ := h; rfl) | (obtain ⟨_, _, _, _, _, _, rfl, _⟩ := h; rfl) | (obtain ⟨_, _, _, _, _, _, _, rfl, _⟩ := h; rfl) | (obtain ⟨_, _, _, _, _, _, _, _, rfl, _⟩ := h; rfl) | (obtain ⟨_, _, _, _, _, _, _, _, _, rfl, _⟩ := h; rfl) | (obtain ⟨_, _, _, _, _, _, _, _, _, _, rfl, _⟩ := h; rfl) | (obtain ⟨_, _, _, _, _, _, _, _, _, _, _, rfl, _⟩ := h; rfl)) (fun _ _ _ _ _ _ us hl => match us, hl with | [_], _ => rfl) fun cdv A outer s H E hr => ⟨_, pss_one (ps_ret (pe_callTy SkE.call_str_str (by rfl) B.str bt_str (pa_cons (pe_fld (pv 0) rfl) pa_nil))), ?_⟩
  rintro ds W post ⟨f, rfl, rfl, k⟩
  try dsimp only [cxOf, Cx.nox, Cx.wish]
  walk_at "st"
  refine ca_strS ?_
  exact k
abbrev s_Formula_alls : Stmt := inClass (top 20) 3
theorem sc_Formula_alls : FnScope ["self"] ["self"] (defScope s_Formula_alls) := ⟨rfl, rfl, rfl, by decide +kernel, rfl, by decide +kernel, by decide +kernel⟩
theorem p_alls {P : Program} {w : World} {K : PySem.W.Frag} {mg : Str → Option Value} {base : Heap} {cl : Nat → Addr} {f : Addr} {fd : FuncData} {p : Addr} (o : PropOf K (cl 0) "alls" p f) (B : Blt mg) (Z : ZZ K w mg cl) (Fn : Fun K "alls" "Formula.alls" s_Formula_alls f fd) : Prp P w K mg base 1 (cl 0) "alls" (spN FK ⟨K, cl⟩ S_alls) := by
  have fz := Z.z0
  refine prpD o Fn sc_Formula_alls (by intro ds W post h; first | (obtain ⟨rfl, _⟩ := h; rfl) | (obtain ⟨_, rfl, _⟩ := h; rfl) | (obtain ⟨_, _, rfl, _⟩ := h; rfl) | (obtain ⟨_, _, _, rfl, _⟩ := h; rfl) | (obtain ⟨_, _, _, _, rfl, _⟩ := h; rfl) | (obtain ⟨_, _, _, _, _, rfl, _⟩ := h; rfl) | (obtain ⟨_, _, _, _, _, _, rfl, _⟩ := h; rfl) | (obtain ⟨_, _, _, _, _, _, _, rfl, _⟩ := h; rfl) | (obtain ⟨_, _, _, _, _, _, _, _, rfl, _⟩ := h; rfl) | (obtain ⟨_, _, _, _, _, _, _, _, _, rfl, _⟩ := h; rfl) | (obtain ⟨_, _, _, _, _, _, _, _, _, _, rfl, _⟩ := h; rfl) | (obtain ⟨_, _, _, _, _, _, _, _, _, _, _, rfl, _⟩ := h; rfl)) (fun _ _ _ _ _ _ us hl => match us, hl with | [_], _ => rfl) fun cdv A outer s H E hr => ⟨_, pss_one (ps_ret (pe_fld (pv 0) rfl)), ?_⟩
  rintro ds W post ⟨f, rfl, rfl, k⟩
  try dsimp only [cxOf, Cx.nox, Cx.wish]
  walk_at "st"
  exact k
end
section
abbrev s_yes : Stmt := top 27
theorem sc_yes : FnScope [] [] (defScope s_yes) := ⟨rfl, rfl, rfl, by decide +kernel, rfl, by decide +kernel, by decide +kernel⟩
theorem c_yes {P : Program} {w : World} {K : PySem.W.Frag} {mg : Str → Option Value} {base : Heap} {cl : Nat → Addr} {f : Addr} {fd : FuncData} (hm : mg "yes" = some (.ref f)) (B : Blt mg) (Z : ZZ K w mg cl) (Fn : Fun K "yes" "yes" s_yes f fd)
    (m_Formula : MakR P w K mg base 2 "Formula" (cl 0) (spN FK ⟨K, cl⟩ (starS 2 S_init)))
    (c_no : Cal P w K mg base 5 "no" (spN FK ⟨K, cl⟩ S_no) []) : Cal P w K mg base 6 "yes" (spN FK ⟨K, cl⟩ S_yes) [] := by
  have fz := Z.z0
  refine calD hm Fn sc_yes (by intro ds W post h; first | (obtain ⟨rfl, _⟩ := h; rfl) | (obtain ⟨_, rfl, _⟩ := h; rfl) | (obtain ⟨_, _, rfl, _⟩ := h; rfl) | (obtain ⟨_, _, _, rfl, _⟩ := h; rfl) | (obtain ⟨_, _, _, _, rfl, _⟩ := h; rfl) | (obtain ⟨_, _, _, _, _, rfl, _⟩ := h; rfl) | (obtain ⟨_, _, _, _, _, _, rfl, _⟩ := h; rfl) | (obtain ⟨_, _, _, _, _, _, _, rfl, _⟩ := h; rfl) | (obtain ⟨_, _, _, _, _, _, _, _, rfl, _⟩ := h; rfl) | (obtain ⟨_, _, _, _, _, _, _, _, _, rfl, _⟩ := h; rfl) | (obtain ⟨_, _, _, _, _, _, _, _, _, _, rfl, _⟩ := h; rfl) | (obtain ⟨_, _, _, _, _, _, _, _, _, _, _, rfl, _⟩ := h; rfl)) (fun _ _ _ _ _ _ us hl => match us, hl with | [], _ => rfl) fun cdv A outer s H E hr => ⟨_, pss_one (ps_ret (pe_mkR m_Formula hr (by omega) (by rfl) (pa_cons (C8.pe_gc (by rfl) Z.g_IF_formulas) (pa_cons (pe_c0 c_no hr (by omega) (by rfl)) (pa_cons (pe_c0 c_no hr (by omega) (by rfl)) pa_nil))))), ?_⟩
  rintro ds W post ⟨rfl, rfl, k⟩
  try dsimp only [cxOf, Cx.nox, Cx.wish]
  walk_at "st"
  refine hand0 ⟨rfl, rfl, ?_⟩
  simp only [List.nil_append, List.append_nil]
  walk_at "st"
  refine hand0 ⟨rfl, rfl, ?_⟩
  simp only [List.nil_append, List.append_nil]
  walk_at "st"
  exact ⟨Fm.yes, rfl, yes_ok, k⟩
abbrev s_atom : Stmt := top 25
theorem sc_atom : FnScope ["letter"] ["letter"] (defScope s_atom) := ⟨rfl, rfl, rfl, by decide +kernel, rfl, by decide +kernel, by decide +kernel⟩
theorem c_atom {P : Program} {w : World} {K : PySem.W.Frag} {mg : Str → Option Value} {base : Heap} {cl : Nat → Addr} {f : Addr} {fd : FuncData} (hm : mg "atom" = some (.ref f)) (B : Blt mg) (Z : ZZ K w mg cl) (Fn : Fun K "atom" "atom" s_atom f fd)
    (c_is_atom : Cal P w K mg base 1 "is_atom" (spN FK ⟨K, cl⟩ S_isatom) [])
    (m_Formula : MakR P w K mg base 2 "Formula" (cl 0) (spN FK ⟨K, cl⟩ (starS 2 S_init))) : Cal P w K mg base 5 "atom" (spN FK ⟨K, cl⟩ S_atom) [] := by
  have fz := Z.z0
  refine calD hm Fn sc_atom (by intro ds W post h; first | (obtain ⟨rfl, _⟩ := h; rfl) | (obtain ⟨_, rfl, _⟩ := h; rfl) | (obtain ⟨_, _, rfl, _⟩ := h; rfl) | (obtain ⟨_, _, _, rfl, _⟩ := h; rfl) | (obtain ⟨_, _, _, _, rfl, _⟩ := h; rfl) | (obtain ⟨_, _, _, _, _, rfl, _⟩ := h; rfl) | (obtain ⟨_, _, _, _, _, _, rfl, _⟩ := h; rfl) | (obtain ⟨_, _, _, _, _, _, _, rfl, _⟩ := h; rfl) | (obtain ⟨_, _, _, _, _, _, _, _, rfl, _⟩ := h; rfl) | (obtain ⟨_, _, _, _, _, _, _, _, _, rfl, _⟩ := h; rfl) | (obtain ⟨_, _, _, _, _, _, _, _, _, _, rfl, _⟩ := h; rfl) | (obtain ⟨_, _, _, _, _, _, _, _, _, _, _, rfl, _⟩ := h; rfl)) (fun _ _ _ _ _ _ us hl => match us, hl with | [_], _ => rfl) fun cdv A outer s H E hr => ⟨_, pss_cons (ps_if (pt_not (pt_val (pe_c c_is_atom hr (by omega) (by rfl) (pa_cons (pv 0) pa_nil)))) (pss_one (ps_never)) (pss_nil))
 (pss_one (ps_ret (pe_mkR m_Formula hr (by omega) (by rfl) (pa_cons (C8.pe_gc (by rfl) Z.g_ATOM) (pa_cons (pv 0) pa_nil))))), ?_⟩
  rintro ds W post ⟨c, rfl, rfl, hc, k⟩
  try dsimp only [cxOf, Cx.nox, Cx.wish]
  walk_at "st"
  refine hand0 ⟨_, rfl, rfl, Nat.le_of_ble_eq_true rfl, ?_⟩
  try simp only [List.nil_append]
  try walk_at "st"
  have hcL : (65 ≤ c ∧ c ≤ 90) ∨ (97 ≤ c ∧ c ≤ 122) := hc
  rw [isLet_sg, decide_eq_true hcL]
  refine if_not rfl ?_
  walk_at "st"
  exact ⟨.at c, rfl, ⟨hc, Nat.le_of_ble_eq_true rfl, Nat.lt_of_lt_of_le Nat.zero_lt_one (Nat.le_of_ble_eq_true rfl)⟩, k⟩
end
section
abbrev s_holds_below : Stmt := top 38
theorem sc_holds_below : FnScope ["height", "found", "turn"] ["height"] (defScope s_holds_below) := ⟨rfl, rfl, rfl, by decide +kernel, rfl, by decide +kernel, by decide +kernel⟩
theorem c_holds_below {P : Program} {w : World} {K : PySem.W.Frag} {mg : Str → Option Value} {base : Heap} {cl : Nat → Addr} {f : Addr} {fd : FuncData} (hm : mg "holds_below" = some (.ref f)) (B : Blt mg) (Z : ZZ K w mg cl) (Fn : Fun K "holds_below" "holds_below" s_holds_below f fd)
    (c_no : Cal P w K mg base 5 "no" (spN FK ⟨K, cl⟩ S_no) [])
    (c_every : Cal P w K mg base 5 "every" (spN FK ⟨K, cl⟩ S_every) []) : Cal P w K mg base 6 "holds_below" (spN FK ⟨K, cl⟩ S_holdsbelow) [] := by
  have fz := Z.z0
  refine calD hm Fn sc_holds_below (by intro ds W post h; first | (obtain ⟨rfl, _⟩ := h; rfl) | (obtain ⟨_, rfl, _⟩ := h; rfl) | (obtain ⟨_, _, rfl, _⟩ := h; rfl) | (obtain ⟨_, _, _, rfl, _⟩ := h; rfl) | (obtain ⟨_, _, _, _, rfl, _⟩ := h; rfl) | (obtain ⟨_, _, _, _, _, rfl, _⟩ := h; rfl) | (obtain ⟨_, _, _, _, _, _, rfl, _⟩ := h; rfl) | (obtain ⟨_, _, _, _, _, _, _, rfl, _⟩ := h; rfl) | (obtain ⟨_, _, _, _, _, _, _, _, rfl, _⟩ := h; rfl) | (obtain ⟨_, _, _, _, _, _, _, _, _, rfl, _⟩ := h; rfl) | (obtain ⟨_, _, _, _, _, _, _, _, _, _, rfl, _⟩ := h; rfl) | (obtain ⟨_, _, _, _, _, _, _, _, _, _, _, rfl, _⟩ := h; rfl)) (fun _ _ _ _ _ _ us hl => match us, hl with | [_], _ => rfl) fun cdv A outer s H E hr => ⟨_, pss_cons (ps_set (i := 1) sc_holds_below.nd rfl (Or.inl rfl) (pe_c0 c_no hr (by omega) (by rfl)))
 (pss_cons (ps_for PassesOwn.never rfl (pi_range1 (by rfl) B.range (pa_cons (pv 0) pa_nil)) (pg_name (i := 2) sc_holds_below.nd rfl (Or.inl rfl)) (pss_one (ps_set (i := 1) sc_holds_below.nd rfl (Or.inl rfl) (pe_c c_every hr (by omega) (by rfl) (pa_cons (pv 1) pa_nil)))))
 (pss_one (ps_ret (pv 1)))), ?_⟩
  rintro ds W post ⟨n, rfl, rfl, hn, k⟩
  try dsimp only [cxOf, Cx.nox, Cx.wish]
  walk_at "st"
  refine hand0 ⟨rfl, rfl, ?_⟩
  try simp only [List.nil_append]
  try walk_at "st"
  refine sw_for (ei_rng1 ?_)
  walk_at "st"
  refine ⟨by omega, by omega, fun i G' W' => W' = [] ∧ ∃ o2, G' = [some (natD n), some (.fm (Fm.belo i)), o2], ⟨rfl, _, rfl⟩, ?_, ?_⟩
  · rintro i d G' W' hd ⟨rfl, o2, rfl⟩
    have hi := (rng_get hd).1
    refine tg_name ?_
    walk_at "st"
    refine hand0 ⟨_, rfl, rfl, (Fm.Q.belo (k := i + 1) (by omega)).okF (by omega), ?_⟩
    try simp only [List.nil_append]
    try walk_at "st"
    exact ⟨trivial, _, rfl⟩
  · rintro G' W' ⟨rfl, o2, rfl⟩
    rw [rng_len, Int.toNat_natCast]
    walk_at "st"
    exact k
abbrev s_formula_for : Stmt := top 39
theorem sc_formula_for : FnScope ["heights", "rest", "found", "height"] ["heights", "rest"] (defScope s_formula_for) := ⟨rfl, rfl, rfl, by decide +kernel, rfl, by decide +kernel, by decide +kernel⟩
theorem c_formula_for {P : Program} {w : World} {K : PySem.W.Frag} {mg : Str → Option Value} {base : Heap} {cl : Nat → Addr} {f : Addr} {fd : FuncData} (hm : mg "formula_for" = some (.ref f)) (B : Blt mg) (Z : ZZ K w mg cl) (Fn : Fun K "formula_for" "formula_for" s_formula_for f fd)
    (c_no : Cal P w K mg base 5 "no" (spN FK ⟨K, cl⟩ S_no) [])
    (c_holds_below : Cal P w K mg base 6 "holds_below" (spN FK ⟨K, cl⟩ S_holdsbelow) [])
    (o_inv : Opn P w K mg base 6 (cl 0) "__invert__" (spN FK ⟨K, cl⟩ S_inv))
    (o_and : Opn P w K mg base 10 (cl 0) "__and__" (spN FK ⟨K, cl⟩ S_and))
    (o_or : Opn P w K mg base 10 (cl 0) "__or__" (spN FK ⟨K, cl⟩ S_or)) : Cal P w K mg base 13 "formula_for" (spN FK ⟨K, cl⟩ S_formfor) [] ∧ CalK P w K mg base 13 "formula_for" ["rest", "heights"] (fun _ zs => zs.reverse) (spN FK ⟨K, cl⟩ S_formfor) := by
  have fz := Z.z0
  refine calDK hm Fn sc_formula_for (by intro ds W post h; first | (obtain ⟨rfl, _⟩ := h; rfl) | (obtain ⟨_, rfl, _⟩ := h; rfl) | (obtain ⟨_, _, rfl, _⟩ := h; rfl) | (obtain ⟨_, _, _, rfl, _⟩ := h; rfl) | (obtain ⟨_, _, _, _, rfl, _⟩ := h; rfl) | (obtain ⟨_, _, _, _, _, rfl, _⟩ := h; rfl) | (obtain ⟨_, _, _, _, _, _, rfl, _⟩ := h; rfl) | (obtain ⟨_, _, _, _, _, _, _, rfl, _⟩ := h; rfl) | (obtain ⟨_, _, _, _, _, _, _, _, rfl, _⟩ := h; rfl) | (obtain ⟨_, _, _, _, _, _, _, _, _, rfl, _⟩ := h; rfl) | (obtain ⟨_, _, _, _, _, _, _, _, _, _, rfl, _⟩ := h; rfl) | (obtain ⟨_, _, _, _, _, _, _, _, _, _, _, rfl, _⟩ := h; rfl)) (fun _ _ _ _ _ _ us hl => match us, hl with | [_, _], _ => rfl) (kb_of (g := (fun _ ws => ws.reverse)) Fn (fun _ _ _ _ _ _ us hl => match us, hl with | [_, _], _ => rfl) (fun _ h2 => by first | exact h2 | exact h2.reverse)) fun cdv A outer s H E hr => ⟨_, pss_cons (ps_set (i := 2) sc_formula_for.nd rfl (Or.inl rfl) (pe_c0 c_no hr (by omega) (by rfl)))
 (pss_cons (ps_for PassesOwn.never rfl (pi_tup (pv 0)) (pg_name (i := 3) sc_formula_for.nd rfl (Or.inl rfl)) (pss_one (ps_set (i := 2) sc_formula_for.nd rfl (Or.inl rfl) (pe_op (op_opn o_or hr (by omega) fz.sf) (pv 2) (pe_op (op_opn o_and hr (by omega) fz.sf) (pe_c c_holds_below hr (by omega) (by rfl) (pa_cons (pe_op op_add (pv 3) pe_int) pa_nil)) (pe_un (un_opn o_inv hr (by omega)) (pe_c c_holds_below hr (by omega) (by rfl) (pa_cons (pv 3) pa_nil))))))))
 (pss_one (ps_ret (pe_ifExp (pt_val (pv 1)) (pe_un (un_opn o_inv hr (by omega)) (pv 2)) (pv 2))))), ?_⟩
  rintro ds W post ⟨hs, b, rfl, rfl, hl, hh, k⟩
  try dsimp only [cxOf, Cx.nox, Cx.wish]
  walk_at "st"
  refine hand0 ⟨rfl, rfl, ?_⟩
  try simp only [List.nil_append]
  try walk_at "st"
  refine sw_for (ei_tup ?_)
  walk_at "st"
  refine ⟨fun i G' W' => W' = [] ∧ ∃ o3, G' = [some (.tup (hs.map natD)), some (.bl b), some (.fm (Fm.forL (hs.take i))), o3], ⟨rfl, _, rfl⟩, ?_, ?_⟩
  · rintro i d G' W' hd ⟨rfl, o3, rfl⟩
    rw [List.getElem?_map] at hd
    obtain ⟨h, hg, rfl⟩ := Option.map_eq_some_iff.mp hd
    have hlt := (List.getElem?_eq_some_iff.mp hg).1
    have hh1 := hh h (List.mem_of_getElem? hg)
    have etk : hs.take (i + 1) = hs.take i ++ [h] := by rw [List.take_add_one, hg]; rfl
    have q0 : ∀ x ∈ hs.take i, x ≤ 60 := fun x hx => hh x (List.mem_of_mem_take hx)
    have q1 := Fm.Q.forL q0
    have q2 : ((hs.take i).length) ≤ 20 := by rw [List.length_take]; omega
    have e1 : ((h : Nat) : Int) + 1 = ((h + 1 : Nat) : Int) := by omega
    refine tg_name ?_
    walk_at "st"
    rw [e1]
    refine hand0 ⟨h + 1, rfl, rfl, by omega, ?_⟩
    try simp only [List.nil_append]
    try walk_at "st"
    refine hand0 ⟨h, rfl, rfl, by omega, ?_⟩
    try simp only [List.nil_append]
    try walk_at "st"
    have b0 : Fm.Q (4 * h + 2) 0 (Fm.belo h) := Fm.Q.belo (by omega)
    have b1 : Fm.Q (4 * (h + 1) + 2) 0 (Fm.belo (h + 1)) := Fm.Q.belo (by omega)
    refine hand0 ⟨Fm.belo h, rfl, rfl, b0.neg.okF (by omega), ?_⟩
    try simp only [List.nil_append]
    try walk_at "st"
    refine bo_fm2 ?_
    refine hand0 ⟨Fm.belo (h + 1), Fm.neg (Fm.belo h), rfl, rfl, (b1.conj b0.neg).okF (by omega), ?_⟩
    try simp only [List.nil_append]
    try walk_at "st"
    refine bo_fm2 ?_
    refine hand0 ⟨Fm.forL (hs.take i), Fm.one h, rfl, rfl, (q1.disj (Fm.Q.one hh1)).okF (by omega), ?_⟩
    try simp only [List.nil_append]
    try walk_at "st"
    refine ⟨trivial, some (natD h), ?_⟩
    rw [etk, Fm.forL_snoc]
    rfl
  · rintro G' W' ⟨rfl, o3, rfl⟩
    rw [List.length_map, List.take_length]
    walk_at "st"
    refine if_bl (fun e => ?_) (fun e => ?_)
    · walk_at "st"
      refine hand0 ⟨Fm.forL hs, rfl, rfl, (Fm.Q.forL hh).neg.okF (by omega), ?_⟩
      try simp only [List.nil_append]
      try walk_at "st"
      subst e
      exact k
    · walk_at "st"
      subst e
      exact k
end
section
abbrev s_held : Stmt := top 35
theorem sc_held : FnScope ["formula", "state"] ["formula", "state"] (defScope s_held) := ⟨rfl, rfl, rfl, by decide +kernel, rfl, by decide +kernel, by decide +kernel⟩
theorem c_held {P : Program} {w : World} {K : PySem.W.Frag} {mg : Str → Option Value} {base : Heap} {cl : Nat → Addr} {f : Addr} {fd : FuncData} (hm : mg "held" = some (.ref f)) (B : Blt mg) (Z : ZZ K w mg cl) (Fn : Fun K "held" "held" s_held f fd)
    (o_str : Opn P w K mg base 1 (cl 0) "__str__" (spN FK ⟨K, cl⟩ S_str)) : ∀ j, Cal P w K mg base (4 + j) "held" (spN FK ⟨K, cl⟩ (S_held j)) [] := by
  have fz := Z.z0
  intro j
  induction j with
  | zero => exact calD (k := 3) hm Fn sc_held (by intro ds W post h; first | (obtain ⟨rfl, _⟩ := h; rfl) | (obtain ⟨_, rfl, _⟩ := h; rfl) | (obtain ⟨_, _, rfl, _⟩ := h; rfl) | (obtain ⟨_, _, _, rfl, _⟩ := h; rfl) | (obtain ⟨_, _, _, _, rfl, _⟩ := h; rfl) | (obtain ⟨_, _, _, _, _, rfl, _⟩ := h; rfl) | (obtain ⟨_, _, _, _, _, _, rfl, _⟩ := h; rfl) | (obtain ⟨_, _, _, _, _, _, _, rfl, _⟩ := h; rfl) | (obtain ⟨_, _, _, _, _, _, _, _, rfl, _⟩ := h; rfl) | (obtain ⟨_, _, _, _, _, _, _, _, _, rfl, _⟩ := h; rfl) | (obtain ⟨_, _, _, _, _, _, _, _, _, _, rfl, _⟩ := h; rfl) | (obtain ⟨_, _, _, _, _, _, _, _, _, _, _, rfl, _⟩ := h; rfl)) (fun _ _ _ _ _ _ us hl => match us, hl with | [_, _], _ => rfl) fun cdv A outer s H E hr => ⟨_, pss_never, fun ds W post ⟨f, sd, ks, s, _, _, h, _⟩ => absurd h (Nat.not_lt_zero _)⟩
  | succ j c_held =>
    refine calD (k := 4 + j) hm Fn sc_held (by intro ds W post h; first | (obtain ⟨rfl, _⟩ := h; rfl) | (obtain ⟨_, rfl, _⟩ := h; rfl) | (obtain ⟨_, _, rfl, _⟩ := h; rfl) | (obtain ⟨_, _, _, rfl, _⟩ := h; rfl) | (obtain ⟨_, _, _, _, rfl, _⟩ := h; rfl) | (obtain ⟨_, _, _, _, _, rfl, _⟩ := h; rfl) | (obtain ⟨_, _, _, _, _, _, rfl, _⟩ := h; rfl) | (obtain ⟨_, _, _, _, _, _, _, rfl, _⟩ := h; rfl) | (obtain ⟨_, _, _, _, _, _, _, _, rfl, _⟩ := h; rfl) | (obtain ⟨_, _, _, _, _, _, _, _, _, rfl, _⟩ := h; rfl) | (obtain ⟨_, _, _, _, _, _, _, _, _, _, rfl, _⟩ := h; rfl) | (obtain ⟨_, _, _, _, _, _, _, _, _, _, _, rfl, _⟩ := h; rfl)) (fun _ _ _ _ _ _ us hl => match us, hl with | [_, _], _ => rfl) fun cdv A outer s H E hr => ⟨_, pss_cons (ps_if (pt_cmpR op_eq (pe_fld (pv 0) rfl) (C8.pe_gc (by rfl) Z.g_ALL_heights) (nomark _)) (pss_one (ps_ret (pe_dget (by exact hu_of hr) (pv 1) (pe_callTy (call_str_opn o_str hr (by omega)) (by rfl) B.str bt_str (pa_cons (pv 0) pa_nil)) (fun _ _ => rfl)))) (pss_nil))
 (pss_cons (ps_if (pt_cmpR op_eq (pe_fld (pv 0) rfl) (C8.pe_gc (by rfl) Z.g_IF_heights) (nomark _)) (pss_one (ps_ret (pe_or (pe_not (pe_c c_held hr (by omega) (by rfl) (pa_cons (pe_ix ix_tup (pe_fld (pv 0) rfl) pe_int (fun _ _ => rfl)) (pa_cons (pv 1) pa_nil)))) (pe_one (pe_c c_held hr (by omega) (by rfl) (pa_cons (pe_ix ix_tup (pe_fld (pv 0) rfl) pe_int (fun _ _ => rfl)) (pa_cons (pv 1) pa_nil))))))) (pss_nil))
 (pss_one (ps_ret pe_bl))), ?_⟩
    rintro ds W post ⟨f, sd, ks, s, rfl, hv, hd, hk, k⟩
    try dsimp only [cxOf, Cx.nox, Cx.wish]
    walk_at "st"
    cases f with
    | «at» c =>
      refine if_not ((show decide (("atom" : Str) = "all") = false by decide +kernel)) ?_
      try walk_at "st"
      exact k
    | no =>
      refine if_not ((show decide (("no" : Str) = "all") = false by decide +kernel)) ?_
      try walk_at "st"
      exact k
    | all a =>
      refine if_so (show decide (("all" : Str) = "all") = true by decide +kernel) ?_
      refine sw_ret (ev_dget ?_)
      walk_at "st"
      refine hand0 ⟨_, rfl, rfl, ⟨_, rfl⟩, ?_⟩
      try simp only [List.nil_append]
      try walk_at "st"
      exact ⟨blD ks, Sum.inr (Fm.all a).spell, .bl (s (.all a)), hv, rfl, by rw [getG_bl, hk]; rfl, k⟩
    | imp a b =>
      simp only [Fm.dep] at hd
      refine if_not ((show decide (("if" : Str) = "all") = false by decide +kernel)) ?_
      try walk_at "st"
      refine handA ⟨a, sd, ks, s, rfl, hv, by omega, hk.1, ?_⟩
      try walk_at "st"
      refine if_bl (fun e => ?_) (fun e => ?_)
      · have : Fm.hld s (.imp a b) = true := by
          simp only [Bool.not_eq_true'] at e
          simp only [Fm.hld, e, Bool.not_false, Bool.true_or]
        rw [this] at k
        exact k
      · walk_at "st"
        refine handA ⟨b, sd, ks, s, rfl, hv, by omega, hk.2, ?_⟩
        try walk_at "st"
        have : Fm.hld s (.imp a b) = Fm.hld s b := by
          simp only [Bool.not_eq_false'] at e
          simp only [Fm.hld, e, Bool.not_true, Bool.false_or]
        rw [this] at k
        exact k
end
section
abbrev s_values_by_heights : Stmt := top 36
theorem sc_values_by_heights : FnScope ["formula", "part", "parts", "text", "inner", "state", "found", "is_more", "later"] ["formula"] (defScope s_values_by_heights) := ⟨rfl, rfl, rfl, by decide +kernel, rfl, by decide +kernel, by decide +kernel⟩
theorem c_values_by_heights {P : Program} {w : World} {K : PySem.W.Frag} {mg : Str → Option Value} {base : Heap} {cl : Nat → Addr} {f : Addr} {fd : FuncData} (hm : mg "values_by_heights" = some (.ref f)) (B : Blt mg) (Z : ZZ K w mg cl) (Fn : Fun K "values_by_heights" "values_by_heights" s_values_by_heights f fd)
    (o_str : Opn P w K mg base 1 (cl 0) "__str__" (spN FK ⟨K, cl⟩ S_str))
    (p_alls : Prp P w K mg base 1 (cl 0) "alls" (spN FK ⟨K, cl⟩ S_alls))
    (c_held : Cal P w K mg base 64 "held" (spN FK ⟨K, cl⟩ (S_held 60)) []) : Cal P w K mg base 65 "values_by_heights" (spN FK ⟨K, cl⟩ S_values) [] := by
  have fz := Z.z0
  refine calD hm Fn sc_values_by_heights (by intro ds W post h; first | (obtain ⟨rfl, _⟩ := h; rfl) | (obtain ⟨_, rfl, _⟩ := h; rfl) | (obtain ⟨_, _, rfl, _⟩ := h; rfl) | (obtain ⟨_, _, _, rfl, _⟩ := h; rfl) | (obtain ⟨_, _, _, _, rfl, _⟩ := h; rfl) | (obtain ⟨_, _, _, _, _, rfl, _⟩ := h; rfl) | (obtain ⟨_, _, _, _, _, _, rfl, _⟩ := h; rfl) | (obtain ⟨_, _, _, _, _, _, _, rfl, _⟩ := h; rfl) | (obtain ⟨_, _, _, _, _, _, _, _, rfl, _⟩ := h; rfl) | (obtain ⟨_, _, _, _, _, _, _, _, _, rfl, _⟩ := h; rfl) | (obtain ⟨_, _, _, _, _, _, _, _, _, _, rfl, _⟩ := h; rfl) | (obtain ⟨_, _, _, _, _, _, _, _, _, _, _, rfl, _⟩ := h; rfl)) (fun _ _ _ _ _ _ us hl => match us, hl with | [_], _ => rfl) fun cdv A outer s H E hr => ⟨_, pss_cons (ps_setLc (i := 2) (own := [("part", 1)]) (by rfl) sc_values_by_heights.nd rfl rfl (sw_true rfl rfl rfl (by decide +kernel)) (pi_tup (pe_prp p_alls fz.cls hr (by omega) (pv 0))) (blkOk_by (own := [("part", 1)]) (N := ["formula", "part", "parts", "text", "inner", "state", "found", "is_more", "later"]) (sc := defScope s_values_by_heights) (by decide +kernel)) (fun _ _ _ _ _ => (pg_name (i := 1) sc_values_by_heights.nd rfl (Or.inl rfl))) (fun _ _ _ _ _ => pts_nil) (fun _ _ _ _ _ => (pe_tup (pa_cons (pe_callTy (call_str_opn o_str hr (by omega)) (by rfl) B.str bt_str (pa_cons (pv 1) pa_nil)) (pa_cons (pe_ix (ix_tupK (K := K) rfl) (pe_fldK (K := K) rfl (pv 1) rfl) pe_int (fun _ _ => rfl)) pa_nil)))))
 (pss_cons (ps_asg (pe_tup (pa_cons (pe_dc (own := [("text", 3), ("inner", 4)]) (by rfl) sc_values_by_heights.nd (pi_list (pv 2)) (blkOk_by (own := [("text", 3), ("inner", 4)]) (N := ["formula", "part", "parts", "text", "inner", "state", "found", "is_more", "later"]) (sc := defScope s_values_by_heights) (by decide +kernel)) (fun _ _ _ _ _ => (pg_tupK (K := K) rfl (n := 2) rfl (pgs_cons (pg_name (i := 3) sc_values_by_heights.nd rfl (Or.inl rfl)) (pgs_cons (pg_name (i := 4) sc_values_by_heights.nd rfl (Or.inl rfl)) pgs_nil)))) (fun _ _ _ _ _ => pts_nil) (fun _ _ _ _ _ => (pv 3)) (fun _ _ _ _ _ => pe_bl)) (pa_cons (pe_lst pa_nil) (pa_cons pe_bl pa_nil)))) (pg_tup (n := 3) rfl (pgs_cons (pg_name (i := 5) sc_values_by_heights.nd rfl (Or.inr rfl)) (pgs_cons (pg_name (i := 6) sc_values_by_heights.nd rfl (Or.inl rfl)) (pgs_cons (pg_name (i := 7) sc_values_by_heights.nd rfl (Or.inl rfl)) pgs_nil)))))
 (pss_cons (ps_while PassesOwn.never (pt_val (pv 7)) (pss_cons (ps_expr (pe_bm PySem.F.plainAttrs_list PySem.F.slot_list_append PySem.F.type_list_append mt_append (pv 6) (pa_cons (pe_c c_held hr (by omega) (by rfl) (pa_cons (pv 0) (pa_cons (pv 5) pa_nil))) pa_nil)))
 (pss_cons (ps_setDc (i := 8) (own := [("text", 3), ("inner", 4)]) (by rfl) sc_values_by_heights.nd rfl rfl (sw_trueD rfl rfl rfl (by decide +kernel)) (pi_list (pv 2)) (blkOk_by (own := [("text", 3), ("inner", 4)]) (N := ["formula", "part", "parts", "text", "inner", "state", "found", "is_more", "later"]) (sc := defScope s_values_by_heights) (by decide +kernel)) (fun _ _ _ _ _ => (pg_tupK (K := K) rfl (n := 2) rfl (pgs_cons (pg_name (i := 3) sc_values_by_heights.nd rfl (Or.inl rfl)) (pgs_cons (pg_name (i := 4) sc_values_by_heights.nd rfl (Or.inl rfl)) pgs_nil)))) (fun _ _ _ _ _ => pts_nil) (fun _ _ _ _ _ => (pv 3)) (fun _ _ _ _ _ => (pe_and (pe_dget (by exact hu_of hr) (pv 5) (pv 3) (fun _ _ => rfl)) (pe_one (pe_c c_held hr (by omega) (by rfl) (pa_cons (pv 4) (pa_cons (pv 5) pa_nil)))))))
 (pss_one (ps_asg (pe_tup (pa_cons (pe_cmpR (op_ne_dictB (Nat.lt_of_succ_lt (hu_of hr))) (pv 8) (pv 5) (nomark _)) (pa_cons (pv 8) pa_nil))) (pg_tup (n := 2) rfl (pgs_cons (pg_name (i := 7) sc_values_by_heights.nd rfl (Or.inl rfl)) (pgs_cons (pg_name (i := 5) sc_values_by_heights.nd rfl (Or.inr rfl)) pgs_nil))))))))
 (pss_one (ps_ret (pv 6))))), ?_⟩
  rintro ds W post ⟨f, rfl, rfl, hf, hd, k⟩
  try dsimp only [cxOf, Cx.nox, Cx.wish]
  walk_at "st"
  refine ev_lcF (ei_tup ?_)
  walk_at "st"
  refine hand0 ⟨f, rfl, rfl, ?_⟩
  try simp only [List.nil_append]
  try walk_at "st"
  refine ⟨fun i acc W' => W' = [] ∧ acc = (rowsH f).take i, ⟨rfl, by simp⟩, ?_, ?_⟩
  · rintro i d acc W' hd ⟨rfl, rfl⟩
    rw [List.getElem?_map] at hd
    obtain ⟨g, hg, e⟩ := Option.map_eq_some_iff.mp hd
    subst e
    obtain ⟨a, e, _⟩ := Fm.alls_form (List.mem_of_getElem? hg)
    subst e
    refine tw_name (by simp) ?_
    walk_at "st"
    refine hand0 ⟨_, rfl, rfl, ⟨_, rfl⟩, ?_⟩
    try simp only [List.nil_append]
    try walk_at "st"
    refine ⟨?_, rfl, ?_⟩
    · have := hf.alls
      have := sizeLine_eq
      rw [List.length_take, rowsH, List.length_map]
      omega
    · rw [List.take_add_one, rowsH, List.getElem?_map, hg]
      rfl
  · rintro acc W' ⟨rfl, rfl⟩
    have e : (rowsH f).take (f.alls.map D.fm).length = rowsH f := by
      rw [List.take_of_length_le]
      simp [rowsH]
    rw [e]
    walk_at "st"
    have hrow : ∀ (v : Fm → Bool), (f.alls.map fun g => ((Sum.inr g.spell : Key), v g)).take (rowsH f).length = f.alls.map fun g => ((Sum.inr g.spell : Key), v g) := fun v => List.take_of_length_le (by simp [rowsH])
    have h64 := hf.alls
    have h16 := sizeLine_eq
    refine ev_fz (ev_dc (ei_list ?_))
    walk_at "st"
    refine ⟨fun i acc W' => W' = [] ∧ acc = blD ((ksAt f 0).take i), ⟨rfl, by simp [blD]⟩, ?_, ?_⟩
    · rintro i d acc W' hd ⟨rfl, rfl⟩
      rw [rowsH, List.getElem?_map] at hd
      obtain ⟨g, hg, e⟩ := Option.map_eq_some_iff.mp hd
      subst e
      refine tw_tup rfl (tws_cons (tw_name (by simp) (tws_cons (tw_name (by simp) (tws_nil ?_)))))
      walk_at "st"
      refine ⟨by simp [blD, ksAt]; omega, rfl, ?_⟩
      have := put_row hf.ok (v := fun g => g.hAt 0) hg
      rw [hAt_zero (List.mem_of_getElem? hg)] at this
      exact this
    · rintro acc W' ⟨rfl, rfl⟩ p2 hp2
      refine ⟨p2, _, _, _, rfl, List.Perm.refl _, .dct _ _, ?_⟩
      rw [show (ksAt f 0).take (rowsH f).length = ksAt f 0 from hrow _]
      refine ea_cons (ev_lst (ea_nil ⟨len_ok (Nat.zero_le _), fun pf hpf => ?_⟩))
      walk_at "st"
      refine sw_while (fun m G W => ∃ (n : Nat) (more : Bool) (o1 o3 o4 o8 : Option D), G = [some (.fm f), o1, some (.lst (rowsH f)), o3, o4, some (.dp (blD (ksAt f n))), some (.adr pf), some (.bl more), o8] ∧ W = [(pf, .lst ((List.range n).map fun i => .bl (f.hAt i)))] ∧
          (more = true → n + f.cnt n ≤ f.alls.length ∧ m = f.cnt n + 1) ∧ (more = false → m = 0 ∧ ∃ j, n = j + 1 ∧ f.still j ∧ j ≤ 64)) (f.cnt 0 + 1) ⟨0, true, _, _, _, _, rfl, rfl, fun _ => ⟨by have := cnt_le f 0; omega, rfl⟩, fun h => by cases h⟩ ?_
      rintro m G' W' ⟨n, more, o1, o3, o4, o8, rfl, rfl, hT, hF⟩
      walk_at "st"
      cases more with
      | false =>
        obtain ⟨_, j, rfl, hs, hj⟩ := hF rfl
        refine if_not rfl ?_
        walk_at "st"
        exact k pf j hj hs
      | true =>
        obtain ⟨hn, rfl⟩ := hT rfl
        refine if_so rfl ?_
        refine sw_seq (sw_drop (ev_append ?_))
        walk_at "st"
        refine ⟨pf, _, [], [], rfl, rfl, ?_⟩
        walk_at "st"
        refine handA ⟨f, _, ksAt f n, fun g => g.hAt n, rfl, .inl rfl, hd.1, tab_ks hf.ok fun x hx => hx, ?_⟩
        try walk_at "st"
        rw [Fm.hld_at]
        walk_at "st"
        refine ⟨_, [], [], _, rfl, rfl, by simp; omega, ?_⟩
        refine sw_seq (sw_set (ev_fz (ev_dc (ei_list ?_))))
        walk_at "st"
        refine ⟨fun i acc W' => W' = [(pf, .lst ((List.range n).map (fun i => D.bl (f.hAt i)) ++ [.bl (f.hAt n)]))] ∧ acc = blD ((ksAt f (n + 1)).take i), ⟨rfl, by simp [blD]⟩, ?_, ?_⟩
        · rintro i d acc W' hd2 ⟨rfl, rfl⟩
          rw [rowsH, List.getElem?_map] at hd2
          obtain ⟨g, hg, e⟩ := Option.map_eq_some_iff.mp hd2
          subst e
          have hgm := List.mem_of_getElem? hg
          refine tw_tup rfl (tws_cons (tw_name (by simp) (tws_cons (tw_name (by simp) (tws_nil ?_)))))
          refine et_yes ?_
          refine if_so rfl ?_
          walk_at "st"
          refine ⟨blD (ksAt f n), Sum.inr g.spell, .bl (g.hAt n), .inl rfl, rfl, by rw [getG_bl, ksAt_get hf.ok hgm]; rfl, ?_⟩
          have hput := put_row hf.ok (v := fun g => g.hAt (n + 1)) hg
          have hsu := hAt_succ (n := n) hgm
          refine ⟨_, rfl, if_bl (fun e => ?_) (fun e => ?_)⟩
          · walk_at "st"
            refine handA ⟨g.inn, _, ksAt f n, fun g => g.hAt n, rfl, .inl rfl, ?_, tab_ks hf.ok (inn_all hgm).2, ?_⟩
            try walk_at "st"
            · refine hd.2 g.inn ?_
              rw [← (inn_all hgm).1]
              exact hgm
            · rw [Fm.hld_at]
              refine ⟨Sum.inr g.spell, rfl, by simp [blD, ksAt]; omega, rfl, ?_⟩
              rw [hsu, e, Bool.true_and] at hput
              exact hput
          · refine ⟨Sum.inr g.spell, rfl, by simp [blD, ksAt]; omega, rfl, ?_⟩
            rw [hsu, e, Bool.false_and] at hput
            exact hput
        · rintro acc W' ⟨rfl, rfl⟩ p3 hp3
          refine ⟨p3, _, _, _, rfl, List.Perm.refl _, .dct _ _, ?_⟩
          rw [show (ksAt f (n + 1)).take (rowsH f).length = ksAt f (n + 1) from hrow _]
          walk_at "st"
          refine bo_neDB (ks := ksAt f (n + 1)) (ls := ksAt f n) (.inl rfl) (.inl rfl) (by simp [ksAt]) ?_
          walk_at "st"
          have hmap : (List.range n).map (fun i => D.bl (f.hAt i)) ++ [.bl (f.hAt n)] = (List.range (n + 1)).map fun i => D.bl (f.hAt i) := by rw [List.range_succ, List.map_append]; rfl
          rw [hmap]
          by_cases hs : f.still n
          · have e := (eq_ks hf.ok).mpr hs
            rw [e]
            exact ⟨0, by omega, n + 1, false, _, _, _, _, rfl, rfl, (fun h => by cases h), fun _ => ⟨rfl, n, rfl, hs, by omega⟩⟩
          · have e : eqDB (ksAt f (n + 1)) (ksAt f n) = false := by
              cases h : eqDB (ksAt f (n + 1)) (ksAt f n) with
              | false => rfl
              | true => exact absurd ((eq_ks hf.ok).mp h) hs
            rw [e]
            have := Fm.cnt_lt hs
            exact ⟨f.cnt (n + 1) + 1, by omega, n + 1, true, _, _, _, _, rfl, rfl, (fun _ => ⟨by omega, rfl⟩), fun h => by cases h⟩
abbrev s_trace : Stmt := top 37
theorem sc_trace : FnScope ["formula", "values", "height", "value"] ["formula"] (defScope s_trace) := ⟨rfl, rfl, rfl, by decide +kernel, rfl, by decide +kernel, by decide +kernel⟩
theorem c_trace {P : Program} {w : World} {K : PySem.W.Frag} {mg : Str → Option Value} {base : Heap} {cl : Nat → Addr} {f : Addr} {fd : FuncData} (hm : mg "trace" = some (.ref f)) (B : Blt mg) (Z : ZZ K w mg cl) (Fn : Fun K "trace" "trace" s_trace f fd)
    (c_values_by_heights : Cal P w K mg base 65 "values_by_heights" (spN FK ⟨K, cl⟩ S_values) []) : Cal P w K mg base 66 "trace" (spN FK ⟨K, cl⟩ S_trace) [] ∧ CalK P w K mg base 66 "trace" ["formula"] (fun _ zs => zs) (spN FK ⟨K, cl⟩ S_trace) := by
  have fz := Z.z0
  refine calDK hm Fn sc_trace (by intro ds W post h; first | (obtain ⟨rfl, _⟩ := h; rfl) | (obtain ⟨_, rfl, _⟩ := h; rfl) | (obtain ⟨_, _, rfl, _⟩ := h; rfl) | (obtain ⟨_, _, _, rfl, _⟩ := h; rfl) | (obtain ⟨_, _, _, _, rfl, _⟩ := h; rfl) | (obtain ⟨_, _, _, _, _, rfl, _⟩ := h; rfl) | (obtain ⟨_, _, _, _, _, _, rfl, _⟩ := h; rfl) | (obtain ⟨_, _, _, _, _, _, _, rfl, _⟩ := h; rfl) | (obtain ⟨_, _, _, _, _, _, _, _, rfl, _⟩ := h; rfl) | (obtain ⟨_, _, _, _, _, _, _, _, _, rfl, _⟩ := h; rfl) | (obtain ⟨_, _, _, _, _, _, _, _, _, _, rfl, _⟩ := h; rfl) | (obtain ⟨_, _, _, _, _, _, _, _, _, _, _, rfl, _⟩ := h; rfl)) (fun _ _ _ _ _ _ us hl => match us, hl with | [_], _ => rfl) (kb_of (g := (fun _ ws => ws)) Fn (fun _ _ _ _ _ _ us hl => match us, hl with | [_], _ => rfl) (fun _ h2 => by first | exact h2 | exact h2.reverse)) fun cdv A outer s H E hr => ⟨_, pss_cons (ps_set (i := 1) sc_trace.nd rfl (Or.inr rfl) (pe_c c_values_by_heights hr (by omega) (by rfl) (pa_cons (pv 0) pa_nil)))
 (pss_one (ps_ret (pe_tup (pa_cons (pe_callTy call_tuple_of (by rfl) B.tuple bt_tuple (pa_cons (pe_lc (own := [("height", 2), ("value", 3)]) (by rfl) sc_trace.nd (pi_enumK (by rfl) B.enumerate (pa_cons (pv 1) pa_nil)) (blkOk_by (own := [("height", 2), ("value", 3)]) (N := ["formula", "values", "height", "value"]) (sc := defScope s_trace) (by decide +kernel)) (fun _ _ _ _ _ => (pg_tupK (K := K) rfl (n := 2) rfl (pgs_cons (pg_name (i := 2) sc_trace.nd rfl (Or.inl rfl)) (pgs_cons (pg_name (i := 3) sc_trace.nd rfl (Or.inl rfl)) pgs_nil)))) (fun _ _ _ _ _ => pts_one (pt_cmpR op_ne (pv 3) (pe_ix (ix_listK (K := K) rfl) (pv 1) (pe_un un_neg pe_int) (fun _ _ => rfl)) (nomark _))) (fun _ _ _ _ _ => (pv 2))) pa_nil)) (pa_cons (pe_ix ix_list (pv 1) (pe_un un_neg pe_int) (fun _ _ => rfl)) pa_nil))))), ?_⟩
  rintro ds W post ⟨f, rfl, rfl, hf, hd, k⟩
  try dsimp only [cxOf, Cx.nox, Cx.wish]
  walk_at "st"
  refine hand0 ⟨f, rfl, rfl, hf, hd, fun p m hm hs => ?_⟩
  refine sw_fz (i := 1) (a := p) rfl (List.Perm.refl _) (.lst _) ?_
  walk_at "st"
  refine ev_lcF (ei_enumK ?_)
  walk_at "st"
  refine ⟨_, _, rfl, .inl rfl, fun i acc W' => W' = [] ∧ acc = (((List.range i).filter fun i => f.hAt i != f.hAt m).map fun i => D.int (i : Nat)), ⟨rfl, rfl⟩, ?_, ?_⟩
  · rintro i d acc W' hd2 ⟨rfl, rfl⟩
    obtain ⟨d0, hd0, rfl⟩ := pairsD_get hd2
    rw [List.getElem?_map] at hd0
    obtain ⟨i', hi', e⟩ := Option.map_eq_some_iff.mp hd0
    have hlt : i < m + 1 := by
      have := (List.getElem?_eq_some_iff.mp hi').1
      simpa using this
    rw [List.getElem?_range hlt] at hi'
    cases hi'
    subst e
    refine tw_tup rfl (tws_cons (tw_name (by simp) (tws_cons (tw_name (by simp) (tws_nil ?_)))))
    walk_at "st"
    refine bo_ixL (.inl (.inl rfl)) (atI_last m) ?_
    walk_at "st"
    have hr1 : (List.range (i + 1)).filter (fun i => f.hAt i != f.hAt m) = (List.range i).filter (fun i => f.hAt i != f.hAt m) ++ (if (f.hAt i != f.hAt m) = true then [i] else []) := by
      rw [List.range_succ, List.filter_append]
      congr 1
      simp only [List.filter_cons, List.filter_nil]
    refine if_ndec (fun e => ?_) (fun e => ?_)
    · walk_at "st"
      refine ⟨?_, rfl, ?_⟩
      · have := sizeLine_eq
        have := List.length_filter_le (fun i => f.hAt i != f.hAt m) (List.range i)
        simp at this ⊢
        omega
      · rw [hr1, if_pos (by simpa using e), List.map_append, Nat.zero_add]
        rfl
    · refine ⟨rfl, ?_⟩
      rw [hr1, if_neg (by simpa using e), List.append_nil]
  · rintro acc W' ⟨rfl, rfl⟩
    walk_at "st"
    refine ca_tup (.inl (.inl rfl)) ?_
    walk_at "st"
    refine bo_ixL (.inl (.inl rfl)) (atI_last m) ?_
    walk_at "st"
    have := k m hm hs
    rw [pairsD_len, List.length_map, List.length_range]
    rw [hsOf, List.map_map] at this
    exact this
end
section
abbrev s_is_mark : Stmt := top 45
theorem sc_is_mark : FnScope ["thing"] ["thing"] (defScope s_is_mark) := ⟨rfl, rfl, rfl, by decide +kernel, rfl, by decide +kernel, by decide +kernel⟩
theorem c_is_mark {P : Program} {w : World} {K : PySem.W.Frag} {mg : Str → Option Value} {base : Heap} {cl : Nat → Addr} {f : Addr} {fd : FuncData} (hm : mg "is_mark" = some (.ref f)) (B : Blt mg) (Z : ZZ K w mg cl) (Fn : Fun K "is_mark" "is_mark" s_is_mark f fd)
    (c_is_atom : Cal P w K mg base 1 "is_atom" (spN FK ⟨K, cl⟩ S_isatom) []) : Cal P w K mg base 2 "is_mark" (spN FK ⟨K, cl⟩ S_ismark) [] := by
  have fz := Z.z0
  refine calD hm Fn sc_is_mark (by intro ds W post h; first | (obtain ⟨rfl, _⟩ := h; rfl) | (obtain ⟨_, rfl, _⟩ := h; rfl) | (obtain ⟨_, _, rfl, _⟩ := h; rfl) | (obtain ⟨_, _, _, rfl, _⟩ := h; rfl) | (obtain ⟨_, _, _, _, rfl, _⟩ := h; rfl) | (obtain ⟨_, _, _, _, _, rfl, _⟩ := h; rfl) | (obtain ⟨_, _, _, _, _, _, rfl, _⟩ := h; rfl) | (obtain ⟨_, _, _, _, _, _, _, rfl, _⟩ := h; rfl) | (obtain ⟨_, _, _, _, _, _, _, _, rfl, _⟩ := h; rfl) | (obtain ⟨_, _, _, _, _, _, _, _, _, rfl, _⟩ := h; rfl) | (obtain ⟨_, _, _, _, _, _, _, _, _, _, rfl, _⟩ := h; rfl) | (obtain ⟨_, _, _, _, _, _, _, _, _, _, _, rfl, _⟩ := h; rfl)) (fun _ _ _ _ _ _ us hl => match us, hl with | [_], _ => rfl) fun cdv A outer s H E hr => ⟨_, pss_one (ps_ret (pe_and (pe_c c_is_atom hr (by omega) (by rfl) (pa_cons (pv 0) pa_nil)) (pe_one (pe_cmpR op_in_sign (pv 0) (C8.pe_gc (by rfl) Z.g_CAPITALS) rfl)))), ?_⟩
  rintro ds W post ⟨c, rfl, rfl, h1, h2, k⟩
  try dsimp only [cxOf, Cx.nox, Cx.wish]
  walk_at "st"
  refine hand0 ⟨_, rfl, rfl, Nat.le_of_ble_eq_true rfl, ?_⟩
  try simp only [List.nil_append]
  try walk_at "st"
  rw [isLet_sg, decide_eq_true (Or.inl ⟨h1, h2⟩)]
  try refine if_so (by first | rfl | decide +kernel | simp) ?_
  try walk_at "st"
  walk_at "st"
  refine bo_inSg ?_
  rw [caps_in h1 h2]
  exact k
abbrev s_is_rule : Stmt := top 46
theorem sc_is_rule : FnScope ["thing"] ["thing"] (defScope s_is_rule) := ⟨rfl, rfl, rfl, by decide +kernel, rfl, by decide +kernel, by decide +kernel⟩
theorem c_is_rule {P : Program} {w : World} {K : PySem.W.Frag} {mg : Str → Option Value} {base : Heap} {cl : Nat → Addr} {f : Addr} {fd : FuncData} (hm : mg "is_rule" = some (.ref f)) (B : Blt mg) (Z : ZZ K w mg cl) (Fn : Fun K "is_rule" "is_rule" s_is_rule f fd)
    (c_is_mark : Cal P w K mg base 2 "is_mark" (spN FK ⟨K, cl⟩ S_ismark) [])
    (c_is_atom : Cal P w K mg base 1 "is_atom" (spN FK ⟨K, cl⟩ S_isatom) []) : Cal P w K mg base 3 "is_rule" (spN FK ⟨K, cl⟩ S_isrule) [] := by
  have fz := Z.z0
  refine calD hm Fn sc_is_rule (by intro ds W post h; first | (obtain ⟨rfl, _⟩ := h; rfl) | (obtain ⟨_, rfl, _⟩ := h; rfl) | (obtain ⟨_, _, rfl, _⟩ := h; rfl) | (obtain ⟨_, _, _, rfl, _⟩ := h; rfl) | (obtain ⟨_, _, _, _, rfl, _⟩ := h; rfl) | (obtain ⟨_, _, _, _, _, rfl, _⟩ := h; rfl) | (obtain ⟨_, _, _, _, _, _, rfl, _⟩ := h; rfl) | (obtain ⟨_, _, _, _, _, _, _, rfl, _⟩ := h; rfl) | (obtain ⟨_, _, _, _, _, _, _, _, rfl, _⟩ := h; rfl) | (obtain ⟨_, _, _, _, _, _, _, _, _, rfl, _⟩ := h; rfl) | (obtain ⟨_, _, _, _, _, _, _, _, _, _, rfl, _⟩ := h; rfl) | (obtain ⟨_, _, _, _, _, _, _, _, _, _, _, rfl, _⟩ := h; rfl)) (fun _ _ _ _ _ _ us hl => match us, hl with | [_], _ => rfl) fun cdv A outer s H E hr => ⟨_, pss_cons (ps_if (PW.pt (pw_or (pt_not (pt_val (pe_callB call_isi (by rfl) B.isinstance bt_isinstance (pa_cons (pv 0) (pa_cons (pe_bltn (by rfl) B.tuple bt_tuple (relV_ty _)) pa_nil))))) (pw_or (pt_cmpR op_ne (pe_callB call_len (by rfl) B.len bt_len (pa_cons (pv 0) pa_nil)) (C8.pe_gc (by rfl) Z.g_PAIR_PARTS) (nomark _)) (pw_or1 (pt_not (pt_val (pe_c c_is_mark hr (by omega) (by rfl) (pa_cons (pe_ix ix_tup (pv 0) pe_int (fun _ _ => rfl)) pa_nil)))))))) (pss_one (ps_ret pe_bl)) (pss_nil))
 (pss_one (ps_ret (pe_or (pe_callB call_isi (by rfl) B.isinstance bt_isinstance (pa_cons (pe_ix ix_tup (pv 0) pe_int (fun _ _ => rfl)) (pa_cons (pe_glob (by rfl) Z.g_Formula (relV_ref _)) pa_nil))) (pe_one (pe_c c_is_atom hr (by omega) (by rfl) (pa_cons (pe_ix ix_tup (pv 0) pe_int (fun _ _ => rfl)) pa_nil)))))), ?_⟩
  rintro ds W post ⟨c, d, f, rfl, rfl, h1, h2, hd, k⟩
  try dsimp only [cxOf, Cx.nox, Cx.wish]
  walk_at "st"
  refine hand0 ⟨c, rfl, rfl, h1, h2, ?_⟩
  try simp only [List.nil_append]
  try walk_at "st"
  rcases hd with rfl | ⟨q, hq, rfl, rfl⟩
  · walk_at "st"
    try refine isi_ins (.fm f) fz.ins ?_
    walk_at "st"
    try refine if_so (by first | rfl | decide +kernel | simp) ?_
    try walk_at "st"
    exact k
  · walk_at "st"
    refine isi_strF fz ?_
    walk_at "st"
    refine hand0 ⟨_, rfl, rfl, Nat.le_of_ble_eq_true rfl, ?_⟩
    try simp only [List.nil_append]
    try walk_at "st"
    rw [isLet_sg, decide_eq_true hq]
    exact k
abbrev s_holds_by : Stmt := top 52
theorem sc_holds_by : FnScope ["formula", "state", "deeds"] ["formula", "state", "deeds"] (defScope s_holds_by) := ⟨rfl, rfl, rfl, by decide +kernel, rfl, by decide +kernel, by decide +kernel⟩
theorem c_holds_by {P : Program} {w : World} {K : PySem.W.Frag} {mg : Str → Option Value} {base : Heap} {cl : Nat → Addr} {f : Addr} {fd : FuncData} (hm : mg "holds_by" = some (.ref f)) (B : Blt mg) (Z : ZZ K w mg cl) (Fn : Fun K "holds_by" "holds_by" s_holds_by f fd)
    (o_str : Opn P w K mg base 1 (cl 0) "__str__" (spN FK ⟨K, cl⟩ S_str)) : ∀ j, Cal P w K mg base (4 + j) "holds_by" (spN FK ⟨K, cl⟩ (S_holdsby j)) [] := by
  have fz := Z.z0
  intro j
  induction j with
  | zero => exact calD (k := 3) hm Fn sc_holds_by (by intro ds W post h; first | (obtain ⟨rfl, _⟩ := h; rfl) | (obtain ⟨_, rfl, _⟩ := h; rfl) | (obtain ⟨_, _, rfl, _⟩ := h; rfl) | (obtain ⟨_, _, _, rfl, _⟩ := h; rfl) | (obtain ⟨_, _, _, _, rfl, _⟩ := h; rfl) | (obtain ⟨_, _, _, _, _, rfl, _⟩ := h; rfl) | (obtain ⟨_, _, _, _, _, _, rfl, _⟩ := h; rfl) | (obtain ⟨_, _, _, _, _, _, _, rfl, _⟩ := h; rfl) | (obtain ⟨_, _, _, _, _, _, _, _, rfl, _⟩ := h; rfl) | (obtain ⟨_, _, _, _, _, _, _, _, _, rfl, _⟩ := h; rfl) | (obtain ⟨_, _, _, _, _, _, _, _, _, _, rfl, _⟩ := h; rfl) | (obtain ⟨_, _, _, _, _, _, _, _, _, _, _, rfl, _⟩ := h; rfl)) (fun _ _ _ _ _ _ us hl => match us, hl with | [_, _, _], _ => rfl) fun cdv A outer s H E hr => ⟨_, pss_never, fun ds W post ⟨f, ps, qs, σ, at_, _, _, h, _⟩ => absurd h (Nat.not_lt_zero _)⟩
  | succ j c_holds_by =>
    refine calD (k := 4 + j) hm Fn sc_holds_by (by intro ds W post h; first | (obtain ⟨rfl, _⟩ := h; rfl) | (obtain ⟨_, rfl, _⟩ := h; rfl) | (obtain ⟨_, _, rfl, _⟩ := h; rfl) | (obtain ⟨_, _, _, rfl, _⟩ := h; rfl) | (obtain ⟨_, _, _, _, rfl, _⟩ := h; rfl) | (obtain ⟨_, _, _, _, _, rfl, _⟩ := h; rfl) | (obtain ⟨_, _, _, _, _, _, rfl, _⟩ := h; rfl) | (obtain ⟨_, _, _, _, _, _, _, rfl, _⟩ := h; rfl) | (obtain ⟨_, _, _, _, _, _, _, _, rfl, _⟩ := h; rfl) | (obtain ⟨_, _, _, _, _, _, _, _, _, rfl, _⟩ := h; rfl) | (obtain ⟨_, _, _, _, _, _, _, _, _, _, rfl, _⟩ := h; rfl) | (obtain ⟨_, _, _, _, _, _, _, _, _, _, _, rfl, _⟩ := h; rfl)) (fun _ _ _ _ _ _ us hl => match us, hl with | [_, _, _], _ => rfl) fun cdv A outer s H E hr => ⟨_, pss_cons (ps_if (pt_cmpR op_eq (pe_fld (pv 0) rfl) (C8.pe_gc (by rfl) Z.g_ALL_formulas) (nomark _)) (pss_one (ps_ret (pe_dget (by exact hu_of hr) (pv 1) (pe_callTy (call_str_opn o_str hr (by omega)) (by rfl) B.str bt_str (pa_cons (pv 0) pa_nil)) (fun _ _ => rfl)))) (pss_nil))
 (pss_cons (ps_if (pt_cmpR op_eq (pe_fld (pv 0) rfl) (C8.pe_gc (by rfl) Z.g_IF_formulas) (nomark _)) (pss_one (ps_ret (pe_or (pe_not (pe_c c_holds_by hr (by omega) (by rfl) (pa_cons (pe_ix ix_tup (pe_fld (pv 0) rfl) pe_int (fun _ _ => rfl)) (pa_cons (pv 1) (pa_cons (pv 2) pa_nil))))) (pe_one (pe_c c_holds_by hr (by omega) (by rfl) (pa_cons (pe_ix ix_tup (pe_fld (pv 0) rfl) pe_int (fun _ _ => rfl)) (pa_cons (pv 1) (pa_cons (pv 2) pa_nil)))))))) (pss_nil))
 (pss_one (ps_ret (pe_and (pe_cmpR op_eq (pe_fld (pv 0) rfl) (C8.pe_gc (by rfl) Z.g_ATOM) (nomark _)) (pe_one (pe_dget (by exact hu_of hr) (pv 2) (pe_ix ix_tup (pe_fld (pv 0) rfl) pe_int (fun _ _ => rfl)) (fun _ _ => rfl))))))), ?_⟩
    rintro ds W post ⟨f, ps, qs, σ, at_, rfl, rfl, hj, h1, h2, k⟩
    try dsimp only [cxOf, Cx.nox, Cx.wish]
    walk_at "st"
    cases f with
    | «at» c =>
      refine if_not ((show decide (("atom" : Str) = "all") = false by decide +kernel)) ?_
      try walk_at "st"
      exact ⟨qs, kN c, _, .inl rfl, rfl, h2 c List.mem_cons_self, k⟩
    | no =>
      refine if_not ((show decide (("no" : Str) = "all") = false by decide +kernel)) ?_
      try walk_at "st"
      exact k
    | all a =>
      refine if_so (show decide (("all" : Str) = "all") = true by decide +kernel) ?_
      refine sw_ret (ev_dget ?_)
      walk_at "st"
      refine hand0 ⟨_, rfl, rfl, ⟨_, rfl⟩, ?_⟩
      try simp only [List.nil_append]
      try walk_at "st"
      exact ⟨ps, _, _, .inl rfl, rfl, h1 a (Fm.mem_alls_all a), k⟩
    | imp a b =>
      simp only [Fm.ht] at hj
      refine if_not ((show decide (("if" : Str) = "all") = false by decide +kernel)) ?_
      try walk_at "st"
      refine handA ⟨a, ps, qs, σ, at_, rfl, rfl, by omega, fun x hx => h1 x (Fm.alls_l hx), fun c hc => h2 c (mem_unite.mpr (.inl hc)), ?_⟩
      try walk_at "st"
      refine if_bl (fun e => ?_) (fun e => ?_)
      · have : hs σ at_ (.imp a b) = true := by
          simp only [Bool.not_eq_true'] at e
          show (!hs σ at_ a || hs σ at_ b) = true
          rw [e]
          rfl
        rw [this] at k
        exact k
      · walk_at "st"
        refine handA ⟨b, ps, qs, σ, at_, rfl, rfl, by omega, fun x hx => h1 x (Fm.alls_r hx), fun c hc => h2 c (mem_unite.mpr (.inr hc)), ?_⟩
        try walk_at "st"
        have : hs σ at_ (.imp a b) = hs σ at_ b := by
          simp only [Bool.not_eq_false'] at e
          show (!hs σ at_ a || hs σ at_ b) = _
          rw [e]
          rfl
        rw [this] at k
        exact k
end
section
abbrev s_inner_by_text : Stmt := top 53
theorem sc_inner_by_text : FnScope ["formula", "part"] ["formula"] (defScope s_inner_by_text) := ⟨rfl, rfl, rfl, by decide +kernel, rfl, by decide +kernel, by decide +kernel⟩
theorem c_inner_by_text {P : Program} {w : World} {K : PySem.W.Frag} {mg : Str → Option Value} {base : Heap} {cl : Nat → Addr} {f : Addr} {fd : FuncData} (hm : mg "inner_by_text" = some (.ref f)) (B : Blt mg) (Z : ZZ K w mg cl) (Fn : Fun K "inner_by_text" "inner_by_text" s_inner_by_text f fd)
    (o_str : Opn P w K mg base 1 (cl 0) "__str__" (spN FK ⟨K, cl⟩ S_str))
    (p_alls : Prp P w K mg base 1 (cl 0) "alls" (spN FK ⟨K, cl⟩ S_alls)) : Cal P w K mg base 4 "inner_by_text" (spN FK ⟨K, cl⟩ S_innerby) [] := by
  have fz := Z.z0
  refine calD hm Fn sc_inner_by_text (by intro ds W post h; first | (obtain ⟨rfl, _⟩ := h; rfl) | (obtain ⟨_, rfl, _⟩ := h; rfl) | (obtain ⟨_, _, rfl, _⟩ := h; rfl) | (obtain ⟨_, _, _, rfl, _⟩ := h; rfl) | (obtain ⟨_, _, _, _, rfl, _⟩ := h; rfl) | (obtain ⟨_, _, _, _, _, rfl, _⟩ := h; rfl) | (obtain ⟨_, _, _, _, _, _, rfl, _⟩ := h; rfl) | (obtain ⟨_, _, _, _, _, _, _, rfl, _⟩ := h; rfl) | (obtain ⟨_, _, _, _, _, _, _, _, rfl, _⟩ := h; rfl) | (obtain ⟨_, _, _, _, _, _, _, _, _, rfl, _⟩ := h; rfl) | (obtain ⟨_, _, _, _, _, _, _, _, _, _, rfl, _⟩ := h; rfl) | (obtain ⟨_, _, _, _, _, _, _, _, _, _, _, rfl, _⟩ := h; rfl)) (fun _ _ _ _ _ _ us hl => match us, hl with | [_], _ => rfl) fun cdv A outer s H E hr => ⟨_, pss_one (ps_ret (pe_frz (pe_dc (own := [("part", 1)]) (by rfl) sc_inner_by_text.nd (pi_tup (pe_prp p_alls fz.cls hr (by omega) (pv 0))) (blkOk_by (own := [("part", 1)]) (N := ["formula", "part"]) (sc := defScope s_inner_by_text) (by decide +kernel)) (fun _ _ _ _ _ => (pg_name (i := 1) sc_inner_by_text.nd rfl (Or.inl rfl))) (fun _ _ _ _ _ => pts_nil) (fun _ _ _ _ _ => (pe_callTy (call_str_opn o_str hr (by omega)) (by rfl) B.str bt_str (pa_cons (pv 1) pa_nil))) (fun _ _ _ _ _ => (pe_ix (ix_tupK (K := K) rfl) (pe_fldK (K := K) rfl (pv 1) rfl) pe_int (fun _ _ => rfl)))))), ?_⟩
  rintro ds W post ⟨f, rfl, rfl, hf, k⟩
  try dsimp only [cxOf, Cx.nox, Cx.wish]
  have h16 := sizeLine_eq
  have h64 := hf.alls
  refine sw_ret (ev_pinD (ev_dcM (ei_tup ?_)))
  walk_at "st"
  refine hand0 ⟨f, rfl, rfl, ?_⟩
  try simp only [List.nil_append]
  try walk_at "st"
  refine ⟨inPs f, by simp [inPs], by simp only [inPs, List.length_map]; omega, ?_, fun i d e hd he => ?_, fun p hp => ⟨p, _, _, rfl, rfl, k⟩⟩
  · unfold inPs
    rw [List.map_map]
    exact keys_nd hf.ok
  rw [List.getElem?_map] at hd
  obtain ⟨g, hg, rfl⟩ := Option.map_eq_some_iff.mp hd
  unfold inPs at he
  rw [List.getElem?_map, hg] at he
  obtain rfl := Option.some.inj he
  obtain ⟨a, rfl, _⟩ := Fm.alls_form (List.mem_of_getElem? hg)
  refine tw_name (by simp) ?_
  walk_at "st"
  refine ⟨rfl, ?_⟩
  walk_at "st"
  refine hand0 ⟨_, rfl, rfl, ⟨_, rfl⟩, ?_⟩
  try simp only [List.nil_append]
  try walk_at "st"
  refine ⟨rfl, ?_⟩
  walk_at "st"
  exact ⟨rfl, rfl⟩
end
section
abbrev s_state_behind : Stmt := top 55
theorem sc_state_behind : FnScope ["inner_parts", "pair", "state", "here", "one", "other", "name", "known", "deeds", "text", "inner"] ["inner_parts", "pair", "state", "here"] (defScope s_state_behind) := ⟨rfl, rfl, rfl, by decide +kernel, rfl, by decide +kernel, by decide +kernel⟩
theorem c_state_behind {P : Program} {w : World} {K : PySem.W.Frag} {mg : Str → Option Value} {base : Heap} {cl : Nat → Addr} {f : Addr} {fd : FuncData} (hm : mg "state_behind" = some (.ref f)) (B : Blt mg) (Z : ZZ K w mg cl) (Fn : Fun K "state_behind" "state_behind" s_state_behind f fd)
    (c_holds_by : Cal P w K mg base 99 "holds_by" (spN FK ⟨K, cl⟩ (S_holdsby 95)) []) : Cal P w K mg base 100 "state_behind" (spN FK ⟨K, cl⟩ (S_statebeh w)) [] := by
  have fz := Z.z0
  refine calD hm Fn sc_state_behind (by intro ds W post h; first | (obtain ⟨rfl, _⟩ := h; rfl) | (obtain ⟨_, rfl, _⟩ := h; rfl) | (obtain ⟨_, _, rfl, _⟩ := h; rfl) | (obtain ⟨_, _, _, rfl, _⟩ := h; rfl) | (obtain ⟨_, _, _, _, rfl, _⟩ := h; rfl) | (obtain ⟨_, _, _, _, _, rfl, _⟩ := h; rfl) | (obtain ⟨_, _, _, _, _, _, rfl, _⟩ := h; rfl) | (obtain ⟨_, _, _, _, _, _, _, rfl, _⟩ := h; rfl) | (obtain ⟨_, _, _, _, _, _, _, _, rfl, _⟩ := h; rfl) | (obtain ⟨_, _, _, _, _, _, _, _, _, rfl, _⟩ := h; rfl) | (obtain ⟨_, _, _, _, _, _, _, _, _, _, rfl, _⟩ := h; rfl) | (obtain ⟨_, _, _, _, _, _, _, _, _, _, _, rfl, _⟩ := h; rfl)) (fun _ _ _ _ _ _ us hl => match us, hl with | [_, _, _, _], _ => rfl) fun cdv A outer s H E hr => ⟨_, pss_cons (ps_asg (pv 1) (pg_tup (n := 2) rfl (pgs_cons (pg_name (i := 4) sc_state_behind.nd rfl (Or.inl rfl)) (pgs_cons (pg_name (i := 5) sc_state_behind.nd rfl (Or.inr rfl)) pgs_nil))))
 (pss_cons (ps_setDc (i := 7) (own := [("name", 6)]) (by rfl) sc_state_behind.nd rfl rfl (sw_trueD rfl rfl rfl (by decide +kernel)) (pi_keys (pv 0)) (blkOk_by (own := [("name", 6)]) (N := ["inner_parts", "pair", "state", "here", "one", "other", "name", "known", "deeds", "text", "inner"]) (sc := defScope s_state_behind) (by decide +kernel)) (fun _ _ _ _ _ => (pg_name (i := 6) sc_state_behind.nd rfl (Or.inl rfl))) (fun _ _ _ _ _ => pts_nil) (fun _ _ _ _ _ => (pv 6)) (fun _ _ _ _ _ => (pe_getKK (K := K) (w := w) rfl rfl (by exact hr.units) (pv 3) (pe_tup (pa_cons (pv 5) (pa_cons (pv 6) pa_nil))) (fun _ _ => rfl))))
 (pss_cons (ps_set (i := 8) sc_state_behind.nd rfl (Or.inr rfl) (pe_dispS2 (pv 7) (C8.pe_gc (by rfl) Z.g_MINE) (pe_getK (by exact hr.units) (pv 3) (pv 1) (fun _ _ => rfl)) (C8.pe_gc (by rfl) Z.g_OTHERS) (pe_getK (by exact hr.units) (pv 3) (pe_tup (pa_cons (pv 5) (pa_cons (pv 4) pa_nil))) (fun _ _ => rfl))))
 (pss_one (ps_ret (pe_dc (own := [("text", 9), ("inner", 10)]) (by rfl) sc_state_behind.nd (pi_items (pe_dget (by exact hu_of hr) (pv 0) (pv 4) (fun _ _ => rfl))) (blkOk_by (own := [("text", 9), ("inner", 10)]) (N := ["inner_parts", "pair", "state", "here", "one", "other", "name", "known", "deeds", "text", "inner"]) (sc := defScope s_state_behind) (by decide +kernel)) (fun _ _ _ _ _ => (pg_tupK (K := K) rfl (n := 2) rfl (pgs_cons (pg_name (i := 9) sc_state_behind.nd rfl (Or.inl rfl)) (pgs_cons (pg_name (i := 10) sc_state_behind.nd rfl (Or.inl rfl)) pgs_nil)))) (fun _ _ _ _ _ => pts_nil) (fun _ _ _ _ _ => (pv 9)) (fun _ _ _ _ _ => (pe_and (pe_dget (by exact hu_of hr) (pv 2) (pv 9) (fun _ _ => rfl)) (pe_one (pe_c c_holds_by hr (by omega) (by rfl) (pa_cons (pv 10) (pa_cons (pv 2) (pa_cons (pv 8) pa_nil)))))))))))), ?_⟩
  rintro ds W post ⟨b, p, k0, rfl, rfl, hb, hp, k⟩
  try dsimp only [cxOf, Cx.nox, Cx.wish]
  have h16 := sizeLine_eq
  have h5 := hb.few
  obtain ⟨hf, hh⟩ := hb.frm hp.1
  have h64 := hf.alls
  walk_at "st"
  refine ta_tg (tg_tup rfl (tgs_cons (tg_name (tgs_cons (tg_name (tgs_nil ?_))))))
  walk_at "st"
  refine ev_fz (ev_dcM (ei_keysz ?_))
  walk_at "st"
  refine ⟨knPs b p k0, by simp [knPs, inaPs], by simp only [knPs, List.length_map]; omega, knPs_nd hb p k0, fun i d e hd he => ?_, fun q hq => ⟨q, _, _, _, rfl, List.Perm.refl _, .dct _ _, ?_⟩⟩
  · unfold inaPs at hd
    unfold knPs at he
    rw [List.map_map, List.getElem?_map] at hd
    obtain ⟨g, hg, rfl⟩ := Option.map_eq_some_iff.mp hd
    rw [List.getElem?_map, hg] at he
    obtain rfl := Option.some.inj he
    have hq : prB b (p.2, g.1) := ⟨hp.2, List.mem_map.mpr ⟨g, List.mem_of_getElem? hg, rfl⟩⟩
    refine tw_name (by simp) ?_
    walk_at "st"
    refine ⟨rfl, ?_⟩
    walk_at "st"
    refine ⟨rfl, ?_⟩
    refine ev_getK ?_
    walk_at "st"
    exact ⟨_, _, _, .inr (kdd_pairs w _ _), ky_kP (p.2, g.1), getQ_deed hq, rfl, rfl⟩
  walk_at "st"
  refine ev_fz (ev_dispS2 ?_)
  walk_at "st"
  refine ⟨by simp only [knPs, List.length_map]; omega, ?_⟩
  walk_at "st"
  refine ev_getK ?_
  walk_at "st"
  refine ⟨_, _, _, .inr (kdd_pairs w _ _), ky_kP p, getQ_deed hp, ?_⟩
  walk_at "st"
  refine ev_getK ?_
  walk_at "st"
  refine ⟨_, _, _, .inr (kdd_pairs w _ _), ky_kP (p.2, p.1), getQ_deed ⟨hp.2, hp.1⟩, ?_⟩
  refine ⟨kN 109, kN 111, rfl, rfl, by decide +kernel, fun q2 hq2 => ⟨q2, _, _, _, rfl, List.Perm.refl _, .dct _ _, ?_⟩⟩
  walk_at "st"
  refine ev_fz (ev_dcM (ei_itemsz (ev_dgetz ?_)))
  walk_at "st"
  refine ⟨inaPs b, kN p.1, innD (frmB b p.1), .inr rfl, rfl, getG_fr (f := fun q : Nat × Fm => innD q.2) hb.nd (frmB_in hb hp.1), ?_⟩
  refine ⟨inPs (frmB b p.1), rfl, stPs b p (k0 + 1), by simp [stPs, inPs], by simp only [stPs, List.length_map]; omega, ?_, fun i d e hd he => ?_, fun q hq => ⟨q, _, _, _, rfl, List.Perm.refl _, .dct _ _, ?_⟩⟩
  · unfold stPs
    rw [List.map_map]
    exact keys_nd hf.ok
  · unfold inPs at hd
    unfold stPs at he
    rw [List.map_map, List.getElem?_map] at hd
    obtain ⟨g, hg, rfl⟩ := Option.map_eq_some_iff.mp hd
    rw [List.getElem?_map, hg] at he
    obtain rfl := Option.some.inj he
    have hm := List.mem_of_getElem? hg
    obtain ⟨a, rfl, _⟩ := Fm.alls_form hm
    have hl := hb.bok.l p.1
    have hla := ltp_alls hl hm
    refine tw_tup rfl (tws_cons (tw_name (by simp) (tws_cons (tw_name (by simp) (tws_nil ?_)))))
    walk_at "st"
    refine ⟨rfl, ?_⟩
    walk_at "st"
    refine ⟨rfl, ?_⟩
    refine ev_andV (ev_dget ?_)
    walk_at "st"
    rw [dB_st]
    refine ⟨stPs b p k0, _, _, .inl rfl, rfl, getG_st hf hm, _, rfl, ?_⟩
    have es := stB_succ b p k0 a
    split
    · rename_i e
      walk_at "st"
      refine handA ⟨a, stPs b p k0, dePs b p k0, stB b p k0, fun c => envB (deed b) p c k0, rfl, rfl, ?_, fun x hx => getG_st hf (Fm.alls_trans hm (Fm.alls_all hx)), fun c hc => getG_deeds hb (ltp_out hla hc), ?_⟩
      try walk_at "st"
      · have := ht_alls hm
        omega
      · rw [e, Bool.true_and] at es
        rw [← es]
        exact ⟨rfl, rfl⟩
    · rename_i e
      rw [Bool.not_eq_true] at e
      rw [e, Bool.false_and] at es
      exact ⟨congrArg D.bl es.symm, rfl⟩
  · rw [dB_st] at k
    exact k
end
section
abbrev s_levels_of : Stmt := top 56
theorem sc_levels_of : FnScope ["forms", "name", "formula", "inner_parts", "one", "other", "text", "state", "found", "is_more", "pair", "here", "later"] ["forms"] (defScope s_levels_of) := ⟨rfl, rfl, rfl, by decide +kernel, rfl, by decide +kernel, by decide +kernel⟩
theorem c_levels_of {P : Program} {w : World} {K : PySem.W.Frag} {mg : Str → Option Value} {base : Heap} {cl : Nat → Addr} {f : Addr} {fd : FuncData} (hm : mg "levels_of" = some (.ref f)) (B : Blt mg) (Z : ZZ K w mg cl) (Fn : Fun K "levels_of" "levels_of" s_levels_of f fd)
    (c_inner_by_text : Cal P w K mg base 4 "inner_by_text" (spN FK ⟨K, cl⟩ S_innerby) [])
    (c_holds_by : Cal P w K mg base 99 "holds_by" (spN FK ⟨K, cl⟩ (S_holdsby 95)) [])
    (c_state_behind : Cal P w K mg base 100 "state_behind" (spN FK ⟨K, cl⟩ (S_statebeh w)) []) : Cal P w K mg base 101 "levels_of" (spN FK ⟨K, cl⟩ (S_levels w)) [] := by
  have fz := Z.z0
  refine calD hm Fn sc_levels_of (by intro ds W post h; first | (obtain ⟨rfl, _⟩ := h; rfl) | (obtain ⟨_, rfl, _⟩ := h; rfl) | (obtain ⟨_, _, rfl, _⟩ := h; rfl) | (obtain ⟨_, _, _, rfl, _⟩ := h; rfl) | (obtain ⟨_, _, _, _, rfl, _⟩ := h; rfl) | (obtain ⟨_, _, _, _, _, rfl, _⟩ := h; rfl) | (obtain ⟨_, _, _, _, _, _, rfl, _⟩ := h; rfl) | (obtain ⟨_, _, _, _, _, _, _, rfl, _⟩ := h; rfl) | (obtain ⟨_, _, _, _, _, _, _, _, rfl, _⟩ := h; rfl) | (obtain ⟨_, _, _, _, _, _, _, _, _, rfl, _⟩ := h; rfl) | (obtain ⟨_, _, _, _, _, _, _, _, _, _, rfl, _⟩ := h; rfl) | (obtain ⟨_, _, _, _, _, _, _, _, _, _, _, rfl, _⟩ := h; rfl)) (fun _ _ _ _ _ _ us hl => match us, hl with | [_], _ => rfl) fun cdv A outer s H E hr => ⟨_, pss_cons (ps_set (i := 3) sc_levels_of.nd rfl (Or.inr rfl) (pe_frz (pe_dc (own := [("name", 1), ("formula", 2)]) (by rfl) sc_levels_of.nd (pi_items (pv 0)) (blkOk_by (own := [("name", 1), ("formula", 2)]) (N := ["forms", "name", "formula", "inner_parts", "one", "other", "text", "state", "found", "is_more", "pair", "here", "later"]) (sc := defScope s_levels_of) (by decide +kernel)) (fun _ _ _ _ _ => (pg_tupK (K := K) rfl (n := 2) rfl (pgs_cons (pg_name (i := 1) sc_levels_of.nd rfl (Or.inl rfl)) (pgs_cons (pg_name (i := 2) sc_levels_of.nd rfl (Or.inl rfl)) pgs_nil)))) (fun _ _ _ _ _ => pts_nil) (fun _ _ _ _ _ => (pv 1)) (fun _ _ _ _ _ => (pe_c c_inner_by_text hr (by omega) (by rfl) (pa_cons (pv 2) pa_nil))))))
 (pss_cons (ps_set (i := 7) sc_levels_of.nd rfl (Or.inr rfl) (pe_frz (pe_dcK2 (own := [("one", 4), ("other", 5)]) (us := [5]) (by exact hr.units) (by rfl) sc_levels_of.nd (pi_keys (pv 0)) (blkOk_by (own := [("one", 4), ("other", 5)]) (N := ["forms", "name", "formula", "inner_parts", "one", "other", "text", "state", "found", "is_more", "pair", "here", "later"]) (sc := defScope s_levels_of) (by decide +kernel)) (by decide) (fun _ _ _ _ _ => (pg_name (i := 4) sc_levels_of.nd rfl (Or.inl rfl))) (fun _ _ _ _ _ => pts_nil) (fun _ _ _ _ _ => (pi_keys (pv 0))) (fun _ _ _ _ _ => (pg_name (i := 5) sc_levels_of.nd rfl (Or.inl rfl))) (fun _ _ _ _ _ => pts_nil) (fun _ _ _ _ _ => (pe_tup (pa_cons (pv 4) (pa_cons (pv 5) pa_nil)))) (fun _ _ _ _ _ => (pe_dc (own := [("text", 6)]) (by rfl) sc_levels_of.nd (pi_keys (pe_dget (by exact hu_of hr) (pv 3) (pv 4) (fun _ _ => rfl))) (blkOk_by (own := [("text", 6)]) (N := ["forms", "name", "formula", "inner_parts", "one", "other", "text", "state", "found", "is_more", "pair", "here", "later"]) (sc := _) (by kernel_rfl)) (fun _ _ _ _ _ => (pg_name (i := 6) sc_levels_of.nd rfl (Or.inl rfl))) (fun _ _ _ _ _ => pts_nil) (fun _ _ _ _ _ => (pv 6)) (fun _ _ _ _ _ => pe_bl))))))
 (pss_cons (ps_set (i := 8) sc_levels_of.nd rfl (Or.inl rfl) (pe_lst pa_nil))
 (pss_cons (ps_set (i := 9) sc_levels_of.nd rfl (Or.inl rfl) pe_bl)
 (pss_cons (ps_while PassesOwn.never (pt_val (pv 9)) (pss_cons (ps_set (i := 11) sc_levels_of.nd rfl (Or.inr rfl) (pe_frz (pe_dcK (own := [("pair", 10)]) (by exact hr.units) (by rfl) sc_levels_of.nd (pi_keysN (pv 7)) (blkOk_by (own := [("pair", 10)]) (N := ["forms", "name", "formula", "inner_parts", "one", "other", "text", "state", "found", "is_more", "pair", "here", "later"]) (sc := defScope s_levels_of) (by decide +kernel)) (fun _ _ _ _ _ => (pg_name (i := 10) sc_levels_of.nd rfl (Or.inl rfl))) (fun _ _ _ _ _ => pts_nil) (fun _ _ _ _ _ => (pv 10)) (fun _ _ _ _ _ => (pe_c c_holds_by hr (by omega) (by rfl) (pa_cons (pe_dget (by exact hu_of hr) (pv 0) (pe_ix (ix_tupK (K := K) rfl) (pv 10) pe_int (fun _ _ => rfl)) (fun _ _ => rfl)) (pa_cons (pe_getKK (K := K) (w := w) rfl rfl (by exact hr.units) (pv 7) (pv 10) (fun _ _ => rfl)) (pa_cons pe_dnewK pa_nil))))))))
 (pss_cons (ps_expr (pe_bm PySem.F.plainAttrs_list PySem.F.slot_list_append PySem.F.type_list_append mt_append (pv 8) (pa_cons (pv 11) pa_nil)))
 (pss_cons (ps_setDcK (i := 12) (own := [("pair", 10)]) (by exact hr.units) (by rfl) sc_levels_of.nd rfl rfl (sw_trueD rfl rfl rfl (by decide +kernel)) (pi_keysN (pv 7)) (blkOk_by (own := [("pair", 10)]) (N := ["forms", "name", "formula", "inner_parts", "one", "other", "text", "state", "found", "is_more", "pair", "here", "later"]) (sc := defScope s_levels_of) (by decide +kernel)) (fun _ _ _ _ _ => (pg_name (i := 10) sc_levels_of.nd rfl (Or.inl rfl))) (fun _ _ _ _ _ => pts_nil) (fun _ _ _ _ _ => (pv 10)) (fun _ _ _ _ _ => (pe_c c_state_behind hr (by omega) (by rfl) (pa_cons (pv 3) (pa_cons (pv 10) (pa_cons (pe_getKK (K := K) (w := w) rfl rfl (by exact hr.units) (pv 7) (pv 10) (fun _ _ => rfl)) (pa_cons (pv 11) pa_nil)))))))
 (pss_one (ps_asg (pe_tup (pa_cons (pe_cmpR (op_neKB (by exact hr.units)) (pv 12) (pv 7) (nomark _)) (pa_cons (pv 12) pa_nil))) (pg_tup (n := 2) rfl (pgs_cons (pg_name (i := 9) sc_levels_of.nd rfl (Or.inl rfl)) (pgs_cons (pg_name (i := 7) sc_levels_of.nd rfl (Or.inr rfl)) pgs_nil)))))))))
 (pss_one (ps_ret (pv 8))))))), ?_⟩
  rintro ds W post ⟨b, rfl, rfl, hb, k⟩
  try dsimp only [cxOf, Cx.nox, Cx.wish]
  have h16 := sizeLine_eq
  have h5 := hb.few
  have h25 := prsB_few hb
  obtain ⟨L, hL, hr2⟩ := rest_ex b
  have kk := k L hL hr2
  walk_at "st"
  refine ev_pinD (ev_dcM (ei_itemsz ?_))
  walk_at "st"
  refine ⟨inaPs b, by simp [frPs, inaPs], by simp only [inaPs, List.length_map]; omega, ?_, fun i d e hd he => ?_, fun p hp => ⟨p, _, _, rfl, rfl, ?_⟩⟩
  · unfold inaPs
    rw [List.map_map]
    exact (List.map_map (l := b) (f := fun p => p.1) (g := fun c => kN c)) ▸ kN_nd hb.nd
  · unfold frPs at hd
    unfold inaPs at he
    rw [List.map_map, List.getElem?_map] at hd
    obtain ⟨g, hg, rfl⟩ := Option.map_eq_some_iff.mp hd
    rw [List.getElem?_map, hg] at he
    obtain rfl := Option.some.inj he
    have hg := hb.form g (List.mem_of_getElem? hg)
    refine tw_tup rfl (tws_cons (tw_name (by simp) (tws_cons (tw_name (by simp) (tws_nil ?_)))))
    walk_at "st"
    refine ⟨rfl, ?_⟩
    walk_at "st"
    refine ⟨rfl, ?_⟩
    walk_at "st"
    refine hand0 ⟨g.2, rfl, rfl, hg.1, ?_⟩
    try simp only [List.nil_append]
    try walk_at "st"
    exact ⟨trivial, trivial⟩
  walk_at "st"
  refine ev_frzK (w := w) (ev_dcK2 (ei_keysz ?_))
  walk_at "st"
  refine ⟨st0 b, by simp [st0, frPs], ?_, ?_, ?_, fun i d es hd hes => ?_, fun p hp => ⟨p, _, _, rfl, rfl, ?_⟩⟩
  · rw [st0_flat, stKs, List.length_map]
    omega
  · rw [st0_flat]
    exact ksP_nd hb _
  · rw [st0_flat]
    exact fun e h => ksP_ky h
  · unfold frPs at hd
    unfold st0 at hes
    rw [List.map_map, List.getElem?_map] at hd
    obtain ⟨g, hg, rfl⟩ := Option.map_eq_some_iff.mp hd
    rw [List.map_map, List.getElem?_map, hg] at hes
    obtain rfl := Option.some.inj hes
    have hgm : g.1 ∈ b.map (·.1) := List.mem_map.mpr ⟨g, List.mem_of_getElem? hg, rfl⟩
    refine tw_name (by simp) ?_
    refine ei_keysz ?_
    walk_at "st"
    refine ⟨rfl, by simp [frPs], fun j x e hx he => ?_⟩
    unfold frPs at hx
    rw [List.map_map, List.getElem?_map] at hx
    obtain ⟨g2, hg2, rfl⟩ := Option.map_eq_some_iff.mp hx
    have he : ((b.map (·.1)).map fun y => (kP (g.1, y), dB (inKs (frmB b g.1)) (stL b (g.1, y) 0)))[j]? = some e := he
    rw [List.map_map, List.getElem?_map, hg2] at he
    obtain rfl := Option.some.inj he
    refine tw_name (by simp) ?_
    walk_at "st"
    refine ⟨rfl, ?_⟩
    refine ev_fz (ev_dcM (ei_keysz (ev_dgetz ?_)))
    walk_at "st"
    refine ⟨inaPs b, kN g.1, _, .inr rfl, rfl, ina_get hb hgm, ?_⟩
    have h64 := (hb.frm hgm).1.alls
    refine ⟨inPs (frmB b g.1), rfl, stPs b (g.1, g2.1) 0, by simp [stPs, inPs], by simp only [stPs, List.length_map]; omega, ?_, fun i d e hd he => ?_, fun q hq => ⟨q, _, _, _, rfl, List.Perm.refl _, .dct _ _, ?_⟩⟩
    · unfold stPs
      rw [List.map_map]
      exact keys_nd (hb.frm hgm).1.ok
    · unfold inPs at hd
      unfold stPs at he
      rw [List.map_map, List.getElem?_map] at hd
      obtain ⟨g3, hg3, rfl⟩ := Option.map_eq_some_iff.mp hd
      rw [List.getElem?_map, hg3] at he
      obtain rfl := Option.some.inj he
      refine tw_name (by simp) ?_
      walk_at "st"
      refine ⟨rfl, ?_⟩
      walk_at "st"
      refine ⟨rfl, ?_⟩
      walk_at "st"
      exact ⟨rfl, rfl⟩
    · exact ⟨(dB_st b (g.1, g2.1) 0).symm, rfl⟩
  rw [st0_flat, ← stD_eq]
  refine sw_seq (sw_set (ev_lst (ea_nil ⟨len_ok (Nat.zero_le _), fun pf hpf => ?_⟩)))
  walk_at "st"
  refine sw_while (fun m G W => ∃ (n : Nat) (more : Bool) (o1 o2 o4 o5 o6 o10 o11 o12 : Option D), G = [some (pin (frPs b)), o1, o2, some (pin (inaPs b)), o4, o5, o6, some (stD w b n), some (.adr pf), some (.bl more), o10, o11, o12] ∧ W = [(pf, .lst ((List.range n).map (hereD w b)))] ∧
      (more = true → n ≤ L ∧ m = L - n + 1) ∧ (more = false → m = 0 ∧ n = L + 1)) (L + 1) ⟨0, true, _, _, _, _, _, _, _, _, rfl, rfl, fun _ => ⟨Nat.zero_le _, by omega⟩, fun h => by cases h⟩ ?_
  rintro m G' W' ⟨n, more, o1, o2, o4, o5, o6, o10, o11, o12, rfl, rfl, hT, hF⟩
  walk_at "st"
  cases more with
  | false =>
    obtain ⟨_, rfl⟩ := hF rfl
    refine if_not rfl ?_
    refine sw_ret (ev_fz (ev_var rfl ⟨pf, _, _, _, rfl, List.Perm.refl _, .lst _, ?_⟩))
    exact kk
  | true =>
    obtain ⟨hn, rfl⟩ := hT rfl
    have hz : n + 1 < sizeLine := by
      have := allB2_few hb
      omega
    refine if_so rfl ?_
    refine sw_seq (sw_set (ev_frzK (w := w) (ev_dcK (ei_keysN ?_))))
    walk_at "st"
    refine ⟨heKs b n, by simp [heKs], by rw [heKs, List.length_map]; omega, ksP_nd hb _, fun e h => ksP_ky h, fun i d e hd he => ?_, fun p hp => ⟨p, _, _, rfl, rfl, ?_⟩⟩
    · unfold heKs at he
      rw [List.getElem?_map] at hd he
      obtain ⟨q, hq, rfl⟩ := Option.map_eq_some_iff.mp hd
      rw [hq] at he
      obtain rfl := Option.some.inj he
      have hqb := prsB_mem.mp (List.mem_of_getElem? hq)
      refine tw_name (by simp) ?_
      walk_at "st"
      refine ⟨rfl, ?_⟩
      walk_at "st"
      refine ⟨rfl, ?_⟩
      refine ev_call (ea_cons (ev_dgetz ?_))
      walk_at "st"
      refine bo_ixT (i := 0) (z := .str (sg q.1)) rfl ?_
      refine ⟨frPs b, kN q.1, _, .inr rfl, rfl, fr_get hb hqb.1, ?_⟩
      walk_at "st"
      refine ev_getK ?_
      walk_at "st"
      refine ⟨_, _, _, .inr (stD_eq w b n), ky_kP q, getQ_st hqb, ?_⟩
      walk_at "st"
      refine ev_fz (ev_dnew fun p2 hp2 => ⟨p2, _, _, _, rfl, List.Perm.refl _, .dct _ _, ?_⟩)
      walk_at "st"
      rw [dB_st]
      refine hand0 ⟨frmB b q.1, stPs b q n, [], stB b q n, fun c => envB (deed b) q c n, rfl, rfl, ?_, fun x hx => getG_st (hb.frm hqb.1).1 hx, fun c hc => ?_, ?_⟩
      try simp only [List.nil_append]
      try walk_at "st"
      · have := (hb.frm hqb.1).2
        omega
      · rw [inn_out (hb.bok.i q.1)] at hc
        cases hc
      · rw [← deed_st hb.bok hqb]
        exact ⟨rfl, rfl⟩
    rw [← hereD_eq]
    refine sw_seq (sw_drop (ev_append ?_))
    walk_at "st"
    refine ⟨pf, _, [], [], rfl, rfl, ?_⟩
    walk_at "st"
    refine ⟨_, [], [], _, rfl, rfl, by rw [List.length_map, List.length_range]; omega, ?_⟩
    refine sw_seq (sw_set (ev_frzK (w := w) (ev_dcK (ei_keysN ?_))))
    walk_at "st"
    refine ⟨stKs b (n + 1), by simp [stKs], by rw [stKs, List.length_map]; omega, ksP_nd hb _, fun e h => ksP_ky h, fun i d e hd he => ?_, fun p hp => ⟨p, _, _, rfl, rfl, ?_⟩⟩
    · unfold stKs at he
      rw [List.getElem?_map] at hd he
      obtain ⟨q, hq, rfl⟩ := Option.map_eq_some_iff.mp hd
      rw [hq] at he
      obtain rfl := Option.some.inj he
      have hqb := prsB_mem.mp (List.mem_of_getElem? hq)
      refine tw_name (by simp) ?_
      walk_at "st"
      refine ⟨rfl, ?_⟩
      walk_at "st"
      refine ⟨rfl, ?_⟩
      walk_at "st"
      refine ev_getK ?_
      walk_at "st"
      refine ⟨_, _, _, .inr (stD_eq w b n), ky_kP q, getQ_st hqb, ?_⟩
      walk_at "st"
      refine hand0 ⟨b, q, n, rfl, rfl, hb, hqb, ?_⟩
      try simp only [List.nil_append]
      try walk_at "st"
      exact ⟨trivial, trivial⟩
    rw [← stD_eq]
    refine sw_asgA (ev_tup (ea_cons (ev_op ?_)))
    walk_at "st"
    rw [rwB_a, rwB_b]
    refine bo_neKB ?_
    rw [← rwB_a, ← rwB_b]
    walk_at "st"
    have er : (List.range (n + 1)).map (hereD w b) = (List.range n).map (hereD w b) ++ [hereD w b n] := by rw [List.range_succ, List.map_append]; rfl
    by_cases hs : still b n
    · have e := (rwB_all b n).mpr hs
      have en : n = L := by
        rcases Nat.lt_or_ge n L with h | h
        · exact absurd hs (hr2.2 n h)
        · omega
      subst en
      exact ⟨0, by omega, n + 1, false, _, _, _, _, _, _, _, _, by rw [e]; rfl, by rw [er]; rfl, (fun h => Bool.noConfusion h), fun _ => ⟨rfl, rfl⟩⟩
    · have e : ((rwB b n).all fun r => decide (r.a = r.b)) = false := by
        rw [← Bool.not_eq_true]
        exact fun h => hs ((rwB_all b n).mp h)
      have en : n < L := by
        rcases Nat.lt_or_ge n L with h | h
        · exact h
        · have : n = L := by omega
          subst this
          exact absurd hr2.1 hs
      exact ⟨L - (n + 1) + 1, by omega, n + 1, true, _, _, _, _, _, _, _, _, by rw [e]; rfl, by rw [er]; rfl, fun _ => ⟨by omega, rfl⟩, fun h => by cases h⟩
end
section
abbrev s_are_ascending : Stmt := top 57
theorem sc_are_ascending : FnScope ["things", "one", "other"] ["things"] (defScope s_are_ascending) := ⟨rfl, rfl, rfl, by decide +kernel, rfl, by decide +kernel, by decide +kernel⟩
theorem c_are_ascending {P : Program} {w : World} {K : PySem.W.Frag} {mg : Str → Option Value} {base : Heap} {cl : Nat → Addr} {f : Addr} {fd : FuncData} (hm : mg "are_ascending" = some (.ref f)) (B : Blt mg) (Z : ZZ K w mg cl) (Fn : Fun K "are_ascending" "are_ascending" s_are_ascending f fd) : Cal P w K mg base 1 "are_ascending" (spN FK ⟨K, cl⟩ S_asc) [] := by
  have fz := Z.z0
  refine calD hm Fn sc_are_ascending (by intro ds W post h; first | (obtain ⟨rfl, _⟩ := h; rfl) | (obtain ⟨_, rfl, _⟩ := h; rfl) | (obtain ⟨_, _, rfl, _⟩ := h; rfl) | (obtain ⟨_, _, _, rfl, _⟩ := h; rfl) | (obtain ⟨_, _, _, _, rfl, _⟩ := h; rfl) | (obtain ⟨_, _, _, _, _, rfl, _⟩ := h; rfl) | (obtain ⟨_, _, _, _, _, _, rfl, _⟩ := h; rfl) | (obtain ⟨_, _, _, _, _, _, _, rfl, _⟩ := h; rfl) | (obtain ⟨_, _, _, _, _, _, _, _, rfl, _⟩ := h; rfl) | (obtain ⟨_, _, _, _, _, _, _, _, _, rfl, _⟩ := h; rfl) | (obtain ⟨_, _, _, _, _, _, _, _, _, _, rfl, _⟩ := h; rfl) | (obtain ⟨_, _, _, _, _, _, _, _, _, _, _, rfl, _⟩ := h; rfl)) (fun _ _ _ _ _ _ us hl => match us, hl with | [_], _ => rfl) fun cdv A outer s H E hr => ⟨_, pss_one (ps_ret (pe_callB (cr_all rfl) (by rfl) B.all bt_all (pa_cons (pe_lc (own := [("one", 1), ("other", 2)]) (by rfl) sc_are_ascending.nd (pi_zipK (by rfl) B.zip (pa_cons (pv 0) (pa_cons (pe_slice sl_list (pv 0) (po_some pe_int) po_none) pa_nil))) (blkOk_by (own := [("one", 1), ("other", 2)]) (N := ["things", "one", "other"]) (sc := defScope s_are_ascending) (by decide +kernel)) (fun _ _ _ _ _ => (pg_tupK (K := K) rfl (n := 2) rfl (pgs_cons (pg_name (i := 1) sc_are_ascending.nd rfl (Or.inl rfl)) (pgs_cons (pg_name (i := 2) sc_are_ascending.nd rfl (Or.inl rfl)) pgs_nil)))) (fun _ _ _ _ _ => pts_nil) (fun _ _ _ _ _ => (pe_cmpR op_lt_str (pv 1) (pv 2) (nomark _)))) pa_nil))), ?_⟩
  rintro ds W post ⟨cs, rfl, rfl, hl, hasc, k⟩
  try dsimp only [cxOf, Cx.nox, Cx.wish]
  have h16 := sizeLine_eq
  walk_at "st"
  refine ev_lcM (ei_zipK ?_)
  walk_at "st"
  rw [cutD_d1]
  refine ⟨_, _, _, _, rfl, .inl rfl, .inl rfl, List.replicate _ (.bl true), fun i d e hd he2 => ?_, List.length_replicate, by rw [pairs2_len]; simp; omega, ?_⟩
  · obtain ⟨x, y, hx, hy, rfl⟩ := pairs2_get hd
    have ee := List.eq_of_mem_replicate (List.mem_of_getElem? he2)
    subst ee
    rw [List.getElem?_map] at hx
    rw [List.getElem?_drop, List.getElem?_map] at hy
    obtain ⟨a, ha, rfl⟩ := Option.map_eq_some_iff.mp hx
    obtain ⟨b, hb, rfl⟩ := Option.map_eq_some_iff.mp hy
    obtain ⟨i1, e1⟩ := List.getElem?_eq_some_iff.mp ha
    obtain ⟨i2, e2⟩ := List.getElem?_eq_some_iff.mp hb
    have lt : a < b := by
      have h := (List.pairwise_iff_getElem.mp hasc) i (1 + i) i1 i2 (by omega)
      rwa [e1, e2] at h
    refine tw_tup rfl (tws_cons (tw_name (by simp) (tws_cons (tw_name (by simp) (tws_nil ?_)))))
    walk_at "st"
    refine ⟨rfl, ?_⟩
    walk_at "st"
    refine bo_ltS ?_
    refine ⟨?_, rfl⟩
    show D.bl (decide ([a] < [b])) = D.bl true
    rw [decide_eq_true (List.cons_lt_cons_iff.mpr (.inl lt))]
  rw [← yes_bl]
  refine ea_nil (ca_all (.inl (.inl rfl)) ?_)
  rw [all_yes]
  exact k
abbrev s_is_player : Stmt := top 58
theorem sc_is_player : FnScope ["names", "formula", "letter"] ["names", "formula"] (defScope s_is_player) := ⟨rfl, rfl, rfl, by decide +kernel, rfl, by decide +kernel, by decide +kernel⟩
theorem c_is_player {P : Program} {w : World} {K : PySem.W.Frag} {mg : Str → Option Value} {base : Heap} {cl : Nat → Addr} {f : Addr} {fd : FuncData} (hm : mg "is_player" = some (.ref f)) (B : Blt mg) (Z : ZZ K w mg cl) (Fn : Fun K "is_player" "is_player" s_is_player f fd) : Cal P w K mg base 1 "is_player" (spN FK ⟨K, cl⟩ S_isplayer) [] := by
  have fz := Z.z0
  refine calD hm Fn sc_is_player (by intro ds W post h; first | (obtain ⟨rfl, _⟩ := h; rfl) | (obtain ⟨_, rfl, _⟩ := h; rfl) | (obtain ⟨_, _, rfl, _⟩ := h; rfl) | (obtain ⟨_, _, _, rfl, _⟩ := h; rfl) | (obtain ⟨_, _, _, _, rfl, _⟩ := h; rfl) | (obtain ⟨_, _, _, _, _, rfl, _⟩ := h; rfl) | (obtain ⟨_, _, _, _, _, _, rfl, _⟩ := h; rfl) | (obtain ⟨_, _, _, _, _, _, _, rfl, _⟩ := h; rfl) | (obtain ⟨_, _, _, _, _, _, _, _, rfl, _⟩ := h; rfl) | (obtain ⟨_, _, _, _, _, _, _, _, _, rfl, _⟩ := h; rfl) | (obtain ⟨_, _, _, _, _, _, _, _, _, _, rfl, _⟩ := h; rfl) | (obtain ⟨_, _, _, _, _, _, _, _, _, _, _, rfl, _⟩ := h; rfl)) (fun _ _ _ _ _ _ us hl => match us, hl with | [_, _], _ => rfl) fun cdv A outer s H E hr => ⟨_, pss_one (ps_ret (pe_and (pe_cmpR op_eq (pe_fld (pv 1) rfl) pe_str (nomark _)) (pe_one (pe_callB (cr_all rfl) (by rfl) B.all bt_all (pa_cons (pe_lc (own := [("letter", 2)]) (by rfl) sc_is_player.nd (pi_str (pe_fld (pv 1) rfl)) (blkOk_by (own := [("letter", 2)]) (N := ["names", "formula", "letter"]) (sc := defScope s_is_player) (by decide +kernel)) (fun _ _ _ _ _ => (pg_name (i := 2) sc_is_player.nd rfl (Or.inl rfl))) (fun _ _ _ _ _ => pts_nil) (fun _ _ _ _ _ => (pe_or (pe_cmpR (op_in_seqK (K := K) rfl) (pv 2) (pe_tup (pa_cons (C8.pe_gc (by rfl) Z.g_MINE) (pa_cons (C8.pe_gc (by rfl) Z.g_OTHERS) pa_nil))) rfl) (pe_one (pe_cmpR (op_in_seqK (K := K) rfl) (pv 2) (pv 0) rfl))))) pa_nil))))), ?_⟩
  rintro ds W post ⟨b, f, rfl, rfl, hf, hi, hp, hl, k⟩
  try dsimp only [cxOf, Cx.nox, Cx.wish]
  have h16 := sizeLine_eq
  have hb : f.outer = "" := str_nil (inn_out hi)
  have hol : (lets f.atoms).length ≤ 58 := Fm.atoms_len hf.ok
  walk_at "st"
  refine if_so (decide_eq_true hb) ?_
  refine ev_cb (ea_cons (ev_lcM (ei_str ?_)))
  walk_at "st"
  refine ⟨(List.replicate (lets f.atoms).length true).map .bl, fun j d e3 hd he3 => ?_, by simp [lets], by rw [List.length_map, List.length_replicate]; omega, ?_⟩
  · rw [List.getElem?_map] at hd he3
    obtain ⟨c, hc, rfl⟩ := Option.map_eq_some_iff.mp hd
    obtain ⟨x, hb3, rfl⟩ := Option.map_eq_some_iff.mp he3
    obtain rfl := List.eq_of_mem_replicate (List.mem_of_getElem? hb3)
    have hcm : isN b c := ltp_atoms hp (List.mem_of_getElem? hc)
    refine tw_name (by simp) ?_
    walk_at "st"
    refine ⟨rfl, ?_⟩
    refine ev_orV ?_
    walk_at "st"
    refine bo_in (neg := false) (xs := ([109, 111].map sg).map V.str) (.inr rfl) rfl (by simp [flatV]) ?_
    rw [inV_str]
    simp only [Bool.false_eq_true, if_false]
    refine ⟨_, rfl, if_dec (fun _ => ⟨trivial, trivial⟩) (fun hn => ?_)⟩
    walk_at "st"
    refine bo_in (neg := false) (xs := ((b.map (·.1)).map sg).map V.str) (.inl (.inl (.inl (by simp only [List.map_map]; rfl)))) rfl (by simp [flatV]) ?_
    rw [inV_str]
    simp only [Bool.false_eq_true, if_false]
    refine ⟨?_, trivial⟩
    rw [decide_eq_true]
    refine List.mem_map.mpr ⟨c, ?_, rfl⟩
    rcases hcm with h | h | h
    · exact absurd (List.mem_map.mpr ⟨109, by simp, by rw [h]; rfl⟩) hn
    · exact absurd (List.mem_map.mpr ⟨111, by simp, by rw [h]; rfl⟩) hn
    · exact h
  refine ea_nil (ca_all (.inl (.inl rfl)) ?_)
  rw [all_yes]
  exact k
end
section
abbrev s_check_rows : Stmt := top 59
theorem sc_check_rows : FnScope ["rows", "item", "name", "value", "names"] ["rows"] (defScope s_check_rows) := ⟨rfl, rfl, rfl, by decide +kernel, rfl, by decide +kernel, by decide +kernel⟩
theorem c_check_rows {P : Program} {w : World} {K : PySem.W.Frag} {mg : Str → Option Value} {base : Heap} {cl : Nat → Addr} {f : Addr} {fd : FuncData} (hm : mg "check_rows" = some (.ref f)) (B : Blt mg) (Z : ZZ K w mg cl) (Fn : Fun K "check_rows" "check_rows" s_check_rows f fd)
    (c_is_rule : Cal P w K mg base 3 "is_rule" (spN FK ⟨K, cl⟩ S_isrule) [])
    (c_as_formula : Cal P w K mg base 5 "as_formula" (spN FK ⟨K, cl⟩ S_opd) [])
    (c_are_ascending : Cal P w K mg base 1 "are_ascending" (spN FK ⟨K, cl⟩ S_asc) [])
    (c_is_player : Cal P w K mg base 1 "is_player" (spN FK ⟨K, cl⟩ S_isplayer) []) : Cal P w K mg base 6 "check_rows" (spN FK ⟨K, cl⟩ S_checkBk) [] := by
  have fz := Z.z0
  refine calD hm Fn sc_check_rows (by intro ds W post h; first | (obtain ⟨rfl, _⟩ := h; rfl) | (obtain ⟨_, rfl, _⟩ := h; rfl) | (obtain ⟨_, _, rfl, _⟩ := h; rfl) | (obtain ⟨_, _, _, rfl, _⟩ := h; rfl) | (obtain ⟨_, _, _, _, rfl, _⟩ := h; rfl) | (obtain ⟨_, _, _, _, _, rfl, _⟩ := h; rfl) | (obtain ⟨_, _, _, _, _, _, rfl, _⟩ := h; rfl) | (obtain ⟨_, _, _, _, _, _, _, rfl, _⟩ := h; rfl) | (obtain ⟨_, _, _, _, _, _, _, _, rfl, _⟩ := h; rfl) | (obtain ⟨_, _, _, _, _, _, _, _, _, rfl, _⟩ := h; rfl) | (obtain ⟨_, _, _, _, _, _, _, _, _, _, rfl, _⟩ := h; rfl) | (obtain ⟨_, _, _, _, _, _, _, _, _, _, _, rfl, _⟩ := h; rfl)) (fun _ _ _ _ _ _ us hl => match us, hl with | [_], _ => rfl) fun cdv A outer s H E hr => ⟨_, pss_cons (ps_if (PW.pt (pw_or (pt_not (pt_val (pe_callB call_isi (by rfl) B.isinstance bt_isinstance (pa_cons (pv 0) (pa_cons (pe_bltn (by rfl) B.tuple bt_tuple (relV_ty _)) pa_nil))))) (pw_or1 (pt_not (pt_chain op_le op_le pe_int (pe_callB call_len (by rfl) B.len bt_len (pa_cons (pv 0) pa_nil)) (C8.pe_gc (by rfl) Z.g_MOST_PLAYERS)))))) (pss_one (ps_never)) (pss_nil))
 (pss_cons (ps_for PassesOwn.never rfl (pi_tup (pv 0)) (pg_name (i := 1) sc_check_rows.nd rfl (Or.inl rfl)) (pss_one (ps_if (pt_not (pt_val (pe_c c_is_rule hr (by omega) (by rfl) (pa_cons (pv 1) pa_nil)))) (pss_one (ps_never)) (pss_nil))))
 (pss_cons (ps_setLc (i := 4) (own := [("name", 2), ("value", 3)]) (by rfl) sc_check_rows.nd rfl rfl (sw_true rfl rfl rfl (by decide +kernel)) (pi_tup (pv 0)) (blkOk_by (own := [("name", 2), ("value", 3)]) (N := ["rows", "item", "name", "value", "names"]) (sc := defScope s_check_rows) (by decide +kernel)) (fun _ _ _ _ _ => (pg_tupK (K := K) rfl (n := 2) rfl (pgs_cons (pg_name (i := 2) sc_check_rows.nd rfl (Or.inl rfl)) (pgs_cons (pg_name (i := 3) sc_check_rows.nd rfl (Or.inl rfl)) pgs_nil)))) (fun _ _ _ _ _ => pts_nil) (fun _ _ _ _ _ => (pv 2)))
 (pss_cons (ps_if (pt_not (pt_val (pe_c c_are_ascending hr (by omega) (by rfl) (pa_cons (pv 4) pa_nil)))) (pss_one (ps_never)) (pss_nil))
 (pss_one (ps_for PassesOwn.never rfl (pi_tup (pv 0)) (pg_tup (n := 2) rfl (pgs_cons (pg_name (i := 2) sc_check_rows.nd rfl (Or.inl rfl)) (pgs_cons (pg_name (i := 3) sc_check_rows.nd rfl (Or.inl rfl)) pgs_nil))) (pss_one (ps_if (pt_not (pt_val (pe_c c_is_player hr (by omega) (by rfl) (pa_cons (pv 4) (pa_cons (pe_c c_as_formula hr (by omega) (by rfl) (pa_cons (pv 3) pa_nil)) pa_nil))))) (pss_one (ps_never)) (pss_nil)))))))), ?_⟩
  rintro ds W post ⟨es, rfl, rfl, he, hr, k⟩
  try dsimp only [cxOf, Cx.nox, Cx.wish]
  have h16 := sizeLine_eq
  have hlen : (rsOf es).length = es.length := by simp [rsOf]
  have hl : es.length ≤ 5 := by have := hr.few; omega
  have hn : 1 ≤ es.length := by
    have h := List.length_pos_iff.mpr hr.some_
    omega
  have cap : ∀ e ∈ es, 65 ≤ e.1 ∧ e.1 ≤ 90 := fun e h => hr.cap (e.1, e.2.2) (List.mem_map.mpr ⟨e, h, rfl⟩)
  have enm : es.map (·.1) = (rsOf es).map (·.1) := by simp [rsOf, List.map_map, Function.comp_def]
  walk_at "st"
  refine if_so (decide_eq_true (by rw [List.length_map]; omega)) ?_
  walk_at "st"
  refine if_not (by rw [decide_eq_true (show _ ≤ _ from by rw [List.length_map]; omega)]; rfl) ?_
  refine sw_next ?_
  refine sw_seq (sw_for (ei_tup ?_))
  walk_at "st"
  refine ⟨fun i G' W' => W' = [] ∧ ∃ o1, G' = [some (argR es), o1, none, none, none], ⟨rfl, _, rfl⟩, ?_, ?_⟩
  · rintro i d G' W' hdd ⟨rfl, o1, rfl⟩
    rw [List.getElem?_map] at hdd
    obtain ⟨e, he1, rfl⟩ := Option.map_eq_some_iff.mp hdd
    have hm := List.mem_of_getElem? he1
    refine tg_name ?_
    walk_at "st"
    refine hand0 ⟨e.1, e.2.1, e.2.2, rfl, rfl, (cap e hm).1, (cap e hm).2, he e hm, ?_⟩
    try simp only [List.nil_append]
    try walk_at "st"
    exact ⟨rfl, _, rfl⟩
  rintro G' W' ⟨rfl, o1, rfl⟩
  walk_at "st"
  refine ev_lcM (ei_tup ?_)
  walk_at "st"
  refine ⟨(es.map (·.1)).map fun c => .str (sg c), fun i d e hd he2 => ?_, by simp, by simp only [List.length_map]; omega, ?_⟩
  · rw [List.getElem?_map] at hd
    obtain ⟨q, hq, rfl⟩ := Option.map_eq_some_iff.mp hd
    rw [List.map_map, List.getElem?_map, hq] at he2
    obtain rfl := Option.some.inj he2
    refine tw_tup rfl (tws_cons (tw_name (by simp) (tws_cons (tw_name (by simp) (tws_nil ?_)))))
    walk_at "st"
    refine ⟨rfl, ?_⟩
    walk_at "st"
    exact ⟨rfl, rfl⟩
  walk_at "st"
  refine hand0 ⟨es.map (·.1), rfl, rfl, by rw [List.length_map]; omega, by rw [enm]; exact hr.asc, ?_⟩
  try simp only [List.nil_append]
  try walk_at "st"
  have enl : (es.map (·.1)).map (fun c => D.str (sg c)) = (rsOf es).map fun p => D.str (sg p.1) := by simp [rsOf, List.map_map, Function.comp_def]
  refine sw_for (ei_tup ?_)
  walk_at "st"
  refine ⟨fun i G' W' => W' = [] ∧ ∃ o2 o3, G' = [some (argR es), o1, o2, o3, some (D.lst ((rsOf es).map fun p => D.str (sg p.1)))], ⟨rfl, _, _, by rw [← enl]; rfl⟩, ?_, ?_⟩
  · rintro i d G' W' hdd ⟨rfl, o2, o3, rfl⟩
    rw [List.getElem?_map] at hdd
    obtain ⟨e, he1, rfl⟩ := Option.map_eq_some_iff.mp hdd
    have hm := List.mem_of_getElem? he1
    have hm2 : (e.1, e.2.2) ∈ rsOf es := List.mem_map.mpr ⟨e, hm, rfl⟩
    refine tg_tup rfl (tgs_cons (tg_name (tgs_cons (tg_name (tgs_nil ?_)))))
    walk_at "st"
    refine hand0 ⟨e.2.1, e.2.2, rfl, rfl, he e hm, ?_⟩
    try simp only [List.nil_append]
    try walk_at "st"
    refine hand0 ⟨rsOf es, e.2.2, rfl, rfl, (hr.form _ hm2).1, hr.bok.inn _ hm2, hr.bok.ltp _ hm2, by omega, ?_⟩
    try simp only [List.nil_append]
    try walk_at "st"
    exact ⟨rfl, _, _, rfl⟩
  rintro G' W' ⟨rfl, o2, o3, rfl⟩
  walk_at "st"
  exact k
end
section
abbrev s_Book___init__ : Stmt := inClass (top 60) 0
theorem sc_Book___init__ : FnScope ["self", "rows", "name", "value"] ["self", "rows"] (defScope s_Book___init__) := ⟨rfl, rfl, rfl, by decide +kernel, rfl, by decide +kernel, by decide +kernel⟩
theorem m_Book {P : Program} {w : World} {K : PySem.W.Frag} {mg : Str → Option Value} {base : Heap} {cl : Nat → Addr} {f : Addr} {fd : FuncData} (mk : Mk K (cl 5) f) (B : Blt mg) (Z : ZZ K w mg cl) (Fn : Fun K "__init__" "Book.__init__" s_Book___init__ f fd)
    (c_check_rows : Cal P w K mg base 6 "check_rows" (spN FK ⟨K, cl⟩ S_checkBk) [])
    (c_levels_of : Cal P w K mg base 101 "levels_of" (spN FK ⟨K, cl⟩ (S_levels w)) [])
    (c_as_formula : Cal P w K mg base 5 "as_formula" (spN FK ⟨K, cl⟩ S_opd) []) : Mak P w K mg base 102 "Book" (cl 5) (spN FK ⟨K, cl⟩ (S_initBk w)) [] := by
  have fz := Z.z0
  refine makD mk Z.g_Book Fn sc_Book___init__ (by intro ds W post h; first | (obtain ⟨rfl, _⟩ := h; rfl) | (obtain ⟨_, rfl, _⟩ := h; rfl) | (obtain ⟨_, _, rfl, _⟩ := h; rfl) | (obtain ⟨_, _, _, rfl, _⟩ := h; rfl) | (obtain ⟨_, _, _, _, rfl, _⟩ := h; rfl) | (obtain ⟨_, _, _, _, _, rfl, _⟩ := h; rfl) | (obtain ⟨_, _, _, _, _, _, rfl, _⟩ := h; rfl) | (obtain ⟨_, _, _, _, _, _, _, rfl, _⟩ := h; rfl) | (obtain ⟨_, _, _, _, _, _, _, _, rfl, _⟩ := h; rfl) | (obtain ⟨_, _, _, _, _, _, _, _, _, rfl, _⟩ := h; rfl) | (obtain ⟨_, _, _, _, _, _, _, _, _, _, rfl, _⟩ := h; rfl) | (obtain ⟨_, _, _, _, _, _, _, _, _, _, _, rfl, _⟩ := h; rfl)) (fun _ _ _ _ _ _ us hl => match us, hl with | [_, _], _ => rfl) fun cdv A outer s H E hr => ⟨_, pss_cons (ps_expr (pe_c c_check_rows hr (by omega) (by rfl) (pa_cons (pv 1) pa_nil)))
 (pss_cons (ps_fld (pv 0) (pe_frz (pe_dc (own := [("name", 2), ("value", 3)]) (by rfl) sc_Book___init__.nd (pi_tup (pv 1)) (blkOk_by (own := [("name", 2), ("value", 3)]) (N := ["self", "rows", "name", "value"]) (sc := defScope s_Book___init__) (by decide +kernel)) (fun _ _ _ _ _ => (pg_tupK (K := K) rfl (n := 2) rfl (pgs_cons (pg_name (i := 2) sc_Book___init__.nd rfl (Or.inl rfl)) (pgs_cons (pg_name (i := 3) sc_Book___init__.nd rfl (Or.inl rfl)) pgs_nil)))) (fun _ _ _ _ _ => pts_nil) (fun _ _ _ _ _ => (pv 2)) (fun _ _ _ _ _ => (pe_c c_as_formula hr (by omega) (by rfl) (pa_cons (pv 3) pa_nil))))) rfl)
 (pss_one (ps_fld (pv 0) (pe_c c_levels_of hr (by omega) (by rfl) (pa_cons (pe_fld (pv 0) rfl) pa_nil)) rfl))), ?_⟩
  rintro ds W post ⟨x, es, rfl, rfl, he, hr, k⟩
  try dsimp only [cxOf, Cx.nox, Cx.wish]
  have h16 := sizeLine_eq
  have hlen : (rsOf es).length = es.length := by simp [rsOf]
  have hl : es.length ≤ 5 := by have := hr.few; omega
  walk_at "st"
  refine hand0 ⟨es, rfl, rfl, he, hr, ?_⟩
  try simp only [List.nil_append]
  try walk_at "st"
  refine ev_pinD (ev_dcM (ei_tup ?_))
  walk_at "st"
  refine ⟨frPs (rsOf es), by simp [frPs, rsOf], by simp only [frPs, List.length_map]; omega, ?_, fun i d e hd he2 => ?_, fun q hq => ⟨q, _, _, rfl, rfl, ?_⟩⟩
  · unfold frPs
    rw [List.map_map]
    exact (List.map_map (l := rsOf es) (f := fun p => p.1) (g := fun c => kN c)) ▸ kN_nd hr.nd
  · rw [List.getElem?_map] at hd
    obtain ⟨q, hq, rfl⟩ := Option.map_eq_some_iff.mp hd
    unfold frPs rsOf at he2
    rw [List.map_map, List.getElem?_map, hq] at he2
    obtain rfl := Option.some.inj he2
    refine tw_tup rfl (tws_cons (tw_name (by simp) (tws_cons (tw_name (by simp) (tws_nil ?_)))))
    walk_at "st"
    refine ⟨rfl, ?_⟩
    walk_at "st"
    refine ⟨rfl, ?_⟩
    walk_at "st"
    refine hand0 ⟨q.2.1, q.2.2, rfl, rfl, he q (List.mem_of_getElem? hq), ?_⟩
    try simp only [List.nil_append]
    try walk_at "st"
    exact ⟨rfl, trivial⟩
  walk_at "st"
  refine rcv_newC (nm := bkNames) Z.z5 (by decide +kernel) (by decide +kernel) (by decide) ?_
  refine sw_fld (ev_call (ea_cons (ev_fld (ev_var rfl ?_))))
  refine ⟨5, ["forms_by_name"], _, _, .own _ _ _ _ List.mem_cons_self, Z.z5.cls, (Z.z5 : CZ K (cl 5) bkNames).nos ("forms_by_name" : Str) (by decide +kernel), rfl, ?_⟩
  refine ea_nil ?_
  refine hand0 ⟨rsOf es, rfl, rfl, hr, fun L hL hr2 => ?_⟩
  try simp only [List.nil_append]
  try walk_at "st"
  refine rcv_newC (nm := bkNames) Z.z5 (by decide +kernel) (by decide +kernel) (by decide) ?_
  exact k L hL hr2
end
section
abbrev s_Book_check_known : Stmt := inClass (top 60) 7
theorem sc_Book_check_known : FnScope ["self", "names", "name"] ["self", "names"] (defScope s_Book_check_known) := ⟨rfl, rfl, rfl, by decide +kernel, rfl, by decide +kernel, by decide +kernel⟩
theorem mm_check_known5 {P : Program} {w : World} {K : PySem.W.Frag} {mg : Str → Option Value} {base : Heap} {cl : Nat → Addr} {f : Addr} {fd : FuncData} (me : Meth K (cl 5) "check_known" f) (B : Blt mg) (Z : ZZ K w mg cl) (Fn : Fun K "check_known" "Book.check_known" s_Book_check_known f fd)
    (c_is_mark : Cal P w K mg base 2 "is_mark" (spN FK ⟨K, cl⟩ S_ismark) []) : MetR P w K mg base 3 (cl 5) "check_known" (spN FK ⟨K, cl⟩ (starS 1 (S_knownBk w))) := by
  have fz := Z.z0
  refine ⟨f, Z.z5.cls, me, okS (ps := ["self"]) (pv := "names") Fn sc_Book_check_known (fun _ _ _ _ _ _ us rest hl => match us, hl, rest with | [_], _, [] => rfl | [_], _, [_] => rfl | [_], _, _ :: _ :: _ => rfl) fun cdv A outer s H E hr => ⟨_, PSs.nox (pss_one (ps_for PassesOwn.never rfl (pi_tup (pv 1)) (pg_name (i := 2) sc_Book_check_known.nd rfl (Or.inl rfl)) (pss_one (ps_if (PW.pt (pw_or (pt_not (pt_val (pe_c c_is_mark hr (by omega) (by rfl) (pa_cons (pv 2) pa_nil)))) (pw_or1 (pt_cmp (pc_dnotin (by exact hu_of hr) (pv 2) (pe_fld (pv 0) rfl)))))) (pss_one (ps_never)) (pss_nil))))), ?_⟩⟩
  rintro ds W post ⟨b, L, cs, rfl, rfl, hb, hc, k⟩
  try dsimp only [cxOf, Cx.nox, Cx.wish]
  have h16 := sizeLine_eq
  refine sw_for (ei_tup ?_)
  walk_at "st"
  refine ⟨fun i G' W' => W' = [] ∧ ∃ o1, G' = [some (bkD w b L), some (.tup (cs.map fun c => .str (sg c))), o1], ⟨rfl, _, rfl⟩, ?_, ?_⟩
  · rintro i d G' W' hdd ⟨rfl, o1, rfl⟩
    rw [List.getElem?_map] at hdd
    obtain ⟨c, hcc, rfl⟩ := Option.map_eq_some_iff.mp hdd
    have hm := hc c (List.mem_of_getElem? hcc)
    have hcap := hb.cap _ (frmB_in hb hm)
    refine tg_name ?_
    walk_at "st"
    refine hand0 ⟨c, rfl, rfl, hcap.1, hcap.2, ?_⟩
    try simp only [List.nil_append]
    try walk_at "st"
    refine ev_dnotinz (ev_var rfl (ev_fld (ev_var rfl ?_)))
    refine ⟨5, bkNames, _, _, .obj _ _ _, Z.z5.cls, Z.z5.nos _ (by decide +kernel), rfl, ?_⟩
    refine ⟨frPs b, kN c, .inr rfl, rfl, ?_⟩
    rw [fr_get hb hm]
    refine ⟨_, rfl, if_not rfl ?_⟩
    refine sw_next ?_
    exact ⟨rfl, _, rfl⟩
  rintro G' W' ⟨rfl, o1, rfl⟩
  walk_at "st"
  exact k
abbrev s_Book_deeds_of : Stmt := inClass (top 60) 8
theorem sc_Book_deeds_of : FnScope ["self", "one", "other", "here"] ["self", "one", "other"] (defScope s_Book_deeds_of) := ⟨rfl, rfl, rfl, by decide +kernel, rfl, by decide +kernel, by decide +kernel⟩
theorem mm_deeds_of5 {P : Program} {w : World} {K : PySem.W.Frag} {mg : Str → Option Value} {base : Heap} {cl : Nat → Addr} {f : Addr} {fd : FuncData} (me : Meth K (cl 5) "deeds_of" f) (B : Blt mg) (Z : ZZ K w mg cl) (Fn : Fun K "deeds_of" "Book.deeds_of" s_Book_deeds_of f fd)
    (mm_check_known5 : MetR P w K mg base 3 (cl 5) "check_known" (spN FK ⟨K, cl⟩ (starS 1 (S_knownBk w)))) : Met P w K mg base 6 (cl 5) "deeds_of" (spN FK ⟨K, cl⟩ (S_deedsBk w)) [] := by
  have fz := Z.z0
  refine metD Z.z5.cls me Fn sc_Book_deeds_of (by intro ds W post h; first | (obtain ⟨rfl, _⟩ := h; rfl) | (obtain ⟨_, rfl, _⟩ := h; rfl) | (obtain ⟨_, _, rfl, _⟩ := h; rfl) | (obtain ⟨_, _, _, rfl, _⟩ := h; rfl) | (obtain ⟨_, _, _, _, rfl, _⟩ := h; rfl) | (obtain ⟨_, _, _, _, _, rfl, _⟩ := h; rfl) | (obtain ⟨_, _, _, _, _, _, rfl, _⟩ := h; rfl) | (obtain ⟨_, _, _, _, _, _, _, rfl, _⟩ := h; rfl) | (obtain ⟨_, _, _, _, _, _, _, _, rfl, _⟩ := h; rfl) | (obtain ⟨_, _, _, _, _, _, _, _, _, rfl, _⟩ := h; rfl) | (obtain ⟨_, _, _, _, _, _, _, _, _, _, rfl, _⟩ := h; rfl) | (obtain ⟨_, _, _, _, _, _, _, _, _, _, _, rfl, _⟩ := h; rfl)) (fun _ _ _ _ _ _ us hl => match us, hl with | [_, _, _], _ => rfl) fun cdv A outer s H E hr => ⟨_, pss_cons (ps_expr (pe_mtR mm_check_known5 hr (by omega) (pv 0) (pa_cons (pv 1) (pa_cons (pv 2) pa_nil))))
 (pss_one (ps_ret (pe_lc (own := [("here", 3)]) (by rfl) sc_Book_deeds_of.nd (pi_list (pe_fld (pv 0) rfl)) (blkOk_by (own := [("here", 3)]) (N := ["self", "one", "other", "here"]) (sc := defScope s_Book_deeds_of) (by decide +kernel)) (fun _ _ _ _ _ => (pg_name (i := 3) sc_Book_deeds_of.nd rfl (Or.inl rfl))) (fun _ _ _ _ _ => pts_nil) (fun _ _ _ _ _ => (pe_getKK (K := K) (w := w) rfl rfl (by exact hr.units) (pv 3) (pe_tup (pa_cons (pv 1) (pa_cons (pv 2) pa_nil))) (fun _ _ => rfl)))))), ?_⟩
  rintro ds W post ⟨b, L, p, rfl, rfl, hb, hp, hL, k⟩
  try dsimp only [cxOf, Cx.nox, Cx.wish]
  have h16 := sizeLine_eq
  walk_at "st"
  refine ⟨bkNames, _, .obj _ _ _, by decide +kernel, ?_⟩
  walk_at "st"
  refine hand0 ⟨by simp, by simp, b, L, [p.1, p.2], rfl, rfl, hb, ?_, ?_⟩
  try simp only [List.nil_append]
  try walk_at "st"
  · intro c hc
    rcases List.mem_cons.mp hc with rfl | hc
    · exact hp.1
    · rw [List.mem_singleton.mp hc]
      exact hp.2
  refine sw_ret (ev_lcM (ei_list (ev_fld (ev_var rfl ?_))))
  refine ⟨5, bkNames, _, _, .obj _ _ _, Z.z5.cls, Z.z5.nos _ (by decide +kernel), rfl, ?_⟩
  refine ⟨_, rfl, (List.range (L + 1)).map fun k => .bl (deed b p k), fun i d e hd he2 => ?_, by simp, by simp only [List.length_map, List.length_range]; omega, k⟩
  rw [List.getElem?_map] at hd he2
  obtain ⟨j, hj, rfl⟩ := Option.map_eq_some_iff.mp hd
  rw [hj] at he2
  obtain rfl := Option.some.inj he2
  refine tw_name (by simp) ?_
  walk_at "st"
  refine ⟨rfl, ?_⟩
  refine ev_getK ?_
  walk_at "st"
  exact ⟨_, _, _, .inr (hereD_eq w b j), ky_kP p, getQ_deed hp, rfl, rfl⟩
end
section
abbrev s_Book_end : Stmt := inClass (top 60) 10
theorem sc_Book_end : FnScope ["self", "one", "other"] ["self", "one", "other"] (defScope s_Book_end) := ⟨rfl, rfl, rfl, by decide +kernel, rfl, by decide +kernel, by decide +kernel⟩
theorem mm_end5 {P : Program} {w : World} {K : PySem.W.Frag} {mg : Str → Option Value} {base : Heap} {cl : Nat → Addr} {f : Addr} {fd : FuncData} (me : Meth K (cl 5) "end" f) (B : Blt mg) (Z : ZZ K w mg cl) (Fn : Fun K "end" "Book.end" s_Book_end f fd)
    (mm_deeds_of5 : Met P w K mg base 6 (cl 5) "deeds_of" (spN FK ⟨K, cl⟩ (S_deedsBk w)) []) : Met P w K mg base 9 (cl 5) "end" (spN FK ⟨K, cl⟩ (S_endBk w)) [] := by
  have fz := Z.z0
  refine metD Z.z5.cls me Fn sc_Book_end (by intro ds W post h; first | (obtain ⟨rfl, _⟩ := h; rfl) | (obtain ⟨_, rfl, _⟩ := h; rfl) | (obtain ⟨_, _, rfl, _⟩ := h; rfl) | (obtain ⟨_, _, _, rfl, _⟩ := h; rfl) | (obtain ⟨_, _, _, _, rfl, _⟩ := h; rfl) | (obtain ⟨_, _, _, _, _, rfl, _⟩ := h; rfl) | (obtain ⟨_, _, _, _, _, _, rfl, _⟩ := h; rfl) | (obtain ⟨_, _, _, _, _, _, _, rfl, _⟩ := h; rfl) | (obtain ⟨_, _, _, _, _, _, _, _, rfl, _⟩ := h; rfl) | (obtain ⟨_, _, _, _, _, _, _, _, _, rfl, _⟩ := h; rfl) | (obtain ⟨_, _, _, _, _, _, _, _, _, _, rfl, _⟩ := h; rfl) | (obtain ⟨_, _, _, _, _, _, _, _, _, _, _, rfl, _⟩ := h; rfl)) (fun _ _ _ _ _ _ us hl => match us, hl with | [_, _, _], _ => rfl) fun cdv A outer s H E hr => ⟨_, pss_one (ps_ret (pe_tup (pa_cons (pe_ix ix_list (pe_mt mm_deeds_of5 hr (by omega) (pv 0) (pa_cons (pv 1) (pa_cons (pv 2) pa_nil))) (pe_un un_neg pe_int) (fun _ _ => rfl)) (pa_cons (pe_ix ix_list (pe_mt mm_deeds_of5 hr (by omega) (pv 0) (pa_cons (pv 2) (pa_cons (pv 1) pa_nil))) (pe_un un_neg pe_int) (fun _ _ => rfl)) pa_nil)))), ?_⟩
  rintro ds W post ⟨b, L, p, rfl, rfl, hb, hp, hL, k⟩
  try dsimp only [cxOf, Cx.nox, Cx.wish]
  have h16 := sizeLine_eq
  walk_at "st"
  refine ⟨bkNames, _, .obj _ _ _, by decide +kernel, ?_⟩
  walk_at "st"
  refine hand0 ⟨b, L, p, rfl, rfl, hb, hp, hL, ?_⟩
  try simp only [List.nil_append]
  try walk_at "st"
  refine bo_ixL (.inl (.inl rfl)) (atI_last (g := fun k => D.bl (deed b p k)) L) ?_
  walk_at "st"
  refine ⟨bkNames, _, .obj _ _ _, by decide +kernel, ?_⟩
  walk_at "st"
  refine hand0 ⟨b, L, (p.2, p.1), rfl, rfl, hb, ⟨hp.2, hp.1⟩, hL, ?_⟩
  try simp only [List.nil_append]
  try walk_at "st"
  refine bo_ixL (.inl (.inl rfl)) (atI_last (g := fun k => D.bl (deed b (p.2, p.1) k)) L) ?_
  walk_at "st"
  exact k
abbrev s_Book_rest : Stmt := inClass (top 60) 11
theorem sc_Book_rest : FnScope ["self", "one", "other", "both", "level"] ["self", "one", "other"] (defScope s_Book_rest) := ⟨rfl, rfl, rfl, by decide +kernel, rfl, by decide +kernel, by decide +kernel⟩
theorem mm_rest5 {P : Program} {w : World} {K : PySem.W.Frag} {mg : Str → Option Value} {base : Heap} {cl : Nat → Addr} {f : Addr} {fd : FuncData} (me : Meth K (cl 5) "rest" f) (B : Blt mg) (Z : ZZ K w mg cl) (Fn : Fun K "rest" "Book.rest" s_Book_rest f fd)
    (mm_deeds_of5 : Met P w K mg base 6 (cl 5) "deeds_of" (spN FK ⟨K, cl⟩ (S_deedsBk w)) []) : Met P w K mg base 9 (cl 5) "rest" (spN FK ⟨K, cl⟩ (S_restB w)) [] := by
  have fz := Z.z0
  refine metD Z.z5.cls me Fn sc_Book_rest (by intro ds W post h; first | (obtain ⟨rfl, _⟩ := h; rfl) | (obtain ⟨_, rfl, _⟩ := h; rfl) | (obtain ⟨_, _, rfl, _⟩ := h; rfl) | (obtain ⟨_, _, _, rfl, _⟩ := h; rfl) | (obtain ⟨_, _, _, _, rfl, _⟩ := h; rfl) | (obtain ⟨_, _, _, _, _, rfl, _⟩ := h; rfl) | (obtain ⟨_, _, _, _, _, _, rfl, _⟩ := h; rfl) | (obtain ⟨_, _, _, _, _, _, _, rfl, _⟩ := h; rfl) | (obtain ⟨_, _, _, _, _, _, _, _, rfl, _⟩ := h; rfl) | (obtain ⟨_, _, _, _, _, _, _, _, _, rfl, _⟩ := h; rfl) | (obtain ⟨_, _, _, _, _, _, _, _, _, _, rfl, _⟩ := h; rfl) | (obtain ⟨_, _, _, _, _, _, _, _, _, _, _, rfl, _⟩ := h; rfl)) (fun _ _ _ _ _ _ us hl => match us, hl with | [_, _, _], _ => rfl) fun cdv A outer s H E hr => ⟨_, pss_cons (ps_set (i := 3) sc_Book_rest.nd rfl (Or.inl rfl) (pe_lzip (by rfl) B.list (by rfl) B.zip rfl (pa_cons (pe_mt mm_deeds_of5 hr (by omega) (pv 0) (pa_cons (pv 1) (pa_cons (pv 2) pa_nil))) (pa_cons (pe_mt mm_deeds_of5 hr (by omega) (pv 0) (pa_cons (pv 2) (pa_cons (pv 1) pa_nil))) pa_nil))))
 (pss_cons (ps_set (i := 4) sc_Book_rest.nd rfl (Or.inl rfl) (pe_op op_sub (pe_callB call_len (by rfl) B.len bt_len (pa_cons (pv 3) pa_nil)) pe_int))
 (pss_cons (ps_while PassesOwn.never (PW.pt (pw_and (pt_cmpR op_gt (pv 4) pe_int (nomark _)) (pw_and1 (pt_cmpR (op_eqD hr.units) (pe_ix ix_list (pv 3) (pe_op op_sub (pv 4) pe_int) (fun _ _ => rfl)) (pe_ix ix_list (pv 3) (pe_un un_neg pe_int) (fun _ _ => rfl)) (nomark _))))) (pss_one (ps_aug (i := 4) sc_Book_rest.nd rfl (Or.inl rfl) pe_int ip_sub)))
 (pss_one (ps_ret (pv 4))))), ?_⟩
  rintro ds W post ⟨b, L, p, rfl, rfl, hb, hp, hL, k⟩
  try dsimp only [cxOf, Cx.nox, Cx.wish]
  have h16 := sizeLine_eq
  refine sw_seq (sw_set (ev_lzip ?_))
  walk_at "st"
  refine ⟨bkNames, _, .obj _ _ _, by decide +kernel, ?_⟩
  walk_at "st"
  refine hand0 ⟨b, L, p, rfl, rfl, hb, hp, by omega, ?_⟩
  try simp only [List.nil_append]
  try walk_at "st"
  refine ⟨bkNames, _, .obj _ _ _, by decide +kernel, ?_⟩
  walk_at "st"
  refine hand0 ⟨b, L, (p.2, p.1), rfl, rfl, hb, ⟨hp.2, hp.1⟩, by omega, ?_⟩
  try simp only [List.nil_append]
  try walk_at "st"
  refine ⟨_, _, _, _, rfl, .inl rfl, .inl rfl, by simp, by simp; omega, ?_⟩
  rw [bothB_eq]
  walk_at "st"
  refine sw_while (fun m G W => ∃ n : Nat, G = [some (bkD w b L), some (.str (sg p.1)), some (.str (sg p.2)), some (.lst (bothB b p L)), some (natD n)] ∧ W = [] ∧ m = n ∧ n ≤ L ∧ ∀ k, n ≤ k → k ≤ L → deed b p k = deed b p L ∧ deed b (p.2, p.1) k = deed b (p.2, p.1) L) L
    ⟨L, ?_, rfl, rfl, Nat.le_refl _, fun k h1 h2 => by rw [Nat.le_antisymm h2 h1]; exact ⟨rfl, rfl⟩⟩ ?_
  · have e : ((bothB b p L).length : Int) - 1 = ((L : Nat) : Int) := by rw [bothB, List.length_map, List.length_range]; omega
    rw [e]
    rfl
  rintro m G' W' ⟨n, rfl, rfl, rfl, hn, hall⟩
  walk_at "st"
  have lastB : atI (bothB b p L) (-1) = some (.tup [.bl (deed b p L), .bl (deed b (p.2, p.1) L)]) := atI_last (g := fun k => D.tup [.bl (deed b p k), .bl (deed b (p.2, p.1) k)]) L
  refine if_dec (fun h0 => ?_) (fun h0 => ?_)
  · obtain ⟨n, rfl⟩ : ∃ n, m = n + 1 := ⟨m - 1, by omega⟩
    walk_at "st"
    refine bo_ixL (.inl (.inl rfl)) (z := .tup [.bl (deed b p n), .bl (deed b (p.2, p.1) n)]) ?_ ?_
    · rw [show (((n + 1 : Nat) : Int) - 1) = ((n : Nat) : Int) from by omega]
      exact atI_natP (bothB_get (by omega))
    walk_at "st"
    refine bo_ixL (.inl (.inl rfl)) lastB ?_
    refine bo_eqD (vp_bb _ _) (vp_bb _ _) rfl rfl ?_
    rw [eqv_bb]
    refine ⟨_, rfl, if_bl (fun e => ?_) (fun e => ?_)⟩
    · rw [Bool.and_eq_true, decide_eq_true_eq, decide_eq_true_eq] at e
      refine sw_aug rfl (ev_c ?_)
      refine op_sc (x := .int ((n + 1 : Nat) : Int)) (y := .int 1) fun H Q kk => ⟨_, _, rfl, rfl, kk _ ?_⟩
      have en : ((n + 1 : Nat) : Int) - 1 = ((n : Nat) : Int) := by omega
      refine ⟨n, by omega, n, by show _ = [_, _, _, _, some (D.int ((n : Nat) : Int))]; rw [← en]; rfl, rfl, rfl, by omega, fun k1 h1 h2 => ?_⟩
      rcases Nat.eq_or_lt_of_le h1 with rfl | h1
      · exact e
      · exact hall k1 h1 h2
    · walk_at "st"
      refine k (n + 1) hn hall fun _ hx => ?_
      rw [Nat.add_sub_cancel] at hx
      rw [hx.1, hx.2] at e
      simp at e
  · refine if_not rfl ?_
    walk_at "st"
    exact k m hn hall fun h => absurd (by omega : 0 < (m : Int)) h0
end
section
abbrev s_law_deck : Stmt := top 62
theorem sc_law_deck : FnScope ["_law_script", "_law_cells", "_law_blend", "_law_cell"] ["_law_script"] (defScope s_law_deck) := ⟨rfl, rfl, rfl, by decide +kernel, rfl, by decide +kernel, by decide +kernel⟩
theorem c_law_deck {P : Program} {w : World} {K : PySem.W.Frag} {mg : Str → Option Value} {base : Heap} {cl : Nat → Addr} {f : Addr} {fd : FuncData} (hm : mg "_law_deck" = some (.ref f)) (B : Blt mg) (Z : ZZ K w mg cl) (Fn : Fun K "_law_deck" "_law_deck" s_law_deck f fd) : Cal P w K mg base 1 "_law_deck" (spN FK ⟨K, cl⟩ (S_deck DkC)) [] := by
  have fz := Z.z0
  refine calD hm Fn sc_law_deck (by intro ds W post h; first | (obtain ⟨rfl, _⟩ := h; rfl) | (obtain ⟨_, rfl, _⟩ := h; rfl) | (obtain ⟨_, _, rfl, _⟩ := h; rfl) | (obtain ⟨_, _, _, rfl, _⟩ := h; rfl) | (obtain ⟨_, _, _, _, rfl, _⟩ := h; rfl) | (obtain ⟨_, _, _, _, _, rfl, _⟩ := h; rfl) | (obtain ⟨_, _, _, _, _, _, rfl, _⟩ := h; rfl) | (obtain ⟨_, _, _, _, _, _, _, rfl, _⟩ := h; rfl) | (obtain ⟨_, _, _, _, _, _, _, _, rfl, _⟩ := h; rfl) | (obtain ⟨_, _, _, _, _, _, _, _, _, rfl, _⟩ := h; rfl) | (obtain ⟨_, _, _, _, _, _, _, _, _, _, rfl, _⟩ := h; rfl) | (obtain ⟨_, _, _, _, _, _, _, _, _, _, _, rfl, _⟩ := h; rfl)) (fun _ _ _ _ _ _ us hl => match us, hl with | [_], _ => rfl) fun cdv A outer s H E hr => ⟨_, pss_cons (ps_par (i := 1) (j := 2) (by rfl) sc_law_deck.nd rfl rfl (by decide) rfl rfl (pa_cons (pe_callTy call_list_of (by rfl) B.list bt_list (pa_cons (pe_slice sl_list (pv 0) po_none (po_some pe_int)) pa_nil)) (pa_cons pe_int pa_nil)) (by rfl))
 (pss_cons (ps_for PassesOwn.never rfl (pi_list (pv 1)) (pg_name (i := 3) sc_law_deck.nd rfl (Or.inl rfl)) (pss_one (ps_set (i := 2) sc_law_deck.nd rfl (Or.inl rfl) (pe_op op_mod (pe_callTy call_int1 (by rfl) B.int bt_int (pa_cons (pe_op op_add (pe_op op_add (pe_op op_mul (pv 2) pe_int) (pe_op op_mod (pe_callTy call_int1 (by rfl) B.int bt_int (pa_cons (pv 3) pa_nil)) pe_int)) pe_int) pa_nil)) pe_int))))
 (pss_one (ps_ret (pe_disp (pps_cons pe_str (pe_revL (pv 1)) (pps_cons pe_str (pv 2) (pps_cons pe_str pe_int pps_nil))) (by rfl) (by rfl) (fun z => by cases z) (by decide))))), ?_⟩
  rintro ds W post ⟨ns, rfl, rfl, hl, k⟩
  try dsimp only [cxOf, Cx.nox, Cx.wish]
  have hc : cutD ((ns.map V.int).map D.vl) none (some 63) = ns.map D.int := (cut63 (by simpa using hl)).trans (by rw [List.map_map]; rfl)
  walk_at "st"
  rw [hc]
  refine ca_listF (.inl (.inl (.inl rfl))) ?_
  walk_at "st"
  refine sw_for (ei_list ?_)
  walk_at "st"
  refine ⟨fun i G W => W = [] ∧ ∃ (st : Int) (o : Option D), 0 ≤ st ∧ st < 2147483648 ∧ G = [some (.scr (ns.map V.int)), some (.lst (ns.map D.int)), some (.int st), o], ⟨rfl, _, _, by omega, by omega, rfl⟩, ?_, ?_⟩
  · rintro i d G' W' hd ⟨rfl, st, o, h0, h1, rfl⟩
    rw [List.getElem?_map] at hd
    obtain ⟨z, hz, e⟩ := Option.map_eq_some_iff.mp hd
    subst e
    refine tg_name ?_
    walk_at "st"
    exact ⟨rfl, _, _, Int.emod_nonneg _ (by omega), Int.lt_of_lt_of_le (Int.emod_lt_of_pos _ (by omega)) (by omega), rfl⟩
  · rintro G' W' ⟨rfl, st, o, h0, h1, rfl⟩
    refine sw_ret (ev_disp (eps_cons (ev_c (ev_revL ?_))))
    walk_at "st"
    refine ⟨_, .inl (.inl rfl), fun p hp => ?_⟩
    walk_at "st"
    refine ⟨by simp, fun p2 hp2 => ?_⟩
    rw [mergeG_nd (by simp only [List.map_cons, List.map_nil, List.nil_append, List.cons_append]; decide +kernel)]
    refine k p2 _ ⟨p, ns.reverse, st, 0, ?_, by simp; omega, by omega, by omega⟩
    unfold dkC
    rw [List.map_reverse]
    rfl
abbrev s_law_draw : Stmt := top 63
theorem sc_law_draw : FnScope ["_law_deck_here", "_law_many", "_law_turn", "_law_cell", "_law_kept"] ["_law_deck_here", "_law_many"] (defScope s_law_draw) := ⟨rfl, rfl, rfl, by decide +kernel, rfl, by decide +kernel, by decide +kernel⟩
theorem c_law_draw {P : Program} {w : World} {K : PySem.W.Frag} {mg : Str → Option Value} {base : Heap} {cl : Nat → Addr} {f : Addr} {fd : FuncData} (hm : mg "_law_draw" = some (.ref f)) (B : Blt mg) (Z : ZZ K w mg cl) (Fn : Fun K "_law_draw" "_law_draw" s_law_draw f fd) : Cal P w K mg base 1 "_law_draw" (spN FK ⟨K, cl⟩ (S_draw DkC)) [] := by
  have fz := Z.z0
  refine calD hm Fn sc_law_draw (by intro ds W post h; first | (obtain ⟨rfl, _⟩ := h; rfl) | (obtain ⟨_, rfl, _⟩ := h; rfl) | (obtain ⟨_, _, rfl, _⟩ := h; rfl) | (obtain ⟨_, _, _, rfl, _⟩ := h; rfl) | (obtain ⟨_, _, _, _, rfl, _⟩ := h; rfl) | (obtain ⟨_, _, _, _, _, rfl, _⟩ := h; rfl) | (obtain ⟨_, _, _, _, _, _, rfl, _⟩ := h; rfl) | (obtain ⟨_, _, _, _, _, _, _, rfl, _⟩ := h; rfl) | (obtain ⟨_, _, _, _, _, _, _, _, rfl, _⟩ := h; rfl) | (obtain ⟨_, _, _, _, _, _, _, _, _, rfl, _⟩ := h; rfl) | (obtain ⟨_, _, _, _, _, _, _, _, _, _, rfl, _⟩ := h; rfl) | (obtain ⟨_, _, _, _, _, _, _, _, _, _, _, rfl, _⟩ := h; rfl)) (fun _ _ _ _ _ _ us hl => match us, hl with | [_, _], _ => rfl) fun cdv A outer s H E hr => ⟨_, pss_cons (ps_dput (by exact hu_of hr) (pv 0) pe_str (pe_op op_add (pe_dget (by exact hu_of hr) (pv 0) pe_str (fun _ _ => rfl)) pe_int) rfl)
 (pss_cons (ps_par (i := 2) (j := 3) (by rfl) sc_law_draw.nd rfl rfl (by decide) rfl rfl (pa_cons (pe_dget (by exact hu_of hr) (pv 0) pe_str (fun _ _ => rfl)) (pa_cons (pe_dget (by exact hu_of hr) (pv 0) pe_str (fun _ _ => rfl)) pa_nil)) (by rfl))
 (pss_cons (ps_if (pt_cmpR (op_neD hr.units) (pe_dget (by exact hu_of hr) (pv 0) pe_str (fun _ _ => rfl)) (pe_lst pa_nil) (nomark _)) (pss_cons (ps_set (i := 3) sc_law_draw.nd rfl (Or.inl rfl) (pe_bm0 PySem.F.plainAttrs_list PySem.F.slot_list_pop PySem.F.type_list_pop mt_pop (pe_dget (by exact hu_of hr) (pv 0) pe_str (fun _ _ => rfl))))
 (pss_cons (ps_if (pt_cmpR op_ge (pv 3) (pe_op op_pow pe_int pe_int) (nomark _)) (pss_cons (ps_expr (pe_bm PySem.F.plainAttrs_list PySem.F.slot_list_append PySem.F.type_list_append mt_append (pe_dget (by exact hu_of hr) (pv 0) pe_str (fun _ _ => rfl)) (pa_cons (pe_op op_fdiv (pv 3) (pv 1)) pa_nil)))
 (pss_one (ps_ret (pe_op op_mod (pe_callTy call_int1 (by rfl) B.int bt_int (pa_cons (pv 3) pa_nil)) (pv 1))))) (pss_nil))
 (pss_one (ps_set (i := 3) sc_law_draw.nd rfl (Or.inl rfl) (pe_op op_add (pe_callTy call_int1 (by rfl) B.int bt_int (pa_cons (pv 3) pa_nil)) (pe_dget (by exact hu_of hr) (pv 0) pe_str (fun _ _ => rfl))))))) (pss_nil))
 (pss_cons (ps_set (i := 4) sc_law_draw.nd rfl (Or.inl rfl) (pe_op op_mul (pe_callTy call_int1 (by rfl) B.int bt_int (pa_cons (pe_op op_add (pe_op op_add (pe_op op_mod (pe_callTy call_int1 (by rfl) B.int bt_int (pa_cons (pv 3) pa_nil)) pe_int) (pe_op op_mul (pe_op op_mul pe_int (pv 2)) (pv 2))) pe_int) pa_nil)) pe_int))
 (pss_cons (ps_set (i := 4) sc_law_draw.nd rfl (Or.inl rfl) (pe_op op_mod (pe_callTy call_int1 (by rfl) B.int bt_int (pa_cons (pv 4) pa_nil)) pe_int))
 (pss_cons (ps_set (i := 4) sc_law_draw.nd rfl (Or.inl rfl) (pe_op op_mod (pe_callTy call_int1 (by rfl) B.int bt_int (pa_cons (pe_op op_add (pe_op op_add (pe_op op_mul (pv 4) (pv 4)) (pe_op op_mul pe_int (pv 2))) pe_int) pa_nil)) pe_int))
 (pss_one (ps_ret (pe_op op_mod (pe_op op_fdiv (pe_op op_mod (pe_callTy call_int1 (by rfl) B.int bt_int (pa_cons (pe_op op_mul (pv 4) pe_int) pa_nil)) pe_int) pe_int) (pv 1))))))))), ?_⟩
  rintro ds W post ⟨a, c, n, rfl, ⟨l, cells, s, m, rfl, hl, c0, c2⟩, n0, n1, c1, k⟩
  try dsimp only [cxOf, Cx.nox, Cx.wish]
  have h16 := sizeLine_eq
  walk_at "st"
  refine ⟨a, _, Sum.inr _, [], _, rfl, rfl, rfl, by simp; omega, ?_⟩
  rw [putG_set (i := 2) (by simp only [List.map_cons, List.map_nil]; decide +kernel) rfl]
  walk_at "st"
  refine bo_neD (vp_ints (.inr ⟨_, rfl, List.mem_cons_of_mem _ List.mem_cons_self⟩)) vp_nil (shaped_ints cells) rfl ⟨_, rfl, ?_⟩
  rw [eqv_nil]
  rcases List.eq_nil_or_concat cells with e | ⟨init, x, e⟩
  · subst e
    refine if_not rfl ?_
    walk_at "st"
    exact k _ _ (Int.emod_nonneg _ (by omega)) (Int.emod_lt_of_pos _ n0) ⟨l, [], s, m + 1, rfl, by simp, by omega, by omega⟩
  · subst e
    refine if_so (by simp) ?_
    refine sw_seq (sw_set (ev_pop ?_))
    walk_at "st"
    refine ⟨l, init.map D.int, [(a, .dp [(kS "cells", .adr l), (kS "blend", .int s), (kS "draws", .int (m + 1))])], [], .int x, rfl, by simp, ?_⟩
    walk_at "st"
    refine if_dec (fun hx => ?_) (fun hx => ?_)
    · refine sw_seq (sw_drop (ev_append ?_))
      walk_at "st"
      refine ⟨l, init.map D.int, [_], [], rfl, rfl, ?_⟩
      walk_at "st"
      refine ⟨init.map D.int, [_], [], _, rfl, rfl, ?_, ?_⟩
      · simp at hl ⊢
        omega
      walk_at "st"
      have := k (x % n) (dkC a l (init ++ [x / n]) s (m + 1)) (Int.emod_nonneg _ (by omega)) (Int.emod_lt_of_pos _ n0) ⟨l, init ++ [x / n], s, m + 1, rfl, by simp at hl ⊢; omega, by omega, by omega⟩
      rw [dkC, List.map_append] at this
      exact this
    · walk_at "st"
      exact k _ (dkC a l init s (m + 1)) (Int.emod_nonneg _ (by omega)) (Int.emod_lt_of_pos _ n0) ⟨l, init, s, m + 1, rfl, by simp at hl ⊢; omega, by omega, by omega⟩
abbrev s_law_pick : Stmt := top 64
theorem sc_law_pick : FnScope ["_law_deck_here", "_law_lot"] ["_law_deck_here", "_law_lot"] (defScope s_law_pick) := ⟨rfl, rfl, rfl, by decide +kernel, rfl, by decide +kernel, by decide +kernel⟩
theorem c_law_pick {P : Program} {w : World} {K : PySem.W.Frag} {mg : Str → Option Value} {base : Heap} {cl : Nat → Addr} {f : Addr} {fd : FuncData} (hm : mg "_law_pick" = some (.ref f)) (B : Blt mg) (Z : ZZ K w mg cl) (Fn : Fun K "_law_pick" "_law_pick" s_law_pick f fd)
    (c_law_draw : Cal P w K mg base 1 "_law_draw" (spN FK ⟨K, cl⟩ (S_draw DkC)) []) : Cal P w K mg base 2 "_law_pick" (spN FK ⟨K, cl⟩ (S_pick DkC)) [] := by
  have fz := Z.z0
  refine calD hm Fn sc_law_pick (by intro ds W post h; first | (obtain ⟨rfl, _⟩ := h; rfl) | (obtain ⟨_, rfl, _⟩ := h; rfl) | (obtain ⟨_, _, rfl, _⟩ := h; rfl) | (obtain ⟨_, _, _, rfl, _⟩ := h; rfl) | (obtain ⟨_, _, _, _, rfl, _⟩ := h; rfl) | (obtain ⟨_, _, _, _, _, rfl, _⟩ := h; rfl) | (obtain ⟨_, _, _, _, _, _, rfl, _⟩ := h; rfl) | (obtain ⟨_, _, _, _, _, _, _, rfl, _⟩ := h; rfl) | (obtain ⟨_, _, _, _, _, _, _, _, rfl, _⟩ := h; rfl) | (obtain ⟨_, _, _, _, _, _, _, _, _, rfl, _⟩ := h; rfl) | (obtain ⟨_, _, _, _, _, _, _, _, _, _, rfl, _⟩ := h; rfl) | (obtain ⟨_, _, _, _, _, _, _, _, _, _, _, rfl, _⟩ := h; rfl)) (fun _ _ _ _ _ _ us hl => match us, hl with | [_, _], _ => rfl) fun cdv A outer s H E hr => ⟨_, pss_one (ps_ret (pe_ix ix_seq (pv 1) (pe_c c_law_draw hr (by omega) (by rfl) (pa_cons (pv 0) (pa_cons (pe_callB call_len (by rfl) B.len bt_len (pa_cons (pv 1) pa_nil)) pa_nil))) (fun _ _ => rfl))), ?_⟩
  rintro ds W post ⟨a, c, m, rfl, hd, hc, h⟩
  try dsimp only [cxOf, Cx.nox, Cx.wish]
  rcases h with ⟨l, hm, hne, hl, h⟩ | ⟨x, rfl, hne, hl, h⟩
  · have hv : Vs W m l := hm.elim (fun e => .inl (.inl (.inl e))) .inr
    walk_at "st"
    refine ca_len hv ?_
    have : 0 < l.length := List.length_pos_iff.mpr hne
    walk_at "st"
    refine handA ⟨a, c, _, rfl, hd, by omega, by omega, hc, fun z W' h0 h1 hd' => ?_⟩
    try walk_at "st"
    obtain ⟨y, hy, e⟩ := at_of_draw (l := l) h0 h1
    have hv' : Vs W' m l := hm.elim (fun e => .inl (.inl (.inl e))) .inr
    exact bo_ixSq hv' e (h y hy W' hd')
  · have h16 := sizeLine_eq
    walk_at "st"
    refine ca_lenS (by omega) ?_
    walk_at "st"
    refine handA ⟨a, c, _, rfl, hd, by omega, by omega, hc, fun z W' h0 h1 hd' => ?_⟩
    try walk_at "st"
    obtain ⟨y, hy, e⟩ := at_of_draw (l := lets x) h0 (by rw [← str_len]; exact h1)
    exact bo_ixSqS (by omega) e (h y hy W' hd')
end
section
abbrev s_row_formula : Stmt := top 54
theorem sc_row_formula : FnScope ["row", "last", "level", "deed"] ["row", "last"] (defScope s_row_formula) := ⟨rfl, rfl, rfl, by decide +kernel, rfl, by decide +kernel, by decide +kernel⟩
theorem c_row_formula {P : Program} {w : World} {K : PySem.W.Frag} {mg : Str → Option Value} {base : Heap} {cl : Nat → Addr} {f : Addr} {fd : FuncData} (hm : mg "row_formula" = some (.ref f)) (B : Blt mg) (Z : ZZ K w mg cl) (Fn : Fun K "row_formula" "row_formula" s_row_formula f fd)
    (c_formula_for : Cal P w K mg base 13 "formula_for" (spN FK ⟨K, cl⟩ S_formfor) []) : Cal P w K mg base 14 "row_formula" (spN FK ⟨K, cl⟩ S_rowform61) [] := by
  have fz := Z.z0
  refine calD hm Fn sc_row_formula (by intro ds W post h; first | (obtain ⟨rfl, _⟩ := h; rfl) | (obtain ⟨_, rfl, _⟩ := h; rfl) | (obtain ⟨_, _, rfl, _⟩ := h; rfl) | (obtain ⟨_, _, _, rfl, _⟩ := h; rfl) | (obtain ⟨_, _, _, _, rfl, _⟩ := h; rfl) | (obtain ⟨_, _, _, _, _, rfl, _⟩ := h; rfl) | (obtain ⟨_, _, _, _, _, _, rfl, _⟩ := h; rfl) | (obtain ⟨_, _, _, _, _, _, _, rfl, _⟩ := h; rfl) | (obtain ⟨_, _, _, _, _, _, _, _, rfl, _⟩ := h; rfl) | (obtain ⟨_, _, _, _, _, _, _, _, _, rfl, _⟩ := h; rfl) | (obtain ⟨_, _, _, _, _, _, _, _, _, _, rfl, _⟩ := h; rfl) | (obtain ⟨_, _, _, _, _, _, _, _, _, _, _, rfl, _⟩ := h; rfl)) (fun _ _ _ _ _ _ us hl => match us, hl with | [_, _], _ => rfl) fun cdv A outer s H E hr => ⟨_, pss_one (ps_ret (pe_c c_formula_for hr (by omega) (by rfl) (pa_cons (pe_callTy call_tuple_of (by rfl) B.tuple bt_tuple (pa_cons (pe_lc (own := [("level", 2), ("deed", 3)]) (by rfl) sc_row_formula.nd (pi_enumK (by rfl) B.enumerate (pa_cons (pv 0) pa_nil)) (blkOk_by (own := [("level", 2), ("deed", 3)]) (N := ["row", "last", "level", "deed"]) (sc := defScope s_row_formula) (by decide +kernel)) (fun _ _ _ _ _ => (pg_tupK (K := K) rfl (n := 2) rfl (pgs_cons (pg_name (i := 2) sc_row_formula.nd rfl (Or.inl rfl)) (pgs_cons (pg_name (i := 3) sc_row_formula.nd rfl (Or.inl rfl)) pgs_nil)))) (fun _ _ _ _ _ => pts_one (pt_cmpR op_ne (pv 3) (pv 1) (nomark _))) (fun _ _ _ _ _ => (pv 2))) pa_nil)) (pa_cons (pv 1) pa_nil)))), ?_⟩
  rintro ds W post ⟨bs, last, rfl, rfl, hl, h20, k⟩
  try dsimp only [cxOf, Cx.nox, Cx.wish]
  have h16 := sizeLine_eq
  walk_at "st"
  refine ev_lcP (ei_enumK ?_)
  walk_at "st"
  refine ⟨_, _, rfl, .inl rfl, (List.range bs.length).map fun i => (bs[i]? != some last, natD i), fun i d e hd he => ?_, by rw [List.length_map, List.length_range, pairsD_len, List.length_map], by rw [List.length_map, List.length_range]; omega, ?_⟩
  · obtain ⟨x, hx, rfl⟩ := pairsD_get hd
    rw [List.getElem?_map] at hx
    obtain ⟨b, hb, rfl⟩ := Option.map_eq_some_iff.mp hx
    have hi : i < bs.length := (List.getElem?_eq_some_iff.mp hb).1
    rw [List.getElem?_map, List.getElem?_range hi] at he
    obtain rfl := Option.some.inj he
    rw [Nat.zero_add]
    refine tw_tup rfl (tws_cons (tw_name (by simp) (tws_cons (tw_name (by simp) (tws_nil ?_)))))
    walk_at "st"
    have e : (bs[i]? != some last) = !decide (b = last) := by
      rw [hb]
      cases b <;> cases last <;> rfl
    refine ⟨e.symm, ?_⟩
    split
    · walk_at "st"
      exact ⟨rfl, rfl⟩
    · trivial
  have e : (((List.range bs.length).map fun i => (bs[i]? != some last, natD i)).filter (·.1)).map (·.2) = ((List.range bs.length).filter fun i => bs[i]? != some last).map natD := by
    rw [List.filter_map, List.map_map]
    rfl
  rw [e]
  refine ea_nil (ca_tup (.inl (.inl rfl)) ?_)
  refine ea_cons (ev_var rfl (ea_nil ?_))
  refine hand0 ⟨_, last, rfl, rfl, h20, fun h hh => ?_, k⟩
  have := List.mem_range.mp (List.mem_filter.mp hh).1
  omega
abbrev s_Book_form : Stmt := inClass (top 60) 12
theorem sc_Book_form : FnScope ["self", "one", "other", "found"] ["self", "one", "other"] (defScope s_Book_form) := ⟨rfl, rfl, rfl, by decide +kernel, rfl, by decide +kernel, by decide +kernel⟩
theorem mm_form5 {P : Program} {w : World} {K : PySem.W.Frag} {mg : Str → Option Value} {base : Heap} {cl : Nat → Addr} {f : Addr} {fd : FuncData} (me : Meth K (cl 5) "form" f) (B : Blt mg) (Z : ZZ K w mg cl) (Fn : Fun K "form" "Book.form" s_Book_form f fd)
    (mm_deeds_of5 : Met P w K mg base 6 (cl 5) "deeds_of" (spN FK ⟨K, cl⟩ (S_deedsBk w)) [])
    (c_row_formula : Cal P w K mg base 14 "row_formula" (spN FK ⟨K, cl⟩ S_rowform61) []) : Met P w K mg base 15 (cl 5) "form" (spN FK ⟨K, cl⟩ (S_form61 w)) [] := by
  have fz := Z.z0
  refine metD Z.z5.cls me Fn sc_Book_form (by intro ds W post h; first | (obtain ⟨rfl, _⟩ := h; rfl) | (obtain ⟨_, rfl, _⟩ := h; rfl) | (obtain ⟨_, _, rfl, _⟩ := h; rfl) | (obtain ⟨_, _, _, rfl, _⟩ := h; rfl) | (obtain ⟨_, _, _, _, rfl, _⟩ := h; rfl) | (obtain ⟨_, _, _, _, _, rfl, _⟩ := h; rfl) | (obtain ⟨_, _, _, _, _, _, rfl, _⟩ := h; rfl) | (obtain ⟨_, _, _, _, _, _, _, rfl, _⟩ := h; rfl) | (obtain ⟨_, _, _, _, _, _, _, _, rfl, _⟩ := h; rfl) | (obtain ⟨_, _, _, _, _, _, _, _, _, rfl, _⟩ := h; rfl) | (obtain ⟨_, _, _, _, _, _, _, _, _, _, rfl, _⟩ := h; rfl) | (obtain ⟨_, _, _, _, _, _, _, _, _, _, _, rfl, _⟩ := h; rfl)) (fun _ _ _ _ _ _ us hl => match us, hl with | [_, _, _], _ => rfl) fun cdv A outer s H E hr => ⟨_, pss_cons (ps_set (i := 3) sc_Book_form.nd rfl (Or.inl rfl) (pe_mt mm_deeds_of5 hr (by omega) (pv 0) (pa_cons (pv 1) (pa_cons (pv 2) pa_nil))))
 (pss_one (ps_ret (pe_c c_row_formula hr (by omega) (by rfl) (pa_cons (pv 3) (pa_cons (pe_ix ix_list (pv 3) (pe_un un_neg pe_int) (fun _ _ => rfl)) pa_nil))))), ?_⟩
  rintro ds W post ⟨b, L, p, rfl, rfl, hb, hp, hL, h20, k⟩
  try dsimp only [cxOf, Cx.nox, Cx.wish]
  have h16 := sizeLine_eq
  walk_at "st"
  refine ⟨bkNames, _, .obj _ _ _, by decide +kernel, ?_⟩
  walk_at "st"
  refine hand0 ⟨b, L, p, rfl, rfl, hb, hp, by omega, ?_⟩
  try simp only [List.nil_append]
  try walk_at "st"
  refine bo_ixL (.inl (.inl rfl)) (atI_last (g := fun k => D.bl (deed b p k)) L) ?_
  have e : (List.range ((List.range (L + 1)).map (deed b p)).length).filter (fun i => ((List.range (L + 1)).map (deed b p))[i]? != some (deed b p L)) = (List.range (L + 1)).filter fun k => deed b p k != deed b p L := by
    rw [List.length_map, List.length_range]
    refine List.filter_congr fun i hi => ?_
    rw [List.getElem?_map, List.getElem?_range (List.mem_range.mp hi)]
    show (some (deed b p i) != some (deed b p L)) = _
    cases deed b p i <;> cases deed b p L <;> rfl
  refine ea_nil ?_
  refine hand0 ⟨(List.range (L + 1)).map (deed b p), deed b p L, by rw [List.map_map]; rfl, rfl, by simp; omega, by rw [e]; exact h20, ?_⟩
  try simp only [List.nil_append]
  try walk_at "st"
  rw [e]
  exact k
end
section
abbrev s_law_deep : Stmt := top 65
theorem sc_law_deep : FnScope ["_law_many", "_law_form", "_law_k"] ["_law_many", "_law_form"] (defScope s_law_deep) := ⟨rfl, rfl, rfl, by decide +kernel, rfl, by decide +kernel, by decide +kernel⟩
theorem c_law_deep {P : Program} {w : World} {K : PySem.W.Frag} {mg : Str → Option Value} {base : Heap} {cl : Nat → Addr} {f : Addr} {fd : FuncData} (hm : mg "_law_deep" = some (.ref f)) (B : Blt mg) (Z : ZZ K w mg cl) (Fn : Fun K "_law_deep" "_law_deep" s_law_deep f fd)
    (c_every : Cal P w K mg base 5 "every" (spN FK ⟨K, cl⟩ S_every) []) : Cal P w K mg base 6 "_law_deep" (spN FK ⟨K, cl⟩ S_deep76) [] := by
  have fz := Z.z0
  refine calD hm Fn sc_law_deep (by intro ds W post h; first | (obtain ⟨rfl, _⟩ := h; rfl) | (obtain ⟨_, rfl, _⟩ := h; rfl) | (obtain ⟨_, _, rfl, _⟩ := h; rfl) | (obtain ⟨_, _, _, rfl, _⟩ := h; rfl) | (obtain ⟨_, _, _, _, rfl, _⟩ := h; rfl) | (obtain ⟨_, _, _, _, _, rfl, _⟩ := h; rfl) | (obtain ⟨_, _, _, _, _, _, rfl, _⟩ := h; rfl) | (obtain ⟨_, _, _, _, _, _, _, rfl, _⟩ := h; rfl) | (obtain ⟨_, _, _, _, _, _, _, _, rfl, _⟩ := h; rfl) | (obtain ⟨_, _, _, _, _, _, _, _, _, rfl, _⟩ := h; rfl) | (obtain ⟨_, _, _, _, _, _, _, _, _, _, rfl, _⟩ := h; rfl) | (obtain ⟨_, _, _, _, _, _, _, _, _, _, _, rfl, _⟩ := h; rfl)) (fun _ _ _ _ _ _ us hl => match us, hl with | [_, _], _ => rfl) fun cdv A outer s H E hr => ⟨_, pss_cons (ps_for PassesOwn.never rfl (pi_range1 (by rfl) B.range (pa_cons (pv 0) pa_nil)) (pg_name (i := 2) sc_law_deep.nd rfl (Or.inl rfl)) (pss_one (ps_set (i := 1) sc_law_deep.nd rfl (Or.inl rfl) (pe_c c_every hr (by omega) (by rfl) (pa_cons (pv 1) pa_nil)))))
 (pss_one (ps_ret (pv 1))), ?_⟩
  rintro ds W post ⟨n, f, rfl, rfl, hn, hf, hm, k⟩
  try dsimp only [cxOf, Cx.nox, Cx.wish]
  have h16 := sizeLine_eq
  refine sw_seq (sw_for (ei_rng1 ?_))
  walk_at "st"
  refine ⟨by omega, by omega, fun i G' W' => W' = [] ∧ ∃ o2, G' = [some (natD n), some (.fm (deepF i f)), o2], ⟨rfl, _, rfl⟩, ?_, ?_⟩
  · rintro i d G' W' hd ⟨rfl, o2, rfl⟩
    have hi := (rng_get hd).1
    refine tg_name ?_
    walk_at "st"
    refine hand0 ⟨_, rfl, rfl, deep_ok (n := i + 1) (by omega) hf hm, ?_⟩
    try simp only [List.nil_append]
    try walk_at "st"
    exact ⟨trivial, _, rfl⟩
  · rintro G' W' ⟨rfl, o2, rfl⟩
    rw [rng_len, Int.toNat_natCast]
    walk_at "st"
    exact k
abbrev s_law_first : Stmt := top 67
theorem sc_law_first : FnScope ["_law_many"] ["_law_many"] (defScope s_law_first) := ⟨rfl, rfl, rfl, by decide +kernel, rfl, by decide +kernel, by decide +kernel⟩
theorem c_law_first {P : Program} {w : World} {K : PySem.W.Frag} {mg : Str → Option Value} {base : Heap} {cl : Nat → Addr} {f : Addr} {fd : FuncData} (hm : mg "_law_first" = some (.ref f)) (B : Blt mg) (Z : ZZ K w mg cl) (Fn : Fun K "_law_first" "_law_first" s_law_first f fd) : Cal P w K mg base 1 "_law_first" (spN FK ⟨K, cl⟩ S_first76) [] := by
  have fz := Z.z0
  refine calD hm Fn sc_law_first (by intro ds W post h; first | (obtain ⟨rfl, _⟩ := h; rfl) | (obtain ⟨_, rfl, _⟩ := h; rfl) | (obtain ⟨_, _, rfl, _⟩ := h; rfl) | (obtain ⟨_, _, _, rfl, _⟩ := h; rfl) | (obtain ⟨_, _, _, _, rfl, _⟩ := h; rfl) | (obtain ⟨_, _, _, _, _, rfl, _⟩ := h; rfl) | (obtain ⟨_, _, _, _, _, _, rfl, _⟩ := h; rfl) | (obtain ⟨_, _, _, _, _, _, _, rfl, _⟩ := h; rfl) | (obtain ⟨_, _, _, _, _, _, _, _, rfl, _⟩ := h; rfl) | (obtain ⟨_, _, _, _, _, _, _, _, _, rfl, _⟩ := h; rfl) | (obtain ⟨_, _, _, _, _, _, _, _, _, _, rfl, _⟩ := h; rfl) | (obtain ⟨_, _, _, _, _, _, _, _, _, _, _, rfl, _⟩ := h; rfl)) (fun _ _ _ _ _ _ us hl => match us, hl with | [_], _ => rfl) fun cdv A outer s H E hr => ⟨_, pss_one (ps_ret (pe_tup (pa_cons (pe_tupRg (by rfl) (by rfl) B.tuple (prg_1 (by rfl) B.range (pv 0))) (pa_cons pe_bl pa_nil)))), ?_⟩
  rintro ds W post ⟨n, rfl, rfl, hn, k⟩
  try dsimp only [cxOf, Cx.nox, Cx.wish]
  have h16 := sizeLine_eq
  refine sw_ret (ev_tup (ea_cons (ev_tupRg1 ?_)))
  walk_at "st"
  refine ⟨.of_le (by omega) (by omega) (by omega) (by omega), ?_⟩
  rw [rgV_nat (i := n) (by omega)]
  walk_at "st"
  exact k
abbrev s_law_told : Stmt := top 66
theorem sc_law_told : FnScope ["_law_book_here", "_law_near", "_law_mate"] ["_law_book_here", "_law_near", "_law_mate"] (defScope s_law_told) := ⟨rfl, rfl, rfl, by decide +kernel, rfl, by decide +kernel, by decide +kernel⟩
theorem c_law_told {P : Program} {w : World} {K : PySem.W.Frag} {mg : Str → Option Value} {base : Heap} {cl : Nat → Addr} {f : Addr} {fd : FuncData} (hm : mg "_law_told" = some (.ref f)) (B : Blt mg) (Z : ZZ K w mg cl) (Fn : Fun K "_law_told" "_law_told" s_law_told f fd)
    (mm_end5 : Met P w K mg base 9 (cl 5) "end" (spN FK ⟨K, cl⟩ (S_endBk w)) [])
    (mm_rest5 : Met P w K mg base 9 (cl 5) "rest" (spN FK ⟨K, cl⟩ (S_restB w)) [])
    (mm_form5 : Met P w K mg base 15 (cl 5) "form" (spN FK ⟨K, cl⟩ (S_form61 w)) [])
    (c_trace : Cal P w K mg base 66 "trace" (spN FK ⟨K, cl⟩ S_trace) []) : Cal P w K mg base 67 "_law_told" (spN FK ⟨K, cl⟩ (S_told76 w)) [] := by
  have fz := Z.z0
  refine calD hm Fn sc_law_told (by intro ds W post h; first | (obtain ⟨rfl, _⟩ := h; rfl) | (obtain ⟨_, rfl, _⟩ := h; rfl) | (obtain ⟨_, _, rfl, _⟩ := h; rfl) | (obtain ⟨_, _, _, rfl, _⟩ := h; rfl) | (obtain ⟨_, _, _, _, rfl, _⟩ := h; rfl) | (obtain ⟨_, _, _, _, _, rfl, _⟩ := h; rfl) | (obtain ⟨_, _, _, _, _, _, rfl, _⟩ := h; rfl) | (obtain ⟨_, _, _, _, _, _, _, rfl, _⟩ := h; rfl) | (obtain ⟨_, _, _, _, _, _, _, _, rfl, _⟩ := h; rfl) | (obtain ⟨_, _, _, _, _, _, _, _, _, rfl, _⟩ := h; rfl) | (obtain ⟨_, _, _, _, _, _, _, _, _, _, rfl, _⟩ := h; rfl) | (obtain ⟨_, _, _, _, _, _, _, _, _, _, _, rfl, _⟩ := h; rfl)) (fun _ _ _ _ _ _ us hl => match us, hl with | [_, _, _], _ => rfl) fun cdv A outer s H E hr => ⟨_, pss_one (ps_ret (pe_tup (pa_cons (pe_mt mm_end5 hr (by omega) (pv 0) (pa_cons (pv 1) (pa_cons (pv 2) pa_nil))) (pa_cons (pe_mt mm_rest5 hr (by omega) (pv 0) (pa_cons (pv 1) (pa_cons (pv 2) pa_nil))) (pa_cons (pe_c c_trace hr (by omega) (by rfl) (pa_cons (pe_mt mm_form5 hr (by omega) (pv 0) (pa_cons (pv 1) (pa_cons (pv 2) pa_nil))) pa_nil)) pa_nil))))), ?_⟩
  rintro ds W post ⟨b, L, p, t, c, t', c', rfl, rfl, hb, hr, hL, m, k⟩
  try dsimp only [cxOf, Cx.nox, Cx.wish]
  have h16 := sizeLine_eq
  obtain ⟨e1, e2⟩ := m.end_ hb hr
  obtain ⟨r1, r2, r3⟩ := m.rest hb hr
  have fl := m.flt hb hr
  have ht := m.few
  walk_at "st"
  refine ⟨bkNames, _, .obj _ _ _, by decide +kernel, ?_⟩
  walk_at "st"
  refine hand0 ⟨b, L, p, rfl, rfl, hb, m.pr, by omega, ?_⟩
  try simp only [List.nil_append]
  try walk_at "st"
  rw [e1, e2]
  refine ⟨bkNames, _, .obj _ _ _, by decide +kernel, ?_⟩
  walk_at "st"
  refine hand0 ⟨b, L, p, rfl, rfl, hb, m.pr, by omega, fun n h1 h2 h3 => ?_⟩
  try simp only [List.nil_append]
  try walk_at "st"
  have en : n = max t t' := by
    rcases Nat.lt_trichotomy n (max t t') with q | q | q
    · exact absurd (h2 _ (by omega) (by omega)) (r3 (by omega))
    · exact q
    · exact absurd (r2 (n - 1) (by omega) (by omega)) (h3 (by omega))
  subst en
  refine ⟨bkNames, _, .obj _ _ _, by decide +kernel, ?_⟩
  walk_at "st"
  refine hand0 ⟨b, L, p, rfl, rfl, hb, m.pr, hL, by rw [fl, List.length_range]; omega, ?_⟩
  try simp only [List.nil_append]
  try walk_at "st"
  rw [fl, e1]
  have q := Fm.Q.forF (hs := List.range t) (b := c) (fun x hx => by have := List.mem_range.mp hx; omega) (by rw [List.length_range]; omega)
  refine hand0 ⟨_, rfl, rfl, q.okF (by decide), q.flat (by decide), fun m1 hm1 hst => ?_⟩
  try simp only [List.nil_append]
  try walk_at "st"
  obtain ⟨z1, z2⟩ := for_tr ht hst
  rw [z1, z2, List.map_map]
  exact k
end
section
abbrev s_law_book : Stmt := top 68
theorem sc_law_book : FnScope ["_law_rows"] ["_law_rows"] (defScope s_law_book) := ⟨rfl, rfl, rfl, by decide +kernel, rfl, by decide +kernel, by decide +kernel⟩
theorem c_law_book {P : Program} {w : World} {K : PySem.W.Frag} {mg : Str → Option Value} {base : Heap} {cl : Nat → Addr} {f : Addr} {fd : FuncData} (hm : mg "_law_book" = some (.ref f)) (hcc : fd.code = .ref (cl 201)) (TB : LamX.TabB base mg (cl 201) (cl 200)) (B : Blt mg) (Z : ZZ K w mg cl) (Fn : Fun K "_law_book" "_law_book" s_law_book f fd)
    (m_Book : Mak P w K mg base 102 "Book" (cl 5) (spN FK ⟨K, cl⟩ (S_initBk w)) []) : Cal P w K mg base 105 "_law_book" (spN FK ⟨K, cl⟩ (S_book76 w (cl 200) "_law_book.<locals>.<lambda>" ⟨371, 44, 371, 77⟩)) [] := by
  have fz := Z.z0
  refine calDC hm Fn hcc sc_law_book (by intro ds W post h; first | (obtain ⟨rfl, _⟩ := h; rfl) | (obtain ⟨_, rfl, _⟩ := h; rfl) | (obtain ⟨_, _, rfl, _⟩ := h; rfl) | (obtain ⟨_, _, _, rfl, _⟩ := h; rfl) | (obtain ⟨_, _, _, _, rfl, _⟩ := h; rfl) | (obtain ⟨_, _, _, _, _, rfl, _⟩ := h; rfl) | (obtain ⟨_, _, _, _, _, _, rfl, _⟩ := h; rfl) | (obtain ⟨_, _, _, _, _, _, _, rfl, _⟩ := h; rfl) | (obtain ⟨_, _, _, _, _, _, _, _, rfl, _⟩ := h; rfl) | (obtain ⟨_, _, _, _, _, _, _, _, _, rfl, _⟩ := h; rfl) | (obtain ⟨_, _, _, _, _, _, _, _, _, _, rfl, _⟩ := h; rfl) | (obtain ⟨_, _, _, _, _, _, _, _, _, _, _, rfl, _⟩ := h; rfl)) (fun _ _ _ _ _ _ us hl => match us, hl with | [_], _ => rfl) fun A outer s H E hr => ⟨_, pss_one (ps_ret (pe_mk m_Book hr (by omega) (by rfl) (pa_cons (pe_callTy call_tuple_of (by rfl) B.tuple bt_tuple (pa_cons (pe_sortL (j := 0) (kf := kfO) (y := "_law_row") (q := "_law_book.<locals>.<lambda>") TB (Room.mono hr (by omega)) (by rfl) (by exact (by decide +kernel : ("_law_book.<locals>." : Str) ++ "<lambda>" = "_law_book.<locals>.<lambda>")) (by exact ⟨rfl, rfl, rfl, by decide +kernel, rfl, by decide +kernel, by decide +kernel⟩) (by intros; rfl) (by exact (kb_ord rfl rfl rfl rfl Z.no_ord)) (by rfl) (by decide +kernel) (by rfl) (by rfl) B.sorted (pa_cons (pv 0) pa_nil)) pa_nil)) pa_nil))), ?_⟩
  rintro ds W post ⟨l, oc, rfl, rfl, u, h5, k⟩
  try dsimp only [cxOf, Cx.nox, Cx.wish]
  have h16 := sizeLine_eq
  have hb := u.bk h5
  refine sw_ret (ev_mkBk (ea_cons (ev_cb (ea_cons (ev_sortL (α := Nat × Fm) (f := fun p => .tup [.str (sg p.1), .fm p.2]) (g := fun p => .int ((p.1 : Nat) : Int)) (fun O H a v di kd => kfO_row O H a v di kd) (ev_var rfl ⟨l, oc, [], by rw [List.append_nil], rfl, rows_alike l, rows_sortable l, fun a _ => Nat.le_of_ble_eq_true rfl, fun oc' => ?_⟩))))))
  rw [ord_sort u.nd]
  refine ea_nil (ca_tup (.inl (.inl rfl)) ?_)
  refine ea_nil ⟨esF (srtR l), ?_, esF_opd _, ?_, fun L hL hr => ?_⟩
  · rw [esF_arg]
  · rw [esF_rs]
    exact hb
  rw [esF_rs] at hL hr ⊢
  rw [List.append_nil]
  exact k L hL hr oc'
abbrev s_law_names : Stmt := top 69
theorem sc_law_names : FnScope ["_law_deck_here", "_law_many", "_law_first_here", "_law_step", "_law_k"] ["_law_deck_here", "_law_many"] (defScope s_law_names) := ⟨rfl, rfl, rfl, by decide +kernel, rfl, by decide +kernel, by decide +kernel⟩
theorem c_law_names {P : Program} {w : World} {K : PySem.W.Frag} {mg : Str → Option Value} {base : Heap} {cl : Nat → Addr} {f : Addr} {fd : FuncData} (hm : mg "_law_names" = some (.ref f)) (B : Blt mg) (Z : ZZ K w mg cl) (Fn : Fun K "_law_names" "_law_names" s_law_names f fd)
    (c_law_draw : Cal P w K mg base 1 "_law_draw" (spN FK ⟨K, cl⟩ (S_draw DkC)) [])
    (c_law_pick : Cal P w K mg base 2 "_law_pick" (spN FK ⟨K, cl⟩ (S_pick DkC)) []) : Cal P w K mg base 3 "_law_names" (spN FK ⟨K, cl⟩ S_names76) [] := by
  have fz := Z.z0
  refine calD hm Fn sc_law_names (by intro ds W post h; first | (obtain ⟨rfl, _⟩ := h; rfl) | (obtain ⟨_, rfl, _⟩ := h; rfl) | (obtain ⟨_, _, rfl, _⟩ := h; rfl) | (obtain ⟨_, _, _, rfl, _⟩ := h; rfl) | (obtain ⟨_, _, _, _, rfl, _⟩ := h; rfl) | (obtain ⟨_, _, _, _, _, rfl, _⟩ := h; rfl) | (obtain ⟨_, _, _, _, _, _, rfl, _⟩ := h; rfl) | (obtain ⟨_, _, _, _, _, _, _, rfl, _⟩ := h; rfl) | (obtain ⟨_, _, _, _, _, _, _, _, rfl, _⟩ := h; rfl) | (obtain ⟨_, _, _, _, _, _, _, _, _, rfl, _⟩ := h; rfl) | (obtain ⟨_, _, _, _, _, _, _, _, _, _, rfl, _⟩ := h; rfl) | (obtain ⟨_, _, _, _, _, _, _, _, _, _, _, rfl, _⟩ := h; rfl)) (fun _ _ _ _ _ _ us hl => match us, hl with | [_, _], _ => rfl) fun cdv A outer s H E hr => ⟨_, pss_cons (ps_asg (pe_tup (pa_cons (pe_c c_law_draw hr (by omega) (by rfl) (pa_cons (pv 0) (pa_cons pe_int pa_nil))) (pa_cons (pe_c c_law_pick hr (by omega) (by rfl) (pa_cons (pv 0) (pa_cons (pe_lst (pa_cons pe_int (pa_cons pe_int (pa_cons pe_int (pa_cons pe_int (pa_cons pe_int (pa_cons pe_int pa_nil))))))) pa_nil))) pa_nil))) (pg_tup (n := 2) rfl (pgs_cons (pg_name (i := 2) sc_law_names.nd rfl (Or.inr rfl)) (pgs_cons (pg_name (i := 3) sc_law_names.nd rfl (Or.inr rfl)) pgs_nil))))
 (pss_one (ps_ret (pe_lc (own := [("_law_k", 4)]) (by rfl) sc_law_names.nd (pi_range1 (by rfl) B.range (pa_cons (pv 1) pa_nil)) (blkOk_by (own := [("_law_k", 4)]) (N := ["_law_deck_here", "_law_many", "_law_first_here", "_law_step", "_law_k"]) (sc := defScope s_law_names) (by decide +kernel)) (fun _ _ _ _ _ => (pg_name (i := 4) sc_law_names.nd rfl (Or.inl rfl))) (fun _ _ _ _ _ => pts_nil) (fun _ _ _ _ _ => (pe_ix ix_str pe_str (pe_op op_mod (pe_op op_add (pv 2) (pe_op op_mul (pv 3) (pv 4))) pe_int) (fun _ _ => rfl)))))), ?_⟩
  rintro ds W post ⟨a, c, n, rfl, hd, hc, hn, k⟩
  try dsimp only [cxOf, Cx.nox, Cx.wish]
  have h16 := sizeLine_eq
  walk_at "st"
  refine handA ⟨a, c, 26, rfl, hd, by omega, by omega, by omega, fun x W2 x0 x1 hd2 => ?_⟩
  try walk_at "st"
  refine handA ⟨a, _, _, rfl, hd2, by omega, .inl ⟨[.int 1, .int 3, .int 5, .int 7, .int 9, .int 25], .inl rfl, by simp, by simp, fun y hy W3 hd3 => ?_⟩⟩
  try walk_at "st"
  have hd3 : DkC a (c + 2) W3 := DkC_mono hd3 (by omega)
  obtain ⟨s, rfl, hs⟩ : ∃ s : Nat, y = .int (s : Nat) ∧ (s = 1 ∨ s = 3 ∨ s = 5 ∨ s = 7 ∨ s = 9 ∨ s = 25) := by
    simp only [List.mem_cons, List.not_mem_nil, or_false] at hy
    rcases hy with rfl | rfl | rfl | rfl | rfl | rfl
    · exact ⟨1, rfl, .inl rfl⟩
    · exact ⟨3, rfl, .inr (.inl rfl)⟩
    · exact ⟨5, rfl, .inr (.inr (.inl rfl))⟩
    · exact ⟨7, rfl, .inr (.inr (.inr (.inl rfl)))⟩
    · exact ⟨9, rfl, .inr (.inr (.inr (.inr (.inl rfl))))⟩
    · exact ⟨25, rfl, .inr (.inr (.inr (.inr (.inr rfl))))⟩
  obtain ⟨f0, rfl⟩ := Int.eq_ofNat_of_zero_le x0
  walk_at "st"
  have nd := nmB_nd6 (f := f0) hs hn
  have hlen : (nmB f0 s n).length = n := by simp [nmB]
  refine ev_lcM (ei_rng1 ?_)
  walk_at "st"
  refine ⟨by omega, by omega, (nmB f0 s n).map fun c => .str (sg c), fun i d e hd4 he => ?_, by simp [nmB, rng_len], by rw [List.length_map]; omega, ?_⟩
  · obtain ⟨hi, rfl⟩ := rng_get hd4
    unfold nmB at he
    rw [List.map_map, List.getElem?_map] at he
    obtain ⟨q, hq, rfl⟩ := Option.map_eq_some_iff.mp he
    have hi : i < n := by simpa using hi
    rw [List.getElem?_range hi] at hq
    obtain rfl := Option.some.inj hq
    refine tw_name (by simp) ?_
    walk_at "st"
    refine ⟨rfl, ?_⟩
    walk_at "st"
    rw [show ((f0 : Int) + (s : Int) * (0 + (i : Int))) % 26 = (((f0 + s * i) % 26 : Nat) : Int) from by rw [Int.zero_add]; omega]
    exact bo_ixS (by decide) (abc_at (Nat.mod_lt _ (by decide))) ⟨rfl, rfl⟩
  exact k (nmB f0 s n) W3 hlen nd (fun c h => nmB_cap h) hd3
end
section
abbrev s_law_waits_right : Stmt := top 70
theorem sc_law_waits_right : FnScope ["_law_deck_here", "_law_go", "_law_k", "_law_j", "_law_i", "_law_soft", "_law_hard", "_law_late", "_law_wait", "_law_other", "_law_rows", "_law_book_here", "_law_near", "_law_mate"] ["_law_deck_here"] (defScope s_law_waits_right) := ⟨rfl, rfl, rfl, by decide +kernel, rfl, by decide +kernel, by decide +kernel⟩
theorem c_law_waits_right {P : Program} {w : World} {K : PySem.W.Frag} {mg : Str → Option Value} {base : Heap} {cl : Nat → Addr} {f : Addr} {fd : FuncData} (hm : mg "_law_waits_right" = some (.ref f)) (B : Blt mg) (Z : ZZ K w mg cl) (Fn : Fun K "_law_waits_right" "_law_waits_right" s_law_waits_right f fd)
    (c_law_draw : Cal P w K mg base 1 "_law_draw" (spN FK ⟨K, cl⟩ (S_draw DkC)) [])
    (c_law_names : Cal P w K mg base 3 "_law_names" (spN FK ⟨K, cl⟩ S_names76) [])
    (c_law_deep : Cal P w K mg base 6 "_law_deep" (spN FK ⟨K, cl⟩ S_deep76) [])
    (c_law_book : Cal P w K mg base 105 "_law_book" (spN FK ⟨K, cl⟩ (S_book76 w (cl 200) "_law_book.<locals>.<lambda>" ⟨371, 44, 371, 77⟩)) [])
    (c_law_told : Cal P w K mg base 67 "_law_told" (spN FK ⟨K, cl⟩ (S_told76 w)) [])
    (c_law_first : Cal P w K mg base 1 "_law_first" (spN FK ⟨K, cl⟩ S_first76) [])
    (c_yes : Cal P w K mg base 6 "yes" (spN FK ⟨K, cl⟩ S_yes) [])
    (c_no : Cal P w K mg base 5 "no" (spN FK ⟨K, cl⟩ S_no) [])
    (c_atom : Cal P w K mg base 5 "atom" (spN FK ⟨K, cl⟩ S_atom) [])
    (mm_rest5 : Met P w K mg base 9 (cl 5) "rest" (spN FK ⟨K, cl⟩ (S_restB w)) []) : Cal P w K mg base 106 "_law_waits_right" (spN FK ⟨K, cl⟩ (S_look76 (cl 200) "_law_book.<locals>.<lambda>" ⟨371, 44, 371, 77⟩)) [] := by
  have fz := Z.z0
  refine calD hm Fn sc_law_waits_right (by intro ds W post h; first | (obtain ⟨rfl, _⟩ := h; rfl) | (obtain ⟨_, rfl, _⟩ := h; rfl) | (obtain ⟨_, _, rfl, _⟩ := h; rfl) | (obtain ⟨_, _, _, rfl, _⟩ := h; rfl) | (obtain ⟨_, _, _, _, rfl, _⟩ := h; rfl) | (obtain ⟨_, _, _, _, _, rfl, _⟩ := h; rfl) | (obtain ⟨_, _, _, _, _, _, rfl, _⟩ := h; rfl) | (obtain ⟨_, _, _, _, _, _, _, rfl, _⟩ := h; rfl) | (obtain ⟨_, _, _, _, _, _, _, _, rfl, _⟩ := h; rfl) | (obtain ⟨_, _, _, _, _, _, _, _, _, rfl, _⟩ := h; rfl) | (obtain ⟨_, _, _, _, _, _, _, _, _, _, rfl, _⟩ := h; rfl) | (obtain ⟨_, _, _, _, _, _, _, _, _, _, _, rfl, _⟩ := h; rfl)) (fun _ _ _ _ _ _ us hl => match us, hl with | [_], _ => rfl) fun cdv A outer s H E hr => ⟨_, pss_cons (ps_asg (pe_lc (own := [("_law_go", 1)]) (by rfl) sc_law_waits_right.nd (pi_range1 (by rfl) B.range (pa_cons pe_int pa_nil)) (blkOk_by (own := [("_law_go", 1)]) (N := ["_law_deck_here", "_law_go", "_law_k", "_law_j", "_law_i", "_law_soft", "_law_hard", "_law_late", "_law_wait", "_law_other", "_law_rows", "_law_book_here", "_law_near", "_law_mate"]) (sc := defScope s_law_waits_right) (by decide +kernel)) (fun _ _ _ _ _ => (pg_name (i := 1) sc_law_waits_right.nd rfl (Or.inl rfl))) (fun _ _ _ _ _ => pts_nil) (fun _ _ _ _ _ => (pe_op op_add pe_int (pe_c c_law_draw hr (by omega) (by rfl) (pa_cons (pv 0) (pa_cons pe_int pa_nil)))))) (pg_lst (n := 3) rfl (pgs_cons (pg_name (i := 2) sc_law_waits_right.nd rfl (Or.inl rfl)) (pgs_cons (pg_name (i := 3) sc_law_waits_right.nd rfl (Or.inl rfl)) (pgs_cons (pg_name (i := 4) sc_law_waits_right.nd rfl (Or.inl rfl)) pgs_nil)))))
 (pss_cons (ps_asg (pe_c c_law_names hr (by omega) (by rfl) (pa_cons (pv 0) (pa_cons pe_int pa_nil))) (pg_lst (n := 5) rfl (pgs_cons (pg_name (i := 5) sc_law_waits_right.nd rfl (Or.inl rfl)) (pgs_cons (pg_name (i := 6) sc_law_waits_right.nd rfl (Or.inl rfl)) (pgs_cons (pg_name (i := 7) sc_law_waits_right.nd rfl (Or.inl rfl)) (pgs_cons (pg_name (i := 8) sc_law_waits_right.nd rfl (Or.inl rfl)) (pgs_cons (pg_name (i := 9) sc_law_waits_right.nd rfl (Or.inl rfl)) pgs_nil)))))))
 (pss_cons (ps_set (i := 10) sc_law_waits_right.nd rfl (Or.inl rfl) (pe_lst (pa_cons (pe_tup (pa_cons (pv 5) (pa_cons (pe_c0 c_yes hr (by omega) (by rfl)) pa_nil))) (pa_cons (pe_tup (pa_cons (pv 6) (pa_cons (pe_c0 c_no hr (by omega) (by rfl)) pa_nil))) (pa_cons (pe_tup (pa_cons (pv 7) (pa_cons (pe_c c_law_deep hr (by omega) (by rfl) (pa_cons (pv 2) (pa_cons (pe_c0 c_no hr (by omega) (by rfl)) pa_nil))) pa_nil))) (pa_cons (pe_tup (pa_cons (pv 8) (pa_cons (pe_c c_law_deep hr (by omega) (by rfl) (pa_cons (pv 3) (pa_cons (pe_c c_atom hr (by omega) (by rfl) (pa_cons pe_str pa_nil)) pa_nil))) pa_nil))) pa_nil))))))
 (pss_cons (ps_set (i := 11) sc_law_waits_right.nd rfl (Or.inl rfl) (pe_c c_law_book hr (by omega) (by rfl) (pa_cons (pe_op op_cat (pv 10) (pe_lst (pa_cons (pe_tup (pa_cons (pv 9) (pa_cons (pe_c c_law_deep hr (by omega) (by rfl) (pa_cons (pv 4) (pa_cons (pe_c c_atom hr (by omega) (by rfl) (pa_cons pe_str pa_nil)) pa_nil))) pa_nil))) pa_nil))) pa_nil)))
 (pss_cons (ps_for PassesOwn.never rfl (pi_tup (pe_tup (pa_cons (pv 8) (pa_cons (pv 9) (pa_cons (pv 5) pa_nil))))) (pg_name (i := 12) sc_law_waits_right.nd rfl (Or.inl rfl)) (pss_one (ps_for PassesOwn.never rfl (pi_tup (pe_tup (pa_cons (pv 8) (pa_cons (pv 9) (pa_cons (pv 5) pa_nil))))) (pg_name (i := 13) sc_law_waits_right.nd rfl (Or.inl rfl)) (pss_one (ps_if (pt_cmpR (op_neD hr.units) (pe_c c_law_told hr (by omega) (by rfl) (pa_cons (pv 11) (pa_cons (pv 12) (pa_cons (pv 13) pa_nil)))) (pe_tup (pa_cons (pe_tup (pa_cons pe_bl (pa_cons pe_bl pa_nil))) (pa_cons pe_int (pa_cons (pe_tup (pa_cons (pe_tup pa_nil) (pa_cons pe_bl pa_nil))) pa_nil)))) (nomark _)) (pss_one (ps_ret pe_bl)) (pss_nil))))))
 (pss_cons (ps_if (pt_cmpR (op_neD hr.units) (pe_c c_law_told hr (by omega) (by rfl) (pa_cons (pv 11) (pa_cons (pv 8) (pa_cons (pv 7) pa_nil)))) (pe_tup (pa_cons (pe_tup (pa_cons pe_bl (pa_cons pe_bl pa_nil))) (pa_cons (pe_op op_add (pv 2) (pv 3)) (pa_cons (pe_c c_law_first hr (by omega) (by rfl) (pa_cons (pe_op op_add (pv 2) (pv 3)) pa_nil)) pa_nil)))) (nomark _)) (pss_one (ps_ret pe_bl)) (pss_nil))
 (pss_cons (ps_if (pt_cmpR (op_neD hr.units) (pe_c c_law_told hr (by omega) (by rfl) (pa_cons (pv 11) (pa_cons (pv 7) (pa_cons (pv 9) pa_nil)))) (pe_tup (pa_cons (pe_tup (pa_cons pe_bl (pa_cons pe_bl pa_nil))) (pa_cons (pe_op op_add (pv 2) (pv 4)) (pa_cons (pe_c c_law_first hr (by omega) (by rfl) (pa_cons (pv 2) pa_nil)) pa_nil)))) (nomark _)) (pss_one (ps_ret pe_bl)) (pss_nil))
 (pss_cons (ps_if (pt_cmpR (op_neD hr.units) (pe_c c_law_told hr (by omega) (by rfl) (pa_cons (pv 11) (pa_cons (pv 9) (pa_cons (pv 6) pa_nil)))) (pe_tup (pa_cons (pe_tup (pa_cons pe_bl (pa_cons pe_bl pa_nil))) (pa_cons (pv 4) (pa_cons (pe_c c_law_first hr (by omega) (by rfl) (pa_cons (pv 4) pa_nil)) pa_nil)))) (nomark _)) (pss_one (ps_ret pe_bl)) (pss_nil))
 (pss_one (ps_ret (pe_and (pe_cmpR (op_eqD hr.units) (pe_c c_law_told hr (by omega) (by rfl) (pa_cons (pv 11) (pa_cons (pv 5) (pa_cons (pv 6) pa_nil)))) (pe_tup (pa_cons (pe_tup (pa_cons pe_bl (pa_cons pe_bl pa_nil))) (pa_cons pe_int (pa_cons (pe_tup (pa_cons (pe_tup pa_nil) (pa_cons pe_bl pa_nil))) pa_nil)))) (nomark _)) (pe_one (pe_cmpR op_eq (pe_mt mm_rest5 hr (by omega) (pv 11) (pa_cons (pv 7) (pa_cons (pv 7) pa_nil))) (pv 2) (nomark _))))))))))))), ?_⟩
  rintro ds W post ⟨a, c, Wd, oc, rfl, rfl, hd, hc, k⟩
  try dsimp only [cxOf, Cx.nox, Cx.wish]
  have h16 := sizeLine_eq
  refine sw_seq (sw_asgA (ev_lcF (ei_rng1 ?_)))
  walk_at "st"
  refine ⟨by omega, by omega, fun i acc W' => ∃ (xs : List Nat) (W1 : Om), acc = xs.map natD ∧ xs.length = i ∧ (∀ x ∈ xs, 1 ≤ x ∧ x ≤ 4) ∧ W' = W1 ++ tbW (cl 200) "_law_book.<locals>.<lambda>" ⟨371, 44, 371, 77⟩ oc ∧ DkC a (c + (i : Nat)) W1, ⟨[], Wd, rfl, rfl, by simp, rfl, by simpa using hd⟩, ?_, ?_⟩
  · rintro i d acc W' hdd ⟨xs, W1, rfl, hl, hx, rfl, hd1⟩
    obtain ⟨hi, rfl⟩ := rng_get hdd
    have hi : i < 3 := by simpa using hi
    refine tw_name (by simp) ?_
    walk_at "st"
    refine ⟨W1, _, List.Perm.refl _, a, _, 4, rfl, hd1, by omega, by omega, by omega, fun z W2 z0 z1 hd2 => ?_⟩
    walk_at "st"
    refine ⟨by simp; omega, xs ++ [(1 + z).toNat], W2, ?_, by simp [hl], fun x h => ?_, rfl, by simpa [Int.add_assoc] using hd2⟩
    · rw [List.map_append]
      show _ ++ [D.int (1 + z)] = _ ++ [D.int (((1 + z).toNat : Nat) : Int)]
      rw [Int.toNat_of_nonneg (by omega)]
    · rcases List.mem_append.mp h with h | h
      · exact hx x h
      · rw [List.mem_singleton.mp h]
        omega
  rintro acc W' ⟨xs, W1, rfl, hl, hx, rfl, hd1⟩
  rw [show (((rng 0 (Int.toNat 3)).length : Nat) : Int) = 3 from rfl] at hd1
  obtain ⟨k1, j1, i1, rfl⟩ := len3 (show xs.length = 3 from hl)
  have hk := hx k1 (by simp)
  have hj := hx j1 (by simp)
  have hi := hx i1 (by simp)
  obtain ⟨k0, rfl⟩ : ∃ q, k1 = q + 1 := ⟨k1 - 1, by omega⟩
  obtain ⟨j0, rfl⟩ : ∃ q, j1 = q + 1 := ⟨j1 - 1, by omega⟩
  obtain ⟨i0, rfl⟩ : ∃ q, i1 = q + 1 := ⟨i1 - 1, by omega⟩
  refine ta_lstU rfl (tas_cons (ta_name (tas_cons (ta_name (tas_cons (ta_name (tas_nil ?_)))))))
  walk_at "st"
  refine ⟨W1, _, List.Perm.refl _, a, _, 5, rfl, hd1, by omega, by omega, fun cs W2 hcs nd cap hd2 => ?_⟩
  obtain ⟨s, h, x, y, o, rfl⟩ := len5 hcs
  refine ta_lstU rfl (tas_cons (ta_name (tas_cons (ta_name (tas_cons (ta_name (tas_cons (ta_name (tas_cons (ta_name (tas_nil ?_)))))))))))
  have u : PlyU (waitL s h x y o k0 j0 i0) := wait_u nd cap (by omega) (by omega) (by omega)
  have hb := u.bk (by show 5 ≤ 5; omega)
  have M := wait_ok u (by omega) (by omega) (by omega)
  walk_at "st"
  refine hand0 ⟨rfl, rfl, ?_⟩
  try simp only [List.nil_append]
  try walk_at "st"
  refine hand0 ⟨rfl, rfl, ?_⟩
  try simp only [List.nil_append]
  try walk_at "st"
  refine hand0 ⟨rfl, rfl, ?_⟩
  try simp only [List.nil_append]
  try walk_at "st"
  refine hand0 ⟨k0 + 1, .no, rfl, rfl, by omega, trivial, by decide, ?_⟩
  try simp only [List.nil_append]
  try walk_at "st"
  have ho : (Fm.at 111).okL := by show (65 ≤ 111 ∧ 111 ≤ 90) ∨ (97 ≤ 111 ∧ 111 ≤ 122); omega
  refine hand0 ⟨111, rfl, rfl, ho, ?_⟩
  try simp only [List.nil_append]
  try walk_at "st"
  refine hand0 ⟨j0 + 1, .at 111, rfl, rfl, by omega, ho, by decide, ?_⟩
  try simp only [List.nil_append]
  try walk_at "st"
  refine hand0 ⟨111, rfl, rfl, ho, ?_⟩
  try simp only [List.nil_append]
  try walk_at "st"
  refine hand0 ⟨i0 + 1, .at 111, rfl, rfl, by omega, ho, by decide, ?_⟩
  try simp only [List.nil_append]
  try walk_at "st"
  refine bo_cat (.inl rfl) (.inl rfl) (by show 5 ≤ _; omega) ?_
  walk_at "st"
  refine ⟨_, _, List.perm_append_comm, waitL s h x y o k0 j0 i0, oc, rfl, rfl, u, by show 5 ≤ 5; omega, fun L hL hr oc1 => ?_⟩
  have hL6 := wait_L u (by omega) (by omega) (by omega) hL
  generalize srtR (waitL s h x y o k0 j0 i0) = bb at hb M hL hr ⊢
  walk_at "st"
  have m3 : ∀ (i : Nat) (d : D), [D.str (sg y), .str (sg o), .str (sg s)][i]? = some d → ∃ z ∈ [y, o, s], d = .str (sg z) := fun i d hd => by
    have hd : ([y, o, s].map fun c => D.str (sg c))[i]? = some d := hd
    rw [List.getElem?_map] at hd
    obtain ⟨z, hz, rfl⟩ := Option.map_eq_some_iff.mp hd
    exact ⟨z, List.mem_of_getElem? hz, rfl⟩
  refine sw_perm List.perm_append_comm ?_
  refine sw_for (ei_tup ?_)
  walk_at "st"
  refine ⟨fun i G' W' => W' = W2 ++ tbW (cl 200) "_law_book.<locals>.<lambda>" ⟨371, 44, 371, 77⟩ oc1 ∧ ∃ o10 o12 o13, G' = [some (.adr a), none, some (natD (k0 + 1)), some (natD (j0 + 1)), some (natD (i0 + 1)), some (.str (sg s)), some (.str (sg h)), some (.str (sg x)), some (.str (sg y)), some (.str (sg o)), o10, some (bkD w bb L), o12, o13], ⟨rfl, _, _, _, rfl⟩, ?_, ?_⟩
  · rintro i d G' W' hdd ⟨rfl, o10, o12, o13, rfl⟩
    obtain ⟨z1, hz1, rfl⟩ := m3 i d hdd
    refine tg_name ?_
    refine sw_for (ei_tup ?_)
    walk_at "st"
    refine ⟨fun i G' W' => W' = W2 ++ tbW (cl 200) "_law_book.<locals>.<lambda>" ⟨371, 44, 371, 77⟩ oc1 ∧ ∃ o10 o13, G' = [some (.adr a), none, some (natD (k0 + 1)), some (natD (j0 + 1)), some (natD (i0 + 1)), some (.str (sg s)), some (.str (sg h)), some (.str (sg x)), some (.str (sg y)), some (.str (sg o)), o10, some (bkD w bb L), some (.str (sg z1)), o13], ⟨rfl, _, _, rfl⟩, ?_, ?_⟩
    · rintro i d G' W' hdd ⟨rfl, o10, o13, rfl⟩
      obtain ⟨z2, hz2, rfl⟩ := m3 i d hdd
      refine tg_name ?_
      walk_at "st"
      refine hand0 ⟨bb, L, (z1, z2), 0, true, 0, true, rfl, rfl, hb, hr, hL6, M.soft z1 hz1 z2 hz2, ?_⟩
      try simp only [List.nil_append]
      try walk_at "st"
      refine bo_neTold rfl ?_
      refine ⟨_, rfl, if_not (by decide) ?_⟩
      refine sw_next ?_
      exact ⟨rfl, _, _, rfl⟩
    · rintro G' W' ⟨rfl, o10, o13, rfl⟩
      exact ⟨rfl, _, _, _, rfl⟩
  rintro G' W' ⟨rfl, o10, o12, o13, rfl⟩
  walk_at "st"
  refine hand0 ⟨bb, L, (y, x), _, _, _, _, rfl, rfl, hb, hr, hL6, M.wx, ?_⟩
  try simp only [List.nil_append]
  try walk_at "st"
  rw [show ((k0 + 1 : Nat) : Int) + ((j0 + 1 : Nat) : Int) = ((k0 + 1 + (j0 + 1) : Nat) : Int) by omega]
  refine hand0 ⟨k0 + 1 + (j0 + 1), rfl, rfl, by omega, ?_⟩
  try simp only [List.nil_append]
  try walk_at "st"
  refine bo_neP (by omega) ?_
  refine ⟨_, rfl, if_not (by decide) ?_⟩
  refine sw_next ?_
  walk_at "st"
  refine hand0 ⟨bb, L, (x, o), _, _, _, _, rfl, rfl, hb, hr, hL6, M.xo, ?_⟩
  try simp only [List.nil_append]
  try walk_at "st"
  rw [show ((k0 + 1 : Nat) : Int) + ((i0 + 1 : Nat) : Int) = ((k0 + 1 + (i0 + 1) : Nat) : Int) by omega]
  refine hand0 ⟨k0 + 1, rfl, rfl, by omega, ?_⟩
  try simp only [List.nil_append]
  try walk_at "st"
  refine bo_neP (by omega) ?_
  refine ⟨_, rfl, if_not (by decide) ?_⟩
  refine sw_next ?_
  walk_at "st"
  refine hand0 ⟨bb, L, (o, h), _, _, _, _, rfl, rfl, hb, hr, hL6, M.oh, ?_⟩
  try simp only [List.nil_append]
  try walk_at "st"
  refine hand0 ⟨i0 + 1, rfl, rfl, by omega, ?_⟩
  try simp only [List.nil_append]
  try walk_at "st"
  refine bo_neP (by omega) ?_
  refine ⟨_, rfl, if_not (by decide) ?_⟩
  refine sw_next ?_
  walk_at "st"
  refine hand0 ⟨bb, L, (s, h), _, _, _, _, rfl, rfl, hb, hr, hL6, M.sh, ?_⟩
  try simp only [List.nil_append]
  try walk_at "st"
  refine bo_eqTold rfl ?_
  refine ⟨_, rfl, if_so rfl ?_⟩
  walk_at "st"
  refine ⟨bkNames, _, .obj _ _ _, by decide +kernel, ?_⟩
  walk_at "st"
  refine hand0 ⟨bb, L, (x, x), rfl, rfl, hb, M.xx.pr, by omega, fun n h1 h2 h3 => ?_⟩
  try simp only [List.nil_append]
  try walk_at "st"
  have en := M.xx.rest_eq hb hr h1 h2 h3
  rw [show n = k0 + 1 by omega]
  rw [decide_eq_true rfl]
  exact k W2 oc1 (DkC_mono hd2 (by omega))
end
section
abbrev s_law_asking_right : Stmt := top 71
theorem sc_law_asking_right : FnScope ["_law_deck_here", "_law_soft", "_law_hard", "_law_wait", "_law_helper", "_law_guard", "_law_rows", "_law_book_here"] ["_law_deck_here"] (defScope s_law_asking_right) := ⟨rfl, rfl, rfl, by decide +kernel, rfl, by decide +kernel, by decide +kernel⟩
theorem c_law_asking_right {P : Program} {w : World} {K : PySem.W.Frag} {mg : Str → Option Value} {base : Heap} {cl : Nat → Addr} {f : Addr} {fd : FuncData} (hm : mg "_law_asking_right" = some (.ref f)) (B : Blt mg) (Z : ZZ K w mg cl) (Fn : Fun K "_law_asking_right" "_law_asking_right" s_law_asking_right f fd)
    (c_law_names : Cal P w K mg base 3 "_law_names" (spN FK ⟨K, cl⟩ S_names76) [])
    (c_law_book : Cal P w K mg base 105 "_law_book" (spN FK ⟨K, cl⟩ (S_book76 w (cl 200) "_law_book.<locals>.<lambda>" ⟨371, 44, 371, 77⟩)) [])
    (c_law_told : Cal P w K mg base 67 "_law_told" (spN FK ⟨K, cl⟩ (S_told76 w)) [])
    (c_law_first : Cal P w K mg base 1 "_law_first" (spN FK ⟨K, cl⟩ S_first76) [])
    (c_yes : Cal P w K mg base 6 "yes" (spN FK ⟨K, cl⟩ S_yes) [])
    (c_no : Cal P w K mg base 5 "no" (spN FK ⟨K, cl⟩ S_no) [])
    (c_atom : Cal P w K mg base 5 "atom" (spN FK ⟨K, cl⟩ S_atom) [])
    (c_every : Cal P w K mg base 5 "every" (spN FK ⟨K, cl⟩ S_every) [])
    (o_inv : Opn P w K mg base 6 (cl 0) "__invert__" (spN FK ⟨K, cl⟩ S_inv))
    (mm_end5 : Met P w K mg base 9 (cl 5) "end" (spN FK ⟨K, cl⟩ (S_endBk w)) []) : Cal P w K mg base 106 "_law_asking_right" (spN FK ⟨K, cl⟩ (S_look76 (cl 200) "_law_book.<locals>.<lambda>" ⟨371, 44, 371, 77⟩)) [] := by
  have fz := Z.z0
  refine calD hm Fn sc_law_asking_right (by intro ds W post h; first | (obtain ⟨rfl, _⟩ := h; rfl) | (obtain ⟨_, rfl, _⟩ := h; rfl) | (obtain ⟨_, _, rfl, _⟩ := h; rfl) | (obtain ⟨_, _, _, rfl, _⟩ := h; rfl) | (obtain ⟨_, _, _, _, rfl, _⟩ := h; rfl) | (obtain ⟨_, _, _, _, _, rfl, _⟩ := h; rfl) | (obtain ⟨_, _, _, _, _, _, rfl, _⟩ := h; rfl) | (obtain ⟨_, _, _, _, _, _, _, rfl, _⟩ := h; rfl) | (obtain ⟨_, _, _, _, _, _, _, _, rfl, _⟩ := h; rfl) | (obtain ⟨_, _, _, _, _, _, _, _, _, rfl, _⟩ := h; rfl) | (obtain ⟨_, _, _, _, _, _, _, _, _, _, rfl, _⟩ := h; rfl) | (obtain ⟨_, _, _, _, _, _, _, _, _, _, _, rfl, _⟩ := h; rfl)) (fun _ _ _ _ _ _ us hl => match us, hl with | [_], _ => rfl) fun cdv A outer s H E hr => ⟨_, pss_cons (ps_asg (pe_c c_law_names hr (by omega) (by rfl) (pa_cons (pv 0) (pa_cons pe_int pa_nil))) (pg_lst (n := 5) rfl (pgs_cons (pg_name (i := 1) sc_law_asking_right.nd rfl (Or.inl rfl)) (pgs_cons (pg_name (i := 2) sc_law_asking_right.nd rfl (Or.inl rfl)) (pgs_cons (pg_name (i := 3) sc_law_asking_right.nd rfl (Or.inl rfl)) (pgs_cons (pg_name (i := 4) sc_law_asking_right.nd rfl (Or.inl rfl)) (pgs_cons (pg_name (i := 5) sc_law_asking_right.nd rfl (Or.inl rfl)) pgs_nil)))))))
 (pss_cons (ps_set (i := 6) sc_law_asking_right.nd rfl (Or.inl rfl) (pe_lst (pa_cons (pe_tup (pa_cons (pv 1) (pa_cons (pe_c0 c_yes hr (by omega) (by rfl)) pa_nil))) (pa_cons (pe_tup (pa_cons (pv 2) (pa_cons (pe_c0 c_no hr (by omega) (by rfl)) pa_nil))) (pa_cons (pe_tup (pa_cons (pv 3) (pa_cons (pe_c c_every hr (by omega) (by rfl) (pa_cons (pe_c c_atom hr (by omega) (by rfl) (pa_cons pe_str pa_nil)) pa_nil)) pa_nil))) (pa_cons (pe_tup (pa_cons (pv 4) (pa_cons (pe_c c_every hr (by omega) (by rfl) (pa_cons (pe_c c_atom hr (by omega) (by rfl) (pa_cons (pv 1) pa_nil)) pa_nil)) pa_nil))) pa_nil))))))
 (pss_cons (ps_set (i := 7) sc_law_asking_right.nd rfl (Or.inl rfl) (pe_c c_law_book hr (by omega) (by rfl) (pa_cons (pe_op op_cat (pv 6) (pe_lst (pa_cons (pe_tup (pa_cons (pv 5) (pa_cons (pe_c c_every hr (by omega) (by rfl) (pa_cons (pe_un (un_opn o_inv hr (by omega)) (pe_c c_atom hr (by omega) (by rfl) (pa_cons (pv 2) pa_nil))) pa_nil)) pa_nil))) pa_nil))) pa_nil)))
 (pss_cons (ps_if (pt_cmpR (op_neD hr.units) (pe_c c_law_told hr (by omega) (by rfl) (pa_cons (pv 7) (pa_cons (pv 4) (pa_cons (pv 3) pa_nil)))) (pe_tup (pa_cons (pe_tup (pa_cons pe_bl (pa_cons pe_bl pa_nil))) (pa_cons pe_int (pa_cons (pe_tup (pa_cons (pe_tup pa_nil) (pa_cons pe_bl pa_nil))) pa_nil)))) (nomark _)) (pss_one (ps_ret pe_bl)) (pss_nil))
 (pss_cons (ps_if (pt_cmpR (op_neD hr.units) (pe_c c_law_told hr (by omega) (by rfl) (pa_cons (pv 7) (pa_cons (pv 4) (pa_cons (pv 2) pa_nil)))) (pe_tup (pa_cons (pe_tup (pa_cons pe_bl (pa_cons pe_bl pa_nil))) (pa_cons pe_int (pa_cons (pe_c c_law_first hr (by omega) (by rfl) (pa_cons pe_int pa_nil)) pa_nil)))) (nomark _)) (pss_one (ps_ret pe_bl)) (pss_nil))
 (pss_cons (ps_if (pt_cmpR (op_neD hr.units) (pe_c c_law_told hr (by omega) (by rfl) (pa_cons (pv 7) (pa_cons (pv 5) (pa_cons (pv 2) pa_nil)))) (pe_tup (pa_cons (pe_tup (pa_cons pe_bl (pa_cons pe_bl pa_nil))) (pa_cons pe_int (pa_cons (pe_tup (pa_cons (pe_tup pa_nil) (pa_cons pe_bl pa_nil))) pa_nil)))) (nomark _)) (pss_one (ps_ret pe_bl)) (pss_nil))
 (pss_cons (ps_if (pt_cmpR (op_neD hr.units) (pe_c c_law_told hr (by omega) (by rfl) (pa_cons (pv 7) (pa_cons (pv 5) (pa_cons (pv 3) pa_nil)))) (pe_tup (pa_cons (pe_tup (pa_cons pe_bl (pa_cons pe_bl pa_nil))) (pa_cons pe_int (pa_cons (pe_c c_law_first hr (by omega) (by rfl) (pa_cons pe_int pa_nil)) pa_nil)))) (nomark _)) (pss_one (ps_ret pe_bl)) (pss_nil))
 (pss_one (ps_ret (pe_and (pe_cmpR (op_eqD hr.units) (pe_mt mm_end5 hr (by omega) (pv 7) (pa_cons (pv 5) (pa_cons (pv 1) pa_nil))) (pe_tup (pa_cons pe_bl (pa_cons pe_bl pa_nil))) (nomark _)) (pe_one (pe_cmpR (op_eqD hr.units) (pe_mt mm_end5 hr (by omega) (pv 7) (pa_cons (pv 4) (pa_cons (pv 1) pa_nil))) (pe_tup (pa_cons pe_bl (pa_cons pe_bl pa_nil))) (nomark _)))))))))))), ?_⟩
  rintro ds W post ⟨a, c, Wd, oc, rfl, rfl, hd, hc, k⟩
  try dsimp only [cxOf, Cx.nox, Cx.wish]
  have h16 := sizeLine_eq
  walk_at "st"
  refine ⟨Wd, _, List.Perm.refl _, a, _, 5, rfl, hd, by omega, by omega, fun cs W2 hcs nd cap hd2 => ?_⟩
  obtain ⟨s, h, y, p, g, rfl⟩ := len5 hcs
  refine ta_lstU rfl (tas_cons (ta_name (tas_cons (ta_name (tas_cons (ta_name (tas_cons (ta_name (tas_cons (ta_name (tas_nil ?_)))))))))))
  have u : PlyU (askL s h y p g) := ask_u nd cap
  have hb := u.bk (by show 5 ≤ 5; omega)
  have M := ask_ok u
  have ho : (Fm.at 111).okL := by show (65 ≤ 111 ∧ 111 ≤ 90) ∨ (97 ≤ 111 ∧ 111 ≤ 122); omega
  have hs : (Fm.at s).okL := .inl (cap s (by simp))
  have hh : (Fm.at h).okL := .inl (cap h (by simp))
  have ok1 : ∀ {f : Fm}, f.okL → f.many ≤ 40 → f.okF := fun h1 h2 => okF_many h1 (by omega)
  walk_at "st"
  refine hand0 ⟨rfl, rfl, ?_⟩
  try simp only [List.nil_append]
  try walk_at "st"
  refine hand0 ⟨rfl, rfl, ?_⟩
  try simp only [List.nil_append]
  try walk_at "st"
  refine hand0 ⟨111, rfl, rfl, ho, ?_⟩
  try simp only [List.nil_append]
  try walk_at "st"
  refine hand0 ⟨.at 111, rfl, rfl, ok1 ho (by decide), ?_⟩
  try simp only [List.nil_append]
  try walk_at "st"
  refine hand0 ⟨s, rfl, rfl, hs, ?_⟩
  try simp only [List.nil_append]
  try walk_at "st"
  refine hand0 ⟨.at s, rfl, rfl, ok1 hs (by simp [Fm.many]), ?_⟩
  try simp only [List.nil_append]
  try walk_at "st"
  refine hand0 ⟨h, rfl, rfl, hh, ?_⟩
  try simp only [List.nil_append]
  try walk_at "st"
  refine hand0 ⟨.at h, rfl, rfl, ok1 (f := Fm.neg (.at h)) ⟨hh, trivial⟩ (by simp [Fm.many, Fm.neg]), ?_⟩
  try simp only [List.nil_append]
  try walk_at "st"
  refine hand0 ⟨Fm.neg (.at h), rfl, rfl, ok1 (f := .all (Fm.neg (.at h))) ⟨hh, trivial⟩ (by simp [Fm.many, Fm.neg]), ?_⟩
  try simp only [List.nil_append]
  try walk_at "st"
  refine bo_cat (.inl rfl) (.inl rfl) (by show 5 ≤ _; omega) ?_
  walk_at "st"
  refine ⟨_, _, List.perm_append_comm, askL s h y p g, oc, rfl, rfl, u, by show 5 ≤ 5; omega, fun L hL hr oc1 => ?_⟩
  have hL6 := ask_L u hL
  generalize srtR (askL s h y p g) = bb at hb M hL hr ⊢
  refine sw_perm List.perm_append_comm ?_
  walk_at "st"
  refine hand0 ⟨bb, L, (p, y), _, _, _, _, rfl, rfl, hb, hr, hL6, M.pw, ?_⟩
  try simp only [List.nil_append]
  try walk_at "st"
  refine bo_neTold rfl ?_
  refine ⟨_, rfl, if_not (by decide) ?_⟩
  refine sw_next ?_
  walk_at "st"
  refine hand0 ⟨bb, L, (p, h), _, _, _, _, rfl, rfl, hb, hr, hL6, M.ph, ?_⟩
  try simp only [List.nil_append]
  try walk_at "st"
  refine hand0 ⟨1, rfl, rfl, by omega, ?_⟩
  try simp only [List.nil_append]
  try walk_at "st"
  refine bo_neTold rfl ?_
  refine ⟨_, rfl, if_not (by decide) ?_⟩
  refine sw_next ?_
  walk_at "st"
  refine hand0 ⟨bb, L, (g, h), _, _, _, _, rfl, rfl, hb, hr, hL6, M.gh, ?_⟩
  try simp only [List.nil_append]
  try walk_at "st"
  refine bo_neTold rfl ?_
  refine ⟨_, rfl, if_not (by decide) ?_⟩
  refine sw_next ?_
  walk_at "st"
  refine hand0 ⟨bb, L, (g, y), _, _, _, _, rfl, rfl, hb, hr, hL6, M.gw, ?_⟩
  try simp only [List.nil_append]
  try walk_at "st"
  refine hand0 ⟨1, rfl, rfl, by omega, ?_⟩
  try simp only [List.nil_append]
  try walk_at "st"
  refine bo_neTold rfl ?_
  refine ⟨_, rfl, if_not (by decide) ?_⟩
  refine sw_next ?_
  walk_at "st"
  obtain ⟨e1, e2⟩ := M.gs.end_ hb hr
  obtain ⟨e3, e4⟩ := M.ps.end_ hb hr
  refine ⟨bkNames, _, .obj _ _ _, by decide +kernel, ?_⟩
  walk_at "st"
  refine hand0 ⟨bb, L, (g, s), rfl, rfl, hb, M.gs.pr, by omega, ?_⟩
  try simp only [List.nil_append]
  try walk_at "st"
  rw [e1, e2]
  refine bo_eqPr ?_
  refine ⟨_, rfl, if_so rfl ?_⟩
  walk_at "st"
  refine ⟨bkNames, _, .obj _ _ _, by decide +kernel, ?_⟩
  walk_at "st"
  refine hand0 ⟨bb, L, (p, s), rfl, rfl, hb, M.ps.pr, by omega, ?_⟩
  try simp only [List.nil_append]
  try walk_at "st"
  rw [e3, e4]
  refine bo_eqPr ?_
  exact k W2 oc1 (DkC_mono hd2 (by omega))
end
section
abbrev s_law_answers_right : Stmt := top 72
theorem sc_law_answers_right : FnScope ["_law_deck_here", "_law_many", "_law_shy", "_law_late", "_law_odd", "_law_soft", "_law_rows", "_law_book_here"] ["_law_deck_here"] (defScope s_law_answers_right) := ⟨rfl, rfl, rfl, by decide +kernel, rfl, by decide +kernel, by decide +kernel⟩
theorem c_law_answers_right {P : Program} {w : World} {K : PySem.W.Frag} {mg : Str → Option Value} {base : Heap} {cl : Nat → Addr} {f : Addr} {fd : FuncData} (hm : mg "_law_answers_right" = some (.ref f)) (B : Blt mg) (Z : ZZ K w mg cl) (Fn : Fun K "_law_answers_right" "_law_answers_right" s_law_answers_right f fd)
    (c_law_draw : Cal P w K mg base 1 "_law_draw" (spN FK ⟨K, cl⟩ (S_draw DkC)) [])
    (c_law_names : Cal P w K mg base 3 "_law_names" (spN FK ⟨K, cl⟩ S_names76) [])
    (c_law_deep : Cal P w K mg base 6 "_law_deep" (spN FK ⟨K, cl⟩ S_deep76) [])
    (c_law_book : Cal P w K mg base 105 "_law_book" (spN FK ⟨K, cl⟩ (S_book76 w (cl 200) "_law_book.<locals>.<lambda>" ⟨371, 44, 371, 77⟩)) [])
    (c_law_told : Cal P w K mg base 67 "_law_told" (spN FK ⟨K, cl⟩ (S_told76 w)) [])
    (c_yes : Cal P w K mg base 6 "yes" (spN FK ⟨K, cl⟩ S_yes) [])
    (c_no : Cal P w K mg base 5 "no" (spN FK ⟨K, cl⟩ S_no) [])
    (c_atom : Cal P w K mg base 5 "atom" (spN FK ⟨K, cl⟩ S_atom) [])
    (c_every : Cal P w K mg base 5 "every" (spN FK ⟨K, cl⟩ S_every) [])
    (o_inv : Opn P w K mg base 6 (cl 0) "__invert__" (spN FK ⟨K, cl⟩ S_inv))
    (mm_end5 : Met P w K mg base 9 (cl 5) "end" (spN FK ⟨K, cl⟩ (S_endBk w)) []) : Cal P w K mg base 106 "_law_answers_right" (spN FK ⟨K, cl⟩ (S_look76 (cl 200) "_law_book.<locals>.<lambda>" ⟨371, 44, 371, 77⟩)) [] := by
  have fz := Z.z0
  refine calD hm Fn sc_law_answers_right (by intro ds W post h; first | (obtain ⟨rfl, _⟩ := h; rfl) | (obtain ⟨_, rfl, _⟩ := h; rfl) | (obtain ⟨_, _, rfl, _⟩ := h; rfl) | (obtain ⟨_, _, _, rfl, _⟩ := h; rfl) | (obtain ⟨_, _, _, _, rfl, _⟩ := h; rfl) | (obtain ⟨_, _, _, _, _, rfl, _⟩ := h; rfl) | (obtain ⟨_, _, _, _, _, _, rfl, _⟩ := h; rfl) | (obtain ⟨_, _, _, _, _, _, _, rfl, _⟩ := h; rfl) | (obtain ⟨_, _, _, _, _, _, _, _, rfl, _⟩ := h; rfl) | (obtain ⟨_, _, _, _, _, _, _, _, _, rfl, _⟩ := h; rfl) | (obtain ⟨_, _, _, _, _, _, _, _, _, _, rfl, _⟩ := h; rfl) | (obtain ⟨_, _, _, _, _, _, _, _, _, _, _, rfl, _⟩ := h; rfl)) (fun _ _ _ _ _ _ us hl => match us, hl with | [_], _ => rfl) fun cdv A outer s H E hr => ⟨_, pss_cons (ps_set (i := 1) sc_law_answers_right.nd rfl (Or.inl rfl) (pe_op op_add pe_int (pe_c c_law_draw hr (by omega) (by rfl) (pa_cons (pv 0) (pa_cons pe_int pa_nil)))))
 (pss_cons (ps_asg (pe_c c_law_names hr (by omega) (by rfl) (pa_cons (pv 0) (pa_cons pe_int pa_nil))) (pg_lst (n := 4) rfl (pgs_cons (pg_name (i := 2) sc_law_answers_right.nd rfl (Or.inl rfl)) (pgs_cons (pg_name (i := 3) sc_law_answers_right.nd rfl (Or.inl rfl)) (pgs_cons (pg_name (i := 4) sc_law_answers_right.nd rfl (Or.inl rfl)) (pgs_cons (pg_name (i := 5) sc_law_answers_right.nd rfl (Or.inl rfl)) pgs_nil))))))
 (pss_cons (ps_set (i := 6) sc_law_answers_right.nd rfl (Or.inl rfl) (pe_lst (pa_cons (pe_tup (pa_cons (pv 2) (pa_cons (pe_un (un_opn o_inv hr (by omega)) (pe_c c_every hr (by omega) (by rfl) (pa_cons (pe_un (un_opn o_inv hr (by omega)) (pe_c c_atom hr (by omega) (by rfl) (pa_cons pe_str pa_nil))) pa_nil))) pa_nil))) (pa_cons (pe_tup (pa_cons (pv 3) (pa_cons (pe_c c_law_deep hr (by omega) (by rfl) (pa_cons (pv 1) (pa_cons (pe_c0 c_no hr (by omega) (by rfl)) pa_nil))) pa_nil))) (pa_cons (pe_tup (pa_cons (pv 4) (pa_cons (pe_un (un_opn o_inv hr (by omega)) (pe_c c_every hr (by omega) (by rfl) (pa_cons (pe_c c_atom hr (by omega) (by rfl) (pa_cons pe_str pa_nil)) pa_nil))) pa_nil))) (pa_cons (pe_tup (pa_cons (pv 5) (pa_cons (pe_c0 c_yes hr (by omega) (by rfl)) pa_nil))) pa_nil))))))
 (pss_cons (ps_set (i := 7) sc_law_answers_right.nd rfl (Or.inl rfl) (pe_c c_law_book hr (by omega) (by rfl) (pa_cons (pv 6) pa_nil)))
 (pss_cons (ps_if (pt_cmpR (op_neD hr.units) (pe_c c_law_told hr (by omega) (by rfl) (pa_cons (pv 7) (pa_cons (pv 2) (pa_cons (pv 3) pa_nil)))) (pe_tup (pa_cons (pe_tup (pa_cons pe_bl (pa_cons pe_bl pa_nil))) (pa_cons (pe_callB (call_max2 rfl) (by rfl) B.max bt_max (pa_cons (pv 1) (pa_cons pe_int pa_nil))) (pa_cons (pe_tup (pa_cons (pe_tup (pa_cons pe_int pa_nil)) (pa_cons pe_bl pa_nil))) pa_nil)))) (nomark _)) (pss_one (ps_ret pe_bl)) (pss_nil))
 (pss_cons (ps_if (pt_cmpR (op_neD hr.units) (pe_c c_law_told hr (by omega) (by rfl) (pa_cons (pv 7) (pa_cons (pv 4) (pa_cons (pv 3) pa_nil)))) (pe_tup (pa_cons (pe_tup (pa_cons pe_bl (pa_cons pe_bl pa_nil))) (pa_cons (pe_op op_add (pv 1) pe_int) (pa_cons (pe_tup (pa_cons (pe_tupRg (by rfl) (by rfl) B.tuple (prg_1 (by rfl) B.range (pe_op op_add (pv 1) pe_int))) (pa_cons pe_bl pa_nil))) pa_nil)))) (nomark _)) (pss_one (ps_ret pe_bl)) (pss_nil))
 (pss_cons (ps_if (pt_cmpR (op_neD hr.units) (pe_c c_law_told hr (by omega) (by rfl) (pa_cons (pv 7) (pa_cons (pv 4) (pa_cons (pv 4) pa_nil)))) (pe_tup (pa_cons (pe_tup (pa_cons pe_bl (pa_cons pe_bl pa_nil))) (pa_cons pe_int (pa_cons (pe_tup (pa_cons (pe_tup (pa_cons pe_int pa_nil)) (pa_cons pe_bl pa_nil))) pa_nil)))) (nomark _)) (pss_one (ps_ret pe_bl)) (pss_nil))
 (pss_one (ps_ret (pe_and (pe_cmpR (op_eqD hr.units) (pe_c c_law_told hr (by omega) (by rfl) (pa_cons (pv 7) (pa_cons (pv 2) (pa_cons (pv 2) pa_nil)))) (pe_tup (pa_cons (pe_tup (pa_cons pe_bl (pa_cons pe_bl pa_nil))) (pa_cons pe_int (pa_cons (pe_tup (pa_cons (pe_tup pa_nil) (pa_cons pe_bl pa_nil))) pa_nil)))) (nomark _)) (pe_one (pe_cmpR (op_eqD hr.units) (pe_mt mm_end5 hr (by omega) (pv 7) (pa_cons (pv 4) (pa_cons (pv 5) pa_nil))) (pe_tup (pa_cons pe_bl (pa_cons pe_bl pa_nil))) (nomark _)))))))))))), ?_⟩
  rintro ds W post ⟨a, c, Wd, oc, rfl, rfl, hd, hc, k⟩
  try dsimp only [cxOf, Cx.nox, Cx.wish]
  have h16 := sizeLine_eq
  walk_at "st"
  refine ⟨Wd, _, List.Perm.refl _, a, _, 4, rfl, hd, by omega, by omega, by omega, fun z W1 z0 z1 hd1 => ?_⟩
  walk_at "st"
  refine ⟨W1, _, List.Perm.refl _, a, _, 4, rfl, hd1, by omega, by omega, fun cs W2 hcs nd cap hd2 => ?_⟩
  obtain ⟨k0, rfl⟩ := Int.eq_ofNat_of_zero_le z0
  rw [show (1 : Int) + ((k0 : Nat) : Int) = ((k0 + 1 : Nat) : Int) by omega]
  obtain ⟨y, x, d, s, rfl⟩ := len4 hcs
  refine ta_lstU rfl (tas_cons (ta_name (tas_cons (ta_name (tas_cons (ta_name (tas_cons (ta_name (tas_nil ?_)))))))))
  have u : PlyU (ansL y x d s k0) := ans_u nd cap (by omega)
  have hb := u.bk (by show 4 ≤ 5; omega)
  have M := ans_ok u (by omega)
  have ho : (Fm.at 111).okL := by show (65 ≤ 111 ∧ 111 ≤ 90) ∨ (97 ≤ 111 ∧ 111 ≤ 122); omega
  have ok1 : ∀ {f : Fm}, f.okL → f.many ≤ 40 → f.okF := fun h1 h2 => okF_many h1 (by omega)
  walk_at "st"
  refine hand0 ⟨111, rfl, rfl, ho, ?_⟩
  try simp only [List.nil_append]
  try walk_at "st"
  refine hand0 ⟨.at 111, rfl, rfl, ok1 (f := Fm.neg (.at 111)) ⟨ho, trivial⟩ (by decide), ?_⟩
  try simp only [List.nil_append]
  try walk_at "st"
  refine hand0 ⟨Fm.neg (.at 111), rfl, rfl, ok1 (f := .all (Fm.neg (.at 111))) ⟨ho, trivial⟩ (by decide), ?_⟩
  try simp only [List.nil_append]
  try walk_at "st"
  refine hand0 ⟨.all (Fm.neg (.at 111)), rfl, rfl, ok1 (f := Fm.neg (.all (Fm.neg (.at 111)))) ⟨⟨ho, trivial⟩, trivial⟩ (by decide), ?_⟩
  try simp only [List.nil_append]
  try walk_at "st"
  refine hand0 ⟨rfl, rfl, ?_⟩
  try simp only [List.nil_append]
  try walk_at "st"
  refine hand0 ⟨k0 + 1, .no, rfl, rfl, by omega, trivial, by decide, ?_⟩
  try simp only [List.nil_append]
  try walk_at "st"
  refine hand0 ⟨111, rfl, rfl, ho, ?_⟩
  try simp only [List.nil_append]
  try walk_at "st"
  refine hand0 ⟨.at 111, rfl, rfl, ok1 (f := .all (.at 111)) ho (by decide), ?_⟩
  try simp only [List.nil_append]
  try walk_at "st"
  refine hand0 ⟨.all (.at 111), rfl, rfl, ok1 (f := Fm.neg (.all (.at 111))) ⟨ho, trivial⟩ (by decide), ?_⟩
  try simp only [List.nil_append]
  try walk_at "st"
  refine hand0 ⟨rfl, rfl, ?_⟩
  try simp only [List.nil_append]
  try walk_at "st"
  refine ⟨_, _, List.perm_append_comm, ansL y x d s k0, oc, rfl, rfl, u, by show 4 ≤ 5; omega, fun L hL hr oc1 => ?_⟩
  have hL6 := ans_L u (by omega) hL
  generalize srtR (ansL y x d s k0) = bb at hb M hL hr ⊢
  refine sw_perm List.perm_append_comm ?_
  walk_at "st"
  refine hand0 ⟨bb, L, (y, x), _, _, _, _, rfl, rfl, hb, hr, hL6, M.yx, ?_⟩
  try simp only [List.nil_append]
  try walk_at "st"
  rw [show (if (1 : Int) > ((k0 + 1 : Nat) : Int) then (1 : Int) else ((k0 + 1 : Nat) : Int)) = ((max 1 (k0 + 1) : Nat) : Int) by split <;> omega]
  refine bo_neTold rfl ?_
  refine ⟨_, rfl, if_not (by decide) ?_⟩
  refine sw_next ?_
  walk_at "st"
  refine hand0 ⟨bb, L, (d, x), _, _, _, _, rfl, rfl, hb, hr, hL6, M.dx, ?_⟩
  try simp only [List.nil_append]
  try walk_at "st"
  refine ev_tupRg1 ?_
  walk_at "st"
  refine ⟨.of_le (by omega) (by omega) (by omega) (by omega), ?_⟩
  rw [rgV_nat (i := k0 + 1 + 1) (by omega)]
  walk_at "st"
  refine bo_neTold (t := k0 + 1 + 1) (c := true) (t' := k0 + 1) (c' := false) ?_ ?_
  · unfold toldD
    rw [show max (k0 + 1 + 1) (k0 + 1) = k0 + 1 + 1 by omega]
    rfl
  refine ⟨_, rfl, if_not (by decide) ?_⟩
  refine sw_next ?_
  walk_at "st"
  refine hand0 ⟨bb, L, (d, d), _, _, _, _, rfl, rfl, hb, hr, hL6, M.dd, ?_⟩
  try simp only [List.nil_append]
  try walk_at "st"
  refine bo_neTold rfl ?_
  refine ⟨_, rfl, if_not (by decide) ?_⟩
  refine sw_next ?_
  walk_at "st"
  refine hand0 ⟨bb, L, (y, y), _, _, _, _, rfl, rfl, hb, hr, hL6, M.yy, ?_⟩
  try simp only [List.nil_append]
  try walk_at "st"
  refine bo_eqTold rfl ?_
  refine ⟨_, rfl, if_so rfl ?_⟩
  walk_at "st"
  obtain ⟨e1, e2⟩ := M.ds.end_ hb hr
  refine ⟨bkNames, _, .obj _ _ _, by decide +kernel, ?_⟩
  walk_at "st"
  refine hand0 ⟨bb, L, (d, s), rfl, rfl, hb, M.ds.pr, by omega, ?_⟩
  try simp only [List.nil_append]
  try walk_at "st"
  rw [e1, e2]
  refine bo_eqPr ?_
  exact k W2 oc1 (DkC_mono hd2 (by omega))
end
section
abbrev s_law : Stmt := top 73
theorem sc_law : FnScope ["_law_script", "_law_deck_here", "_law_go"] ["_law_script"] (defScope s_law) := ⟨rfl, rfl, rfl, by decide +kernel, rfl, by decide +kernel, by decide +kernel⟩
theorem c_law {P : Program} {w : World} {K : PySem.W.Frag} {mg : Str → Option Value} {base : Heap} {cl : Nat → Addr} {f : Addr} {fd : FuncData} (B : Blt mg) (Z : ZZ K w mg cl) (Fn : Fun K "law" "law" s_law f fd)
    (c_law_deck : Cal P w K mg base 1 "_law_deck" (spN FK ⟨K, cl⟩ (S_deck DkC)) [])
    (c_law_waits_right : Cal P w K mg base 106 "_law_waits_right" (spN FK ⟨K, cl⟩ (S_look76 (cl 200) "_law_book.<locals>.<lambda>" ⟨371, 44, 371, 77⟩)) [])
    (c_law_asking_right : Cal P w K mg base 106 "_law_asking_right" (spN FK ⟨K, cl⟩ (S_look76 (cl 200) "_law_book.<locals>.<lambda>" ⟨371, 44, 371, 77⟩)) [])
    (c_law_answers_right : Cal P w K mg base 106 "_law_answers_right" (spN FK ⟨K, cl⟩ (S_look76 (cl 200) "_law_book.<locals>.<lambda>" ⟨371, 44, 371, 77⟩)) []) : FnOk P w K mg base CX0 107 f fd ["_law_script"] (spN FK ⟨K, cl⟩ (S_lawT (cl 200) "_law_book.<locals>.<lambda>" ⟨371, 44, 371, 77⟩)) := by
  have fz := Z.z0
  refine okD Fn sc_law (by intro ds W post h; first | (obtain ⟨rfl, _⟩ := h; rfl) | (obtain ⟨_, rfl, _⟩ := h; rfl) | (obtain ⟨_, _, rfl, _⟩ := h; rfl) | (obtain ⟨_, _, _, rfl, _⟩ := h; rfl) | (obtain ⟨_, _, _, _, rfl, _⟩ := h; rfl) | (obtain ⟨_, _, _, _, _, rfl, _⟩ := h; rfl) | (obtain ⟨_, _, _, _, _, _, rfl, _⟩ := h; rfl) | (obtain ⟨_, _, _, _, _, _, _, rfl, _⟩ := h; rfl) | (obtain ⟨_, _, _, _, _, _, _, _, rfl, _⟩ := h; rfl) | (obtain ⟨_, _, _, _, _, _, _, _, _, rfl, _⟩ := h; rfl) | (obtain ⟨_, _, _, _, _, _, _, _, _, _, rfl, _⟩ := h; rfl) | (obtain ⟨_, _, _, _, _, _, _, _, _, _, _, rfl, _⟩ := h; rfl)) fun cdv A outer s H E hr => ⟨_, pss_cons (ps_set (i := 1) sc_law.nd rfl (Or.inl rfl) (pe_c c_law_deck hr (by omega) (by rfl) (pa_cons (pv 0) pa_nil)))
 (pss_cons (ps_for PassesOwn.never rfl (pi_range1 (by rfl) B.range (pa_cons pe_int pa_nil)) (pg_name (i := 2) sc_law.nd rfl (Or.inl rfl)) (pss_one (ps_if (PW.pt (pw_or (pt_not (pt_val (pe_c c_law_waits_right hr (by omega) (by rfl) (pa_cons (pv 1) pa_nil)))) (pw_or (pt_not (pt_val (pe_c c_law_asking_right hr (by omega) (by rfl) (pa_cons (pv 1) pa_nil)))) (pw_or1 (pt_not (pt_val (pe_c c_law_answers_right hr (by omega) (by rfl) (pa_cons (pv 1) pa_nil)))))))) (pss_one (ps_ret pe_bl)) (pss_nil))))
 (pss_one (ps_ret pe_bl))), ?_⟩
  rintro ds W post ⟨ns, rfl, rfl, hl, k⟩
  try dsimp only [cxOf, Cx.nox, Cx.wish]
  have h16 := sizeLine_eq
  walk_at "st"
  refine hand0 ⟨ns, rfl, rfl, hl, fun a W1 hd1 => ?_⟩
  try simp only [List.nil_append]
  try walk_at "st"
  refine sw_for (ei_rng1 ?_)
  walk_at "st"
  refine ⟨by omega, by omega, fun i G' W' => ∃ (Wd : Om) (oc : Option Addr) (o2 : Option D), G' = [some (.scr (ns.map V.int)), some (.adr a), o2] ∧ W' = Wd ++ tbW (cl 200) "_law_book.<locals>.<lambda>" ⟨371, 44, 371, 77⟩ oc ∧ DkC a (30 * (i : Nat)) Wd, ⟨W1, none, _, rfl, rfl, by simpa using hd1⟩, ?_, ?_⟩
  · rintro i d G' W' hdd ⟨Wd, oc, o2, rfl, rfl, hd⟩
    have hi : i < 2 := (rng_get hdd).1
    refine tg_name ?_
    walk_at "st"
    refine handA ⟨a, _, Wd, oc, rfl, rfl, hd, by omega, fun W2 oc2 hd2 => ?_⟩
    try walk_at "st"
    refine handA ⟨a, _, W2, oc2, rfl, rfl, hd2, by omega, fun W3 oc3 hd3 => ?_⟩
    try walk_at "st"
    refine handA ⟨a, _, W3, oc3, rfl, rfl, hd3, by omega, fun W4 oc4 hd4 => ?_⟩
    try walk_at "st"
    exact ⟨W4, oc4, _, rfl, rfl, DkC_mono hd4 (by omega)⟩
  · rintro G' W' ⟨Wd, oc, o2, rfl, rfl, hd⟩
    walk_at "st"
    exact k _
theorem bd_law {K : PySem.W.Frag} {f : Addr} {fd : FuncData} (Fn : Fun K "law" "law" s_law f fd) (s : Shared) (u : Value) : BindsTo s fd ⟨[u], []⟩ [("_law_script", u)] := by
  obtain ⟨oc, od, kV, doc, pm, an, cdv, ct, osl, rfl, lk, hcd⟩ := Fn.ex
  exact BindsTo.of_eq rfl
end
end N
set_option Elab.async false
set_option linter.all false
set_option maxRecDepth 100000
namespace N
open PySem PySem.Spec PyProof.Rows L2
open C8 (Cal Met Mak InsC)
set_option maxHeartbeats 4000000
theorem all_mk {P : Program} {w : World} {K : PySem.W.Frag} {h base : Heap} {mg : Str → Option Value} (X : K.In h) (G : h.Ns mainGlobals mg) (hw : w = w)
    {C0 : Addr} {C5 : Addr} {C200 : Addr} {C201 : Addr}
    {t0 : PySem.Tok}
    {t1 : PySem.Tok}
    {t2 : PySem.Tok}
    {t3 : PySem.Tok}
    {t4 : PySem.Tok}
    {dd5 : Addr} {es5 : Array DictEntry} {en5 : Nat} {u5_0 : PySem.Tok} {u5_1 : PySem.Tok} {u5_2 : PySem.Tok} {u5_3 : PySem.Tok}
    {t6 : PySem.Tok}
    {t7 : PySem.Tok}
    {t8 : PySem.Tok}
    {t9 : PySem.Tok}
    {t10 : PySem.Tok}
    {t11 : PySem.Tok}
    {t12 : PySem.Tok}
    {t13 : PySem.Tok}
    {t14 : PySem.Tok}
    {t15 : PySem.Tok}
    {t16 : PySem.Tok}
    {f1 : Addr} {fd1 : FuncData}
    {f2 : Addr} {fd2 : FuncData}
    {f3 : Addr} {fd3 : FuncData}
    {f4 : Addr} {fd4 : FuncData}
    {f5 : Addr} {fd5 : FuncData}
    {f6 : Addr} {fd6 : FuncData}
    {f7 : Addr} {fd7 : FuncData}
    {f8 : Addr} {fd8 : FuncData}
    {f9 : Addr} {fd9 : FuncData}
    {f10 : Addr} {fd10 : FuncData}
    {f11 : Addr} {fd11 : FuncData}
    {f12 : Addr} {fd12 : FuncData}
    {f13 : Addr} {fd13 : FuncData}
    {f14 : Addr} {fd14 : FuncData}
    {pA15 : Addr} {pR15 : List Value}
    {f15 : Addr} {fd15 : FuncData}
    {f16 : Addr} {fd16 : FuncData}
    {f17 : Addr} {fd17 : FuncData}
    {f18 : Addr} {fd18 : FuncData}
    {f19 : Addr} {fd19 : FuncData}
    {f20 : Addr} {fd20 : FuncData}
    {f21 : Addr} {fd21 : FuncData}
    {f22 : Addr} {fd22 : FuncData}
    {f23 : Addr} {fd23 : FuncData}
    {f24 : Addr} {fd24 : FuncData}
    {f25 : Addr} {fd25 : FuncData}
    {f26 : Addr} {fd26 : FuncData}
    {f27 : Addr} {fd27 : FuncData}
    {f28 : Addr} {fd28 : FuncData}
    {f29 : Addr} {fd29 : FuncData}
    {f30 : Addr} {fd30 : FuncData}
    {f31 : Addr} {fd31 : FuncData}
    {f32 : Addr} {fd32 : FuncData}
    {f33 : Addr} {fd33 : FuncData}
    {f34 : Addr} {fd34 : FuncData}
    {f35 : Addr} {fd35 : FuncData}
    {f36 : Addr} {fd36 : FuncData}
    {f37 : Addr} {fd37 : FuncData}
    {f38 : Addr} {fd38 : FuncData}
    {f39 : Addr} {fd39 : FuncData}
    {f40 : Addr} {fd40 : FuncData}
    {f41 : Addr} {fd41 : FuncData}
    {f42 : Addr} {fd42 : FuncData}
    {f43 : Addr} {fd43 : FuncData}
    {f44 : Addr} {fd44 : FuncData}
    {f45 : Addr} {fd45 : FuncData}
    {f46 : Addr} {fd46 : FuncData}
    {f47 : Addr} {fd47 : FuncData}
    {f48 : Addr} {fd48 : FuncData}
    {f49 : Addr} {fd49 : FuncData}
    {f50 : Addr} {fd50 : FuncData}
    (z0 : PySem.W.nsIn K mainGlobals "len" = some none)
    (z1 : PySem.W.nsIn K mainGlobals "int" = some none)
    (z2 : PySem.W.nsIn K mainGlobals "str" = some none)
    (z3 : PySem.W.nsIn K mainGlobals "range" = some none)
    (z4 : PySem.W.nsIn K mainGlobals "list" = some none)
    (z5 : PySem.W.nsIn K mainGlobals "tuple" = some none)
    (z6 : PySem.W.nsIn K mainGlobals "dict" = some none)
    (z7 : PySem.W.nsIn K mainGlobals "set" = some none)
    (z8 : PySem.W.nsIn K mainGlobals "sorted" = some none)
    (z9 : PySem.W.nsIn K mainGlobals "isinstance" = some none)
    (z10 : PySem.W.nsIn K mainGlobals "repr" = some none)
    (z11 : PySem.W.nsIn K mainGlobals "max" = some none)
    (z12 : PySem.W.nsIn K mainGlobals "min" = some none)
    (z13 : PySem.W.nsIn K mainGlobals "sum" = some none)
    (z14 : PySem.W.nsIn K mainGlobals "all" = some none)
    (z15 : PySem.W.nsIn K mainGlobals "any" = some none)
    (z16 : PySem.W.nsIn K mainGlobals "zip" = some none)
    (z17 : PySem.W.nsIn K mainGlobals "enumerate" = some none)
    (z18 : PySem.W.nsIn K mainGlobals "bool" = some none)
    (z19 : PySem.W.nsIn K mainGlobals "reversed" = some none)
    (z20 : PySem.W.nsIn K mainGlobals "type" = some none)
    (s0 : PySem.W.nsIn K mainGlobals "LETTERS" = some (some (.str "ABCDEFGHIJKLMNOPQRSTUVWXYZabcdefghijklmnopqrstuvwxyz" t0)))
    (s1 : PySem.W.nsIn K mainGlobals "ATOM" = some (some (.str "atom" t1)))
    (s2 : PySem.W.nsIn K mainGlobals "NO" = some (some (.str "no" t2)))
    (s3 : PySem.W.nsIn K mainGlobals "IF_formulas" = some (some (.str "if" t3)))
    (s4 : PySem.W.nsIn K mainGlobals "ALL_formulas" = some (some (.str "all" t4)))
    (aP5 : PySem.W.nsIn K mainGlobals "PARTS_OF" = some (some (.ref dd5)))
    (lP5 : K.lookup dd5 = some ⟨.type "dict", none, .dict es5 en5, #[]⟩)
    (lit5 : PySem.W.KeysLit w.params es5.toList)
    (low5 : (dd5 == sysModules) = false)
    (p5_0 : PySem.W.nsIn K dd5 "atom" = some (some (.int 1 u5_0)))
    (p5_1 : PySem.W.nsIn K dd5 "no" = some (some (.int 0 u5_1)))
    (p5_2 : PySem.W.nsIn K dd5 "if" = some (some (.int 2 u5_2)))
    (p5_3 : PySem.W.nsIn K dd5 "all" = some (some (.int 1 u5_3)))
    (s6 : PySem.W.nsIn K mainGlobals "ALL_AHEAD" = some (some (.str "all " t6)))
    (s7 : PySem.W.nsIn K mainGlobals "BETWEEN" = some (some (.str " > " t7)))
    (s8 : PySem.W.nsIn K mainGlobals "ALL_heights" = some (some (.str "all" t8)))
    (s9 : PySem.W.nsIn K mainGlobals "IF_heights" = some (some (.str "if" t9)))
    (s10 : PySem.W.nsIn K mainGlobals "PAIR_PARTS" = some (some (.int 2 t10)))
    (s11 : PySem.W.nsIn K mainGlobals "CAPITALS" = some (some (.str "ABCDEFGHIJKLMNOPQRSTUVWXYZ" t11)))
    (s12 : PySem.W.nsIn K mainGlobals "ROWS" = some (some (.str "rows" t12)))
    (s13 : PySem.W.nsIn K mainGlobals "ORDER" = some (some (.str "order" t13)))
    (s14 : PySem.W.nsIn K mainGlobals "MINE" = some (some (.str "m" t14)))
    (s15 : PySem.W.nsIn K mainGlobals "OTHERS" = some (some (.str "o" t15)))
    (s16 : PySem.W.nsIn K mainGlobals "MOST_PLAYERS" = some (some (.int 5 t16)))
    (aC0 : PySem.W.nsIn K mainGlobals "Formula" = some (some (.ref C0)))
    (pg0 : PySem.W.plainGet K C0 Str.empty = true)
    (hd0 : PySem.W.hasDictIn K C0 = true)
    (po0 : PySem.W.plainOver K C0 = true)
    (sa0 : PySem.W.findIn K (.ref C0) "__setattr__" = some (some (.builtin "object.__setattr__")))
    (mk0 : PySem.W.makesIn K C0 = true)
    (kc0 : PySem.W.keepIn K (.ref C0) = true)
    (n0_0 : PySem.W.findIn K (.ref C0) "kind" = some none)
    (n0_1 : PySem.W.findIn K (.ref C0) "parts" = some none)
    (n0_2 : PySem.W.findIn K (.ref C0) "many" = some none)
    (n0_3 : PySem.W.findIn K (.ref C0) "deepest" = some none)
    (n0_4 : PySem.W.findIn K (.ref C0) "atoms" = some none)
    (n0_5 : PySem.W.findIn K (.ref C0) "bare" = some none)
    (n0_6 : PySem.W.findIn K (.ref C0) "spelled" = some none)
    (n0_7 : PySem.W.findIn K (.ref C0) "alls_known" = some none)
    (ha0 : PySem.W.findIn K (.ref C0) "__class__" = some (some (.builtin "object.__class__")))
    (hn0 : PySem.W.specialIn K (.builtin "object.__class__") "__get__" = some (some (.builtin "getset_descriptor.__get__")))
    (htk0 : PySem.W.takesIn K (.builtin "object.__class__") = some true)
    (hmo0 : PySem.W.mroIn K C0 (.type "object") = some true)
    (me0 : PySem.W.kitOne K (.ref C0) (.ref C0) = some true)
    (sf0 : PySem.W.selfFirst K C0 = true)
    (is0 : PySem.W.kitOne K (.type "str") (.ref C0) = some false)
    (aC5 : PySem.W.nsIn K mainGlobals "Book" = some (some (.ref C5)))
    (pg5 : PySem.W.plainGet K C5 Str.empty = true)
    (hd5 : PySem.W.hasDictIn K C5 = true)
    (po5 : PySem.W.plainOver K C5 = true)
    (sa5 : PySem.W.findIn K (.ref C5) "__setattr__" = some (some (.builtin "object.__setattr__")))
    (mk5 : PySem.W.makesIn K C5 = true)
    (kc5 : PySem.W.keepIn K (.ref C5) = true)
    (n5_0 : PySem.W.findIn K (.ref C5) "forms_by_name" = some none)
    (n5_1 : PySem.W.findIn K (.ref C5) "levels_played" = some none)
    (ha5 : PySem.W.findIn K (.ref C5) "__class__" = some (some (.builtin "object.__class__")))
    (hn5 : PySem.W.specialIn K (.builtin "object.__class__") "__get__" = some (some (.builtin "getset_descriptor.__get__")))
    (htk5 : PySem.W.takesIn K (.builtin "object.__class__") = some true)
    (hmo5 : PySem.W.mroIn K C5 (.type "object") = some true)
    (me5 : PySem.W.kitOne K (.ref C5) (.ref C5) = some true)
    (sf5 : PySem.W.selfFirst K C5 = true)
    (is5 : PySem.W.kitOne K (.type "str") (.ref C5) = some false)
    (zn_ord : PySem.W.nsIn K mainGlobals "ord" = some none)
    (a1 : PySem.W.nsIn K mainGlobals "united" = some (some (.ref f1)))
    (F1 : Fun K "united" "united" s_united f1 fd1)
    (a2 : PySem.W.nsIn K mainGlobals "merged" = some (some (.ref f2)))
    (F2 : Fun K "merged" "merged" s_merged f2 fd2)
    (a3 : PySem.W.nsIn K mainGlobals "is_atom" = some (some (.ref f3)))
    (F3 : Fun K "is_atom" "is_atom" s_is_atom f3 fd3)
    (a4 : PySem.W.findIn K (.ref C0) "__init__" = some (some (.ref f4)))
    (i4 : PySem.W.isFn K (.ref f4) = true)
    (F4 : Fun K "__init__" "Formula.__init__" s_Formula___init__ f4 fd4)
    (k4 : PySem.W.keepIn K (.ref f4) = true)
    (a5 : PySem.W.nsIn K mainGlobals "no" = some (some (.ref f5)))
    (F5 : Fun K "no" "no" s_no f5 fd5)
    (a6 : PySem.W.nsIn K mainGlobals "every" = some (some (.ref f6)))
    (F6 : Fun K "every" "every" s_every f6 fd6)
    (a7 : PySem.W.nsIn K mainGlobals "as_formula" = some (some (.ref f7)))
    (F7 : Fun K "as_formula" "as_formula" s_as_formula f7 fd7)
    (a8 : PySem.W.nsIn K mainGlobals "operand" = some (some (.ref f8)))
    (F8 : Fun K "operand" "operand" s_operand f8 fd8)
    (a9 : PySem.W.findIn K (.ref C0) "__invert__" = some (some (.ref f9)))
    (i9 : PySem.W.isFn K (.ref f9) = true)
    (F9 : Fun K "__invert__" "Formula.__invert__" s_Formula___invert__ f9 fd9)
    (k9 : PySem.W.keepIn K (.ref f9) = true)
    (a10 : PySem.W.nsIn K mainGlobals "both" = some (some (.ref f10)))
    (F10 : Fun K "both" "both" s_both f10 fd10)
    (a11 : PySem.W.nsIn K mainGlobals "either" = some (some (.ref f11)))
    (F11 : Fun K "either" "either" s_either f11 fd11)
    (a12 : PySem.W.findIn K (.ref C0) "__and__" = some (some (.ref f12)))
    (i12 : PySem.W.isFn K (.ref f12) = true)
    (F12 : Fun K "__and__" "Formula.__and__" s_Formula___and__ f12 fd12)
    (k12 : PySem.W.keepIn K (.ref f12) = true)
    (a13 : PySem.W.findIn K (.ref C0) "__or__" = some (some (.ref f13)))
    (i13 : PySem.W.isFn K (.ref f13) = true)
    (F13 : Fun K "__or__" "Formula.__or__" s_Formula___or__ f13 fd13)
    (k13 : PySem.W.keepIn K (.ref f13) = true)
    (a14 : PySem.W.findIn K (.ref C0) "__str__" = some (some (.ref f14)))
    (i14 : PySem.W.isFn K (.ref f14) = true)
    (F14 : Fun K "__str__" "Formula.__str__" s_Formula___str__ f14 fd14)
    (k14 : PySem.W.keepIn K (.ref f14) = true)
    (a15 : PySem.W.findIn K (.ref C0) "alls" = some (some (.ref pA15)))
    (pg_15 : PySem.W.specialIn K (.ref pA15) "__get__" = some (some (.builtin "property.__get__")))
    (pt_15 : PySem.W.takesIn K (.ref pA15) = some true)
    (pr_15 : PySem.W.recIn K pA15 "property" = some (.ref f15 :: pR15))
    (F15 : Fun K "alls" "Formula.alls" s_Formula_alls f15 fd15)
    (a16 : PySem.W.nsIn K mainGlobals "yes" = some (some (.ref f16)))
    (F16 : Fun K "yes" "yes" s_yes f16 fd16)
    (a17 : PySem.W.nsIn K mainGlobals "atom" = some (some (.ref f17)))
    (F17 : Fun K "atom" "atom" s_atom f17 fd17)
    (a18 : PySem.W.nsIn K mainGlobals "holds_below" = some (some (.ref f18)))
    (F18 : Fun K "holds_below" "holds_below" s_holds_below f18 fd18)
    (a19 : PySem.W.nsIn K mainGlobals "formula_for" = some (some (.ref f19)))
    (F19 : Fun K "formula_for" "formula_for" s_formula_for f19 fd19)
    (a20 : PySem.W.nsIn K mainGlobals "held" = some (some (.ref f20)))
    (F20 : Fun K "held" "held" s_held f20 fd20)
    (a21 : PySem.W.nsIn K mainGlobals "values_by_heights" = some (some (.ref f21)))
    (F21 : Fun K "values_by_heights" "values_by_heights" s_values_by_heights f21 fd21)
    (a22 : PySem.W.nsIn K mainGlobals "trace" = some (some (.ref f22)))
    (F22 : Fun K "trace" "trace" s_trace f22 fd22)
    (a23 : PySem.W.nsIn K mainGlobals "is_mark" = some (some (.ref f23)))
    (F23 : Fun K "is_mark" "is_mark" s_is_mark f23 fd23)
    (a24 : PySem.W.nsIn K mainGlobals "is_rule" = some (some (.ref f24)))
    (F24 : Fun K "is_rule" "is_rule" s_is_rule f24 fd24)
    (a25 : PySem.W.nsIn K mainGlobals "holds_by" = some (some (.ref f25)))
    (F25 : Fun K "holds_by" "holds_by" s_holds_by f25 fd25)
    (a26 : PySem.W.nsIn K mainGlobals "inner_by_text" = some (some (.ref f26)))
    (F26 : Fun K "inner_by_text" "inner_by_text" s_inner_by_text f26 fd26)
    (a27 : PySem.W.nsIn K mainGlobals "state_behind" = some (some (.ref f27)))
    (F27 : Fun K "state_behind" "state_behind" s_state_behind f27 fd27)
    (a28 : PySem.W.nsIn K mainGlobals "levels_of" = some (some (.ref f28)))
    (F28 : Fun K "levels_of" "levels_of" s_levels_of f28 fd28)
    (a29 : PySem.W.nsIn K mainGlobals "are_ascending" = some (some (.ref f29)))
    (F29 : Fun K "are_ascending" "are_ascending" s_are_ascending f29 fd29)
    (a30 : PySem.W.nsIn K mainGlobals "is_player" = some (some (.ref f30)))
    (F30 : Fun K "is_player" "is_player" s_is_player f30 fd30)
    (a31 : PySem.W.nsIn K mainGlobals "check_rows" = some (some (.ref f31)))
    (F31 : Fun K "check_rows" "check_rows" s_check_rows f31 fd31)
    (a32 : PySem.W.findIn K (.ref C5) "__init__" = some (some (.ref f32)))
    (i32 : PySem.W.isFn K (.ref f32) = true)
    (F32 : Fun K "__init__" "Book.__init__" s_Book___init__ f32 fd32)
    (k32 : PySem.W.keepIn K (.ref f32) = true)
    (a33 : PySem.W.findIn K (.ref C5) "check_known" = some (some (.ref f33)))
    (i33 : PySem.W.isFn K (.ref f33) = true)
    (F33 : Fun K "check_known" "Book.check_known" s_Book_check_known f33 fd33)
    (k33 : PySem.W.keepIn K (.ref f33) = true)
    (a34 : PySem.W.findIn K (.ref C5) "deeds_of" = some (some (.ref f34)))
    (i34 : PySem.W.isFn K (.ref f34) = true)
    (F34 : Fun K "deeds_of" "Book.deeds_of" s_Book_deeds_of f34 fd34)
    (k34 : PySem.W.keepIn K (.ref f34) = true)
    (a35 : PySem.W.findIn K (.ref C5) "end" = some (some (.ref f35)))
    (i35 : PySem.W.isFn K (.ref f35) = true)
    (F35 : Fun K "end" "Book.end" s_Book_end f35 fd35)
    (k35 : PySem.W.keepIn K (.ref f35) = true)
    (a36 : PySem.W.findIn K (.ref C5) "rest" = some (some (.ref f36)))
    (i36 : PySem.W.isFn K (.ref f36) = true)
    (F36 : Fun K "rest" "Book.rest" s_Book_rest f36 fd36)
    (k36 : PySem.W.keepIn K (.ref f36) = true)
    (a37 : PySem.W.nsIn K mainGlobals "_law_deck" = some (some (.ref f37)))
    (F37 : Fun K "_law_deck" "_law_deck" s_law_deck f37 fd37)
    (a38 : PySem.W.nsIn K mainGlobals "_law_draw" = some (some (.ref f38)))
    (F38 : Fun K "_law_draw" "_law_draw" s_law_draw f38 fd38)
    (a39 : PySem.W.nsIn K mainGlobals "_law_pick" = some (some (.ref f39)))
    (F39 : Fun K "_law_pick" "_law_pick" s_law_pick f39 fd39)
    (a40 : PySem.W.nsIn K mainGlobals "row_formula" = some (some (.ref f40)))
    (F40 : Fun K "row_formula" "row_formula" s_row_formula f40 fd40)
    (a41 : PySem.W.findIn K (.ref C5) "form" = some (some (.ref f41)))
    (i41 : PySem.W.isFn K (.ref f41) = true)
    (F41 : Fun K "form" "Book.form" s_Book_form f41 fd41)
    (k41 : PySem.W.keepIn K (.ref f41) = true)
    (a42 : PySem.W.nsIn K mainGlobals "_law_deep" = some (some (.ref f42)))
    (F42 : Fun K "_law_deep" "_law_deep" s_law_deep f42 fd42)
    (a43 : PySem.W.nsIn K mainGlobals "_law_first" = some (some (.ref f43)))
    (F43 : Fun K "_law_first" "_law_first" s_law_first f43 fd43)
    (a44 : PySem.W.nsIn K mainGlobals "_law_told" = some (some (.ref f44)))
    (F44 : Fun K "_law_told" "_law_told" s_law_told f44 fd44)
    (a45 : PySem.W.nsIn K mainGlobals "_law_book" = some (some (.ref f45)))
    (F45 : Fun K "_law_book" "_law_book" s_law_book f45 fd45)
    (hcc45 : fd45.code = .ref C201)
    (a46 : PySem.W.nsIn K mainGlobals "_law_names" = some (some (.ref f46)))
    (F46 : Fun K "_law_names" "_law_names" s_law_names f46 fd46)
    (a47 : PySem.W.nsIn K mainGlobals "_law_waits_right" = some (some (.ref f47)))
    (F47 : Fun K "_law_waits_right" "_law_waits_right" s_law_waits_right f47 fd47)
    (a48 : PySem.W.nsIn K mainGlobals "_law_asking_right" = some (some (.ref f48)))
    (F48 : Fun K "_law_asking_right" "_law_asking_right" s_law_asking_right f48 fd48)
    (a49 : PySem.W.nsIn K mainGlobals "_law_answers_right" = some (some (.ref f49)))
    (F49 : Fun K "_law_answers_right" "_law_answers_right" s_law_answers_right f49 fd49)
    (a50 : PySem.W.nsIn K mainGlobals "law" = some (some (.ref f50)))
    (F50 : Fun K "law" "law" s_law f50 fd50)
    (TB : LamX.TabB base mg C201 C200) :
    FnOk P w K mg base CX0 107 f50 fd50 ["_law_script"] (spTopT K C200) := by
  let cl : Nat → Addr := fun i => if i = 0 then C0 else if i = 5 then C5 else if i = 200 then C200 else C201
  have B : Blt mg := ⟨PySem.W.mg_none_of X G z0, PySem.W.mg_none_of X G z1, PySem.W.mg_none_of X G z2, PySem.W.mg_none_of X G z3, PySem.W.mg_none_of X G z4, PySem.W.mg_none_of X G z5, PySem.W.mg_none_of X G z6, PySem.W.mg_none_of X G z7, PySem.W.mg_none_of X G z8, PySem.W.mg_none_of X G z9, PySem.W.mg_none_of X G z10, PySem.W.mg_none_of X G z11, PySem.W.mg_none_of X G z12, PySem.W.mg_none_of X G z13, PySem.W.mg_none_of X G z14, PySem.W.mg_none_of X G z15, PySem.W.mg_none_of X G z16, PySem.W.mg_none_of X G z17, PySem.W.mg_none_of X G z18, PySem.W.mg_none_of X G z19, PySem.W.mg_none_of X G z20⟩
  have cz0 : CZ K C0 fmNames := ⟨⟨pg0, hd0, po0, sa0⟩, fun n hn => by
    simp only [fmNames, List.mem_cons, List.not_mem_nil, or_false] at hn
    rcases hn with e | e | e | e | e | e | e | e
    · rw [e]; exact n0_0
    · rw [e]; exact n0_1
    · rw [e]; exact n0_2
    · rw [e]; exact n0_3
    · rw [e]; exact n0_4
    · rw [e]; exact n0_5
    · rw [e]; exact n0_6
    · rw [e]; exact n0_7, ⟨⟨pg0, hd0, po0, sa0⟩, ha0, hn0, htk0, hmo0, me0⟩, sf0, is0⟩
  have cz5 : CZ K C5 bkNames := ⟨⟨pg5, hd5, po5, sa5⟩, fun n hn => by
    simp only [bkNames, List.mem_cons, List.not_mem_nil, or_false] at hn
    rcases hn with e | e
    · rw [e]; exact n5_0
    · rw [e]; exact n5_1, ⟨⟨pg5, hd5, po5, sa5⟩, ha5, hn5, htk5, hmo5, me5⟩, sf5, is5⟩
  have Z : ZZ K w mg cl := ⟨⟨_, PySem.W.mg_of X G s0, _, rfl⟩, ⟨_, PySem.W.mg_of X G s1, _, rfl⟩, ⟨_, PySem.W.mg_of X G s2, _, rfl⟩, ⟨_, PySem.W.mg_of X G s3, _, rfl⟩, ⟨_, PySem.W.mg_of X G s4, _, rfl⟩, dd5, es5, en5, PySem.W.mg_of X G aP5, ⟨lP5, lit5, low5⟩, ⟨_, p5_0⟩, ⟨_, p5_1⟩, ⟨_, p5_2⟩, ⟨_, p5_3⟩, ⟨_, PySem.W.mg_of X G s6, _, rfl⟩, ⟨_, PySem.W.mg_of X G s7, _, rfl⟩, ⟨_, PySem.W.mg_of X G s8, _, rfl⟩, ⟨_, PySem.W.mg_of X G s9, _, rfl⟩, ⟨_, PySem.W.mg_of X G s10, _, rfl⟩, ⟨_, PySem.W.mg_of X G s11, _, rfl⟩, ⟨_, PySem.W.mg_of X G s12, _, rfl⟩, ⟨_, PySem.W.mg_of X G s13, _, rfl⟩, ⟨_, PySem.W.mg_of X G s14, _, rfl⟩, ⟨_, PySem.W.mg_of X G s15, _, rfl⟩, ⟨_, PySem.W.mg_of X G s16, _, rfl⟩, PySem.W.mg_of X G aC0, cz0, PySem.W.mg_of X G aC5, cz5, PySem.W.mg_none_of X G zn_ord⟩
  have q_c_united := c_united (P := P) (base := base) (cl := cl) (PySem.W.mg_of X G a1) B Z F1 
  have q_c_merged := c_merged (P := P) (base := base) (cl := cl) (PySem.W.mg_of X G a2) B Z F2 
  have q_c_is_atom := c_is_atom (P := P) (base := base) (cl := cl) (PySem.W.mg_of X G a3) B Z F3 
  have q_m_Formula := m_Formula (P := P) (base := base) (cl := cl) ⟨mk0, a4, i4, kc0⟩ B Z F4 q_c_united q_c_merged q_c_is_atom
  have q_c_no := c_no (P := P) (base := base) (cl := cl) (PySem.W.mg_of X G a5) B Z F5 q_m_Formula
  have q_c_every := c_every (P := P) (base := base) (cl := cl) (PySem.W.mg_of X G a6) B Z F6 q_m_Formula
  have q_c_as_formula := c_as_formula (P := P) (base := base) (cl := cl) (PySem.W.mg_of X G a7) B Z F7 q_c_is_atom q_m_Formula
  have q_c_operand := c_operand (P := P) (base := base) (cl := cl) (PySem.W.mg_of X G a8) B Z F8 q_c_as_formula
  have q_o_inv := o_inv (P := P) (base := base) (cl := cl) ⟨a9, i9⟩ B Z F9 q_m_Formula q_c_no
  have q_c_both := c_both (P := P) (base := base) (cl := cl) (PySem.W.mg_of X G a10) B Z F10 q_m_Formula q_o_inv
  have q_c_either := c_either (P := P) (base := base) (cl := cl) (PySem.W.mg_of X G a11) B Z F11 q_m_Formula q_o_inv
  have q_o_and := o_and (P := P) (base := base) (cl := cl) ⟨a12, i12⟩ B Z F12 q_c_operand q_c_both
  have q_o_or := o_or (P := P) (base := base) (cl := cl) ⟨a13, i13⟩ B Z F13 q_c_operand q_c_either
  have q_o_str := o_str (P := P) (base := base) (cl := cl) ⟨a14, i14⟩ B Z F14 
  have q_p_alls := p_alls (P := P) (base := base) (cl := cl) ⟨a15, pg_15, pt_15, ⟨_, pr_15⟩⟩ B Z F15 
  have q_c_yes := c_yes (P := P) (base := base) (cl := cl) (PySem.W.mg_of X G a16) B Z F16 q_m_Formula q_c_no
  have q_c_atom := c_atom (P := P) (base := base) (cl := cl) (PySem.W.mg_of X G a17) B Z F17 q_c_is_atom q_m_Formula
  have q_c_holds_below := c_holds_below (P := P) (base := base) (cl := cl) (PySem.W.mg_of X G a18) B Z F18 q_c_no q_c_every
  have qx_c_formula_for := c_formula_for (P := P) (base := base) (cl := cl) (PySem.W.mg_of X G a19) B Z F19 q_c_no q_c_holds_below q_o_inv q_o_and q_o_or
  have q_c_formula_for := qx_c_formula_for.1
  have q_k_formula_for := qx_c_formula_for.2
  have q_c_held := c_held (P := P) (base := base) (cl := cl) (PySem.W.mg_of X G a20) B Z F20 q_o_str
  have q_c_values_by_heights := c_values_by_heights (P := P) (base := base) (cl := cl) (PySem.W.mg_of X G a21) B Z F21 q_o_str q_p_alls (q_c_held 60)
  have qx_c_trace := c_trace (P := P) (base := base) (cl := cl) (PySem.W.mg_of X G a22) B Z F22 q_c_values_by_heights
  have q_c_trace := qx_c_trace.1
  have q_k_trace := qx_c_trace.2
  have q_c_is_mark := c_is_mark (P := P) (base := base) (cl := cl) (PySem.W.mg_of X G a23) B Z F23 q_c_is_atom
  have q_c_is_rule := c_is_rule (P := P) (base := base) (cl := cl) (PySem.W.mg_of X G a24) B Z F24 q_c_is_mark q_c_is_atom
  have q_c_holds_by := c_holds_by (P := P) (base := base) (cl := cl) (PySem.W.mg_of X G a25) B Z F25 q_o_str
  have q_c_inner_by_text := c_inner_by_text (P := P) (base := base) (cl := cl) (PySem.W.mg_of X G a26) B Z F26 q_o_str q_p_alls
  have q_c_state_behind := c_state_behind (P := P) (base := base) (cl := cl) (PySem.W.mg_of X G a27) B Z F27 (q_c_holds_by 95)
  have q_c_levels_of := c_levels_of (P := P) (base := base) (cl := cl) (PySem.W.mg_of X G a28) B Z F28 q_c_inner_by_text (q_c_holds_by 95) q_c_state_behind
  have q_c_are_ascending := c_are_ascending (P := P) (base := base) (cl := cl) (PySem.W.mg_of X G a29) B Z F29 
  have q_c_is_player := c_is_player (P := P) (base := base) (cl := cl) (PySem.W.mg_of X G a30) B Z F30 
  have q_c_check_rows := c_check_rows (P := P) (base := base) (cl := cl) (PySem.W.mg_of X G a31) B Z F31 q_c_is_rule q_c_as_formula q_c_are_ascending q_c_is_player
  have q_m_Book := m_Book (P := P) (base := base) (cl := cl) ⟨mk5, a32, i32, kc5⟩ B Z F32 q_c_check_rows q_c_levels_of q_c_as_formula
  have q_mm_check_known5 := mm_check_known5 (P := P) (base := base) (cl := cl) ⟨a33, i33, k33⟩ B Z F33 q_c_is_mark
  have q_mm_deeds_of5 := mm_deeds_of5 (P := P) (base := base) (cl := cl) ⟨a34, i34, k34⟩ B Z F34 q_mm_check_known5
  have q_mm_end5 := mm_end5 (P := P) (base := base) (cl := cl) ⟨a35, i35, k35⟩ B Z F35 q_mm_deeds_of5
  have q_mm_rest5 := mm_rest5 (P := P) (base := base) (cl := cl) ⟨a36, i36, k36⟩ B Z F36 q_mm_deeds_of5
  have q_c_law_deck := c_law_deck (P := P) (base := base) (cl := cl) (PySem.W.mg_of X G a37) B Z F37 
  have q_c_law_draw := c_law_draw (P := P) (base := base) (cl := cl) (PySem.W.mg_of X G a38) B Z F38 
  have q_c_law_pick := c_law_pick (P := P) (base := base) (cl := cl) (PySem.W.mg_of X G a39) B Z F39 q_c_law_draw
  have q_c_row_formula := c_row_formula (P := P) (base := base) (cl := cl) (PySem.W.mg_of X G a40) B Z F40 q_c_formula_for
  have q_mm_form5 := mm_form5 (P := P) (base := base) (cl := cl) ⟨a41, i41, k41⟩ B Z F41 q_mm_deeds_of5 q_c_row_formula
  have q_c_law_deep := c_law_deep (P := P) (base := base) (cl := cl) (PySem.W.mg_of X G a42) B Z F42 q_c_every
  have q_c_law_first := c_law_first (P := P) (base := base) (cl := cl) (PySem.W.mg_of X G a43) B Z F43 
  have q_c_law_told := c_law_told (P := P) (base := base) (cl := cl) (PySem.W.mg_of X G a44) B Z F44 q_mm_end5 q_mm_rest5 q_mm_form5 q_c_trace
  have q_c_law_book := c_law_book (P := P) (base := base) (cl := cl) (PySem.W.mg_of X G a45) hcc45 TB B Z F45 q_m_Book
  have q_c_law_names := c_law_names (P := P) (base := base) (cl := cl) (PySem.W.mg_of X G a46) B Z F46 q_c_law_draw q_c_law_pick
  have q_c_law_waits_right := c_law_waits_right (P := P) (base := base) (cl := cl) (PySem.W.mg_of X G a47) B Z F47 q_c_law_draw q_c_law_names q_c_law_deep q_c_law_book q_c_law_told q_c_law_first q_c_yes q_c_no q_c_atom q_mm_rest5
  have q_c_law_asking_right := c_law_asking_right (P := P) (base := base) (cl := cl) (PySem.W.mg_of X G a48) B Z F48 q_c_law_names q_c_law_book q_c_law_told q_c_law_first q_c_yes q_c_no q_c_atom q_c_every q_o_inv q_mm_end5
  have q_c_law_answers_right := c_law_answers_right (P := P) (base := base) (cl := cl) (PySem.W.mg_of X G a49) B Z F49 q_c_law_draw q_c_law_names q_c_law_deep q_c_law_book q_c_law_told q_c_yes q_c_no q_c_atom q_c_every q_o_inv q_mm_end5
  have q_c_law := c_law (P := P) (base := base) (cl := cl) B Z F50 q_c_law_deck q_c_law_waits_right q_c_law_asking_right q_c_law_answers_right
  exact q_c_law.imp fun _ _ _ _ z => topT_sp z
end N
set_option Elab.async false
set_option linter.all false
set_option maxRecDepth 100000
set_option maxHeartbeats 0
namespace N
open PySem PySem.Spec PyProof.Rows L2
theorem facts {P : Program} {w : World} {K : Fg} {h : Heap} {mg : Str → Option Value} {fa : Addr} (X : K.In h) (G : h.Ns mainGlobals mg) (hfa : mg "law" = some (.ref fa)) (c : SaysT tsts dTs dcs w K) :
    ∃ fd : FuncData, (∀ (s : Shared) (u : Value), BindsTo s fd ⟨[u], []⟩ [("_law_script", u)]) ∧ isCd K (cdA K (gA K "_law_book")) (tbA K (gA K "_law_book")) = true ∧ ∀ base : Heap, LamX.TabB base mg (cdA K (gA K "_law_book")) (tbA K (gA K "_law_book")) → FnOk P w K mg base CX0 107 fa fd ["_law_script"] (spTopT K (tbA K (gA K "_law_book"))) := by
  have ht0 := c.test 0 (t := tst0) rfl
  simp only [tst0, Bool.and_eq_true, decide_eq_true_eq] at ht0
  obtain ⟨z0, z1, z2, z3, z4, z5, z6, z7⟩ := ht0
  have ht1 := c.test 1 (t := tst1) rfl
  simp only [tst1, Bool.and_eq_true, decide_eq_true_eq] at ht1
  obtain ⟨z8, z9, z10, z11, z12, z13, z14, z15⟩ := ht1
  have ht2 := c.test 2 (t := tst2) rfl
  simp only [tst2, Bool.and_eq_true, decide_eq_true_eq] at ht2
  obtain ⟨z16, z17, z18, z19, z20, s0, s1, s2⟩ := ht2
  obtain ⟨_, s0⟩ := isStrG_ok s0
  obtain ⟨_, s1⟩ := isStrG_ok s1
  obtain ⟨_, s2⟩ := isStrG_ok s2
  have ht3 := c.test 3 (t := tst3) rfl
  simp only [tst3, Bool.and_eq_true, decide_eq_true_eq] at ht3
  obtain ⟨s3, s4, aP5, dlP5, low5, p5_0, p5_1, p5_2⟩ := ht3
  obtain ⟨_, s3⟩ := isStrG_ok s3
  obtain ⟨_, s4⟩ := isStrG_ok s4
  obtain ⟨_, p5_0⟩ := isIntIn_ok p5_0
  obtain ⟨_, p5_1⟩ := isIntIn_ok p5_1
  obtain ⟨_, p5_2⟩ := isIntIn_ok p5_2
  have ht4 := c.test 4 (t := tst4) rfl
  simp only [tst4, Bool.and_eq_true, decide_eq_true_eq] at ht4
  obtain ⟨p5_3, s6, s7, s8, s9, s10, s11, s12⟩ := ht4
  obtain ⟨_, p5_3⟩ := isIntIn_ok p5_3
  obtain ⟨_, s6⟩ := isStrG_ok s6
  obtain ⟨_, s7⟩ := isStrG_ok s7
  obtain ⟨_, s8⟩ := isStrG_ok s8
  obtain ⟨_, s9⟩ := isStrG_ok s9
  obtain ⟨_, s10⟩ := isIntIn_ok s10
  obtain ⟨_, s11⟩ := isStrG_ok s11
  obtain ⟨_, s12⟩ := isStrG_ok s12
  have ht5 := c.test 5 (t := tst5) rfl
  simp only [tst5, Bool.and_eq_true, decide_eq_true_eq] at ht5
  obtain ⟨s13, s14, s15, s16, aC0, pg0, hd0, po0⟩ := ht5
  obtain ⟨_, s13⟩ := isStrG_ok s13
  obtain ⟨_, s14⟩ := isStrG_ok s14
  obtain ⟨_, s15⟩ := isStrG_ok s15
  obtain ⟨_, s16⟩ := isIntIn_ok s16
  have ht6 := c.test 6 (t := tst6) rfl
  simp only [tst6, Bool.and_eq_true, decide_eq_true_eq] at ht6
  obtain ⟨sa0, mk0, kc0, n0_0, n0_1, n0_2, n0_3, n0_4⟩ := ht6
  have ht7 := c.test 7 (t := tst7) rfl
  simp only [tst7, Bool.and_eq_true, decide_eq_true_eq] at ht7
  obtain ⟨n0_5, n0_6, n0_7, ha0, hn0, htk0, hmo0, me0⟩ := ht7
  have ht8 := c.test 8 (t := tst8) rfl
  simp only [tst8, Bool.and_eq_true, decide_eq_true_eq] at ht8
  obtain ⟨sf0, is0, aC5, pg5, hd5, po5, sa5, mk5⟩ := ht8
  have ht9 := c.test 9 (t := tst9) rfl
  simp only [tst9, Bool.and_eq_true, decide_eq_true_eq] at ht9
  obtain ⟨kc5, n5_0, n5_1, ha5, hn5, htk5, hmo5, me5⟩ := ht9
  have ht10 := c.test 10 (t := tst10) rfl
  simp only [tst10, Bool.and_eq_true, decide_eq_true_eq] at ht10
  obtain ⟨sf5, is5, zn_ord, a1, a2, a3, a4, i4⟩ := ht10
  have ht11 := c.test 11 (t := tst11) rfl
  simp only [tst11, Bool.and_eq_true, decide_eq_true_eq] at ht11
  obtain ⟨k4, a5, a6, a7, a8, a9, i9, k9⟩ := ht11
  have ht12 := c.test 12 (t := tst12) rfl
  simp only [tst12, Bool.and_eq_true, decide_eq_true_eq] at ht12
  obtain ⟨a10, a11, a12, i12, k12, a13, i13, k13⟩ := ht12
  have ht13 := c.test 13 (t := tst13) rfl
  simp only [tst13, Bool.and_eq_true, decide_eq_true_eq] at ht13
  obtain ⟨a14, i14, k14, a15, pg_15, pt_15, pr_15, a16⟩ := ht13
  have ht14 := c.test 14 (t := tst14) rfl
  simp only [tst14, Bool.and_eq_true, decide_eq_true_eq] at ht14
  obtain ⟨a17, a18, a19, a20, a21, a22, a23, a24⟩ := ht14
  have ht15 := c.test 15 (t := tst15) rfl
  simp only [tst15, Bool.and_eq_true, decide_eq_true_eq] at ht15
  obtain ⟨a25, a26, a27, a28, a29, a30, a31, a32⟩ := ht15
  have ht16 := c.test 16 (t := tst16) rfl
  simp only [tst16, Bool.and_eq_true, decide_eq_true_eq] at ht16
  obtain ⟨i32, k32, a33, i33, k33, a34, i34, k34⟩ := ht16
  have ht17 := c.test 17 (t := tst17) rfl
  simp only [tst17, Bool.and_eq_true, decide_eq_true_eq] at ht17
  obtain ⟨a35, i35, k35, a36, i36, k36, a37, a38⟩ := ht17
  have ht18 := c.test 18 (t := tst18) rfl
  simp only [tst18, Bool.and_eq_true, decide_eq_true_eq] at ht18
  obtain ⟨a39, a40, a41, i41, k41, a42, a43, a44⟩ := ht18
  have ht19 := c.test 19 (t := tst19) rfl
  simp only [tst19, Bool.and_eq_true, decide_eq_true_eq] at ht19
  obtain ⟨a45, thcc45, isCd_, a46, a47, a48, a49, a50⟩ := ht19
  obtain ⟨_, _, lP5, lit5⟩ := c.dic 0 (d := ⟨fun K => (gA K "PARTS_OF"), ["atom", "no", "if", "all"]⟩) rfl dlP5
  obtain ⟨_, F1⟩ := c.fun_ 0 (d := dT1) rfl rfl
  obtain ⟨_, F2⟩ := c.fun_ 1 (d := dT2) rfl rfl
  obtain ⟨_, F3⟩ := c.fun_ 2 (d := dT3) rfl rfl
  obtain ⟨_, F4⟩ := c.fun_ 3 (d := dT4) rfl rfl
  obtain ⟨_, F5⟩ := c.fun_ 4 (d := dT5) rfl rfl
  obtain ⟨_, F6⟩ := c.fun_ 5 (d := dT6) rfl rfl
  obtain ⟨_, F7⟩ := c.fun_ 6 (d := dT7) rfl rfl
  obtain ⟨_, F8⟩ := c.fun_ 7 (d := dT8) rfl rfl
  obtain ⟨_, F9⟩ := c.fun_ 8 (d := dT9) rfl rfl
  obtain ⟨_, F10⟩ := c.fun_ 9 (d := dT10) rfl rfl
  obtain ⟨_, F11⟩ := c.fun_ 10 (d := dT11) rfl rfl
  obtain ⟨_, F12⟩ := c.fun_ 11 (d := dT12) rfl rfl
  obtain ⟨_, F13⟩ := c.fun_ 12 (d := dT13) rfl rfl
  obtain ⟨_, F14⟩ := c.fun_ 13 (d := dT14) rfl rfl
  obtain ⟨_, F15⟩ := c.fun_ 14 (d := dT15) rfl rfl
  obtain ⟨_, F16⟩ := c.fun_ 15 (d := dT16) rfl rfl
  obtain ⟨_, F17⟩ := c.fun_ 16 (d := dT17) rfl rfl
  obtain ⟨_, F18⟩ := c.fun_ 17 (d := dT18) rfl rfl
  obtain ⟨_, F19⟩ := c.fun_ 18 (d := dT19) rfl rfl
  obtain ⟨_, F20⟩ := c.fun_ 19 (d := dT20) rfl rfl
  obtain ⟨_, F21⟩ := c.fun_ 20 (d := dT21) rfl rfl
  obtain ⟨_, F22⟩ := c.fun_ 21 (d := dT22) rfl rfl
  obtain ⟨_, F23⟩ := c.fun_ 22 (d := dT23) rfl rfl
  obtain ⟨_, F24⟩ := c.fun_ 23 (d := dT24) rfl rfl
  obtain ⟨_, F25⟩ := c.fun_ 24 (d := dT25) rfl rfl
  obtain ⟨_, F26⟩ := c.fun_ 25 (d := dT26) rfl rfl
  obtain ⟨_, F27⟩ := c.fun_ 26 (d := dT27) rfl rfl
  obtain ⟨_, F28⟩ := c.fun_ 27 (d := dT28) rfl rfl
  obtain ⟨_, F29⟩ := c.fun_ 28 (d := dT29) rfl rfl
  obtain ⟨_, F30⟩ := c.fun_ 29 (d := dT30) rfl rfl
  obtain ⟨_, F31⟩ := c.fun_ 30 (d := dT31) rfl rfl
  obtain ⟨_, F32⟩ := c.fun_ 31 (d := dT32) rfl rfl
  obtain ⟨_, F33⟩ := c.fun_ 32 (d := dT33) rfl rfl
  obtain ⟨_, F34⟩ := c.fun_ 33 (d := dT34) rfl rfl
  obtain ⟨_, F35⟩ := c.fun_ 34 (d := dT35) rfl rfl
  obtain ⟨_, F36⟩ := c.fun_ 35 (d := dT36) rfl rfl
  obtain ⟨_, F37⟩ := c.fun_ 36 (d := dT37) rfl rfl
  obtain ⟨_, F38⟩ := c.fun_ 37 (d := dT38) rfl rfl
  obtain ⟨_, F39⟩ := c.fun_ 38 (d := dT39) rfl rfl
  obtain ⟨_, F40⟩ := c.fun_ 39 (d := dT40) rfl rfl
  obtain ⟨_, F41⟩ := c.fun_ 40 (d := dT41) rfl rfl
  obtain ⟨_, F42⟩ := c.fun_ 41 (d := dT42) rfl rfl
  obtain ⟨_, F43⟩ := c.fun_ 42 (d := dT43) rfl rfl
  obtain ⟨_, F44⟩ := c.fun_ 43 (d := dT44) rfl rfl
  obtain ⟨_, F45⟩ := c.fun_ 44 (d := dT45) rfl rfl
  obtain ⟨_, F46⟩ := c.fun_ 45 (d := dT46) rfl rfl
  obtain ⟨_, F47⟩ := c.fun_ 46 (d := dT47) rfl rfl
  obtain ⟨_, F48⟩ := c.fun_ 47 (d := dT48) rfl rfl
  obtain ⟨_, F49⟩ := c.fun_ 48 (d := dT49) rfl rfl
  obtain ⟨_, F50⟩ := c.fun_ 49 (d := dT50) rfl rfl
  have hcc45 := isCdR_ok F45 thcc45
  have efa : fa = gA K "law" := by
    have e2 := hfa.symm.trans (PySem.W.mg_of X G a50)
    cases e2
    rfl
  subst efa
  exact ⟨_, bd_law F50, isCd_, fun base TB => all_mk X G (rfl : w = w) z0 z1 z2 z3 z4 z5 z6 z7 z8 z9 z10 z11 z12 z13 z14 z15 z16 z17 z18 z19 z20 s0 s1 s2 s3 s4 aP5 lP5 lit5 low5 p5_0 p5_1 p5_2 p5_3 s6 s7 s8 s9 s10 s11 s12 s13 s14 s15 s16 aC0 pg0 hd0 po0 sa0 mk0 kc0 n0_0 n0_1 n0_2 n0_3 n0_4 n0_5 n0_6 n0_7 ha0 hn0 htk0 hmo0 me0 sf0 is0 aC5 pg5 hd5 po5 sa5 mk5 kc5 n5_0 n5_1 ha5 hn5 htk5 hmo5 me5 sf5 is5 zn_ord a1 F1 a2 F2 a3 F3 a4 i4 F4 k4 a5 F5 a6 F6 a7 F7 a8 F8 a9 i9 F9 k9 a10 F10 a11 F11 a12 i12 F12 k12 a13 i13 F13 k13 a14 i14 F14 k14 a15 pg_15 pt_15 pr_15 F15 a16 F16 a17 F17 a18 F18 a19 F19 a20 F20 a21 F21 a22 F22 a23 F23 a24 F24 a25 F25 a26 F26 a27 F27 a28 F28 a29 F29 a30 F30 a31 F31 a32 i32 F32 k32 a33 i33 F33 k33 a34 i34 F34 k34 a35 i35 F35 k35 a36 i36 F36 k36 a37 F37 a38 F38 a39 F39 a40 F40 a41 i41 F41 k41 a42 F42 a43 F43 a44 F44 a45 F45 hcc45 a46 F46 a47 F47 a48 F48 a49 F49 a50 F50 TB⟩
end N
open PySem PySem.W PySem.Calls PyProof.Rows
set_option maxRecDepth 100000 in
set_option maxHeartbeats 0 in
theorem PySem.Challenge.cw_allbeneath_k76_whole_players_whose_ends_holds : PySem.Challenge.rw_allbeneath_k76_whole_players_whose_ends.Holds := by
  w_on; o_law
  refine HandSHeadRun.head_any (r := N.RW_) (q := N.qW) (H := N.hkW) (ob := N.obW) (M := 40000) (loose := N.names) (d := HandSHeadRun.topDef N.RW_.prog 73) (kwd := []) N.obW_eq (by kernel_rfl) (fun s => by kernel_rfl) N.run_W
    (by kernel_rfl) (by kernel_rfl) (by kernel_rfl) (by rfl) (by first | assumption | decide +kernel) (by decide +kernel) ⟨rfl, rfl, rfl, rfl, rfl, by decide +kernel⟩ ?hw ?hc
  case hw => w_witness2
  case hc =>
    refine N.walkTT (l := PySem.Challenge.rw_allbeneath_k76_whole_players_whose_ends) (n := 63) (k := 107) (tb := N.tbs) (x := "_law_script") rfl (by decide) (by kernel_rfl) ⟨rfl, by decide, by decide⟩ (fun w h Y => Y) ?F
    case F =>
      intro w mg fa h K KX sy G hmg0
      have hmg : mg ("law" : PySem.Str) = some (.ref fa) := by
        have e : (HandSHeadRun.topDef N.RW_.prog 73).name = ("law" : PySem.Str) := by kernel_rfl
        rw [← e]
        exact hmg0
      obtain ⟨fd, hb, hc, hF⟩ := N.facts (P := PySem.W.OpenLaw.prog PySem.Challenge.rw_allbeneath_k76_whole_players_whose_ends) KX G hmg sy
      exact ⟨fd, _, _, fun K => (N.tbA K (N.gA K "_law_book")), N.spTopT K (N.tbA K (N.gA K "_law_book")), List.mem_cons_self, rfl, hc, hb, fun H a ns hl hP hS => ⟨a, ns, rfl, hP, hS, hl, fun _ => rfl⟩, fun base _ _ TB => hF base TB⟩
