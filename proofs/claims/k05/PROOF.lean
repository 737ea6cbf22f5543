import PyProof.Rows.All
import Wide.All
import OpenK.AllK
import Wide.FinOn
import HandS.ForMost
import HandS.DictComp
import HandS.FStr
import HandS.Star
import HandS.Property
import HandS.TupAny
import HandS.Codes
import HandS.More
import HandS.Conv
import HandS.Strs
import HandS.Style
import HandS.IsInst
import HandS.Defaults
import HandS.Flow
import HandS.MakeKwOnly
import HandS.SortKw
import HandS.WrittenGet
import HandS.MethStar
import KE.KOpsOwn
import KE.KCallOwn
import OpenK.KOps
import KE.DatumIndex
import PyProof.ReprRoads
import PyProof.ReprBulk
import HandS.RaiseMore
import KE.KeyNested
import PyProof.Rows.StrMeet
import KE.KEqDict
import HandS.SetFor
import PyProof.StrWalks
import PyProof.Rows.SortShellAny
import HandS.SetTxt0
import PyProof.Rows.StrMul
import HandS.TupMul
import PyProof.NeKinds
import PyProof.EqAt
import KE.GoesZip
import KE.GoesMore
import KE.GoesEnumKw
import HandS.Zip
import KE.GoesEnum
import HandS.SortInts
import HandS.TryOnly
import HandS.SlotsOwn
import PyProof.InstEq
import PyProof.P3Eq
import HandS.ClsMeth
import HandS.Exc
import HandS.ExcInit
import HandS.ExcSuper
import HandS.ExcField
import HandS.ExcIs
import HandS.WordsExc
import HandS.ExcOwn
import PySem.Challenge.RW_allbeneath_k05_texts_bent
set_option Elab.async false
set_option linter.all false
set_option maxRecDepth 100000
/-! A logic of plain data over the hand layer: values as trees, owned cells apart. -/
namespace N
open PySem L2

/-- formulas -/
inductive Fm where
  | at (c : Nat) | no | imp (a b : Fm) | all (a : Fm)
  deriving DecidableEq

/-- plain data -/
inductive D where
  | vl (v : V)
  | tup (l : List D)
  | lst (l : List D)
  | dct (ks : List Key) (l : List D)
  | obj (c : Nat) (ns : List Str) (l : List D)
  | fm (f : Fm)
  | scr (l : List V)
@[reducible] def D.int (i : Int) : D := .vl (.int i)
@[reducible] def D.bl (b : Bool) : D := .vl (.bl b)
@[reducible] def D.str (s : Str) : D := .vl (.str s)
@[reducible] def D.non : D := .vl .non
@[reducible] def D.adr (a : Addr) : D := .vl (.ref a)

/-- the module's written part, the classes' places -/
structure Kx where
  K : PySem.W.Frag
  cl : Nat → Addr

/-! ### formulas in the heap -/
/-- what is kept of a formula: filled in by the texts that speak of formulas -/
structure FmKit where
  kind : Fm → Str
  many : Fm → Int
  deep : Fm → Int
  atoms : Fm → Str
  bare : Fm → Str
  spell : Fm → Str
  alls : Fm → List Fm

def AllR (R : Addr → Fm → Prop) : List Addr → List Fm → Prop
  | [], fs => fs = []
  | a :: as, fs => ∃ f r, fs = f :: r ∧ R a f ∧ AllR R as r
theorem AllR.imp {R S : Addr → Fm → Prop} (h : ∀ a f, R a f → S a f) : ∀ {as : List Addr} {fs : List Fm}, AllR R as fs → AllR S as fs
  | [], _, e => e
  | _ :: _, _, ⟨f, r, e, x, t⟩ => ⟨f, r, e, h _ _ x, AllR.imp h t⟩
def PartsR (R : Addr → Fm → Prop) : Fm → List V → Prop
  | .at c, ps => ps = [.str ⟨#[c]⟩]
  | .no, ps => ps = []
  | .imp a b, ps => ∃ p q, ps = [.ref p, .ref q] ∧ R p a ∧ R q b
  | .all a, ps => ∃ p, ps = [.ref p] ∧ R p a
theorem PartsR.imp {R S : Addr → Fm → Prop} (h : ∀ a f, R a f → S a f) : ∀ {f : Fm} {ps : List V}, PartsR R f ps → PartsR S f ps
  | .at _, _, e => e
  | .no, _, e => e
  | .imp _ _, _, ⟨p, q, e, x, y⟩ => ⟨p, q, e, h _ _ x, h _ _ y⟩
  | .all _, _, ⟨p, e, x⟩ => ⟨p, e, h _ _ x⟩

section
variable (F : FmKit) (T : Kx)
def fmNames : List Str := ["kind", "parts", "many", "deepest", "atoms", "bare", "spelled", "alls_known"]
def fmFields (f : Fm) (pa al : Addr) : List (Str × V) :=
  [("kind", .str (F.kind f)), ("parts", .ref pa), ("many", .int (F.many f)), ("deepest", .int (F.deep f)), ("atoms", .str (F.atoms f)), ("bare", .str (F.bare f)), ("spelled", .str (F.spell f)), ("alls_known", .ref al)]
def FStep (H : Hp) (R : Addr → Fm → Prop) (a : Addr) (f : Fm) : Prop :=
  ∃ dx pa ps al as, H a = some (.ins (T.cl 0) dx (fmFields F f pa al)) ∧ SqT T.K H pa ps ∧ PartsR R f ps ∧ SqT T.K H al (as.map V.ref) ∧ AllR R as (F.alls f)
def FormAt (H : Hp) (a : Addr) (f : Fm) : Prop := ∃ R : Addr → Fm → Prop, (∀ b g, R b g → FStep F T H R b g) ∧ R a f
end

theorem Same.sqT {K : PySem.W.Frag} {H H' : Hp} {a : Addr} {xs : List V} (e : Same H H') (h : SqT K H a xs) : SqT K H' a xs := by
  rcases h with (h | ⟨o, h⟩) | h
  · exact .inl (.inl (e _ _ h))
  · exact .inl (.inr ⟨o, e _ _ h⟩)
  · exact .inr h
section
variable {F : FmKit} {T : Kx} {H H' : Hp} {R S : Addr → Fm → Prop} {a : Addr} {f : Fm}
theorem FStep.imp (h : ∀ a f, R a f → S a f) (e : Same H H') (x : FStep F T H R a f) : FStep F T H' S a f := by
  obtain ⟨dx, pa, ps, al, as, h1, h2, h3, h4, h5⟩ := x
  exact ⟨dx, pa, ps, al, as, e _ _ h1, Same.sqT e h2, h3.imp h, Same.sqT e h4, h5.imp h⟩
theorem FormAt.mono (e : Same H H') (x : FormAt F T H a f) : FormAt F T H' a f := by
  obtain ⟨R, h, r⟩ := x
  exact ⟨R, fun b g y => (h b g y).imp (fun _ _ z => z) e, r⟩
theorem FormAt.out (x : FormAt F T H a f) : FStep F T H (FormAt F T H) a f := by
  obtain ⟨R, h, r⟩ := x
  exact (h a f r).imp (fun b g y => ⟨R, h, y⟩) (Same.refl _)
theorem FormAt.mk (x : FStep F T H (fun b g => FormAt F T H b g ∨ (b = a ∧ g = f)) a f) : FormAt F T H a f := by
  refine ⟨fun b g => FormAt F T H b g ∨ (b = a ∧ g = f), fun b g y => ?_, .inr ⟨rfl, rfl⟩⟩
  rcases y with y | ⟨rfl, rfl⟩
  · exact y.out.imp (fun _ _ z => .inl z) (Same.refl _)
  · exact x
end

/-! ### what a datum says of a value -/
section
variable (F : FmKit) (T : Kx) (H : Hp)
mutual
def Den : D → V → Prop
  | .vl w, v => v = w
  | .tup l, v => ∃ a xs, v = .ref a ∧ SqT T.K H a xs ∧ DenL l xs
  | .lst l, v => ∃ a xs, v = .ref a ∧ H a = some (.lst xs) ∧ DenL l xs
  | .dct ks l, v => ∃ a kvs, v = .ref a ∧ H a = some (.dK kvs) ∧ kvs.map (·.1) = ks ∧ ks.Nodup ∧ DenL l (kvs.map (·.2))
  | .obj c ns l, v => ∃ a dx fs, v = .ref a ∧ H a = some (.ins (T.cl c) dx fs) ∧ fs.map (·.1) = ns ∧ DenL l (fs.map (·.2))
  | .fm f, v => ∃ a, v = .ref a ∧ FormAt F T H a f
  | .scr l, v => ∃ a, v = .ref a ∧ SqL T.K H a l
def DenL : List D → List V → Prop
  | [], vs => vs = []
  | d :: l, vs => ∃ v r, vs = v :: r ∧ Den d v ∧ DenL l r
end
end

section
variable {F : FmKit} {T : Kx} {H H' : Hp}
mutual
theorem Den.mono (e : Same H H') : ∀ (d : D) (v : V), Den F T H d v → Den F T H' d v
  | .vl _, _, h => h
  | .tup l, _, ⟨a, xs, h1, h2, h3⟩ => ⟨a, xs, h1, Same.sqT e h2, DenL.mono e l xs h3⟩
  | .lst l, _, ⟨a, xs, h1, h2, h3⟩ => ⟨a, xs, h1, e _ _ h2, DenL.mono e l xs h3⟩
  | .dct ks l, _, ⟨a, kvs, h1, h2, h3, h4, h5⟩ => ⟨a, kvs, h1, e _ _ h2, h3, h4, DenL.mono e l _ h5⟩
  | .obj c ns l, _, ⟨a, dx, fs, h1, h2, h3, h4⟩ => ⟨a, dx, fs, h1, e _ _ h2, h3, DenL.mono e l _ h4⟩
  | .fm f, _, ⟨a, h1, h2⟩ => ⟨a, h1, h2.mono e⟩
  | .scr l, _, ⟨a, h1, h2⟩ => ⟨a, h1, e.seq h2⟩
theorem DenL.mono (e : Same H H') : ∀ (l : List D) (vs : List V), DenL F T H l vs → DenL F T H' l vs
  | [], _, h => h
  | d :: l, _, ⟨v, r, h1, h2, h3⟩ => ⟨v, r, h1, Den.mono e d v h2, DenL.mono e l r h3⟩
end
theorem DenL.len : ∀ {l : List D} {vs : List V}, DenL F T H l vs → vs.length = l.length
  | [], _, h => by
    have h : _ = [] := h
    rw [h]
    rfl
  | d :: l, _, ⟨v, r, h1, _, h3⟩ => by
    rw [h1, List.length_cons, List.length_cons, DenL.len h3]
theorem DenL.get : ∀ {l : List D} {vs : List V} {i : Nat} {d : D}, DenL F T H l vs → l[i]? = some d → ∃ v, vs[i]? = some v ∧ Den F T H d v
  | [], _, i, d, _, e => by simp at e
  | x :: l, _, 0, d, ⟨v, r, h1, h2, _⟩, e => by
    subst h1
    have e : x = d := Option.some.inj e
    subst e
    exact ⟨v, rfl, h2⟩
  | x :: l, _, i + 1, d, ⟨v, r, h1, _, h3⟩, e => by
    subst h1
    exact DenL.get (i := i) (d := d) h3 e
theorem DenL.at : ∀ {l : List D} {vs : List V} {i : Nat} {v : V}, DenL F T H l vs → vs[i]? = some v → ∃ d, l[i]? = some d ∧ Den F T H d v
  | [], _, i, v, h, e => by
    have h : _ = [] := h
    rw [h] at e
    simp at e
  | x :: l, _, 0, v, ⟨u, r, h1, h2, _⟩, e => by
    subst h1
    have e : u = v := Option.some.inj e
    subst e
    exact ⟨x, rfl, h2⟩
  | x :: l, _, i + 1, v, ⟨u, r, h1, _, h3⟩, e => by
    subst h1
    exact DenL.at (i := i) (v := v) h3 e
theorem DenL.app : ∀ {l m : List D} {vs us : List V}, DenL F T H l vs → DenL F T H m us → DenL F T H (l ++ m) (vs ++ us)
  | [], m, _, us, h, k => by
    have h : _ = [] := h
    subst h
    exact k
  | d :: l, m, _, us, ⟨v, r, h1, h2, h3⟩, k => by
    subst h1
    exact ⟨v, r ++ us, rfl, h2, DenL.app h3 k⟩
theorem DenL.app_inv : ∀ {l m : List D} {vs : List V}, DenL F T H (l ++ m) vs → ∃ us ws, vs = us ++ ws ∧ DenL F T H l us ∧ DenL F T H m ws
  | [], m, vs, h => ⟨[], vs, rfl, rfl, h⟩
  | d :: l, m, _, ⟨v, r, h1, h2, h3⟩ => by
    obtain ⟨us, ws, e, p, q⟩ := DenL.app_inv (l := l) h3
    exact ⟨v :: us, ws, by rw [h1, e] <;> rfl, ⟨v, us, rfl, h2, p⟩, q⟩
theorem DenL.set : ∀ {l : List D} {vs : List V} {i : Nat} {d : D} {v : V}, DenL F T H l vs → Den F T H d v → DenL F T H (l.set i d) (vs.set i v)
  | [], _, i, d, v, h, _ => by
    have h : _ = [] := h
    subst h
    rfl
  | x :: l, _, 0, d, v, ⟨u, r, h1, _, h3⟩, k => by
    subst h1
    exact ⟨v, r, rfl, k, h3⟩
  | x :: l, _, i + 1, d, v, ⟨u, r, h1, h2, h3⟩, k => by
    subst h1
    exact ⟨u, r.set i v, rfl, h2, DenL.set h3 k⟩
theorem DenL.one {d : D} {v : V} (h : Den F T H d v) : DenL F T H [d] [v] := ⟨v, [], rfl, h, rfl⟩
theorem DenL.vls (vs : List V) : DenL F T H (vs.map D.vl) vs := by
  induction vs with
  | nil => rfl
  | cons v r ih => exact ⟨v, r, rfl, rfl, ih⟩
theorem DenL.vls_inv : ∀ {ws vs : List V}, DenL F T H (ws.map D.vl) vs → vs = ws
  | [], _, h => h
  | w :: ws, _, ⟨v, r, h1, h2, h3⟩ => by
    have h2 : v = w := h2
    rw [h1, h2, DenL.vls_inv (ws := ws) h3]
theorem DenL.reverse : ∀ {l : List D} {vs : List V}, DenL F T H l vs → DenL F T H l.reverse vs.reverse
  | [], _, h => by
    have h : _ = [] := h
    subst h
    rfl
  | d :: l, _, ⟨v, r, h1, h2, h3⟩ => by
    subst h1
    rw [List.reverse_cons, List.reverse_cons]
    exact (DenL.reverse h3).app (DenL.one h2)
theorem DenL.take : ∀ {l : List D} {vs : List V} (n : Nat), DenL F T H l vs → DenL F T H (l.take n) (vs.take n)
  | l, vs, 0, _ => by
    rw [List.take_zero, List.take_zero]
    rfl
  | [], _, n + 1, h => by
    have h : _ = [] := h
    subst h
    rfl
  | d :: l, _, n + 1, ⟨v, r, h1, h2, h3⟩ => by
    subst h1
    exact ⟨v, r.take n, rfl, h2, DenL.take n h3⟩
theorem DenL.drop : ∀ {l : List D} {vs : List V} (n : Nat), DenL F T H l vs → DenL F T H (l.drop n) (vs.drop n)
  | l, vs, 0, h => h
  | [], _, n + 1, h => by
    have h : _ = [] := h
    subst h
    rfl
  | d :: l, _, n + 1, ⟨v, r, h1, h2, h3⟩ => by
    subst h1
    exact DenL.drop n h3
end

/-! ### two heaps, one over the other -/
def ov (O H : Hp) : Hp := fun b => match O b with | some o => some o | none => H b
def Dis (O H : Hp) : Prop := ∀ b o, O b = some o → H b = none
section
variable {O O' H H' : Hp} {a b : Addr} {o u : HO}
theorem ov_own (h : O b = some o) : ov O H b = some o := by
  unfold ov
  rw [h]
theorem ov_fro (h : O b = none) : ov O H b = H b := by
  unfold ov
  rw [h]
theorem ov_none (h : ov O H b = none) : O b = none ∧ H b = none := by
  unfold ov at h
  cases e : O b with
  | none =>
    rw [e] at h
    exact ⟨rfl, h⟩
  | some o =>
    rw [e] at h
    cases h
theorem Dis.same (d : Dis O H) : Same H (ov O H) := fun b o h => by
  cases e : O b with
  | none => rw [ov_fro e, h]
  | some x =>
    rw [d b x e] at h
    cases h
theorem same_own : Same O (ov O H) := fun _ _ h => ov_own h
theorem Dis.fro (d : Dis O H) (h : H a = some o) : O a = none := by
  cases e : O a with
  | none => rfl
  | some x =>
    rw [d a x e] at h
    cases h
theorem ov_updH (h : O a = none) : upd (ov O H) a o = ov O (upd H a o) := by
  funext b
  by_cases e : b = a
  · subst e
    rw [upd_same, ov_fro h, upd_same]
  · rw [upd_ne e]
    unfold ov
    rw [upd_ne e]
theorem ov_updO : upd (ov O H) a o = ov (upd O a o) H := by
  funext b
  by_cases e : b = a
  · subst e
    rw [upd_same, ov_own upd_same]
  · rw [upd_ne e]
    unfold ov
    rw [upd_ne e]
theorem Dis.updH (d : Dis O H) (h : O a = none) : Dis O (upd H a o) := fun b x e => by
  have n : b ≠ a := fun q => by
    subst q
    rw [h] at e
    cases e
  rw [upd_ne n]
  exact d b x e
theorem Dis.updO (d : Dis O H) (h : H a = none) : Dis (upd O a o) H := fun b x e => by
  by_cases q : b = a
  · subst q
    exact h
  · rw [upd_ne q] at e
    exact d b x e
theorem same_upd (h : H a = none) : Same H (upd H a o) := fun b x e => by
  rw [upd_ne (ne_of_none e h)]
  exact e
/-- a cell taken out -/
def del (O : Hp) (a : Addr) : Hp := fun b => if b = a then none else O b
theorem del_same : del O a a = none := by
  unfold del
  rw [if_pos rfl]
theorem del_ne (h : b ≠ a) : del O a b = O b := by
  unfold del
  rw [if_neg h]
theorem ov_freeze (h : O a = some o) : ov O H = ov (del O a) (upd H a o) := by
  funext b
  by_cases e : b = a
  · subst e
    rw [ov_own h, ov_fro del_same, upd_same]
  · unfold ov
    rw [del_ne e, upd_ne e]
theorem Dis.freeze (d : Dis O H) : Dis (del O a) (upd H a o) := fun b x e => by
  by_cases q : b = a
  · subst q
    rw [del_same] at e
    cases e
  · rw [del_ne q] at e
    rw [upd_ne q]
    exact d b x e
/-- everything but what is in the way stays behind -/
def minus (H C : Hp) : Hp := fun b => match C b with | some _ => none | none => H b
theorem ov_minus (h : Same O H) : ov O (minus H O) = H := by
  funext b
  unfold ov minus
  cases e : O b with
  | none => rfl
  | some o => exact (h b o e).symm
theorem dis_minus : Dis O (minus H O) := fun b o e => by
  unfold minus
  rw [e]
end
end N
set_option Elab.async false
set_option linter.all false
set_option maxRecDepth 100000
/-! The judgements over plain data: expressions, tests, arguments, statements. -/
namespace N
open PySem L2

/-- a dict whose keys are nested tuples: its cell alone -/
def NkRaw (w : World) (h : Heap) (p : Addr) (as : List (NestedKey × Addr × V)) : Prop := ∃ (o : Obj) (es : Array DictEntry) (ep : Nat) (us : List (NestedKey × Addr × Value)),
  (p == sysModules) = false ∧ h.get? p = some o ∧ o.ExactDict ∧ o.data = .dict es ep ∧ es.toList = us.map (fun x => (⟨x.1.hash w, .ref x.2.1, x.2.2⟩ : DictEntry)) ∧ Paired (fun (a : NestedKey × Addr × V) (u : NestedKey × Addr × Value) => a.1 = u.1 ∧ a.2.1 = u.2.1 ∧ RelV a.2.2 u.2.2) as us
def NkO (w : World) (p : Addr) (as : List (NestedKey × Addr × V)) : HO := .ext fun h => NkRaw w h p as
mutual
/-- the value is such a key -/
def NkV (K : PySem.W.Frag) (H : Hp) : NestedKey → V → Prop
  | .none, v => v = .non
  | .num i, v => v = .int i
  | .text s, v => v = .str s
  | .tup ks, v => ∃ a xs, v = .ref a ∧ SqT K H a xs ∧ NkL K H ks xs
def NkL (K : PySem.W.Frag) (H : Hp) : List NestedKey → List V → Prop
  | [], vs => vs = []
  | k :: ks, vs => ∃ v r, vs = v :: r ∧ NkV K H k v ∧ NkL K H ks r
end
mutual
theorem NkV.mono {K : PySem.W.Frag} {H H' : Hp} (e : Same H H') : ∀ (k : NestedKey) (v : V), NkV K H k v → NkV K H' k v
  | .none, _, h => h
  | .num _, _, h => h
  | .text _, _, h => h
  | .tup ks, _, ⟨a, xs, h1, h2, h3⟩ => ⟨a, xs, h1, Same.sqT e h2, NkL.mono e ks xs h3⟩
theorem NkL.mono {K : PySem.W.Frag} {H H' : Hp} (e : Same H H') : ∀ (ks : List NestedKey) (vs : List V), NkL K H ks vs → NkL K H' ks vs
  | [], _, h => h
  | k :: ks, _, ⟨v, r, h1, h2, h3⟩ => ⟨v, r, h1, NkV.mono e k v h2, NkL.mono e ks r h3⟩
end
/-- what an owned cell holds -/
inductive OD where
  | lst (l : List D)
  | dct (ks : List Key) (l : List D)
  | ins (c : Nat) (ns : List Str) (l : List D)
  | any (o : HO)
  | lk (z : Obj) (kvs : List (Key × V)) (ks : List Key) (l : List D)
  | nk (w : World) (p : Addr) (ks : List (NestedKey × D))
  | xd (ns : List Str) (l : List D)
abbrev Gm := List (Option D)
abbrev Om := List (Addr × OD)
def akeys (W : Om) : List Addr := W.map (·.1)

section
variable (F : FmKit) (T : Kx)
def OdAt (H : Hp) (x : Option HO) : OD → Prop
  | .lst l => ∃ xs, x = some (.lst xs) ∧ DenL F T H l xs
  | .dct ks l => ∃ kvs, x = some (.dK kvs) ∧ kvs.map (·.1) = ks ∧ ks.Nodup ∧ DenL F T H l (kvs.map (·.2))
  | .ins c ns l => ∃ dx fs, x = some (.ins (T.cl c) dx fs) ∧ fs.map (·.1) = ns ∧ DenL F T H l (fs.map (·.2))
  | .any o => x = some o
  | .lk z kvs ks l => x = some (.frz z (.dK kvs)) ∧ kvs.map (·.1) = ks ∧ ks.Nodup ∧ DenL F T H l (kvs.map (·.2))
  | .nk w p ks => ∃ as, x = some (NkO w p as) ∧ as.map (·.1) = ks.map (·.1) ∧ (ks.map (·.1)).Nodup ∧ (∀ z ∈ as, NkV T.K H z.1 (.ref z.2.1) ∧ z.1.depth ≤ 8) ∧ DenL F T H (ks.map (·.2)) (as.map (·.2.2))
  | .xd ns l => ∃ fs, x = some (.xd fs) ∧ fs.map (·.1) = ns ∧ DenL F T H l (fs.map (·.2))
/-- the slots -/
structure Lo (H : Hp) (G : Gm) (σ : St) : Prop where
  len : σ.length = G.length
  at_ : ∀ (i : Nat) (d : D), G[i]? = some (some d) → ∃ v, σ[i]? = some (some v) ∧ Den F T H d v
structure Ow (H C O : Hp) (W : Om) : Prop where
  nd : (akeys W).Nodup
  at_ : ∀ a od, (a, od) ∈ W → C a = none ∧ OdAt F T H (O a) od
/-- frozen H, owned O (the callers' part C of it), slots, owned cells -/
structure Wd (C : Hp) (G : Gm) (W : Om) (H O : Hp) (σ : St) : Prop where
  dis : Dis O H
  oc : Same C O
  loc : Lo F T H G σ
  own : Ow F T H C O W
/-- behind a step -/
structure Nx (C : Hp) (W : Om) (H H' O' : Hp) : Prop where
  ext : Same H H'
  dis : Dis O' H'
  oc : Same C O'
  own : Ow F T H' C O' W
end

section
variable {F : FmKit} {T : Kx} {H H' H1 C O O' : Hp} {G : Gm} {W W' : Om} {σ : St}
theorem OdAt.mono {x : Option HO} (e : Same H H') : ∀ {od : OD}, OdAt F T H x od → OdAt F T H' x od
  | .lst l, ⟨xs, h, k⟩ => ⟨xs, h, k.mono e⟩
  | .dct ks l, ⟨kvs, h, n, d, k⟩ => ⟨kvs, h, n, d, k.mono e⟩
  | .ins c ns l, ⟨dx, fs, h, n, k⟩ => ⟨dx, fs, h, n, k.mono e⟩
  | .any o, h => h
  | .lk z kvs ks l, ⟨h, n, d, k⟩ => ⟨h, n, d, k.mono e⟩
  | .nk w p ks, ⟨as, h, n, d, k, q⟩ => ⟨as, h, n, d, fun z hz => ⟨NkV.mono e _ _ (k z hz).1, (k z hz).2⟩, q.mono e⟩
  | .xd ns l, ⟨fs, h, n, k⟩ => ⟨fs, h, n, k.mono e⟩
theorem OdAt.some {x : Option HO} : ∀ {od : OD}, OdAt F T H x od → ∃ o, x = some o
  | .lst l, ⟨xs, h, k⟩ => ⟨_, h⟩
  | .dct ks l, ⟨kvs, h, n, d, k⟩ => ⟨_, h⟩
  | .ins c ns l, ⟨dx, fs, h, n, k⟩ => ⟨_, h⟩
  | .any o, h => ⟨_, h⟩
  | .lk z kvs ks l, ⟨h, n, d, k⟩ => ⟨_, h⟩
  | .nk w p ks, ⟨as, h, _⟩ => ⟨_, h⟩
  | .xd ns l, ⟨fs, h, n, k⟩ => ⟨_, h⟩
theorem Lo.mono (e : Same H H') (l : Lo F T H G σ) : Lo F T H' G σ :=
  ⟨l.len, fun i d h => let ⟨v, a, b⟩ := l.at_ i d h; ⟨v, a, b.mono e⟩⟩
theorem Lo.set {i : Nat} {d : D} {v : V} (l : Lo F T H G σ) (h : Den F T H d v) : Lo F T H (G.set i (some d)) (σ.set i (some v)) := by
  refine ⟨by rw [List.length_set, List.length_set]; exact l.len, fun j d' e => ?_⟩
  by_cases q : i = j
  · subst q
    have hi : i < G.length := by
      have := (List.getElem?_eq_some_iff.mp e).1
      rwa [List.length_set] at this
    rw [List.getElem?_set_self hi] at e
    have e : d = d' := Option.some.inj (Option.some.inj e)
    subst e
    exact ⟨v, by rw [List.getElem?_set_self (by rw [l.len]; exact hi)], h⟩
  · rw [List.getElem?_set_ne q] at e
    rw [List.getElem?_set_ne q]
    exact l.at_ j d' e
theorem Lo.forget {i : Nat} (l : Lo F T H G σ) (x : Option V) : Lo F T H (G.set i none) (σ.set i x) := by
  refine ⟨by rw [List.length_set, List.length_set]; exact l.len, fun j d' e => ?_⟩
  by_cases q : i = j
  · subst q
    have hi : i < G.length := by
      have := (List.getElem?_eq_some_iff.mp e).1
      rwa [List.length_set] at this
    rw [List.getElem?_set_self hi] at e
    cases e
  · rw [List.getElem?_set_ne q] at e
    rw [List.getElem?_set_ne q]
    exact l.at_ j d' e
theorem Ow.mono (e : Same H H') (o : Ow F T H C O W) : Ow F T H' C O W := ⟨o.nd, fun a od h => ⟨(o.at_ a od h).1, (o.at_ a od h).2.mono e⟩⟩
theorem Ow.notin {a : Addr} (o : Ow F T H C O W) (h : O a = none) : a ∉ akeys W := fun z => by
  obtain ⟨p, hp, e⟩ := List.mem_map.mp z
  obtain ⟨x, q⟩ := (o.at_ p.1 p.2 hp).2.some
  rw [e, h] at q
  cases q
theorem Nx.refl (d : Dis O H) (oc : Same C O) (o : Ow F T H C O W) : Nx F T C W H H O := ⟨Same.refl _, d, oc, o⟩
theorem Wd.nx (w : Wd F T C G W H O σ) : Nx F T C W H H O := ⟨Same.refl _, w.dis, w.oc, w.own⟩
theorem Nx.trans (a : Nx F T C W H H1 O) (b : Nx F T C W' H1 H' O') : Nx F T C W' H H' O' := ⟨a.ext.trans b.ext, b.dis, b.oc, b.own⟩
theorem Wd.step (w : Wd F T C G W H O σ) (n : Nx F T C W' H H' O') : Wd F T C G W' H' O' σ := ⟨n.dis, n.oc, w.loc.mono n.ext, n.own⟩
/-- an owned cell's content is known in the whole heap -/
theorem Wd.real (w : Wd F T C G W H O σ) : Same H (ov O H) := w.dis.same
end

/-! ### the judgements -/
section
variable (F : FmKit) (T : Kx)
/-- te, at the slots G and the owned cells W, gives a d and leaves owned cells so that R -/
def Ev (te : TE) (G : Gm) (W : Om) (R : D → Om → Prop) : Prop :=
  ∀ (C H O : Hp) (σ : St), Wd F T C G W H O σ → ∀ Q : VK, (∀ d W' H' O' v, R d W' → Nx F T C W' H H' O' → Den F T H' d v → Q v (ov O' H')) → te σ (ov O H) Q
def EvT (t : TT) (G : Gm) (W : Om) (R : Bool → Om → Prop) : Prop :=
  ∀ (C H O : Hp) (σ : St), Wd F T C G W H O σ → ∀ Q : Bool → Hp → Prop, (∀ b W' H' O', R b W' → Nx F T C W' H H' O' → Q b (ov O' H')) → t σ (ov O H) Q
def EvA (ta : TA) (G : Gm) (W : Om) (R : List D → Om → Prop) : Prop :=
  ∀ (C H O : Hp) (σ : St), Wd F T C G W H O σ → ∀ Q : List V → Hp → Prop, (∀ ds W' H' O' vs, R ds W' → Nx F T C W' H H' O' → DenL F T H' ds vs → Q vs (ov O' H')) → ta σ (ov O H) Q
def EvO (to : TO) (G : Gm) (W : Om) (R : Option Int → Om → Prop) : Prop :=
  ∀ (C H O : Hp) (σ : St), Wd F T C G W H O σ → ∀ Q : Option Int → Hp → Prop, (∀ i W' H' O', R i W' → Nx F T C W' H H' O' → Q i (ov O' H')) → to σ (ov O H) Q
/-- an operation on two data -/
def Bo (r : R2) (d1 d2 : D) (W : Om) (R : D → Om → Prop) : Prop :=
  ∀ (C H O : Hp), Dis O H → Same C O → Ow F T H C O W → ∀ x y, Den F T H d1 x → Den F T H d2 y → ∀ Q : VK, (∀ d W' H' O' v, R d W' → Nx F T C W' H H' O' → Den F T H' d v → Q v (ov O' H')) → r x y (ov O H) Q
/-- a call on data -/
def Ca (r : List V → Hp → VK → Prop) (ds : List D) (W : Om) (R : D → Om → Prop) : Prop :=
  ∀ (C H O : Hp), Dis O H → Same C O → Ow F T H C O W → ∀ vs, DenL F T H ds vs → ∀ Q : VK, (∀ d W' H' O' v, R d W' → Nx F T C W' H H' O' → Den F T H' d v → Q v (ov O' H')) → r vs (ov O H) Q
structure En where
  nx : Gm → Om → Prop
  rt : D → Om → Prop
  bk : Gm → Om → Prop := fun _ _ => False
  ct : Gm → Om → Prop := fun _ _ => False
/-- the ends at heaps are met by the ends at data -/
structure EnOk (C H : Hp) (E : En) (B : Ends) : Prop where
  nx : ∀ G W H' O' σ', E.nx G W → Nx F T C W H H' O' → Lo F T H' G σ' → B.nx σ' (ov O' H')
  rt : ∀ d W H' O' v, E.rt d W → Nx F T C W H H' O' → Den F T H' d v → B.rt v (ov O' H')
  bk : ∀ G W H' O' σ', E.bk G W → Nx F T C W H H' O' → Lo F T H' G σ' → B.bk σ' (ov O' H')
  ct : ∀ G W H' O' σ', E.ct G W → Nx F T C W H H' O' → Lo F T H' G σ' → B.ct σ' (ov O' H')
def Sw (ts : TS) (G : Gm) (W : Om) (E : En) : Prop :=
  ∀ (C H O : Hp) (σ : St), Wd F T C G W H O σ → ∀ B : Ends, EnOk F T C H E B → ts B σ (ov O H)
/-- a target of names -/
def Tg (g : TG) (d : D) (G : Gm) (R : Gm → Prop) : Prop :=
  ∀ (H H1 : Hp) (σ : St) (v : V), Lo F T H G σ → Same H H1 → Den F T H d v → ∀ Q : St → Hp → Prop, (∀ G' σ', R G' → Lo F T H G' σ' → Q σ' H1) → g v σ H1 Q
/-- an iterator over data -/
def Wk (J : It) (H0 : Hp) (ds : List D) : Prop :=
  ∀ (i : Nat) (H O : Hp), Same H0 H → Dis O H →
    (∀ d, ds[i]? = some d → J.go i (ov O H) ∧ ∀ x H2, J.yld i (ov O H) x H2 → ∃ H', Same H H' ∧ Dis O H' ∧ H2 = ov O H' ∧ Den F T H' d x) ∧ (i = ds.length → J.stop i (ov O H))
def EvI (wi : TI) (G : Gm) (W : Om) (R : List D → Om → Prop) : Prop :=
  ∀ (C H O : Hp) (σ : St), Wd F T C G W H O σ → ∀ Q : It → Hp → Prop, (∀ J ds W' H' O', R ds W' → Nx F T C W' H H' O' → Wk F T J H' ds → Q J (ov O' H')) → wi σ (ov O H) Q
end
def E_ (post : D → Om → Prop) : En := { nx := fun _ W => post .non W, rt := post }

section
variable {F : FmKit} {T : Kx} {C H H' O O' : Hp} {G : Gm} {W W' : Om} {σ : St} {E E' : En} {B : Ends}
theorem EnOk.up (h : EnOk F T C H E B) (e : Same H H') : EnOk F T C H' E B :=
  ⟨fun G W H2 O' σ' a n l => h.nx G W H2 O' σ' a ⟨e.trans n.ext, n.dis, n.oc, n.own⟩ l, fun d W H2 O' v a n l => h.rt d W H2 O' v a ⟨e.trans n.ext, n.dis, n.oc, n.own⟩ l,
   fun G W H2 O' σ' a n l => h.bk G W H2 O' σ' a ⟨e.trans n.ext, n.dis, n.oc, n.own⟩ l, fun G W H2 O' σ' a n l => h.ct G W H2 O' σ' a ⟨e.trans n.ext, n.dis, n.oc, n.own⟩ l⟩

/-! ### weakening -/
variable {te ta tb : TE} {t u : TT} {R R' : D → Om → Prop} {S S' : Bool → Om → Prop} {tr : TA} {ts tz : TS}
theorem Ev.imp (h : Ev F T te G W R) (i : ∀ d W', R d W' → R' d W') : Ev F T te G W R' := fun C H O σ w Q q => h C H O σ w Q fun d W' H' O' v r n k => q d W' H' O' v (i d W' r) n k
theorem EvT.imp (h : EvT F T t G W S) (i : ∀ b W', S b W' → S' b W') : EvT F T t G W S' := fun C H O σ w Q q => h C H O σ w Q fun d W' H' O' r n => q d W' H' O' (i d W' r) n
theorem Sw.imp (h : Sw F T ts G W E) (h1 : ∀ G W, E.nx G W → E'.nx G W) (h2 : ∀ d W, E.rt d W → E'.rt d W) (h3 : ∀ G W, E.bk G W → E'.bk G W) (h4 : ∀ G W, E.ct G W → E'.ct G W) : Sw F T ts G W E' :=
  fun C H O σ w B b => h C H O σ w B ⟨fun G W H' O' σ' a => b.nx G W H' O' σ' (h1 G W a), fun d W H' O' v a => b.rt d W H' O' v (h2 d W a), fun G W H' O' σ' a => b.bk G W H' O' σ' (h3 G W a), fun G W H' O' σ' a => b.ct G W H' O' σ' (h4 G W a)⟩

/-! ### expressions -/
theorem ev_var {i : Nat} {d : D} (h : G[i]? = some (some d)) (r : R d W) : Ev F T (tVar i) G W R := fun C H O σ w Q q =>
  let ⟨v, e, k⟩ := w.loc.at_ i d h
  ⟨v, e, q d W H O v r w.nx k⟩
theorem ev_c {v : V} (r : R (.vl v) W) : Ev F T (tC v) G W R := fun C H O σ w Q q => q (.vl v) W H O v r w.nx rfl
theorem ev_op {r : R2} (h : Ev F T ta G W fun d1 W1 => Ev F T tb G W1 fun d2 W2 => Bo F T r d1 d2 W2 R) : Ev F T (tOp r ta tb) G W R := fun C H O σ w Q q =>
  h C H O σ w _ fun d1 W1 H1 O1 x h1 n1 k1 => h1 C H1 O1 σ (w.step n1) _ fun d2 W2 H2 O2 y h2 n2 k2 =>
    h2 C H2 O2 n2.dis n2.oc n2.own x y (k1.mono n2.ext) k2 Q fun d W' H' O' v rr n k => q d W' H' O' v rr ((n1.trans n2).trans n) k
theorem ev_cb {r : List V → Hp → VK → Prop} (h : EvA F T tr G W fun ds W1 => Ca F T r ds W1 R) : Ev F T (tCB r tr) G W R := fun C H O σ w Q q =>
  h C H O σ w _ fun ds W1 H1 O1 vs h1 n1 k1 => h1 C H1 O1 n1.dis n1.oc n1.own vs k1 Q fun d W' H' O' v rr n k => q d W' H' O' v rr (n1.trans n) k
theorem ea_nil {Z : List D → Om → Prop} (r : Z [] W) : EvA F T tNil G W Z := fun C H O σ w Q q => q [] W H O [] r w.nx rfl
theorem ea_cons {Z : List D → Om → Prop} (h : Ev F T ta G W fun d W1 => EvA F T tr G W1 fun ds W2 => Z (d :: ds) W2) : EvA F T (tCons ta tr) G W Z := fun C H O σ w Q q =>
  h C H O σ w _ fun d W1 H1 O1 x h1 n1 k1 => h1 C H1 O1 σ (w.step n1) _ fun ds W2 H2 O2 vs h2 n2 k2 => q (d :: ds) W2 H2 O2 (x :: vs) h2 (n1.trans n2) ⟨x, vs, rfl, k1.mono n2.ext, k2⟩
theorem et_test (h : Ev F T te G W fun d W1 => ∃ b, d = .bl b ∧ S b W1) : EvT F T (tTest te) G W S := fun C H O σ w Q q =>
  h C H O σ w _ fun d W1 H1 O1 x ⟨b, e, s⟩ n k => by
    subst e
    have k : x = .bl b := k
    exact ⟨b, k, q b W1 H1 O1 s n⟩
theorem et_B (h : Ev F T te G W fun d W1 => ∃ b, d = .bl b ∧ S b W1) : EvT F T (tB te) G W S := et_test h
theorem et_not (h : EvT F T t G W fun b W1 => S (!b) W1) : EvT F T (tNot t) G W S := fun C H O σ w Q q => h C H O σ w _ fun b W1 H1 O1 s n => q (!b) W1 H1 O1 s n
theorem et_and (h : EvT F T t G W fun b W1 => if b = true then EvT F T u G W1 S else S false W1) : EvT F T (tAnd t u) G W S := fun C H O σ w Q q =>
  h C H O σ w _ fun b W1 H1 O1 s n => by
    cases b with
    | true => exact s C H1 O1 σ (w.step n) _ fun b W2 H2 O2 s2 n2 => q b W2 H2 O2 s2 (n.trans n2)
    | false => exact q false W1 H1 O1 s n
theorem et_or (h : EvT F T t G W fun b W1 => if b = true then S true W1 else EvT F T u G W1 S) : EvT F T (tOr t u) G W S := fun C H O σ w Q q =>
  h C H O σ w _ fun b W1 H1 O1 s n => by
    cases b with
    | true => exact q true W1 H1 O1 s n
    | false => exact s C H1 O1 σ (w.step n) _ fun b W2 H2 O2 s2 n2 => q b W2 H2 O2 s2 (n.trans n2)
theorem ev_andV (h : Ev F T ta G W fun d W1 => ∃ b, d = .bl b ∧ if b = true then Ev F T tb G W1 R else R (.bl false) W1) : Ev F T (tAndV ta tb) G W R := fun C H O σ w Q q =>
  h C H O σ w _ fun d W1 H1 O1 x ⟨b, e, s⟩ n k => by
    subst e
    have k : x = .bl b := k
    refine ⟨b, k, ?_⟩
    cases b with
    | true => exact s C H1 O1 σ (w.step n) _ fun d W2 H2 O2 v s2 n2 k2 => q d W2 H2 O2 v s2 (n.trans n2) k2
    | false => exact q _ W1 H1 O1 _ s n rfl
theorem ev_orV (h : Ev F T ta G W fun d W1 => ∃ b, d = .bl b ∧ if b = true then R (.bl true) W1 else Ev F T tb G W1 R) : Ev F T (tOrV ta tb) G W R := fun C H O σ w Q q =>
  h C H O σ w _ fun d W1 H1 O1 x ⟨b, e, s⟩ n k => by
    subst e
    have k : x = .bl b := k
    refine ⟨b, k, ?_⟩
    cases b with
    | true => exact q _ W1 H1 O1 _ s n rfl
    | false => exact s C H1 O1 σ (w.step n) _ fun d W2 H2 O2 v s2 n2 k2 => q d W2 H2 O2 v s2 (n.trans n2) k2
theorem ev_notV (h : Ev F T ta G W fun d W1 => ∃ b, d = .bl b ∧ R (.bl (!b)) W1) : Ev F T (tNotV ta) G W R := fun C H O σ w Q q =>
  h C H O σ w _ fun d W1 H1 O1 x ⟨b, e, s⟩ n k => by
    subst e
    have k : x = .bl b := k
    exact ⟨b, k, q _ W1 H1 O1 _ s n rfl⟩
theorem ev_if (h : EvT F T t G W fun b W1 => if b = true then Ev F T ta G W1 R else Ev F T tb G W1 R) : Ev F T (tIf t ta tb) G W R := fun C H O σ w Q q =>
  h C H O σ w _ fun b W1 H1 O1 s n => by
    cases b with
    | true => exact s C H1 O1 σ (w.step n) _ fun d W2 H2 O2 v s2 n2 k2 => q d W2 H2 O2 v s2 (n.trans n2) k2
    | false => exact s C H1 O1 σ (w.step n) _ fun d W2 H2 O2 v s2 n2 k2 => q d W2 H2 O2 v s2 (n.trans n2) k2
theorem ev_isN (h : Ev F T ta G W fun d W1 => ∃ b, (∀ H v, Den F T H d v → decide (v = .non) = b) ∧ R (.bl b) W1) : Ev F T (tIsN ta) G W R := fun C H O σ w Q q =>
  h C H O σ w _ fun d W1 H1 O1 x ⟨b, e, s⟩ n k => by
    show Q (.bl (decide (x = .non))) _
    rw [e _ _ k]
    exact q _ W1 H1 O1 _ s n rfl
theorem ev_notN (h : Ev F T ta G W fun d W1 => ∃ b, (∀ H v, Den F T H d v → decide (v = .non) = b) ∧ R (.bl (!b)) W1) : Ev F T (tNotN ta) G W R := fun C H O σ w Q q =>
  h C H O σ w _ fun d W1 H1 O1 x ⟨b, e, s⟩ n k => by
    show Q (.bl (!decide (x = .non))) _
    rw [e _ _ k]
    exact q _ W1 H1 O1 _ s n rfl

/-! ### operations on plain values -/
theorem op_sc {r : R2} {x y : V} (h : ∀ (H : Hp) (Q : VK), (∀ z, R (.vl z) W → Q z H) → r x y H Q) : Bo F T r (.vl x) (.vl y) W R := fun C H O dis oc own x' y' hx hy Q q => by
  have hx : x' = x := hx
  have hy : y' = y := hy
  subst hx hy
  exact h _ Q fun z rz => q (.vl z) W H O z rz (.refl dis oc own) rfl
theorem cl_sc {r : List V → Hp → VK → Prop} {xs : List V} (h : ∀ (H : Hp) (Q : VK), (∀ z, R (.vl z) W → Q z H) → r xs H Q) : Ca F T r (xs.map D.vl) W R := fun C H O dis oc own vs hv Q q => by
  have hv := DenL.vls_inv hv
  subst hv
  exact h _ Q fun z rz => q (.vl z) W H O z rz (.refl dis oc own) rfl

/-! ### statements -/
theorem sw_next (h : E.nx G W) : Sw F T tNext G W E := fun C H O σ w B b => b.nx G W H O σ h w.nx w.loc
theorem sw_brk (h : E.bk G W) : Sw F T tBreak G W E := fun C H O σ w B b => b.bk G W H O σ h w.nx w.loc
theorem sw_cont (h : E.ct G W) : Sw F T tCont G W E := fun C H O σ w B b => b.ct G W H O σ h w.nx w.loc
theorem sw_seq (h : Sw F T ts G W { E with nx := fun G' W' => Sw F T tz G' W' E }) : Sw F T (tSeq ts tz) G W E := fun C H O σ w B b =>
  h C H O σ w { B with nx := tz B } ⟨fun G' W' H' O' σ' a n l => a C H' O' σ' ⟨n.dis, n.oc, l, n.own⟩ B (b.up n.ext), b.rt, b.bk, b.ct⟩
theorem sw_drop (h : Ev F T te G W fun _ W' => E.nx G W') : Sw F T (tDrop te) G W E := fun C H O σ w B b =>
  h C H O σ w _ fun d W' H' O' v r n k => b.nx G W' H' O' σ r n (w.loc.mono n.ext)
theorem sw_ret (h : Ev F T te G W E.rt) : Sw F T (tRet te) G W E := fun C H O σ w B b =>
  h C H O σ w _ fun d W' H' O' v r n k => b.rt d W' H' O' v r n k
theorem sw_retN (h : E.rt .non W) : Sw F T tRetN G W E := fun C H O σ w B b => b.rt .non W H O .non h w.nx rfl
theorem sw_if (h : EvT F T t G W fun c W' => if c = true then Sw F T ts G W' E else Sw F T tz G W' E) : Sw F T (tIfS t ts tz) G W E := fun C H O σ w B b =>
  h C H O σ w _ fun c W' H' O' r n => by
    cases c with
    | true => exact r C H' O' σ (w.step n) B (b.up n.ext)
    | false => exact r C H' O' σ (w.step n) B (b.up n.ext)
theorem sw_set {i : Nat} (h : Ev F T te G W fun d W' => E.nx (G.set i (some d)) W') : Sw F T (tAsg te (gName i)) G W E := fun C H O σ w B b =>
  h C H O σ w _ fun d W' H' O' v r n k => b.nx _ W' H' O' _ r n ((w.loc.mono n.ext).set k)
theorem sw_asg {g : TG} (h : Ev F T te G W fun d W' => Tg F T g d G fun G' => E.nx G' W') : Sw F T (tAsg te g) G W E := fun C H O σ w B b =>
  h C H O σ w _ fun d W' H' O' v r n k => r H' _ σ v (w.loc.mono n.ext) n.dis.same k _ fun G' σ' rr l => b.nx G' W' H' O' σ' rr n l
theorem sw_par {i j : Nat} {ta : TA} (h : EvA F T ta G W fun ds W' => ∃ d1 d2, ds = [d1, d2] ∧ E.nx ((G.set i (some d1)).set j (some d2)) W') : Sw F T (tPar i j ta) G W E := fun C H O σ w B b =>
  h C H O σ w _ fun ds W' H' O' vs ⟨d1, d2, e, r⟩ n k => by
    subst e
    obtain ⟨v1, r1, e1, k1, v2, r2, e2, k2, e3⟩ := k
    have e3 : r2 = [] := e3
    subst e3 e2 e1
    exact ⟨v1, v2, rfl, b.nx _ W' H' O' _ r n (((w.loc.mono n.ext).set k1).set k2)⟩
theorem sw_aug {i : Nat} {ti : TIp} {d0 : D} (h0 : G[i]? = some (some d0)) (h : Ev F T te G W fun d W' => Bo F T ti d0 d W' fun d' W2 => E.nx (G.set i (some d')) W2) : Sw F T (tAug i te ti) G W E := fun C H O σ w B b => by
  obtain ⟨v, e, k⟩ := w.loc.at_ i d0 h0
  refine ⟨v, e, h C H O σ w _ fun d W' H' O' y r n k2 => r C H' O' n.dis n.oc n.own v y (k.mono n.ext) k2 _ fun d' W2 H2 O2 z rr n2 k3 => ?_⟩
  exact b.nx _ W2 H2 O2 _ rr (n.trans n2) ((w.loc.mono (n.trans n2).ext).set k3)

/-! ### targets -/
theorem tg_name {i : Nat} {d : D} {Z : Gm → Prop} (h : Z (G.set i (some d))) : Tg F T (gName i) d G Z := fun H H1 σ v l _ k Q q => q _ _ h (l.set k)
def Tgs (F : FmKit) (T : Kx) (g : TGs) (ds : List D) (G : Gm) (R : Gm → Prop) : Prop :=
  ∀ (H H1 : Hp) (σ : St) (vs : List V), Lo F T H G σ → Same H H1 → DenL F T H ds vs → ∀ Q : St → Hp → Prop, (∀ G' σ', R G' → Lo F T H G' σ' → Q σ' H1) → g vs σ H1 Q
theorem tgs_nil {Z : Gm → Prop} (h : Z G) : Tgs F T gNil [] G Z := fun H H1 σ v l _ k Q q => ⟨k, q _ _ h l⟩
theorem tgs_cons {g : TG} {gs : TGs} {d : D} {ds : List D} {Z : Gm → Prop} (h : Tg F T g d G fun G' => Tgs F T gs ds G' Z) : Tgs F T (gCons g gs) (d :: ds) G Z := fun H H1 σ vs l e k Q q => by
  obtain ⟨v, r, ev, k1, k2⟩ := k
  exact ⟨v, r, ev, h H H1 σ v l e k1 _ fun G' σ' hh l' => hh H H1 σ' r l' e k2 Q q⟩
theorem tg_tup {n : Nat} {gs : TGs} {ds : List D} {Z : Gm → Prop} (hn : ds.length = n) (h : Tgs F T gs ds G Z) : Tg F T (gTup T.K n gs) (.tup ds) G Z := fun H H1 σ v l e k Q q => by
  obtain ⟨a, xs, ev, hs, kl⟩ := k
  exact ⟨a, xs, ev, Same.sqT e hs, by rw [kl.len, hn], h H H1 σ xs l e kl Q q⟩

/-! ### a loop over data -/
theorem sw_for {wi : TI} {g : TG} (h : EvI F T wi G W fun ds W1 => ∃ I : Nat → Gm → Om → Prop, I 0 G W1 ∧
      (∀ i d G' W', ds[i]? = some d → I i G' W' → Tg F T g d G' fun G2 => Sw F T ts G2 W' { E with nx := I (i + 1), ct := I (i + 1), bk := E.nx }) ∧ (∀ G' W', I ds.length G' W' → E.nx G' W')) :
    Sw F T (tFor wi g ts) G W E := fun C H O σ w B b =>
  h C H O σ w _ fun J ds W1 H1 O1 ⟨I, i0, turn, fin⟩ n1 wk => by
    refine ⟨fun i m σ' X => m = ds.length - i ∧ i ≤ ds.length ∧ ∃ G' W' H' O', X = ov O' H' ∧ Nx F T C W' H1 H' O' ∧ Lo F T H' G' σ' ∧ I i G' W', ⟨ds.length, by simp, Nat.zero_le _, G, W1, H1, O1, rfl, ⟨Same.refl _, n1.dis, n1.oc, n1.own⟩, w.loc.mono n1.ext, i0⟩, ?_⟩
    rintro i m σ' X ⟨rfl, hi, G', W', H', O', rfl, n, l, ii⟩
    have k := wk i H' O' n.ext n.dis
    by_cases hlt : i < ds.length
    · obtain ⟨k1, k2⟩ := k.1 ds[i] (by simp [hlt])
      refine .inr ⟨k1, fun σ2 X2 => ∃ G2 W2 H2 O2, X2 = ov O2 H2 ∧ Nx F T C W2 H1 H2 O2 ∧ Lo F T H2 G2 σ2 ∧ I (i + 1) G2 W2, fun σ2 X2 ⟨G2, W2, H2, O2, e, n2, l2, i2⟩ => ⟨ds.length - (i + 1), by omega, rfl, hlt, G2, W2, H2, O2, e, n2, l2, i2⟩, fun x X2 y => ?_⟩
      obtain ⟨H2, s2, d2, rfl, kx⟩ := k2 x X2 y
      refine turn i ds[i] G' W' (by simp [hlt]) ii H2 _ σ' x (l.mono s2) d2.same kx _ fun G3 σ3 sw l3 => ?_
      refine sw C H2 O' σ3 ⟨d2, n.oc, l3, n.own.mono s2⟩ _ ⟨fun G4 W4 H4 O4 σ4 a n4 l4 => ⟨G4, W4, H4, O4, rfl, ⟨(n.ext.trans s2).trans n4.ext, n4.dis, n4.oc, n4.own⟩, l4, a⟩, ?_, ?_, fun G4 W4 H4 O4 σ4 a n4 l4 => ⟨G4, W4, H4, O4, rfl, ⟨(n.ext.trans s2).trans n4.ext, n4.dis, n4.oc, n4.own⟩, l4, a⟩⟩
      · exact fun d W4 H4 O4 v a n4 k4 => b.rt d W4 H4 O4 v a ⟨((n1.ext.trans n.ext).trans s2).trans n4.ext, n4.dis, n4.oc, n4.own⟩ k4
      · exact fun G4 W4 H4 O4 σ4 a n4 l4 => b.nx G4 W4 H4 O4 σ4 a ⟨((n1.ext.trans n.ext).trans s2).trans n4.ext, n4.dis, n4.oc, n4.own⟩ l4
    · have e : i = ds.length := by omega
      subst e
      exact .inl ⟨k.2 rfl, b.nx G' W' H' O' σ' (fin G' W' ii) ⟨n1.ext.trans n.ext, n.dis, n.oc, n.own⟩ l⟩
/-- while, by a measure -/
theorem sw_while (I : Nat → Gm → Om → Prop) (m0 : Nat) (i0 : I m0 G W)
    (turn : ∀ m G' W', I m G' W' → EvT F T t G' W' fun c W2 => if c = true then Sw F T ts G' W2 { E with nx := fun G3 W3 => ∃ m', m' < m ∧ I m' G3 W3, ct := fun G3 W3 => ∃ m', m' < m ∧ I m' G3 W3, bk := E.nx } else E.nx G' W2) :
    Sw F T (tWhile t ts) G W E := fun C H O σ w B b => by
  refine ⟨fun m σ' X => ∃ G' W' H' O', X = ov O' H' ∧ Nx F T C W' H H' O' ∧ Lo F T H' G' σ' ∧ I m G' W', ⟨m0, G, W, H, O, rfl, w.nx, w.loc, i0⟩, ?_⟩
  rintro m σ' X ⟨G', W', H', O', rfl, n, l, ii⟩
  refine turn m G' W' ii C H' O' σ' ⟨n.dis, n.oc, l, n.own⟩ _ fun c W2 H2 O2 r n2 => ?_
  cases c with
  | true =>
    refine ⟨fun σ3 X3 => ∃ G3 W3 H3 O3, X3 = ov O3 H3 ∧ Nx F T C W3 H H3 O3 ∧ Lo F T H3 G3 σ3 ∧ ∃ m', m' < m ∧ I m' G3 W3, fun σ3 X3 ⟨G3, W3, H3, O3, e, n3, l3, m', hm, i3⟩ => ⟨m', hm, G3, W3, H3, O3, e, n3, l3, i3⟩, ?_⟩
    exact r C H2 O2 σ' ⟨n2.dis, n2.oc, l.mono n2.ext, n2.own⟩ _ ⟨fun G4 W4 H4 O4 σ4 a n4 l4 => ⟨G4, W4, H4, O4, rfl, (n.trans n2).trans n4, l4, a⟩, fun d W4 H4 O4 v a n4 k4 => b.rt d W4 H4 O4 v a ((n.trans n2).trans n4) k4,
      fun G4 W4 H4 O4 σ4 a n4 l4 => b.nx G4 W4 H4 O4 σ4 a ((n.trans n2).trans n4) l4, fun G4 W4 H4 O4 σ4 a n4 l4 => ⟨G4, W4, H4, O4, rfl, (n.trans n2).trans n4, l4, a⟩⟩
  | false => exact b.nx G' W2 H2 O2 σ' r (n.trans n2) (l.mono n2.ext)
end
end N
set_option Elab.async false
set_option linter.all false
set_option maxRecDepth 100000
/-! Rules over plain data: new things, what is owned, calls, walks. -/
namespace N
open PySem L2

section
variable {F : FmKit} {T : Kx} {C H H' O O' : Hp} {G : Gm} {W W' : Om} {σ : St} {a p : Addr} {od : OD} {d : D} {l : List D}

/-! ### owned cells -/
theorem Ow.sub {W2 : Om} (o : Ow F T H C O W) (h : W2.Sublist W) : Ow F T H C O W2 := ⟨o.nd.sublist (h.map _), fun a od m => o.at_ a od (h.subset m)⟩
theorem Ow.perm {W2 : Om} (o : Ow F T H C O W) (h : W.Perm W2) : Ow F T H C O W2 := ⟨(h.map _).nodup_iff.mp o.nd, fun a od m => o.at_ a od (h.mem_iff.mpr m)⟩
theorem Ow.tail {x : Addr × OD} (o : Ow F T H C O (x :: W)) : Ow F T H C O W := o.sub (List.sublist_cons_self x W)
theorem akeys_cons {x : Addr × OD} : akeys (x :: W) = x.1 :: akeys W := rfl
theorem mem_akeys {x : Addr × OD} (h : x ∈ W) : x.1 ∈ akeys W := List.mem_map.mpr ⟨x, h, rfl⟩
/-- a new owned cell -/
theorem Nx.newO {o : HO} (n : Nx F T C W H H' O') (hp : ov O' H' p = none) (h : OdAt F T H' (some o) od) : Nx F T C ((p, od) :: W) H H' (upd O' p o) ∧ upd (ov O' H') p o = ov (upd O' p o) H' ∧ p ∉ akeys W := by
  obtain ⟨h1, h2⟩ := ov_none hp
  have np := n.own.notin h1
  have cp : C p = none := by
    cases e : C p with
    | none => rfl
    | some x =>
      rw [n.oc p x e] at h1
      cases h1
  refine ⟨⟨n.ext, n.dis.updO h2, fun b x e => ?_, ⟨List.nodup_cons.mpr ⟨np, n.own.nd⟩, fun b ob m => ?_⟩⟩, ov_updO, np⟩
  · rw [upd_ne (ne_of_none e cp)]
    exact n.oc b x e
  · rcases List.mem_cons.mp m with e | m
    · obtain ⟨rfl, rfl⟩ := Prod.mk.inj e
      rw [upd_same]
      exact ⟨cp, h⟩
    · have : b ≠ p := fun q => np (q ▸ mem_akeys (x := (b, ob)) m)
      rw [upd_ne this]
      exact n.own.at_ b ob m
/-- a new frozen cell -/
theorem Nx.newF {o : HO} (n : Nx F T C W H H' O') (hp : ov O' H' p = none) : Nx F T C W H (upd H' p o) O' ∧ upd (ov O' H') p o = ov O' (upd H' p o) ∧ Same H' (upd H' p o) := by
  obtain ⟨h1, h2⟩ := ov_none hp
  have e := same_upd (o := o) h2
  exact ⟨⟨n.ext.trans e, n.dis.updH h1, n.oc, n.own.mono e⟩, ov_updH h1, e⟩
/-- an owned cell is written -/
theorem Nx.write {o : HO} {od2 : OD} {W1 W2 : Om} (n : Nx F T C (W1 ++ (p, od) :: W2) H H' O') (h : OdAt F T H' (some o) od2) : Nx F T C (W1 ++ (p, od2) :: W2) H H' (upd O' p o) ∧ upd (ov O' H') p o = ov (upd O' p o) H' := by
  have hm : (p, od) ∈ W1 ++ (p, od) :: W2 := by simp
  obtain ⟨cp, x⟩ := n.own.at_ p od hm
  obtain ⟨u, eu⟩ := x.some
  have nd := n.own.nd
  have ndk : (akeys (W1 ++ (p, od2) :: W2)) = akeys (W1 ++ (p, od) :: W2) := by simp [akeys]
  refine ⟨⟨n.ext, n.dis.updO (n.dis p u eu), fun b x e => ?_, ⟨by rw [ndk]; exact nd, fun b ob m => ?_⟩⟩, ov_updO⟩
  · rw [upd_ne (ne_of_none e cp)]
    exact n.oc b x e
  · by_cases q : b = p
    · subst q
      have : ob = od2 := by
        have nd2 : (akeys (W1 ++ (b, od2) :: W2)).Nodup := by rw [ndk]; exact nd
        have hu : ∀ (W : Om) (x y : OD), (akeys W).Nodup → (b, x) ∈ W → (b, y) ∈ W → x = y := by
          intro W
          induction W with
          | nil => intro x y _ h; simp at h
          | cons z W ih =>
            intro x y hn hx hy
            rw [akeys_cons, List.nodup_cons] at hn
            rcases List.mem_cons.mp hx with ex | hx
            · rcases List.mem_cons.mp hy with ey | hy
              · rw [← ex] at ey
                exact (Prod.mk.inj ey).2.symm
              · exact absurd (by rw [← ex]; exact mem_akeys (x := (b, y)) hy) hn.1
            · rcases List.mem_cons.mp hy with ey | hy
              · exact absurd (by rw [← ey]; exact mem_akeys (x := (b, x)) hx) hn.1
              · exact ih x y hn.2 hx hy
        exact hu _ ob od2 nd2 m (by simp)
      subst this
      rw [upd_same]
      exact ⟨cp, h⟩
    · rw [upd_ne q]
      refine n.own.at_ b ob ?_
      rcases List.mem_append.mp m with m | m
      · exact List.mem_append_left _ m
      · rcases List.mem_cons.mp m with e | m
        · exact absurd (Prod.mk.inj e).1 q
        · exact List.mem_append_right _ (List.mem_cons_of_mem _ m)

/-! ### freezing -/
def partsD : Fm → List D
  | .at c => [.str ⟨#[c]⟩]
  | .no => []
  | .imp a b => [.fm a, .fm b]
  | .all a => [.fm a]
def AllsD (a : Addr) (f : Fm) : List D → List Fm → Prop
  | [], fs => fs = []
  | d :: ds, fs => ∃ g r, fs = g :: r ∧ (d = .fm g ∨ (d = .adr a ∧ g = f)) ∧ AllsD a f ds r
inductive Fzd (F : FmKit) (a : Addr) : OD → D → Prop
  | lst (l : List D) : Fzd F a (.lst l) (.lst l)
  | dct (ks : List Key) (l : List D) : Fzd F a (.dct ks l) (.dct ks l)
  | obj (c : Nat) (ns : List Str) (l : List D) : Fzd F a (.ins c ns l) (.obj c ns l)
  | fm (f : Fm) (al : List D) : AllsD a f al (F.alls f) → Fzd F a (.ins 0 fmNames [.str (F.kind f), .tup (partsD f), .int (F.many f), .int (F.deep f), .str (F.atoms f), .str (F.bare f), .str (F.spell f), .tup al]) (.fm f)
theorem parts_of {R : Addr → Fm → Prop} (hR : ∀ b g, FormAt F T H b g → R b g) : ∀ {f : Fm} {xs : List V}, DenL F T H (partsD f) xs → PartsR R f xs
  | .at c, xs, h => DenL.vls_inv (ws := [.str ⟨#[c]⟩]) h
  | .no, xs, h => h
  | .imp a b, xs, ⟨v, r, e, ⟨p, e1, h1⟩, u, s, e2, ⟨q, e3, h3⟩, e4⟩ => by
    have e4 : s = [] := e4
    subst e e1 e2 e3 e4
    exact ⟨p, q, rfl, hR _ _ h1, hR _ _ h3⟩
  | .all a, xs, ⟨v, r, e, ⟨p, e1, h1⟩, e2⟩ => by
    have e2 : r = [] := e2
    subst e e1 e2
    exact ⟨p, rfl, hR _ _ h1⟩
theorem alls_of {R : Addr → Fm → Prop} {f : Fm} (hR : ∀ b g, FormAt F T H b g → R b g) (ha : R a f) : ∀ {al : List D} {xs : List V} {fs : List Fm}, AllsD a f al fs → DenL F T H al xs → ∃ as : List Addr, xs = as.map V.ref ∧ AllR R as fs
  | [], xs, fs, h, k => ⟨[], k, h⟩
  | d :: ds, xs, fs, ⟨g, r, e, hd, ht⟩, ⟨v, rv, e1, k1, k2⟩ => by
    obtain ⟨as, e2, h2⟩ := alls_of hR ha ht k2
    subst e e1 e2
    rcases hd with hd | ⟨hd, hg⟩
    · subst hd
      obtain ⟨b, e3, h3⟩ := k1
      subst e3
      exact ⟨b :: as, rfl, g, r, rfl, hR _ _ h3, h2⟩
    · subst hd hg
      have k1 : v = .ref a := k1
      subst k1
      exact ⟨a :: as, rfl, g, r, rfl, ha, h2⟩
theorem lcons {α : Type} {n : α} {ns : List α} : ∀ {fs : List (α × V)}, fs.map (·.1) = n :: ns → ∃ v r, fs = (n, v) :: r ∧ r.map (·.1) = ns
  | [], h => by simp at h
  | (m, v) :: r, h => by
    rw [List.map_cons] at h
    injection h with h1 h2
    exact ⟨v, r, by rw [← h1], h2⟩
theorem Fzd.den (z : Fzd F a od d) (h : OdAt F T H (O a) od) (hn : H a = none) : ∃ o, O a = some o ∧ Den F T (upd H a o) d (.ref a) := by
  cases z with
  | lst l =>
    obtain ⟨xs, e, k⟩ := h
    exact ⟨_, e, a, xs, rfl, upd_same, k.mono (same_upd hn)⟩
  | dct ks l =>
    obtain ⟨kvs, e, h1, h2, k⟩ := h
    exact ⟨_, e, a, kvs, rfl, upd_same, h1, h2, k.mono (same_upd hn)⟩
  | obj c ns l =>
    obtain ⟨dx, fs, e, h1, k⟩ := h
    exact ⟨_, e, a, dx, fs, rfl, upd_same, h1, k.mono (same_upd hn)⟩
  | fm f al hal =>
    obtain ⟨dx, fs, e, h1, k⟩ := h
    refine ⟨_, e, a, rfl, ?_⟩
    obtain ⟨v1, r1, g1, w1⟩ := lcons h1
    subst g1
    obtain ⟨v2, r2, g2, w2⟩ := lcons w1
    subst g2
    obtain ⟨v3, r3, g3, w3⟩ := lcons w2
    subst g3
    obtain ⟨v4, r4, g4, w4⟩ := lcons w3
    subst g4
    obtain ⟨v5, r5, g5, w5⟩ := lcons w4
    subst g5
    obtain ⟨v6, r6, g6, w6⟩ := lcons w5
    subst g6
    obtain ⟨v7, r7, g7, w7⟩ := lcons w6
    subst g7
    obtain ⟨v8, r8, g8, w8⟩ := lcons w7
    subst g8
    have w9 : r8 = [] := List.map_eq_nil_iff.mp w8
    subst w9
    have k := k.mono (same_upd (o := .ins (T.cl 0) dx [("kind", v1), ("parts", v2), ("many", v3), ("deepest", v4), ("atoms", v5), ("bare", v6), ("spelled", v7), ("alls_known", v8)]) hn)
    obtain ⟨_, _, q1, k1, _, _, q2, k2, _, _, q3, k3, _, _, q4, k4, _, _, q5, k5, _, _, q6, k6, _, _, q7, k7, _, _, q8, k8, _⟩ := k
    simp only [List.map_cons, List.map_nil, List.cons.injEq] at q1 q2 q3 q4 q5 q6 q7 q8
    obtain ⟨rfl, rfl⟩ := q1
    obtain ⟨rfl, rfl⟩ := q2
    obtain ⟨rfl, rfl⟩ := q3
    obtain ⟨rfl, rfl⟩ := q4
    obtain ⟨rfl, rfl⟩ := q5
    obtain ⟨rfl, rfl⟩ := q6
    obtain ⟨rfl, rfl⟩ := q7
    obtain ⟨rfl, rfl⟩ := q8
    have k1 : v1 = .str (F.kind f) := k1
    obtain ⟨pa, ps, ep, hp, kp⟩ := k2
    have k3 : v3 = .int (F.many f) := k3
    have k4 : v4 = .int (F.deep f) := k4
    have k5 : v5 = .str (F.atoms f) := k5
    have k6 : v6 = .str (F.bare f) := k6
    have k7 : v7 = .str (F.spell f) := k7
    obtain ⟨aa, as, ea, ha, ka⟩ := k8
    subst k1 ep k3 k4 k5 k6 k7 ea
    obtain ⟨bs, eb, hb⟩ := alls_of (R := fun b g => FormAt F T (upd H a (.ins (T.cl 0) dx (fmFields F f pa aa))) b g ∨ (b = a ∧ g = f)) (fun b g x => .inl x) (.inr ⟨rfl, rfl⟩) hal ka
    subst eb
    exact FormAt.mk ⟨dx, pa, ps, aa, bs, upd_same, hp, parts_of (fun b g x => .inl x) kp, ha, hb⟩
/-- what may be taken in the place of d -/
def Fz (F : FmKit) (R : D → Om → Prop) : D → Om → Prop := fun d W => ∃ a od W2 d', d = .adr a ∧ W.Perm ((a, od) :: W2) ∧ Fzd F a od d' ∧ R d' W2
theorem Nx.freeze {W2 : Om} {d' : D} (n : Nx F T C W H H' O') (hp : W.Perm ((a, od) :: W2)) (z : Fzd F a od d') : ∃ o, O' a = some o ∧ Nx F T C W2 H (upd H' a o) (del O' a) ∧ ov O' H' = ov (del O' a) (upd H' a o) ∧ Den F T (upd H' a o) d' (.ref a) ∧ Same H' (upd H' a o) := by
  have ow := n.own.perm hp
  obtain ⟨ca, oa⟩ := ow.at_ a od (by simp)
  obtain ⟨u, eu⟩ := oa.some
  have hn : H' a = none := n.dis a u eu
  obtain ⟨o, eo, k⟩ := z.den (O := O') oa hn
  have e := same_upd (o := o) hn
  have nd := ow.nd
  rw [akeys_cons, List.nodup_cons] at nd
  refine ⟨o, eo, ⟨n.ext.trans e, n.dis.freeze, fun b x q => ?_, ⟨nd.2, fun b ob m => ?_⟩⟩, ov_freeze eo, k, e⟩
  · rw [del_ne (ne_of_none q ca)]
    exact n.oc b x q
  · have hb : b ≠ a := fun q => nd.1 (q ▸ mem_akeys (x := (b, ob)) m)
    rw [del_ne hb]
    obtain ⟨h1, h2⟩ := ow.at_ b ob (List.mem_cons_of_mem _ m)
    exact ⟨h1, h2.mono e⟩
end

section
variable {F : FmKit} {T : Kx} {C H H' O O' : Hp} {G : Gm} {W W' : Om} {σ : St} {a p : Addr} {od : OD} {d : D} {l : List D}
  {te ta tb : TE} {t u : TT} {R R' : D → Om → Prop} {S S' : Bool → Om → Prop} {tr : TA} {ts tz : TS} {E E' : En}
theorem ev_fz (h : Ev F T te G W (Fz F R)) : Ev F T te G W R := fun C H O σ w Q q => h C H O σ w Q fun d W' H' O' v ⟨a, od, W2, d', e, hp, z, r⟩ n k => by
  subst e
  have k : v = .ref a := k
  subst k
  obtain ⟨o, _, n2, eo, k2, _⟩ := n.freeze hp z
  rw [eo]
  exact q d' W2 _ _ _ r n2 k2
theorem bo_fz {r : R2} {d1 d2 : D} (h : Bo F T r d1 d2 W (Fz F R)) : Bo F T r d1 d2 W R := fun C H O di oc ow x y hx hy Q q => h C H O di oc ow x y hx hy Q fun d W' H' O' v ⟨a, od, W2, d', e, hp, z, r⟩ n k => by
  subst e
  have k : v = .ref a := k
  subst k
  obtain ⟨o, _, n2, eo, k2, _⟩ := n.freeze hp z
  rw [eo]
  exact q d' W2 _ _ _ r n2 k2
theorem ca_fz {r : List V → Hp → VK → Prop} {ds : List D} (h : Ca F T r ds W (Fz F R)) : Ca F T r ds W R := fun C H O di oc ow xs hx Q q => h C H O di oc ow xs hx Q fun d W' H' O' v ⟨a, od, W2, d', e, hp, z, r⟩ n k => by
  subst e
  have k : v = .ref a := k
  subst k
  obtain ⟨o, _, n2, eo, k2, _⟩ := n.freeze hp z
  rw [eo]
  exact q d' W2 _ _ _ r n2 k2
/-- a slot's owned cell is frozen -/
theorem sw_fz {i : Nat} {d' : D} {W2 : Om} (hi : G[i]? = some (some (.adr a))) (hp : W.Perm ((a, od) :: W2)) (z : Fzd F a od d') (h : Sw F T ts (G.set i (some d')) W2 E) : Sw F T ts G W E := fun C H O σ w B b => by
  obtain ⟨o, _, n2, eo, k2, e2⟩ := w.nx.freeze hp z
  obtain ⟨v, ev, kv⟩ := w.loc.at_ i _ hi
  have kv : v = .ref a := kv
  subst kv
  rw [eo]
  have l2 := (w.loc.mono e2).set (i := i) k2
  have es : σ.set i (some (.ref a)) = σ := by
    apply List.ext_getElem?
    intro j
    by_cases q : i = j
    · subst q
      have hl : i < σ.length := (List.getElem?_eq_some_iff.mp ev).1
      rw [List.getElem?_set_self hl, ev]
    · rw [List.getElem?_set_ne q]
  rw [es] at l2
  exact h C _ _ σ ⟨n2.dis, n2.oc, l2, n2.own⟩ B (b.up n2.ext)
theorem sw_drp {W2 : Om} (hs : W2.Sublist W) (h : Sw F T ts G W2 E) : Sw F T ts G W E := fun C H O σ w B b => h C H O σ ⟨w.dis, w.oc, w.loc, w.own.sub hs⟩ B b
theorem sw_perm {W2 : Om} (hs : W.Perm W2) (h : Sw F T ts G W2 E) : Sw F T ts G W E := fun C H O σ w B b => h C H O σ ⟨w.dis, w.oc, w.loc, w.own.perm hs⟩ B b
theorem ev_perm {W2 : Om} (hs : W.Perm W2) (h : Ev F T te G W2 R) : Ev F T te G W R := fun C H O σ w B b => h C H O σ ⟨w.dis, w.oc, w.loc, w.own.perm hs⟩ B b

/-! ### new tuples, lists -/
theorem ev_tup (h : EvA F T tr G W fun ds W1 => ds.length ≤ sizeLine ∧ R (.tup ds) W1) : Ev F T (tTup tr) G W R := fun C H O σ w Q q =>
  h C H O σ w _ fun ds W1 H1 O1 vs ⟨hl, r⟩ n k => ⟨by rw [k.len]; exact hl, fun p hp => by
    obtain ⟨n2, e, s⟩ := n.newF (o := .tup vs) hp
    rw [e]
    exact q (.tup ds) W1 _ _ _ r n2 ⟨p, vs, rfl, SqT.of upd_same, k.mono s⟩⟩
theorem ev_lst (h : EvA F T tr G W fun ds W1 => ds.length ≤ sizeLine ∧ ∀ p, p ∉ akeys W1 → R (.adr p) ((p, .lst ds) :: W1)) : Ev F T (tLst tr) G W R := fun C H O σ w Q q =>
  h C H O σ w _ fun ds W1 H1 O1 vs ⟨hl, r⟩ n k => ⟨by rw [k.len]; exact hl, fun p hp => by
    obtain ⟨n2, e, np⟩ := n.newO (od := .lst ds) (o := .lst vs) hp ⟨vs, rfl, k⟩
    rw [e]
    exact q (.adr p) _ _ _ _ (r p np) n2 rfl⟩
/-- .. frozen at once -/
theorem ev_lstF (h : EvA F T tr G W fun ds W1 => ds.length ≤ sizeLine ∧ R (.lst ds) W1) : Ev F T (tLst tr) G W R := fun C H O σ w Q q =>
  h C H O σ w _ fun ds W1 H1 O1 vs ⟨hl, r⟩ n k => ⟨by rw [k.len]; exact hl, fun p hp => by
    obtain ⟨n2, e, s⟩ := n.newF (o := .lst vs) hp
    rw [e]
    exact q (.lst ds) W1 _ _ _ r n2 ⟨p, vs, rfl, upd_same, k.mono s⟩⟩

/-! ### what a sequence holds -/
/-- d is a list of l: frozen, or owned -/
def Vl (W : Om) (d : D) (l : List D) : Prop := (d = .lst l ∨ ∃ vs, d = .scr vs ∧ l = vs.map .vl) ∨ ∃ a, d = .adr a ∧ (a, .lst l) ∈ W
def Vs (W : Om) (d : D) (l : List D) : Prop := Vl W d l ∨ d = .tup l
theorem Vl.sq {x : V} (o : Ow F T H C O W) (di : Dis O H) (h : Vl W d l) (k : Den F T H d x) : ∃ a xs, x = .ref a ∧ SqL T.K (ov O H) a xs ∧ DenL F T H l xs := by
  rcases h with (rfl | ⟨vs, rfl, rfl⟩) | ⟨a, rfl, m⟩
  · obtain ⟨a, xs, e, hs, kl⟩ := k
    exact ⟨a, xs, e, SqL.of (di.same _ _ hs), kl⟩
  · obtain ⟨a, e, hs⟩ := k
    exact ⟨a, vs, e, di.same.seq hs, .vls vs⟩
  · obtain ⟨_, xs, e, kl⟩ := o.at_ a _ m
    exact ⟨a, xs, k, SqL.of (ov_own e), kl⟩
/-- a list that the program has made -/
def Vt (W : Om) (d : D) (l : List D) : Prop := d = .lst l ∨ ∃ a, d = .adr a ∧ (a, .lst l) ∈ W
theorem Vt.vl (h : Vt W d l) : Vl W d l := h.elim (fun h => .inl (.inl h)) .inr
theorem Vt.at {x : V} (o : Ow F T H C O W) (di : Dis O H) (h : Vt W d l) (k : Den F T H d x) : ∃ a xs, x = .ref a ∧ ov O H a = some (.lst xs) ∧ DenL F T H l xs := by
  rcases h with rfl | ⟨a, rfl, m⟩
  · obtain ⟨a, xs, e, hs, kl⟩ := k
    exact ⟨a, xs, e, di.same _ _ hs, kl⟩
  · obtain ⟨_, xs, e, kl⟩ := o.at_ a _ m
    exact ⟨a, xs, k, ov_own e, kl⟩
theorem Vs.sq {x : V} (o : Ow F T H C O W) (di : Dis O H) (h : Vs W d l) (k : Den F T H d x) : ∃ a xs, x = .ref a ∧ (SqL T.K (ov O H) a xs ∨ SqT T.K (ov O H) a xs) ∧ DenL F T H l xs := by
  rcases h with h | rfl
  · obtain ⟨a, xs, e, hs, kl⟩ := h.sq o di k
    exact ⟨a, xs, e, .inl hs, kl⟩
  · obtain ⟨a, xs, e, hs, kl⟩ := k
    exact ⟨a, xs, e, .inr (Same.sqT di.same hs), kl⟩
theorem ca_one {r : List V → Hp → VK → Prop} {d : D} (h : ∀ (C H O : Hp), Dis O H → Same C O → Ow F T H C O W → ∀ x, Den F T H d x → ∀ Q : VK, (∀ d W' H' O' v, R d W' → Nx F T C W' H H' O' → Den F T H' d v → Q v (ov O' H')) → r [x] (ov O H) Q) : Ca F T r [d] W R := fun C H O di oc ow vs k Q q => by
  obtain ⟨v, r', e, k1, e2⟩ := k
  have e2 : r' = [] := e2
  subst e e2
  exact h C H O di oc ow v k1 Q q
theorem ca_two {r : List V → Hp → VK → Prop} {d e : D} (h : ∀ (C H O : Hp), Dis O H → Same C O → Ow F T H C O W → ∀ x y, Den F T H d x → Den F T H e y → ∀ Q : VK, (∀ d W' H' O' v, R d W' → Nx F T C W' H H' O' → Den F T H' d v → Q v (ov O' H')) → r [x, y] (ov O H) Q) : Ca F T r [d, e] W R := fun C H O di oc ow vs k Q q => by
  obtain ⟨v, r', e1, k1, u, r2, e2, k2, e3⟩ := k
  have e3 : r2 = [] := e3
  subst e3 e2 e1
  exact h C H O di oc ow v u k1 k2 Q q
/-- len of a list or a tuple -/
theorem ca_len (hv : Vs W d l) (r : R (.int l.length) W) : Ca F T (fun xs H Q => ∃ x n, xs = [x] ∧ LenV T.K x H n ∧ Q (.int (n : Nat)) H) [d] W R := ca_one fun C H O di oc ow x k Q q => by
  obtain ⟨a, xs, e, hs, kl⟩ := hv.sq ow di k
  subst e
  refine ⟨_, xs.length, rfl, ?_, ?_⟩
  · exact hs.elim (fun h => .inl ⟨xs, h, rfl⟩) fun h => .inr ⟨xs, h, rfl⟩
  · rw [kl.len]
    exact q (.int l.length) W H O _ r (.refl di oc ow) rfl
theorem ca_lenS {s : Str} (hl : s.length ≤ sizeLine) (r : R (.int s.length) W) : Ca F T (fun xs H Q => ∃ x n, xs = [x] ∧ LenV T.K x H n ∧ Q (.int (n : Nat)) H) [.str s] W R := ca_one fun C H O di oc ow x k Q q => by
  have k : x = .str s := k
  subst k
  exact ⟨_, s.length, rfl, ⟨hl, rfl⟩, q (.int s.length) W H O _ r (.refl di oc ow) rfl⟩
/-- list(..) -/
theorem ca_list (hv : Vs W d l) (r : ∀ p, p ∉ akeys W → R (.adr p) ((p, .lst l) :: W)) : Ca F T (fun xs H Q => ∃ p ys, xs = [.ref p] ∧ (SqL T.K H p ys ∨ SqT T.K H p ys) ∧ ∀ q, H q = none → Q (.ref q) (upd H q (.lst ys))) [d] W R := ca_one fun C H O di oc ow x k Q q => by
  obtain ⟨a, xs, e, hs, kl⟩ := hv.sq ow di k
  subst e
  refine ⟨a, xs, rfl, hs, fun p hp => ?_⟩
  obtain ⟨n2, e, np⟩ := (Nx.refl di oc ow).newO (od := .lst l) (o := .lst xs) hp ⟨xs, rfl, kl⟩
  rw [e]
  exact q (.adr p) _ _ _ _ (r p np) n2 rfl
/-- tuple(list) -/
theorem ca_tup (hv : Vl W d l) (r : R (.tup l) W) : Ca F T (fun xs H Q => ∃ p ys, xs = [.ref p] ∧ ((SqL T.K H p ys ∧ ∀ q, H q = none → Q (.ref q) (upd H q (.tup ys))) ∨ (SqT T.K H p ys ∧ Q (.ref p) H))) [d] W R := ca_one fun C H O di oc ow x k Q q => by
  obtain ⟨a, xs, e, hs, kl⟩ := hv.sq ow di k
  subst e
  refine ⟨a, xs, rfl, .inl ⟨hs, fun p hp => ?_⟩⟩
  obtain ⟨n2, e, s⟩ := (Nx.refl di oc ow).newF (o := .tup xs) hp
  rw [e]
  exact q (.tup l) W _ _ _ r n2 ⟨p, xs, rfl, SqT.of upd_same, kl.mono s⟩
theorem ca_tupT (r : R (.tup l) W) : Ca F T (fun xs H Q => ∃ p ys, xs = [.ref p] ∧ ((SqL T.K H p ys ∧ ∀ q, H q = none → Q (.ref q) (upd H q (.tup ys))) ∨ (SqT T.K H p ys ∧ Q (.ref p) H))) [.tup l] W R := ca_one fun C H O di oc ow x k Q q => by
  obtain ⟨a, xs, e, hs, kl⟩ := id k
  subst e
  exact ⟨a, xs, rfl, .inr ⟨Same.sqT di.same hs, q (.tup l) W H O _ r (.refl di oc ow) k⟩⟩

/-! ### subscripts -/
theorem atI_len {α β : Type} {xs : List α} {ys : List β} {i : Int} {y : β} (hl : xs.length = ys.length) (h : atI ys i = some y) : ∃ j : Nat, ys[j]? = some y ∧ ∀ x, xs[j]? = some x → atI xs i = some x := by
  unfold atI at h ⊢
  rw [hl]
  cases e : ixN ys.length i with
  | none =>
    rw [e] at h
    cases h
  | some j =>
    rw [e] at h
    exact ⟨j, h, fun x hx => hx⟩
theorem DenL.atI {l : List D} {xs : List V} {i : Int} {d : D} (k : DenL F T H l xs) (h : atI l i = some d) : ∃ v, L2.atI xs i = some v ∧ Den F T H d v := by
  obtain ⟨j, hj, f⟩ := atI_len (xs := xs) k.len h
  obtain ⟨v, hv, kv⟩ := k.get hj
  exact ⟨v, f v hv, kv⟩
theorem bo_ixL {i : Int} {z : D} (hv : Vl W d l) (hi : atI l i = some z) (r : R z W) : Bo F T (rIxL T.K) d (.int i) W R := fun C H O di oc ow x y hx hy Q q => by
  obtain ⟨a, xs, e, hs, kl⟩ := hv.sq ow di hx
  have hy : y = .int i := hy
  obtain ⟨v, ev, kv⟩ := kl.atI hi
  subst e hy
  exact ⟨a, xs, i, v, rfl, rfl, hs, ev, q z W H O v r (.refl di oc ow) kv⟩
theorem bo_ixT {i : Int} {z : D} (hi : atI l i = some z) (r : R z W) : Bo F T (rIxT T.K) (.tup l) (.int i) W R := fun C H O di oc ow x y hx hy Q q => by
  obtain ⟨a, xs, e, hs, kl⟩ := hx
  have hy : y = .int i := hy
  obtain ⟨v, ev, kv⟩ := kl.atI hi
  subst e hy
  exact ⟨a, xs, i, v, rfl, rfl, Same.sqT di.same hs, ev, q z W H O v r (.refl di oc ow) kv⟩

/-! ### methods of owned lists -/
theorem ev_bm {Ty : String} {r : V → List V → Hp → VK → Prop} {to : TE}
    (h : Ev F T to G W fun d W1 => (∀ (C H O : Hp), Dis O H → Same C O → Ow F T H C O W1 → ∀ x, Den F T H d x → tyV T.K Ty x (ov O H)) ∧ EvA F T tr G W1 fun ds W2 =>
      ∀ (C H O : Hp), Dis O H → Same C O → Ow F T H C O W2 → ∀ x vs, Den F T H d x → DenL F T H ds vs → ∀ Q : VK, (∀ d W' H' O' v, R d W' → Nx F T C W' H H' O' → Den F T H' d v → Q v (ov O' H')) → r x vs (ov O H) Q) : Ev F T (tBM T.K Ty r to tr) G W R := fun C H O σ w Q q =>
  h C H O σ w _ fun d W1 H1 O1 x ⟨ht, ha⟩ n1 k1 => ⟨ht C H1 O1 n1.dis n1.oc n1.own x k1, ha C H1 O1 σ (w.step n1) _ fun ds W2 H2 O2 vs r2 n2 k2 =>
    r2 C H2 O2 n2.dis n2.oc n2.own x vs (k1.mono n2.ext) k2 Q fun d W' H' O' v rr n k => q d W' H' O' v rr ((n1.trans n2).trans n) k⟩
theorem ev_bm0 {Ty : String} {r : V → List V → Hp → VK → Prop} {to : TE}
    (h : Ev F T to G W fun d W1 => ∀ (C H O : Hp), Dis O H → Same C O → Ow F T H C O W1 → ∀ x, Den F T H d x → tyV T.K Ty x (ov O H) ∧
      ∀ Q : VK, (∀ d W' H' O' v, R d W' → Nx F T C W' H H' O' → Den F T H' d v → Q v (ov O' H')) → r x [] (ov O H) Q) : Ev F T (tBM0 T.K Ty r to) G W R := fun C H O σ w Q q =>
  h C H O σ w _ fun d W1 H1 O1 x r1 n1 k1 => let ⟨ht, r2⟩ := r1 C H1 O1 n1.dis n1.oc n1.own x k1
    ⟨ht, r2 Q fun d W' H' O' v rr n k => q d W' H' O' v rr (n1.trans n) k⟩
theorem own_lst {W1 W2 : Om} (ow : Ow F T H C O (W1 ++ (a, .lst l) :: W2)) : ∃ xs, O a = some (.lst xs) ∧ DenL F T H l xs := (ow.at_ a (.lst l) (by simp)).2
/-- l.append(e) -/
theorem ev_append {to : TE} (h : Ev F T to G W fun d W0 => ∃ a l0 W01 W02, d = .adr a ∧ W0 = W01 ++ (a, .lst l0) :: W02 ∧ EvA F T tr G W0 fun ds W' => ∃ l W1 W2 z, W' = W1 ++ (a, .lst l) :: W2 ∧ ds = [z] ∧ l.length < sizeLine ∧ R .non (W1 ++ (a, .lst (l ++ [z])) :: W2)) :
    Ev F T (tBM T.K "list" rAppend to tr) G W R := ev_bm (h.imp fun d W0 ⟨a, l0, W01, W02, e1, e2, ha⟩ => by
  subst e1
  refine ⟨fun C H O di oc ow x kx => ?_, ?_⟩
  · have kx : x = .ref a := kx
    subst kx e2
    obtain ⟨xs, e, _⟩ := own_lst ow
    exact .inl ⟨rfl, xs, SqL.of (ov_own e)⟩
  · refine fun C H O σ w Q q => ha C H O σ w Q fun ds W' H' O' vs ⟨l, W1, W2, z, e3, e4, hl, r⟩ n k => q ds W' H' O' vs ?_ n k
    subst e3 e4
    intro C H O di oc ow x vs kx kv Q q
    have kx : x = .ref a := kx
    obtain ⟨v, r', ev, k1, er⟩ := kv
    have er : r' = [] := er
    subst kx ev er
    obtain ⟨xs, e, kl⟩ := own_lst ow
    refine ⟨a, xs, v, rfl, rfl, ov_own e, by rw [kl.len]; exact hl, ?_⟩
    obtain ⟨n2, e2⟩ := (Nx.refl di oc ow).write (o := .lst (xs ++ [v])) (od2 := .lst (l ++ [z])) ⟨_, rfl, kl.app (.one k1)⟩
    rw [e2]
    exact q .non _ _ _ _ r n2 rfl)
/-- l.pop() -/
theorem ev_pop {to : TE} (h : Ev F T to G W fun d W0 => ∃ a l W1 W2 z, d = .adr a ∧ W0 = W1 ++ (a, .lst (l ++ [z])) :: W2 ∧ R z (W1 ++ (a, .lst l) :: W2)) : Ev F T (tBM0 T.K "list" rPop to) G W R :=
  ev_bm0 (h.imp fun d W0 ⟨a, l, W1, W2, z, e1, e2, r⟩ => by
    subst e1 e2
    intro C H O di oc ow x kx
    have kx : x = .ref a := kx
    subst kx
    obtain ⟨xs, e, kl⟩ := own_lst ow
    refine ⟨.inl ⟨rfl, xs, SqL.of (ov_own e)⟩, fun Q q => ?_⟩
    obtain ⟨us, ws, e3, k1, k2⟩ := kl.app_inv
    obtain ⟨v, r', ev, kv, er⟩ := k2
    have er : r' = [] := er
    subst er ev e3
    refine ⟨a, _, v, rfl, rfl, ov_own e, by simp, ?_⟩
    rw [List.dropLast_concat]
    obtain ⟨n2, e2⟩ := (Nx.refl di oc ow).write (o := .lst us) (od2 := .lst l) ⟨_, rfl, k1⟩
    rw [e2]
    exact q z _ _ _ _ r n2 kv)
/-- l[i] = e -/
theorem sw_setL {to ti : TE} (h : Ev F T te G W fun z W1 => Ev F T to G W1 fun d W2 => Ev F T ti G W2 fun i W3 => ∃ a l j k Wa Wb, d = .adr a ∧ i = .int k ∧ W3 = Wa ++ (a, .lst l) :: Wb ∧ ixN l.length k = some j ∧ E.nx G (Wa ++ (a, .lst (l.set j z)) :: Wb)) :
    Sw F T (tAsg te (gSub to ti rSetL)) G W E := fun C H O σ w B b =>
  h C H O σ w _ fun z W1 H1 O1 v h1 n1 k1 => h1 C H1 O1 σ (w.step n1) _ fun d W2 H2 O2 x h2 n2 k2 => h2 C H2 O2 σ ((w.step n1).step n2) _ fun i W3 H3 O3 y ⟨a, l, j, k, Wa, Wb, e1, e2, e3, hj, r⟩ n3 k3 => by
    subst e1 e2 e3
    have k2 : x = .ref a := k2
    have k3 : y = .int k := k3
    subst k2 k3
    obtain ⟨xs, e, kl⟩ := own_lst n3.own
    refine ⟨a, xs, k, j, rfl, rfl, ov_own e, by rw [kl.len]; exact hj, ?_⟩
    have nn := (n1.trans n2).trans n3
    obtain ⟨n4, e4⟩ := nn.write (o := .lst (xs.set j v)) (od2 := .lst (l.set j z)) ⟨_, rfl, kl.set ((k1.mono n2.ext).mono n3.ext)⟩
    rw [e4]
    exact b.nx _ _ _ _ _ r n4 (w.loc.mono nn.ext)

/-! ### iterators -/
theorem ei_list {tl : TE} {Z : List D → Om → Prop} (h : Ev F T tl G W fun d W1 => ∃ l, d = .lst l ∧ Z l W1) : EvI F T (iList T.K tl) G W Z := fun C H O σ w Q q =>
  h C H O σ w _ fun d W1 H1 O1 x ⟨l, e, z⟩ n k => by
    subst e
    obtain ⟨a, xs, ea, hs, kl⟩ := k
    subst ea
    have hs : SqL T.K H1 a xs := SqL.of hs
    refine ⟨a, rfl, ⟨xs, n.dis.same.seq hs⟩, q _ l W1 H1 O1 z n fun i H2 O2 s di => ⟨fun d hd => ?_, fun e => ⟨xs, di.same.seq (s.seq hs), by rw [kl.len, e]; exact Nat.le_refl _⟩⟩⟩
    obtain ⟨v, hv, kv⟩ := kl.get hd
    have hq : SqL T.K (ov O2 H2) a xs := di.same.seq (s.seq hs)
    refine ⟨⟨xs, v, hq, hv⟩, fun x X ⟨e, y⟩ => ⟨H2, Same.refl _, di, e, ?_⟩⟩
    have := y xs hq
    rw [hv] at this
    cases this
    exact kv.mono s
theorem ei_tup {tl : TE} {Z : List D → Om → Prop} (h : Ev F T tl G W fun d W1 => ∃ l, d = .tup l ∧ Z l W1) : EvI F T (iTup T.K tl) G W Z := fun C H O σ w Q q =>
  h C H O σ w _ fun d W1 H1 O1 x ⟨l, e, z⟩ n k => by
    subst e
    obtain ⟨a, xs, ea, hs, kl⟩ := k
    subst ea
    refine ⟨a, rfl, ⟨xs, Same.sqT n.dis.same hs⟩, q _ l W1 H1 O1 z n fun i H2 O2 s di => ⟨fun d hd => ?_, fun e => ⟨xs, Same.sqT di.same (Same.sqT s hs), by rw [kl.len, e]; exact Nat.le_refl _⟩⟩⟩
    obtain ⟨v, hv, kv⟩ := kl.get hd
    have hq : SqT T.K (ov O2 H2) a xs := Same.sqT di.same (Same.sqT s hs)
    refine ⟨⟨xs, v, hq, hv⟩, fun x X ⟨e, y⟩ => ⟨H2, Same.refl _, di, e, ?_⟩⟩
    have := y xs hq
    rw [hv] at this
    cases this
    exact kv.mono s
def rng (lo : Int) (n : Nat) : List D := (List.range n).map fun k => .int (lo + (k : Nat))
theorem rng_len (lo : Int) (n : Nat) : (rng lo n).length = n := by simp [rng]
theorem rng_get {lo : Int} {n i : Nat} {d : D} (h : (rng lo n)[i]? = some d) : i < n ∧ d = .int (lo + (i : Nat)) := by
  have hi : i < (rng lo n).length := (List.getElem?_eq_some_iff.mp h).1
  rw [rng_len] at hi
  refine ⟨hi, ?_⟩
  unfold rng at h
  rw [List.getElem?_map, List.getElem?_range hi] at h
  exact (Option.some.inj h).symm
theorem wk_rng {lo : Int} {n : Nat} : Wk F T (Itr lo n) H (rng lo n) := fun i H2 O2 s di => ⟨fun d hd => by
  obtain ⟨hi, e⟩ := rng_get hd
  subst e
  exact ⟨hi, fun x X ⟨e1, e2⟩ => ⟨H2, Same.refl _, di, e1, e2⟩⟩, fun e => by
  rw [rng_len] at e
  show n ≤ i
  omega⟩
theorem ei_rng1 {Z : List D → Om → Prop} (h : EvA F T tr G W fun ds W1 => ∃ j : Int, ds = [.int j] ∧ -(2 ^ 62) ≤ j ∧ j < 2 ^ 62 ∧ Z (rng 0 j.toNat) W1) : EvI F T (iRng1 tr) G W Z := fun C H O σ w Q q =>
  h C H O σ w _ fun ds W1 H1 O1 vs ⟨j, e, h1, h2, z⟩ n k => by
    subst e
    have k := DenL.vls_inv (ws := [.int j]) k
    subst k
    exact ⟨j, rfl, h1, h2, q _ _ W1 H1 O1 z n wk_rng⟩
theorem ei_rng2 {Z : List D → Om → Prop} (h : EvA F T tr G W fun ds W1 => ∃ i j : Int, ds = [.int i, .int j] ∧ (-(2 ^ 62) ≤ i ∧ i < 2 ^ 62 ∧ -(2 ^ 62) ≤ j ∧ j < 2 ^ 62) ∧ Z (rng i (j - i).toNat) W1) : EvI F T (iRng2 tr) G W Z := fun C H O σ w Q q =>
  h C H O σ w _ fun ds W1 H1 O1 vs ⟨i, j, e, h1, z⟩ n k => by
    subst e
    have k := DenL.vls_inv (ws := [.int i, .int j]) k
    subst k
    exact ⟨i, j, rfl, h1, q _ _ W1 H1 O1 z n wk_rng⟩
end
end N
set_option Elab.async false
set_option linter.all false
set_option maxRecDepth 100000
/-! Promises over plain data, calls, attributes, comprehensions. -/
namespace N
open PySem L2

/-- a promise: data of the arguments, owned cells handed in, what is wanted behind -/
abbrev FS := List D → Om → (D → Om → Prop) → Prop
section
variable (F : FmKit) (T : Kx)
def spN (S : FS) : Sp := fun vs X Q _ => ∃ (ds : List D) (W : Om) (C H O : Hp) (post : D → Om → Prop), X = ov O H ∧ Dis O H ∧ Same C O ∧ Ow F T H C O W ∧ DenL F T H ds vs ∧ S ds W post ∧
  ∀ d W' H' O' v, post d W' → Nx F T C W' H H' O' → Den F T H' d v → Q v (ov O' H')
end

section
variable {F : FmKit} {T : Kx} {C H H' O O' : Hp} {G : Gm} {W W' : Om} {σ : St} {a p : Addr} {od : OD} {d : D} {l : List D}
  {te ta tb : TE} {t u : TT} {R R' : D → Om → Prop} {Z : Bool → Om → Prop} {tr tk : TA} {ts tz : TS} {E : XK} {En1 : En} {S : FS}
/-- a part of what is owned is handed in, the rest stands behind -/
theorem run_sp {ds : List D} {vs : List V} {Wc Wf : Om} {Q : VK} (di : Dis O H) (oc : Same C O) (ow : Ow F T H C O (Wc ++ Wf)) (k : DenL F T H ds vs) (h : S ds Wc fun d W' => R d (W' ++ Wf))
    (q : ∀ d W' H' O' v, R d W' → Nx F T C W' H H' O' → Den F T H' d v → Q v (ov O' H')) : spN F T S vs (ov O H) Q E := by
  have nd := ow.nd
  have nd2 : (akeys Wc ++ akeys Wf).Nodup := by
    have e : akeys (Wc ++ Wf) = akeys Wc ++ akeys Wf := by simp [akeys]
    rw [← e]
    exact nd
  rw [List.nodup_append] at nd2
  obtain ⟨ndc, ndf, dj⟩ := nd2
  have inF : ∀ b, b ∈ akeys Wf → ∃ od, (b, od) ∈ Wf := fun b hb => by
    obtain ⟨x, hx, e⟩ := List.mem_map.mp hb
    exact ⟨x.2, by rw [← e]; exact hx⟩
  have atF : ∀ b od, (b, od) ∈ Wf → C b = none ∧ OdAt F T H (O b) od := fun b od m => ow.at_ b od (List.mem_append_right _ m)
  refine ⟨ds, Wc, fun b => if b ∈ akeys Wf then O b else C b, H, O, _, rfl, di, fun b o e => ?_, ⟨ndc, fun a od m => ?_⟩, k, h, fun d W' H' O' v r n kd => q d (W' ++ Wf) H' O' v r ⟨n.ext, n.dis, fun b o e => ?_, ⟨?_, fun a od m => ?_⟩⟩ kd⟩
  · by_cases hb : b ∈ akeys Wf
    · simp only [if_pos hb] at e
      exact e
    · simp only [if_neg hb] at e
      exact oc b o e
  · have hn : a ∉ akeys Wf := fun z => dj a (mem_akeys m) a z rfl
    rw [if_neg hn]
    exact ow.at_ a od (List.mem_append_left _ m)
  · refine n.oc b o ?_
    by_cases hb : b ∈ akeys Wf
    · obtain ⟨od, m⟩ := inF b hb
      rw [(atF b od m).1] at e
      cases e
    · rw [if_neg hb]
      exact e
  · have e : akeys (W' ++ Wf) = akeys W' ++ akeys Wf := by simp [akeys]
    rw [e, List.nodup_append]
    refine ⟨n.own.nd, ndf, fun x hx y hy exy => ?_⟩
    subst exy
    obtain ⟨z, hz, ez⟩ := List.mem_map.mp hx
    have h1 := (n.own.at_ z.1 z.2 hz).1
    rw [ez, if_pos hy] at h1
    obtain ⟨od, m⟩ := inF _ hy
    obtain ⟨o, eo⟩ := (atF _ od m).2.some
    rw [h1] at eo
    cases eo
  · rcases List.mem_append.mp m with m | m
    · obtain ⟨h1, h2⟩ := n.own.at_ a od m
      refine ⟨?_, h2⟩
      by_cases hb : a ∈ akeys Wf
      · obtain ⟨od', m'⟩ := inF a hb
        exact (atF a od' m').1
      · rw [if_neg hb] at h1
        exact h1
    · obtain ⟨h1, h2⟩ := atF a od m
      obtain ⟨o, eo⟩ := h2.some
      have e2 : O' a = some o := n.oc a o (by rw [if_pos (mem_akeys (x := (a, od)) m)]; exact eo)
      rw [eo] at h2
      rw [e2]
      exact ⟨h1, h2.mono n.ext⟩
/-- what a call asks: the part of the owned cells that is handed in, the promise -/
def Hand (S : FS) (ds : List D) (W : Om) (R : D → Om → Prop) : Prop := ∃ Wc Wf, W.Perm (Wc ++ Wf) ∧ S ds Wc fun d W' => R d (W' ++ Wf)
theorem hand0 {ds : List D} (h : S ds [] fun d W' => R d (W' ++ W)) : Hand S ds W R := ⟨[], W, List.Perm.refl _, h⟩
theorem handA {ds : List D} (h : S ds W R) : Hand S ds W R := ⟨W, [], by rw [List.append_nil], by simpa only [List.append_nil] using h⟩
theorem Hand.run {ds : List D} {vs : List V} {Q : VK} (h : Hand S ds W R) (di : Dis O H) (oc : Same C O) (ow : Ow F T H C O W) (k : DenL F T H ds vs) (q : ∀ d W' H' O' v, R d W' → Nx F T C W' H H' O' → Den F T H' d v → Q v (ov O' H')) :
    spN F T S vs (ov O H) Q E := by
  obtain ⟨Wc, Wf, hp, hs⟩ := h
  exact run_sp di oc (ow.perm hp) k hs q
theorem ev_call {dvs : List V} (h : EvA F T tr G W fun ds W1 => Hand S (ds ++ dvs.map D.vl) W1 R) : Ev F T (tCall (spN F T S) dvs E tr) G W R := fun C H O σ w Q q =>
  h C H O σ w _ fun ds W1 H1 O1 vs h1 n k => h1.run n.dis n.oc n.own (k.app (.vls dvs)) fun d W' H' O' v r n2 kd => q d W' H' O' v r (n.trans n2) kd
theorem ev_callK {gV : List V → List V → List V} (h : EvA F T tr G W fun ds W1 => EvA F T tk G W1 fun es W2 => ∃ as, (∀ H vs zs, DenL F T H ds vs → DenL F T H es zs → DenL F T H as (gV vs zs)) ∧ Hand S as W2 R) : Ev F T (tCallK (spN F T S) gV E tr tk) G W R := fun C H O σ w Q q =>
  h C H O σ w _ fun ds W1 H1 O1 vs h1 n1 k1 => h1 C H1 O1 σ (w.step n1) _ fun es W2 H2 O2 zs ⟨as, ha, h2⟩ n2 k2 => h2.run n2.dis n2.oc n2.own (ha H2 vs zs (k1.mono n2.ext) k2) fun d W' H' O' v r n3 kd => q d W' H' O' v r ((n1.trans n2).trans n3) kd
theorem ev_callN {n m : Nat} {gV : List V → List V → List V} (h : EvA F T tr G W fun ds W1 => EvA F T tk G W1 fun es W2 => ds.length = n ∧ es.length = m ∧ ∃ as, (∀ H vs zs, DenL F T H ds vs → DenL F T H es zs → DenL F T H as (gV vs zs)) ∧ Hand S as W2 R) :
    Ev F T (fun σ H Q => tr σ H fun vs H1 => tk σ H1 fun zs H2 => vs.length = n ∧ zs.length = m ∧ spN F T S (gV vs zs) H2 Q E) G W R := fun C H O σ w Q q =>
  h C H O σ w _ fun ds W1 H1 O1 vs h1 n1 k1 => h1 C H1 O1 σ (w.step n1) _ fun es W2 H2 O2 zs ⟨l1, l2, as, ha, h2⟩ n2 k2 => ⟨by rw [k1.len]; exact l1, by rw [k2.len]; exact l2, h2.run n2.dis n2.oc n2.own (ha H2 vs zs (k1.mono n2.ext) k2) fun d W' H' O' v r n3 kd => q d W' H' O' v r ((n1.trans n2).trans n3) kd⟩

/-! ### instances -/
def fmVals (F : FmKit) (f : Fm) : List D := [.str (F.kind f), .tup (partsD f), .int (F.many f), .int (F.deep f), .str (F.atoms f), .str (F.bare f), .str (F.spell f), .tup ((F.alls f).map .fm)]
inductive Inst (F : FmKit) (W : Om) : D → Nat → List Str → List D → Prop
  | fm (f : Fm) : Inst F W (.fm f) 0 fmNames (fmVals F f)
  | obj (c : Nat) (ns : List Str) (l : List D) : Inst F W (.obj c ns l) c ns l
  | own (a : Addr) (c : Nat) (ns : List Str) (l : List D) : (a, .ins c ns l) ∈ W → Inst F W (.adr a) c ns l
theorem parts_den : ∀ {f : Fm} {ps : List V}, PartsR (FormAt F T H) f ps → DenL F T H (partsD f) ps
  | .at c, _, h => by
    have h : _ = _ := h
    subst h
    exact .one rfl
  | .no, _, h => h
  | .imp a b, _, ⟨p, q, e, h1, h2⟩ => by
    subst e
    exact ⟨_, _, rfl, ⟨p, rfl, h1⟩, .one ⟨q, rfl, h2⟩⟩
  | .all a, _, ⟨p, e, h1⟩ => by
    subst e
    exact .one ⟨p, rfl, h1⟩
theorem alls_den : ∀ {as : List Addr} {fs : List Fm}, AllR (FormAt F T H) as fs → DenL F T H (fs.map .fm) (as.map V.ref)
  | [], _, h => by
    have h : _ = _ := h
    subst h
    rfl
  | a :: as, _, ⟨f, r, e, h1, h2⟩ => by
    subst e
    exact ⟨_, _, rfl, ⟨a, rfl, h1⟩, alls_den h2⟩
theorem Inst.at {c : Nat} {ns : List Str} {x : V} (i : Inst F W d c ns l) (di : Dis O H) (ow : Ow F T H C O W) (k : Den F T H d x) : ∃ a dx fs, x = .ref a ∧ ov O H a = some (.ins (T.cl c) dx fs) ∧ fs.map (·.1) = ns ∧ DenL F T H l (fs.map (·.2)) := by
  cases i with
  | fm f =>
    obtain ⟨a, e, fa⟩ := k
    obtain ⟨dx, pa, ps, al, as, h1, h2, h3, h4, h5⟩ := fa.out
    exact ⟨a, dx, _, e, di.same _ _ h1, rfl, _, _, rfl, rfl, _, _, rfl, ⟨pa, ps, rfl, h2, parts_den h3⟩, _, _, rfl, rfl, _, _, rfl, rfl, _, _, rfl, rfl, _, _, rfl, rfl, _, _, rfl, rfl, _, _, rfl, ⟨al, _, rfl, h4, alls_den h5⟩, rfl⟩
  | obj c ns l =>
    obtain ⟨a, dx, fs, e, h1, h2, h3⟩ := k
    exact ⟨a, dx, fs, e, di.same _ _ h1, h2, h3⟩
  | own a c ns l m =>
    obtain ⟨_, dx, fs, h1, h2, h3⟩ := ow.at_ a _ m
    exact ⟨a, dx, fs, k, ov_own h1, h2, h3⟩
theorem look_zip : ∀ {fs : List (Str × V)} {l : List D} {n : Str} {z : D}, DenL F T H l (fs.map (·.2)) → ((fs.map (·.1)).zip l).lookup n = some z → ∃ v, fs.lookup n = some v ∧ Den F T H z v
  | [], l, n, z, _, e => by simp at e
  | (m, v) :: fs, [], n, z, k, e => by simp at e
  | (m, v) :: fs, d :: l, n, z, ⟨w, r, e1, k1, k2⟩, e => by
    rw [List.map_cons] at e1
    obtain ⟨rfl, rfl⟩ := List.cons.inj e1
    rw [List.map_cons, List.zip_cons_cons, List.lookup_cons] at e
    rw [List.lookup_cons]
    cases q : n == m with
    | true =>
      rw [q] at e
      have e : d = z := Option.some.inj e
      subst e
      exact ⟨v, rfl, k1⟩
    | false =>
      rw [q] at e
      exact look_zip k2 e
theorem look_none : ∀ {fs : List (Str × V)} {n : Str}, n ∉ fs.map (·.1) → fs.lookup n = none
  | [], _, _ => rfl
  | (m, v) :: fs, n, h => by
    rw [List.map_cons, List.mem_cons, not_or] at h
    rw [List.lookup_cons, beq_eq_false_iff_ne.mpr h.1]
    exact look_none h.2
/-- o.f -/
theorem ev_fld {n : Str} (h : Ev F T ta G W fun d W1 => ∃ c ns l z, Inst F W1 d c ns l ∧ Cls T.K (T.cl c) ∧ NoAttr T.K (T.cl c) n ∧ (ns.zip l).lookup n = some z ∧ R z W1) : Ev F T (tFld T.K ta n) G W R := fun C H O σ w Q q =>
  h C H O σ w _ fun d W1 H1 O1 x ⟨c, ns, l, z, i, hc, hn, hl, r⟩ n1 k => by
    obtain ⟨a, dx, fs, e, h1, h2, h3⟩ := i.at n1.dis n1.own k
    subst h2
    obtain ⟨v, hv, kv⟩ := look_zip h3 hl
    exact ⟨a, _, dx, fs, v, e, h1, hc, hn, hv, q z W1 H1 O1 v r n1 kv⟩
/-- o.m(..) -/
theorem ev_meth {c : Nat} {m : Str} {dvs : List V} (h : Ev F T ta G W fun d W1 => ∃ ns l, Inst F W1 d c ns l ∧ m ∉ ns ∧ EvA F T tr G W1 fun ds W2 => Hand S (d :: (ds ++ dvs.map D.vl)) W2 R) : Ev F T (tMeth (T.cl c) m (spN F T S) dvs E ta tr) G W R := fun C H O σ w Q q =>
  h C H O σ w _ fun d W1 H1 O1 x ⟨ns, l, i, hm, ha⟩ n1 k1 => by
    obtain ⟨a, dx, fs, e, h1, h2, h3⟩ := i.at n1.dis n1.own k1
    refine ⟨a, dx, fs, e, h1, look_none (by rw [h2]; exact hm), ha C H1 O1 σ (w.step n1) _ fun ds W2 H2 O2 vs hh n2 k2 => ?_⟩
    exact hh.run n2.dis n2.oc n2.own ⟨x, _, rfl, k1.mono n2.ext, k2.app (.vls dvs)⟩ fun d W' H' O' v r n3 kd => q d W' H' O' v r ((n1.trans n2).trans n3) kd
theorem ev_prop {c : Nat} {dvs : List V} (h : Ev F T ta G W fun d W1 => ∃ ns l, Inst F W1 d c ns l ∧ Hand S (d :: dvs.map D.vl) W1 R) : Ev F T (tProp (T.cl c) (spN F T S) dvs E ta) G W R := fun C H O σ w Q q =>
  h C H O σ w _ fun d W1 H1 O1 x ⟨ns, l, i, hh⟩ n1 k1 => by
    obtain ⟨a, dx, fs, e, h1, h2, h3⟩ := i.at n1.dis n1.own k1
    subst e
    exact ⟨a, dx, fs, rfl, h1, hh.run n1.dis n1.oc n1.own ⟨_, _, rfl, k1, .vls dvs⟩ fun d W' H' O' v r n3 kd => q d W' H' O' v r (n1.trans n3) kd⟩
/-- C(..) -/
theorem run_make {c : Nat} {ds : List D} {vs : List V} {x dx : Addr} {Q : VK} (n : Nx F T C W H H' O') (k : DenL F T H' ds vs) (h : ∀ x, x ∉ akeys W → Hand S (.adr x :: ds) ((x, .ins c [] []) :: W) fun d W' => d = .non ∧ R (.adr x) W')
    (hx : ov O' H' x = none) (hdx : ov O' H' dx = none) (ne : dx ≠ x) (q : ∀ d W2 H2 O2 v, R d W2 → Nx F T C W2 H H2 O2 → Den F T H2 d v → Q v (ov O2 H2)) :
    spN F T S (.ref x :: vs) (upd (upd (ov O' H') dx (.own x)) x (.ins (T.cl c) dx [])) (fun v H2 => v = .non ∧ Q (.ref x) H2) E := by
  obtain ⟨n2, e2, s2⟩ := n.newF (o := .own x) hdx
  rw [e2]
  have hx2 : ov O' (upd H' dx (.own x)) x = none := by rw [← e2, upd_ne ne.symm]; exact hx
  obtain ⟨n3, e3, np⟩ := n2.newO (od := .ins c [] []) (o := .ins (T.cl c) dx []) hx2 ⟨dx, [], rfl, rfl, rfl⟩
  rw [e3]
  refine (h x np).run n3.dis n3.oc n3.own ⟨_, _, rfl, rfl, k.mono s2⟩ fun d W' H2 O2 v ⟨e, r⟩ n4 kd => ?_
  subst e
  exact ⟨kd, q (.adr x) W' H2 O2 _ r (n3.trans n4) rfl⟩
theorem ev_make {c : Nat} {dvs : List V} (h : EvA F T tr G W fun ds W1 => ∀ x, x ∉ akeys W1 → Hand S (.adr x :: (ds ++ dvs.map D.vl)) ((x, .ins c [] []) :: W1) fun d W' => d = .non ∧ R (.adr x) W') : Ev F T (tMake (T.cl c) (spN F T S) dvs E tr) G W R := fun C H O σ w Q q =>
  h C H O σ w _ fun ds W1 H1 O1 vs h1 n k x dx hx hdx ne => run_make n (k.app (.vls dvs)) h1 hx hdx ne q
theorem ev_makeR {c : Nat} (h : EvA F T tr G W fun ds W1 => ∀ x, x ∉ akeys W1 → Hand S (.adr x :: ds) ((x, .ins c [] []) :: W1) fun d W' => d = .non ∧ R (.adr x) W') : Ev F T (StX.tMakeR (T.cl c) (spN F T S) E tr) G W R := fun C H O σ w Q q =>
  h C H O σ w _ fun ds W1 H1 O1 vs h1 n k x dx hx hdx ne => run_make n k h1 hx hdx ne q

/-! ### attributes are stored -/
theorem putF_new : ∀ {fs : List (Str × V)} {n : Str} {v : V}, n ∉ fs.map (·.1) → putF n v fs = fs ++ [(n, v)]
  | [], _, _, _ => rfl
  | (m, x) :: fs, n, v, h => by
    rw [List.map_cons, List.mem_cons, not_or] at h
    unfold putF
    rw [if_neg (fun e => h.1 e.symm), putF_new h.2]
    rfl
theorem putF_at : ∀ {fs : List (Str × V)} {n : Str} {v : V} {j : Nat}, (fs.map (·.1)).Nodup → (fs.map (·.1))[j]? = some n → (putF n v fs).map (·.1) = fs.map (·.1) ∧ (putF n v fs).map (·.2) = (fs.map (·.2)).set j v
  | [], _, _, j, _, e => by simp at e
  | (m, x) :: fs, n, v, 0, nd, e => by
    have e : m = n := Option.some.inj e
    unfold putF
    rw [if_pos e]
    exact ⟨rfl, rfl⟩
  | (m, x) :: fs, n, v, j + 1, nd, e => by
    rw [List.map_cons, List.nodup_cons] at nd
    rw [List.map_cons, List.getElem?_cons_succ] at e
    have hne : m ≠ n := fun q => nd.1 (by rw [q]; exact List.mem_of_getElem? e)
    obtain ⟨h1, h2⟩ := putF_at (v := v) nd.2 e
    unfold putF
    rw [if_neg hne]
    refine ⟨?_, ?_⟩
    · rw [List.map_cons, List.map_cons, h1]
    · rw [List.map_cons, List.map_cons, h2]
      rfl
/-- n of an instance set: a new attribute, or the j-th one -/
inductive Put (n : Str) (z : D) : List Str → List D → List Str → List D → Prop
  | new (ns : List Str) (l : List D) : n ∉ ns → Put n z ns l (ns ++ [n]) (l ++ [z])
  | at (ns : List Str) (l : List D) (j : Nat) : ns.Nodup → ns[j]? = some n → Put n z ns l ns (l.set j z)
theorem Put.odat {n : Str} {z : D} {ns ns' : List Str} {l' : List D} {c : Nat} {dx : Addr} {fs : List (Str × V)} {v : V} (h : Put n z ns l ns' l') (e : fs.map (·.1) = ns) (k : DenL F T H l (fs.map (·.2))) (kz : Den F T H z v) : OdAt F T H (some (.ins (T.cl c) dx (putF n v fs))) (.ins c ns' l') := by
  cases h with
  | new hn =>
    refine ⟨dx, _, rfl, ?_, ?_⟩
    · rw [putF_new (by rw [e]; exact hn), List.map_append, e]
      rfl
    · rw [putF_new (by rw [e]; exact hn), List.map_append]
      exact k.app (.one kz)
  | «at» j nd hj =>
    obtain ⟨h1, h2⟩ := putF_at (v := v) (by rw [e]; exact nd) (by rw [e]; exact hj)
    refine ⟨dx, _, rfl, by rw [h1, e], ?_⟩
    rw [h2]
    exact k.set kz
def gFld (K : PySem.W.Frag) (ta : TE) (f : Str) : TG := fun y σ H Q => ta σ H fun x H2 => ∃ a C dx fs, x = .ref a ∧ H2 a = some (.ins C dx fs) ∧ Cls K C ∧ NoAttr K C f ∧ fs.length < 1000 ∧ Q σ (upd H2 a (.ins C dx (putF f y fs)))
/-- the receiver of a store -/
def Rcv (F : FmKit) (T : Kx) (d z : D) (n : Str) (W : Om) (R : Om → Prop) : Prop := ∃ a c ns l W1 W2 ns' l', d = .adr a ∧ W = W1 ++ (a, .ins c ns l) :: W2 ∧ Cls T.K (T.cl c) ∧ NoAttr T.K (T.cl c) n ∧ ns.length < 1000 ∧ Put n z ns l ns' l' ∧ R (W1 ++ (a, .ins c ns' l') :: W2)
theorem Rcv.run {x y : V} {z : D} {n : Str} {RW : Om → Prop} (h : Rcv F T d z n W RW) (nx : Nx F T C W H H' O') (kx : Den F T H' d x) (ky : Den F T H' z y) : ∃ a C' dx fs, x = .ref a ∧ ov O' H' a = some (.ins C' dx fs) ∧ Cls T.K C' ∧ NoAttr T.K C' n ∧ fs.length < 1000 ∧
    ∃ W2 O2, RW W2 ∧ Nx F T C W2 H H' O2 ∧ upd (ov O' H') a (.ins C' dx (putF n y fs)) = ov O2 H' := by
  obtain ⟨a, c, ns, l, W1, W2, ns', l', e1, e2, hc, hn, hl, hp, r⟩ := h
  subst e1 e2
  have kx : x = .ref a := kx
  obtain ⟨_, dx, fs, h1, h2, h3⟩ := nx.own.at_ a _ (List.mem_append_right _ List.mem_cons_self)
  obtain ⟨n2, e⟩ := nx.write (o := .ins (T.cl c) dx (putF n y fs)) (hp.odat h2 h3 ky)
  have hl2 : fs.length = ns.length := by rw [← h2, List.length_map]
  exact ⟨a, _, dx, fs, kx, ov_own h1, hc, hn, by rw [hl2]; exact hl, _, _, r, n2, e⟩
/-- o.f = e -/
theorem sw_fld {n : Str} (h : Ev F T tb G W fun z W1 => Ev F T ta G W1 fun d W2 => Rcv F T d z n W2 (En1.nx G)) : Sw F T (sFld T.K ta tb n) G W En1 := fun C H O σ w B b =>
  h C H O σ w _ fun z W1 H1 O1 y h1 n1 k1 => h1 C H1 O1 σ (w.step n1) _ fun d W2 H2 O2 x hr n2 k2 => by
    obtain ⟨a, C', dx, fs, e, h1, hc, hn, hl, W3, O3, r, n3, e3⟩ := hr.run (n1.trans n2) k2 (k1.mono n2.ext)
    refine ⟨a, C', dx, fs, e, h1, hc, hn, hl, ?_⟩
    rw [e3]
    exact b.nx G W3 _ _ σ r n3 (w.loc.mono (n1.trans n2).ext)
/-- a target of any form: slots and owned cells may change -/
def Ta (F : FmKit) (T : Kx) (g : TG) (d : D) (G : Gm) (W : Om) (R : Gm → Om → Prop) : Prop :=
  ∀ (C H O : Hp) (σ : St), Wd F T C G W H O σ → ∀ v, Den F T H d v → ∀ Q : St → Hp → Prop, (∀ G' W' H' O' σ', R G' W' → Nx F T C W' H H' O' → Lo F T H' G' σ' → Q σ' (ov O' H')) → g v σ (ov O H) Q
def Tas (F : FmKit) (T : Kx) (g : TGs) (ds : List D) (G : Gm) (W : Om) (R : Gm → Om → Prop) : Prop :=
  ∀ (C H O : Hp) (σ : St), Wd F T C G W H O σ → ∀ vs, DenL F T H ds vs → ∀ Q : St → Hp → Prop, (∀ G' W' H' O' σ', R G' W' → Nx F T C W' H H' O' → Lo F T H' G' σ' → Q σ' (ov O' H')) → g vs σ (ov O H) Q
theorem ta_fld {n : Str} {RR : Gm → Om → Prop} (h : Ev F T ta G W fun x W2 => Rcv F T x d n W2 (RR G)) : Ta F T (gFld T.K ta n) d G W RR := fun C H O σ w v k Q q =>
  h C H O σ w _ fun x W2 H2 O2 y hr n2 k2 => by
    obtain ⟨a, C', dx, fs, e, h1, hc, hn, hl, W3, O3, r, n3, e3⟩ := hr.run n2 k2 (k.mono n2.ext)
    refine ⟨a, C', dx, fs, e, h1, hc, hn, hl, ?_⟩
    rw [e3]
    exact q G W3 _ _ σ r n3 (w.loc.mono n2.ext)
theorem ta_tg {g : TG} {RR : Gm → Om → Prop} (h : Tg F T g d G fun G' => RR G' W) : Ta F T g d G W RR := fun C H O σ w v k Q q =>
  h H _ σ v w.loc w.dis.same k _ fun G' σ' r l => q G' W H O σ' r w.nx l
theorem ta_name {i : Nat} {RR : Gm → Om → Prop} (h : RR (G.set i (some d)) W) : Ta F T (gName i) d G W RR := ta_tg (tg_name h)
theorem tas_nil {RR : Gm → Om → Prop} (h : RR G W) : Tas F T gNil [] G W RR := fun C H O σ w v k Q q => ⟨k, q G W H O σ h w.nx w.loc⟩
theorem tas_cons {g : TG} {gs : TGs} {ds : List D} {RR : Gm → Om → Prop} (h : Ta F T g d G W fun G' W' => Tas F T gs ds G' W' RR) : Tas F T (gCons g gs) (d :: ds) G W RR := fun C H O σ w vs k Q q => by
  obtain ⟨v, r, ev, k1, k2⟩ := k
  exact ⟨v, r, ev, h C H O σ w v k1 _ fun G1 W1 H1 O1 σ1 hh n1 l1 => hh C H1 O1 σ1 ⟨n1.dis, n1.oc, l1, n1.own⟩ r (k2.mono n1.ext) Q fun G2 W2 H2 O2 σ2 r2 n2 l2 => q G2 W2 H2 O2 σ2 r2 (n1.trans n2) l2⟩
theorem ta_tup {n : Nat} {gs : TGs} {ds : List D} {RR : Gm → Om → Prop} (hn : ds.length = n) (h : Tas F T gs ds G W RR) : Ta F T (gTup T.K n gs) (.tup ds) G W RR := fun C H O σ w v k Q q => by
  obtain ⟨a, xs, ev, hs, kl⟩ := k
  exact ⟨a, xs, ev, Same.sqT w.dis.same hs, by rw [kl.len, hn], h C H O σ w xs kl Q q⟩
theorem sw_asgA {g : TG} (h : Ev F T te G W fun d W' => Ta F T g d G W' fun G2 W2 => En1.nx G2 W2) : Sw F T (tAsg te g) G W En1 := fun C H O σ w B b =>
  h C H O σ w _ fun d W' H' O' v r n k => r C H' O' σ (w.step n) v k _ fun G2 W2 H2 O2 σ2 r2 n2 l2 => b.nx G2 W2 H2 O2 σ2 r2 (n.trans n2) l2
theorem sw_asg2 {g1 g2 : TG} (h : Ev F T te G W fun d W' => Ta F T g1 d G W' fun G2 W2 => Ta F T g2 d G2 W2 fun G3 W3 => En1.nx G3 W3) : Sw F T (tAsg2 te g1 g2) G W En1 := fun C H O σ w B b =>
  h C H O σ w _ fun d W' H' O' v r n k => r C H' O' σ (w.step n) v k _ fun G2 W2 H2 O2 σ2 r2 n2 l2 => r2 C H2 O2 σ2 ⟨n2.dis, n2.oc, l2, n2.own⟩ v (k.mono n2.ext) _ fun G3 W3 H3 O3 σ3 r3 n3 l3 => b.nx G3 W3 H3 O3 σ3 r3 ((n.trans n2).trans n3) l3
theorem sw_asg3 {g1 g2 g3 : TG} (h : Ev F T te G W fun d W' => Ta F T g1 d G W' fun G2 W2 => Ta F T g2 d G2 W2 fun G3 W3 => Ta F T g3 d G3 W3 fun G4 W4 => En1.nx G4 W4) : Sw F T (tAsg3 te g1 g2 g3) G W En1 := fun C H O σ w B b =>
  h C H O σ w _ fun d W' H' O' v r n k => r C H' O' σ (w.step n) v k _ fun G2 W2 H2 O2 σ2 r2 n2 l2 => r2 C H2 O2 σ2 ⟨n2.dis, n2.oc, l2, n2.own⟩ v (k.mono n2.ext) _ fun G3 W3 H3 O3 σ3 r3 n3 l3 =>
    r3 C H3 O3 σ3 ⟨n3.dis, n3.oc, l3, n3.own⟩ v ((k.mono n2.ext).mono n3.ext) _ fun G4 W4 H4 O4 σ4 r4 n4 l4 => b.nx G4 W4 H4 O4 σ4 r4 (((n.trans n2).trans n3).trans n4) l4
end
end N
set_option Elab.async false
set_option linter.all false
set_option maxRecDepth 100000
/-! Comprehensions, dicts, further walks. -/
namespace N
open PySem L2

/-! ### names of a comprehension -/
def wipeG (G : Gm) : List Nat → Gm
  | [] => G
  | v :: vs => (wipeG G vs).set v none
theorem wipe_at {σ : St} {i : Nat} : ∀ {vs : List Nat}, (wipe σ vs)[i]? = if i ∈ vs then (σ[i]?).map (fun _ => none) else σ[i]?
  | [] => by simp [wipe]
  | v :: vs => by
    unfold wipe
    have ih := wipe_at (σ := σ) (i := i) (vs := vs)
    rw [List.getElem?_set]
    by_cases h : v = i
    · subst h
      rw [if_pos rfl, if_pos (List.mem_cons_self)]
      rw [wipe_length]
      by_cases hl : v < σ.length
      · rw [if_pos hl, List.getElem?_eq_getElem hl]
        rfl
      · rw [if_neg hl, List.getElem?_eq_none (by omega)]
        rfl
    · rw [if_neg h, ih]
      have : (i ∈ v :: vs) ↔ (i ∈ vs) := by
        rw [List.mem_cons]
        exact ⟨fun z => z.elim (fun q => absurd q.symm h) id, .inr⟩
      by_cases hm : i ∈ vs
      · rw [if_pos hm, if_pos (this.mpr hm)]
      · rw [if_neg hm, if_neg (fun z => hm (this.mp z))]
theorem wipe_wipe {σ : St} {vs : List Nat} : wipe (wipe σ vs) vs = wipe σ vs := by
  apply List.ext_getElem?
  intro i
  rw [wipe_at, wipe_at]
  by_cases h : i ∈ vs
  · simp [h]
    rfl
  · simp [h]
theorem wipe_set {σ : St} {vs : List Nat} {i : Nat} {x : Option V} (h : i ∈ vs) : wipe (σ.set i x) vs = wipe σ vs := by
  apply List.ext_getElem?
  intro j
  rw [wipe_at, wipe_at]
  by_cases hj : j ∈ vs
  · rw [if_pos hj, if_pos hj, List.getElem?_set]
    by_cases e : i = j
    · subst e
      rw [if_pos rfl]
      by_cases hl : i < σ.length
      · rw [if_pos hl, List.getElem?_eq_getElem hl]
        rfl
      · rw [if_neg hl, List.getElem?_eq_none (by omega)]
    · rw [if_neg e]
  · rw [if_neg hj, if_neg hj, List.getElem?_set_ne (fun (e : i = j) => hj (e ▸ h))]
section
variable {F : FmKit} {T : Kx} {C H H' O O' : Hp} {G : Gm} {W W' : Om} {σ : St} {a p : Addr} {d : D} {l : List D}
  {te ta tb tv : TE} {t u : TT} {R R' : D → Om → Prop} {Z : Bool → Om → Prop} {tr tk : TA} {ts tz : TS}
theorem Lo.wipe (lo : Lo F T H G σ) : ∀ vs : List Nat, Lo F T H (wipeG G vs) (wipe σ vs)
  | [] => lo
  | v :: vs => (Lo.wipe lo vs).forget none
/-- a target of the comprehension's own names -/
def Tw (F : FmKit) (T : Kx) (vs : List Nat) (g : TG) (d : D) (G : Gm) (R : Gm → Prop) : Prop :=
  ∀ (H H1 : Hp) (σ : St) (v : V), Lo F T H G σ → Same H H1 → Den F T H d v → ∀ Q : St → Hp → Prop, (∀ G' σ', R G' → Lo F T H G' σ' → wipe σ' vs = wipe σ vs → Q σ' H1) → g v σ H1 Q
def Tws (F : FmKit) (T : Kx) (vs : List Nat) (g : TGs) (ds : List D) (G : Gm) (R : Gm → Prop) : Prop :=
  ∀ (H H1 : Hp) (σ : St) (us : List V), Lo F T H G σ → Same H H1 → DenL F T H ds us → ∀ Q : St → Hp → Prop, (∀ G' σ', R G' → Lo F T H G' σ' → wipe σ' vs = wipe σ vs → Q σ' H1) → g us σ H1 Q
variable {vs : List Nat} {Y : Gm → Prop}
theorem tw_name {i : Nat} (hi : i ∈ vs) (h : Y (G.set i (some d))) : Tw F T vs (gName i) d G Y := fun H H1 σ v l _ k Q q => q _ _ h (l.set k) (wipe_set hi)
theorem tws_nil (h : Y G) : Tws F T vs gNil [] G Y := fun H H1 σ v l _ k Q q => ⟨k, q _ _ h l rfl⟩
theorem tws_cons {g : TG} {gs : TGs} {ds : List D} (h : Tw F T vs g d G fun G' => Tws F T vs gs ds G' Y) : Tws F T vs (gCons g gs) (d :: ds) G Y := fun H H1 σ us l e k Q q => by
  obtain ⟨v, r, ev, k1, k2⟩ := k
  exact ⟨v, r, ev, h H H1 σ v l e k1 _ fun G' σ' hh l' w1 => hh H H1 σ' r l' e k2 Q fun G2 σ2 r2 l2 w2 => q G2 σ2 r2 l2 (w2.trans w1)⟩
theorem tw_tup {n : Nat} {gs : TGs} {ds : List D} (hn : ds.length = n) (h : Tws F T vs gs ds G Y) : Tw F T vs (gTup T.K n gs) (.tup ds) G Y := fun H H1 σ v l e k Q q => by
  obtain ⟨a, xs, ev, hs, kl⟩ := k
  exact ⟨a, xs, ev, Same.sqT e hs, by rw [kl.len, hn], h H H1 σ xs l e kl Q q⟩
/-- a hidden cell -/
theorem Nx.hide {o : HO} {Dp : Addr} {W1 : Om} {H1 : Hp} (n : Nx F T C W1 H H1 O') (hD : ov O' H1 Dp = none) : Nx F T (upd C Dp o) W1 H1 H1 (upd O' Dp o) ∧ upd (ov O' H1) Dp o = ov (upd O' Dp o) H1 ∧ C Dp = none := by
  obtain ⟨h1, h2⟩ := ov_none hD
  have cp : C Dp = none := by
    cases e : C Dp with
    | none => rfl
    | some x =>
      rw [n.oc Dp x e] at h1
      cases h1
  refine ⟨⟨Same.refl _, n.dis.updO h2, fun b x e => ?_, ⟨n.own.nd, fun b ob m => ?_⟩⟩, ov_updO, cp⟩
  · by_cases q : b = Dp
    · subst q
      rw [upd_same] at e ⊢
      exact e
    · rw [upd_ne q] at e ⊢
      exact n.oc b x e
  · have : b ≠ Dp := fun q => n.own.notin h1 (q ▸ mem_akeys (x := (b, ob)) m)
    rw [upd_ne this, upd_ne this]
    exact n.own.at_ b ob m
/-- the hidden cell is written -/
theorem Nx.rehide {o o' : HO} {Dp : Addr} {W2 : Om} {H1 H2 O2 : Hp} (n : Nx F T (upd C Dp o) W2 H1 H2 O2) (cp : C Dp = none) : Nx F T (upd C Dp o') W2 H1 H2 (upd O2 Dp o') ∧ upd (ov O2 H2) Dp o' = ov (upd O2 Dp o') H2 := by
  have hO : O2 Dp = some o := n.oc Dp o upd_same
  refine ⟨⟨n.ext, n.dis.updO (n.dis Dp o hO), fun b x e => ?_, ⟨n.own.nd, fun b ob m => ?_⟩⟩, ov_updO⟩
  · by_cases q : b = Dp
    · subst q
      rw [upd_same] at e ⊢
      exact e
    · rw [upd_ne q] at e
      rw [upd_ne q]
      exact n.oc b x (by rw [upd_ne q]; exact e)
  · obtain ⟨c1, c2⟩ := n.own.at_ b ob m
    have hb : b ≠ Dp := fun q => by
      rw [q, upd_same] at c1
      cases c1
    rw [upd_ne hb] at c1
    rw [upd_ne hb, upd_ne hb]
    exact ⟨c1, c2⟩
/-- the hidden cell comes out as an owned one -/
theorem Nx.show {o : HO} {od : OD} {Dp : Addr} {W2 : Om} {H1 H2 O2 : Hp} (n : Nx F T (upd C Dp o) W2 H1 H2 O2) (cp : C Dp = none) (h : OdAt F T H2 (some o) od) : Nx F T C ((Dp, od) :: W2) H1 H2 O2 ∧ Dp ∉ akeys W2 := by
  have hO : O2 Dp = some o := n.oc Dp o upd_same
  have nin : Dp ∉ akeys W2 := fun z => by
    obtain ⟨x, hx, e⟩ := List.mem_map.mp z
    have := (n.own.at_ x.1 x.2 hx).1
    rw [e, upd_same] at this
    cases this
  refine ⟨⟨n.ext, n.dis, fun b x e => n.oc b x (by rw [upd_ne (ne_of_none e cp)]; exact e), ⟨List.nodup_cons.mpr ⟨nin, n.own.nd⟩, fun b ob m => ?_⟩⟩, nin⟩
  rcases List.mem_cons.mp m with e | m
  · obtain ⟨rfl, rfl⟩ := Prod.mk.inj e
    rw [hO]
    exact ⟨cp, h⟩
  · obtain ⟨c1, c2⟩ := n.own.at_ b ob m
    have hb : b ≠ Dp := fun q => by
      rw [q, upd_same] at c1
      cases c1
    rw [upd_ne hb] at c1
    exact ⟨c1, c2⟩

/-- [e for .. in .. if ..] -/
theorem ev_lc {wi : TI} {g : TG} (h : EvI F T wi G W fun ds W1 => ∃ I : Nat → List D → Om → Prop, I 0 [] W1 ∧
      (∀ i d acc W', ds[i]? = some d → I i acc W' → Tw F T vs g d (wipeG G vs) fun G2 => EvT F T t G2 W' fun b W2 => if b = true then Ev F T te G2 W2 (fun z W3 => acc.length < sizeLine ∧ I (i + 1) (acc ++ [z]) W3) else I (i + 1) acc W2) ∧
      (∀ acc W', I ds.length acc W' → ∀ p, p ∉ akeys W' → R (.adr p) ((p, .lst acc) :: W'))) : Ev F T (tLc wi g t te vs) G W R := fun C H O σ w Q q =>
  h C H O σ w _ fun J ds W1 H1 O1 ⟨I, i0, turn, fin⟩ n1 wk Dp hD => by
    obtain ⟨n0, e0, cp⟩ := n1.hide (o := .lst []) hD
    refine ⟨fun i m X => m = ds.length - i ∧ i ≤ ds.length ∧ ∃ acc av W' H' O', X = ov O' H' ∧ Nx F T (upd C Dp (.lst av)) W' H1 H' O' ∧ DenL F T H' acc av ∧ I i acc W', ⟨ds.length, by simp, Nat.zero_le _, [], [], W1, H1, _, e0, n0, rfl, i0⟩, ?_⟩
    rintro i m X ⟨rfl, hi, acc, av, W', H', O', rfl, n, ka, ii⟩
    have k := wk i H' O' n.ext n.dis
    have lo1 := (w.loc.mono n1.ext).mono n.ext
    by_cases hlt : i < ds.length
    · obtain ⟨k1, k2⟩ := k.1 ds[i] (by simp [hlt])
      refine .inr ⟨k1, fun X2 => ∃ acc av W2 H2 O2, X2 = ov O2 H2 ∧ Nx F T (upd C Dp (.lst av)) W2 H1 H2 O2 ∧ DenL F T H2 acc av ∧ I (i + 1) acc W2, fun X2 y => ⟨ds.length - (i + 1), by omega, rfl, hlt, y⟩, fun x X2 y => ?_⟩
      obtain ⟨H2, s2, d2, rfl, kx⟩ := k2 x X2 y
      refine turn i ds[i] acc W' (by simp [hlt]) ii H2 _ _ x ((lo1.mono s2).wipe vs) d2.same kx _ fun G3 σ3 et l3 wz => ⟨wz.trans wipe_wipe, ?_⟩
      refine et (upd C Dp (.lst av)) H2 O' σ3 ⟨d2, n.oc, l3, n.own.mono s2⟩ _ fun b W3 H3 O3 r3 n3 => ?_
      have n03 : Nx F T (upd C Dp (.lst av)) W3 H1 H3 O3 := ⟨(n.ext.trans s2).trans n3.ext, n3.dis, n3.oc, n3.own⟩
      cases b with
      | false => exact ⟨acc, av, W3, H3, O3, rfl, n03, (ka.mono s2).mono n3.ext, r3⟩
      | true =>
        refine r3 (upd C Dp (.lst av)) H3 O3 σ3 ⟨n3.dis, n3.oc, l3.mono n3.ext, n3.own⟩ _ fun z W4 H4 O4 v ⟨hz, i4⟩ n4 k4 => ?_
        have hO : ov O4 H4 Dp = some (.lst av) := ov_own (n4.oc Dp _ upd_same)
        have ka4 := ((ka.mono s2).mono n3.ext).mono n4.ext
        refine ⟨av, hO, by rw [ka.len]; exact hz, ?_⟩
        obtain ⟨n5, e5⟩ := Nx.rehide (o' := .lst (av ++ [v])) (n03.trans n4) cp
        exact ⟨acc ++ [z], av ++ [v], W4, H4, _, e5, n5, ka4.app (.one k4), i4⟩
    · have e : i = ds.length := by omega
      subst e
      refine .inl ⟨k.2 rfl, ?_⟩
      obtain ⟨n6, np⟩ := n.show (od := .lst acc) cp ⟨av, rfl, ka⟩
      exact q (.adr Dp) _ H' O' _ (fin acc W' ii Dp np) (Nx.trans ⟨n1.ext, n1.dis, n1.oc, n1.own⟩ n6) rfl
theorem et_yes (h : Z true W) : EvT F T tYes G W Z := fun C H O σ w Q q => q true W H O h w.nx

/-! ### dicts -/
def putG {α : Type} (ps : List (Key × α)) (k : Key) (z : α) : List (Key × α) := if (ps.any fun q => decide (q.1 = k)) = true then ps.map (fun q => if q.1 = k then (q.1, z) else q) else ps ++ [(k, z)]
theorem putG_V (kvs : List (Key × V)) (k : Key) (z : V) : putG kvs k z = putK kvs k z := rfl
/-- a dict of pairs -/
@[reducible] def OD.dp (ps : List (Key × D)) : OD := .dct (ps.map (·.1)) (ps.map (·.2))
@[reducible] def D.dp (ps : List (Key × D)) : D := .dct (ps.map (·.1)) (ps.map (·.2))
theorem any_keys {α β : Type} {k : Key} : ∀ {ps : List (Key × α)} {qs : List (Key × β)}, ps.map (·.1) = qs.map (·.1) → (ps.any fun q => decide (q.1 = k)) = qs.any fun q => decide (q.1 = k)
  | [], [], _ => rfl
  | [], q :: qs, h => by simp at h
  | p :: ps, [], h => by simp at h
  | p :: ps, q :: qs, h => by
    rw [List.map_cons, List.map_cons] at h
    obtain ⟨h1, h2⟩ := List.cons.inj h
    rw [List.any_cons, List.any_cons, any_keys h2, h1]
theorem putG_keys {α β : Type} {k : Key} {z : α} {y : β} {ps : List (Key × α)} {qs : List (Key × β)} (h : ps.map (·.1) = qs.map (·.1)) : (putG ps k z).map (·.1) = (putG qs k y).map (·.1) := by
  unfold putG
  rw [any_keys h]
  split
  · rw [List.map_map, List.map_map]
    have e1 : ∀ (α : Type) (z : α) (l : List (Key × α)), l.map ((·.1) ∘ fun q => if q.1 = k then (q.1, z) else q) = l.map (·.1) := fun α z l => List.map_congr_left fun q _ => by
      show (if q.1 = k then (q.1, z) else q).1 = q.1
      split <;> rfl
    rw [e1, e1, h]
  · rw [List.map_append, List.map_append, h]
    rfl
theorem putG_den {k : Key} {z : D} {y : V} (hz : Den F T H z y) : ∀ {ps : List (Key × D)} {kvs : List (Key × V)}, kvs.map (·.1) = ps.map (·.1) → DenL F T H (ps.map (·.2)) (kvs.map (·.2)) → DenL F T H ((putG ps k z).map (·.2)) ((putG kvs k y).map (·.2)) := by
  intro ps kvs h kl
  unfold putG
  rw [any_keys h]
  split
  · rename_i hh
    clear hh
    induction ps generalizing kvs with
    | nil =>
      cases kvs with
      | nil => exact kl
      | cons _ _ => simp at h
    | cons p ps ih =>
      cases kvs with
      | nil => simp at h
      | cons q qs =>
        rw [List.map_cons, List.map_cons] at h
        obtain ⟨h1, h2⟩ := List.cons.inj h
        obtain ⟨v, r, e, k1, k2⟩ := kl
        rw [List.map_cons] at e
        obtain ⟨e1, e2⟩ := List.cons.inj e
        subst e2
        refine ⟨_, _, rfl, ?_, ih h2 k2⟩
        show Den F T H (if p.1 = k then (p.1, z) else p).2 (if q.1 = k then (q.1, y) else q).2
        rw [h1]
        by_cases e : p.1 = k
        · rw [if_pos e, if_pos e]
          exact hz
        · rw [if_neg e, if_neg e, e1]
          exact k1
  · rw [List.map_append, List.map_append]
    exact kl.app (.one hz)
theorem putG_nodup {α : Type} {k : Key} {z : α} {ps : List (Key × α)} (h : (ps.map (·.1)).Nodup) : ((putG ps k z).map (·.1)).Nodup := by
  unfold putG
  split
  · rw [List.map_map]
    have e1 : ps.map ((·.1) ∘ fun q => if q.1 = k then (q.1, z) else q) = ps.map (·.1) := List.map_congr_left fun q _ => by
      show (if q.1 = k then (q.1, z) else q).1 = q.1
      split <;> rfl
    rw [e1]
    exact h
  · rename_i hn
    rw [List.map_append, List.nodup_append]
    refine ⟨h, by simp, fun x hx y hy e => hn ?_⟩
    have hy : y = k := by simpa using hy
    obtain ⟨q, hq, eq⟩ := List.mem_map.mp hx
    rw [List.any_eq_true]
    exact ⟨q, hq, by rw [eq, e, hy]; simp⟩
/-- what a dict gives -/
def getG {α : Type} (ps : List (Key × α)) (k : Key) : Option α := (ps.find? fun q => decide (q.1 = k)).map (·.2)
theorem getG_den {k : Key} : ∀ {ps : List (Key × D)} {kvs : List (Key × V)}, kvs.map (·.1) = ps.map (·.1) → DenL F T H (ps.map (·.2)) (kvs.map (·.2)) → (getG ps k = none ∧ valV kvs k = none) ∨ ∃ z v, getG ps k = some z ∧ valV kvs k = some v ∧ Den F T H z v
  | [], [], _, _ => .inl ⟨rfl, rfl⟩
  | [], q :: qs, h, _ => by simp at h
  | p :: ps, [], h, _ => by simp at h
  | p :: ps, q :: qs, h, kl => by
    rw [List.map_cons, List.map_cons] at h
    obtain ⟨h1, h2⟩ := List.cons.inj h
    obtain ⟨v, r, e, k1, k2⟩ := kl
    rw [List.map_cons] at e
    obtain ⟨e1, e2⟩ := List.cons.inj e
    subst e2
    unfold getG valV
    rw [List.find?_cons, List.find?_cons, h1]
    by_cases e : p.1 = k
    · rw [decide_eq_true e]
      exact .inr ⟨p.2, q.2, rfl, rfl, by rw [e1]; exact k1⟩
    · rw [decide_eq_false e]
      exact getG_den h2 k2
/-- d is a dict of ps: frozen, or owned -/
def Vd (W : Om) (d : D) (ps : List (Key × D)) : Prop := d = .dp ps ∨ ∃ a, d = .adr a ∧ (a, .dp ps) ∈ W
theorem Vd.at {x : V} {ps : List (Key × D)} (h : Vd W d ps) (di : Dis O H) (ow : Ow F T H C O W) (k : Den F T H d x) : ∃ a kvs, x = .ref a ∧ ov O H a = some (.dK kvs) ∧ kvs.map (·.1) = ps.map (·.1) ∧ (ps.map (·.1)).Nodup ∧ DenL F T H (ps.map (·.2)) (kvs.map (·.2)) := by
  rcases h with rfl | ⟨a, rfl, m⟩
  · obtain ⟨a, kvs, e, h1, h2, h3, h4⟩ := k
    exact ⟨a, kvs, e, di.same _ _ h1, h2, h3, h4⟩
  · obtain ⟨_, kvs, h1, h2, h3, h4⟩ := ow.at_ a _ m
    exact ⟨a, kvs, k, ov_own h1, h2, h3, h4⟩
/-- a key as a datum -/
def kD (k : Key) : D := .vl (kV k)
theorem ev_dnew (h : ∀ p, p ∉ akeys W → R (.adr p) ((p, .dp []) :: W)) : Ev F T tDNewK G W R := fun C H O σ w Q q p hp => by
  obtain ⟨n2, e, np⟩ := w.nx.newO (od := .dp []) (o := .dK []) hp ⟨[], rfl, rfl, List.nodup_nil, rfl⟩
  rw [e]
  exact q (.adr p) _ _ _ _ (h p np) n2 rfl
/-- d[k] -/
theorem ev_dget (h : Ev F T ta G W fun d W1 => Ev F T tb G W1 fun y W2 => ∃ ps k z, Vd W2 d ps ∧ y = kD k ∧ getG ps k = some z ∧ R z W2) : Ev F T (tDGet ta tb) G W R := fun C H O σ w Q q =>
  h C H O σ w _ fun d W1 H1 O1 x h1 n1 k1 => h1 C H1 O1 σ (w.step n1) _ fun y W2 H2 O2 yv ⟨ps, k, z, hv, ey, hg, r⟩ n2 k2 => by
    subst ey
    obtain ⟨a, kvs, ex, ha, e1, e2, kl⟩ := hv.at n2.dis n2.own (k1.mono n2.ext)
    have k2 : yv = kV k := k2
    subst ex k2
    rcases getG_den (k := k) e1 kl with ⟨g1, _⟩ | ⟨z', v, g1, g2, kz⟩
    · rw [g1] at hg
      cases hg
    · rw [g1] at hg
      cases hg
      exact ⟨a, v, rfl, .inl ⟨kvs, k, .inl ha, rfl, g2.symm⟩, q z W2 H2 O2 v r (n1.trans n2) kz⟩
/-- k in d, k not in d -/
theorem run_din {ps : List (Key × D)} {k : Key} {x yv : V} (hv : Vd W d ps) (di : Dis O H) (ow : Ow F T H C O W) (k2 : Den F T H d x) (k1 : yv = kV k) : ∃ a o, x = .ref a ∧ DGet (ov O H) a yv o ∧ o.isSome = (getG ps k).isSome := by
  obtain ⟨a, kvs, ex, ha, e1, e2, kl⟩ := hv.at di ow k2
  subst ex k1
  refine ⟨a, valV kvs k, rfl, .inl ⟨kvs, k, .inl ha, rfl, rfl⟩, ?_⟩
  rcases getG_den (k := k) e1 kl with ⟨g1, g2⟩ | ⟨z', v, g1, g2, kz⟩
  · rw [g1, g2]
    rfl
  · rw [g1, g2]
    rfl
theorem ev_din (h : Ev F T tb G W fun y W1 => Ev F T ta G W1 fun d W2 => ∃ ps k, Vd W2 d ps ∧ y = kD k ∧ R (.bl (getG ps k).isSome) W2) : Ev F T (tDIn tb ta) G W R := fun C H O σ w Q q =>
  h C H O σ w _ fun y W1 H1 O1 yv h1 n1 k1 => h1 C H1 O1 σ (w.step n1) _ fun d W2 H2 O2 x ⟨ps, k, hv, ey, r⟩ n2 k2 => by
    subst ey
    obtain ⟨a, o, ex, g, e⟩ := run_din hv n2.dis n2.own k2 k1
    refine ⟨a, o, ex, g, ?_⟩
    rw [e]
    exact q _ W2 H2 O2 _ r (n1.trans n2) rfl
theorem ev_dnotin (h : Ev F T tb G W fun y W1 => Ev F T ta G W1 fun d W2 => ∃ ps k, Vd W2 d ps ∧ y = kD k ∧ R (.bl (!(getG ps k).isSome)) W2) : Ev F T (tDNotIn tb ta) G W R := fun C H O σ w Q q =>
  h C H O σ w _ fun y W1 H1 O1 yv h1 n1 k1 => h1 C H1 O1 σ (w.step n1) _ fun d W2 H2 O2 x ⟨ps, k, hv, ey, r⟩ n2 k2 => by
    subst ey
    obtain ⟨a, o, ex, g, e⟩ := run_din hv n2.dis n2.own k2 k1
    refine ⟨a, o, ex, g, ?_⟩
    rw [e]
    exact q _ W2 H2 O2 _ r (n1.trans n2) rfl
/-- d[k] = e -/
theorem sw_dput {td ty tv : TE} {Ed : En} (h : Ev F T tv G W fun z W1 => Ev F T td G W1 fun d W2 => Ev F T ty G W2 fun y W3 => ∃ a ps k Wa Wb, d = .adr a ∧ W3 = Wa ++ (a, .dp ps) :: Wb ∧ y = kD k ∧ ps.length < sizeLine ∧ Ed.nx G (Wa ++ (a, .dp (putG ps k z)) :: Wb)) : Sw F T (sDPut td ty tv) G W Ed := fun C H O σ w B b =>
  h C H O σ w _ fun z W1 H1 O1 zv h1 n1 k1 => h1 C H1 O1 σ (w.step n1) _ fun d W2 H2 O2 x h2 n2 k2 => h2 C H2 O2 σ ((w.step n1).step n2) _ fun y W3 H3 O3 yv ⟨a, ps, k, Wa, Wb, e1, e2, e3, hl, r⟩ n3 k3 => by
    subst e1 e2 e3
    have k2 : x = .ref a := k2
    have k3 : yv = kV k := k3
    subst k2 k3
    obtain ⟨_, kvs, ha, f1, f2, kl⟩ := n3.own.at_ a _ (List.mem_append_right _ List.mem_cons_self)
    have nn := (n1.trans n2).trans n3
    have hl2 : kvs.length = ps.length := by
      have := congrArg List.length f1
      rwa [List.length_map, List.length_map] at this
    refine ⟨a, _, rfl, DPut.k (ov_own ha) (by rw [hl2]; exact hl), ?_⟩
    obtain ⟨n4, e4⟩ := nn.write (o := .dK (putK kvs k zv)) (od2 := .dp (putG ps k z)) ⟨_, rfl, (putG_V kvs k zv) ▸ putG_keys (z := zv) (y := z) f1, putG_nodup f2, (putG_V kvs k zv) ▸ putG_den ((k1.mono n2.ext).mono n3.ext) f1 kl⟩
    rw [e4]
    exact b.nx _ _ _ _ _ r n4 (w.loc.mono nn.ext)
/-- {k: e for .. in .. if ..} -/
theorem ev_dc {wi : TI} {g : TG} (h : EvI F T wi G W fun ds W1 => ∃ I : Nat → List (Key × D) → Om → Prop, I 0 [] W1 ∧
      (∀ i d acc W', ds[i]? = some d → I i acc W' → Tw F T vs g d (wipeG G vs) fun G2 => EvT F T t G2 W' fun b W2 => if b = true then Ev F T te G2 W2 (fun y W3 => Ev F T tv G2 W3 fun z W4 => ∃ k, y = kD k ∧ acc.length < sizeLine ∧ I (i + 1) (putG acc k z) W4) else I (i + 1) acc W2) ∧
      (∀ acc W', I ds.length acc W' → ∀ p, p ∉ akeys W' → R (.adr p) ((p, .dp acc) :: W'))) : Ev F T (tDc wi g t te tv vs) G W R := fun C H O σ w Q q =>
  h C H O σ w _ fun J ds W1 H1 O1 ⟨I, i0, turn, fin⟩ n1 wk Dp hD => by
    obtain ⟨n0, e0, cp⟩ := n1.hide (o := .dK []) hD
    refine ⟨fun i m X => m = ds.length - i ∧ i ≤ ds.length ∧ ∃ acc av W' H' O', X = ov O' H' ∧ Nx F T (upd C Dp (.dK av)) W' H1 H' O' ∧ (av.map (·.1) = acc.map (·.1) ∧ (acc.map (·.1)).Nodup ∧ DenL F T H' (acc.map (·.2)) (av.map (·.2))) ∧ I i acc W', ⟨ds.length, by simp, Nat.zero_le _, [], [], W1, H1, _, e0, n0, ⟨rfl, List.nodup_nil, (show DenL F T H1 (([] : List (Key × D)).map (·.2)) (([] : List (Key × V)).map (·.2)) from rfl)⟩, i0⟩, ?_⟩
    rintro i m X ⟨rfl, hi, acc, av, W', H', O', rfl, n, ⟨ka1, ka2, ka⟩, ii⟩
    have k := wk i H' O' n.ext n.dis
    have lo1 := (w.loc.mono n1.ext).mono n.ext
    by_cases hlt : i < ds.length
    · obtain ⟨k1, k2⟩ := k.1 ds[i] (by simp [hlt])
      refine .inr ⟨k1, fun X2 => ∃ acc av W2 H2 O2, X2 = ov O2 H2 ∧ Nx F T (upd C Dp (.dK av)) W2 H1 H2 O2 ∧ (av.map (·.1) = acc.map (·.1) ∧ (acc.map (·.1)).Nodup ∧ DenL F T H2 (acc.map (·.2)) (av.map (·.2))) ∧ I (i + 1) acc W2, fun X2 y => ⟨ds.length - (i + 1), by omega, rfl, hlt, y⟩, fun x X2 y => ?_⟩
      obtain ⟨H2, s2, d2, rfl, kx⟩ := k2 x X2 y
      refine turn i ds[i] acc W' (by simp [hlt]) ii H2 _ _ x ((lo1.mono s2).wipe vs) d2.same kx _ fun G3 σ3 et l3 wz => ⟨wz.trans wipe_wipe, ?_⟩
      refine et (upd C Dp (.dK av)) H2 O' σ3 ⟨d2, n.oc, l3, n.own.mono s2⟩ _ fun b W3 H3 O3 r3 n3 => ?_
      have n03 : Nx F T (upd C Dp (.dK av)) W3 H1 H3 O3 := ⟨(n.ext.trans s2).trans n3.ext, n3.dis, n3.oc, n3.own⟩
      cases b with
      | false => exact ⟨acc, av, W3, H3, O3, rfl, n03, ⟨ka1, ka2, (ka.mono s2).mono n3.ext⟩, r3⟩
      | true =>
        have w3 : Wd F T (upd C Dp (.dK av)) G3 W3 H3 O3 σ3 := ⟨n3.dis, n3.oc, l3.mono n3.ext, n3.own⟩
        refine r3 (upd C Dp (.dK av)) H3 O3 σ3 w3 _ fun y W4 H4 O4 yv r4 n4 k4 => ?_
        refine r4 (upd C Dp (.dK av)) H4 O4 σ3 (w3.step n4) _ fun z W5 H5 O5 zv ⟨k', ey, hz, i5⟩ n5 k5 => ?_
        subst ey
        have k4 : yv = kV k' := k4
        subst k4
        have hO : ov O5 H5 Dp = some (.dK av) := ov_own (n5.oc Dp _ upd_same)
        have ka5 := (((ka.mono s2).mono n3.ext).mono n4.ext).mono n5.ext
        have hl2 : av.length = acc.length := by
          have := congrArg List.length ka1
          rwa [List.length_map, List.length_map] at this
        refine ⟨av, k', rfl, hO, by rw [hl2]; exact hz, ?_⟩
        obtain ⟨n6, e6⟩ := Nx.rehide (o' := .dK (putK av k' zv)) ((n03.trans n4).trans n5) cp
        exact ⟨putG acc k' z, putK av k' zv, W5, H5, _, e6, n6, ⟨(putG_V av k' zv) ▸ putG_keys (z := zv) (y := z) ka1, putG_nodup ka2, (putG_V av k' zv) ▸ putG_den k5 ka1 ka5⟩, i5⟩
    · have e : i = ds.length := by omega
      subst e
      refine .inl ⟨k.2 rfl, ?_⟩
      obtain ⟨n6, np⟩ := n.show (od := .dp acc) cp ⟨av, rfl, ka1, ka2, ka⟩
      exact q (.adr Dp) _ H' O' _ (fin acc W' ii Dp np) (Nx.trans ⟨n1.ext, n1.dis, n1.oc, n1.own⟩ n6) rfl

/-! ### further walks -/
def pairsD : Nat → List D → List D
  | _, [] => []
  | n, d :: l => .tup [.int (n : Nat), d] :: pairsD (n + 1) l
theorem pairsD_len : ∀ {l : List D} {n : Nat}, (pairsD n l).length = l.length
  | [], _ => rfl
  | d :: l, n => by
    show (pairsD (n + 1) l).length + 1 = l.length + 1
    rw [pairsD_len]
theorem pairsD_get : ∀ {l : List D} {n i : Nat} {z : D}, (pairsD n l)[i]? = some z → ∃ d, l[i]? = some d ∧ z = .tup [.int ((n + i : Nat) : Int), d]
  | [], _, i, z, h => by simp [pairsD] at h
  | d :: l, n, 0, z, h => ⟨d, rfl, (Option.some.inj h).symm⟩
  | d :: l, n, i + 1, z, h => by
    have h : (pairsD (n + 1) l)[i]? = some z := h
    obtain ⟨e, h1, h2⟩ := pairsD_get h
    refine ⟨e, h1, ?_⟩
    rw [h2]
    have : n + 1 + i = n + (i + 1) := by omega
    rw [this]
theorem ei_enum {Y : List D → Om → Prop} (h : EvA F T tr G W fun es W1 => ∃ l, es = [.lst l] ∧ Y (pairsD 0 l) W1) : EvI F T (iEnum T.K tr) G W Y := fun C H O σ w Q q =>
  h C H O σ w _ fun es W1 H1 O1 us ⟨l, e, z⟩ n k => by
    subst e
    obtain ⟨x, r, e1, k1, e2⟩ := k
    have e2 : r = [] := e2
    obtain ⟨a, xs, ea, hs, kl⟩ := k1
    subst e1 e2 ea
    have hs : SqL T.K H1 a xs := SqL.of hs
    refine ⟨a, xs, rfl, n.dis.same.seq hs, q _ _ W1 H1 O1 z n fun i H2 O2 s di => ⟨fun d hd => ?_, fun e => ⟨xs, di.same.seq (s.seq hs), by rw [kl.len, e, pairsD_len]; exact Nat.le_refl _⟩⟩⟩
    obtain ⟨y, hy, ed⟩ := pairsD_get hd
    obtain ⟨v, hv, kv⟩ := kl.get hy
    have hq : SqL T.K (ov O2 H2) a xs := di.same.seq (s.seq hs)
    refine ⟨⟨xs, v, hq, hv⟩, fun x X ⟨Tp, u, e1, e2, e3, e4⟩ => ?_⟩
    have hu := e4 xs hq
    rw [hv] at hu
    cases hu
    obtain ⟨h1, h2⟩ := ov_none e2
    have sm := same_upd (o := .tup [.int (i : Nat), v]) h2
    refine ⟨upd H2 Tp (.tup [.int (i : Nat), v]), sm, di.updH h1, by rw [e3, ov_updH h1], ?_⟩
    subst ed
    exact ⟨Tp, _, e1, SqT.of upd_same, _, _, rfl, by rw [Nat.zero_add]; rfl, .one ((kv.mono s).mono sm)⟩
theorem ei_str {Y : List D → Om → Prop} (h : Ev F T te G W fun d W1 => ∃ z : Str, d = .str z ∧ Y (z.cps.toList.map fun c => .str ⟨#[c]⟩) W1) : EvI F T (iStr te) G W Y := fun C H O σ w Q q =>
  h C H O σ w _ fun d W1 H1 O1 v ⟨z, e, y⟩ n k => by
    subst e
    have k : v = .str z := k
    refine ⟨z, k, q _ _ W1 H1 O1 y n fun i H2 O2 s di => ⟨fun d hd => ?_, fun e => ?_⟩⟩
    · rw [List.getElem?_map] at hd
      cases hc : z.cps.toList[i]? with
      | none =>
        rw [hc] at hd
        cases hd
      | some c =>
        rw [hc] at hd
        have hd : D.str ⟨#[c]⟩ = d := Option.some.inj hd
        subst hd
        have hc' : z.cps[i]? = some c := by simpa using hc
        refine ⟨(Array.getElem?_eq_some_iff.mp hc').1, fun x X ⟨e1, c2, e2, e3⟩ => ⟨H2, Same.refl _, di, e1, ?_⟩⟩
        rw [hc'] at e2
        cases e2
        exact e3
    · rw [List.length_map, Array.length_toList] at e
      show z.cps.size ≤ i
      omega
end
end N
set_option Elab.async false
set_option linter.all false
set_option maxRecDepth 100000
/-! Rules of the machine that the layer lacks: own operators, stores to attributes in any target, calls by keywords alone. -/
namespace N
open PySem PySem.Spec PyProof.Rows L2

section
variable {X : Cx} {CX : CXT} {k : Nat} {C f : Addr} {fd : FuncData} {ps ks : List Str} {sp : Sp} {E : XK} {pins : List (Addr × Obj)} {σ : L2.St} {H : Hp} {s : Shared}
/-- a def is called from anywhere within the body -/
theorem run_at {A : Around} {vs : List V} {us : List Value} {Q : VK} (F : FnOk X.prog X.w X.K X.mg X.base CX k f fd ps sp) (hr : Room k A) (fr : A.frames = X.A.frames) (hb : Binds X.K fd ps []) (hx : Passes CX X E) (I : Inv X pins σ H s) (r : Vals vs us) (h : sp vs H Q E) :
    wpAny (model X.prog X.w) A (call (.ref f) us) (EP X pins σ Q) X.xe s := by
  have e := I.env0
  have e0 : Env0 X.prog X.w X.K X.mg X.base A X.stack s H := ⟨by rw [fr]; exact e.frames, e.mod, e.bs, e.bsz, e.funs, e.frf, e.hok, e.bare⟩
  have hl : us.length = ps.length := by rw [← r.length]; exact F.len _ _ _ _ h
  have hb' := hb s us I.kIn (by simpa using hl)
  simp only [List.append_nil] at hb'
  refine wpAny_call (codeAny_mono (F.run A X.stack s H ⟨us, []⟩ us vs Q E hr e0 hb' r h) fun r s' hq => ?_)
  cases r with
  | error e => exact hx pins σ H s e s' I hq
  | ok fl =>
    cases fl with
    | ret u => exact I.after hq
    | next => exact False.elim hq
    | brk => exact False.elim hq
    | cont => exact False.elim hq
/-- an instance's method of the class, by a name between two underscores -/
structure Own2 (K : PySem.W.Frag) (C : Addr) (m : Str) (f : Addr) : Prop where
  at_ : PySem.W.findIn K (.ref C) m = some (some (.ref f))
  fn : PySem.W.isFn K (.ref f) = true
def rOwn1 (C : Addr) (sp : Sp) (E : XK) : V → Hp → VK → Prop := fun x H Q => ∃ a dx fs, x = .ref a ∧ H a = some (.ins C dx fs) ∧ sp [x] H Q E
def rOwn2 (C : Addr) (sp : Sp) (E : XK) : R2 := fun x y H Q => ∃ a b dx dy fs gs, x = .ref a ∧ y = .ref b ∧ H a = some (.ins C dx fs) ∧ H b = some (.ins C dy gs) ∧ sp [x, y] H Q E
theorem inst_of {a dx : Addr} {fs : List (Str × V)} (I : Inv X pins σ H s) (e : H a = some (.ins C dx fs)) : ∃ od, PySem.W.InstAt s.heap a (PySem.W.instObj C dx) C (some od) := by
  obtain ⟨mA, J, _⟩ := ins_get I.hok e
  obtain ⟨od, J, _⟩ := J.look
  exact ⟨od, J⟩
theorem back_of {Q : VK} {v : Value} {s' : Shared} (h : EP X pins σ Q v s') : PySem.W.CmpBack (EP X pins σ Q) v s' := by
  obtain ⟨x, H', I', r, q⟩ := id h
  cases x with
  | non => cases r; exact h
  | bl _ => cases r; exact h
  | int _ => obtain ⟨t, rfl⟩ := r; exact h
  | str _ => obtain ⟨t, rfl⟩ := r; exact h
  | byt _ => obtain ⟨t, rfl⟩ := r; exact h
  | flt _ => obtain ⟨t, rfl⟩ := r; exact h
  | ref _ => cases r; exact h
  | ty _ => cases r; exact h
/-- x op y by the own method, both of the class -/
theorem op_own {op : Operator} (F : FnOk X.prog X.w X.K X.mg X.base CX k f fd ps sp) (hr : Room k X.A) (o : Own2 X.K C (PySem.dunder op.info.2) f) (hc : PySem.W.selfFirst X.K C = true) (hb : Binds X.K fd ps []) (hx : Passes CX X E) : OpR X (binaryOp op) (rOwn2 C sp E) := by
  intro pins s σ H x y v u Q I rx ry hq
  obtain ⟨a, b, dx, dy, fs, gs, rfl, rfl, ha, hb', q⟩ := hq
  cases rx
  cases ry
  obtain ⟨od, J⟩ := inst_of I ha
  obtain ⟨od', J'⟩ := inst_of I hb'
  obtain ⟨m, hF⟩ := I.fr
  refine PySem.W.binop_K hF I.ok.mod.kin J J'.type hc o.at_ o.fn ?_
  exact thn (run_at F hr rfl hb hx I (vs := [V.ref a, V.ref b]) (.cons rfl (.cons rfl .nil)) q) fun v s' h => back_of h
theorem un_own_inv (F : FnOk X.prog X.w X.K X.mg X.base CX k f fd ps sp) (hr : Room k X.A) (o : Own2 X.K C "__invert__" f) (hb : Binds X.K fd ps []) (hx : Passes CX X E) : UnR X (unaryOp .Invert) (rOwn1 C sp E) := by
  intro pins s σ H x v Q I rx hq
  obtain ⟨a, dx, fs, rfl, ha, q⟩ := hq
  cases rx
  obtain ⟨od, J⟩ := inst_of I ha
  obtain ⟨m, hF⟩ := I.fr
  exact PySem.W.ksp_inv hF I.ok.mod.kin J o.at_ o.fn (run_at F hr rfl hb hx I (vs := [V.ref a]) (.cons rfl .nil) q)
/-- str(x) by the own method -/
theorem call_own_str (F : FnOk X.prog X.w X.K X.mg X.base CX k f fd ps sp) (hr : Room (k + 2) X.A) (o : Own2 X.K C "__str__" f) (hb : Binds X.K fd ps []) (hx : Passes CX X E) :
    CallR X (.type "str") (fun xs H Q => ∃ a dx fs, xs = [.ref a] ∧ H a = some (.ins C dx fs) ∧ sp [.ref a] H (fun v H' => (∃ z, v = .str z) ∧ Q v H') E) := by
  intro pins s σ H xs us Q I r hq
  obtain ⟨a, dx, fs, rfl, ha, q⟩ := hq
  obtain ⟨u, rfl, rx⟩ := vals1 r
  cases rx
  obtain ⟨od, J⟩ := inst_of I ha
  have h1 := hr.in1
  have h2 := h1.in1
  refine PySem.W.kso_call h2.units0 I.kIn J o.at_ o.fn (thn (run_at F h2 rfl hb hx I (vs := [V.ref a]) (.cons rfl .nil) q) fun v s' h => ?_)
  obtain ⟨x, H', I', rx, ⟨z, ez⟩, q'⟩ := h
  subst ez
  obtain ⟨t, rfl⟩ := rx
  exact ⟨.str z, H', I', ⟨t, rfl⟩, q'⟩
/-- len(x) by the own method -/
theorem call_own_len (F : FnOk X.prog X.w X.K X.mg X.base CX k f fd ps sp) (hr : Room (k + 1) X.A) (o : Own2 X.K C "__len__" f) (hb : Binds X.K fd ps []) (hx : Passes CX X E) :
    CallR X (.builtin "len") (fun xs H Q => ∃ a dx fs, xs = [.ref a] ∧ H a = some (.ins C dx fs) ∧ sp [.ref a] H (fun v H' => (∃ n : Int, v = .int n ∧ 0 ≤ n ∧ n < 2 ^ 63) ∧ Q v H') E) := by
  intro pins s σ H xs us Q I r hq
  obtain ⟨a, dx, fs, rfl, ha, q⟩ := hq
  obtain ⟨u, rfl, rx⟩ := vals1 r
  cases rx
  obtain ⟨od, J⟩ := inst_of I ha
  obtain ⟨m, hF⟩ := I.fr
  refine PySem.W.len_K hF I.ok.mod.kin J o.at_ o.fn (thn (run_at F hr.in1 rfl hb hx I (vs := [V.ref a]) (.cons rfl .nil) q) fun v s' h => ?_)
  obtain ⟨x, H', I', rx, ⟨n, ez, h0, h1⟩, q'⟩ := h
  subst ez
  obtain ⟨t, rfl⟩ := rx
  exact ⟨⟨h0, h1⟩, .int n, H', I'.tok _, ⟨_, rfl⟩, q'⟩
/-- o.f as a target -/
theorem pg_fld {o : Expr} {g : Str} {pos : Pos} {ta : TE} (ha : PE X o ta) : PG X (.Attribute o g pos) (gFld X.K ta g) := by
  refine ⟨fun pins s σ H v u Q I r h => ?_⟩
  rw [assign_Attribute]
  refine wpAny_bind (wpAny_holding (thn (ha.run pins s σ H _ I h) fun ov s1 ⟨x, H1, I1, r1, a, C, dx, fs, ex, ea, c, n, l, q⟩ => ?_))
  subst ex
  obtain rfl : ov = Value.ref a := r1
  refine wpAny_bind (wpAny_standAt (wpAny_bind (wpAny_holding (setattr_ok I1 ea c n l r fun s3 I3 => ?_))))
  exact wpAny_release ⟨σ, _, I3, q⟩
/-- f(k = v, ..), by keywords alone -/
theorem pe_callN0 {x : Str} {p pos : Pos} {kws : List Keyword} {tk : TA} {g : List Value → List Value → List Value} {gV : List V → List V → List V} (F : FnOk X.prog X.w X.K X.mg X.base CX k f fd ps sp) (hr : Room k X.A) (hg : Gl X x) (hm : X.mg x = some (.ref f)) (hk : PySem.W.keepIn X.K (.ref f) = true)
    (hb : KBn X.K fd ps 0 ks g gV) (hx : Passes CX X E) (hkw : PK X kws tk)
    (hall : (backToKw pos (keywordEach kws X.env)).all (·.1.isSome) = true := by rfl) (hks : (backToKw pos (keywordEach kws X.env)).filterMap (·.1) = ks := by rfl)
    (hdb : (x == ("__debug__" : Str)) = false := by decide)
    (hpl : ((backTo pos (starEach [] X.env)).any (·.1) || (backToKw pos (keywordEach kws X.env)).any (·.1.isNone)) = false := by rfl) :
    PE X (.Call (.Name x p) [] kws pos) (fun σ H Q => tk σ H fun zs H2 => zs.length = ks.length ∧ sp (gV [] zs) H2 Q E) := by
  refine ⟨fun pins s σ H Q I h => ?_⟩
  refine wpAny_Call_Name_kw (ld_glob I hg hm ?_ hdb)
  refine PySem.W.callWith_KW0 (h₀ := X.base) I.ok.mod.kin hk hall ?_ hpl
  refine thn (hkw.run pos pins s σ H _ I h) fun ws s2 ⟨zs, H2, I2, rz, l2, q2⟩ => ⟨I2.kIn, ?_⟩
  rw [hks]
  exact run_fnN (us := []) (vs := []) F hr hb hx I2 .nil rz rfl l2 q2
end
end N
set_option Elab.async false
set_option linter.all false
set_option maxRecDepth 100000
/-! Plain data as the model's own data: ==, repr; defs that know what guards run; the end of a law. -/
namespace N
open PySem PySem.Spec PyProof.Rows L2

mutual
def D.pd : D → Option PyData
  | .vl .non => some .none
  | .vl (.bl b) => some (.bool b)
  | .vl (.int i) => some (.int i)
  | .vl (.str s) => some (.str s)
  | .vl _ => none
  | .tup l => (pdL l).map .tuple
  | .lst l => (pdL l).map .list
  | .dct _ _ => none
  | .obj _ _ _ => none
  | .fm _ => none
  | .scr _ => none
def pdL : List D → Option (List PyData)
  | [] => some []
  | d :: l => match D.pd d, pdL l with
    | some p, some r => some (p :: r)
    | _, _ => none
end
theorem pdL_cons {d : D} {l : List D} {p : PyData} {r : List PyData} (h1 : d.pd = some p) (h2 : pdL l = some r) : pdL (d :: l) = some (p :: r) := by
  simp only [pdL, h1, h2]
theorem pdL_map {α : Type} (f : α → D) (g : α → PyData) (h : ∀ x, (f x).pd = some (g x)) : ∀ l : List α, pdL (l.map f) = some (l.map g)
  | [] => rfl
  | x :: l => pdL_cons (h x) (pdL_map f g h l)
theorem pd_tup {l : List D} {r : List PyData} (h : pdL l = some r) : (D.tup l).pd = some (.tuple r) := by simp only [D.pd, h, Option.map_some]
theorem pd_lst {l : List D} {r : List PyData} (h : pdL l = some r) : (D.lst l).pd = some (.list r) := by simp only [D.pd, h, Option.map_some]
section
variable {F : FmKit} {T : Kx} {C H H' O O' : Hp} {G : Gm} {W W' : Om} {R R' : D → Om → Prop}
mutual
theorem Den.dp : ∀ (d : D) (v : V) (p : PyData), Den F T H d v → d.pd = some p → Dp T.K H v p
  | .vl .non, _, p, h, e => by
    have h : _ = _ := h
    simp only [D.pd, Option.some.injEq] at e
    subst h e
    exact .non
  | .vl (.bl b), _, p, h, e => by
    have h : _ = _ := h
    simp only [D.pd, Option.some.injEq] at e
    subst h e
    exact .bl b
  | .vl (.int i), _, p, h, e => by
    have h : _ = _ := h
    simp only [D.pd, Option.some.injEq] at e
    subst h e
    exact .int i
  | .vl (.str s), _, p, h, e => by
    have h : _ = _ := h
    simp only [D.pd, Option.some.injEq] at e
    subst h e
    exact .str s
  | .vl (.byt _), _, p, _, e => by simp only [D.pd] at e; cases e
  | .vl (.flt _), _, p, _, e => by simp only [D.pd] at e; cases e
  | .vl (.ref _), _, p, _, e => by simp only [D.pd] at e; cases e
  | .vl (.ty _), _, p, _, e => by simp only [D.pd] at e; cases e
  | .tup l, _, p, ⟨a, xs, h1, h2, h3⟩, e => by
    subst h1
    simp only [D.pd] at e
    cases q : pdL l with
    | none =>
      rw [q] at e
      cases e
    | some r =>
      rw [q] at e
      cases e
      exact .tup h2 (DenL.dp l xs r h3 q)
  | .lst l, _, p, ⟨a, xs, h1, h2, h3⟩, e => by
    subst h1
    simp only [D.pd] at e
    cases q : pdL l with
    | none =>
      rw [q] at e
      cases e
    | some r =>
      rw [q] at e
      cases e
      exact .lst (SqL.of h2) (DenL.dp l xs r h3 q)
  | .dct _ _, _, p, _, e => by simp only [D.pd] at e; cases e
  | .obj _ _ _, _, p, _, e => by simp only [D.pd] at e; cases e
  | .fm _, _, p, _, e => by simp only [D.pd] at e; cases e
  | .scr _, _, p, ⟨a, h1, h2⟩, e => by simp only [D.pd] at e; cases e
theorem DenL.dp : ∀ (l : List D) (vs : List V) (ps : List PyData), DenL F T H l vs → pdL l = some ps → DpAll T.K H vs ps
  | [], _, ps, h, e => by
    have h : _ = _ := h
    simp only [pdL, Option.some.injEq] at e
    subst h e
    exact .nil
  | d :: l, _, ps, ⟨v, r, h1, h2, h3⟩, e => by
    subst h1
    simp only [pdL] at e
    cases q : D.pd d with
    | none =>
      rw [q] at e
      cases e
    | some p =>
      cases q2 : pdL l with
      | none =>
        rw [q, q2] at e
        cases e
      | some rs =>
        rw [q, q2] at e
        cases e
        exact .cons (Den.dp d v p h2 q) (DenL.dp l r rs h3 q2)
end
/-- d is the datum p: frozen, or an owned list of such -/
def Vp (W : Om) (d : D) (p : PyData) : Prop := d.pd = some p ∨ ∃ l, Vl W d l ∧ (D.lst l).pd = some p
theorem Vp.at {d : D} {p : PyData} {x : V} (h : Vp W d p) (di : Dis O H) (ow : Ow F T H C O W) (k : Den F T H d x) : Dp T.K (ov O H) x p := by
  rcases h with h | ⟨l, hv, h⟩
  · exact Den.dp d x p (k.mono di.same) h
  · obtain ⟨a, xs, e, hs, kl⟩ := hv.sq ow di k
    simp only [D.pd] at h
    cases q : pdL l with
    | none =>
      rw [q] at h
      cases h
    | some r =>
      rw [q] at h
      cases h
      subst e
      exact .lst hs (DenL.dp l xs r (kl.mono di.same) q)
theorem bo_eqD {d1 d2 : D} {p q : PyData} (h1 : Vp W d1 p) (h2 : Vp W d2 q) (s1 : SeqAt.shaped p = true) (s2 : SeqAt.shaped q = true) (r : R (.bl (PyData.eqv p q)) W) : Bo F T (rEqD T.K) d1 d2 W R := fun C H O di oc ow x y hx hy Q k =>
  ⟨p, q, h1.at di ow hx, h2.at di ow hy, s1, s2, k _ W H O _ r (.refl di oc ow) rfl⟩
theorem bo_neD {d1 d2 : D} {p q : PyData} (h1 : Vp W d1 p) (h2 : Vp W d2 q) (s1 : SeqAt.shaped p = true) (s2 : SeqAt.shaped q = true) (r : R (.bl (!PyData.eqv p q)) W) : Bo F T (rNeD T.K) d1 d2 W R := fun C H O di oc ow x y hx hy Q k =>
  ⟨p, q, h1.at di ow hx, h2.at di ow hy, s1, s2, k _ W H O _ r (.refl di oc ow) rfl⟩
end

/-! ### repr -/
structure Shw (p : PyData) : Prop where
  sh : p.showable = true
  nd : p.hasDict = false
  dp : p.depth ≤ 30
  sz : p.shown.length ≤ sizeLine
def rRep (K : PySem.W.Frag) : List V → Hp → VK → Prop := fun xs H Q => ∃ x p, xs = [x] ∧ Dp K H x p ∧ Shw p ∧ Q (.str p.shown) H
theorem call_repr_data {X : Cx} (hg : X.A.guards = some []) (hu : X.A.units + 64 < cLine) : CallR X (.builtin "repr") (rRep X.K) := by
  intro pins s σ H xs us Q I r h
  obtain ⟨x, p, rfl, hp, hs, q⟩ := h
  obtain ⟨u, rfl, rx⟩ := vals1 r
  have fin : ∀ t tk, EP X pins σ Q (.str p.shown t) { s with toks := tk } := fun t tk => ⟨.str p.shown, H, I.tok _, ⟨_, rfl⟩, q⟩
  have viaRef : ∀ a, u = .ref a → wpAny (model X.prog X.w) X.A (call (.builtin "repr") [u]) (EP X pins σ Q) X.xe s := fun a e => by
    subst e
    obtain ⟨as, rd⟩ := Dp.reads I p x _ hp rx
    have := hs.dp
    exact repr_of_reads' rd hs.sh (fun z => by rw [hs.nd] at z; cases z) hg (by omega) (fun _ _ e => e) (fun h' u tk hk => ⟨.str p.shown, H, I.kept (t' := tk) hk, ⟨_, rfl⟩, q⟩) hs.sz
  cases hp with
  | non =>
    cases rx
    exact PySem.P.repr_of_none (fin _ _)
  | bl b =>
    cases rx
    refine PySem.P.repr_of_bool ?_
    have e : (if b then "True" else "False" : Str) = (PyData.bool b).shown := by cases b <;> rfl
    exact fin _ _
  | int i =>
    obtain ⟨t, rfl⟩ := rx
    have h1 : i.natAbs.log2 < 1920 := by simpa [PyData.showable] using hs.sh
    exact PySem.P.repr_of_int h1 (fin _ _)
  | str z =>
    obtain ⟨t, rfl⟩ := rx
    exact PySem.P.repr_of_str (fin _ _) (by simpa [PyData.shown] using hs.sz)
  | lst h1 h2 =>
    cases rx
    exact viaRef _ rfl
  | tup h1 h2 =>
    cases rx
    exact viaRef _ rfl
section
variable {F : FmKit} {T : Kx} {W : Om} {R : D → Om → Prop}
theorem ca_repr {d : D} {p : PyData} (h : Vp W d p) (hs : Shw p) (r : R (.str p.shown) W) : Ca F T (rRep T.K) [d] W R := ca_one fun C H O di oc ow x k Q q =>
  ⟨x, p, rfl, h.at di ow k, hs, q _ W H O _ r (.refl di oc ow) rfl⟩
end

/-! ### defs that know that no guard runs -/
def FnG (P : Program) (w : World) (K : PySem.W.Frag) (mg : Str → Option Value) (base : Heap) (k : Nat) (f : Addr) (sp : Sp) : Prop :=
  ∀ (A : Around) (outer : List Env) (s : Shared) (H : Hp) (us : List Value) (vs : List V) (Q : VK), A.guards = some [] → Room k A → Env0 P w K mg base A outer s H → Vals vs us → sp vs H Q E0 → codeAny (model P w) A (.call (.ref f) ⟨us, []⟩) (CR CX0 outer P w H s Q E0) s
section
variable {P : Program} {w : World} {K : PySem.W.Frag} {mg : Str → Option Value} {base : Heap}
theorem Fun.okG {x qual : Str} {st : Stmt} {f : Addr} {fd : FuncData} {N ps : List Str} {k : Nat} {sp : Sp} (Fn : Fun K x qual st f fd) (S : FnScope N ps (defScope st)) (len : ∀ vs H Q E, sp vs H Q E → vs.length = ps.length)
    (hb : ∀ (kV doc pm : Value) (an : Option Addr) (cdv ct : Value) (us : List Value), us.length = ps.length → bindArgs (PySem.W.fnOf x qual (defArgs st) (defBody st) (defScope st) .none kV doc pm an cdv ct) ⟨us, []⟩ = pure (ps.zip us))
    (hbody : ∀ (cdv : Value) (A : Around) (outer : List Env) (s : Shared) (H : Hp) (vs : List V) (Q : VK), (A.deeper (envOfC qual (defScope st) s.heap.objs.size f cdv)).guards = some [] → Room k (A.deeper (envOfC qual (defScope st) s.heap.objs.size f cdv)) → sp vs H Q E0 →
      ∃ t, PSs (cxOf CX0 P w K mg base N qual (defScope st) f cdv A outer s H E0).nox (defBody st) t ∧ t { nx := fun _ H' => Q .non H', rt := Q } (start N vs) H) : FnG P w K mg base (k + 1) f sp := by
  obtain ⟨oc, od, kV, doc, pm, an, cdv, ct, osl, rfl, lk, hcd⟩ := Fn.ex
  intro A outer s H us vs Q hg hr e0 r hsp
  have hl := len _ _ _ _ hsp
  refine StX.run_bnd lk hcd S hr e0 (G := fun xs H2 => xs = vs ∧ H2 = H) (fun A' Ex Q' h => ?_) fun s2 H2 xs ⟨e1, e2⟩ hr' => ?_
  · rw [hb kV doc pm an cdv ct us (by rw [← r.length]; exact hl)]
    exact wpAny_pure (h s H vs us e0 Un.refl rfl (fun _ _ z => z) r hl ⟨rfl, rfl⟩)
  · subst e1 e2
    obtain ⟨t, ht, q⟩ := hbody cdv A outer s2 _ _ Q hg hr' hsp
    exact ⟨t, ht.nox, q⟩
theorem run_fnG {X : Cx} {k : Nat} {f : Addr} {sp : Sp} {pins : List (Addr × Obj)} {σ : L2.St} {H : Hp} {s : Shared} {us : List Value} {vs : List V} {Q : VK} (Fn : FnG X.prog X.w X.K X.mg X.base k f sp) (hg : X.A.guards = some []) (hr : Room k X.A) (I : Inv X pins σ H s) (r : Vals vs us) (h : sp vs H Q E0) :
    wpAny (model X.prog X.w) X.A (call (.ref f) us) (EP X pins σ Q) X.xe s := by
  refine wpAny_call (codeAny_mono (Fn X.A X.stack s H us vs Q hg hr I.env0 r h) fun r s' hq => ?_)
  cases r with
  | error e => exact False.elim hq
  | ok fl =>
    cases fl with
    | ret u => exact I.after hq
    | next => exact False.elim hq
    | brk => exact False.elim hq
    | cont => exact False.elim hq
/-- f(e, ..), f such a def -/
theorem pe_callG {X : Cx} {k : Nat} {f : Addr} {sp : Sp} {x : Str} {p pos : Pos} {e : Expr} {es : List Expr} {t : TA} (Fn : FnG X.prog X.w X.K X.mg X.base k f sp) (hgd : X.A.guards = some []) (hr : Room k X.A) (hg : Gl X x) (hm : X.mg x = some (.ref f)) (hk : PySem.W.keepIn X.K (.ref f) = true)
    (ha : PA X (e :: es) t) (hdb : (x == ("__debug__" : Str)) = false := by decide)
    (he : starEach (e :: es) X.env = (false, eval e X.env) :: starEach es X.env := by rfl) (hpl : (backTo pos (starEach es X.env)).any (·.1) = false := by rfl) : PE X (.Call (.Name x p) (e :: es) [] pos) (tCall sp [] E0 t) := by
  refine ⟨fun pins s σ H Q I h => ?_⟩
  refine wpAny_Call_Name_kw (ld_glob I hg hm ?_ hdb)
  refine PySem.W.callWith_K (h₀ := X.base) I.ok.mod.kin hk (thn (ha.run pos pins s σ H _ I h) fun us s1 ⟨vs, H1, I1, r, q⟩ => ⟨I1.kIn, ?_⟩) he hpl
  have q : sp (vs ++ []) H1 Q E0 := q
  rw [List.append_nil] at q
  exact run_fnG Fn hgd hr I1 r q
end

/-! ### the end of a law -/
theorem lawG {P : Program} {w : World} {K : PySem.W.Frag} {mg mb : Str → Option Value} {k : Nat} {fa a : Addr} {sp : Sp} {s1 : Shared} {vs : List Value} {ns : List Int}
    (KX : K.In s1.heap) (hns : s1.heap.Ns mainGlobals mg) (hb : s1.heap.Ns builtinsNs mb) (hbb : ∀ x : Str, x ≠ "__name__" → mb x = bootBuiltins x) (hlim : s1.heap.NoLimit) (hg : s1.gens = #[])
    (ha : s1.heap.get? a = some { cls := .type "list", data := .seq vs.toArray }) (hi : IntsAre vs ns) (hl : ns.length ≤ sizeLine) (hr : Room k callerA)
    (Fn : ∀ base : Heap, K.In base → base.Ns mainGlobals mg → FnG P w K mg base k fa sp)
    (hsp : ∀ H : Hp, Only H → SqL K H a (ns.map V.int) → sp [.ref a] H (fun v _ => v = .bl true) E0) :
    codeAny (model P w) callerA (.call (.ref fa) ⟨[.ref a], []⟩) (fun r s' => r = .ok (.ret (.bool true)) ∧ OldK s1.heap s'.heap ∧ s'.os = s1.os ∧ AllBare s'.gens) s1 := by
  have rv := vals_ints hi
  have lenV := hi.length
  have core : ∀ H : Hp, Only H → SqL K H a (ns.map V.int) → HOk P w H s1.heap → (∀ b, H b ≠ none → b = a) → (H a ≠ none → K.lookup a = none) →
      codeAny (model P w) callerA (.call (.ref fa) ⟨[.ref a], []⟩) (fun r s' => r = .ok (.ret (.bool true)) ∧ OldK s1.heap s'.heap ∧ s'.os = s1.os ∧ AllBare s'.gens) s1 := by
    intro H hO hS hok hA hK
    have one : ∀ {b : Addr}, H b ≠ none → b = a := fun z => hA _ z
    have free : ∀ {b : Addr}, (b = a → False) → H b = none := fun {b} z => by
      cases q : H b with
      | none => rfl
      | some u => exact (z (one (by rw [q]; simp))).elim
    have notA : ∀ {b : Addr} {o : Obj} {es : Array DictEntry} {ep : Nat}, s1.heap.get? b = some o → o.data = .dict es ep → H b = none := fun {b o es ep} e d => free fun z => by
      subst z
      rw [ha] at e
      cases e
      cases (show Data.seq vs.toArray _ = Data.dict es ep from d)
    have nsK : ∀ {b : Addr} {m : Str → Option Value}, s1.heap.Ns b m → (hidT s1.heap H).Ns b m := fun ⟨o, es, ep, e, d, r⟩ => ⟨o, es, ep, hidT_get e (notA e d), d, r⟩
    have hKb : K.In (hidT s1.heap H) := fun b o e => hidT_get (KX b o e) (by
      cases q : H b with
      | none => rfl
      | some u =>
        have eb : b = a := one (by rw [q]; simp)
        subst eb
        rw [hK (by rw [q]; simp)] at e
        cases e)
    have hM : Mod K mg (hidT s1.heap H) := ⟨hKb, nsK hns, ⟨mb, nsK hb, hbb⟩, let ⟨mc, h1, h2⟩ := hlim; ⟨mc, nsK h1, h2⟩⟩
    have e0 : Env0 P w K mg (hidT s1.heap H) callerA [] s1 H := ⟨rfl, hM, fun b o e => of_hidT e, Nat.le_of_eq (hidT_size _ _), trivial, fun b hb => absurd (show b ∈ ([] : List Addr) from hb) (by simp), hok, .of_eq hg⟩
    refine codeAny_mono (Fn _ hKb (nsK hns) callerA [] s1 H [.ref a] [.ref a] _ rfl hr e0 (.cons rfl .nil) (hsp H hO hS)) fun r s' h => ?_
    cases r with
    | error e => exact False.elim h
    | ok fl =>
      cases fl with
      | next => exact False.elim h
      | brk => exact False.elim h
      | cont => exact False.elim h
      | ret u =>
        obtain ⟨v, H', os, bare, un, hok', r', q⟩ := h
        have ev : v = .bl true := q
        subst ev
        obtain rfl : u = Value.bool true := r'
        refine ⟨rfl, OldK.of_keep fun b o e => ?_, os, bare⟩
        cases q : H b with
        | none => exact un.keep b o e q (by intro z; exact absurd (show b ∈ ([] : List Addr) from z) (by simp)) (by simp)
        | some u =>
          rcases hO b with z | ⟨ob, xs, z⟩
          · rw [q] at z
            cases z
          · obtain ⟨e1, _⟩ := hok b _ z
            obtain ⟨e2, _⟩ := hok' b _ (un.frzs b ob _ z)
            rw [e] at e1
            cases e1
            exact e2
  cases hk : K.lookup a with
  | some o =>
    have e := KX a o hk
    rw [ha] at e
    cases e
    exact core (fun _ => none) (fun _ => .inl rfl) (.inr ⟨_, vs.toArray, _, hk, rfl, rfl, rfl, by rw [List.size_toArray, lenV]; exact hl, by simpa using rv⟩) (fun b u z => nomatch (show (none : Option HO) = some u from z)) (fun b z => absurd rfl z) fun z => absurd rfl z
  | none =>
    refine core (fun b => if b = a then some (.frz { cls := .type "list", data := .seq vs.toArray } (.lst (ns.map V.int))) else none) (fun b => ?_) (.inl (.inr ⟨{ cls := .type "list", data := .seq vs.toArray }, if_pos rfl⟩)) (fun b u z => ?_) (fun b z => ?_) fun _ => hk
    · by_cases hb : b = a
      · exact .inr ⟨_, _, if_pos hb⟩
      · exact .inl (if_neg hb)
    · by_cases hb : b = a
      · have e := (if_pos hb).symm.trans z
        cases e
        subst hb
        exact ⟨ha, by rw [List.length_map]; exact hl, vs, _, rv, ha⟩
      · cases (if_neg hb).symm.trans z
    · by_cases hb : b = a
      · exact hb
      · exact absurd (if_neg hb) z
theorem walkG {l : PySem.W.OpenLaw} {n k : Nat} {q : Program} {loose : List Str} {XP : (Str → Option Value) → Heap → Prop} {YP : World → Heap → Prop} {d : DefRec} {K : Params → PySem.W.Frag} {sp : PySem.W.Frag → Sp}
    (hn : l.most = some n) (hn2 : n ≤ sizeLine) (hdf : d.params.defaults = []) (hr : Room k callerA) (hY : ∀ (w : World) (h : Heap), YP w h → (K w.params).In h)
    (Fn : ∀ (w : World) (mg : Str → Option Value) (fa : Addr) (h : Heap), (K w.params).In h → h.Ns mainGlobals mg → mg d.name = some (.ref fa) → ∀ base : Heap, (K w.params).In base → base.Ns mainGlobals mg → FnG l.prog w (K w.params) mg base k fa (sp (K w.params)))
    (hsp : ∀ (K : PySem.W.Frag) (H : Hp) (a : Addr) (ns : List Int), ns.length ≤ n → Only H → SqL K H a (ns.map V.int) → sp K [.ref a] H (fun v _ => v = .bl true) E0) :
    PySem.W.WalkO q loose XP YP l.row.toRowW d [] (fun f vs => PySem.call f vs) := by
  refine Att.attach_call hn hdf fun w s0 s1 mg mb fa o pm cd doc a vs ns G Y ho hd hcd hmg hobj hints hlen hg => ?_
  have KX := hY w _ Y
  exact lawG KX G.T.g G.T.b G.T.builtins G.T.nolimit hg hobj hints (Nat.le_trans hlen hn2) hr (Fn w mg fa _ KX G.T.g hmg) fun H hO hS => hsp (K w.params) H a ns hlen hO hS
end N
set_option Elab.async false
set_option linter.all false
set_option maxRecDepth 100000
/-! From a body over plain data to a def's promise. -/
namespace N
open PySem PySem.Spec PyProof.Rows L2

def startD (N : List Str) (ds : List D) : Gm := ds.map some ++ List.replicate (N.length - ds.length) none
section
variable {F : FmKit} {T : Kx} {H : Hp}
theorem DenL.lo {N : List Str} {ds : List D} {vs : List V} (k : DenL F T H ds vs) : Lo F T H (startD N ds) (L2.start N vs) := by
  refine ⟨?_, fun i d h => ?_⟩
  · unfold L2.start startD
    simp [k.len]
  · unfold startD at h
    unfold L2.start
    by_cases hi : i < ds.length
    · rw [List.getElem?_append_left (by simpa using hi), List.getElem?_map] at h
      cases e : ds[i]? with
      | none =>
        rw [e] at h
        cases h
      | some d' =>
        rw [e] at h
        cases h
        obtain ⟨v, hv, kv⟩ := k.get e
        refine ⟨v, ?_, kv⟩
        rw [List.getElem?_append_left (by rw [List.length_map, k.len]; exact hi), List.getElem?_map, hv]
        rfl
    · rw [List.getElem?_append_right (by simpa using hi), List.getElem?_replicate] at h
      split at h <;> cases h
end
section
variable {P : Program} {w : World} {K : PySem.W.Frag} {mg : Str → Option Value} {base : Heap} {F : FmKit} {cl : Nat → Addr} {S : FS}
theorem spN_len {n : Nat} (len : ∀ ds W post, S ds W post → ds.length = n) : ∀ vs H Q E, spN F ⟨K, cl⟩ S vs H Q E → vs.length = n := fun vs H Q E ⟨ds, W, C, H1, O, post, _, _, _, _, k, h, _⟩ => by
  rw [k.len]
  exact len ds W post h
/-- the end of a body meets the wish of the call -/
theorem body_run {N : List Str} {t : TS} {vs : List V} {H : Hp} {Q : VK} {E : XK} (h : spN F ⟨K, cl⟩ S vs H Q E) (b : ∀ ds W post, S ds W post → Sw F ⟨K, cl⟩ t (startD N ds) W (E_ post)) : t { nx := fun _ H' => Q .non H', rt := Q } (L2.start N vs) H := by
  obtain ⟨ds, W, C, H1, O, post, e, di, oc, ow, k, hs, q⟩ := h
  subst e
  exact b ds W post hs C H1 O _ ⟨di, oc, k.lo, ow⟩ _ ⟨fun G W' H' O' σ' r n l => q .non W' H' O' .non r n rfl, fun d W' H' O' v r n kd => q d W' H' O' v r n kd, fun _ _ _ _ _ z => z.elim, fun _ _ _ _ _ z => z.elim⟩
theorem okD {x qual : Str} {st : Stmt} {f : Addr} {fd : FuncData} {N ps : List Str} {k : Nat} (Fn : Fun K x qual st f fd) (Sc : FnScope N ps (defScope st)) (len : ∀ ds W post, S ds W post → ds.length = ps.length)
    (body : ∀ (cdv : Value) (A : Around) (outer : List Env) (s : Shared) (H : Hp) (E : XK), Room k (A.deeper (envOfC qual (defScope st) s.heap.objs.size f cdv)) →
      ∃ t, PSs (cxOf CX0 P w K mg base N qual (defScope st) f cdv A outer s H E).nox (defBody st) t ∧ ∀ ds W post, S ds W post → Sw F ⟨K, cl⟩ t (startD N ds) W (E_ post)) : FnOk P w K mg base CX0 (k + 1) f fd ps (spN F ⟨K, cl⟩ S) :=
  Fn.ok Sc (spN_len len) fun cdv A outer s H vs Q E hr h => let ⟨t, ht, b⟩ := body cdv A outer s H E hr; ⟨t, ht, body_run h b⟩
theorem okG {x qual : Str} {st : Stmt} {f : Addr} {fd : FuncData} {N ps : List Str} {k : Nat} (Fn : Fun K x qual st f fd) (Sc : FnScope N ps (defScope st)) (len : ∀ ds W post, S ds W post → ds.length = ps.length)
    (hb : ∀ (kV doc pm : Value) (an : Option Addr) (cdv ct : Value) (us : List Value), us.length = ps.length → bindArgs (PySem.W.fnOf x qual (defArgs st) (defBody st) (defScope st) .none kV doc pm an cdv ct) ⟨us, []⟩ = pure (ps.zip us))
    (body : ∀ (cdv : Value) (A : Around) (outer : List Env) (s : Shared) (H : Hp), (A.deeper (envOfC qual (defScope st) s.heap.objs.size f cdv)).guards = some [] → Room k (A.deeper (envOfC qual (defScope st) s.heap.objs.size f cdv)) →
      ∃ t, PSs (cxOf CX0 P w K mg base N qual (defScope st) f cdv A outer s H E0).nox (defBody st) t ∧ ∀ ds W post, S ds W post → Sw F ⟨K, cl⟩ t (startD N ds) W (E_ post)) : FnG P w K mg base (k + 1) f (spN F ⟨K, cl⟩ S) :=
  Fun.okG Fn Sc (spN_len len) hb fun cdv A outer s H vs Q hg hr h => let ⟨t, ht, b⟩ := body cdv A outer s H hg hr; ⟨t, ht, body_run h b⟩
/-- a def with a star behind n names -/
def starS (n : Nat) (S : FS) : FS := fun ds W post => n ≤ ds.length ∧ ds.length ≤ 1000 ∧ S (ds.take n ++ [.tup (ds.drop n)]) W post
theorem okS {x qual : Str} {st : Stmt} {f : Addr} {fd : FuncData} {N ps : List Str} {k : Nat} {pv : Str} (Fn : Fun K x qual st f fd) (Sc : FnScope N (ps ++ [pv]) (defScope st))
    (hb : ∀ (kV doc pm : Value) (an : Option Addr) (cdv ct : Value) (us rest : List Value), us.length = ps.length → bindArgs (PySem.W.fnOf x qual (defArgs st) (defBody st) (defScope st) .none kV doc pm an cdv ct) ⟨us ++ rest, []⟩ = (newTuple rest >>= fun t => pure (ps.zip us ++ [(pv, t)])))
    (body : ∀ (cdv : Value) (A : Around) (outer : List Env) (s : Shared) (H : Hp) (E : XK), Room k (A.deeper (envOfC qual (defScope st) s.heap.objs.size f cdv)) →
      ∃ t, PSs (cxOf CX0 P w K mg base N qual (defScope st) f cdv A outer s H E) (defBody st) t ∧ ∀ ds W post, S ds W post → Sw F ⟨K, cl⟩ t (startD N ds) W (E_ post)) : FnR P w K mg base CX0 (k + 1) f (spN F ⟨K, cl⟩ (starS ps.length S)) := by
  obtain ⟨oc, od, kV, doc, pm, an, cdv, ct, osl, rfl, lk, hcd⟩ := Fn.ex
  have h := StX.fn_star (CX := CX0) (P := P) (w := w) (mg := mg) (base := base) (k := k) (N := N) (ps := ps) (sp := spN F ⟨K, cl⟩ S) lk hcd Sc StX.cxUp_none (hb kV doc pm an cdv ct) (fun A outer s H vs Q E hr h => let ⟨t, ht, b⟩ := body cdv A outer s H E hr; ⟨t, ht, body_run h b⟩)
  refine fun A outer s H us vs Q E hr e0 r hsp => h A outer s H us vs Q E hr e0 r ?_
  obtain ⟨ds, W, C, H1, O, post, e, di, oc, ow, kl, ⟨h1, h2, h3⟩, q⟩ := hsp
  have hl := kl.len
  refine ⟨vs.take ps.length, vs.drop ps.length, (List.take_append_drop _ _).symm, by rw [List.length_take, hl]; omega, ?_, fun p hp => ?_⟩
  · have := sizeLine_eq
    rw [List.length_drop, hl]
    omega
  · subst e
    obtain ⟨n2, e2, s2⟩ := (Nx.refl (F := F) (T := ⟨K, cl⟩) di oc ow).newF (o := .tup (vs.drop ps.length)) hp
    rw [e2]
    exact ⟨_, W, C, _, O, post, rfl, n2.dis, n2.oc, n2.own, ((kl.take ps.length).mono s2).app (.one (d := .tup (ds.drop ps.length)) ⟨p, _, rfl, SqT.of upd_same, (kl.drop ps.length).mono s2⟩), h3, fun d W' H' O' v r n k => q d W' H' O' v r (n2.trans n) k⟩
end
end N
set_option Elab.async false
set_option linter.all false
set_option maxRecDepth 100000
/-! Short words: defs and classes by their promises; the built-in names. -/
namespace N
open PySem PySem.Spec PyProof.Rows L2
open C8 (Cal Met Mak pe_c pe_mt pe_mt0 pe_mk)

/-- the built-in names that a text uses are not hidden -/
structure Blt (mg : Str → Option Value) : Prop where
  len : mg "len" = none
  int : mg "int" = none
  str : mg "str" = none
  range : mg "range" = none
  list : mg "list" = none
  tuple : mg "tuple" = none
  dict : mg "dict" = none
  set : mg "set" = none
  sorted : mg "sorted" = none
  isinstance : mg "isinstance" = none
  repr : mg "repr" = none
  max : mg "max" = none
  min : mg "min" = none
  sum : mg "sum" = none
  all : mg "all" = none
  any : mg "any" = none
  zip : mg "zip" = none
  enumerate : mg "enumerate" = none
  bool : mg "bool" = none
  reversed : mg "reversed" = none
  type : mg "type" = none
theorem bt_int : bootBuiltins "int" = some (.type "int") := by decide +kernel
theorem bt_str : bootBuiltins "str" = some (.type "str") := by decide +kernel
theorem bt_list : bootBuiltins "list" = some (.type "list") := by decide +kernel
theorem bt_tuple : bootBuiltins "tuple" = some (.type "tuple") := by decide +kernel
theorem bt_set : bootBuiltins "set" = some (.type "set") := by decide +kernel
theorem bt_dict : bootBuiltins "dict" = some (.type "dict") := by decide +kernel
theorem bt_len : bootBuiltins "len" = some (.builtin "len") := by decide +kernel
theorem bt_sorted : bootBuiltins "sorted" = some (.builtin "sorted") := by decide +kernel
theorem bt_isinstance : bootBuiltins "isinstance" = some (.builtin "isinstance") := by decide +kernel
theorem bt_repr : bootBuiltins "repr" = some (.builtin "repr") := by decide +kernel
theorem bt_max : bootBuiltins "max" = some (.builtin "max") := by decide +kernel
theorem bt_min : bootBuiltins "min" = some (.builtin "min") := by decide +kernel
theorem bt_sum : bootBuiltins "sum" = some (.builtin "sum") := by decide +kernel
theorem bt_bool : bootBuiltins "bool" = some (.type "bool") := by decide +kernel
theorem bt_all : bootBuiltins "all" = some (.builtin "all") := by decide +kernel
theorem bt_any : bootBuiltins "any" = some (.builtin "any") := by decide +kernel

section
variable {P : Program} {w : World} {K : PySem.W.Frag} {mg : Str → Option Value} {base : Heap} {F : FmKit} {cl : Nat → Addr} {S : FS}
/-- a def of the module, by its promise -/
theorem calD {x : Str} {st : Stmt} {f : Addr} {fd : FuncData} {N ps : List Str} {k : Nat} (hm : mg x = some (.ref f)) (Fn : Fun K x x st f fd) (Sc : FnScope N ps (defScope st)) (len : ∀ ds W post, S ds W post → ds.length = ps.length)
    (hb : ∀ (kV doc pm : Value) (an : Option Addr) (cdv ct : Value) (us : List Value), us.length = ps.length → bindArgs (PySem.W.fnOf x x (defArgs st) (defBody st) (defScope st) .none kV doc pm an cdv ct) ⟨us, []⟩ = pure (ps.zip us))
    (body : ∀ (cdv : Value) (A : Around) (outer : List Env) (s : Shared) (H : Hp) (E : XK), Room k (A.deeper (envOfC x (defScope st) s.heap.objs.size f cdv)) →
      ∃ t, PSs (cxOf CX0 P w K mg base N x (defScope st) f cdv A outer s H E).nox (defBody st) t ∧ ∀ ds W post, S ds W post → Sw F ⟨K, cl⟩ t (startD N ds) W (E_ post)) : Cal P w K mg base (k + 1) x (spN F ⟨K, cl⟩ S) [] :=
  ⟨f, fd, ps, [], okD Fn Sc len body, hm, Fn.kp, Fn.binds hb, .nil⟩
/-- .. that knows that no guard runs -/
structure CalG (P : Program) (w : World) (K : PySem.W.Frag) (mg : Str → Option Value) (base : Heap) (k : Nat) (x : Str) (sp : Sp) : Prop where
  ex : ∃ f : Addr, FnG P w K mg base k f sp ∧ mg x = some (.ref f) ∧ PySem.W.keepIn K (.ref f) = true
theorem calG {x : Str} {st : Stmt} {f : Addr} {fd : FuncData} {N ps : List Str} {k : Nat} (hm : mg x = some (.ref f)) (Fn : Fun K x x st f fd) (Sc : FnScope N ps (defScope st)) (len : ∀ ds W post, S ds W post → ds.length = ps.length)
    (hb : ∀ (kV doc pm : Value) (an : Option Addr) (cdv ct : Value) (us : List Value), us.length = ps.length → bindArgs (PySem.W.fnOf x x (defArgs st) (defBody st) (defScope st) .none kV doc pm an cdv ct) ⟨us, []⟩ = pure (ps.zip us))
    (body : ∀ (cdv : Value) (A : Around) (outer : List Env) (s : Shared) (H : Hp), (A.deeper (envOfC x (defScope st) s.heap.objs.size f cdv)).guards = some [] → Room k (A.deeper (envOfC x (defScope st) s.heap.objs.size f cdv)) →
      ∃ t, PSs (cxOf CX0 P w K mg base N x (defScope st) f cdv A outer s H E0).nox (defBody st) t ∧ ∀ ds W post, S ds W post → Sw F ⟨K, cl⟩ t (startD N ds) W (E_ post)) : CalG P w K mg base (k + 1) x (spN F ⟨K, cl⟩ S) :=
  ⟨f, okG Fn Sc len hb body, hm, Fn.kp⟩
/-- a method of the class C -/
theorem metD {m qual : Str} {C : Addr} {st : Stmt} {f : Addr} {fd : FuncData} {N ps : List Str} {k : Nat} (c : Cls K C) (me : Meth K C m f) (Fn : Fun K m qual st f fd) (Sc : FnScope N ps (defScope st)) (len : ∀ ds W post, S ds W post → ds.length = ps.length)
    (hb : ∀ (kV doc pm : Value) (an : Option Addr) (cdv ct : Value) (us : List Value), us.length = ps.length → bindArgs (PySem.W.fnOf m qual (defArgs st) (defBody st) (defScope st) .none kV doc pm an cdv ct) ⟨us, []⟩ = pure (ps.zip us))
    (body : ∀ (cdv : Value) (A : Around) (outer : List Env) (s : Shared) (H : Hp) (E : XK), Room k (A.deeper (envOfC qual (defScope st) s.heap.objs.size f cdv)) →
      ∃ t, PSs (cxOf CX0 P w K mg base N qual (defScope st) f cdv A outer s H E).nox (defBody st) t ∧ ∀ ds W post, S ds W post → Sw F ⟨K, cl⟩ t (startD N ds) W (E_ post)) : Met P w K mg base (k + 1) C m (spN F ⟨K, cl⟩ S) [] :=
  ⟨f, fd, ps, [], c, me, okD Fn Sc len body, Fn.binds hb, .nil⟩
/-- an own method by its promise: operators, str, len -/
structure Opn (P : Program) (w : World) (K : PySem.W.Frag) (mg : Str → Option Value) (base : Heap) (k : Nat) (C : Addr) (m : Str) (sp : Sp) : Prop where
  ex : ∃ (f : Addr) (fd : FuncData) (ps : List Str), Own2 K C m f ∧ FnOk P w K mg base CX0 k f fd ps sp ∧ Binds K fd ps []
theorem opnD {m qual : Str} {C : Addr} {st : Stmt} {f : Addr} {fd : FuncData} {N ps : List Str} {k : Nat} (o : Own2 K C m f) (Fn : Fun K m qual st f fd) (Sc : FnScope N ps (defScope st)) (len : ∀ ds W post, S ds W post → ds.length = ps.length)
    (hb : ∀ (kV doc pm : Value) (an : Option Addr) (cdv ct : Value) (us : List Value), us.length = ps.length → bindArgs (PySem.W.fnOf m qual (defArgs st) (defBody st) (defScope st) .none kV doc pm an cdv ct) ⟨us, []⟩ = pure (ps.zip us))
    (body : ∀ (cdv : Value) (A : Around) (outer : List Env) (s : Shared) (H : Hp) (E : XK), Room k (A.deeper (envOfC qual (defScope st) s.heap.objs.size f cdv)) →
      ∃ t, PSs (cxOf CX0 P w K mg base N qual (defScope st) f cdv A outer s H E).nox (defBody st) t ∧ ∀ ds W post, S ds W post → Sw F ⟨K, cl⟩ t (startD N ds) W (E_ post)) : Opn P w K mg base (k + 1) C m (spN F ⟨K, cl⟩ S) :=
  ⟨f, fd, ps, o, okD Fn Sc len body, Fn.binds hb⟩
/-- a class whose __init__ has a star -/
structure MakR (P : Program) (w : World) (K : PySem.W.Frag) (mg : Str → Option Value) (base : Heap) (k : Nat) (x : Str) (C : Addr) (sp : Sp) : Prop where
  ex : ∃ f : Addr, Mk K C f ∧ FnR P w K mg base CX0 k f sp ∧ mg x = some (.ref C)
end
section
variable {X : Cx} {k j : Nat} {x : Str} {C : Addr} {sp : Sp} {e : Expr} {es : List Expr} {t : TA} {p pos : Pos} {F : FmKit} {T : Kx} {S : FS}
theorem pe_cg (c : CalG X.prog X.w X.K X.mg X.base k x sp) (hgd : X.A.guards = some []) (hr : Room j X.A) (hk : k ≤ j) (hg : Gl X x) (ha : PA X (e :: es) t) (hdb : (x == ("__debug__" : Str)) = false := by decide)
    (he : starEach (e :: es) X.env = (false, eval e X.env) :: starEach es X.env := by rfl) (hpl : (backTo pos (starEach es X.env)).any (·.1) = false := by rfl) : PE X (.Call (.Name x p) (e :: es) [] pos) (tCall sp [] E0 t) := by
  obtain ⟨f, h, hm, hk'⟩ := c.ex
  exact pe_callG h hgd (hr.mono hk) hg hm hk' ha hdb he hpl
theorem pe_c0 {dvs : List V} (c : Cal X.prog X.w X.K X.mg X.base k x sp dvs) (hr : Room j X.A) (hk : k ≤ j) (hg : Gl X x) (hdb : (x == ("__debug__" : Str)) = false := by decide) : PE X (.Call (.Name x p) [] [] pos) (tCall sp dvs E0 tNil) := by
  obtain ⟨f, fd, ps, ds, h, hm, kp, b, d⟩ := c.ex
  exact pe_call0 h (hr.mono hk) hg hm kp b d pass0 hdb
theorem pe_mkR (c : MakR X.prog X.w X.K X.mg X.base k x C sp) (hr : Room j X.A) (hk : k + 1 ≤ j) (hg : Gl X x) (ha : PA X (e :: es) t) (hdb : (x == ("__debug__" : Str)) = false := by decide)
    (he : starEach (e :: es) X.env = (false, eval e X.env) :: starEach es X.env := by rfl) (hpl : (backTo pos (starEach es X.env)).any (·.1) = false := by rfl) : PE X (.Call (.Name x p) (e :: es) [] pos) (StX.tMakeR C sp E0 t) := by
  obtain ⟨f, m, h, hm⟩ := c.ex
  exact StX.pe_makeR m h (hr.mono hk) hg hm pass0 ha hdb he hpl
theorem op_opn {op : Operator} (o : Opn X.prog X.w X.K X.mg X.base k C (PySem.dunder op.info.2) sp) (hr : Room j X.A) (hk : k ≤ j) (hc : PySem.W.selfFirst X.K C = true) : OpR X (binaryOp op) (rOwn2 C sp E0) := by
  obtain ⟨f, fd, ps, o2, h, b⟩ := o.ex
  exact op_own h (hr.mono hk) o2 hc b pass0
theorem un_opn (o : Opn X.prog X.w X.K X.mg X.base k C "__invert__" sp) (hr : Room j X.A) (hk : k ≤ j) : UnR X (unaryOp .Invert) (rOwn1 C sp E0) := by
  obtain ⟨f, fd, ps, o2, h, b⟩ := o.ex
  exact un_own_inv h (hr.mono hk) o2 b pass0
def rStrO (C : Addr) (sp : Sp) : List V → Hp → VK → Prop := fun xs H Q => ∃ a dx fs, xs = [.ref a] ∧ H a = some (.ins C dx fs) ∧ sp [.ref a] H (fun v H' => (∃ z, v = .str z) ∧ Q v H') E0
theorem call_str_opn (o : Opn X.prog X.w X.K X.mg X.base k C "__str__" sp) (hr : Room j X.A) (hk : k + 2 ≤ j) : CallR X (.type "str") (rStrO C sp) := by
  obtain ⟨f, fd, ps, o2, h, b⟩ := o.ex
  exact call_own_str h (hr.mono hk) o2 b pass0
def rLenO (C : Addr) (sp : Sp) : List V → Hp → VK → Prop := fun xs H Q => ∃ a dx fs, xs = [.ref a] ∧ H a = some (.ins C dx fs) ∧ sp [.ref a] H (fun v H' => (∃ n : Int, v = .int n ∧ 0 ≤ n ∧ n < 2 ^ 63) ∧ Q v H') E0
theorem call_len_opn (o : Opn X.prog X.w X.K X.mg X.base k C "__len__" sp) (hr : Room j X.A) (hk : k + 1 ≤ j) : CallR X (.builtin "len") (rLenO C sp) := by
  obtain ⟨f, fd, ps, o2, h, b⟩ := o.ex
  exact call_own_len h (hr.mono hk) o2 b pass0
end

section
variable {F : FmKit} {T : Kx} {C H H' O O' : Hp} {G : Gm} {W W' : Om} {R : D → Om → Prop} {S : FS} {ta : TE} {c : Nat}
/-- an operator of the own class -/
theorem bo_own {d e : D} {ns ms : List Str} {l m : List D} (i1 : Inst F W d c ns l) (i2 : Inst F W e c ms m) (h : Hand S [d, e] W R) : Bo F T (rOwn2 (T.cl c) (spN F T S) E0) d e W R := fun C H O di oc ow x y hx hy Q q => by
  obtain ⟨a, dx, fs, ex, ha, _⟩ := i1.at di ow hx
  obtain ⟨b, dy, gs, ey, hb, _⟩ := i2.at di ow hy
  exact ⟨a, b, dx, dy, fs, gs, ex, ey, ha, hb, h.run di oc ow ⟨x, _, rfl, hx, .one hy⟩ q⟩
theorem ev_un {r : V → Hp → VK → Prop} (h : Ev F T ta G W fun d W1 => Ca F T (fun xs H Q => ∃ x, xs = [x] ∧ r x H Q) [d] W1 R) : Ev F T (tUn r ta) G W R := fun C H O σ w Q q =>
  h C H O σ w _ fun d W1 H1 O1 x h1 n1 k1 => by
    obtain ⟨y, e, hr⟩ := h1 C H1 O1 n1.dis n1.oc n1.own [x] (.one k1) Q fun d W' H' O' v rr n k => q d W' H' O' v rr (n1.trans n) k
    cases e
    exact hr
theorem ca_own1 {d : D} {ns : List Str} {l : List D} (i1 : Inst F W d c ns l) (h : Hand S [d] W R) : Ca F T (fun xs H Q => ∃ x, xs = [x] ∧ rOwn1 (T.cl c) (spN F T S) E0 x H Q) [d] W R := ca_one fun C H O di oc ow x k Q q => by
  obtain ⟨a, dx, fs, ex, ha, _⟩ := i1.at di ow k
  exact ⟨x, rfl, a, dx, fs, ex, ha, h.run di oc ow (.one k) q⟩
theorem ca_strO {d : D} {ns : List Str} {l : List D} (i1 : Inst F W d c ns l) (h : Hand S [d] W fun d' W' => (∃ z, d' = .str z) ∧ R d' W') : Ca F T (rStrO (T.cl c) (spN F T S)) [d] W R := ca_one fun C H O di oc ow x k Q q => by
  obtain ⟨a, dx, fs, ex, ha, _⟩ := i1.at di ow k
  subst ex
  refine ⟨a, dx, fs, rfl, ha, h.run di oc ow (.one k) fun d' W' H' O' v ⟨⟨z, ez⟩, r⟩ n kd => ⟨⟨z, ?_⟩, q d' W' H' O' v r n kd⟩⟩
  subst ez
  exact kd
theorem ca_lenO {d : D} {ns : List Str} {l : List D} (i1 : Inst F W d c ns l) (h : Hand S [d] W fun d' W' => (∃ n : Int, d' = .int n ∧ 0 ≤ n ∧ n < 2 ^ 63) ∧ R d' W') : Ca F T (rLenO (T.cl c) (spN F T S)) [d] W R := ca_one fun C H O di oc ow x k Q q => by
  obtain ⟨a, dx, fs, ex, ha, _⟩ := i1.at di ow k
  subst ex
  refine ⟨a, dx, fs, rfl, ha, h.run di oc ow (.one k) fun d' W' H' O' v ⟨⟨z, ez, h0, h1⟩, r⟩ n kd => ⟨⟨z, ?_, h0, h1⟩, q d' W' H' O' v r n kd⟩⟩
  subst ez
  exact kd
end
end N
set_option Elab.async false
set_option linter.all false
set_option maxRecDepth 100000
/-! Rules in the forms that the walk tries. -/
namespace N
open PySem PySem.Spec PyProof.Rows L2
section
variable {F : FmKit} {T : Kx} {C H H' O O' : Hp} {G : Gm} {W W' : Om} {R : D → Om → Prop} {S : FS} {ta tb te : TE} {tr : TA} {c : Nat} {t u : TT} {Z : Bool → Om → Prop} {ts tz : TS} {E : En}
theorem bo_I0 {g : Int → Int → V} {i j : Int} (h : R (.vl (g i j)) W) : Bo F T (rI0 g) (.int i) (.int j) W R := op_sc fun H Q k => ⟨i, j, rfl, rfl, k _ h⟩
theorem bo_I {Cc : Int → Int → Prop} {g : Int → Int → V} {i j : Int} (hc : Cc i j) (h : R (.vl (g i j)) W) : Bo F T (rI Cc g) (.int i) (.int j) W R := op_sc fun H Q k => ⟨i, j, rfl, rfl, hc, k _ h⟩
theorem bo_eq {x y : V} (hs : scal x y = true) (h : R (.bl (decide (x = y))) W) : Bo F T rEq (.vl x) (.vl y) W R := op_sc fun H Q k => ⟨hs, k _ h⟩
theorem bo_ne {x y : V} (hs : scal x y = true) (h : R (.bl (!decide (x = y))) W) : Bo F T rNe (.vl x) (.vl y) W R := op_sc fun H Q k => ⟨hs, k _ h⟩
theorem dec_int (i j : Int) : decide (V.int i = V.int j) = decide (i = j) := by
  by_cases h : i = j
  · subst h
    simp
  · rw [decide_eq_false h, decide_eq_false (fun e => h (V.int.inj e))]
theorem dec_str (i j : Str) : decide (V.str i = V.str j) = decide (i = j) := by
  by_cases h : i = j
  · subst h
    simp
  · rw [decide_eq_false h, decide_eq_false (fun e => h (V.str.inj e))]
theorem dec_bl (i j : Bool) : decide (V.bl i = V.bl j) = decide (i = j) := by cases i <;> cases j <;> decide
theorem bo_eqI {i j : Int} (h : R (.bl (decide (i = j))) W) : Bo F T rEq (.int i) (.int j) W R := bo_eq rfl (by rw [dec_int]; exact h)
theorem bo_neI {i j : Int} (h : R (.bl (!decide (i = j))) W) : Bo F T rNe (.int i) (.int j) W R := bo_ne rfl (by rw [dec_int]; exact h)
theorem bo_eqS {i j : Str} (h : R (.bl (decide (i = j))) W) : Bo F T rEq (.str i) (.str j) W R := bo_eq rfl (by rw [dec_str]; exact h)
theorem bo_neS {i j : Str} (h : R (.bl (!decide (i = j))) W) : Bo F T rNe (.str i) (.str j) W R := bo_ne rfl (by rw [dec_str]; exact h)
theorem bo_eqB {i j : Bool} (h : R (.bl (decide (i = j))) W) : Bo F T rEq (.bl i) (.bl j) W R := bo_eq rfl (by rw [dec_bl]; exact h)
theorem bo_neB {i j : Bool} (h : R (.bl (!decide (i = j))) W) : Bo F T rNe (.bl i) (.bl j) W R := bo_ne rfl (by rw [dec_bl]; exact h)
theorem ca_int {i : Int} (h : R (.int i) W) : Ca F T (fun xs H Q => (∃ i, xs = [.int i] ∧ Q (.int i) H) ∨ ∃ k, xs = [.bl k] ∧ Q (.int (if k then 1 else 0)) H) [.int i] W R := cl_sc (xs := [.int i]) fun H Q k => .inl ⟨i, rfl, k _ h⟩
theorem ca_intB {b : Bool} (h : R (.int (if b then 1 else 0)) W) : Ca F T (fun xs H Q => (∃ i, xs = [.int i] ∧ Q (.int i) H) ∨ ∃ k, xs = [.bl k] ∧ Q (.int (if k then 1 else 0)) H) [.bl b] W R := cl_sc (xs := [.bl b]) fun H Q k => .inr ⟨b, rfl, k _ h⟩
theorem ca_max2 {i j : Int} (h : R (.int (if j > i then j else i)) W) : Ca F T (fun xs H Q => ∃ i j, xs = [.int i, .int j] ∧ Q (.int (if j > i then j else i)) H) [.int i, .int j] W R := cl_sc (xs := [.int i, .int j]) fun H Q k => ⟨i, j, rfl, k _ h⟩
theorem ca_min2 {i j : Int} (h : R (.int (if j < i then j else i)) W) : Ca F T (fun xs H Q => ∃ i j, xs = [.int i, .int j] ∧ Q (.int (if j < i then j else i)) H) [.int i, .int j] W R := cl_sc (xs := [.int i, .int j]) fun H Q k => ⟨i, j, rfl, k _ h⟩
theorem et_bl {b : Bool} (h : Z b W) : ∃ b', D.bl b = .bl b' ∧ Z b' W := ⟨b, rfl, h⟩
/-- a chain of comparisons -/
theorem ev_chain {r r' : R2} {tc : TE} (h : Ev F T ta G W fun d1 W1 => Ev F T tb G W1 fun d2 W2 => Bo F T r d1 d2 W2 fun z W3 => ∃ b, z = .bl b ∧ if b = true then Ev F T tc G W3 fun d3 W4 => Bo F T r' d2 d3 W4 R else R (.bl false) W3) : Ev F T (tChain r r' ta tb tc) G W R := fun C H O σ w Q q =>
  h C H O σ w _ fun d1 W1 H1 O1 x h1 n1 k1 => h1 C H1 O1 σ (w.step n1) _ fun d2 W2 H2 O2 y h2 n2 k2 =>
    h2 C H2 O2 n2.dis n2.oc n2.own x y (k1.mono n2.ext) k2 _ fun z W3 H3 O3 v ⟨b, ez, hb⟩ n3 k3 => by
      subst ez
      have k3 : v = .bl b := k3
      refine ⟨b, k3, ?_⟩
      cases b with
      | true => exact hb C H3 O3 σ (((w.step n1).step n2).step n3) _ fun d3 W4 H4 O4 zv h4 n4 k4 => h4 C H4 O4 n4.dis n4.oc n4.own y zv ((k2.mono n3.ext).mono n4.ext) k4 Q fun d W' H' O' v rr n k => q d W' H' O' v rr ((((n1.trans n2).trans n3).trans n4).trans n) k
      | false => exact q _ W3 H3 O3 _ hb ((n1.trans n2).trans n3) rfl
theorem et_chain {r r' : R2} {tc : TE} (h : Ev F T (tChain r r' ta tb tc) G W fun d W1 => ∃ b, d = .bl b ∧ Z b W1) : EvT F T (tTest (tChain r r' ta tb tc)) G W Z := et_test h
theorem if_so {c : Bool} {A B : Prop} (hc : c = true) (h : A) : if c = true then A else B := by rw [if_pos hc]; exact h
theorem if_not {c : Bool} {A B : Prop} (hc : c = false) (h : B) : if c = true then A else B := by rw [if_neg (by rw [hc]; exact Bool.false_ne_true)]; exact h
theorem if_dec {p A B : Prop} [Decidable p] (h1 : p → A) (h2 : ¬ p → B) : if decide p = true then A else B := by
  by_cases h : p
  · exact if_so (decide_eq_true h) (h1 h)
  · exact if_not (decide_eq_false h) (h2 h)
theorem if_ndec {p A B : Prop} [Decidable p] (h1 : ¬ p → A) (h2 : p → B) : if (!decide p) = true then A else B := by
  by_cases h : p
  · exact if_not (by rw [decide_eq_true h]; rfl) (h2 h)
  · exact if_so (by rw [decide_eq_false h]; rfl) (h1 h)
theorem if_bl {c : Bool} {A B : Prop} (h1 : c = true → A) (h2 : c = false → B) : if c = true then A else B := by
  cases c with
  | true => exact if_so rfl (h1 rfl)
  | false => exact if_not rfl (h2 rfl)
/-- slices of lists, in plain data -/
def cutD (xs : List D) (lo hi : Option Int) : List D := (xs.drop (HT.sIx xs.length 0 lo)).take (HT.sIx xs.length xs.length hi - HT.sIx xs.length 0 lo)
theorem DenL.cut {l : List D} {xs : List V} (k : DenL F T H l xs) (lo hi : Option Int) : DenL F T H (cutD l lo hi) (cutV xs lo hi) := by
  unfold cutD cutV
  rw [k.len]
  exact (k.drop _).take _
theorem eo_none {Y : Option Int → Om → Prop} (h : Y none W) : EvO F T tNoPart G W Y := fun C H O σ w Q q => q none W H O h w.nx
theorem eo_some {Y : Option Int → Om → Prop} (h : Ev F T te G W fun d W1 => ∃ i, d = .int i ∧ Y (some i) W1) : EvO F T (tPart te) G W Y := fun C H O σ w Q q =>
  h C H O σ w _ fun d W1 H1 O1 x ⟨i, e, y⟩ n k => by
    subst e
    exact ⟨i, k, q (some i) W1 H1 O1 y n⟩
theorem ev_sl {r : V → Option Int → Option Int → Hp → VK → Prop} {tl th : TO} (h : Ev F T te G W fun d W1 => EvO F T tl G W1 fun lo W2 => EvO F T th G W2 fun hi W3 => Ca F T (fun xs H Q => ∃ x, xs = [x] ∧ r x lo hi H Q) [d] W3 R) : Ev F T (tSl r te tl th) G W R := fun C H O σ w Q q =>
  h C H O σ w _ fun d W1 H1 O1 x h1 n1 k1 => h1 C H1 O1 σ (w.step n1) _ fun lo W2 H2 O2 h2 n2 => h2 C H2 O2 σ ((w.step n1).step n2) _ fun hi W3 H3 O3 h3 n3 => by
    obtain ⟨y, e, hr⟩ := h3 C H3 O3 n3.dis n3.oc n3.own [x] (.one ((k1.mono n2.ext).mono n3.ext)) Q fun d W' H' O' v rr n k => q d W' H' O' v rr (((n1.trans n2).trans n3).trans n) k
    cases e
    exact hr
theorem ca_slL {d : D} {l : List D} {lo hi : Option Int} (hv : Vl W d l) (r : ∀ p, p ∉ akeys W → R (.adr p) ((p, .lst (cutD l lo hi)) :: W)) : Ca F T (fun xs H Q => ∃ x, xs = [x] ∧ rSlL T.K x lo hi H Q) [d] W R := ca_one fun C H O di oc ow x k Q q => by
  obtain ⟨a, xs, e, hs, kl⟩ := hv.sq ow di k
  subst e
  refine ⟨_, rfl, a, xs, rfl, hs, fun p hp => ?_⟩
  obtain ⟨n2, e, np⟩ := (Nx.refl di oc ow).newO (od := .lst (cutD l lo hi)) (o := .lst (cutV xs lo hi)) hp ⟨_, rfl, kl.cut lo hi⟩
  rw [e]
  exact q (.adr p) _ _ _ _ (r p np) n2 rfl
theorem ev_revL (h : Ev F T te G W fun d W1 => ∃ l, Vl W1 d l ∧ ∀ p, p ∉ akeys W1 → R (.adr p) ((p, .lst l.reverse) :: W1)) : Ev F T (tRevL T.K te) G W R := fun C H O σ w Q q =>
  h C H O σ w _ fun d W1 H1 O1 x ⟨l, hv, r⟩ n k => by
    obtain ⟨a, xs, e, hs, kl⟩ := hv.sq n.own n.dis k
    subst e
    refine ⟨a, xs, rfl, hs, fun p hp => ?_⟩
    obtain ⟨n2, e, np⟩ := n.newO (od := .lst l.reverse) (o := .lst xs.reverse) hp ⟨_, rfl, kl.reverse⟩
    rw [e]
    exact q (.adr p) _ _ _ _ (r p np) n2 rfl
/-- list(range(..)) -/
theorem ev_listRg1 (h : Ev F T ta G W fun d W1 => ∃ n : Int, d = .int n ∧ RgOk 0 n ∧ ∀ p, p ∉ akeys W1 → R (.adr p) ((p, .lst ((rgV 0 n).map .vl)) :: W1)) : Ev F T (tLstRg (tRg1 ta)) G W R := fun C H O σ w Q q =>
  h C H O σ w _ fun d W1 H1 O1 x ⟨n, ed, ok, r⟩ n1 k => by
    subst ed
    refine ⟨n, k, ok, fun p hp => ?_⟩
    obtain ⟨n2, e, np⟩ := n1.newO (od := .lst ((rgV 0 n).map .vl)) (o := .lst (rgV 0 n)) hp ⟨_, rfl, .vls _⟩
    rw [e]
    exact q (.adr p) _ _ _ _ (r p np) n2 rfl
theorem ev_listRg2 (h : Ev F T ta G W fun d W1 => Ev F T tb G W1 fun e W2 => ∃ i j : Int, d = .int i ∧ e = .int j ∧ RgOk i j ∧ ∀ p, p ∉ akeys W2 → R (.adr p) ((p, .lst ((rgV i j).map .vl)) :: W2)) : Ev F T (tLstRg (tRg2 ta tb)) G W R := fun C H O σ w Q q =>
  h C H O σ w _ fun d W1 H1 O1 x h1 n1 k1 => h1 C H1 O1 σ (w.step n1) _ fun e W2 H2 O2 y ⟨i, j, ed, ee, ok, r⟩ n2 k2 => by
    subst ed ee
    have k1 : x = .int i := k1
    have k2 : y = .int j := k2
    refine ⟨i, j, k1, k2, ok, fun p hp => ?_⟩
    obtain ⟨n3, e, np⟩ := (n1.trans n2).newO (od := .lst ((rgV i j).map .vl)) (o := .lst (rgV i j)) hp ⟨_, rfl, .vls _⟩
    rw [e]
    exact q (.adr p) _ _ _ _ (r p np) n3 rfl
/-- membership in a flat sequence -/
theorem bo_in {neg : Bool} {x : V} {d : D} {xs : List V} (hv : Vs W d (xs.map .vl)) (hx : flatV x = true) (ha : xs.all flatV = true) (r : R (.bl (if neg then !inV x xs else inV x xs)) W) : Bo F T (rIn T.K neg) (.vl x) d W R := fun C H O di oc ow x' y hx' hy Q q => by
  have hx' : x' = x := hx'
  subst hx'
  obtain ⟨a, ys, e, hs, kl⟩ := hv.sq ow di hy
  have kl := DenL.vls_inv kl
  subst kl
  exact ⟨a, ys, e, hs, hx, ha, q _ W H O _ r (.refl di oc ow) rfl⟩
end
theorem canLay_ints : ∀ ns : List Int, PyData.canLayAll0 (ns.map .int) = true
  | [] => rfl
  | n :: ns => by
    rw [List.map_cons, PyData.canLayAll0, canLay_ints ns]
    rfl
theorem depth_ints : ∀ ns : List Int, PyData.depthAll (ns.map .int) = 0
  | [] => rfl
  | n :: ns => by
    rw [List.map_cons, PyData.depthAll, depth_ints ns]
    rfl
theorem shaped_ints (ns : List Int) : SeqAt.shaped (.list (ns.map .int)) = true := by
  unfold SeqAt.shaped
  rw [PyData.canLay0, canLay_ints, PyData.depth, depth_ints]
  decide
theorem eqv_nil {ds : List PyData} : (PyData.list ds).eqv (.list []) = ds.isEmpty := by
  cases ds with
  | nil => simp [PyData.eqv, PyData.eqvAll]
  | cons d ds => simp [PyData.eqv, PyData.eqvAll]
theorem vp_ints {W : Om} {d : D} {ns : List Int} (h : Vl W d (ns.map D.int)) : Vp W d (.list (ns.map .int)) := .inr ⟨_, h, pd_lst (pdL_map D.int .int (fun _ => rfl) ns)⟩
theorem vp_nil {W : Om} : Vp W (.lst []) (.list []) := .inl rfl
end N
set_option Elab.async false
set_option linter.all false
set_option maxRecDepth 100000
/-! Formulas, plainly: texts, what is kept of them, their order. -/
namespace N
open PySem PySem.Spec PyProof.Rows L2

/-! ### texts -/
theorem str_ext {x y : Str} (h : x.cps.toList = y.cps.toList) : x = y := by
  cases x
  cases y
  congr 1
  exact Array.toList_inj.mp h
theorem str_app (x y : Str) : (x ++ y).cps.toList = x.cps.toList ++ y.cps.toList := by
  show (x.cps ++ y.cps).toList = _
  rw [Array.toList_append]
theorem str_len (x : Str) : x.length = x.cps.toList.length := by
  show x.cps.size = _
  rw [Array.length_toList]
theorem str_app_len (x y : Str) : (x ++ y).length = x.length + y.length := by rw [str_len, str_app, List.length_append, ← str_len, ← str_len]
def ltS (x y : Str) : Bool := ltCps x.cps.toList y.cps.toList
theorem ltCps_irrefl : ∀ a : List Nat, ltCps a a = false
  | [] => rfl
  | a :: r => by simp [ltCps, ltCps_irrefl r]
theorem ltCps_trans : ∀ {a b c : List Nat}, ltCps a b = true → ltCps b c = true → ltCps a c = true
  | [], [], c, h, _ => by simp [ltCps] at h
  | [], _ :: _, [], _, h => by simp [ltCps] at h
  | [], _ :: _, _ :: _, _, _ => rfl
  | _ :: _, [], _, h, _ => by simp [ltCps] at h
  | _ :: _, _ :: _, [], _, h => by simp [ltCps] at h
  | x :: a, y :: b, z :: c, h1, h2 => by
    simp only [ltCps, Bool.or_eq_true, decide_eq_true_eq, Bool.and_eq_true, beq_iff_eq] at h1 h2 ⊢
    rcases h1 with h1 | ⟨h1, h3⟩ <;> rcases h2 with h2 | ⟨h2, h4⟩
    · exact .inl (by omega)
    · exact .inl (by omega)
    · exact .inl (by omega)
    · exact .inr ⟨by omega, ltCps_trans h3 h4⟩
theorem ltCps_total : ∀ {a b : List Nat}, ltCps a b = false → ltCps b a = false → a = b
  | [], [], _, _ => rfl
  | [], _ :: _, h, _ => by simp [ltCps] at h
  | _ :: _, [], _, h => by simp [ltCps] at h
  | x :: a, y :: b, h1, h2 => by
    simp only [ltCps, Bool.or_eq_false_iff, decide_eq_false_iff_not, Bool.and_eq_false_iff, beq_eq_false_iff_ne] at h1 h2
    have e : x = y := by omega
    subst e
    rw [ltCps_total (h1.2.resolve_left (by simp)) (h2.2.resolve_left (by simp))]
theorem ltS_irrefl (x : Str) : ltS x x = false := ltCps_irrefl _
theorem ltS_trans {x y z : Str} (h : ltS x y = true) (k : ltS y z = true) : ltS x z = true := ltCps_trans h k
theorem ltS_total {x y : Str} (h : ltS x y = false) (k : ltS y x = false) : x = y := str_ext (ltCps_total h k)
theorem ltS_of {x y : Str} (h : ltS y x = false) (ne : x ≠ y) : ltS x y = true := by
  cases e : ltS x y with
  | true => rfl
  | false => exact absurd (ltS_total e h) ne
theorem rising_all : ∀ {l : List Str} {p : Str}, risingS p l = true → (p :: l).Nodup → (p :: l).Pairwise (fun a b => ltS a b = true)
  | [], p, _, _ => by simp
  | x :: l, p, h, nd => by
    unfold risingS at h
    rw [Bool.and_eq_true] at h
    have h1 : ltS x p = false := by simpa [ltS] using h.1
    rw [List.nodup_cons] at nd
    have ih := rising_all h.2 nd.2
    have px : ltS p x = true := ltS_of h1 (fun e => nd.1 (by rw [e]; exact List.mem_cons_self))
    rw [List.pairwise_cons]
    refine ⟨fun y hy => ?_, ih⟩
    rcases List.mem_cons.mp hy with e | e
    · subst e
      exact px
    · exact ltS_trans px ((List.pairwise_cons.mp ih).1 y e)
theorem sorted_all : ∀ {l : List Str}, sortedS l = true → l.Nodup → l.Pairwise (fun a b => ltS a b = true)
  | [], _, _ => List.Pairwise.nil
  | _ :: _, h, nd => rising_all h nd
/-- two strictly ascending lists with the same members are one -/
theorem asc_ext {α : Type} {lt : α → α → Prop} (ir : ∀ a, ¬ lt a a) (tr : ∀ a b c, lt a b → lt b c → lt a c) : ∀ {l m : List α}, l.Pairwise lt → m.Pairwise lt → (∀ x, x ∈ l ↔ x ∈ m) → l = m
  | [], [], _, _, _ => rfl
  | [], b :: m, _, _, h => absurd ((h b).mpr List.mem_cons_self) (by simp)
  | a :: l, [], _, _, h => absurd ((h a).mp List.mem_cons_self) (by simp)
  | a :: l, b :: m, hl, hm, h => by
    rw [List.pairwise_cons] at hl hm
    have e : a = b := by
      rcases List.mem_cons.mp ((h a).mp List.mem_cons_self) with e | e
      · exact e
      · rcases List.mem_cons.mp ((h b).mpr List.mem_cons_self) with e2 | e2
        · exact e2.symm
        · exact absurd (tr _ _ _ (hl.1 _ e2) (hm.1 _ e)) (ir a)
    subst e
    congr 1
    refine asc_ext ir tr hl.2 hm.2 fun x => ⟨fun hx => ?_, fun hx => ?_⟩
    · rcases List.mem_cons.mp ((h x).mp (List.mem_cons_of_mem _ hx)) with e | e
      · subst e
        exact absurd (hl.1 _ hx) (ir x)
      · exact e
    · rcases List.mem_cons.mp ((h x).mpr (List.mem_cons_of_mem _ hx)) with e | e
      · subst e
        exact absurd (hm.1 _ hx) (ir x)
      · exact e
theorem perm_map_inv {α β : Type} {f : α → β} : ∀ {l : List α} {ys : List β}, ys.Perm (l.map f) → ∃ l' : List α, l'.Perm l ∧ ys = l'.map f
  | [], ys, h => ⟨[], List.Perm.refl _, by simpa using h⟩
  | a :: l, ys, h => by
    have hm : f a ∈ ys := h.mem_iff.mpr (by simp)
    obtain ⟨s, t, e⟩ := List.append_of_mem hm
    subst e
    have h2 : (s ++ t).Perm (l.map f) := by
      have h3 : (f a :: (s ++ t)).Perm (f a :: l.map f) := List.perm_middle.symm.trans (by simpa using h)
      exact (List.perm_cons _).mp h3
    obtain ⟨l', p, e⟩ := perm_map_inv h2
    obtain ⟨l1, l2, e1, e2, e3⟩ := List.map_eq_append_iff.mp e.symm
    subst e1 e2 e3
    exact ⟨l1 ++ a :: l2, List.perm_middle.trans ((List.perm_cons _).mpr p), by simp⟩

/-! ### what is kept of a formula -/
def insN (n : Nat) : List Nat → List Nat
  | [] => [n]
  | m :: r => if n = m then m :: r else if n < m then n :: m :: r else m :: insN n r
def unite (x y : Str) : Str := if x = y then x else ⟨((x.cps.toList ++ y.cps.toList).foldr insN []).toArray⟩
namespace Fm
def kind : Fm → Str
  | .at _ => "atom"
  | .no => "no"
  | .imp _ _ => "if"
  | .all _ => "all"
def many : Fm → Nat
  | .at _ => 1
  | .no => 1
  | .imp a b => 1 + a.many + b.many
  | .all a => 1 + a.many
def deep : Fm → Nat
  | .at _ => 0
  | .no => 0
  | .imp a b => max a.deep b.deep
  | .all a => 1 + a.deep
def atoms : Fm → Str
  | .at c => ⟨#[c]⟩
  | .no => ""
  | .imp a b => unite a.atoms b.atoms
  | .all a => a.atoms
/-- the atoms outside of all all-parts -/
def outer : Fm → Str
  | .at c => ⟨#[c]⟩
  | .no => ""
  | .imp a b => unite a.outer b.outer
  | .all _ => ""
def spell : Fm → Str
  | .at c => ⟨#[c]⟩
  | .no => "no"
  | .imp a b => "(" ++ a.spell ++ " > " ++ b.spell ++ ")"
  | .all a => "all " ++ a.spell
def ins (g : Fm) : List Fm → List Fm
  | [] => [g]
  | h :: r => if g = h then h :: r else if ltS g.spell h.spell then g :: h :: r else h :: ins g r
def merge (xs ys : List Fm) : List Fm := if xs = [] then ys else if ys = [] then xs else (xs ++ ys).foldr ins []
def alls : Fm → List Fm
  | .at _ => []
  | .no => []
  | .imp a b => merge a.alls b.alls
  | .all a => merge a.alls [.all a]
/-- the length of the text -/
def sz : Fm → Nat
  | .at _ => 1
  | .no => 2
  | .imp a b => 5 + a.sz + b.sz
  | .all a => 4 + a.sz
/-- no atom in it -/
def bare : Fm → Prop
  | .at _ => False
  | .no => True
  | .imp a b => a.bare ∧ b.bare
  | .all a => a.bare
theorem spell_len : ∀ f : Fm, f.spell.length = f.sz
  | .at _ => rfl
  | .no => rfl
  | .imp a b => by
    have h1 : ("(" : Str).length = 1 := rfl
    have h2 : (" > " : Str).length = 3 := rfl
    have h3 : (")" : Str).length = 1 := rfl
    simp only [spell, sz, str_app_len, spell_len a, spell_len b, h1, h2, h3]
    omega
  | .all a => by
    have h1 : ("all " : Str).length = 4 := rfl
    simp only [spell, sz, str_app_len, spell_len a, h1]
def ltF (f g : Fm) : Prop := ltS f.spell g.spell = true
def cs (f : Fm) : List Nat := f.spell.cps.toList
theorem cs_imp (a b : Fm) : cs (.imp a b) = 40 :: (a.cs ++ (32 :: 62 :: 32 :: (b.cs ++ [41]))) := by
  have h1 : ("(" : Str).cps.toList = [40] := rfl
  have h2 : (" > " : Str).cps.toList = [32, 62, 32] := rfl
  have h3 : (")" : Str).cps.toList = [41] := rfl
  simp [cs, spell, str_app, h1, h2, h3]
theorem cs_all (a : Fm) : cs (.all a) = 97 :: 108 :: 108 :: 32 :: a.cs := by
  have h1 : ("all " : Str).cps.toList = [97, 108, 108, 32] := rfl
  simp [cs, spell, str_app, h1]
theorem cs_no : cs .no = [110, 111] := rfl
theorem cs_at (c : Nat) : cs (.at c) = [c] := rfl
/-- behind a formula stands nothing, a blank or a bracket -/
def stop (r : List Nat) : Prop := ∀ c t, r = c :: t → c = 32 ∨ c = 41
/-- letters -/
def okL : Fm → Prop
  | .at c => (65 ≤ c ∧ c ≤ 90) ∨ (97 ≤ c ∧ c ≤ 122)
  | .no => True
  | .imp a b => a.okL ∧ b.okL
  | .all a => a.okL
theorem bare_atoms : ∀ {f : Fm}, f.bare → f.atoms = "" ∧ f.outer = ""
  | .at _, h => h.elim
  | .no, _ => ⟨rfl, rfl⟩
  | .imp _ _, h => by
    obtain ⟨h1, h2⟩ := bare_atoms h.1
    obtain ⟨h3, h4⟩ := bare_atoms h.2
    exact ⟨by simp [atoms, h1, h3, unite], by simp [outer, h2, h4, unite]⟩
  | .all a, h => ⟨(bare_atoms (f := a) h).1, rfl⟩
theorem bare_ok : ∀ {f : Fm}, f.bare → f.okL
  | .at _, h => h.elim
  | .no, _ => trivial
  | .imp _ _, h => ⟨bare_ok h.1, bare_ok h.2⟩
  | .all a, h => bare_ok (f := a) h
theorem cs_inj : ∀ (f g : Fm), f.okL → g.okL → ∀ r s : List Nat, stop r → stop s → f.cs ++ r = g.cs ++ s → f = g ∧ r = s
  | .at c, .at d, _, _, r, s, _, _, h => by
    rw [cs_at, cs_at] at h
    injection h with h1 h2
    exact ⟨by rw [h1], h2⟩
  | .at c, .no, _, _, r, s, hr, _, h => by
    rw [cs_at, cs_no] at h
    injection h with h1 h2
    rcases hr 111 s h2 with e | e <;> cases e
  | .at c, .imp a b, hc, _, r, s, hr, _, h => by
    rw [cs_at, cs_imp] at h
    injection h with h1 h2
    simp only [okL] at hc
    omega
  | .at c, .all a, _, _, r, s, hr, _, h => by
    rw [cs_at, cs_all] at h
    injection h with h1 h2
    rcases hr _ _ h2 with e | e <;> cases e
  | .no, .at d, _, _, r, s, _, hs, h => by
    rw [cs_at, cs_no] at h
    injection h with h1 h2
    rcases hs 111 r h2.symm with e | e <;> cases e
  | .no, .no, _, _, r, s, _, _, h => by
    rw [cs_no] at h
    simp at h
    exact ⟨rfl, h⟩
  | .no, .imp a b, _, _, r, s, _, _, h => by
    rw [cs_no, cs_imp] at h
    injection h with h1 h2
    cases h1
  | .no, .all a, _, _, r, s, _, _, h => by
    rw [cs_no, cs_all] at h
    injection h with h1 h2
    cases h1
  | .imp a b, .at d, _, hd, r, s, _, hs, h => by
    rw [cs_at, cs_imp] at h
    injection h with h1 h2
    simp only [okL] at hd
    omega
  | .imp a b, .no, _, _, r, s, _, _, h => by
    rw [cs_no, cs_imp] at h
    injection h with h1 h2
    cases h1
  | .imp a b, .all c, _, _, r, s, _, _, h => by
    rw [cs_all, cs_imp] at h
    injection h with h1 h2
    cases h1
  | .all a, .at d, _, _, r, s, _, hs, h => by
    rw [cs_at, cs_all] at h
    injection h with h1 h2
    rcases hs _ _ h2.symm with e | e <;> cases e
  | .all a, .no, _, _, r, s, _, _, h => by
    rw [cs_no, cs_all] at h
    injection h with h1 h2
    cases h1
  | .all a, .imp b c, _, _, r, s, _, _, h => by
    rw [cs_all, cs_imp] at h
    injection h with h1 h2
    cases h1
  | .all a, .all b, ha, hb, r, s, hr, hs, h => by
    rw [cs_all, cs_all] at h
    simp only [List.cons_append, List.cons.injEq, true_and] at h
    obtain ⟨e, e2⟩ := cs_inj a b ha hb r s hr hs h
    exact ⟨by rw [e], e2⟩
  | .imp a b, .imp c d, ha, hb, r, s, hr, hs, h => by
    rw [cs_imp, cs_imp] at h
    simp only [List.cons_append, List.append_assoc, List.cons.injEq, true_and] at h
    obtain ⟨e, e2⟩ := cs_inj a c ha.1 hb.1 _ _ (by intro c t e; injection e with e; exact .inl e.symm) (by intro c t e; injection e with e; exact .inl e.symm) h
    subst e
    simp only [List.cons.injEq, true_and] at e2
    obtain ⟨e3, e4⟩ := cs_inj b d ha.2 hb.2 _ _ (by intro c t e; injection e with e; exact .inr e.symm) (by intro c t e; injection e with e; exact .inr e.symm) e2
    subst e3
    simp at e4
    exact ⟨rfl, e4⟩
theorem spell_inj {f g : Fm} (hf : f.okL) (hg : g.okL) (h : f.spell = g.spell) : f = g := by
  refine (cs_inj f g hf hg [] [] (by intro c t e; cases e) (by intro c t e; cases e) ?_).1
  simp [cs, h]
/-! ### ascending lists of formulas -/
def asc (l : List Fm) : Prop := l.Pairwise ltF
theorem ltF_irrefl (f : Fm) : ¬ ltF f f := by
  unfold ltF
  rw [ltS_irrefl]
  exact Bool.false_ne_true
theorem ltF_trans (f g h : Fm) : ltF f g → ltF g h → ltF f h := fun a b => ltS_trans a b
theorem asc_eq {l m : List Fm} (h : asc l) (k : asc m) (e : ∀ x, x ∈ l ↔ x ∈ m) : l = m := asc_ext ltF_irrefl ltF_trans h k e
theorem mem_ins {g x : Fm} : ∀ {l : List Fm}, x ∈ ins g l ↔ x = g ∨ x ∈ l
  | [] => by simp [ins]
  | h :: r => by
    unfold ins
    split
    · rename_i e
      subst e
      simp
    · split
      · simp
      · rw [List.mem_cons, mem_ins, List.mem_cons]
        constructor
        · rintro (h | h | h)
          · exact .inr (.inl h)
          · exact .inl h
          · exact .inr (.inr h)
        · rintro (h | h | h)
          · exact .inr (.inl h)
          · exact .inl h
          · exact .inr (.inr h)
theorem asc_ins {g : Fm} (hg : g.okL) : ∀ {l : List Fm}, asc l → (∀ x ∈ l, okL x) → asc (ins g l)
  | [], _, _ => by simp [ins, asc]
  | h :: r, hl, ho => by
    unfold asc at hl
    rw [List.pairwise_cons] at hl
    unfold ins
    split
    · exact List.pairwise_cons.mpr hl
    · rename_i ne
      split
      · rename_i lt
        refine List.pairwise_cons.mpr ⟨fun y hy => ?_, List.pairwise_cons.mpr hl⟩
        rcases List.mem_cons.mp hy with e | e
        · subst e
          exact lt
        · exact ltF_trans _ _ _ lt (hl.1 y e)
      · rename_i nlt
        refine List.pairwise_cons.mpr ⟨fun y hy => ?_, asc_ins hg hl.2 fun x hx => ho x (List.mem_cons_of_mem _ hx)⟩
        rcases mem_ins.mp hy with e | e
        · subst e
          refine ltS_of (by simpa using nlt) fun e => ne ?_
          exact (spell_inj (ho _ List.mem_cons_self) hg e).symm
        · exact hl.1 y e
theorem mem_fold {x : Fm} : ∀ {l : List Fm}, x ∈ l.foldr ins [] ↔ x ∈ l
  | [] => by simp
  | g :: l => by rw [List.foldr_cons, mem_ins, mem_fold, List.mem_cons]
theorem asc_fold : ∀ {l : List Fm}, (∀ x ∈ l, okL x) → asc (l.foldr ins [])
  | [], _ => List.Pairwise.nil
  | g :: l, h => asc_ins (h g List.mem_cons_self) (asc_fold fun x hx => h x (List.mem_cons_of_mem _ hx)) fun x hx => h x (List.mem_cons_of_mem _ (mem_fold.mp hx))
theorem mem_merge {x : Fm} {l m : List Fm} : x ∈ merge l m ↔ x ∈ l ∨ x ∈ m := by
  unfold merge
  split
  · rename_i e
    subst e
    simp
  · split
    · rename_i e
      subst e
      simp
    · rw [mem_fold, List.mem_append]
theorem asc_merge {l m : List Fm} (hl : asc l) (hm : asc m) (ol : ∀ x ∈ l, okL x) (om : ∀ x ∈ m, okL x) : asc (merge l m) := by
  unfold merge
  split
  · exact hm
  · split
    · exact hl
    · refine asc_fold fun x hx => ?_
      rcases List.mem_append.mp hx with h | h
      · exact ol x h
      · exact om x h
theorem alls_sub : ∀ {f : Fm}, f.okL → (∀ x ∈ f.alls, okL x) ∧ asc f.alls
  | .at _, _ => ⟨fun _ h => by simp [alls] at h, List.Pairwise.nil⟩
  | .no, _ => ⟨fun _ h => by simp [alls] at h, List.Pairwise.nil⟩
  | .imp a b, h => by
    obtain ⟨h1, h2⟩ := alls_sub h.1
    obtain ⟨h3, h4⟩ := alls_sub h.2
    exact ⟨fun x hx => (mem_merge.mp hx).elim (h1 x) (h3 x), asc_merge h2 h4 h1 h3⟩
  | .all a, h => by
    obtain ⟨h1, h2⟩ := alls_sub (f := a) h
    have h3 : ∀ x ∈ [Fm.all a], okL x := fun x hx => by
      rw [List.mem_singleton] at hx
      subst hx
      exact h
    exact ⟨fun x hx => (mem_merge.mp hx).elim (h1 x) (h3 x), asc_merge h2 (by simp [asc]) h1 h3⟩
end Fm
/-- the kit of formulas -/
@[reducible] def FK : FmKit where
  kind := Fm.kind
  many f := (f.many : Nat)
  deep f := (f.deep : Nat)
  atoms := Fm.atoms
  bare := Fm.outer
  spell := Fm.spell
  alls := Fm.alls
end N
set_option Elab.async false
set_option linter.all false
set_option maxRecDepth 100000
/-! Further rules: dead parts, isinstance, texts, tuples joined, tables of the module, sorted keys, dicts of bools. -/
namespace N
open PySem PySem.Spec PyProof.Rows L2
open C8 (InsC)

theorem len_ok {n : Nat} (h : n ≤ 1000) : n ≤ sizeLine := by
  have := sizeLine_eq
  omega
/-! ### what is never reached -/
def tDead : TE := fun _ _ _ => False
theorem pt_dead {X : Cx} {e : Expr} : PT X e (fun _ _ _ => False) := ⟨fun _ _ _ _ _ _ h => h.elim⟩
theorem pe_dead {X : Cx} {e : Expr} : PE X e tDead := ⟨fun _ _ _ _ _ _ h => h.elim⟩

section
variable {F : FmKit} {T : Kx} {C H H' O O' : Hp} {G : Gm} {W W' : Om} {σ : L2.St} {a p : Addr} {d : D} {l : List D}
  {te ta tb : TE} {t u : TT} {R R' : D → Om → Prop} {Z : Bool → Om → Prop} {tr tk : TA} {ts tz : TS}
/-- an owned cell is let go -/
theorem ev_drp (h : Ev F T te G W fun d W' => ∃ W2, W2.Sublist W' ∧ R d W2) : Ev F T te G W R := fun C H O σ w Q q => h C H O σ w Q fun d W' H' O' v ⟨W2, s, r⟩ n k => q d W2 H' O' v r ⟨n.ext, n.dis, n.oc, n.own.sub s⟩ k
theorem bo_drp {r : R2} {d1 d2 : D} (h : Bo F T r d1 d2 W fun d W' => ∃ W2, W2.Sublist W' ∧ R d W2) : Bo F T r d1 d2 W R := fun C H O di oc ow x y hx hy Q q => h C H O di oc ow x y hx hy Q fun d W' H' O' v ⟨W2, s, r⟩ n k => q d W2 H' O' v r ⟨n.ext, n.dis, n.oc, n.own.sub s⟩ k
theorem ca_drp {r : List V → Hp → VK → Prop} {ds : List D} (h : Ca F T r ds W fun d W' => ∃ W2, W2.Sublist W' ∧ R d W2) : Ca F T r ds W R := fun C H O di oc ow xs hx Q q => h C H O di oc ow xs hx Q fun d W' H' O' v ⟨W2, s, r⟩ n k => q d W2 H' O' v r ⟨n.ext, n.dis, n.oc, n.own.sub s⟩ k

/-! ### isinstance -/
def TyD (F : FmKit) (T : Kx) (W : Om) (d : D) (t : Value) : Prop := ∀ (C H O : Hp), Dis O H → Ow F T H C O W → ∀ x, Den F T H d x → TyX T.K (ov O H) x t
theorem ca_isi {c : V} {t u : Value} {b : Bool} (hc : ClsV c u) (ht : TyD F T W d t) (e : PySem.W.kitOne T.K t u = some b) (r : R (.bl b) W) : Ca F T (rIsi T.K) [d, .vl c] W R := ca_two fun C H O di oc ow x y hx hy Q q => by
  have hy : y = c := hy
  subst hy
  exact ⟨x, y, t, u, b, rfl, hc, ht C H O di ow x hx, e, q _ W H O _ r (.refl di oc ow) rfl⟩
theorem tyd_str {s : Str} : TyD F T W (.str s) (.type "str") := fun C H O di ow x k => by
  have k : x = .str s := k
  subst k
  exact .base (.str s)
theorem tyd_int {i : Int} : TyD F T W (.int i) (.type "int") := fun C H O di ow x k => by
  have k : x = .int i := k
  subst k
  exact .base (.int i)
theorem tyd_bl {i : Bool} : TyD F T W (.bl i) (.type "bool") := fun C H O di ow x k => by
  have k : x = .bl i := k
  subst k
  exact .base (.bl i)
theorem tyd_ins {c : Nat} {ns : List Str} (i : Inst F W d c ns l) (z : InsC T.K (T.cl c)) : TyD F T W d (.ref (T.cl c)) := fun C H O di ow x k => by
  obtain ⟨a, dx, fs, e, h1, h2, h3⟩ := i.at di ow k
  subst e
  exact .base (.ins h1 z.cl z.ha z.hn z.htk z.hm)
theorem isi_str {R : D → Om → Prop} {s : Str} (r : R (.bl true) W) : Ca F T (rIsi T.K) [.str s, .vl (.ty "str")] W R := ca_isi (.ty "str") tyd_str (by unfold PySem.W.kitOne; rfl) r
theorem isi_ins {c : Nat} {ns : List Str} (i : Inst F W d c ns l) (z : InsC T.K (T.cl c)) (r : R (.bl true) W) : Ca F T (rIsi T.K) [d, .adr (T.cl c)] W R := ca_isi (.own _) (tyd_ins i z) z.me r

/-! ### texts -/
theorem bo_addS {x y : Str} (hl : x.length + y.length ≤ sizeLine) (r : R (.str (x ++ y)) W) : Bo F T (fun x y H Q => ∃ i j, x = .str i ∧ y = .str j ∧ i.length + j.length ≤ sizeLine ∧ Q (.str (i ++ j)) H) (.str x) (.str y) W R :=
  op_sc fun H Q k => ⟨x, y, rfl, rfl, hl, k _ r⟩
theorem ev_fmt (h : Ev F T te G W fun d W1 => ∃ y : Str, d = .str y ∧ y.length ≤ sizeLine ∧ R (.str y) W1) : Ev F T (tFmt te) G W R := fun C H O σ w Q q =>
  h C H O σ w _ fun d W1 H1 O1 x ⟨y, e, hl, r⟩ n k => by
    subst e
    have k : x = .str y := k
    exact .inl ⟨y, k, hl, q _ W1 H1 O1 _ r n rfl⟩
theorem ev_fmtI (h : Ev F T te G W fun d W1 => ∃ i : Int, d = .int i ∧ i.natAbs.log2 < 1920 ∧ R (.str (Str.ofString (toString i))) W1) : Ev F T (tFmt te) G W R := fun C H O σ w Q q =>
  h C H O σ w _ fun d W1 H1 O1 x ⟨y, e, hl, r⟩ n k => by
    subst e
    have k : x = .int y := k
    exact .inr ⟨y, k, hl, q _ W1 H1 O1 _ r n rfl⟩
/-- the parts of an f-string -/
def EvJ (F : FmKit) (T : Kx) : List TE → Str → Gm → Om → (Str → Om → Prop) → Prop
  | [], acc, _, W, Y => Y acc W
  | te :: ts, acc, G, W, Y => Ev F T te G W fun d W1 => ∃ y : Str, d = .str y ∧ (acc ++ y).length ≤ sizeLine ∧ EvJ F T ts (acc ++ y) G W1 Y
theorem EvJ.run {Y : Str → Om → Prop} : ∀ {ts : List TE} {acc : Str} {W : Om} {H O : Hp}, EvJ F T ts acc G W Y → Wd F T C G W H O σ → ∀ Q : Str → Hp → Prop, (∀ z W' H' O', Y z W' → Nx F T C W' H H' O' → Q z (ov O' H')) → tJs ts acc σ (ov O H) Q
  | [], acc, W, H, O, h, w, Q, q => q acc W H O h w.nx
  | te :: ts, acc, W, H, O, h, w, Q, q => h C H O σ w _ fun d W1 H1 O1 x ⟨y, e, hl, r⟩ n k => by
    subst e
    have k : x = .str y := k
    exact ⟨y, k, hl, EvJ.run r (w.step n) Q fun z W' H' O' yy n2 => q z W' H' O' yy (n.trans n2)⟩
theorem ev_joined {es : List TE} (h : EvJ F T es Str.empty G W fun z W' => R (.str z) W') : Ev F T (fun σ H Q => tJs es Str.empty σ H fun out H1 => Q (.str out) H1) G W R := fun C H O σ w Q q =>
  h.run w _ fun z W' H' O' y n => q _ W' H' O' _ y n rfl

/-! ### tuples joined -/
theorem bo_catA {xs ys : List D} (hl : xs.length + ys.length ≤ sizeLine) (r : R (.tup (xs ++ ys)) W) : Bo F T (rCatA T.K) (.tup xs) (.tup ys) W R := fun C H O di oc ow x y hx hy Q q => by
  obtain ⟨a, us, ex, hs, kl⟩ := hx
  obtain ⟨b, vs, ey, ht, km⟩ := hy
  have n := Nx.refl di oc ow
  refine ⟨a, b, us, vs, ex, ey, Same.sqT di.same hs, Same.sqT di.same ht, by rw [kl.len, km.len]; exact hl, fun e => ?_, fun _ e => ?_, fun _ _ p hp => ?_⟩
  · subst e
    have e : xs = [] := by
      have := kl.len
      simpa using this.symm
    subst e
    exact q _ W H O _ r n ⟨b, vs, rfl, ht, km⟩
  · subst e
    have e : ys = [] := by
      have := km.len
      simpa using this.symm
    subst e
    exact q _ W H O _ r n ⟨a, us, rfl, hs, by rw [List.append_nil]; exact kl⟩
  · obtain ⟨n2, e2, s2⟩ := n.newF (o := .tup (us ++ vs)) hp
    rw [e2]
    exact q _ W _ O _ r n2 ⟨p, _, rfl, SqT.of upd_same, (kl.mono s2).app (km.mono s2)⟩

/-! ### a table of the module -/
theorem bo_knin {dd : Addr} {z : Str} {r0 : Option Value} (e : PySem.W.nsIn T.K dd z = some r0) (r : R (.bl (!r0.isSome)) W) :
    Bo F T (fun x y H Q => ∃ (z : Str) (r : Option Value), x = .str z ∧ y = .ref dd ∧ PySem.W.nsIn T.K dd z = some r ∧ Q (.bl (!r.isSome)) H) (.str z) (.adr dd) W R := op_sc fun H Q k => ⟨z, r0, rfl, rfl, e, k _ r⟩
theorem bo_kix {w : World} {dd : Addr} {z : Str} {v : V} (e : KDct T.K w dd z v) (r : R (.vl v) W) : Bo F T (rIxD T.K w) (.adr dd) (.str z) W R := op_sc fun H Q k => ⟨dd, z, v, rfl, rfl, e, k _ r⟩

/-! ### sorted(d) -/
theorem keys_inr {kvs : List (Key × V)} {ps : List (Key × D)} {ks : List Str} (h : kvs.map (·.1) = ps.map (·.1)) (k : ps.map (·.1) = ks.map Sum.inr) : kvs.map (·.1) = ks.map Sum.inr := h.trans k
theorem ca_sortedD {ps : List (Key × D)} {ks : List Str} (hv : Vd W d ps) (hk : ps.map (·.1) = ks.map Sum.inr) (hl : ks.length < 64) (r : ∀ ys : List Str, ys.Perm ks → sortedS ys = true → R (.lst (ys.map D.str)) W) :
    Ca F T (fun xs H Q => ∃ (a : Addr) (kvs : List (Key × V)) (ks : List Str), xs = [.ref a] ∧ Rd H a (.dK kvs) ∧ kvs.map (·.1) = ks.map Sum.inr ∧ ks.length < 64 ∧
      ∀ ys p, ys.Perm ks → sortedS ys = true → H p = none → Q (.ref p) (upd H p (.lst (ys.map V.str)))) [d] W R := ca_one fun C H O di oc ow x k Q q => by
  obtain ⟨a, kvs, e, h1, h2, h3, h4⟩ := hv.at di ow k
  refine ⟨a, kvs, ks, by rw [e], .inl h1, h2.trans hk, hl, fun ys p hp hs hn => ?_⟩
  obtain ⟨n2, e2, s2⟩ := (Nx.refl (F := F) (T := T) di oc ow).newF (o := .lst (ys.map V.str)) hn
  rw [e2]
  refine q _ W _ O _ (r ys hp hs) n2 ⟨p, _, rfl, upd_same, ?_⟩
  have := DenL.vls (F := F) (T := T) (H := upd H p (.lst (ys.map V.str))) (ys.map V.str)
  rw [List.map_map] at this
  exact this

/-! ### dicts of bools compared -/
def eqDB (ks ls : List (Key × Bool)) : Bool := ks.all fun p => decide (getG ls p.1 = some p.2)
def blV (ks : List (Key × Bool)) : List (Key × V) := ks.map fun p => (p.1, V.bl p.2)
theorem valV_bl {k : Key} : ∀ {ls : List (Key × Bool)}, valV (blV ls) k = (getG ls k).map V.bl
  | [] => rfl
  | (j, b) :: r => by
    have ih := valV_bl (k := k) (ls := r)
    unfold valV getG blV at *
    rw [List.map_cons, List.find?_cons, List.find?_cons]
    by_cases h : j = k
    · simp [h]
    · simp only [h, decide_false]
      exact ih
theorem bl_of {b : Bool} {u : Value} (h : RelV (.bl b) u) : u = .bool b := h
theorem hits_bl {A : Around} {s : Shared} {ls : List (Key × Bool)} {vb : List (Key × Value)} (rb : KV (blV ls) vb) : ∀ {ks : List (Key × Bool)} {va : List (Key × Value)} (ra : KV (blV ks) va), PySem.W.KeqHits A s vb va (eqDB ks ls)
  | [], va, ra => by
    cases ra
    exact .nil
  | (k, b) :: ks, va, ra => by
    cases ra with
    | @cons _ q _ qs h t =>
      obtain ⟨h1, h2⟩ := h
      obtain ⟨k', v⟩ := q
      have h1 : k = k' := h1
      subst h1
      have h2 : v = .bool b := bl_of h2
      subst h2
      have ih := hits_bl (A := A) (s := s) rb (ks := ks) t
      have rr : RelO (valV (blV ls) k) (valueAt vb k) := rb.val k
      rw [valV_bl] at rr
      cases e : getG ls k with
      | none =>
        rw [e] at rr
        have hn : valueAt vb k = none := by
          cases hv : valueAt vb k with
          | none => rfl
          | some y =>
            rw [hv] at rr
            exact absurd rr (by intro z; cases z)
        have : eqDB ((k, b) :: ks) ls = false := by simp [eqDB, e]
        rw [this]
        exact .miss hn
      | some b' =>
        rw [e] at rr
        obtain ⟨y, hy, ry⟩ := rr.some_of
        have ry : y = .bool b' := bl_of ry
        subst ry
        have : eqDB ((k, b) :: ks) ls = (PyData.eqv (.bool b) (.bool b') && eqDB ks ls) := by
          have e3 : PyData.eqv (.bool b) (.bool b') = decide (some b' = some b) := by cases b <;> cases b' <;> decide
          rw [e3]
          simp [eqDB, e]
        rw [this]
        exact .hit hy (PySem.W.keq_flat (.bool b) (.bool b')) ih
def rNeDB : R2 := fun x y H Q => ∃ a b ks ls, x = .ref a ∧ y = .ref b ∧ H a = some (.dK (blV ks)) ∧ H b = some (.dK (blV ls)) ∧ ks.length = ls.length ∧ Q (.bl (!eqDB ks ls)) H
theorem op_ne_dictB {X : Cx} (hu : X.A.units < cLine) : OpR X (compareOp .NotEq) rNeDB := by
  intro pins s σ H x y v u Q I rx ry h
  obtain ⟨a, b, ks, ls, rfl, rfl, ea, eb, hlen, q⟩ := h
  obtain rfl : v = Value.ref a := rx
  obtain rfl : u = Value.ref b := ry
  obtain ⟨_, ya, va, ra, da⟩ := (show ObjOk X.prog X.w H s.heap a (.dK (blV ks)) from I.hok a _ ea)
  obtain ⟨_, yb, vb, rb, db⟩ := (show ObjOk X.prog X.w H s.heap b (.dK (blV ls)) from I.hok b _ eb)
  have hl : va.length = vb.length := by
    rw [← ra.length, ← rb.length]
    simp [blV, hlen]
  exact PySem.W.keq_ne (knd := mixKind X.prog X.w) (r := eqDB ks ls) ya yb da db hu (fun _ => hits_bl rb ra) (fin_bl I q (by simp [hl]))
@[reducible] def blD (ks : List (Key × Bool)) : List (Key × D) := ks.map fun p => (p.1, D.bl p.2)
theorem blV_of : ∀ {ks : List (Key × Bool)} {kvs : List (Key × V)}, kvs.map (·.1) = (blD ks).map (·.1) → DenL F T H ((blD ks).map (·.2)) (kvs.map (·.2)) → kvs = blV ks
  | [], [], _, _ => rfl
  | [], _ :: _, h, _ => by simp at h
  | _ :: _, [], h, _ => by simp at h
  | (k, b) :: ks, (j, v) :: kvs, h, ⟨w, r, e, k1, k2⟩ => by
    simp only [blD, List.map_cons, List.cons.injEq] at h e
    obtain ⟨e1, e2⟩ := e
    obtain ⟨h1, h2⟩ := h
    subst e1 e2
    have k1 : v = .bl b := k1
    have ih := blV_of (ks := ks) h2 k2
    subst k1 ih h1
    rfl
theorem bo_neDB {d1 d2 : D} {ks ls : List (Key × Bool)} (h1 : Vd W d1 (blD ks)) (h2 : Vd W d2 (blD ls)) (hl : ks.length = ls.length) (r : R (.bl (!eqDB ks ls)) W) : Bo F T rNeDB d1 d2 W R := fun C H O di oc ow x y hx hy Q q => by
  obtain ⟨a, kvs, e1, a1, a2, a3, a4⟩ := h1.at di ow hx
  obtain ⟨b, lvs, e2, b1, b2, b3, b4⟩ := h2.at di ow hy
  rw [blV_of a2 a4] at a1
  rw [blV_of b2 b4] at b1
  exact ⟨a, b, ks, ls, e1, e2, a1, b1, hl, q _ W H O _ r (.refl di oc ow) rfl⟩
end
end N
set_option Elab.async false
set_option linter.all false
set_option maxRecDepth 100000
set_option maxHeartbeats 4000000
/-! Sets of texts: made of a list or of a text, in, sorted. -/
namespace N
open PySem PySem.Spec PyProof.Rows L2

def txOf (e : Int × Value) : Str := match e.2 with
  | .str k _ => k
  | _ => Str.empty
def GoodT (w : World) (e : Int × Value) : Prop := ∃ k tk, e.2 = Value.str k tk ∧ e.1 = hashStr w k
/-- the set of texts at a -/
def SetT (w : World) (h : Heap) (a : Addr) (M : Str → Bool) (n : Nat) : Prop :=
  ∃ o es ep t, h.get? a = some o ∧ o.ExactSet ∧ o.data = .set es ep t ∧ (∀ e ∈ es.toList, GoodT w e) ∧ (es.toList.map txOf).Nodup ∧ (∀ k, M k = true ↔ k ∈ es.toList.map txOf) ∧
    es.size < scanBound ∧ t.fits es.size = true ∧ es.size = n ∧ Ris t.place.toList ∧ (w.params.followText "set-order" = true ∨ t.led = true)
section
variable {P : Program} {w : World} {h h' : Heap} {a : Addr} {M : Str → Bool} {n : Nat}
theorem SetT.at (R : SetT w h a M n) (k : ∀ o, h.get? a = some o → h'.get? a = some o) : SetT w h' a M n := let ⟨o, es, ep, t, ho, r⟩ := R; ⟨o, es, ep, t, k o ho, r⟩
theorem SetT.lt (R : SetT w h a M n) : a < h.objs.size := let ⟨_, _, _, _, ho, _⟩ := R; Heap.lt_size ho
theorem SetT.congr {M' : Str → Bool} (R : SetT w h a M n) (e : ∀ k, M' k = M k) : SetT w h a M' n := (funext e : M' = M) ▸ R
theorem goodT_elems {l : List (Int × Value)} (g : ∀ e ∈ l, GoodT w e) : ElemsOf (strKind P w) l := fun e he => by
  obtain ⟨k, tk, h1, h2⟩ := g e he
  refine ⟨⟨k, ?_, h2⟩, by rw [h1]; rfl⟩
  rw [h1]
  exact strKind_is P w k tk
theorem goodT_is {e : Int × Value} (g : GoodT w e) (k : Str) : (strKind P w).is k e.2 = true ↔ txOf e = k := by
  obtain ⟨k0, tk, h1, _⟩ := g
  unfold txOf
  rw [h1]
  constructor
  · intro h
    obtain ⟨u, hu⟩ := Value.isStrOf_shape (show Value.isStrOf k (Value.str k0 tk) = true from h)
    injection hu
  · intro h
    have h : k0 = k := h
    subst h
    exact strKind_is P w _ _
theorem goodT_mem {l : List (Int × Value)} (g : ∀ e ∈ l, GoodT w e) (k : Str) : k ∈ l.map txOf ↔ ∃ e ∈ l, (strKind P w).is k e.2 = true := by
  rw [List.mem_map]
  exact ⟨fun ⟨e, he, q⟩ => ⟨e, he, (goodT_is (g e he) k).2 q⟩, fun ⟨e, he, q⟩ => ⟨e, he, (goodT_is (g e he) k).1 q⟩⟩
theorem SetT.setOf (R : SetT w h a M n) : h.SetOf (strKind P w) a M n := by
  obtain ⟨o, es, ep, t, ho, hx, hd, g, nd, hm, hb, hf, hn, _⟩ := R
  exact ⟨o, es, ep, t, ho, hx, hd, goodT_elems g, fun k => (hm k).trans (goodT_mem g k), hb, hf, hn⟩
end
section
variable {P : Program} {w : World} {A : Around} {E : Value → Shared → Prop} {s : Shared} {a : Addr} {M : Str → Bool} {n : Nat}
theorem setT_tail {g : Bool → Sem Unit} (hg : ∀ (b : Bool) (z : Shared) (Z : Unit → Shared → Prop), Z () z → wpAny (model P w) A (g b) Z E z)
    {o : Obj} {es : Array (Int × Value)} {ep : Nat} {t : SetTable} (ho : s.heap.get? a = some o) (hex : o.ExactSet) (hd : o.data = .set es ep t)
    {es1 : Array (Int × Value)} {t2 : SetTable} {M' : Str → Bool} (g1 : ∀ e ∈ es1.toList, GoodT w e) (nd1 : (es1.toList.map txOf).Nodup) (m1 : ∀ k, M' k = true ↔ k ∈ es1.toList.map txOf)
    (hb1 : es1.size < scanBound) (hf2 : t2.fits es1.size = true) (hr : Ris t2.place.toList) (hl : w.params.followText "set-order" = true ∨ t2.led = true) {wd : Bool} {R : Option Bool → Shared → Prop}
    (hR : ∀ h', Heap.SameBut a s.heap h' → SetT w h' a M' es1.size → R (some true) { s with heap := h' }) :
    wpAny (model P w) A (do
        storeSet a es1 t2
        if (!wd && t2.tooFull) = true then do
            g (relayAll t2 es1 (SetTable.grown es1.size)).2.2
            storeSet a (relayAll t2 es1 (SetTable.grown es1.size)).1 (relayAll t2 es1 (SetTable.grown es1.size)).2.1
            pure (some true)
          else pure (some true)) R E s := by
  refine wpAny_bind (wpAny_storeSet_of ho hd ?_ (fits_of_scanBound hb1))
  have o1 := store_at (es' := es1) (t' := t2) ho hd
  have b1 := Heap.SameBut.update s.heap a (Obj.putSet es1 t2)
  split
  · have pm := relayAll_perm t2 es1 (SetTable.grown es1.size)
    have f3 := relayAll_fits t2 es1 (SetTable.grown es1.size)
    have r3 := relayAll_ris t2 es1 (SetTable.grown es1.size)
    have l3 := relayAll_led t2 es1 (SetTable.grown es1.size)
    generalize relayAll t2 es1 (SetTable.grown es1.size) = Y at pm f3 r3 l3 ⊢
    obtain ⟨es2, t3, gave⟩ := Y
    dsimp only at pm f3 r3 l3 ⊢
    have hz : es2.size = es1.size := by rw [← Array.length_toList, pm.length_eq, Array.length_toList]
    have b2 : es2.size < scanBound := hz ▸ hb1
    refine wpAny_bind (hg _ _ _ (wpAny_bind (wpAny_storeSet_of o1 rfl (wpAny_pure (hR _ (b1.trans (Heap.SameBut.update _ a _)) ?_)) (fits_of_scanBound b2))))
    exact ⟨_, es2, _, t3, store_at (es' := es2) (t' := t3) o1 rfl, hex, rfl, fun e he => g1 e (pm.mem_iff.mp he), (pm.map txOf).nodup_iff.mpr nd1, fun k => (m1 k).trans (pm.map txOf).mem_iff.symm, b2, f3, hz, r3, hl.imp id fun z => l3.trans z⟩
  · exact wpAny_pure (hR _ b1 ⟨_, es1, _, t2, o1, hex, rfl, g1, nd1, m1, hb1, hf2, rfl, hr, hl⟩)
theorem setT_add_hashed {k : Str} {tk : Tok} {Q : Bool → Shared → Prop} (R : SetT w s.heap a M n) (room : n + 1 < scanBound)
    (hQ : ∀ h', Heap.SameBut a s.heap h' → SetT w h' a (fun j => M j || decide (j = k)) (if M k = true then n else n + 1) → Q (!M k) { s with heap := h' }) :
    wpAny (model P w) A (setAddHashed a (.str k tk) ((strKind P w).hash k)) Q E s := by
  obtain ⟨o, es, ep, t, ho, hex, hd, g, nd, hm, hb, hf, hn, hr, hl⟩ := R
  have hk : (strKind P w).is k (.str k tk) = true := strKind_is P w k tk
  have sc : (Value.str k tk).scannable = true := rfl
  have hel : ElemsOf (strKind P w) es.toList := goodT_elems g
  unfold setAddHashed setAddHashedIn
  refine wpAny_holding (wpAny_bind (wpAny_setState_of ho hd hf ?_))
  dsimp only
  rw [byScan_of sc hb hel]
  simp only [↓reduceIte]
  unfold setAddByScan
  refine wpAny_bind (wpAny_bind (wpAny_rule (wpAny_bind (wpAny_setScan_of hk ho hd hf hel ?_))))
  cases hfi : List.findIdx? (fun e => (strKind P w).is k e.2) es.toList with
  | some j =>
    dsimp only
    obtain ⟨hj, pj, _⟩ := List.findIdx?_eq_some_iff_getElem.mp hfi
    have hM : M k = true := (hm k).2 ((goodT_mem (P := P) g k).2 ⟨es.toList[j], List.getElem_mem hj, pj⟩)
    refine wpAny_pure (wpAny_pure ?_)
    have q := hQ s.heap (Heap.SameBut.refl a s.heap) ⟨o, es, ep, t, ho, hex, hd, g, nd, fun i => by
      rw [Bool.or_eq_true, decide_eq_true_eq, ← hm i]
      exact ⟨fun z => z.elim id (fun e => e ▸ hM), .inl⟩, hb, hf, by rw [if_pos hM]; exact hn, hr, hl⟩
    rw [hM] at q
    exact q
  | none =>
    dsimp only
    have nk : k ∉ es.toList.map txOf := fun z => by
      obtain ⟨e, he, q⟩ := (goodT_mem (P := P) g k).1 z
      have c := List.findIdx?_eq_none_iff.mp hfi e he
      rw [q] at c
      cases c
    have hM : M k = false := by
      cases q : M k with
      | false => rfl
      | true => exact absurd ((hm k).1 q) nk
    have gw : ∀ (b : Bool) {z : Shared} {Z : Unit → Shared → Prop}, Z () z → wpAny (model P w) A (match b with | true => rule "set.scan.the-table-gave-way" | false => pure ()) Z E z :=
      fun b z Z q => by cases b <;> first | exact wpAny_pure q | exact wpAny_rule q
    have pm := layNew_perm t es ((strKind P w).hash k) (.str k tk)
    have f1 := layNew_fits t es ((strKind P w).hash k) (.str k tk)
    have r1 := layNew_ris t es ((strKind P w).hash k) (.str k tk) hr
    have l1 := layNew_led t es ((strKind P w).hash k) (.str k tk)
    generalize layNew t es ((strKind P w).hash k) (.str k tk) = Y at pm f1 r1 l1 ⊢
    obtain ⟨es1, t1, wd, gave⟩ := Y
    dsimp only at pm f1 r1 l1 ⊢
    rw [Array.toList_push] at pm
    have pc : es1.toList.Perm (((strKind P w).hash k, Value.str k tk) :: es.toList) := pm.trans (List.perm_append_singleton _ _)
    have pk : (es1.toList.map txOf).Perm (k :: es.toList.map txOf) := pc.map txOf
    have g1 : ∀ e ∈ es1.toList, GoodT w e := fun e he => by
      rcases List.mem_cons.mp (pc.mem_iff.mp he) with z | z
      · rw [z]; exact ⟨k, tk, rfl, rfl⟩
      · exact g e z
    have nd1 : (es1.toList.map txOf).Nodup := pk.nodup_iff.mpr (List.nodup_cons.mpr ⟨nk, nd⟩)
    have m1 : ∀ i, (M i || decide (i = k)) = true ↔ i ∈ es1.toList.map txOf := fun i => by
      rw [Bool.or_eq_true, decide_eq_true_eq, hm i, pk.mem_iff, List.mem_cons]
      exact Or.comm
    have hz : es1.size = n + 1 := by rw [← Array.length_toList, pc.length_eq, List.length_cons, Array.length_toList, hn]
    have hb1 : es1.size < scanBound := hz ▸ room
    have hled : w.params.followText "set-order" = true ∨ t1.led = true := hl.imp id fun z => l1.trans z
    have fin : ∀ h', Heap.SameBut a s.heap h' → SetT w h' a (fun j => M j || decide (j = k)) es1.size → Q true { s with heap := h' } := fun h' sb r => by
      have q := hQ h' sb
      rw [hM] at q
      rw [hz] at r
      exact q r
    refine wpAny_bind (gw _ ?_)
    split
    · refine wpAny_bind ?_
      rw [hashByValue_scannable 8 sc]
      refine wpAny_pure (setT_tail ?_ ho hex hd g1 nd1 m1 hb1 ?_ ?_ ?_ ?_)
      · intro b z Z q; cases b <;> first | exact wpAny_pure q | exact wpAny_rule q
      · first | (split <;> first | exact f1 | exact SetTable.fits_plain_off f1) | exact f1
      · first | (split <;> exact r1) | exact r1
      · first | (split <;> exact hled) | exact hled
      · intro h' sb r; dsimp only; exact wpAny_pure (fin h' sb r)
    · refine wpAny_bind (wpAny_pure ?_)
      simp only [↓reduceIte]
      refine setT_tail ?_ ho hex hd g1 nd1 m1 hb1 f1 r1 hled ?_
      · intro b z Z q; cases b <;> first | exact wpAny_pure q | exact wpAny_rule q
      · intro h' sb r; dsimp only; exact wpAny_pure (fin h' sb r)
theorem setT_new_at {h : Heap} {ks : List Str} (ho : h.get? a = some { cls := .type "set", dict := none, data := .set #[] 0 (.fresh 0 0 (!w.params.followText "set-order")) }) : SetT w h a (fun j => decide (j ∈ ks.take 0)) 0 :=
  ⟨_, #[], 0, _, ho, ⟨rfl, rfl, rfl⟩, rfl, (fun e he => by simp at he), (by simp), (fun k => by simp), (by decide), (by rfl), rfl, List.Pairwise.nil, by
    show _ ∨ (!w.params.followText "set-order") = true
    cases w.params.followText "set-order"
    · exact .inr rfl
    · exact .inl rfl⟩
theorem setT_loop {I : Addr} {fp wr : List Addr} {G : Array GenState → Array GenState → Prop} {n : Nat} {Pv : Nat → Value → Prop} {St : Nat → Shared → Prop} {R : Result → Shared → Prop}
    (W : WalksS P w A.in1 I fp wr G n Pv St) (Z : Addr) (hZ : Z ∉ fp) (ks : List Str) (hn : n = ks.length) (hb : ks.length + 1 < scanBound) (hval : ∀ i v, Pv i v → ∃ k t, ks[i]? = some k ∧ v = .str k t) :
    ∀ (j i : Nat) (s : Shared), n - i = j → i ≤ n → St i s → (∃ c, c ≤ i ∧ SetT w s.heap Z (fun j => decide (j ∈ ks.take i)) c) →
      (∀ s' c, Moved (Z :: wr) G s s' → c ≤ n → SetT w s'.heap Z (fun j => decide (j ∈ ks)) c → R (.ok (.ret .none)) s') →
      codeAny (model P w) A (.builtin "set.update.loop" ⟨[.ref Z, .ref I], []⟩) R s := by
  have hw : Z ∉ wr := fun h => hZ (W.sub _ h)
  have sub : ∀ b ∈ wr, b ∈ Z :: wr := fun b hb => List.mem_cons_of_mem _ hb
  intro j
  induction j with
  | zero =>
    intro i s hj hi hst ⟨c, hc, hS⟩ hR
    have e : i = n := by omega
    subst e
    refine codeAny_builtin F.entry_set_update_loop ?_
    rw [Around.under_plainId F.plain_set_update_loop _]
    show wpAny _ A.in1 (pyNext (.ref I) >>= _) _ _ s
    refine wpAny_bind (W.done s _ _ hst fun s' hm => (show wpAny _ A.in1 (ret Value.none) _ _ s' from ?_))
    rw [List.take_of_length_le (show ks.length ≤ i by omega)] at hS
    exact wpAny_pure (hR s' c (hm.mono sub) hc (hS.at fun o e => hm.heap Z o hw e))
  | succ j ih =>
    intro i s hj hi hst ⟨c, hc, hS⟩ hR
    have lt : i < n := by omega
    refine codeAny_builtin F.entry_set_update_loop ?_
    rw [Around.under_plainId F.plain_set_update_loop _]
    show wpAny _ A.in1 (pyNext (.ref I) >>= _) _ _ s
    refine wpAny_bind (W.item i s _ _ lt hst fun v s' hP hst' hm => ?_)
    obtain ⟨z, t, hz, rfl⟩ := hval i v hP
    have hS' : SetT w s'.heap Z (fun j => decide (j ∈ ks.take i)) c := hS.at fun o e => hm.heap Z o hw e
    show wpAny _ A.in1 (holding [Value.str z t] (setAdd Z (.str z t)) >>= _) _ _ s'
    unfold setAdd
    refine wpAny_bind (wpAny_holding (wpAny_holding (wpAny_bind ((strKind P w).pyHash (k := z) (strKind_is _ _ _ _) ?_))))
    refine setT_add_hashed (s := { s' with toks := s'.toks + 1 }) hS' (by omega) fun h' sb hS2 => ?_
    have hS3 : SetT w h' Z (fun j => decide (j ∈ ks.take (i + 1))) (if decide (z ∈ ks.take i) = true then c else c + 1) := hS2.congr fun j => by
      rw [List.take_add_one, hz]
      simp [List.mem_append]
    have hc3 : (if decide (z ∈ ks.take i) = true then c else c + 1) ≤ i + 1 := by split <;> omega
    refine wpAny_pure ⟨plainId_quiet F.plain_set_update_loop _, ih (i + 1) _ (by omega) lt (W.frame _ s' _ _ hst' (Nat.le_succ _) fun b hb o e => ?_) ⟨_, hc3, hS3⟩ fun s'' c2 m2 hc2 hS4 => ?_⟩
    · rw [sb.2 b (fun h : b = Z => hZ (by rw [← h]; exact hb))]; exact e
    · refine hR s'' c2 (Moved.trans W.gtrans ((hm.mono sub).then_heap (Nat.le_succ _) fun b o hb e => ?_) m2) hc2 hS4
      rw [sb.2 b (fun h : b = Z => hb (by rw [h]; exact List.mem_cons_self))]; exact e
end
end N
set_option Elab.async false
set_option linter.all false
set_option maxRecDepth 100000
set_option maxHeartbeats 4000000
/-! set(x) of a list of texts or of a text; sorted of a set of texts; over the layer. -/
namespace N
open PySem PySem.Spec PyProof.Rows L2
section
variable {P : Program} {w : World} {A : Around} {E : Value → Shared → Prop} {s : Shared}
abbrev newSetObj (w : World) : Obj := { cls := .type "set", dict := none, data := .set #[] 0 (.fresh 0 0 (!w.params.followText "set-order")) }
theorem set_made (x : Value) {Q : Value → Shared → Prop} (hh : A.handled = none)
    (up : ∀ (A' : Around) (Z : Unit → Shared → Prop), A'.handled = none → (∀ (h' : Heap) (tk : Nat), (∀ b o, s.heap.get? b = some o → h'.get? b = some o) → Q (.ref s.heap.objs.size) { s with heap := h', toks := tk } → Z () { s with heap := h', toks := tk }) →
      wpAny (model P w) A' (Builtin.Frozenset.updateFrom "set.__init__" s.heap.objs.size x) Z E { s with heap := s.heap.push (newSetObj w) }) :
    wpAny (model P w) A (call (.type "set") [x]) Q E s := by
  obtain ⟨c, tl, hmro⟩ := F.called_set.mro
  have hmade := F.called_set.made
  have hsub := F.called_set.sub
  refine wpAny_call (codeAny_of_tree ?_)
  show wpAny _ _ (callAny (.type "set") _) _ _ _
  refine wpAny_pure ⟨Code.quiet_builtin _ (by decide +kernel), codeAny_builtin F.entry_type_call ?_⟩
  rw [Around.under_plain (weight_type_call_type "set" [x] []) rfl]
  have h1 := F.called_set.notType
  have h2 := F.called_set.canCreate
  have hct := F.typeCall_set_1 x
  repeat (any_goals (first | assumption | wp_step))
  refine codeAny_mono (code_set_led1 x (E := E) (Q₁ := fun obj z => obj = .ref s.heap.objs.size ∧ z = { s with heap := s.heap.push (newSetObj w) }) ⟨rfl, rfl⟩) fun r z hr => ?_
  cases r with
  | error e => exact hr
  | ok fl =>
    cases fl with
    | ret obj =>
      obtain ⟨rfl, rfl⟩ := hr
      have hS : (s.heap.push (newSetObj w)).get? s.heap.objs.size = some (newSetObj w) := Heap.get?_push_size _ rfl
      have hT : Shared.TypeIs { s with heap := s.heap.push (newSetObj w) } (.ref s.heap.objs.size) "set" := ⟨_, hS, rfl⟩
      have hli := F.called_set.init.lookup
      have hbi := F.called_set.init.bind (.ref s.heap.objs.size)
      repeat (any_goals (first | assumption | wp_step))
      refine codeAny_mono (codeAny_call_builtin (R := wants (fun r z => r = .none ∧ ∃ h' tk, z = { s with heap := h', toks := tk } ∧ (∀ b o, s.heap.get? b = some o → h'.get? b = some o) ∧ Q (.ref s.heap.objs.size) z) E) F.called_set.init.plain F.entry_set_init (check_set_init_1 hT ?_)) fun r2 z2 hr2 => ?_
      · unfold Builtin.«set.__init__» noKeywords
        generalize hU : Builtin.Frozenset.updateFrom = U
        wp_walk
        subst hU
        refine up _ _ (by first | exact hh | simp [hh]) fun h' tk k q => ?_
        show wpAny _ _ (ret Value.none) _ _ _
        exact wpAny_pure ⟨rfl, h', tk, rfl, k, q⟩
      · cases r2 with
        | error e => exact hr2
        | ok fl2 =>
          cases fl2 with
          | ret r =>
            obtain ⟨rfl, h', tk, rfl, hk', hq⟩ := hr2
            repeat (any_goals (first | assumption | wp_step))
          | _ => exact hr2.elim
    | _ => exact hr.elim
end
end N
set_option Elab.async false
set_option linter.all false
set_option maxRecDepth 100000
set_option maxHeartbeats 4000000
namespace N
open PySem PySem.Spec PyProof.Rows L2
section
variable {P : Program} {w : World} {A : Around} {E : Value → Shared → Prop} {s : Shared}
theorem strsAre_get : ∀ {us : List Value} {xs : List Str}, StrsAre us xs → ∀ (i : Nat) (v : Value), us[i]? = some v → ∃ k t, xs[i]? = some k ∧ v = .str k t
  | _, _, .nil, i, v, h => by simp at h
  | _, _, .cons x t r, 0, v, h => ⟨x, t, rfl, (Option.some.inj h).symm⟩
  | _, _, .cons x t r, i + 1, v, h => strsAre_get r i v h
theorem set_of_strs {l : Addr} {items : Array Value} (ks : List Str) {Q : Value → Shared → Prop} (hh : A.handled = none) (hl : s.heap.IsList l items) (hit : StrsAre items.toList ks) (hb : ks.length + 1 < scanBound)
    (h : ∀ (h' : Heap) (tk c : Nat), SetT w h' s.heap.objs.size (fun j => decide (j ∈ ks)) c → c ≤ ks.length → (∀ b o, s.heap.get? b = some o → h'.get? b = some o) → Q (.ref s.heap.objs.size) { s with heap := h', toks := tk }) :
    wpAny (model P w) A (call (.type "set") [.ref l]) Q E s := by
  have hz : items.size = ks.length := by rw [← Array.length_toList, StrsAre.length hit]
  refine set_made (.ref l) hh fun A' Z hA fin => ?_
  obtain ⟨ol, hol, hcl, nl, hdl⟩ := hl
  obtain ⟨ocls, odict, odata, oslots⟩ := ol
  simp only at hcl hdl
  subst hcl; subst hdl
  have hol2 : (s.heap.push (newSetObj w)).get? l = some { cls := .type "list", dict := odict, data := .seq items nl, slots := oslots } := Heap.get?_push_of_some _ hol
  have hT : Shared.TypeIs { s with heap := s.heap.push (newSetObj w) } (.ref l) "list" := ⟨_, hol2, rfl⟩
  have hl1 : (s.heap.push (newSetObj w)).IsList l items := ⟨_, hol2, rfl, nl, rfl⟩
  have hS : (s.heap.push (newSetObj w)).get? s.heap.objs.size = some (newSetObj w) := Heap.get?_push_size _ rfl
  have q1 := F.sub_list_set
  have q2 := F.sub_list_frozenset
  have q3 : (Value.type "list" == Value.type "dict") = false := by decide
  unfold Builtin.Frozenset.updateFrom
  generalize hPI : pyIter = PI
  wp_walk
  subst hPI
  refine wpAny_pyIter_list hl1 ?_
  refine wpAny_bind (wpAny_runValue ?_)
  have hlS : l < s.heap.objs.size := Heap.lt_size hol
  have hA3 : A'.in1.handled = none := by simp [hA]
  have neI : l ≠ (s.heap.push (newSetObj w)).objs.size := by
    rw [Heap.size_push]; exact Nat.ne_of_lt (Nat.lt_succ_of_lt hlS)
  have nf : s.heap.objs.size ∉ [(s.heap.push (newSetObj w)).objs.size, l] := by
    rw [Heap.size_push]; simp only [List.mem_cons, List.mem_singleton, List.not_mem_nil, or_false, not_or]
    exact ⟨Nat.ne_of_lt (Nat.lt_succ_self _), Nat.ne_of_gt hlS⟩
  have hval : ∀ (i : Nat) (v : Value), items[i]? = some v → ∃ k t, ks[i]? = some k ∧ v = .str k t := fun i v hv => strsAre_get hit i v (by rw [Array.getElem?_toList]; exact hv)
  refine setT_loop ((Walks.list hA3 _ l neI items).toS) s.heap.objs.size nf ks hz hb hval (items.size - 0) 0 _ (by omega) (Nat.zero_le _)
    ⟨⟨_, Heap.get?_push_size _ rfl, rfl, rfl⟩, (hl1.push _)⟩ ⟨0, Nat.le_refl 0, setT_new_at (Heap.get?_push_of_some _ hS)⟩ fun s' c hm hc hM => ?_
  obtain ⟨h', g2, d', tk', os'⟩ := s'
  have eg : g2 = s.gens := hm.gens
  have ed : d' = s.drawn := hm.drawn
  have eo : os' = s.os := hm.os
  subst eg; subst ed; subst eo
  show wpAny _ _ _ _ _ _
  have k : ∀ b o, s.heap.get? b = some o → h'.get? b = some o := fun b o e => by
    have hb0 : b < s.heap.objs.size := Heap.lt_size e
    refine hm.heap b o ?_ (Heap.get?_push_of_some _ (Heap.get?_push_of_some _ e))
    rw [Heap.size_push]
    simp only [List.mem_cons, List.mem_singleton, List.not_mem_nil, or_false, not_or]
    exact ⟨Nat.ne_of_lt hb0, Nat.ne_of_lt (Nat.lt_succ_of_lt hb0)⟩
  exact wpAny_pure (fin h' tk' k (h h' tk' c hM (hz ▸ hc) k))
def signs (x : Str) : List Str := x.cps.toList.map fun c => ⟨#[c]⟩
theorem set_of_text {x : Str} {t : Tok} {Q : Value → Shared → Prop} (hh : A.handled = none) (hb : x.length + 1 < scanBound)
    (h : ∀ (h' : Heap) (tk c : Nat), SetT w h' s.heap.objs.size (fun j => decide (j ∈ signs x)) c → c ≤ x.length → (∀ b o, s.heap.get? b = some o → h'.get? b = some o) → Q (.ref s.heap.objs.size) { s with heap := h', toks := tk }) :
    wpAny (model P w) A (call (.type "set") [.str x t]) Q E s := by
  have hz : x.cps.size = (signs x).length := by unfold signs; rw [List.length_map, Array.length_toList]
  refine set_made (.str x t) hh fun A' Z hA fin => ?_
  have hS : (s.heap.push (newSetObj w)).get? s.heap.objs.size = some (newSetObj w) := Heap.get?_push_size _ rfl
  have q1 := F.sub_str_set
  have q2 := F.sub_str_frozenset
  have q3 : (Value.type "str" == Value.type "dict") = false := by decide
  unfold Builtin.Frozenset.updateFrom
  generalize hPI : pyIter = PI
  wp_walk
  subst hPI
  refine wpAny_pyIter_str fun o St W hst => ?_
  refine wpAny_bind (wpAny_runValue ?_)
  have hA3 : A'.in1.handled = none := by simp [hA]
  have nf : s.heap.objs.size ∉ [(s.heap.push (newSetObj w)).objs.size] := by
    rw [Heap.size_push]; simp only [List.mem_singleton]
    exact Nat.ne_of_lt (Nat.lt_succ_self _)
  have hval : ∀ (i : Nat) (v : Value), SignAt x i v → ∃ k t, (signs x)[i]? = some k ∧ v = .str k t := fun i v ⟨c, u, hc, e⟩ => by
    refine ⟨⟨#[c]⟩, u, ?_, e⟩
    unfold signs
    rw [List.getElem?_map, Array.getElem?_toList, hc]
    rfl
  refine setT_loop ((W A'.in1 hA3).toS) s.heap.objs.size nf (signs x) hz (by rw [← hz]; exact hb) hval (x.cps.size - 0) 0 _ (by omega) (Nat.zero_le _)
    hst ⟨0, Nat.le_refl 0, setT_new_at (Heap.get?_push_of_some _ hS)⟩ fun s' c hm hc hM => ?_
  obtain ⟨h', g2, d', tk', os'⟩ := s'
  have eg : g2 = s.gens := hm.gens
  have ed : d' = s.drawn := hm.drawn
  have eo : os' = s.os := hm.os
  subst eg; subst ed; subst eo
  show wpAny _ _ _ _ _ _
  have k : ∀ b o, s.heap.get? b = some o → h'.get? b = some o := fun b o e => by
    have hb0 : b < s.heap.objs.size := Heap.lt_size e
    refine hm.heap b o ?_ (Heap.get?_push_of_some _ (Heap.get?_push_of_some _ e))
    rw [Heap.size_push]
    simp only [List.mem_cons, List.mem_singleton, List.not_mem_nil, or_false, not_or]
    exact ⟨Nat.ne_of_lt hb0, Nat.ne_of_lt (Nat.lt_succ_of_lt hb0)⟩
  exact wpAny_pure (fin h' tk' k (h h' tk' c hM hc k))
theorem sorted_setT {a : Addr} {M : Str → Bool} {n : Nat} {Q : Value → Shared → Prop} (R : SetT w s.heap a M n) (hh : A.handled = none)
    (hQ : ∀ s' p (out : Array Value) (c : Nat) (ks : List Str), (∀ b o, s.heap.get? b = some o → s'.heap.get? b = some o) → s'.gens = s.gens → s'.os = s.os → s.heap.objs.size ≤ p →
      s'.heap.get? p = some (seqObj "list" out c) → StrsAre out.toList ks → sortedS ks = true → ks.Nodup → (∀ k, k ∈ ks ↔ M k = true) → ks.length = n → Q (.ref p) s') :
    wpAny (model P w) A (call (.builtin "sorted") [.ref a]) Q E s := by
  obtain ⟨o, es, ep, t, ho, hex, hd, g, nd, hm, hb, hf, hn, hr, hl⟩ := R
  refine Calls.call_function_entry kind_sorted plain_sorted entry_sorted (args_sorted1 _) ?_
  unfold Builtin.«sorted»
  refine wpAny_bind (m := checkCount "sorted" 1 1 _) (wpAny_pure (wpAny_bind (collect_set (A := A.in1) hh ⟨o, ho, hex.1, hd⟩ hf hb hr hl fun s1 vs k1 hz g1 o1 pm => ?_)))
  have hvl : vs.length = n := by rw [pm.length_eq, List.length_map, Array.length_toList]; exact hn
  have hI : StrsAre vs (vs.map strOf) := strsAre_map vs fun v hv => by
    obtain ⟨e, he, q⟩ := List.mem_map.mp (pm.mem_iff.mp hv)
    obtain ⟨k, tk, h1, _⟩ := g e he
    exact ⟨k, tk, by rw [← q]; exact h1⟩
  have pk : (vs.map strOf).Perm (es.toList.map txOf) := by
    have q := pm.map strOf
    rw [List.map_map] at q
    exact q
  have hs : vs.length ≤ sizeLine := by
    have : scanBound = 4096 := rfl
    rw [sizeLine_eq, hvl, ← hn]
    omega
  refine wpAny_bind (wpAny_newList ?_ hs)
  have hoL : (s1.heap.push (seqObj "list" vs.toArray 0)).get? s1.heap.objs.size = some (seqObj "list" vs.toArray 0) := Heap.get?_push_size _ rfl
  refine wpAny_bind (wpAny_holding (wpAny_call_entry slot_list_sort ⟨_, hoL, rfl⟩ entry_list_sort (list_sort_treeKAny strKind_oneLt hoL hI.keysOf (fun v₁ v₂ rest e => keyKind_strs (by rw [← e]; exact hI)) hs fun st' hp ht => ⟨_, rfl, ?_⟩) (args_list_sort _)))
  obtain ⟨ss, h1, h2, h3⟩ := sorted_out_str hI hp ht
  obtain ⟨c, hc⟩ := sortedHeap_at (vs := vs) (out := (arrOf st').map (·.2)) hoL
  have pn : ss.Perm (es.toList.map txOf) := h2.trans pk
  refine wpAny_pure ⟨_, rfl, hQ _ s1.heap.objs.size _ c ss (fun b u e => ?_) g1 o1 hz hc h1 h3 (pn.nodup_iff.mpr nd) (fun k => by rw [pn.mem_iff, ← hm k]) ?_⟩
  · have q := k1 b u e
    have hlt := Heap.lt_size q
    show (sortedHeap (s1.heap.push (seqObj "list" vs.toArray 0)) s1.heap.objs.size vs _).get? b = some u
    rw [sortedHeap_old (Nat.ne_of_lt hlt) (by rw [size_push']; exact Nat.lt_succ_of_lt hlt)]
    exact Heap.get?_push_of_some _ q
  · rw [pn.length_eq, List.length_map, Array.length_toList]; exact hn
end
end N
set_option Elab.async false
set_option linter.all false
set_option maxRecDepth 100000
set_option maxHeartbeats 4000000
/-! Sets of texts over the layer, sorted(set(..)) as one, "".join. -/
namespace N
open PySem PySem.Spec PyProof.Rows L2
def SetTO (w : World) (a : Addr) (M : Str → Bool) (n : Nat) : HO := .ext fun h => SetT w h a M n
theorem setTO_new {w : World} {P : Program} {H : Hp} {h : Heap} {a : Addr} {M : Str → Bool} {n : Nat} (R : SetT w h a M n) : ObjOk P w H h a (SetTO w a M n) :=
  ⟨R, (let ⟨o, _, _, _, ho, _⟩ := R; ⟨o, ho⟩), fun h1 h2 p k => SetT.at p k⟩
theorem setTO_get {X : Cx} {pins : List (Addr × Obj)} {σ : L2.St} {H : Hp} {s : Shared} {a : Addr} {M : Str → Bool} {n : Nat} (I : Inv X pins σ H s) (ha : H a = some (SetTO X.w a M n)) : SetT X.w s.heap a M n := (I.hok a _ ha).1
def rSetT (K : PySem.W.Frag) (w : World) : List V → Hp → VK → Prop := fun xs H Q => ∃ (v : V) (ks : List Str), xs = [v] ∧ ((∃ l, v = .ref l ∧ SqL K H l (ks.map V.str)) ∨ ∃ x, v = .str x ∧ ks = signs x) ∧ ks.length + 1 < 4096 ∧
  ∀ a c, c ≤ ks.length → H a = none → Q (.ref a) (upd H a (SetTO w a (fun j => decide (j ∈ ks)) c))
theorem cr_setT {X : Cx} (hc : X.calm = true) : CallR X (.type "set") (rSetT X.K X.w) := by
  intro pins s σ H xs us Q I r h
  obtain ⟨v, ks, rfl, hv, hz, q⟩ := h
  have hn : H s.heap.objs.size = none := I.hok.fresh (Nat.le_refl _)
  have fin : ∀ (h' : Heap) (tk c : Nat), SetT X.w h' s.heap.objs.size (fun j => decide (j ∈ ks)) c → c ≤ ks.length → (∀ b o, s.heap.get? b = some o → h'.get? b = some o) → EP X pins σ Q (.ref s.heap.objs.size) { s with heap := h', toks := tk } := fun h' tk c R hc' k =>
    ⟨.ref s.heap.objs.size, upd H s.heap.objs.size (SetTO X.w s.heap.objs.size (fun j => decide (j ∈ ks)) c), I.laid (t' := tk) k (Nat.le_refl _) (setTO_new R), rfl, q _ c hc' hn⟩
  rcases hv with ⟨l, rfl, hl⟩ | ⟨x, rfl, rfl⟩
  · rw [Vals.ref1 r]
    obtain ⟨its, rv, pl, hlen⟩ := I.list hl
    exact set_of_strs (P := X.prog) (w := X.w) ks (I.ok.hd hc) pl.isList (by simpa using rv.strs) hz fin
  · obtain ⟨u, rfl, rx⟩ := vals1 r
    obtain ⟨t, rfl⟩ := rx
    have e : (signs x).length = x.length := by unfold signs; rw [List.length_map, ← str_len]
    rw [e] at hz fin
    exact set_of_text (P := X.prog) (w := X.w) (I.ok.hd hc) hz fin
def rSortedT (w : World) : List V → Hp → VK → Prop := fun xs H Q => ∃ (a : Addr) (M : Str → Bool) (n : Nat), xs = [.ref a] ∧ H a = some (SetTO w a M n) ∧ n ≤ 5000 ∧
  ∀ (ks : List Str) (p : Addr), sortedS ks = true → ks.Nodup → (∀ k, k ∈ ks ↔ M k = true) → ks.length = n → H p = none → Q (.ref p) (upd H p (.lst (ks.map V.str)))
theorem cr_sortedT {X : Cx} (hc : X.calm = true) : CallR X (.builtin "sorted") (rSortedT X.w) := by
  intro pins s σ H vs us Q I r h
  obtain ⟨a, M, n, rfl, ha, hn, q⟩ := h
  have R := setTO_get I ha
  rw [Vals.ref1 r]
  refine sorted_setT R (I.ok.hd hc) fun s' p out c ks k g o hp hg hi hs hd hm hl => ?_
  have hlen : (ks.map V.str).length ≤ sizeLine := by rw [List.length_map, hl, sizeLine_eq]; omega
  have hf : H p = none := I.hok.fresh hp
  have J : Inv X pins σ (upd H p (.lst (ks.map V.str))) { s with heap := s'.heap, gens := s'.gens, drawn := s'.drawn, toks := s'.toks } :=
    I.call (ch := []) (Un.laid k hp hf) (I.hok.laid k hp ⟨hlen, out.toList, c, vals_of_strs hi, hg⟩) (by rw [g]; exact I.bare) (fun _ z => nomatch z)
  have e : s' = { s with heap := s'.heap, gens := s'.gens, drawn := s'.drawn, toks := s'.toks } := by
    cases s'
    cases s
    cases o
    rfl
  rw [e]
  exact ⟨.ref p, _, J, rfl, q ks p hs hd hm hl hf⟩
/-! ### the ascending list without repetition -/
def insS (k : Str) : List Str → List Str
  | [] => [k]
  | m :: r => if k = m then m :: r else if ltS k m then k :: m :: r else m :: insS k r
def ascS (l : List Str) : List Str := l.foldr insS []
theorem mem_insS {k x : Str} : ∀ {l : List Str}, x ∈ insS k l ↔ x = k ∨ x ∈ l
  | [] => by simp [insS]
  | m :: r => by
    unfold insS
    split
    · rename_i e
      subst e
      simp
    · split
      · simp
      · rw [List.mem_cons, mem_insS, List.mem_cons]
        constructor
        · rintro (h | h | h)
          · exact .inr (.inl h)
          · exact .inl h
          · exact .inr (.inr h)
        · rintro (h | h | h)
          · exact .inr (.inl h)
          · exact .inl h
          · exact .inr (.inr h)
theorem mem_ascS {x : Str} : ∀ {l : List Str}, x ∈ ascS l ↔ x ∈ l
  | [] => by simp [ascS]
  | k :: l => by
    show x ∈ insS k (ascS l) ↔ _
    rw [mem_insS, mem_ascS, List.mem_cons]
def AscS (l : List Str) : Prop := l.Pairwise fun a b => ltS a b = true
theorem asc_insS {k : Str} : ∀ {l : List Str}, AscS l → AscS (insS k l)
  | [], _ => by simp [insS, AscS]
  | m :: r, h => by
    obtain ⟨h1, h2⟩ := List.pairwise_cons.mp h
    unfold insS
    split
    · exact h
    · rename_i ne
      split
      · rename_i lt
        refine List.pairwise_cons.mpr ⟨fun y hy => ?_, h⟩
        rcases List.mem_cons.mp hy with e | e
        · rw [e]
          exact lt
        · exact ltS_trans lt (h1 y e)
      · rename_i nl
        refine List.pairwise_cons.mpr ⟨fun y hy => ?_, asc_insS h2⟩
        rcases mem_insS.mp hy with e | e
        · rw [e]
          exact ltS_of (by simpa using nl) (fun q => ne q.symm)
        · exact h1 y e
theorem asc_ascS : ∀ l : List Str, AscS (ascS l)
  | [] => List.Pairwise.nil
  | k :: l => asc_insS (asc_ascS l)
theorem ascS_ext {l m : List Str} (h : AscS l) (k : AscS m) (e : ∀ x, x ∈ l ↔ x ∈ m) : l = m := asc_ext (lt := fun a b => ltS a b = true) (fun a => by rw [ltS_irrefl]; exact Bool.false_ne_true) (fun _ _ _ a b => ltS_trans a b) h k e
theorem ascS_of {l m : List Str} (h : AscS l) (e : ∀ x, x ∈ l ↔ x ∈ m) : l = ascS m := ascS_ext h (asc_ascS m) fun x => by rw [e, mem_ascS]
theorem ascS_sorted {l m : List Str} (hs : sortedS l = true) (nd : l.Nodup) (e : ∀ x, x ∈ l ↔ x ∈ m) : l = ascS m := ascS_of (sorted_all hs nd) e
theorem ascS_congr {l m : List Str} (e : ∀ x, x ∈ l ↔ x ∈ m) : ascS l = ascS m := ascS_of (asc_ascS l) fun x => by rw [mem_ascS, e]
theorem ascS_len (l : List Str) : (ascS l).length ≤ l.length := by
  have ins : ∀ (k : Str) (m : List Str), (insS k m).length ≤ m.length + 1 := fun k m => by
    induction m with
    | nil => simp [insS]
    | cons x r ih =>
      unfold insS
      split
      · simp
      · split
        · simp
        · simp only [List.length_cons]
          omega
  induction l with
  | nil => simp [ascS]
  | cons k l ih =>
    have := ins k (ascS l)
    show (insS k (ascS l)).length ≤ l.length + 1
    omega
theorem nodup_ascS (l : List Str) : (ascS l).Nodup := (asc_ascS l).imp fun h e => by rw [e, ltS_irrefl] at h; cases h
section
variable {F : FmKit} {T : Kx} {C H H' O O' : Hp} {G : Gm} {W W' : Om} {R : D → Om → Prop} {d : D} {w : World} {te to : TE}
theorem den_strs (ks : List Str) : DenL F T H (ks.map D.str) (ks.map V.str) := by
  have := DenL.vls (F := F) (T := T) (H := H) (ks.map V.str)
  rw [List.map_map] at this
  exact this
theorem den_strs_inv {ks : List Str} {xs : List V} (kl : DenL F T H (ks.map D.str) xs) : xs = ks.map V.str := by
  rw [show ks.map D.str = (ks.map V.str).map D.vl by rw [List.map_map]; rfl] at kl
  exact DenL.vls_inv kl
theorem ca_setT {ks : List Str} (hv : Vl W d (ks.map D.str) ∨ ∃ x, d = .str x ∧ ks = signs x) (hz : ks.length < 4000) (r : ∀ p c, p ∉ akeys W → c ≤ ks.length → R (.adr p) ((p, .any (SetTO w p (fun j => decide (j ∈ ks)) c)) :: W)) : Ca F T (rSetT T.K w) [d] W R := ca_one fun C H O di oc ow x k Q q => by
  refine ⟨x, ks, rfl, ?_, by omega, fun p c hc hp => ?_⟩
  · rcases hv with hv | ⟨z, rfl, rfl⟩
    · obtain ⟨a, xs, e, hs, kl⟩ := hv.sq ow di k
      rw [den_strs_inv kl] at hs
      exact .inl ⟨a, e, hs⟩
    · exact .inr ⟨z, k, rfl⟩
  · obtain ⟨n2, e2, np⟩ := (Nx.refl (F := F) (T := T) di oc ow).newO (od := .any (SetTO w p (fun j => decide (j ∈ ks)) c)) (o := SetTO w p (fun j => decide (j ∈ ks)) c) hp rfl
    rw [e2]
    exact q _ _ H _ _ (r p c np hc) n2 rfl
theorem ca_sortedT {p : Addr} {ks : List Str} {c : Nat} (hn : c ≤ 5000) (r : R (.lst ((ascS ks).map D.str)) W) : Ca F T (rSortedT w) [.adr p] ((p, .any (SetTO w p (fun j => decide (j ∈ ks)) c)) :: W) R := ca_one fun C H O di oc ow x k Q q => by
  have k : x = .ref p := k
  have h1 : O p = some (SetTO w p (fun j => decide (j ∈ ks)) c) := (ow.at_ p _ List.mem_cons_self).2
  refine ⟨p, _, c, by rw [k], ov_own h1, hn, fun ys p2 hs nd hm hl hp2 => ?_⟩
  obtain ⟨n2, e2, s2⟩ := (Nx.refl (F := F) (T := T) di oc ow).newF (o := .lst (ys.map V.str)) hp2
  rw [e2]
  have e : ys = ascS ks := ascS_sorted hs nd fun x => by rw [hm]; simp
  refine q _ W _ _ _ r ⟨n2.ext, n2.dis, n2.oc, n2.own.tail⟩ ?_
  rw [e]
  exact ⟨p2, (ascS ks).map V.str, rfl, by rw [← e]; exact upd_same, den_strs _⟩
/-- sep.join(texts) -/
theorem ev_join (h : Ev F T to G W fun d W1 => ∃ a : Str, d = .str a ∧ Ev F T te G W1 fun d2 W2 => ∃ ys : List Str, Vs W2 d2 (ys.map D.str) ∧ (ys.map (·.length)).sum + ys.length * a.length ≤ 16777216 ∧ R (.str (Txt.join a ys)) W2) :
    Ev F T (tM1 (fun x xs H Q => ∃ a p, ∃ ys : List Str, x = .str a ∧ xs = [.ref p] ∧ (SqL T.K H p (ys.map V.str) ∨ SqT T.K H p (ys.map V.str)) ∧ (ys.map (·.length)).sum + ys.length * a.length ≤ 16777216 ∧ Q (.str (Txt.join a ys)) H) to te) G W R := fun C H O σ w Q q =>
  h C H O σ w _ fun d W1 H1 O1 x ⟨a, e, h1⟩ n1 k1 => by
    subst e
    have k1 : x = .str a := k1
    refine ⟨⟨a, k1⟩, h1 C H1 O1 σ (w.step n1) _ fun d2 W2 H2 O2 y ⟨ys, hv, hz, r⟩ n2 k2 => ?_⟩
    obtain ⟨p, xs, e, hs, kl⟩ := hv.sq n2.own n2.dis k2
    rw [den_strs_inv kl] at hs
    exact ⟨a, p, ys, k1, by rw [e], hs, hz, q _ W2 H2 O2 _ r (n1.trans n2) rfl⟩
end
/-! ### signs -/
theorem ltS_sign (a b : Nat) : ltS ⟨#[a]⟩ ⟨#[b]⟩ = decide (a < b) := by simp [ltS, ltCps]
def sg (c : Nat) : Str := ⟨#[c]⟩
theorem sg_inj {a b : Nat} (h : sg a = sg b) : a = b := by
  have : [a] = [b] := congrArg (fun z : Str => z.cps.toList) h
  exact (List.cons.inj this).1
theorem insS_sg (c : Nat) : ∀ l : List Nat, insS (sg c) (l.map sg) = (insN c l).map sg
  | [] => rfl
  | m :: r => by
    rw [List.map_cons, insS, insN]
    by_cases e : c = m
    · subst e
      rw [if_pos rfl, if_pos rfl]
      rfl
    · rw [if_neg (fun h => e (sg_inj h)), if_neg e]
      by_cases lt : c < m
      · rw [if_pos (by rw [show ltS (sg c) (sg m) = decide (c < m) from ltS_sign c m]; simpa using lt), if_pos lt]
        rfl
      · rw [if_neg (by rw [show ltS (sg c) (sg m) = decide (c < m) from ltS_sign c m]; simpa using lt), if_neg lt, insS_sg c r]
        rfl
theorem ascS_sg : ∀ l : List Nat, ascS (l.map sg) = (l.foldr insN []).map sg
  | [] => rfl
  | c :: l => by
    show insS (sg c) (ascS (l.map sg)) = _
    rw [ascS_sg l, insS_sg]
    rfl
theorem join_nil_sg : ∀ l : List Nat, Txt.join "" (l.map sg) = ⟨l.toArray⟩ := fun l => by
  rw [show Txt.join "" (l.map sg) = Str.join "" (l.map sg) from PySem.StrLaws.glued_eq_join _ _]
  induction l with
  | nil => rfl
  | cons a l ih =>
    cases l with
    | nil => rfl
    | cons b r =>
      show (sg a ++ ("" : Str) ++ Str.join "" ((b :: r).map sg)) = _
      rw [ih]
      refine str_ext ?_
      rw [str_app, str_app]
      rfl
theorem insN_mem {c x : Nat} : ∀ {l : List Nat}, x ∈ insN c l ↔ x = c ∨ x ∈ l
  | [] => by simp [insN]
  | m :: r => by
    unfold insN
    split
    · rename_i e
      subst e
      simp
    · split
      · simp
      · rw [List.mem_cons, insN_mem, List.mem_cons]
        constructor
        · rintro (h | h | h)
          · exact .inr (.inl h)
          · exact .inl h
          · exact .inr (.inr h)
        · rintro (h | h | h)
          · exact .inr (.inl h)
          · exact .inl h
          · exact .inr (.inr h)
def ascN (l : List Nat) : List Nat := l.foldr insN []
theorem mem_ascN {x : Nat} : ∀ {l : List Nat}, x ∈ ascN l ↔ x ∈ l
  | [] => by simp [ascN]
  | k :: l => by
    show x ∈ insN k (ascN l) ↔ _
    rw [insN_mem, mem_ascN, List.mem_cons]
theorem asc_insN {k : Nat} : ∀ {l : List Nat}, l.Pairwise (· < ·) → (insN k l).Pairwise (· < ·)
  | [], _ => by simp [insN]
  | m :: r, h => by
    obtain ⟨h1, h2⟩ := List.pairwise_cons.mp h
    unfold insN
    split
    · exact h
    · rename_i ne
      split
      · rename_i lt
        refine List.pairwise_cons.mpr ⟨fun y hy => ?_, h⟩
        rcases List.mem_cons.mp hy with e | e
        · rw [e]
          exact lt
        · exact Nat.lt_trans lt (h1 y e)
      · rename_i nl
        refine List.pairwise_cons.mpr ⟨fun y hy => ?_, asc_insN h2⟩
        rcases insN_mem.mp hy with e | e
        · rw [e]
          omega
        · exact h1 y e
theorem asc_ascN : ∀ l : List Nat, (ascN l).Pairwise (· < ·)
  | [] => List.Pairwise.nil
  | k :: l => asc_insN (asc_ascN l)
theorem ascN_ext {l m : List Nat} (h : l.Pairwise (· < ·)) (k : m.Pairwise (· < ·)) (e : ∀ x, x ∈ l ↔ x ∈ m) : l = m := asc_ext (fun a => Nat.lt_irrefl a) (fun _ _ _ a b => Nat.lt_trans a b) h k e
/-- the letters of a text -/
abbrev lets (x : Str) : List Nat := x.cps.toList
theorem lets_mk (l : List Nat) : lets ⟨l.toArray⟩ = l := rfl
theorem unite_lets {x y : Str} (hx : (lets x).Pairwise (· < ·)) (hy : (lets y).Pairwise (· < ·)) : lets (unite x y) = ascN (lets x ++ lets y) := by
  unfold unite
  split
  · rename_i e
    subst e
    refine ascN_ext hx (asc_ascN _) fun z => ?_
    rw [mem_ascN, List.mem_append]
    exact ⟨.inl, fun h => h.elim id id⟩
  · rfl
theorem unite_asc {x y : Str} (hx : (lets x).Pairwise (· < ·)) : (lets (unite x y)).Pairwise (· < ·) := by
  unfold unite
  split
  · exact hx
  · exact asc_ascN _
theorem mem_unite {x y : Str} {c : Nat} : c ∈ lets (unite x y) ↔ c ∈ lets x ∨ c ∈ lets y := by
  unfold unite
  split
  · rename_i e
    subst e
    exact ⟨.inl, fun h => h.elim id id⟩
  · show c ∈ ascN (lets x ++ lets y) ↔ _
    rw [mem_ascN, List.mem_append]
end N
set_option Elab.async false
set_option linter.all false
set_option maxRecDepth 100000
/-! Formulas over the layer: what the walk asks of the class, its fields, the promises. -/
namespace N
open PySem PySem.Spec PyProof.Rows L2
open C8 (InsC)
/-- the class Formula as the top has made it -/
structure CZ (K : PySem.W.Frag) (C : Addr) (ns : List Str) : Prop where
  cls : Cls K C
  nos : ∀ n ∈ ns, NoAttr K C n
  ins : InsC K C
  sf : PySem.W.selfFirst K C = true
  ist : PySem.W.kitOne K (.type "str") (.ref C) = some false
abbrev FZ (K : PySem.W.Frag) (C : Addr) : Prop := CZ K C fmNames
inductive FldF : Str → Fm → D → Prop
  | kind (f : Fm) : FldF "kind" f (.str f.kind)
  | parts (f : Fm) : FldF "parts" f (.tup (partsD f))
  | many (f : Fm) : FldF "many" f (.int (f.many : Nat))
  | deep (f : Fm) : FldF "deepest" f (.int (f.deep : Nat))
  | atoms (f : Fm) : FldF "atoms" f (.str f.atoms)
  | bare (f : Fm) : FldF "bare" f (.str f.outer)
  | spell (f : Fm) : FldF "spelled" f (.str f.spell)
  | alls (f : Fm) : FldF "alls_known" f (.tup (f.alls.map .fm))
theorem FldF.look {n : Str} {f : Fm} {z : D} (h : FldF n f z) : n ∈ fmNames ∧ (fmNames.zip (fmVals FK f)).lookup n = some z := by
  cases h <;> exact ⟨by decide +kernel, rfl⟩
section
variable {T : Kx} {C H H' O O' : Hp} {G : Gm} {W W' : Om} {σ : L2.St} {a p : Addr} {d : D} {l : List D} {ta : TE} {R : D → Om → Prop}
theorem ev_fmF {n : Str} (zf : FZ T.K (T.cl 0)) (h : Ev FK T ta G W fun d W1 => ∃ f z, d = .fm f ∧ FldF n f z ∧ R z W1) : Ev FK T (tFld T.K ta n) G W R :=
  ev_fld (h.imp fun d W1 ⟨f, z, e, k, r⟩ => by
    subst e
    exact ⟨0, fmNames, fmVals FK f, z, .fm f, zf.cls, zf.nos n k.look.1, k.look.2, r⟩)
/-- something with a text -/
def Spl (W : Om) (d : D) (g : Fm) : Prop := ∃ ns l, Inst FK W d 0 ns l ∧ (ns.zip l).lookup ("spelled" : Str) = some (.str g.spell)
theorem spl_fm (f : Fm) : Spl W (.fm f) f := ⟨_, _, .fm f, (FldF.spell f).look.2⟩
theorem Spl.up {W2 : Om} {g : Fm} (h : Spl W d g) (s : ∀ x ∈ W, x ∈ W2) : Spl W2 d g := by
  obtain ⟨ns, l, i, e⟩ := h
  refine ⟨ns, l, ?_, e⟩
  cases i with
  | fm f => exact .fm f
  | obj c ns l => exact .obj _ _ _
  | own a c ns l m => exact .own _ _ _ _ (s _ m)
theorem ev_spl {g : Fm} (zf : FZ T.K (T.cl 0)) (h : Ev FK T ta G W fun d W1 => Spl W1 d g ∧ R (.str g.spell) W1) : Ev FK T (tFld T.K ta "spelled") G W R :=
  ev_fld (h.imp fun d W1 ⟨⟨ns, l, i, e⟩, r⟩ => ⟨0, ns, l, _, i, zf.cls, zf.nos "spelled" (by decide +kernel), e, r⟩)
end
namespace Fm
theorem nodup_asc {l : List Fm} (h : asc l) : l.Nodup := h.imp fun {a b} k e => by
  subst e
  exact ltF_irrefl _ k
theorem len_le {l m : List Fm} (h : l.Nodup) (s : ∀ x ∈ l, x ∈ m) : l.length ≤ m.length := by
  induction l generalizing m with
  | nil => exact Nat.zero_le _
  | cons a l ih =>
    rw [List.nodup_cons] at h
    obtain ⟨p, q, e⟩ := List.append_of_mem (s a List.mem_cons_self)
    subst e
    have := ih (m := p ++ q) h.2 fun x hx => by
      have h1 := s x (List.mem_cons_of_mem _ hx)
      rw [List.mem_append, List.mem_cons] at h1
      rw [List.mem_append]
      rcases h1 with h1 | h1 | h1
      · exact .inl h1
      · subst h1
        exact absurd hx h.1
      · exact .inr h1
    simp at this ⊢
    omega
theorem asc_len {l : List Nat} {lo n : Nat} (h : l.Pairwise (· < ·)) (b : ∀ x ∈ l, lo ≤ x ∧ x < lo + n) : l.length ≤ n := by
  have nd : l.Nodup := h.imp fun q e => by omega
  have key : ∀ (l m : List Nat), l.Nodup → (∀ x ∈ l, x ∈ m) → l.length ≤ m.length := fun l => by
    induction l with
    | nil => intros; exact Nat.zero_le _
    | cons a l ih =>
      intro m h s
      rw [List.nodup_cons] at h
      obtain ⟨p, q, e⟩ := List.append_of_mem (s a List.mem_cons_self)
      subst e
      have := ih (p ++ q) h.2 fun x hx => by
        have h1 := s x (List.mem_cons_of_mem _ hx)
        rw [List.mem_append, List.mem_cons] at h1
        rw [List.mem_append]
        rcases h1 with h1 | h1 | h1
        · exact .inl h1
        · subst h1
          exact absurd hx h.1
        · exact .inr h1
      simp at this ⊢
      omega
  have := key l (List.range' lo n) nd fun x hx => by
    rw [List.mem_range'_1]
    exact b x hx
  simpa using this
theorem atoms_asc : ∀ f : Fm, (lets f.atoms).Pairwise (· < ·)
  | .at c => List.pairwise_singleton _ _
  | .no => List.Pairwise.nil
  | .imp a b => unite_asc (atoms_asc a)
  | .all a => atoms_asc a
theorem outer_asc : ∀ f : Fm, (lets f.outer).Pairwise (· < ·)
  | .at c => List.pairwise_singleton _ _
  | .no => List.Pairwise.nil
  | .imp a b => unite_asc (outer_asc a)
  | .all a => List.Pairwise.nil
theorem atoms_lets : ∀ {f : Fm}, f.okL → ∀ c ∈ lets f.atoms, (65 ≤ c ∧ c ≤ 90) ∨ (97 ≤ c ∧ c ≤ 122)
  | .at d, h, c, hc => by
    have : c = d := List.mem_singleton.mp hc
    subst this
    exact h
  | .no, _, c, hc => by cases hc
  | .imp a b, h, c, hc => (mem_unite.mp hc).elim (atoms_lets h.1 c) (atoms_lets h.2 c)
  | .all a, h, c, hc => atoms_lets (f := a) h c hc
theorem outer_sub : ∀ {f : Fm}, ∀ c ∈ lets f.outer, c ∈ lets f.atoms
  | .at d, c, hc => hc
  | .no, c, hc => hc
  | .imp a b, c, hc => mem_unite.mpr ((mem_unite.mp hc).imp (outer_sub c) (outer_sub c))
  | .all a, c, hc => by cases hc
theorem atoms_len {f : Fm} (h : f.okL) : f.atoms.length ≤ 58 := by
  rw [str_len]
  exact asc_len (atoms_asc f) (lo := 65) fun x hx => by
    have := atoms_lets h x hx
    omega
theorem outer_len {f : Fm} (h : f.okL) : f.outer.length ≤ 58 := by
  rw [str_len]
  exact asc_len (outer_asc f) (lo := 65) fun x hx => by
    have := atoms_lets h x (outer_sub x hx)
    omega
/-- small enough for the walk -/
structure okF (f : Fm) : Prop where
  ok : f.okL
  sz : f.sz ≤ 1000000
  alls : f.alls.length < 64
theorem okF.l {a b : Fm} (h : okF (.imp a b)) : okF a := ⟨h.ok.1, by have := h.sz; unfold Fm.sz at this; omega, Nat.lt_of_le_of_lt (len_le (nodup_asc (alls_sub h.ok.1).2) fun x hx => mem_merge.mpr (.inl hx)) h.alls⟩
theorem okF.r {a b : Fm} (h : okF (.imp a b)) : okF b := ⟨h.ok.2, by have := h.sz; unfold Fm.sz at this; omega, Nat.lt_of_le_of_lt (len_le (nodup_asc (alls_sub h.ok.2).2) fun x hx => mem_merge.mpr (.inr hx)) h.alls⟩
theorem okF.a {a : Fm} (h : okF (.all a)) : okF a := ⟨h.ok, by have := h.sz; unfold Fm.sz at this; omega, Nat.lt_of_le_of_lt (len_le (nodup_asc (alls_sub (f := a) h.ok).2) fun x hx => mem_merge.mpr (.inl hx)) h.alls⟩
end Fm
theorem kind_at {f : Fm} : f.kind = ("atom" : Str) ↔ ∃ c, f = .at c := by
  cases f with
  | «at» c => exact ⟨fun _ => ⟨c, rfl⟩, fun _ => rfl⟩
  | no => exact ⟨fun h => absurd h (by decide +kernel), fun ⟨c, h⟩ => by cases h⟩
  | imp a b => exact ⟨fun h => absurd (show ("if" : Str) = "atom" from h) (by decide +kernel), fun ⟨c, h⟩ => by cases h⟩
  | all a => exact ⟨fun h => absurd (show ("all" : Str) = "atom" from h) (by decide +kernel), fun ⟨c, h⟩ => by cases h⟩
theorem parts_fm : ∀ {f : Fm}, (∀ c, f ≠ .at c) → ∀ d ∈ partsD f, ∃ g, d = .fm g
  | .at c, h, _, _ => absurd rfl (h c)
  | .no, _, d, h => by simp [partsD] at h
  | .imp a b, _, d, h => by
    simp [partsD] at h
    rcases h with h | h
    · exact ⟨a, h⟩
    · exact ⟨b, h⟩
  | .all a, _, d, h => by
    simp [partsD] at h
    exact ⟨a, h⟩
/-! ### the object that is made: its attributes one by one -/
section
variable {T : Kx} {x : Addr} {n : Str} {z : D} {ns : List Str} {l : List D} {R : Om → Prop}
theorem rcv_new (zf : FZ T.K (T.cl 0)) (hn : n ∈ fmNames) (h : n ∉ ns) (hl : ns.length < 1000) (r : R [(x, .ins 0 (ns ++ [n]) (l ++ [z]))]) : Rcv FK T (.adr x) z n [(x, .ins 0 ns l)] R :=
  ⟨x, 0, ns, l, [], [], _, _, rfl, rfl, zf.cls, zf.nos n hn, hl, .new ns l h, r⟩
theorem rcv_at (j : Nat) (zf : FZ T.K (T.cl 0)) (hn : n ∈ fmNames) (h : ns.Nodup) (hj : ns[j]? = some n) (hl : ns.length < 1000) (r : R [(x, .ins 0 ns (l.set j z))]) : Rcv FK T (.adr x) z n [(x, .ins 0 ns l)] R :=
  ⟨x, 0, ns, l, [], [], _, _, rfl, rfl, zf.cls, zf.nos n hn, hl, .at ns l j h hj, r⟩
end
theorem allsD_of {x : Addr} {f : Fm} : ∀ {e : List (D × Fm)}, (∀ p ∈ e, p.1 = .fm p.2 ∨ (p.1 = .adr x ∧ p.2 = f)) → AllsD x f (e.map (·.1)) (e.map (·.2))
  | [], _ => rfl
  | p :: e, h => ⟨p.2, _, rfl, h p List.mem_cons_self, allsD_of fun q hq => h q (List.mem_cons_of_mem _ hq)⟩
theorem fm_map (l : List Fm) : (l.map fun g => (D.fm g, g)).map (·.1) = l.map .fm := by rw [List.map_map]; rfl
theorem fm_map2 (l : List Fm) : (l.map fun g => (D.fm g, g)).map (·.2) = l := by rw [List.map_map]; exact List.map_id l
theorem max_int (m n : Nat) : (if (n : Int) > (m : Int) then (n : Int) else (m : Int)) = ((max m n : Nat) : Int) := by
  split <;> omega
theorem empty_app (x : Str) : Str.empty ++ x = x := str_ext (by rw [str_app]; rfl)
/-! ### tables from texts to things -/
@[reducible] def kvE (l : List (D × Fm)) : List (Key × D) := l.map fun p => (Sum.inr p.2.spell, p.1)
theorem kvE_keys (l : List (D × Fm)) : (kvE l).map (·.1) = (l.map fun p => p.2.spell).map Sum.inr := by simp [kvE]
theorem getG_kvE : ∀ {l : List (D × Fm)} {p : D × Fm}, p ∈ l → (l.map fun p => p.2.spell).Nodup → getG (kvE l) (Sum.inr p.2.spell) = some p.1
  | [], p, h, _ => by simp at h
  | q :: l, p, h, nd => by
    rw [List.map_cons, List.nodup_cons] at nd
    unfold getG kvE
    rw [List.map_cons, List.find?_cons]
    by_cases e : (Sum.inr q.2.spell : Key) = Sum.inr p.2.spell
    · simp only [e, decide_true, Option.map_some]
      rcases List.mem_cons.mp h with h | h
      · rw [h]
      · refine absurd (List.mem_map.mpr ⟨p, h, ?_⟩) nd.1
        exact (Sum.inr.inj e).symm
    · simp only [e, decide_false]
      rcases List.mem_cons.mp h with h | h
      · exact absurd (by rw [h]) e
      · exact getG_kvE h nd.2
theorem put_kvE {l : List (D × Fm)} {d : D} {g : Fm} (ol : ∀ p ∈ l, p.2.okL) (og : g.okL) : ∃ l', putG (kvE l) (Sum.inr g.spell) d = kvE l' ∧ (∀ p ∈ l', p ∈ l ∨ p = (d, g)) ∧ (∀ x ∈ l.map (·.2), x ∈ l'.map (·.2)) ∧ g ∈ l'.map (·.2) ∧ l'.length ≤ l.length + 1 := by
  unfold putG
  split
  · rename_i ha
    refine ⟨l.map fun q => if q.2.spell = g.spell then (d, q.2) else q, ?_, fun p hp => ?_, fun x hx => ?_, ?_, by simp⟩
    · simp only [kvE, List.map_map]
      refine List.map_congr_left fun q hq => ?_
      by_cases e : q.2.spell = g.spell
      · simp [Function.comp, e]
      · simp [Function.comp, e]
    · obtain ⟨q, hq, e⟩ := List.mem_map.mp hp
      by_cases h : q.2.spell = g.spell
      · rw [if_pos h] at e
        rw [Fm.spell_inj (ol q hq) og h] at e
        exact .inr e.symm
      · rw [if_neg h] at e
        subst e
        exact .inl hq
    · obtain ⟨q, hq, e⟩ := List.mem_map.mp hx
      refine List.mem_map.mpr ⟨_, List.mem_map.mpr ⟨q, hq, rfl⟩, ?_⟩
      split
      · exact e
      · exact e
    · rw [List.any_eq_true] at ha
      obtain ⟨z, hz, e⟩ := ha
      obtain ⟨q, hq, e2⟩ := List.mem_map.mp hz
      subst e2
      have e := Sum.inr.inj (of_decide_eq_true e)
      refine List.mem_map.mpr ⟨_, List.mem_map.mpr ⟨q, hq, rfl⟩, ?_⟩
      rw [if_pos e]
      exact Fm.spell_inj (ol q hq) og e
  · refine ⟨l ++ [(d, g)], by simp [kvE], fun p hp => ?_, fun x hx => ?_, by simp, by simp⟩
    · rcases List.mem_append.mp hp with h | h
      · exact .inl h
      · exact .inr (List.mem_singleton.mp h)
    · rw [List.map_append]
      exact List.mem_append_left _ hx
theorem merge_of {l m : List Fm} {e : List (D × Fm)} (hl : l ≠ []) (hm : m ≠ []) (ol : ∀ x ∈ l ++ m, x.okL) (hs : sortedS (e.map fun p => p.2.spell) = true) (nd : (e.map fun p => p.2.spell).Nodup) (h : ∀ x, x ∈ e.map (·.2) ↔ x ∈ l ++ m) : e.map (·.2) = Fm.merge l m := by
  unfold Fm.merge
  rw [if_neg hl, if_neg hm]
  refine Fm.asc_eq ?_ (Fm.asc_fold ol) fun x => by rw [h x, Fm.mem_fold]
  have := sorted_all hs nd
  rw [List.pairwise_map] at this
  unfold Fm.asc
  rw [List.pairwise_map]
  exact this
/-! ### the promises -/
def isLet (x : Str) : Bool := match lets x with
  | [c] => decide ((65 ≤ c ∧ c ≤ 90) ∨ (97 ≤ c ∧ c ≤ 122))
  | _ => false
theorem isLet_sg (c : Nat) : isLet (sg c) = decide ((65 ≤ c ∧ c ≤ 90) ∨ (97 ≤ c ∧ c ≤ 122)) := rfl
theorem isLet_of {x : Str} (h : isLet x = true) : ∃ c, x = sg c ∧ ((65 ≤ c ∧ c ≤ 90) ∨ (97 ≤ c ∧ c ≤ 122)) := by
  unfold isLet at h
  split at h
  · rename_i c e
    exact ⟨c, str_ext e, of_decide_eq_true h⟩
  · cases h
theorem isLet_long {x : Str} (h : x.length ≠ 1) : isLet x = false := by
  unfold isLet
  split
  · rename_i c e
    rw [str_len, show x.cps.toList = [c] from e] at h
    exact absurd rfl h
  · rfl
theorem one_sign {x : Str} (h : x.length = 1) : ∃ c, x = sg c := by
  rw [str_len] at h
  match e : x.cps.toList, h with
  | [c], _ => exact ⟨c, str_ext e⟩
theorem in_letters (c : Nat) : decide (c ∈ ("ABCDEFGHIJKLMNOPQRSTUVWXYZabcdefghijklmnopqrstuvwxyz" : Str).cps.toList) = isLet (sg c) := by
  rw [isLet_sg]
  have e : ("ABCDEFGHIJKLMNOPQRSTUVWXYZabcdefghijklmnopqrstuvwxyz" : Str).cps.toList = List.range' 65 26 ++ List.range' 97 26 := by decide +kernel
  rw [e]
  congr 1
  rw [List.mem_append, List.mem_range'_1, List.mem_range'_1]
  simp only [eq_iff_iff]
  omega
def S_isatom : FS := fun ds W post => ∃ x : Str, ds = [.str x] ∧ W = [] ∧ x.length ≤ 16777216 ∧ post (.bl (isLet x)) []
def S_united : FS := fun ds W post => ∃ x y : Str, ds = [.str x, .str y] ∧ x.length + y.length < 4000 ∧ W = [] ∧ post (.str (unite x y)) []
def S_merged : FS := fun ds W post => ∃ e1 e2 : List (D × Fm), ds = [.tup (e1.map (·.1)), .tup (e2.map (·.1))] ∧ (∀ p ∈ e1 ++ e2, p.2.okL ∧ Spl W p.1 p.2) ∧ e1.length < 64 ∧ e2.length < 64 ∧ (Fm.merge (e1.map (·.2)) (e2.map (·.2))).length < 64 ∧
  ∀ e' : List (D × Fm), e'.map (·.2) = Fm.merge (e1.map (·.2)) (e2.map (·.2)) → (∀ p ∈ e', p ∈ e1 ++ e2) → post (.tup (e'.map (·.1))) W
def S_init : FS := fun ds W post => ∃ (x : Addr) (f : Fm), ds = [.adr x, .str f.kind, .tup (partsD f)] ∧ W = [(x, .ins 0 [] [])] ∧ f.okF ∧
  ∀ al, AllsD x f al f.alls → post .non [(x, .ins 0 fmNames [.str f.kind, .tup (partsD f), .int (f.many : Nat), .int (f.deep : Nat), .str f.atoms, .str f.outer, .str f.spell, .tup al])]
end N
set_option Elab.async false
set_option linter.all false
set_option maxRecDepth 100000
/-! Rules with the module's part named: for the parts of a comprehension. -/
namespace N
open PySem PySem.Spec PyProof.Rows L2
theorem relV_ref (a : Addr) : RelV (.ref a) (.ref a) := rfl
theorem relV_ty (s : String) : RelV (.ty s) (.type s) := rfl
section
variable {X : Cx} {K : PySem.W.Frag}
theorem pe_fldK {e : Expr} {f : Str} {pos : Pos} {ta : TE} (hK : X.K = K) (h : PE X e ta) (hb : attributeBase e f X.env (eval e X.env) = eval e X.env) : PE X (e.Attribute f pos) (tFld K ta f) := hK ▸ pe_fld h hb
theorem ix_listK (hK : X.K = K) : IxR X (rIxL K) := hK ▸ ix_list
theorem ix_tupK (hK : X.K = K) : IxR X (rIxT K) := hK ▸ ix_tup
theorem call_lenK (hK : X.K = K) : CallR X (.builtin "len") (fun xs H Q => ∃ x n, xs = [x] ∧ LenV K x H n ∧ Q (.int (n : Nat)) H) := hK ▸ call_len
theorem call_isiKk (hK : X.K = K) : CallR X (.builtin "isinstance") (rIsi K) := hK ▸ call_isi
theorem call_tuple_ofK (hK : X.K = K) : CallR X (.type "tuple") (fun xs H Q => ∃ p ys, xs = [.ref p] ∧ ((SqL K H p ys ∧ ∀ l, H l = none → Q (.ref l) (upd H l (.tup ys))) ∨ (SqT K H p ys ∧ Q (.ref p) H))) := hK ▸ call_tuple_of
theorem call_list_ofK (hK : X.K = K) : CallR X (.type "list") (fun xs H Q => ∃ p ys, xs = [.ref p] ∧ (SqL K H p ys ∨ SqT K H p ys) ∧ ∀ l, H l = none → Q (.ref l) (upd H l (.lst ys))) := hK ▸ call_list_of
theorem op_catAK (hK : X.K = K) : OpR X (binaryOp .Add) (rCatA K) := hK ▸ op_catA
theorem op_in_seqK (hK : X.K = K) : OpR X (compareOp .In) (rIn K false) := hK ▸ op_in_seq
theorem op_notIn_seqK (hK : X.K = K) : OpR X (compareOp .NotIn) (rIn K true) := hK ▸ op_notIn_seq
theorem sl_listK (hK : X.K = K) : SlR X (rSlL K) := hK ▸ sl_list
theorem pg_tupK {pos : Pos} {es : List Expr} {k : Nat} {t : TGs} {n : Nat} (hK : X.K = K) (hc : X.calm = true) (h : PGs X es t) (h1 : (assignEach es X.env).length = n := by rfl) (h2 : List.findIdx? (fun x => x.1) (assignEach es X.env) = none := by rfl) : PG X (Expr.Tuple es k pos) (gTup K n t) := hK ▸ pg_tup hc h h1 h2
theorem pi_listK {tg l : Expr} {tl : TE} (hK : X.K = K) (h : PE X l tl) : PI X tg l (iList K tl) := hK ▸ pi_list h
theorem pi_tupK {tg l : Expr} {tl : TE} (hK : X.K = K) (h : PE X l tl) : PI X tg l (iTup K tl) := hK ▸ pi_tup h
theorem call_repr_dataK (hK : X.K = K) (hg : X.A.guards = some []) (hu : X.A.units + 64 < cLine) : CallR X (.builtin "repr") (rRep K) := hK ▸ call_repr_data hg hu
end
/-! ### a test that is a choice of tests -/
def tIfT (tc ta tb : TT) : TT := fun σ H Q => tc σ H fun c H1 => if c = true then ta σ H1 Q else tb σ H1 Q
theorem pt_ifE {X : Cx} {c a b : Expr} {tc ta tb : TT} {pos : Pos} (hc : PT X c tc) (ha : PT X a ta) (hb : PT X b tb) : PT X (.IfExp c a b pos) (tIfT tc ta tb) := by
  refine ⟨fun pins s σ H Q I h => ?_⟩
  rw [PySem.arm_isTrue_IfExp]
  refine wpAny_bind (thn (hc.run pins s σ H _ I h) fun d s1 ⟨H1, I1, q1⟩ => ?_)
  cases d with
  | true => exact ha.run pins s1 σ H1 Q I1 q1
  | false => exact hb.run pins s1 σ H1 Q I1 q1
theorem et_ifE {F : FmKit} {T : Kx} {tc ta tb : TT} {G : Gm} {W : Om} {S : Bool → Om → Prop} (h : EvT F T tc G W fun c W1 => if c = true then EvT F T ta G W1 S else EvT F T tb G W1 S) : EvT F T (tIfT tc ta tb) G W S := fun C H O σ w Q q =>
  h C H O σ w _ fun c W1 H1 O1 s n => by
    cases c with
    | true => exact s C H1 O1 σ (w.step n) _ fun b W2 H2 O2 s2 n2 => q b W2 H2 O2 s2 (n.trans n2)
    | false => exact s C H1 O1 σ (w.step n) _ fun b W2 H2 O2 s2 n2 => q b W2 H2 O2 s2 (n.trans n2)
end N
set_option Elab.async false
set_option linter.all false
set_option maxRecDepth 100000
/-! Formulas over the layer: making, operators, properties; the promises of the small defs. -/
namespace N
open PySem PySem.Spec PyProof.Rows L2
open C8 (InsC Cal)
namespace Fm
abbrev neg (f : Fm) : Fm := .imp f .no
abbrev conj (f g : Fm) : Fm := neg (.imp f (neg g))
abbrev disj (f g : Fm) : Fm := .imp (neg f) g
end Fm
section
variable {T : Kx} {C H H' O O' : Hp} {G : Gm} {W W' : Om} {σ : L2.St} {a p : Addr} {d : D} {l : List D} {ta : TE} {tr : TA} {R : D → Om → Prop} {S : FS} {E : XK}
/-- Formula(kind, ..) -/
theorem ev_mkF (h : EvA FK T tr G W fun ds W1 => ∃ f : Fm, ds = .str f.kind :: partsD f ∧ f.okF ∧ R (.fm f) W1) : Ev FK T (StX.tMakeR (T.cl 0) (spN FK T (starS 2 S_init)) E tr) G W R :=
  ev_fz (ev_makeR (fun C H O σ w Q q => h C H O σ w Q fun ds W1 H1 O1 vs ⟨f, e, hf, r⟩ n k => q ds W1 H1 O1 vs (fun x hx => by
    subst e
    refine ⟨[(x, .ins 0 [] [])], W1, List.Perm.refl _, by simp, ?_, x, f, rfl, rfl, hf, fun al ha => ⟨rfl, x, _, W1, .fm f, rfl, List.Perm.refl _, .fm f al ha, r⟩⟩
    have : (partsD f).length ≤ 2 := by cases f <;> simp [partsD]
    simp
    omega) n k))
theorem ev_inv (h : Ev FK T ta G W fun d W1 => ∃ f, d = .fm f ∧ Hand S [.fm f] W1 R) : Ev FK T (tUn (rOwn1 (T.cl 0) (spN FK T S) E) ta) G W R :=
  ev_un (h.imp fun d W1 ⟨f, e, hh⟩ => by
    subst e
    exact ca_own1 (.fm f) hh)
theorem bo_fm2 {f g : Fm} (h : Hand S [.fm f, .fm g] W R) : Bo FK T (rOwn2 (T.cl 0) (spN FK T S) E) (.fm f) (.fm g) W R := bo_own (.fm f) (.fm g) h
theorem ca_strF {f : Fm} (h : Hand S [.fm f] W fun d' W' => (∃ z, d' = .str z) ∧ R d' W') : Ca FK T (rStrO (T.cl 0) (spN FK T S)) [.fm f] W R := ca_strO (.fm f) h
theorem ev_prpF (h : Ev FK T ta G W fun d W1 => ∃ f, d = .fm f ∧ Hand S [.fm f] W1 R) : Ev FK T (tProp (T.cl 0) (spN FK T S) [] E ta) G W R :=
  ev_prop (h.imp fun d W1 ⟨f, e, hh⟩ => by
    subst e
    exact ⟨_, _, .fm f, hh⟩)
theorem ca_strS {s : Str} (h : R (.str s) W) : Ca FK T (fun xs H Q => ∃ a, xs = [.str a] ∧ Q (.str a) H) [.str s] W R := cl_sc (xs := [.str s]) fun H Q k => ⟨s, rfl, k _ h⟩
theorem ev_isN_fm {f : Fm} (h : Ev FK T ta G W fun d W1 => d = .fm f ∧ R (.bl false) W1) : Ev FK T (tIsN ta) G W R :=
  ev_isN (h.imp fun d W1 ⟨e, r⟩ => ⟨false, fun H v k => by
    subst e
    obtain ⟨a, e, _⟩ := k
    subst e
    rfl, r⟩)
end
/-- a property by the promise of its getter -/
structure Prp (P : Program) (w : World) (K : PySem.W.Frag) (mg : Str → Option Value) (base : Heap) (k : Nat) (C : Addr) (m : Str) (sp : Sp) : Prop where
  ex : ∃ (p g : Addr) (fd : FuncData) (ps : List Str), PropOf K C m p g ∧ FnOk P w K mg base C8.CX0 k g fd ps sp ∧ Binds K fd ps []
theorem prpD {P : Program} {w : World} {K : PySem.W.Frag} {mg : Str → Option Value} {base : Heap} {F : FmKit} {cl : Nat → Addr} {S : FS} {m qual : Str} {C p : Addr} {st : Stmt} {f : Addr} {fd : FuncData} {N ps : List Str} {k : Nat} (o : PropOf K C m p f) (Fn : Fun K m qual st f fd) (Sc : FnScope N ps (defScope st)) (len : ∀ ds W post, S ds W post → ds.length = ps.length)
    (hb : ∀ (kV doc pm : Value) (an : Option Addr) (cdv ct : Value) (us : List Value), us.length = ps.length → bindArgs (PySem.W.fnOf m qual (defArgs st) (defBody st) (defScope st) .none kV doc pm an cdv ct) ⟨us, []⟩ = pure (ps.zip us))
    (body : ∀ (cdv : Value) (A : Around) (outer : List Env) (s : Shared) (H : Hp) (E : XK), Room k (A.deeper (envOfC qual (defScope st) s.heap.objs.size f cdv)) →
      ∃ t, PSs (cxOf C8.CX0 P w K mg base N qual (defScope st) f cdv A outer s H E).nox (defBody st) t ∧ ∀ ds W post, S ds W post → Sw F ⟨K, cl⟩ t (startD N ds) W (E_ post)) : Prp P w K mg base (k + 1) C m (spN F ⟨K, cl⟩ S) :=
  ⟨p, f, fd, ps, o, okD Fn Sc len body, Fn.binds hb⟩
theorem pe_prp {X : Cx} {k j : Nat} {C : Addr} {f : Str} {sp : Sp} {e : Expr} {pos : Pos} {ta : TE} (c : Prp X.prog X.w X.K X.mg X.base k C f sp) (cls : Cls X.K C) (hr : Room j X.A) (hk : k + 1 ≤ j) (he : PE X e ta) (hab : attributeBase e f X.env (eval e X.env) = eval e X.env := by rfl) :
    PE X (e.Attribute f pos) (tProp C sp [] E0 ta) := by
  obtain ⟨p, g, fd, ps, o, h, b⟩ := c.ex
  exact pe_prop he cls o h (hr.mono hk) b .nil pass0 hab
/-! ### the promises -/
def S_no : FS := fun ds W post => ds = [] ∧ W = [] ∧ post (.fm .no) []
def S_every : FS := fun ds W post => ∃ f : Fm, ds = [.fm f] ∧ W = [] ∧ (Fm.all f).okF ∧ post (.fm (.all f)) []
def S_inv : FS := fun ds W post => ∃ f : Fm, ds = [.fm f] ∧ W = [] ∧ (Fm.neg f).okF ∧ post (.fm (Fm.neg f)) []
def S_and : FS := fun ds W post => ∃ f g : Fm, ds = [.fm f, .fm g] ∧ W = [] ∧ (Fm.conj f g).okF ∧ post (.fm (Fm.conj f g)) []
def S_or : FS := fun ds W post => ∃ f g : Fm, ds = [.fm f, .fm g] ∧ W = [] ∧ (Fm.disj f g).okF ∧ post (.fm (Fm.disj f g)) []
def S_shr : FS := fun ds W post => ∃ f g : Fm, ds = [.fm f, .fm g] ∧ W = [] ∧ (Fm.imp f g).okF ∧ post (.fm (Fm.imp f g)) []
/-- a formula, or the atom of a letter -/
def Opd (d : D) (f : Fm) : Prop := d = .fm f ∨ ∃ c, ((65 ≤ c ∧ c ≤ 90) ∨ (97 ≤ c ∧ c ≤ 122)) ∧ d = .str (sg c) ∧ f = .at c
def S_opd : FS := fun ds W post => ∃ (d : D) (f : Fm), ds = [d] ∧ W = [] ∧ Opd d f ∧ post (.fm f) []
def S_many : FS := fun ds W post => ∃ f : Fm, ds = [.fm f] ∧ W = [] ∧ f.many ≤ 1000000 ∧ post (.int (f.many : Nat)) []
def S_depth : FS := fun ds W post => ∃ f : Fm, ds = [.fm f] ∧ W = [] ∧ post (.int (f.deep : Nat)) []
def S_same : FS := fun ds W post => ∃ f : Fm, ds = [.fm f] ∧ W = [] ∧ post (.fm f) []
def S_alls : FS := fun ds W post => ∃ f : Fm, ds = [.fm f] ∧ W = [] ∧ post (.tup (f.alls.map .fm)) []
def S_str : FS := fun ds W post => ∃ f : Fm, ds = [.fm f] ∧ W = [] ∧ post (.str f.spell) []
end N
set_option Elab.async false
set_option linter.all false
set_option maxRecDepth 100000
/-! Texts times ints, signs in texts, isinstance of texts and own classes. -/
namespace N
open PySem PySem.Spec PyProof.Rows L2
def rMulS : R2 := fun x y H Q => ∃ (s : Str) (i : Int), x = .str s ∧ y = .int i ∧ s.length ≤ 16 ∧ 0 ≤ i ∧ i ≤ 1048576 ∧ Q (.str (Txt.mul s i)) H
theorem op_mul_str {X : Cx} : OpR X (binaryOp .Mult) rMulS := by
  intro pins s σ H x y v u Q I rx ry h
  obtain ⟨z, i, rfl, rfl, h1, h2, h3, q⟩ := h
  obtain ⟨t, rfl⟩ := rx
  obtain ⟨t2, rfl⟩ := ry
  exact PySem.SB.mul (mulOk_of 16 1048576 (by omega) (by omega) (by omega) (by decide) (by decide)) fun t3 k => ⟨.str (Txt.mul z i), H, I.tok _, ⟨t3, rfl⟩, q⟩
theorem spaces_len {n : Nat} : (Txt.mul " " ((n : Nat) : Int)).length = n := by
  have e := len_mul " " (n : Int)
  have h1 : (" " : Str).length = 1 := rfl
  rw [h1] at e
  split at e
  · rename_i h
    have := of_decide_eq_true h
    omega
  · omega
section
variable {F : FmKit} {T : Kx} {C H H' O O' : Hp} {G : Gm} {W W' : Om} {R : D → Om → Prop} {d : D}
theorem bo_mulS {x : Str} {n : Nat} (hl : n ≤ 1048576) (r : R (.str (Txt.mul x (n : Int))) W) (hx : x.length ≤ 16 := by decide) : Bo F T rMulS (.str x) (.int (n : Nat)) W R := op_sc fun H Q k => ⟨x, n, rfl, rfl, hx, by omega, by omega, k _ r⟩
theorem ca_lenStr {x : Str} (hl : x.length ≤ sizeLine) (r : R (.int x.length) W) : Ca F T (fun xs H Q => ∃ z, xs = [.str z] ∧ z.length ≤ sizeLine ∧ Q (.int z.length) H) [.str x] W R := cl_sc (xs := [.str x]) fun H Q k => ⟨x, rfl, hl, k _ r⟩
theorem bo_inSg {c : Nat} {z : Str} (r : R (.bl (decide (c ∈ z.cps.toList))) W) : Bo F T (fun x y H Q => ∃ (c : Nat) (z : Str), x = .str ⟨#[c]⟩ ∧ y = .str z ∧ Q (.bl (decide (c ∈ z.cps.toList))) H) (.str (sg c)) (.str z) W R := op_sc fun H Q k => ⟨c, z, rfl, rfl, k _ r⟩
theorem isi_strF {s : Str} {c : Nat} {ns : List Str} (z : CZ T.K (T.cl c) ns) (r : R (.bl false) W) : Ca F T (rIsi T.K) [.str s, .adr (T.cl c)] W R := ca_isi (.own _) tyd_str z.ist r
end
end N
set_option Elab.async false
set_option linter.all false
set_option maxRecDepth 100000
/-! Plain data short enough for repr; calls by names; lists joined and repeated; subscripts of any sequence; decks of draws. -/
namespace N
open PySem PySem.Spec PyProof.Rows L2
open C8 (Cal)
structure Ok1 (k n : Nat) (d : PyData) : Prop where
  lv : PyData.leavesShort 13 d = true
  sh : d.showable = true
  nd : d.hasDict = false
  dp : d.depth ≤ k
  wt : d.weight ≤ n
theorem ok_all {k n : Nat} : ∀ {l : List PyData}, (∀ d ∈ l, Ok1 k n d) → PyData.leavesShortAll 13 l = true ∧ PyData.showableAll l = true ∧ PyData.hasDictAll l = false ∧ PyData.depthAll l ≤ k ∧ PyData.weightAll l ≤ l.length * (n + 1)
  | [], _ => ⟨rfl, rfl, rfl, Nat.zero_le _, by simp [PyData.weightAll]⟩
  | d :: l, h => by
    have h1 := h d List.mem_cons_self
    obtain ⟨h2, h3, h4, h5, h6⟩ := ok_all (l := l) fun x hx => h x (List.mem_cons_of_mem _ hx)
    refine ⟨by simp [PyData.leavesShortAll, h1.lv, h2], by simp [PyData.showableAll, h1.sh, h3], by simp [PyData.hasDictAll, h1.nd, h4], ?_, ?_⟩
    · have := h1.dp
      simp only [PyData.depthAll]
      omega
    · have := h1.wt
      simp only [PyData.weightAll, List.length_cons, Nat.succ_mul]
      omega
theorem ok_tup {k n : Nat} {l : List PyData} (h : ∀ d ∈ l, Ok1 k n d) : Ok1 (k + 1) (l.length * (n + 1) + 1) (.tuple l) := by
  obtain ⟨h2, h3, h4, h5, h6⟩ := ok_all h
  refine ⟨by simp [PyData.leavesShort, h2], by simp [PyData.showable, h3], by simp [PyData.hasDict, h4], ?_, ?_⟩
  · simp only [PyData.depth]
    omega
  · simp only [PyData.weight]
    omega
theorem ok_lst {k n : Nat} {l : List PyData} (h : ∀ d ∈ l, Ok1 k n d) : Ok1 (k + 1) (l.length * (n + 1) + 1) (.list l) := by
  obtain ⟨h2, h3, h4, h5, h6⟩ := ok_all h
  refine ⟨by simp [PyData.leavesShort, h2], by simp [PyData.showable, h3], by simp [PyData.hasDict, h4], ?_, ?_⟩
  · simp only [PyData.depth]
    omega
  · simp only [PyData.weight]
    omega
theorem short_ints : ∀ n : Nat, n < 100 → (PyData.int (n : Nat)).shown.length ≤ 13 := by decide +kernel
theorem wt_ints : ∀ n : Nat, n < 100 → (PyData.int (n : Nat)).weight ≤ 8 := by decide +kernel
theorem ok_int {i : Int} (h0 : 0 ≤ i) (h1 : i < 100) : Ok1 0 8 (.int i) := by
  obtain ⟨n, rfl⟩ := Int.eq_ofNat_of_zero_le h0
  refine ⟨by simpa [PyData.leavesShort] using short_ints n (by omega), ?_, rfl, Nat.le_refl _, wt_ints n (by omega)⟩
  simp only [PyData.showable, decide_eq_true_eq, Int.natAbs_natCast]
  have : n.log2 ≤ n := Nat.log2_le_self n
  omega
theorem ok_bool (b : Bool) : Ok1 0 8 (.bool b) := by cases b <;> exact ⟨by decide +kernel, rfl, rfl, Nat.le_refl _, by decide⟩
theorem Ok1.up {k n k' n' : Nat} {d : PyData} (h : Ok1 k n d) (hk : k ≤ k') (hn : n ≤ n') : Ok1 k' n' d := ⟨h.lv, h.sh, h.nd, Nat.le_trans h.dp hk, Nat.le_trans h.wt hn⟩
theorem Ok1.shw {k n : Nat} {d : PyData} (h : Ok1 k n d) (hk : k ≤ 30) (hn : n ≤ 100000) : Shw d := ⟨h.sh, h.nd, Nat.le_trans h.dp hk, by
  have h1 := PyData.shown_le 13 (by decide) d h.lv
  have h2 := h.wt
  have := sizeLine_eq
  omega⟩
theorem Ok1.shwB {k n : Nat} {d : PyData} (h : Ok1 k n d) (hk : k ≤ 30) (hn : n ≤ 1000000) : Shw d := ⟨h.sh, h.nd, Nat.le_trans h.dp hk, by
  have h1 := PyData.shown_le 13 (by decide) d h.lv
  have h2 := h.wt
  have := sizeLine_eq
  omega⟩
/-- data one behind the other -/
structure OkL (k n : Nat) (l : List PyData) : Prop where
  lv : PyData.leavesShortAll 13 l = true
  sh : PyData.showableAll l = true
  nd : PyData.hasDictAll l = false
  dp : PyData.depthAll l ≤ k
  wt : PyData.weightAll l ≤ n
theorem okL_nil {k n : Nat} : OkL k n [] := ⟨rfl, rfl, rfl, Nat.zero_le _, Nat.zero_le _⟩
theorem okL_cons {k n m : Nat} {d : PyData} {l : List PyData} (h : Ok1 k n d) (t : OkL k m l) : OkL k (n + 1 + m) (d :: l) := by
  refine ⟨by simp [PyData.leavesShortAll, h.lv, t.lv], by simp [PyData.showableAll, h.sh, t.sh], by simp [PyData.hasDictAll, h.nd, t.nd], ?_, ?_⟩
  · have := h.dp
    have := t.dp
    simp only [PyData.depthAll]
    omega
  · have := h.wt
    have := t.wt
    simp only [PyData.weightAll]
    omega
theorem OkL.lst {k n : Nat} {l : List PyData} (h : OkL k n l) : Ok1 (k + 1) n (.list l) := by
  refine ⟨by simp [PyData.leavesShort, h.lv], by simp [PyData.showable, h.sh], by simp [PyData.hasDict, h.nd], ?_, ?_⟩
  · have := h.dp
    simp only [PyData.depth]
    omega
  · have := h.wt
    simp only [PyData.weight]
    omega
theorem OkL.tup {k n : Nat} {l : List PyData} (h : OkL k n l) : Ok1 (k + 1) n (.tuple l) := by
  refine ⟨by simp [PyData.leavesShort, h.lv], by simp [PyData.showable, h.sh], by simp [PyData.hasDict, h.nd], ?_, ?_⟩
  · have := h.dp
    simp only [PyData.depth]
    omega
  · have := h.wt
    simp only [PyData.weight]
    omega
theorem OkL.up {k n k' n' : Nat} {l : List PyData} (h : OkL k n l) (hk : k ≤ k') (hn : n ≤ n') : OkL k' n' l := ⟨h.lv, h.sh, h.nd, Nat.le_trans h.dp hk, Nat.le_trans h.wt hn⟩
theorem ok_intL {i : Int} (h : i.natAbs < 10 ^ 12) : Ok1 0 41 (.int i) := by
  have h2 : i.natAbs.log2 < 40 := by
    rcases Nat.eq_zero_or_pos i.natAbs with e | e
    · rw [e]
      decide
    · rw [Nat.log2_lt (by omega)]
      omega
  refine ⟨?_, ?_, rfl, Nat.le_refl _, ?_⟩
  · simp only [PyData.leavesShort, decide_eq_true_eq]
    have := int_text_length_le10 (a := i) (k := 12) (by omega) h
    show (Str.ofString (toString i)).length ≤ 13
    rw [PySem.ofString_length]
    exact this
  · simp only [PyData.showable, decide_eq_true_eq]
    omega
  · simp only [PyData.weight]
    split <;> omega
theorem ok_str {x : Str} (h : ∀ c ∈ lets x, c < 16 ^ 8) : Ok1 0 x.length (.str x) := by
  refine ⟨?_, rfl, rfl, Nat.le_refl _, Nat.le_refl _⟩
  simp only [PyData.leavesShort, List.all_eq_true, decide_eq_true_eq]
  exact h
theorem ok_none : Ok1 0 0 .none := ⟨rfl, rfl, rfl, Nat.le_refl _, Nat.le_refl _⟩
structure CalK (P : Program) (w : World) (K : PySem.W.Frag) (mg : Str → Option Value) (base : Heap) (k : Nat) (x : Str) (ks : List Str) (gV : List V → List V → List V) (sp : Sp) : Prop where
  ex : ∃ (f : Addr) (fd : FuncData) (ps : List Str) (g : List Value → List Value → List Value), FnOk P w K mg base CX0 k f fd ps sp ∧ mg x = some (.ref f) ∧ PySem.W.keepIn K (.ref f) = true ∧ KBn K fd ps 0 ks g gV
theorem kb_of {K : PySem.W.Frag} {x qual : Str} {st : Stmt} {f : Addr} {fd : FuncData} {ps ks : List Str} {g : List Value → List Value → List Value} {gV : List V → List V → List V} (Fn : Fun K x qual st f fd)
    (h : ∀ (kV doc pm : Value) (an : Option Addr) (cdv ct : Value) (ws : List Value), ws.length = ks.length → bindArgs (PySem.W.fnOf x qual (defArgs st) (defBody st) (defScope st) .none kV doc pm an cdv ct) ⟨[], ks.zip ws⟩ = pure (ps.zip (g [] ws)))
    (rel : ∀ {vs : List V} {us : List Value} {zs : List V} {ws : List Value}, Vals vs us → Vals zs ws → Vals (gV vs zs) (g us ws)) : KBn K fd ps 0 ks g gV := by
  obtain ⟨oc, od, kV, doc, pm, an, cdv, ct, osl, rfl, lk, hcd⟩ := Fn.ex
  refine ⟨fun s us ws _ h1 h2 => ?_, rel⟩
  have : us = [] := List.length_eq_zero_iff.mp h1
  subst this
  exact .of_eq (h kV doc pm an cdv ct ws h2)
section
variable {P : Program} {w : World} {K : PySem.W.Frag} {mg : Str → Option Value} {base : Heap} {F : FmKit} {cl : Nat → Addr} {S : FS}
/-- a def that is called both by places and by names -/
theorem calDK {x : Str} {st : Stmt} {f : Addr} {fd : FuncData} {N ps ks : List Str} {g : List Value → List Value → List Value} {gV : List V → List V → List V} {k : Nat} (hm : mg x = some (.ref f)) (Fn : Fun K x x st f fd) (Sc : FnScope N ps (defScope st)) (len : ∀ ds W post, S ds W post → ds.length = ps.length)
    (hb : ∀ (kV doc pm : Value) (an : Option Addr) (cdv ct : Value) (us : List Value), us.length = ps.length → bindArgs (PySem.W.fnOf x x (defArgs st) (defBody st) (defScope st) .none kV doc pm an cdv ct) ⟨us, []⟩ = pure (ps.zip us))
    (kb : KBn K fd ps 0 ks g gV)
    (body : ∀ (cdv : Value) (A : Around) (outer : List Env) (s : Shared) (H : Hp) (E : XK), Room k (A.deeper (envOfC x (defScope st) s.heap.objs.size f cdv)) →
      ∃ t, PSs (cxOf CX0 P w K mg base N x (defScope st) f cdv A outer s H E).nox (defBody st) t ∧ ∀ ds W post, S ds W post → Sw F ⟨K, cl⟩ t (startD N ds) W (E_ post)) :
    Cal P w K mg base (k + 1) x (spN F ⟨K, cl⟩ S) [] ∧ CalK P w K mg base (k + 1) x ks gV (spN F ⟨K, cl⟩ S) :=
  have ok := okD Fn Sc len body
  ⟨⟨f, fd, ps, [], ok, hm, Fn.kp, Fn.binds hb, .nil⟩, ⟨f, fd, ps, g, ok, hm, Fn.kp, kb⟩⟩
end
section
variable {X : Cx} {k j : Nat} {x : Str} {sp : Sp} {p pos : Pos}
def tCallKw (n : Nat) (sp : Sp) (gV : List V → List V → List V) (tk : TA) : TE := fun σ H Q => tk σ H fun zs H2 => zs.length = n ∧ sp (gV [] zs) H2 Q E0
theorem pe_ck {ks : List Str} {gV : List V → List V → List V} {kws : List Keyword} {tk : TA} (c : CalK X.prog X.w X.K X.mg X.base k x ks gV sp) (hr : Room j X.A) (hk : k ≤ j) (hg : Gl X x) (hkw : PK X kws tk)
    (hall : (backToKw pos (keywordEach kws X.env)).all (·.1.isSome) = true := by rfl) (hks : (backToKw pos (keywordEach kws X.env)).filterMap (·.1) = ks := by rfl)
    (hdb : (x == ("__debug__" : Str)) = false := by decide)
    (hpl : ((backTo pos (starEach [] X.env)).any (·.1) || (backToKw pos (keywordEach kws X.env)).any (·.1.isNone)) = false := by rfl) : PE X (.Call (.Name x p) [] kws pos) (tCallKw ks.length sp gV tk) := by
  obtain ⟨f, fd, ps, g, h, hm, kp, kb⟩ := c.ex
  exact pe_callN0 h (hr.mono hk) hg hm kp kb pass0 hkw hall hks hdb hpl
end
section
variable {F : FmKit} {T : Kx} {C H H' O O' : Hp} {G : Gm} {W W' : Om} {R : D → Om → Prop} {S : FS} {tk : TA}
theorem ev_ck {n : Nat} {gV : List V → List V → List V} (h : EvA F T tk G W fun ds W1 => ds.length = n ∧ ∃ as, (∀ H zs, DenL F T H ds zs → DenL F T H as (gV [] zs)) ∧ Hand S as W1 R) : Ev F T (tCallKw n (spN F T S) gV tk) G W R := fun C H O σ w Q q =>
  h C H O σ w _ fun ds W1 H1 O1 zs ⟨h1, as, ha, hh⟩ n1 k1 => ⟨by rw [k1.len]; exact h1, hh.run n1.dis n1.oc n1.own (ha H1 zs k1) fun d W' H' O' v r n2 kd => q d W' H' O' v r (n1.trans n2) kd⟩
theorem bo_isB {a b : Bool} (r : R (.bl (decide (a = b))) W) : Bo F T rIsB (.bl a) (.bl b) W R := op_sc fun H Q k => ⟨a, b, rfl, rfl, k _ r⟩
end


section
variable {F : FmKit} {T : Kx} {C H H' O O' : Hp} {G : Gm} {W W' : Om} {R : D → Om → Prop} {d e : D} {l m : List D} {te : TE} {t : TT}
theorem ei_imp {wi : TI} {Y Z : List D → Om → Prop} (h : EvI F T wi G W Y) (i : ∀ l W', Y l W' → Z l W') : EvI F T wi G W Z := fun C H O σ w Q q => h C H O σ w Q fun J ds W' H' O' y => q J ds W' H' O' (i _ _ y)
/-- list, tuple or text by a place -/
theorem bo_ixSq {i : Int} {z : D} (hv : Vs W d l) (hi : atI l i = some z) (r : R z W) : Bo F T (rIx T.K) d (.int i) W R := fun C H O di oc ow x y hx hy Q q => by
  obtain ⟨a, xs, e, hs, kl⟩ := hv.sq ow di hx
  have hy : y = .int i := hy
  obtain ⟨v, ev, kv⟩ := kl.atI hi
  subst e hy
  rcases hs with hs | hs
  · exact .inl ⟨a, xs, i, v, rfl, rfl, hs, ev, q z W H O v r (.refl di oc ow) kv⟩
  · exact .inr (.inl ⟨a, xs, i, v, rfl, rfl, hs, ev, q z W H O v r (.refl di oc ow) kv⟩)
theorem bo_ixSqS {i : Int} {x : Str} {c : Nat} (hl : x.length ≤ sizeLine) (hi : atI (lets x) i = some c) (r : R (.str (sg c)) W) : Bo F T (rIx T.K) (.str x) (.int i) W R := op_sc fun H Q k => .inr (.inr ⟨x, i, c, rfl, rfl, hl, hi, k _ r⟩)
theorem bo_ixS {i : Int} {x : Str} {c : Nat} (hl : x.length ≤ sizeLine) (hi : atI (lets x) i = some c) (r : R (.str (sg c)) W) : Bo F T rIxS (.str x) (.int i) W R := op_sc fun H Q k => ⟨x, i, c, rfl, rfl, hl, hi, k _ r⟩
/-- lists joined, frozen -/
theorem bo_cat (h1 : Vt W d l) (h2 : Vt W e m) (hl : l.length + m.length ≤ sizeLine) (r : R (.lst (l ++ m)) W) : Bo F T rCat d e W R := fun C H O di oc ow x y hx hy Q k => by
  obtain ⟨a, us, ea, ha, ku⟩ := h1.at ow di hx
  obtain ⟨b, vs, eb, hb, kv⟩ := h2.at ow di hy
  refine ⟨a, b, us, vs, ea, eb, ha, hb, by rw [ku.len, kv.len]; exact hl, fun z hz => ?_⟩
  obtain ⟨n2, e2, s2⟩ := (Nx.refl (F := F) (T := T) di oc ow).newF (o := .lst (us ++ vs)) hz
  rw [e2]
  exact k _ _ _ _ _ r n2 ⟨z, _, rfl, upd_same, (ku.mono s2).app (kv.mono s2)⟩
theorem den_rep (k : DenL F T H l xs) (n : Nat) : DenL F T H (List.replicate n l).flatten (List.replicate n xs).flatten := by
  induction n with
  | zero => exact rfl
  | succ n ih =>
    rw [List.replicate_succ, List.replicate_succ, List.flatten_cons, List.flatten_cons]
    exact k.app ih
/-- a list n times, frozen -/
theorem bo_repF {k : Int} (h1 : Vt W d l) (hk : 0 ≤ k) (hk2 : k < 2 ^ 63) (hl : l.length * k.toNat ≤ sizeLine) (r : R (.lst (List.replicate k.toNat l).flatten) W) : Bo F T L2.rRep d (.int k) W R := fun C H O di oc ow x y hx hy Q kk => by
  have hy : y = .int k := hy
  subst hy
  obtain ⟨a, us, ea, ha, ku⟩ := h1.at ow di hx
  refine ⟨a, k, us, ea, rfl, ha, by omega, hk2, by rw [ku.len]; exact hl, fun z hz => ?_⟩
  obtain ⟨n2, e2, s2⟩ := (Nx.refl (F := F) (T := T) di oc ow).newF (o := .lst (List.replicate k.toNat us).flatten) hz
  rw [e2]
  exact kk _ _ _ _ _ r n2 ⟨z, _, rfl, upd_same, den_rep (ku.mono s2) _⟩
/-- a tuple n times -/
theorem bo_repT {k : Int} (hne : l ≠ []) (hk : 2 ≤ k) (hk2 : k ≤ 1000) (hl : l.length ≤ 1000) (r : R (.tup (List.replicate k.toNat l).flatten) W) : Bo F T (rRepT T.K) (.tup l) (.int k) W R := fun C H O di oc ow x y hx hy Q kk => by
  have hy : y = .int k := hy
  subst hy
  obtain ⟨a, us, ea, ha, ku⟩ := hx
  refine ⟨a, k, us, ea, rfl, Same.sqT di.same ha, fun e => hne ?_, hk, hk2, by rw [ku.len]; exact hl, fun z hz => ?_⟩
  · have := ku.len
    rw [e] at this
    exact List.length_eq_zero_iff.mp this.symm
  · obtain ⟨n2, e2, s2⟩ := (Nx.refl (F := F) (T := T) di oc ow).newF (o := .tup (List.replicate k.toNat us).flatten) hz
    rw [e2]
    exact kk _ _ _ _ _ r n2 ⟨z, _, rfl, SqT.of upd_same, den_rep (ku.mono s2) _⟩
/-- a comprehension, frozen -/
theorem ev_lcF {vs : List Nat} {wi : TI} {g : TG} (h : EvI F T wi G W fun ds W1 => ∃ I : Nat → List D → Om → Prop, I 0 [] W1 ∧
      (∀ i d acc W', ds[i]? = some d → I i acc W' → Tw F T vs g d (wipeG G vs) fun G2 => EvT F T t G2 W' fun b W2 => if b = true then Ev F T te G2 W2 (fun z W3 => acc.length < sizeLine ∧ I (i + 1) (acc ++ [z]) W3) else I (i + 1) acc W2) ∧
      (∀ acc W', I ds.length acc W' → R (.lst acc) W')) : Ev F T (tLc wi g t te vs) G W R :=
  ev_fz (ev_lc (ei_imp h fun ds W1 ⟨I, h1, h2, h3⟩ => ⟨I, h1, h2, fun acc W' hi p hp => ⟨p, _, W', _, rfl, List.Perm.refl _, .lst _, h3 acc W' hi⟩⟩))
/-- .. each item by itself -/
theorem ev_lcM {vs : List Nat} {wi : TI} {g : TG} (h : EvI F T wi G W fun ds W1 => ∃ es : List D, (∀ (i : Nat) (d e : D), ds[i]? = some d → es[i]? = some e → Tw F T vs g d (wipeG G vs) fun G2 => EvT F T t G2 W1 fun b W2 => b = true ∧ Ev F T te G2 W2 (fun z W3 => z = e ∧ W3 = W1)) ∧ es.length = ds.length ∧ es.length ≤ sizeLine ∧ R (.lst es) W1) : Ev F T (tLc wi g t te vs) G W R :=
  ev_lcF (ei_imp h fun ds W1 ⟨es, h3, h1, h2, h4⟩ => ⟨fun i acc W' => W' = W1 ∧ acc = es.take i, ⟨rfl, by simp⟩, fun i d acc W' hd ⟨e1, e2⟩ => by
    subst e1 e2
    have hi : i < ds.length := (List.getElem?_eq_some_iff.mp hd).1
    have he : es[i]? = some es[i] := List.getElem?_eq_getElem (by omega)
    refine fun H H1 σ v lo s k Q q => h3 i d es[i] hd he H H1 σ v lo s k Q fun G2 σ2 et l2 w2 => q G2 σ2 (fun C H O σ w Q q => et C H O σ w Q fun b W2 H2 O2 ⟨e, ev⟩ n => q b W2 H2 O2 ?_ n) l2 w2
    subst e
    rw [if_pos rfl]
    refine ev.imp fun z W3 ⟨e1, e2⟩ => ⟨by rw [List.length_take]; omega, e2, ?_⟩
    rw [e1, List.take_add_one, he]
    rfl, fun acc W' ⟨e1, e2⟩ => by
    subst e1 e2
    rw [← h1, List.take_length]
    exact h4⟩)
/-- .. with a test -/
theorem ev_lcP {vs : List Nat} {wi : TI} {g : TG} (h : EvI F T wi G W fun ds W1 => ∃ es : List (Bool × D), (∀ (i : Nat) (d : D) (e : Bool × D), ds[i]? = some d → es[i]? = some e → Tw F T vs g d (wipeG G vs) fun G2 => EvT F T t G2 W1 fun b W2 => b = e.1 ∧ if b = true then Ev F T te G2 W2 (fun z W3 => z = e.2 ∧ W3 = W1) else W2 = W1) ∧ es.length = ds.length ∧ es.length ≤ sizeLine ∧ R (.lst ((es.filter (·.1)).map (·.2))) W1) : Ev F T (tLc wi g t te vs) G W R :=
  ev_lcF (ei_imp h fun ds W1 ⟨es, h3, h1, h2, h4⟩ => ⟨fun i acc W' => W' = W1 ∧ acc = ((es.take i).filter (·.1)).map (·.2), ⟨rfl, by simp⟩, fun i d acc W' hd ⟨e1, e2⟩ => by
    subst e1 e2
    have hi : i < ds.length := (List.getElem?_eq_some_iff.mp hd).1
    have he : es[i]? = some es[i] := List.getElem?_eq_getElem (by omega)
    refine fun H H1 σ v lo s k Q q => h3 i d es[i] hd he H H1 σ v lo s k Q fun G2 σ2 et l2 w2 => q G2 σ2 (fun C H O σ w Q q => et C H O σ w Q fun b W2 H2 O2 ⟨e, ev⟩ n => q b W2 H2 O2 ?_ n) l2 w2
    have hf : ((es.take (i + 1)).filter (·.1)) = (es.take i).filter (·.1) ++ if es[i].1 = true then [es[i]] else [] := by
      rw [List.take_add_one, he, List.filter_append]
      congr 1
      simp only [Option.toList_some, List.filter_cons, List.filter_nil]
    have hl : (((es.take i).filter (·.1)).map (·.2)).length < sizeLine := by
      have := List.length_filter_le (fun z : Bool × D => z.1) (es.take i)
      rw [List.length_take] at this
      rw [List.length_map]
      omega
    cases b with
    | true =>
      rw [if_pos rfl] at ev
      refine if_so rfl ?_
      refine ev.imp fun z W3 ⟨e1, e2⟩ => ⟨hl, e2, ?_⟩
      rw [hf, if_pos e.symm, List.map_append, e1]
      rfl
    | false =>
      rw [if_neg Bool.false_ne_true] at ev
      refine if_not rfl ?_
      refine ⟨ev, ?_⟩
      rw [hf, if_neg (by rw [← e]; exact Bool.false_ne_true), List.append_nil], fun acc W' ⟨e1, e2⟩ => by
    subst e1 e2
    rw [← h1, List.take_length]
    exact h4⟩)
end
/-! ### lists of ints from ranges -/
def spotsR (lo hi : Int) : List Int := (List.range (hi - lo).toNat).map fun i => lo + (i : Nat)
theorem rgV_spots (lo hi : Int) : (rgV lo hi).map D.vl = (spotsR lo hi).map D.int := by
  unfold rgV spotsR
  rw [List.map_map, List.map_map]
  rfl
section
variable {F : FmKit} {T : Kx} {G : Gm} {W : Om} {R : D → Om → Prop} {ta tb : TE}
theorem ev_listRg1F (h : Ev F T ta G W fun d W1 => ∃ n : Int, d = .int n ∧ RgOk 0 n ∧ R (.lst ((spotsR 0 n).map D.int)) W1) : Ev F T (tLstRg (tRg1 ta)) G W R :=
  ev_fz (ev_listRg1 (h.imp fun d W1 ⟨n, e, ok, r⟩ => ⟨n, e, ok, fun p hp => ⟨p, _, W1, _, rfl, List.Perm.refl _, .lst _, by rw [rgV_spots]; exact r⟩⟩))
theorem ev_listRg2F (h : Ev F T ta G W fun d W1 => Ev F T tb G W1 fun e W2 => ∃ i j : Int, d = .int i ∧ e = .int j ∧ RgOk i j ∧ R (.lst ((spotsR i j).map D.int)) W2) : Ev F T (tLstRg (tRg2 ta tb)) G W R :=
  ev_fz (ev_listRg2 (h.imp fun d W1 h1 => h1.imp fun e W2 ⟨i, j, e1, e2, ok, r⟩ => ⟨i, j, e1, e2, ok, fun p hp => ⟨p, _, W2, _, rfl, List.Perm.refl _, .lst _, by rw [rgV_spots]; exact r⟩⟩))
end
/-! ### decks -/
theorem cut63 {xs : List D} (h : xs.length ≤ 63) : cutD xs none (some 63) = xs := by
  unfold cutD
  have e1 : HT.sIx xs.length 0 none = 0 := rfl
  have e2 : HT.sIx xs.length xs.length (some 63) = min 63 xs.length := HT.sIx_nat _ _ 63
  rw [e1, e2, List.drop_zero]
  exact List.take_of_length_le (by omega)
/-- a deck at a, c draws done, all that belongs to it in W -/
abbrev Deck := Addr → Int → Om → Prop
abbrev kS (s : Str) : Key := Sum.inr s
@[reducible] def dkA (a l : Addr) (cells : List Int) (s c : Int) : Om := [(a, .dp [(kS "great", .adr l), (kS "mixed", .int s), (kS "lap", .int c)]), (l, .lst (cells.map D.int))]
def DkA : Deck := fun a c W => ∃ (l : Addr) (cells : List Int) (s n : Int), W = dkA a l cells s n ∧ cells.length ≤ 64 ∧ 0 ≤ n ∧ n ≤ c
def S_deck (Dk : Deck) : FS := fun ds W post => ∃ ns : List Int, ds = [.scr (ns.map V.int)] ∧ W = [] ∧ ns.length ≤ 63 ∧ ∀ (a : Addr) (W' : Om), Dk a 0 W' → post (.adr a) W'
def S_draw (Dk : Deck) : FS := fun ds W post => ∃ (a : Addr) (c n : Int), ds = [.adr a, .int n] ∧ Dk a c W ∧ 0 < n ∧ n < 1073741824 ∧ c < 2 ^ 60 ∧
  ∀ (z : Int) (W' : Om), 0 ≤ z → z < n → Dk a (c + 1) W' → post (.int z) W'
def S_pick (Dk : Deck) : FS := fun ds W post => ∃ (a : Addr) (c : Int) (m : D), ds = [.adr a, m] ∧ Dk a c W ∧ c < 2 ^ 60 ∧
  ((∃ l : List D, (m = .lst l ∨ m = .tup l) ∧ l ≠ [] ∧ l.length ≤ 1000000 ∧ ∀ z ∈ l, ∀ W', Dk a (c + 1) W' → post z W') ∨
   ∃ x : Str, m = .str x ∧ x.length ≠ 0 ∧ x.length ≤ 1000000 ∧ ∀ q ∈ lets x, ∀ W', Dk a (c + 1) W' → post (.str (sg q)) W')
theorem at_of_draw {α : Type} {l : List α} {z : Int} (h0 : 0 ≤ z) (h1 : z < l.length) : ∃ y ∈ l, atI l z = some y := by
  have hz : z.toNat < l.length := by omega
  refine ⟨l[z.toNat], List.getElem_mem hz, ?_⟩
  unfold atI ixN
  rw [if_pos h0, if_pos h1]
  simp [hz]
/-- what is asked of law: a list of at most 63 ints in, True out -/
def spTop (K : PySem.W.Frag) : Sp := fun vs H Q _ => ∃ (a : Addr) (ns : List Int), vs = [.ref a] ∧ SqL K H a (ns.map V.int) ∧ ns.length ≤ 63 ∧ ∀ H', Q (.bl true) H'
def S_law : FS := fun ds W post => ∃ ns : List Int, ds = [.scr (ns.map V.int)] ∧ W = [] ∧ ns.length ≤ 63 ∧ ∀ W', post (.bl true) W'
theorem top_sp {K : PySem.W.Frag} {cl : Nat → Addr} {vs : List V} {H : Hp} {Q : VK} {E : XK} (h : spTop K vs H Q E) : spN FK ⟨K, cl⟩ S_law vs H Q E := by
  obtain ⟨a, ns, rfl, hs, hl, q⟩ := h
  refine ⟨[.scr (ns.map V.int)], [], fun _ => none, H, fun _ => none, fun d W' => d = .bl true, ?_, ?_, fun _ _ e => e, ⟨List.nodup_nil, fun _ _ h => by cases h⟩, ⟨_, _, rfl, ⟨a, rfl, hs⟩, rfl⟩, ⟨ns, rfl, rfl, hl, fun W' => rfl⟩, fun d W' H' O' v e n kd => ?_⟩
  · funext b
    rfl
  · intro b o e
    cases e
  · subst e
    have kd : v = .bl true := kd
    subst kd
    exact q _
end N
set_option Elab.async false
set_option linter.all false
set_option maxRecDepth 100000
/-! name = {k: e for ..} on one line, the name a local. -/
namespace L2
open PySem PySem.Spec PyProof.Rows
section
variable {X : Cx}
theorem ps_setDc {i : Nat} {y : Str} {py : Pos} {kx vx tg iter : Expr} {ifs : List Expr} {scope : Scope} {own : List (Str × Nat)} {pos spos : Pos} {wi : TI} {g : TG} {tt : TT} {tk tv : TE} (hc : X.calm = true) (hN : X.N.Nodup) (hy : X.N[i]? = some y) (hyl : X.env.scope.names.lookup y = some .local)
    (hsw : swapsWith (.DictComp kx vx [⟨tg, iter, ifs, 0⟩] scope pos) (some (.Name y py)) spos.line X.env = pure true) (hi : PI X tg iter wi) (ok : BlkOk X.N X.env.scope scope own)
    (hg : ∀ (s : Shared) (H : Hp) (C : Addr) (cl : List (Str × Addr)) (fp : List Addr), PG (X.blk s H scope (compEnvC scope cl C X.env) fp) tg g) (ht : ∀ (s : Shared) (H : Hp) (C : Addr) (cl : List (Str × Addr)) (fp : List Addr), PTs (X.blk s H scope (compEnvC scope cl C X.env) fp) ifs tt)
    (hk : ∀ (s : Shared) (H : Hp) (C : Addr) (cl : List (Str × Addr)) (fp : List Addr), PE (X.blk s H scope (compEnvC scope cl C X.env) fp) kx tk)
    (he : ∀ (s : Shared) (H : Hp) (C : Addr) (cl : List (Str × Addr)) (fp : List Addr), PE (X.blk s H scope (compEnvC scope cl C X.env) fp) vx tv) (hs : ∀ x, foldedSetIterable iter X.env x = pure x := by intro _; rfl) :
    PS X (.Assign [.Name y py] (.DictComp kx vx [⟨tg, iter, ifs, 0⟩] scope pos) spos) (tAsg (tDc wi g tt tk tv (own.map (·.2))) (gName i)) := by
  refine ⟨fun pins s σ H D I h => ?_⟩
  rw [exec_Assign_Name_used _ _ _ _ hsw]
  refine wpAny_bind (wpAny_standAt (wpAny_bind ?_))
  show wpAny _ X.A (do let _ ← comprehension (.DictComp kx vx [⟨tg, iter, ifs, 0⟩] scope pos) scope X.env (firstIterPos [⟨tg, iter, ifs, 0⟩] pos) newDict false (eval iter X.env) (some (assign (.Name y py) X.env))) _ _ s
  have h : tDc wi g tt tk tv (own.map (·.2)) σ H (fun x H1 => gName i x σ H1 D.nx) := h
  refine wpAny_bind (thn (dc_core (Qf := fun _ s' => SP X pins D .next s') hc hN I hi ok hg ht hk he hs h fun L C s' m H' I' q hn f => ?_) fun _ s' hq => wpAny_pure (wpAny_pure hq))
  show wpAny _ _ (assign (.Name y py) X.env (.ref L)) _ _ _
  refine wpAny_assign_Name (store_ok2 (v := V.ref L) I' hN hy (.inl hyl) rfl (fun s2 I2 ⟨a, sb, ha⟩ => ?_) (.inr hyl))
  obtain ⟨f0, f1, f2, f3, f4, f5⟩ := f
  have haC : C ≠ a := by
    rcases ha with z | z
    · rw [z]; exact f1
    · exact fun e => f4 y a z e.symm
  refine ⟨m, hn.sameBut sb haC, fun h3 sb3 => ?_⟩
  exact ⟨_, H', I2.turned (t' := s2.toks) (fun b o hb e => (sb3.2 b hb).trans e) f0 f1 f3 f4 f5, q⟩
theorem sw_trueD {kx vx : Expr} {gs : List Comprehension} {scope : Scope} {pos py : Pos} {y : Str} {l : Nat} {env : Env} (hk : env.scope.kind = .function) (hy : env.scope.names.lookup y = some .local) (hl : (py.line == pos.line) = true)
    (ha : (scope.names.any fun (n, k) => n == y && (k == .local || k == .cell)) = false) : swapsWith (.DictComp kx vx gs scope pos) (some (.Name y py)) l env = pure true := by
  have ky : env.kindOf y = some .local := hy
  have hb : env.blockKind = .function := by unfold Env.blockKind; rw [hk]; rfl
  unfold swapsWith
  simp only [hb, ky, ha, Expr.pos, hl]
  rfl
end
end L2
namespace N
open PySem L2
theorem ev_neg {F : FmKit} {T : Kx} {G : Gm} {W : Om} {R : D → Om → Prop} {ta : TE} {g : Int → V} (h : Ev F T ta G W fun d W1 => ∃ i : Int, d = .int i ∧ R (.vl (g i)) W1) : Ev F T (tUn (rU g) ta) G W R :=
  ev_un (h.imp fun d W1 ⟨i, e, r⟩ => by
    subst e
    exact cl_sc (xs := [.int i]) fun H Q k => ⟨.int i, rfl, i, rfl, k _ r⟩)
end N
set_option Elab.async false
set_option linter.all false
set_option maxRecDepth 100000
/-! Dict displays; slices and reversed lists, frozen. -/
namespace N
open PySem PySem.Spec PyProof.Rows L2
section
variable (F : FmKit) (T : Kx)
def EvPs : List (TE × TE) → Gm → Om → List (Key × D) → (List (Key × D) → Om → Prop) → Prop
  | [], _, W, acc, Y => Y acc W
  | (tk, tv) :: r, G, W, acc, Y => Ev F T tk G W fun y W1 => Ev F T tv G W1 fun z W2 => ∃ k, y = kD k ∧ EvPs r G W2 (acc ++ [(k, z)]) Y
end
def mergeG (ps : List (Key × D)) : List (Key × D) := ps.foldl (fun acc kv => putG acc kv.1 kv.2) []
section
variable {F : FmKit} {T : Kx} {C H H' O O' : Hp} {G : Gm} {W W' : Om} {R : D → Om → Prop} {σ : L2.St} {d e : D} {l m : List D} {te : TE} {t : TT}
theorem EvPs.run {Y : List (Key × D) → Om → Prop} : ∀ {trs : List (TE × TE)} {acc : List (Key × D)} {W : Om} {H O : Hp}, EvPs F T trs G W acc Y → Wd F T C G W H O σ → ∀ Q : List (V × V) → Hp → Prop,
    (∀ (ps : List (Key × D)) (kvs : List (Key × V)) W' H' O', Y (acc ++ ps) W' → Nx F T C W' H H' O' → kvs.map (·.1) = ps.map (·.1) → DenL F T H' (ps.map (·.2)) (kvs.map (·.2)) → ps.length = trs.length → Q (kvs.map fun kv => (kV kv.1, kv.2)) (ov O' H')) → tPairs trs σ (ov O H) Q
  | [], acc, W, H, O, h, w, Q, q => q [] [] W H O (by rw [List.append_nil]; exact h) w.nx rfl rfl rfl
  | (tk, tv) :: r, acc, W, H, O, h, w, Q, q => h C H O σ w _ fun y W1 H1 O1 yv h1 n1 k1 => h1 C H1 O1 σ (w.step n1) _ fun z W2 H2 O2 zv ⟨k, ek, h2⟩ n2 k2 => by
    subst ek
    have k1 : yv = kV k := k1
    subst k1
    refine EvPs.run h2 ((w.step n1).step n2) _ fun ps kvs W' H' O' y n3 e1 e2 e3 => ?_
    refine q ((k, z) :: ps) ((k, zv) :: kvs) W' H' O' (by simpa using y) ((n1.trans n2).trans n3) (by simp [e1]) ⟨zv, _, rfl, k2.mono n3.ext, e2⟩ (by simp [e3])
theorem mergeK_keys : ∀ {ps : List (Key × D)} {kvs : List (Key × V)} {acc : List (Key × D)} {av : List (Key × V)}, kvs.map (·.1) = ps.map (·.1) → av.map (·.1) = acc.map (·.1) → (acc.map (·.1)).Nodup → DenL F T H (ps.map (·.2)) (kvs.map (·.2)) → DenL F T H (acc.map (·.2)) (av.map (·.2)) →
    (mergeK av kvs).map (·.1) = (ps.foldl (fun acc kv => putG acc kv.1 kv.2) acc).map (·.1) ∧ ((ps.foldl (fun acc kv => putG acc kv.1 kv.2) acc).map (·.1)).Nodup ∧ DenL F T H ((ps.foldl (fun acc kv => putG acc kv.1 kv.2) acc).map (·.2)) ((mergeK av kvs).map (·.2))
  | [], [], acc, av, _, e, nd, _, k => ⟨e, nd, k⟩
  | [], _ :: _, _, _, h, _, _, _, _ => by simp at h
  | _ :: _, [], _, _, h, _, _, _, _ => by simp at h
  | (k, z) :: ps, (j, v) :: kvs, acc, av, h, e, nd, ⟨w, r, e1, k1, k2⟩, ka => by
    simp only [List.map_cons, List.cons.injEq] at h e1
    obtain ⟨h1, h2⟩ := h
    obtain ⟨e1, e2⟩ := e1
    subst h1 e1 e2
    exact mergeK_keys (ps := ps) (kvs := kvs) (acc := putG acc j z) (av := putK av j v) h2 ((putG_V av j v) ▸ putG_keys (z := v) (y := z) e) (putG_nodup nd) k2 ((putG_V av j v) ▸ putG_den k1 e ka)
/-- {k: e, ..} -/
theorem ev_disp {trs : List (TE × TE)} (h : EvPs F T trs G W [] fun ps W' => ps.length ≤ 15 ∧ ∀ p, p ∉ akeys W' → R (.adr p) ((p, .dp (mergeG ps)) :: W')) : Ev F T (tDisp trs) G W R := fun C H O σ w Q q p hp => by
  obtain ⟨n0, e0, cp⟩ := w.nx.hide (o := .dK []) hp
  rw [e0]
  refine EvPs.run h ⟨n0.dis, n0.oc, w.loc, n0.own⟩ _ fun ps kvs W' H' O' y n e1 e2 e3 => ?_
  have hO : ov O' H' p = some (.dK []) := ov_own (n.oc p _ upd_same)
  have hl : kvs.length = ps.length := by
    have := congrArg List.length e1
    rwa [List.length_map, List.length_map] at this
  obtain ⟨y1, y2⟩ := y
  refine ⟨hO, kvs, rfl, by rw [hl]; exact y1, ?_⟩
  obtain ⟨n6, e6⟩ := Nx.rehide (o' := .dK (mergeK [] kvs)) n cp
  rw [e6]
  obtain ⟨m1, m2, m3⟩ := mergeK_keys (F := F) (T := T) (H := H') (acc := []) (av := []) e1 rfl List.nodup_nil e2 (show DenL F T H' (([] : List (Key × D)).map (·.2)) (([] : List (Key × V)).map (·.2)) from rfl)
  obtain ⟨n7, np⟩ := n6.show (od := .dp (mergeG ps)) cp ⟨mergeK [] kvs, rfl, m1, m2, m3⟩
  exact q (.adr p) _ H' _ _ (y2 p np) n7 rfl
theorem ca_slF {lo hi : Option Int} (hv : Vl W d l) (r : R (.lst (cutD l lo hi)) W) : Ca F T (fun xs H Q => ∃ x, xs = [x] ∧ rSlL T.K x lo hi H Q) [d] W R :=
  ca_fz (ca_slL hv fun p hp => ⟨p, _, W, _, rfl, List.Perm.refl _, .lst _, r⟩)
theorem ev_revF (h : Ev F T te G W fun d W1 => ∃ l, Vl W1 d l ∧ R (.lst l.reverse) W1) : Ev F T (tRevL T.K te) G W R :=
  ev_fz (ev_revL (h.imp fun d W1 ⟨l, hv, r⟩ => ⟨l, hv, fun p hp => ⟨p, _, W1, _, rfl, List.Perm.refl _, .lst _, r⟩⟩))
theorem ev_isV {v : V} {ta : TE} (h : Ev F T ta G W fun d W1 => d = .vl v ∧ R (.bl (decide (v = .non))) W1) : Ev F T (tIsN ta) G W R := ev_isN (h.imp fun d W1 ⟨e, r⟩ => ⟨_, fun H u k => by
  subst e
  have k : u = v := k
  rw [k], r⟩)
theorem ev_notNV {v : V} {ta : TE} (h : Ev F T ta G W fun d W1 => d = .vl v ∧ R (.bl (!decide (v = .non))) W1) : Ev F T (tNotN ta) G W R := ev_notN (h.imp fun d W1 ⟨e, r⟩ => ⟨_, fun H u k => by
  subst e
  have k : u = v := k
  rw [k], r⟩)
end
section
variable {F : FmKit} {T : Kx} {G : Gm} {W : Om} {R : D → Om → Prop}
theorem eps_nil {acc : List (Key × D)} {Y : List (Key × D) → Om → Prop} (h : Y acc W) : EvPs F T [] G W acc Y := h
theorem eps_cons {tk tv : TE} {r : List (TE × TE)} {acc : List (Key × D)} {Y : List (Key × D) → Om → Prop} (h : Ev F T tk G W fun y W1 => Ev F T tv G W1 fun z W2 => ∃ k, y = kD k ∧ EvPs F T r G W2 (acc ++ [(k, z)]) Y) : EvPs F T ((tk, tv) :: r) G W acc Y := h
theorem exk_str {s : Str} {Z : Key → Prop} (h : Z (Sum.inr s)) : ∃ k, D.vl (.str s) = kD k ∧ Z k := ⟨_, rfl, h⟩
theorem exk_int {i : Int} {Z : Key → Prop} (h : Z (Sum.inl i)) : ∃ k, D.vl (.int i) = kD k ∧ Z k := ⟨_, rfl, h⟩
theorem dg_str {d : D} {s : Str} {ps : List (Key × D)} {z : D} {Y : D → Prop} (hv : Vd W d ps) (hg : getG ps (Sum.inr s) = some z) (r : Y z) : ∃ ps k z, Vd W d ps ∧ D.vl (.str s) = kD k ∧ getG ps k = some z ∧ Y z := ⟨ps, _, z, hv, rfl, hg, r⟩
theorem dg_int {d : D} {i : Int} {ps : List (Key × D)} {z : D} {Y : D → Prop} (hv : Vd W d ps) (hg : getG ps (Sum.inl i) = some z) (r : Y z) : ∃ ps k z, Vd W d ps ∧ D.vl (.int i) = kD k ∧ getG ps k = some z ∧ Y z := ⟨ps, _, z, hv, rfl, hg, r⟩
end
/-! ### tables by their keys -/
theorem putG_new {α : Type} {ps : List (Key × α)} {k : Key} {z : α} (h : k ∉ ps.map (·.1)) : putG ps k z = ps ++ [(k, z)] := by
  unfold putG
  rw [if_neg]
  intro e
  rw [List.any_eq_true] at e
  obtain ⟨q, hq, e⟩ := e
  exact h (List.mem_map.mpr ⟨q, hq, of_decide_eq_true e⟩)
theorem getG_hd {α : Type} (k : Key) (z : α) (ps : List (Key × α)) : getG ((k, z) :: ps) k = some z := by
  unfold getG
  rw [List.find?_cons, decide_eq_true rfl]
  rfl
theorem getG_tl {α : Type} {k j : Key} {y : α} {ps : List (Key × α)} {r : Option α} (h : decide (j = k) = false) (e : getG ps k = r) : getG ((j, y) :: ps) k = r := by
  rw [← e]
  unfold getG
  rw [List.find?_cons, h]
theorem putG_set {α : Type} {k : Key} {z : α} : ∀ {ps : List (Key × α)} {i : Nat}, (ps.map (·.1)).Nodup → (ps.map (·.1))[i]? = some k → putG ps k z = ps.set i (k, z) := fun {ps i} hn hi => by
  have hm : ∀ (ps : List (Key × α)) (i : Nat), (ps.map (·.1)).Nodup → (ps.map (·.1))[i]? = some k → (ps.any fun q => decide (q.1 = k)) = true ∧ ps.map (fun q => if q.1 = k then (q.1, z) else q) = ps.set i (k, z) := fun ps => by
    induction ps with
    | nil => intro i _ h; simp at h
    | cons p ps ih =>
      intro i hn hi
      rw [List.map_cons, List.nodup_cons] at hn
      cases i with
      | zero =>
        have e : p.1 = k := Option.some.inj hi
        refine ⟨by rw [List.any_cons, decide_eq_true e]; rfl, ?_⟩
        rw [List.map_cons, if_pos e, List.set_cons_zero, e]
        congr 1
        have : ∀ q ∈ ps, (if q.1 = k then (q.1, z) else q) = q := fun q hq => by
          rw [if_neg]
          intro e2
          exact hn.1 (List.mem_map.mpr ⟨q, hq, e2.trans e.symm⟩)
        rw [List.map_congr_left this, List.map_id']
      | succ i =>
        rw [List.map_cons, List.getElem?_cons_succ] at hi
        obtain ⟨h1, h2⟩ := ih i hn.2 hi
        refine ⟨by rw [List.any_cons, h1, Bool.or_true], ?_⟩
        have ne : p.1 ≠ k := fun e => hn.1 (by rw [e]; exact List.mem_of_getElem? hi)
        rw [List.map_cons, if_neg ne, List.set_cons_succ, h2]
  obtain ⟨h1, h2⟩ := hm ps i hn hi
  unfold putG
  rw [if_pos h1, h2]
theorem mergeG_acc : ∀ {ps acc : List (Key × D)}, ((acc ++ ps).map (·.1)).Nodup → ps.foldl (fun acc kv => putG acc kv.1 kv.2) acc = acc ++ ps
  | [], acc, _ => by simp
  | p :: ps, acc, h => by
    rw [List.foldl_cons]
    have hn : p.1 ∉ acc.map (·.1) := fun z => by
      rw [List.map_append, List.nodup_append] at h
      exact h.2.2 _ z _ (by simp) rfl
    rw [putG_new hn, mergeG_acc (by simpa using h)]
    simp
theorem mergeG_nd {ps : List (Key × D)} (h : (ps.map (·.1)).Nodup) : mergeG ps = ps := by
  unfold mergeG
  rw [mergeG_acc (by simpa using h)]
  rfl
end N
set_option Elab.async false
set_option linter.all false
set_option maxRecDepth 100000
/-! sum, max, min, any, all; slices of tuples and texts; in a display. -/
namespace N
open PySem PySem.Spec PyProof.Rows L2
section
variable {F : FmKit} {T : Kx} {C H H' O O' : Hp} {G : Gm} {W W' : Om} {R : D → Om → Prop} {d e : D} {l m : List D} {te : TE} {t : TT}
theorem den_ints_inv {ns : List Int} {xs : List V} (kl : DenL F T H (ns.map D.int) xs) : xs = ns.map V.int := by
  rw [show ns.map D.int = (ns.map V.int).map D.vl by rw [List.map_map]; rfl] at kl
  exact DenL.vls_inv kl
theorem den_ints (ns : List Int) : DenL F T H (ns.map D.int) (ns.map V.int) := by
  have := DenL.vls (F := F) (T := T) (H := H) (ns.map V.int)
  rw [List.map_map] at this
  exact this
theorem den_bls_inv {bs : List Bool} {xs : List V} (kl : DenL F T H (bs.map D.bl) xs) : xs = bs.map V.bl := by
  rw [show bs.map D.bl = (bs.map V.bl).map D.vl by rw [List.map_map]; rfl] at kl
  exact DenL.vls_inv kl
theorem ca_sum {ns : List Int} (hv : Vl W d (ns.map D.int)) (r : R (.int ns.sum) W) : Ca F T (rSum T.K) [d] W R := ca_one fun C H O di oc ow x k Q q => by
  obtain ⟨a, xs, e, hs, kl⟩ := hv.sq ow di k
  rw [den_ints_inv kl] at hs
  exact ⟨a, ns, by rw [e], hs, q _ W H O _ r (.refl di oc ow) rfl⟩
theorem ca_max {ns : List Int} {m : Int} (hv : Vl W d (ns.map D.int)) (hm : m ∈ ns) (hy : ∀ y ∈ ns, y ≤ m) (r : R (.int m) W) : Ca F T (rMax T.K) [d] W R := ca_one fun C H O di oc ow x k Q q => by
  obtain ⟨a, xs, e, hs, kl⟩ := hv.sq ow di k
  rw [den_ints_inv kl] at hs
  refine ⟨a, ns, by rw [e], hs, List.length_pos_of_mem hm, fun m' h1 h2 => ?_⟩
  have : m' = m := Int.le_antisymm (hy _ h1) (h2 _ hm)
  subst this
  exact q _ W H O _ r (.refl di oc ow) rfl
theorem ca_min {ns : List Int} {m : Int} (hv : Vl W d (ns.map D.int)) (hm : m ∈ ns) (hy : ∀ y ∈ ns, m ≤ y) (r : R (.int m) W) : Ca F T (rMin T.K) [d] W R := ca_one fun C H O di oc ow x k Q q => by
  obtain ⟨a, xs, e, hs, kl⟩ := hv.sq ow di k
  rw [den_ints_inv kl] at hs
  refine ⟨a, ns, by rw [e], hs, List.length_pos_of_mem hm, fun m' h1 h2 => ?_⟩
  have : m' = m := Int.le_antisymm (h2 _ hm) (hy _ h1)
  subst this
  exact q _ W H O _ r (.refl di oc ow) rfl
theorem ca_any {bs : List Bool} (hv : Vl W d (bs.map D.bl)) (r : R (.bl (bs.any id)) W) : Ca F T (rAny T.K) [d] W R := ca_one fun C H O di oc ow x k Q q => by
  obtain ⟨a, xs, e, hs, kl⟩ := hv.sq ow di k
  rw [den_bls_inv kl] at hs
  exact ⟨a, bs, by rw [e], hs, q _ W H O _ r (.refl di oc ow) rfl⟩
theorem ca_all {bs : List Bool} (hv : Vl W d (bs.map D.bl)) (r : R (.bl (bs.all id)) W) : Ca F T (rAll T.K) [d] W R := ca_one fun C H O di oc ow x k Q q => by
  obtain ⟨a, xs, e, hs, kl⟩ := hv.sq ow di k
  rw [den_bls_inv kl] at hs
  exact ⟨a, bs, by rw [e], hs, q _ W H O _ r (.refl di oc ow) rfl⟩
theorem cut_all {α : Type} {xs : List α} {a b : Nat} (h : a = 0 ∧ b = xs.length) : (xs.drop a).take (b - a) = xs := by
  obtain ⟨rfl, rfl⟩ := h
  simp
/-- a slice of a tuple -/
theorem ca_slT {lo hi : Option Int} (r : R (.tup (cutD l lo hi)) W) : Ca F T (fun xs H Q => ∃ x, xs = [x] ∧ rSlA T.K x lo hi H Q) [.tup l] W R := ca_one fun C H O di oc ow x k Q q => by
  obtain ⟨a, xs, e, hs, kl⟩ := id k
  refine ⟨x, rfl, a, xs, e, Same.sqT di.same hs, fun h => ?_, fun h p hp => ?_⟩
  · subst e
    refine q (.tup (cutD l lo hi)) W H O _ r (.refl di oc ow) ?_
    have : cutD l lo hi = l := cut_all (by rw [kl.len] at h; exact h)
    rw [this]
    exact k
  · obtain ⟨n2, e2, s2⟩ := (Nx.refl (F := F) (T := T) di oc ow).newF (o := .tup (cutV xs lo hi)) hp
    rw [e2]
    exact q _ _ _ _ _ r n2 ⟨p, _, rfl, SqT.of upd_same, (kl.cut lo hi).mono s2⟩
/-- a slice of a text -/
theorem ca_slS {lo hi : Option Int} {x : Str} (hl : x.length ≤ sizeLine) (r : R (.str (cutS x lo hi)) W) : Ca F T (fun xs H Q => ∃ x, xs = [x] ∧ rSlS x lo hi H Q) [.str x] W R := cl_sc (xs := [.str x]) fun H Q k => ⟨_, rfl, x, rfl, hl, k _ r⟩
theorem bo_inT2 {neg : Bool} {x a b : V} (hx : flatV x = true) (ha : flatV a = true) (hb : flatV b = true) (r : R (.bl (if neg then !inV x [a, b] else inV x [a, b])) W) : Bo F T (rIn T.K neg) (.vl x) (.tup [.vl a, .vl b]) W R :=
  bo_in (xs := [a, b]) (.inr rfl) hx (by simp [ha, hb]) r
theorem bo_inT3 {neg : Bool} {x a b c : V} (hx : flatV x = true) (ha : flatV a = true) (hb : flatV b = true) (hc : flatV c = true) (r : R (.bl (if neg then !inV x [a, b, c] else inV x [a, b, c])) W) : Bo F T (rIn T.K neg) (.vl x) (.tup [.vl a, .vl b, .vl c]) W R :=
  bo_in (xs := [a, b, c]) (.inr rfl) hx (by simp [ha, hb, hc]) r
end
theorem inV_str {x : Str} : ∀ {l : List Str}, inV (.str x) (l.map V.str) = decide (x ∈ l)
  | [] => rfl
  | a :: l => by
    have ih := inV_str (x := x) (l := l)
    unfold inV at ih ⊢
    rw [List.map_cons, List.any_cons, ih]
    have : eqV (V.str a) (V.str x) = decide (x = a) := by
      show (a == x) = _
      rw [Bool.eq_iff_iff]
      simp
      exact eq_comm
    rw [this]
    rw [Bool.eq_iff_iff]
    simp
theorem inV_int' {h : Int} : ∀ {l : List Int}, inV (.int h) (l.map V.int) = decide (h ∈ l)
  | [] => rfl
  | a :: l => by
    have ih := inV_int' (h := h) (l := l)
    unfold inV at ih ⊢
    rw [List.map_cons, List.any_cons, ih]
    have : eqV (V.int a) (V.int h) = decide (h = a) := by
      show (a == h) = _
      rw [Bool.eq_iff_iff]
      simp
      exact eq_comm
    rw [this]
    rw [Bool.eq_iff_iff]
    simp
theorem flat_strs' (l : List Str) : (l.map V.str).all flatV = true := by
  rw [List.all_eq_true]
  intro x hx
  obtain ⟨i, _, e⟩ := List.mem_map.mp hx
  subst e
  rfl
theorem flat_ints' (l : List Int) : (l.map V.int).all flatV = true := by
  rw [List.all_eq_true]
  intro x hx
  obtain ⟨i, _, e⟩ := List.mem_map.mp hx
  subst e
  rfl
section
variable {X : Cx} {K : PySem.W.Frag}
theorem cr_sumK (hK : X.K = K) (hc : X.calm = true) : CallR X (.builtin "sum") (rSum K) := hK ▸ cr_sum hc
theorem cr_maxK (hK : X.K = K) (hc : X.calm = true) : CallR X (.builtin "max") (rMax K) := hK ▸ cr_max hc
theorem cr_minK (hK : X.K = K) (hc : X.calm = true) : CallR X (.builtin "min") (rMin K) := hK ▸ cr_min hc
theorem cr_anyK (hK : X.K = K) (hc : X.calm = true) : CallR X (.builtin "any") (rAny K) := hK ▸ cr_any hc
theorem cr_allK (hK : X.K = K) (hc : X.calm = true) : CallR X (.builtin "all") (rAll K) := hK ▸ cr_all hc
theorem ix_seqK (hK : X.K = K) : IxR X (rIx K) := hK ▸ ix_seq
theorem sl_tupAK (hK : X.K = K) : SlR X (rSlA K) := hK ▸ sl_tupA
theorem cr_sortedSK (hK : X.K = K) : CallR X (.builtin "sorted") (rSortedS K) := hK ▸ cr_sortedS
theorem cr_setTK {w : World} (hK : X.K = K) (hw : X.w = w) (hc : X.calm = true) : CallR X (.type "set") (rSetT K w) := by
  subst hK hw
  exact cr_setT hc
theorem cr_sortedTK {w : World} (hw : X.w = w) (hc : X.calm = true) : CallR X (.builtin "sorted") (rSortedT w) := by
  subst hw
  exact cr_sortedT hc
end
/-! ### short walks, turn by turn -/
section
variable (F : FmKit) (T : Kx)
def Unr (vs : List Nat) (g : TG) (t : TT) (te : TE) (G0 : Gm) (Y : List D → Om → Prop) : List D → List D → Om → Prop
  | [], acc, W => Y acc W
  | d :: ds, acc, W => Tw F T vs g d G0 fun G2 => EvT F T t G2 W fun b W2 => if b = true then Ev F T te G2 W2 (fun z W3 => acc.length < sizeLine ∧ Unr vs g t te G0 Y ds (acc ++ [z]) W3) else Unr vs g t te G0 Y ds acc W2
def Swu (g : TG) (ts : TS) (E : En) : List D → Gm → Om → Prop
  | [], G, W => E.nx G W
  | d :: ds, G, W => Tg F T g d G fun G2 => Sw F T ts G2 W { E with nx := Swu g ts E ds, ct := Swu g ts E ds, bk := E.nx }
end
section
variable {F : FmKit} {T : Kx} {G : Gm} {W : Om} {R : D → Om → Prop} {te : TE} {t : TT} {vs : List Nat} {wi : TI} {g : TG} {ts : TS} {E : En} {d : D} {ds acc : List D} {Y : List D → Om → Prop}
theorem unr_nil (h : Y acc W) : Unr F T vs g t te G Y [] acc W := h
theorem unr_cons (h : Tw F T vs g d G fun G2 => EvT F T t G2 W fun b W2 => if b = true then Ev F T te G2 W2 (fun z W3 => acc.length < sizeLine ∧ Unr F T vs g t te G Y ds (acc ++ [z]) W3) else Unr F T vs g t te G Y ds acc W2) : Unr F T vs g t te G Y (d :: ds) acc W := h
theorem swu_nil (h : E.nx G W) : Swu F T g ts E [] G W := h
theorem swu_cons (h : Tg F T g d G fun G2 => Sw F T ts G2 W { E with nx := Swu F T g ts E ds, ct := Swu F T g ts E ds, bk := E.nx }) : Swu F T g ts E (d :: ds) G W := h
theorem ev_lcU (h : EvI F T wi G W fun ds W1 => Unr F T vs g t te (wipeG G vs) (fun acc W' => R (.lst acc) W') ds [] W1) : Ev F T (tLc wi g t te vs) G W R :=
  ev_lcF (ei_imp h fun ds W1 u => ⟨fun i acc W' => Unr F T vs g t te (wipeG G vs) (fun acc W' => R (.lst acc) W') (ds.drop i) acc W', u, fun i d acc W' hd u => by
    have e : ds.drop i = d :: ds.drop (i + 1) := by
      have hi : i < ds.length := (List.getElem?_eq_some_iff.mp hd).1
      rw [List.drop_eq_getElem_cons hi]
      congr 1
      rw [List.getElem?_eq_getElem hi] at hd
      exact Option.some.inj hd
    have u : Unr F T vs g t te (wipeG G vs) (fun acc W' => R (.lst acc) W') (ds.drop i) acc W' := u
    rw [e] at u
    exact u, fun acc W' u => by
    have u : Unr F T vs g t te (wipeG G vs) (fun acc W' => R (.lst acc) W') (ds.drop ds.length) acc W' := u
    rw [List.drop_length] at u
    exact u⟩)
theorem sw_forU (h : EvI F T wi G W fun ds W1 => Swu F T g ts E ds G W1) : Sw F T (tFor wi g ts) G W E :=
  sw_for (ei_imp h fun ds W1 u => ⟨fun i G' W' => Swu F T g ts E (ds.drop i) G' W', u, fun i d G' W' hd u => by
    have e : ds.drop i = d :: ds.drop (i + 1) := by
      have hi : i < ds.length := (List.getElem?_eq_some_iff.mp hd).1
      rw [List.drop_eq_getElem_cons hi]
      congr 1
      rw [List.getElem?_eq_getElem hi] at hd
      exact Option.some.inj hd
    have u : Swu F T g ts E (ds.drop i) G' W' := u
    rw [e] at u
    exact u, fun G' W' u => by
    have u : Swu F T g ts E (ds.drop ds.length) G' W' := u
    rw [List.drop_length] at u
    exact u⟩)
theorem acc_ok (h : acc.length ≤ 1000 := by simp) : acc.length < sizeLine := by
  have := sizeLine_eq
  omega
end
section
variable {F : FmKit} {T : Kx} {W : Om} {R : D → Om → Prop}
theorem ca_intBt {b : Bool} (hb : b = true) (h : R (.int 1) W) : Ca F T (fun xs H Q => (∃ i, xs = [.int i] ∧ Q (.int i) H) ∨ ∃ k, xs = [.bl k] ∧ Q (.int (if k then 1 else 0)) H) [.bl b] W R := ca_intB (by rw [hb]; exact h)
theorem ca_intBf {b : Bool} (hb : b = false) (h : R (.int 0) W) : Ca F T (fun xs H Q => (∃ i, xs = [.int i] ∧ Q (.int i) H) ∨ ∃ k, xs = [.bl k] ∧ Q (.int (if k then 1 else 0)) H) [.bl b] W R := ca_intB (by rw [hb]; exact h)
end
section
variable {F : FmKit} {T : Kx} {C H H' O O' : Hp} {W : Om} {R : D → Om → Prop} {S : FS} {l : List D}
theorem tyd_tup : TyD F T W (.tup l) (.type "tuple") := fun C H O di ow x k => by
  obtain ⟨a, xs, e, hs, kl⟩ := k
  subst e
  rcases Same.sqT di.same hs with (h | ⟨o, h⟩) | ⟨o, its, n, h1, h2, _⟩
  · exact .base (.tup h)
  · exact .fTuple h
  · exact .kTuple h1 h2
theorem isi_tup (r : R (.bl true) W) : Ca F T (rIsi T.K) [.tup l, .vl (.ty "tuple")] W R := ca_isi (.ty "tuple") tyd_tup (by unfold PySem.W.kitOne; rfl) r
theorem isi_fm {f : Fm} {ns : List Str} (z : CZ T.K (T.cl 0) ns) (r : R (.bl true) W) : Ca FK T (rIsi T.K) [.fm f, .adr (T.cl 0)] W R := isi_ins (.fm f) z.ins r
theorem ca_lenF {f : Fm} (h : Hand S [.fm f] W fun d' W' => (∃ n : Int, d' = .int n ∧ 0 ≤ n ∧ n < 2 ^ 63) ∧ R d' W') : Ca FK T (rLenO (T.cl 0) (spN FK T S)) [.fm f] W R := ca_lenO (.fm f) h
end
theorem vp_nilF {W : Om} : Vp W (.lst []) (.list []) := .inl rfl
theorem pdL_strs (l : List Str) : pdL (l.map D.str) = some (l.map .str) := pdL_map D.str .str (fun _ => rfl) l
theorem pdL_ints (l : List Int) : pdL (l.map D.int) = some (l.map .int) := pdL_map D.int .int (fun _ => rfl) l
end N
set_option Elab.async false
set_option linter.all false
set_option maxRecDepth 100000
set_option maxHeartbeats 4000000
/-! set(list of ints), sorted(set). -/
namespace N
open PySem PySem.Spec PyProof.Rows L2
section
variable {P : Program} {w : World} {A : Around} {E : Value → Shared → Prop} {s : Shared}
set_option maxRecDepth 100000 in
/-- a set that is made of a list of ints -/
theorem set_of_list {l : Addr} {items : Array Value} (ns : List Int) {Q : Value → Shared → Prop} (hh : A.handled = none) (hl : s.heap.IsList l items) (hit : IntsAre items.toList ns) (hb : ns.length + 1 < scanBound)
    (h : ∀ (h' : Heap) (tk c : Nat), SetR w h' s.heap.objs.size (fun j => decide (j ∈ ns)) c → c ≤ ns.length → (∀ b o, s.heap.get? b = some o → h'.get? b = some o) → Q (.ref s.heap.objs.size) { s with heap := h', toks := tk }) :
    wpAny (model P w) A (call (.type "set") [.ref l]) Q E s := by
  have hisz : items.size = ns.length := by
    have q := IntsAre.length hit
    rwa [Array.length_toList] at q
  obtain ⟨c, tl, hmro⟩ := F.called_set.mro
  have hmade := F.called_set.made
  have hsub := F.called_set.sub
  refine wpAny_call (codeAny_of_tree ?_)
  show wpAny _ _ (callAny (.type "set") _) _ _ _
  refine wpAny_pure ⟨Code.quiet_builtin _ (by decide +kernel), codeAny_builtin F.entry_type_call ?_⟩
  rw [Around.under_plain (weight_type_call_type "set" [.ref l] []) rfl]
  have h1 := F.called_set.notType
  have h2 := F.called_set.canCreate
  have hct := F.typeCall_set_1 (.ref l)
  repeat (any_goals (first | assumption | wp_step))
  refine codeAny_mono (code_set_led1 (.ref l) (E := E) (Q₁ := fun obj s₁ => obj = .ref s.heap.objs.size ∧ s₁ = { s with heap := s.heap.push { cls := .type "set", dict := none, data := .set #[] 0 (.fresh 0 0 (!w.params.followText "set-order")) } }) ⟨rfl, rfl⟩) fun r s₁ hr => ?_
  cases r with
  | error e => exact hr
  | ok fl =>
    cases fl with
    | ret obj =>
      obtain ⟨rfl, rfl⟩ := hr
      have hS : (s.heap.push { cls := .type "set", dict := none, data := .set #[] 0 (.fresh 0 0 (!w.params.followText "set-order")) }).get? s.heap.objs.size = some { cls := .type "set", dict := none, data := .set #[] 0 (.fresh 0 0 (!w.params.followText "set-order")) } := Heap.get?_push_size _ rfl
      have hT : Shared.TypeIs { s with heap := s.heap.push { cls := .type "set", dict := none, data := .set #[] 0 (.fresh 0 0 (!w.params.followText "set-order")) } } (.ref s.heap.objs.size) "set" := ⟨_, hS, rfl⟩
      have hli := F.called_set.init.lookup
      have hbi := F.called_set.init.bind (.ref s.heap.objs.size)
      repeat (any_goals (first | assumption | wp_step))
      refine codeAny_mono (codeAny_call_builtin (R := wants (fun r s₂ => r = .none ∧ ∃ h' tk c, s₂ = { s with heap := h', toks := tk } ∧ SetR w h' s.heap.objs.size (fun j => decide (j ∈ ns)) c ∧ c ≤ ns.length ∧
          (∀ b o, s.heap.get? b = some o → h'.get? b = some o)) E) F.called_set.init.plain F.entry_set_init (check_set_init_1 hT ?_)) fun r₂ s₂ hr₂ => ?_
      · obtain ⟨ol, hol, hcl, nl, hdl⟩ := hl
        obtain ⟨ocls, odict, odata, oslots⟩ := ol
        simp only at hcl hdl
        subst hcl; subst hdl
        have hol' : (s.heap.push { cls := .type "set", dict := none, data := .set #[] 0 (.fresh 0 0 (!w.params.followText "set-order")) }).get? l = some { cls := .type "list", dict := odict, data := .seq items nl, slots := oslots } := Heap.get?_push_of_some _ hol
        have hsls := F.sub_list_set
        have hslf := F.sub_list_frozenset
        have hne : (Value.type "list" == Value.type "dict") = false := by decide
        have hl1 : (s.heap.push { cls := .type "set", dict := none, data := .set #[] 0 (.fresh 0 0 (!w.params.followText "set-order")) }).IsList l items := ⟨_, hol', rfl, nl, rfl⟩
        unfold Builtin.«set.__init__» noKeywords Builtin.Frozenset.updateFrom
        generalize hPI : pyIter = PI
        wp_walk
        subst hPI
        refine wpAny_pyIter_list hl1 ?_
        refine wpAny_bind (wpAny_runValue ?_)
        have hlS : l < s.heap.objs.size := Heap.lt_size hol
        have hh3 : A.in1.in1.in1.handled = none := by simp [hh]
        have hneI : l ≠ (s.heap.push { cls := .type "set", dict := none, data := .set #[] 0 (.fresh 0 0 (!w.params.followText "set-order")) }).objs.size := by
          rw [Heap.size_push]; exact Nat.ne_of_lt (Nat.lt_succ_of_lt hlS)
        have hSf : s.heap.objs.size ∉ [(s.heap.push { cls := .type "set", dict := none, data := .set #[] 0 (.fresh 0 0 (!w.params.followText "set-order")) }).objs.size, l] := by
          rw [Heap.size_push]; simp only [List.mem_cons, List.mem_singleton, List.not_mem_nil, or_false, not_or]
          exact ⟨Nat.ne_of_lt (Nat.lt_succ_self _), Nat.ne_of_gt hlS⟩
        have hval : ∀ (i : Nat) (v : Value), items[i]? = some v → ∃ k t, ns[i]? = some k ∧ v = .int k t := fun i v hv => by
          have hi : i < ns.length := by rw [← hisz]; exact (Array.getElem?_eq_some_iff.mp hv).1
          obtain ⟨t, e⟩ := PyProof.Rows.IntsAre.int_at hit i v (by rw [Array.getElem?_toList]; exact hv)
          refine ⟨ns[i], t, List.getElem?_eq_getElem hi, ?_⟩
          rw [e, List.getD_eq_getElem?_getD, List.getElem?_eq_getElem hi] <;> rfl
        refine set_update_ints ((Walks.list hh3 _ l hneI items).toS) s.heap.objs.size hSf ns hisz hb hval (items.size - 0) 0 _ (by omega) (Nat.zero_le _)
          ⟨⟨_, Heap.get?_push_size _ rfl, rfl, rfl⟩, (hl1.push _)⟩ ?hS0 ?hR
        case hS0 => exact ⟨0, Nat.le_refl 0, setR_new_at (Heap.get?_push_of_some _ hS)⟩
        case hR =>
          intro s' c' hm hc' hS'
          obtain ⟨h', g2, d', tk', os'⟩ := s'
          have eg : g2 = s.gens := hm.gens
          have ed : d' = s.drawn := hm.drawn
          have eo : os' = s.os := hm.os
          subst eg; subst ed; subst eo
          show wpAny _ _ _ _ _ _
          refine wpAny_pure ?_
          show wpAny _ _ (ret Value.none) _ _ _
          rw [hisz] at hc'
          refine wpAny_pure ⟨rfl, h', tk', c', rfl, hS', hc', fun b o e => ?_⟩
          have hb0 : b < s.heap.objs.size := Heap.lt_size e
          refine hm.heap b o ?_ (Heap.get?_push_of_some _ (Heap.get?_push_of_some _ e))
          rw [Heap.size_push]
          simp only [List.mem_cons, List.mem_singleton, List.not_mem_nil, or_false, not_or]
          exact ⟨Nat.ne_of_lt hb0, Nat.ne_of_lt (Nat.lt_succ_of_lt hb0)⟩
      · cases r₂ with
        | error e => exact hr₂
        | ok fl₂ =>
          cases fl₂ with
          | ret r =>
            obtain ⟨rfl, h', tk, c', rfl, hS', hc', hk'⟩ := hr₂
            repeat (any_goals (first | assumption | wp_step))
            exact h _ _ _ hS' hc' hk'
          | _ => exact hr₂.elim
    | _ => exact hr.elim
end
def rSetI (K : PySem.W.Frag) (w : World) : List V → Hp → VK → Prop := fun xs H Q => ∃ (l : Addr) (ns : List Int), xs = [.ref l] ∧ SqL K H l (ns.map V.int) ∧ ns.length < 64 ∧ ∀ a c, c ≤ ns.length → H a = none → Q (.ref a) (upd H a (SetO w a (fun j => decide (j ∈ ns)) c))
theorem cr_setI {X : Cx} (hc : X.calm = true) : CallR X (.type "set") (rSetI X.K X.w) := by
  intro pins s σ H xs us Q I r h
  obtain ⟨l, ns, rfl, hl, hz, q⟩ := h
  rw [Vals.ref1 r]
  obtain ⟨its, rv, pl, hlen⟩ := I.list hl
  have hn : H s.heap.objs.size = none := I.hok.fresh (Nat.le_refl _)
  have hsb : (64 : Nat) < scanBound := by decide
  refine set_of_list (P := X.prog) (w := X.w) ns (I.ok.hd hc) pl.isList (by simpa using ints_of_vals rv) (by omega) fun h' tk c R hc' k => ?_
  exact ⟨.ref s.heap.objs.size, upd H s.heap.objs.size (SetO X.w s.heap.objs.size (fun j => decide (j ∈ ns)) c), I.laid (t' := tk) k (Nat.le_refl _) (setO_new R), rfl, q _ c hc' hn⟩
section
variable {F : FmKit} {T : Kx} {C H H' O O' : Hp} {G : Gm} {W W' : Om} {R : D → Om → Prop} {d : D} {w : World}
theorem ca_setI {ns : List Int} (hv : Vl W d (ns.map D.int)) (hz : ns.length < 64) (r : ∀ p c, p ∉ akeys W → c ≤ ns.length → R (.adr p) ((p, .any (SetO w p (fun j => decide (j ∈ ns)) c)) :: W)) : Ca F T (rSetI T.K w) [d] W R := ca_one fun C H O di oc ow x k Q q => by
  obtain ⟨a, xs, e, hs, kl⟩ := hv.sq ow di k
  have : xs = ns.map V.int := by
    have := kl
    rw [show ns.map D.int = (ns.map V.int).map D.vl by rw [List.map_map]; rfl] at this
    exact DenL.vls_inv this
  subst this
  refine ⟨a, ns, by rw [e], hs, hz, fun p c hc hp => ?_⟩
  obtain ⟨n2, e2, np⟩ := (Nx.refl (F := F) (T := T) di oc ow).newO (od := .any (SetO w p (fun j => decide (j ∈ ns)) c)) (o := SetO w p (fun j => decide (j ∈ ns)) c) hp rfl
  rw [e2]
  exact q _ _ H _ _ (r p c np hc) n2 rfl
theorem ca_sortedI {p : Addr} {S : Int → Bool} {n : Nat} (hm : (p, OD.any (SetO w p S n)) ∈ W) (hn : n < 64) (r : ∀ (ns : List Int) (q : Addr), q ∉ akeys W → ns.Pairwise (· < ·) → (∀ k : Int, k ∈ ns ↔ S k = true) → ns.length = n → R (.adr q) ((q, .lst (ns.map D.int)) :: W)) : Ca F T (rSortedSet w) [.adr p] W R := ca_one fun C H O di oc ow x k Q q => by
  have k : x = .ref p := k
  have h1 : O p = some (SetO w p S n) := (ow.at_ p _ hm).2
  refine ⟨p, S, n, by rw [k], ov_own h1, hn, fun ns p2 hp hmem hl hp2 => ?_⟩
  obtain ⟨n2, e2, np⟩ := (Nx.refl (F := F) (T := T) di oc ow).newO (od := .lst (ns.map D.int)) (o := .lst (ns.map V.int)) hp2 ⟨_, rfl, by
    have := DenL.vls (F := F) (T := T) (H := H) (ns.map V.int)
    rw [List.map_map] at this
    exact this⟩
  rw [e2]
  exact q _ _ H _ _ (r ns p2 np hp hmem hl) n2 rfl
end
end N
set_option Elab.async false
set_option linter.all false
set_option maxRecDepth 100000
/-! == and != of a list beside an empty one; extend; get. -/
namespace N
open PySem PySem.Spec PyProof.Rows L2 PySem.SeqAt
def rNeE (K : PySem.W.Frag) : R2 := fun x y H Q => ∃ (a b : Addr) (xs : List V), x = .ref a ∧ y = .ref b ∧ SqL K H a xs ∧ SqL K H b [] ∧ Q (.bl (!xs.isEmpty)) H
def rEqE (K : PySem.W.Frag) : R2 := fun x y H Q => ∃ (a b : Addr) (xs : List V), x = .ref a ∧ y = .ref b ∧ SqL K H a xs ∧ SqL K H b [] ∧ Q (.bl xs.isEmpty) H
theorem op_neE {X : Cx} (hu' : X.A.units + 64 < cLine) : OpR X (compareOp .NotEq) (rNeE X.K) := by
  have hu : X.A.units < cLine := Nat.lt_of_le_of_lt (Nat.le_add_right _ _) hu'
  intro pins s σ H x y v u Q I rx ry h
  obtain ⟨a, b, xs, rfl, rfl, ha, hb, q⟩ := h
  cases rx
  cases ry
  obtain ⟨its, r1, p1, _⟩ := I.list ha
  obtain ⟨its2, r2, p2, _⟩ := I.list hb
  cases r2
  cases r1 with
  | nil =>
    have := RcNeAt.lists (e := fun _ => true) p1.isList p2.isList rfl hu (fun j h1 _ => absurd h1 (Nat.not_lt_zero _)) X.prog X.w (E := X.xe) (Q := EP X pins σ Q) ⟨.bl false, H, I, rfl, q⟩
    exact this
  | cons h t =>
    exact RcNeAt.lists_lengths p1.isList p2.isList (by simp) hu X.prog X.w (E := X.xe) (Q := EP X pins σ Q) ⟨.bl true, H, I, rfl, q⟩
theorem op_eqE {X : Cx} (hu' : X.A.units + 64 < cLine) : OpR X (compareOp .Eq) (rEqE X.K) := by
  have hu : X.A.units < cLine := Nat.lt_of_le_of_lt (Nat.le_add_right _ _) hu'
  intro pins s σ H x y v u Q I rx ry h
  obtain ⟨a, b, xs, rfl, rfl, ha, hb, q⟩ := h
  cases rx
  cases ry
  obtain ⟨its, r1, p1, _⟩ := I.list ha
  obtain ⟨its2, r2, p2, _⟩ := I.list hb
  cases r2
  cases r1 with
  | nil => exact eq_listAt (e := fun _ => true) p1.isList p2.isList rfl hu (fun j h1 _ => absurd h1 (Nat.not_lt_zero _)) ⟨.bl true, H, I, rfl, q⟩
  | cons h t => exact eq_list_lengthsAt p1.isList p2.isList (by simp) hu ⟨.bl false, H, I, rfl, q⟩
section
variable {F : FmKit} {T : Kx} {C H H' O O' : Hp} {G : Gm} {W W' : Om} {R : D → Om → Prop} {d e : D} {l m : List D} {te : TE} {t : TT} {tr : TA}
theorem den_empty {l : List D} {xs : List V} (kl : DenL F T H l xs) : xs.isEmpty = l.isEmpty := by
  have := kl.len
  cases l <;> cases xs <;> simp at this ⊢
theorem bo_neE (h1 : Vl W d l) (h2 : Vl W e []) (r : R (.bl (!l.isEmpty)) W) : Bo F T (rNeE T.K) d e W R := fun C H O di oc ow x y hx hy Q k => by
  obtain ⟨a, xs, ea, ha, ka⟩ := h1.sq ow di hx
  obtain ⟨b, ys, eb, hb, kb⟩ := h2.sq ow di hy
  have kb : ys = [] := kb
  subst kb
  refine ⟨a, b, xs, ea, eb, ha, hb, ?_⟩
  rw [den_empty ka]
  exact k _ W H O _ r (.refl di oc ow) rfl
theorem bo_eqE (h1 : Vl W d l) (h2 : Vl W e []) (r : R (.bl l.isEmpty) W) : Bo F T (rEqE T.K) d e W R := fun C H O di oc ow x y hx hy Q k => by
  obtain ⟨a, xs, ea, ha, ka⟩ := h1.sq ow di hx
  obtain ⟨b, ys, eb, hb, kb⟩ := h2.sq ow di hy
  have kb : ys = [] := kb
  subst kb
  refine ⟨a, b, xs, ea, eb, ha, hb, ?_⟩
  rw [den_empty ka]
  exact k _ W H O _ r (.refl di oc ow) rfl
/-- l.extend(m) -/
theorem ev_extend {to : TE} (h : Ev F T to G W fun d W0 => ∃ a l0 W01 W02, d = .adr a ∧ W0 = W01 ++ (a, .lst l0) :: W02 ∧ EvA F T tr G W0 fun ds W' => ∃ l m W1 W2, W' = W1 ++ (a, .lst l) :: W2 ∧ ds = [.lst m] ∧ l.length + m.length ≤ sizeLine ∧ R .non (W1 ++ (a, .lst (l ++ m)) :: W2)) :
    Ev F T (tBM T.K "list" rExtend to tr) G W R := ev_bm (h.imp fun d W0 ⟨a, l0, W01, W02, e1, e2, ha⟩ => by
  subst e1
  refine ⟨fun C H O di oc ow x kx => ?_, ?_⟩
  · have kx : x = .ref a := kx
    subst kx e2
    obtain ⟨xs, e, _⟩ := own_lst ow
    exact .inl ⟨rfl, xs, SqL.of (ov_own e)⟩
  · refine fun C H O σ w Q q => ha C H O σ w Q fun ds W' H' O' vs ⟨l, m, W1, W2, e3, e4, hl, r⟩ n k => q ds W' H' O' vs ?_ n k
    subst e3 e4
    intro C H O di oc ow x vs kx kv Q q
    have kx : x = .ref a := kx
    obtain ⟨v, r', ev, ⟨b, zs, eb, hb, kz⟩, er⟩ := kv
    have er : r' = [] := er
    subst kx ev er eb
    obtain ⟨xs, e, kl⟩ := own_lst ow
    refine ⟨a, b, xs, zs, rfl, rfl, ov_own e, di.same _ _ hb, by rw [kl.len, kz.len]; exact hl, ?_⟩
    obtain ⟨n2, e2⟩ := (Nx.refl di oc ow).write (o := .lst (xs ++ zs)) (od2 := .lst (l ++ m)) ⟨_, rfl, kl.app kz⟩
    rw [e2]
    exact q .non _ _ _ _ r n2 rfl)
end
end N
set_option Elab.async false
set_option linter.all false
set_option maxRecDepth 100000
/-! Star calls of classes; d.get(k, x); methods called by names; dict(pairs). -/
namespace N
open PySem PySem.Spec PyProof.Rows L2
open C8 (Cal Met Mak InsC pe_c pe_mt pe_mt0 pe_mk)
section
variable {X : Cx} {k j : Nat} {x m : Str} {C : Addr} {sp : Sp} {e o : Expr} {es : List Expr} {t ta : TA} {p pos apos : Pos}
theorem pe_mkRS (c : MakR X.prog X.w X.K X.mg X.base k x C sp) (hr : Room j X.A) (hk : k + 1 ≤ j) (hg : Gl X x) (ha : PA X (e :: es) t) (hdb : (x == ("__debug__" : Str)) = false := by decide)
    (he : starEach (e :: es) X.env = (false, eval e X.env) :: starEach es X.env := by rfl) (hst : (backTo pos (starEach es X.env)).any (·.1) = true := by rfl) : PE X (.Call (.Name x p) (e :: es) [] pos) (StX.tMakeR C sp E0 t) := by
  obtain ⟨f, M, F, hm⟩ := c.ex
  refine ⟨fun pins s σ H Q I h => ?_⟩
  refine wpAny_Call_Name_kw (ld_glob I hg hm ?_ hdb)
  refine PySem.W.callWith_S2 (h₀ := X.base) I.ok.mod.kin M.kp (thn (ha.run pos pins s σ H _ I h) fun us s1 ⟨vs, H1, I1, r, q⟩ => ⟨I1.kIn, ?_⟩) he hst
  exact StX.run_makeR M F (hr.mono hk) pass0 I1 r q
/-- a method called by names alone -/
structure MetK (P : Program) (w : World) (K : PySem.W.Frag) (mg : Str → Option Value) (base : Heap) (k : Nat) (C : Addr) (m : Str) (ks : List Str) (gV : List V → List V → List V) (sp : Sp) : Prop where
  ex : ∃ (f : Addr) (fd : FuncData) (ps : List Str) (g : List Value → List Value → List Value), Cls K C ∧ Meth K C m f ∧ FnOk P w K mg base CX0 k f fd ps sp ∧ KBn K fd ps 1 ks g gV
def tMethKw (C : Addr) (m : Str) (n : Nat) (sp : Sp) (gV : List V → List V → List V) (ta : TE) (tk : TA) : TE := fun σ H Q => ta σ H fun x H1 => ∃ a dx fs, x = V.ref a ∧ H1 a = some (.ins C dx fs) ∧ fs.lookup m = none ∧ tk σ H1 fun zs H2 => zs.length = n ∧ sp (gV [.ref a] zs) H2 Q E0
theorem pe_mtk {pl : Sem Bool} {ta : TE} {tk : TA} {ks : List Str} {gV : List V → List V → List V} {kws : List Keyword} (c : MetK X.prog X.w X.K X.mg X.base k C m ks gV sp) (hr : Room j X.A) (hk : k ≤ j) (he : PE X o ta) (hkw : PK X kws tk)
    (hall : (backToKw pos (keywordEach kws X.env)).all (·.1.isSome) = true := by rfl) (hks : (backToKw pos (keywordEach kws X.env)).filterMap (·.1) = ks := by rfl)
    (hpl : ((backTo pos (starEach [] X.env)).any (·.1) || (backToKw pos (keywordEach kws X.env)).any (·.1.isNone)) = false := by rfl)
    (ht : eval (.Call (.Attribute o m apos) [] kws pos) X.env = (do
      let ov ← eval o X.env
      standAt apos.atName
      let (f, first) ← holding [ov] (getMethod ov m pl)
      callWith pos f first (backTo pos (starEach [] X.env)) (backToKw pos (keywordEach kws X.env))) := by rfl) :
    PE X (.Call (.Attribute o m apos) [] kws pos) (tMethKw C m ks.length sp gV ta tk) := by
  obtain ⟨f, fd, ps, g, hc, hm, F, hb⟩ := c.ex
  refine ⟨fun pins s σ H Q I h => ?_⟩
  refine PySem.W.methodCall_KW (pl := pl) (thn (he.run pins s σ H _ I h) fun u s1 ⟨x, H1, I1, rx, a, dx, fs, ex, ea, l, q⟩ => ?_) ht
  subst ex
  obtain rfl : u = Value.ref a := rx
  refine getmeth_ok I1 ea hc hm l ?_
  refine PySem.W.callWith_KW0 (first := [.ref a]) (h₀ := X.base) I.ok.mod.kin hm.kp hall ?_ hpl
  refine thn (hkw.run pos pins s1 σ H1 _ I1 q) fun ws s2 ⟨zs, H2, I2, rz, l2, q2⟩ => ⟨I2.kIn, ?_⟩
  rw [hks]
  exact run_fnN (us := [.ref a]) (vs := [.ref a]) F (hr.mono hk) hb pass0 I2 (.cons rfl .nil) rz rfl l2 q2
theorem kb1_of {K : PySem.W.Frag} {x qual : Str} {st : Stmt} {f : Addr} {fd : FuncData} {ps ks : List Str} {g : List Value → List Value → List Value} {gV : List V → List V → List V} (Fn : Fun K x qual st f fd)
    (h : ∀ (kV doc pm : Value) (an : Option Addr) (cdv ct u : Value) (ws : List Value), ws.length = ks.length → bindArgs (PySem.W.fnOf x qual (defArgs st) (defBody st) (defScope st) .none kV doc pm an cdv ct) ⟨[u], ks.zip ws⟩ = pure (ps.zip (g [u] ws)))
    (rel : ∀ {vs : List V} {us : List Value} {zs : List V} {ws : List Value}, Vals vs us → Vals zs ws → Vals (gV vs zs) (g us ws)) : KBn K fd ps 1 ks g gV := by
  obtain ⟨oc, od, kV, doc, pm, an, cdv, ct, osl, rfl, lk, hcd⟩ := Fn.ex
  refine ⟨fun s us ws _ h1 h2 => ?_, rel⟩
  obtain ⟨u, rfl⟩ : ∃ u, us = [u] := List.length_eq_one_iff.mp h1
  exact .of_eq (h kV doc pm an cdv ct u ws h2)
end
section
variable {P : Program} {w : World} {K : PySem.W.Frag} {mg : Str → Option Value} {base : Heap} {F : FmKit} {cl : Nat → Addr} {S : FS}
/-- a method called both by places and by names -/
theorem metDK {m qual : Str} {C : Addr} {st : Stmt} {f : Addr} {fd : FuncData} {N ps ks : List Str} {g : List Value → List Value → List Value} {gV : List V → List V → List V} {k : Nat} (c : Cls K C) (me : Meth K C m f) (Fn : Fun K m qual st f fd) (Sc : FnScope N ps (defScope st)) (len : ∀ ds W post, S ds W post → ds.length = ps.length)
    (hb : ∀ (kV doc pm : Value) (an : Option Addr) (cdv ct : Value) (us : List Value), us.length = ps.length → bindArgs (PySem.W.fnOf m qual (defArgs st) (defBody st) (defScope st) .none kV doc pm an cdv ct) ⟨us, []⟩ = pure (ps.zip us))
    (kb : KBn K fd ps 1 ks g gV)
    (body : ∀ (cdv : Value) (A : Around) (outer : List Env) (s : Shared) (H : Hp) (E : XK), Room k (A.deeper (envOfC qual (defScope st) s.heap.objs.size f cdv)) →
      ∃ t, PSs (cxOf CX0 P w K mg base N qual (defScope st) f cdv A outer s H E).nox (defBody st) t ∧ ∀ ds W post, S ds W post → Sw F ⟨K, cl⟩ t (startD N ds) W (E_ post)) :
    Met P w K mg base (k + 1) C m (spN F ⟨K, cl⟩ S) [] ∧ MetK P w K mg base (k + 1) C m ks gV (spN F ⟨K, cl⟩ S) :=
  have ok := okD Fn Sc len body
  ⟨⟨f, fd, ps, [], c, me, ok, Fn.binds hb, .nil⟩, ⟨f, fd, ps, g, c, me, ok, kb⟩⟩
end
section
variable {F : FmKit} {T : Kx} {C H H' O O' : Hp} {G : Gm} {W W' : Om} {R : D → Om → Prop} {σ : L2.St} {d e : D} {l m : List D} {te ta tb tx : TE} {t : TT} {tr tk : TA} {S : FS}
theorem ev_mtk {c n : Nat} {m : Str} {gV : List V → List V → List V} (h : Ev F T ta G W fun d W1 => ∃ ns l, Inst F W1 d c ns l ∧ m ∉ ns ∧ EvA F T tk G W1 fun ds W2 => ds.length = n ∧ ∃ as, (∀ H x zs, Den F T H d x → DenL F T H ds zs → DenL F T H as (gV [x] zs)) ∧ Hand S as W2 R) : Ev F T (tMethKw (T.cl c) m n (spN F T S) gV ta tk) G W R := fun C H O σ w Q q =>
  h C H O σ w _ fun d W1 H1 O1 x ⟨ns, l, i, hm, ha⟩ n1 k1 => by
    obtain ⟨a, dx, fs, e, h1, h2, h3⟩ := i.at n1.dis n1.own k1
    subst e
    refine ⟨a, dx, fs, rfl, h1, look_none (by rw [h2]; exact hm), ha C H1 O1 σ (w.step n1) _ fun ds W2 H2 O2 vs ⟨hl, as, hg, hh⟩ n2 k2 => ⟨by rw [k2.len]; exact hl, ?_⟩⟩
    exact hh.run n2.dis n2.oc n2.own (hg H2 _ vs (k1.mono n2.ext) k2) fun d W' H' O' v r n3 kd => q d W' H' O' v r ((n1.trans n2).trans n3) kd
/-- *e among the arguments -/
theorem ea_star {R : List D → Om → Prop} (h : Ev F T te G W fun d W1 => ∃ l, (Vl W1 d l ∨ d = .tup l) ∧ EvA F T tr G W1 fun ds W2 => R (l ++ ds) W2) : EvA F T (StX.tStar T.K te tr) G W R := fun C H O σ w Q q =>
  h C H O σ w _ fun d W1 H1 O1 x ⟨l, hv, ha⟩ n1 k1 => by
    have : ∃ p xs, x = V.ref p ∧ (SqT T.K (ov O1 H1) p xs ∨ SqL T.K (ov O1 H1) p xs) ∧ DenL F T H1 l xs := by
      rcases hv with hv | rfl
      · obtain ⟨p, xs, e, hs, kl⟩ := hv.sq n1.own n1.dis k1
        exact ⟨p, xs, e, .inr hs, kl⟩
      · obtain ⟨p, xs, e, hs, kl⟩ := k1
        exact ⟨p, xs, e, .inl (Same.sqT n1.dis.same hs), kl⟩
    obtain ⟨p, xs, e, hs, kl⟩ := this
    refine ⟨p, xs, e, hs, ha C H1 O1 σ (w.step n1) _ fun ds W2 H2 O2 vs r n2 k2 => ?_⟩
    exact q _ W2 H2 O2 _ r (n1.trans n2) ((kl.mono n2.ext).app k2)
/-- d.get(k, x) -/
theorem ev_dget2 (h : Ev F T ta G W fun d W1 => (∃ ps, Vd W1 d ps) ∧ Ev F T tb G W1 fun y W2 => Ev F T tx G W2 fun z W3 => ∃ ps k, Vd W3 d ps ∧ y = kD k ∧ R ((getG ps k).getD z) W3) : Ev F T (tDGet2 ta tb tx) G W R := fun C H O σ w Q q =>
  h C H O σ w _ fun d W1 H1 O1 x ⟨⟨ps0, hv0⟩, h1⟩ n1 k1 => by
    obtain ⟨a, kvs0, ex, ha0, _⟩ := hv0.at n1.dis n1.own k1
    refine ⟨a, ex, .inl ⟨kvs0, .inl ha0⟩, h1 C H1 O1 σ (w.step n1) _ fun y W2 H2 O2 yv h2 n2 k2 => h2 C H2 O2 σ ((w.step n1).step n2) _ fun z W3 H3 O3 zv ⟨ps, k, hv, ey, r⟩ n3 k3 => ?_⟩
    subst ey
    obtain ⟨a', kvs, ex', ha, e1, e2, kl⟩ := hv.at n3.dis n3.own ((k1.mono n2.ext).mono n3.ext)
    have k2 : yv = kV k := k2
    subst ex k2
    cases ex'
    refine ⟨valV kvs k, .inl ⟨kvs, k, .inl ha, rfl, rfl⟩, ?_⟩
    rcases getG_den (k := k) e1 kl with ⟨g1, g2⟩ | ⟨z', v, g1, g2, kz⟩
    · rw [g1] at r
      rw [g2]
      exact q _ W3 H3 O3 _ r ((n1.trans n2).trans n3) k3
    · rw [g1] at r
      rw [g2]
      exact q _ W3 H3 O3 _ r ((n1.trans n2).trans n3) kz
theorem sw_par3 {E : En} {i j l : Nat} {ta : TA} (h : EvA F T ta G W fun ds W' => ∃ d1 d2 d3, ds = [d1, d2, d3] ∧ E.nx (((G.set i (some d1)).set j (some d2)).set l (some d3)) W') : Sw F T (tPar3 i j l ta) G W E := fun C H O σ w B b =>
  h C H O σ w _ fun ds W' H' O' vs ⟨d1, d2, d3, e, r⟩ n k => by
    subst e
    obtain ⟨v1, r1, e1, k1, v2, r2, e2, k2, v3, r3, e3, k3, e4⟩ := k
    have e4 : r3 = [] := e4
    subst e4 e3 e2 e1
    exact ⟨v1, v2, v3, rfl, b.nx _ W' H' O' _ r n ((((w.loc.mono n.ext).set k1).set k2).set k3)⟩
/-- dict(pairs) -/
def rDictP (K : PySem.W.Frag) : List V → Hp → VK → Prop := fun xs H Q => ∃ (a : Addr) (ps : List Addr) (kvs : List (Key × V)), xs = [.ref a] ∧ SqL K H a (ps.map V.ref) ∧ Paired (fun p kv => SqT K H p [kV kv.1, kv.2]) ps kvs ∧ ∀ p, H p = none → Q (.ref p) (upd H p (.dK (mergeK [] kvs)))
theorem den_pairs (di : Dis O H) : ∀ {ps : List (Key × D)} {xs : List V}, DenL F T H (ps.map fun p => .tup [kD p.1, p.2]) xs → ∃ (as : List Addr) (kvs : List (Key × V)), xs = as.map V.ref ∧ Paired (fun p kv => SqT T.K (ov O H) p [kV kv.1, kv.2]) as kvs ∧ kvs.map (·.1) = ps.map (·.1) ∧ DenL F T H (ps.map (·.2)) (kvs.map (·.2))
  | [], xs, k => by
    have k : xs = [] := k
    subst k
    exact ⟨[], [], rfl, .nil, rfl, rfl⟩
  | (key, z) :: ps, xs, ⟨v, r, e, ⟨a, us, e1, hs, k1⟩, k2⟩ => by
    obtain ⟨as, kvs, e2, h1, h2, h3⟩ := den_pairs di (ps := ps) k2
    obtain ⟨u1, r1, e3, q1, u2, r2, e4, q2, e5⟩ := k1
    have e5 : r2 = [] := e5
    have q1 : u1 = kV key := q1
    subst e5 e4 e3 e1 e2 q1 e
    exact ⟨a :: as, (key, u2) :: kvs, rfl, .cons (Same.sqT di.same hs) h1, by simp [h2], ⟨u2, _, rfl, q2, h3⟩⟩
theorem ca_dictP {ps : List (Key × D)} (hv : Vl W d (ps.map fun p => .tup [kD p.1, p.2])) (h : ∀ p, p ∉ akeys W → R (.adr p) ((p, .dp (mergeG ps)) :: W)) : Ca F T (rDictP T.K) [d] W R := ca_one fun C H O di oc ow x hx Q q => by
  obtain ⟨a, xs, e, ha, ka⟩ := hv.sq ow di hx
  obtain ⟨as, kvs, e2, h1, h2, h3⟩ := den_pairs di ka
  subst e2
  refine ⟨a, as, kvs, by rw [e], ha, h1, fun p hp => ?_⟩
  obtain ⟨m1, m2, m3⟩ := mergeK_keys (F := F) (T := T) (H := H) (acc := []) (av := []) h2 rfl List.nodup_nil h3 (show DenL F T H (([] : List (Key × D)).map (·.2)) (([] : List (Key × V)).map (·.2)) from rfl)
  obtain ⟨n2, e3, np⟩ := (Nx.refl di oc ow).newO (od := .dp (mergeG ps)) (o := .dK (mergeK [] kvs)) hp ⟨mergeK [] kvs, rfl, m1, m2, m3⟩
  rw [e3]
  exact q (.adr p) _ _ _ _ (h p np) n2 rfl
theorem ca_dictPF {ps : List (Key × D)} (hv : Vl W d (ps.map fun p => .tup [kD p.1, p.2])) (h : R (.dp (mergeG ps)) W) : Ca F T (rDictP T.K) [d] W R :=
  ca_fz (ca_dictP hv fun p hp => ⟨p, _, W, _, rfl, List.Perm.refl _, .dct _ _, h⟩)
end
section
variable {X : Cx}
theorem cr_dictP (hcalm : X.calm = true) : CallR X (.type "dict") (rDictP X.K) := call_dictP hcalm
theorem cr_or {f : Value} {r1 r2 : List V → Hp → VK → Prop} (h1 : CallR X f r1) (h2 : CallR X f r2) : CallR X f (fun xs H Q => r1 xs H Q ∨ r2 xs H Q) := fun pins s σ H xs us Q I r h => h.elim (h1 pins s σ H xs us Q I r) (h2 pins s σ H xs us Q I r)
end
section
variable {F : FmKit} {T : Kx} {W : Om} {R : D → Om → Prop} {ds : List D}
theorem ca_orL {r1 r2 : List V → Hp → VK → Prop} (h : Ca F T r1 ds W R) : Ca F T (fun xs H Q => r1 xs H Q ∨ r2 xs H Q) ds W R := fun C H O di oc ow vs k Q q => .inl (h C H O di oc ow vs k Q q)
theorem ca_orR {r1 r2 : List V → Hp → VK → Prop} (h : Ca F T r2 ds W R) : Ca F T (fun xs H Q => r1 xs H Q ∨ r2 xs H Q) ds W R := fun C H O di oc ow vs k Q q => .inr (h C H O di oc ow vs k Q q)
end
section
variable {F : FmKit} {T : Kx} {G : Gm} {W : Om} {R : D → Om → Prop}
/-- {k: e, ..}, frozen at once -/
theorem ev_dispF {trs : List (TE × TE)} (h : EvPs F T trs G W [] fun ps W' => ps.length ≤ 15 ∧ R (.dp (mergeG ps)) W') : Ev F T (tDisp trs) G W R := by
  have up : ∀ (trs : List (TE × TE)) (W : Om) (acc : List (Key × D)) (Y Z : List (Key × D) → Om → Prop), (∀ ps W', Y ps W' → Z ps W') → EvPs F T trs G W acc Y → EvPs F T trs G W acc Z := by
    intro trs
    induction trs with
    | nil => exact fun W acc Y Z i h => i _ _ h
    | cons t trs ih => exact fun W acc Y Z i h => Ev.imp h fun y W1 h1 => Ev.imp h1 fun z W2 ⟨k, e, h2⟩ => ⟨k, e, ih _ _ _ _ i h2⟩
  exact ev_fz (ev_disp (up _ _ _ _ _ (fun ps W' ⟨h1, h2⟩ => ⟨h1, fun p hp => ⟨p, _, W', _, rfl, List.Perm.refl _, .dct _ _, h2⟩⟩) h))
end
end N
set_option Elab.async false
set_option linter.all false
set_option maxRecDepth 100000
set_option maxHeartbeats 1000000
/-! zip(.., strict=True) of two iterators of one length. -/
namespace PySem
open Sem (wp)
/-- a zip that stands, strict -/
abbrev StrictZip (hp : Heap) (z ins held : Addr) (v : Value) : Prop := hp.get? z = some { cls := .type "zip", data := .fields #[v, .bool false, .bool true, .ref ins, .ref held] }
section
variable {prog : Program} {w : World} {A : Around} {E : Value → Shared → Prop} {s : Shared} {z ins held j1 j2 : Addr} {f1 f2 : List Addr} {n i : Nat} {P1 P2 P : Nat → Value → Prop} {S1 S2 St : Nat → Heap → Prop} {u1 u2 : Value} {it : Addr} {fp : List Addr}
theorem orEnd_more {Q : Option Value → Shared → Prop} (D : Draws prog w A it fp n P St) (hi : i < n) (st : St i s.heap) (q : ∀ x hp tk, P i x → St (i + 1) hp → Heap.SameBut it s.heap hp → Q (some x) { s with heap := hp, toks := tk }) :
    wpAny (model prog w) A (Builtin.SmallTypes.nextOrEnd (.ref it)) Q E s :=
  wpAny_bind (wpAny_attempt (D.item i s _ _ hi st fun x hp tk a b c => wpAny_pure (q x hp tk a b c)))
theorem orEnd_none {Q : Option Value → Shared → Prop} (D : Draws prog w A it fp n P St) (st : St n s.heap) (q : ∀ hp, Heap.ExtBut it s.heap hp → Q none { s with heap := hp }) :
    wpAny (model prog w) A (Builtin.SmallTypes.nextOrEnd (.ref it)) Q E s :=
  wpAny_bind (wpAny_attempt (D.done s _ _ st fun hp e k ⟨o, ho, hc⟩ => wpAny_bind (wpAny_isInstance (T := "StopIteration") (b := true) ⟨o, ho, hc⟩ isSubtype_stop (wpAny_pure (q hp k)))))
theorem strict_more {Q : Value → Shared → Prop} (S : ZipSep2 z ins held j1 j2 f1 f2) (D1 : Draws prog w A j1 f1 n P1 S1) (D2 : Draws prog w A j2 f2 n P2 S2)
    (hz : StrictZip s.heap z ins held .none) (hI : IsTupOf2 s.heap ins (.ref j1) (.ref j2)) (hO : IsTupOf2 s.heap held u1 u2) (k1 : S1 i s.heap) (k2 : S2 i s.heap) (hi : i < n)
    (q : ∀ x y hp tk, P1 i x → P2 i y → StrictZip hp z ins held (rawInt s.heap.objs.size) → IsTupOf2 hp held x y → S1 (i + 1) hp → S2 (i + 1) hp → IsTupOf2 hp s.heap.objs.size x y → hp.objs.size = s.heap.objs.size + 1 →
      (∀ c o, c ∉ [z, held, j1, j2] → s.heap.get? c = some o → hp.get? c = some o) → Q (.ref s.heap.objs.size) { s with heap := hp, toks := tk }) :
    wpAny (model prog w) A (Builtin.«zip.__next__» ⟨[.ref z], []⟩) (fun fin s' => ∃ v, fin = .done (.ret v) ∧ Q v s') E s := by
  obtain ⟨h0, g, d, t0, os⟩ := s
  simp only at hz hI hO k1 k2 q
  have af : ∀ {k : Nat} {x : Value} {Q : Value → Shared → Prop} {E : Value → Shared → Prop}, (#[Value.none, .bool false, .bool true, .ref ins, .ref held] : Array Value)[k]? = some x → Q x ⟨h0, g, d, t0, os⟩ → wpAny (model prog w) A (field (.ref z) k) Q E ⟨h0, g, d, t0, os⟩ := fun e q => wpAny_field hz rfl e q
  have ast : ∀ {Q : Unit → Shared → Prop} {E : Value → Shared → Prop}, (∀ h1, StrictZip h1 z ins held .ellipsis → Heap.SameBut z h0 h1 → Q () ⟨h1, g, d, t0, os⟩) → wpAny (model prog w) A (setField (.ref z) 0 .ellipsis) Q E ⟨h0, g, d, t0, os⟩ := fun q => wpAny_setField_rec hz (by simp) fun h1 a b => q h1 a b
  wp_walk using wpAny_seqItems hI rfl, ast, wpAny_onRaise
  intro h1 z1 b1
  have r1 : ∀ {Q : Option Value → Shared → Prop} {E : Value → Shared → Prop}, (∀ x hp tk, P1 i x → S1 (i + 1) hp → Heap.SameBut j1 h1 hp → Q (some x) ⟨hp, g, d, tk, os⟩) → wpAny (model prog w) A (Builtin.SmallTypes.nextOrEnd (.ref j1)) Q E ⟨h1, g, d, t0, os⟩ := fun q => orEnd_more D1 hi (D1.over k1 b1 S.zf1) q
  wp_walk using wpAny_onRaise, r1
  intro x h2 t2 px k1 b2
  have o2 : IsTupOf2 h2 held u1 u2 := b2.extBut _ _ S.Ti1 (b1.extBut _ _ S.TOz hO)
  have r2 : ∀ {k : Nat} {x : Value} {Q : Unit → Shared → Prop} {E : Value → Shared → Prop}, (∀ hp, hp.get? held = some { cls := .type "tuple", data := .seq ((#[u1, u2] : Array Value).setIfInBounds k x) } → Heap.SameBut held h2 hp → Q () ⟨hp, g, d, t2, os⟩) → wpAny (model prog w) A (updateSeq held (·.setIfInBounds k x)) Q E ⟨h2, g, d, t2, os⟩ := fun q => updateSeq_IsTupOf2 o2 q
  wp_walk using wpAny_seqItems o2 rfl, r2
  intro h3 o3 b3
  replace o3 : IsTupOf2 h3 held x u2 := o3
  have r3 : ∀ {Q : Option Value → Shared → Prop} {E : Value → Shared → Prop}, (∀ x hp tk, P2 i x → S2 (i + 1) hp → Heap.SameBut j2 h3 hp → Q (some x) ⟨hp, g, d, tk, os⟩) → wpAny (model prog w) A (Builtin.SmallTypes.nextOrEnd (.ref j2)) Q E ⟨h3, g, d, t2, os⟩ := fun q => orEnd_more D2 hi (D2.over (D2.over (D2.over k2 b1 S.zf2) b2 S.sep1_2) b3 S.Tf2) q
  wp_walk using wpAny_onRaise, r3
  intro y h4 t4 py k2 b4
  have o4 : IsTupOf2 h4 held x u2 := b4.extBut _ _ S.Ti2 o3
  have r4 : ∀ {k : Nat} {v : Value} {Q : Unit → Shared → Prop} {E : Value → Shared → Prop}, (∀ hp, hp.get? held = some { cls := .type "tuple", data := .seq ((#[x, u2] : Array Value).setIfInBounds k v) } → Heap.SameBut held h4 hp → Q () ⟨hp, g, d, t4, os⟩) → wpAny (model prog w) A (updateSeq held (·.setIfInBounds k v)) Q E ⟨h4, g, d, t4, os⟩ := fun q => updateSeq_IsTupOf2 o4 q
  wp_walk using wpAny_seqItems o4 rfl, r4
  intro h5 o5 b5
  replace o5 : IsTupOf2 h5 held x y := o5
  have sz : h5.objs.size = h0.objs.size := by rw [b5.1, b4.1, b3.1, b2.1, b1.1]
  have z5 : StrictZip h5 z ins held .ellipsis := b5.extBut _ _ S.TOz.symm (b4.extBut _ _ S.zi2 (b3.extBut _ _ S.TOz.symm (b2.extBut _ _ S.zi1 z1)))
  have lt : z < h5.objs.size := Heap.lt_size z5
  have z6 : StrictZip (h5.push { cls := .type "tuple", data := .seq #[x, y] }) z ins held .ellipsis := Heap.get?_push_of_some _ z5
  have r6 : ∀ {hp : Heap} {f : Value} {v : Value} {Q : Unit → Shared → Prop} {E : Value → Shared → Prop}, StrictZip hp z ins held f → (∀ hq, StrictZip hq z ins held v → Heap.SameBut z hp hq → Q () ⟨hq, g, d, t4, os⟩) → wpAny (model prog w) A (setField (.ref z) 0 v) Q E ⟨hp, g, d, t4, os⟩ := fun a q => wpAny_setField_rec a (by simp) fun hq b c => q hq b c
  have r7 : ∀ {hp : Heap} {f : Value} {Q : Unit → Shared → Prop} {E : Value → Shared → Prop}, StrictZip hp z ins held f → (∀ hq, StrictZip hq z ins held f → Heap.SameBut z hp hq → Q () ⟨hq, g, d, t4, os⟩) → wpAny (model prog w) A (setField (.ref z) 1 (.bool false)) Q E ⟨hp, g, d, t4, os⟩ := fun a q => wpAny_setField_rec a (by simp) fun hq b c => q hq b c
  wp_walk using wpAny_seqItems o5 rfl, r6 z6
  intro h7 z7 b7
  refine r7 z7 fun h8 z8 b8 => wpAny_pure ⟨_, rfl, ?_⟩
  have up : ∀ c o, c ≠ z → h5.get? c = some o → h8.get? c = some o := fun c o ne e => b8.extBut _ _ ne (b7.extBut _ _ ne (Heap.get?_push_of_some _ e))
  have new : IsTupOf2 h8 h5.objs.size x y := b8.extBut _ _ (Nat.ne_of_gt lt) (b7.extBut _ _ (Nat.ne_of_gt lt) (Heap.get?_push_size _ rfl))
  have e8 : h8.objs.size = h5.objs.size + 1 := by rw [b8.1, b7.1, Heap.size_push]
  rw [sz] at z8 new e8
  have a1 : S1 (i + 1) h8 := D1.frame _ _ _ (D1.over (D1.over (D1.over k1 b3 S.Tf1) b4 S.sep2_1) b5 S.Tf1) fun b hb o e => up b o (fun q => S.zf1 (q ▸ hb)) e
  have a2 : S2 (i + 1) h8 := D2.frame _ _ _ (D2.over k2 b5 S.Tf2) fun b hb o e => up b o (fun q => S.zf2 (q ▸ hb)) e
  rw [sz]
  refine q x y h8 t4 px py z8 (up _ _ S.TOz o5) a1 a2 new e8 fun c o nc e => ?_
  simp only [List.mem_cons, List.not_mem_nil, or_false, not_or] at nc
  obtain ⟨cz, cT, c1, c2⟩ := nc
  exact up c o cz (b5.extBut _ _ cT (b4.extBut _ _ c2 (b3.extBut _ _ cT (b2.extBut _ _ c1 (b1.extBut _ _ cz e)))))
theorem strict_none {Q : Fin → Shared → Prop} (hh : A.handled = none) (S : ZipSep2 z ins held j1 j2 f1 f2) (D1 : Draws prog w A j1 f1 n P1 S1) (D2 : Draws prog w A j2 f2 n P2 S2)
    (hz : StrictZip s.heap z ins held .none) (hI : IsTupOf2 s.heap ins (.ref j1) (.ref j2)) (k1 : S1 n s.heap) (k2 : S2 n s.heap)
    (q : ∀ hp tk e, (∀ c o, c ∉ [z, held, j1, j2] → s.heap.get? c = some o → hp.get? c = some o) → (∃ o, hp.get? e = some o ∧ o.cls = .type "StopIteration") → E (.ref e) { s with heap := hp, toks := tk }) :
    wpAny (model prog w) A (Builtin.«zip.__next__» ⟨[.ref z], []⟩) Q E s := by
  obtain ⟨h0, g, d, t0, os⟩ := s
  simp only at hz hI k1 k2 q
  have ast : ∀ {hp : Heap} {v f : Value} {Q : Unit → Shared → Prop} {E : Value → Shared → Prop}, StrictZip hp z ins held f → (∀ h1, StrictZip h1 z ins held v → Heap.SameBut z hp h1 → Q () ⟨h1, g, d, t0, os⟩) → wpAny (model prog w) A (setField (.ref z) 0 v) Q E ⟨hp, g, d, t0, os⟩ := fun a q => wpAny_setField_rec a (by simp) fun h1 a b => q h1 a b
  wp_walk using wpAny_seqItems hI rfl, ast hz, wpAny_onRaise
  intro h1 z1 b1
  have r1 : ∀ {Q : Option Value → Shared → Prop} {E : Value → Shared → Prop}, (∀ hp, Heap.ExtBut j1 h1 hp → Q none ⟨hp, g, d, t0, os⟩) → wpAny (model prog w) A (Builtin.SmallTypes.nextOrEnd (.ref j1)) Q E ⟨h1, g, d, t0, os⟩ := fun q => orEnd_none D1 (D1.over k1 b1 S.zf1) q
  wp_walk using wpAny_onRaise, r1
  intro h2 b2
  have z2 : StrictZip h2 z ins held .ellipsis := b2 _ _ S.zi1 z1
  wp_walk using ast z2
  intro h3 z3 b3
  have r2 : ∀ {Q : Option Value → Shared → Prop} {E : Value → Shared → Prop}, (∀ hp, Heap.ExtBut j2 h3 hp → Q none ⟨hp, g, d, t0, os⟩) → wpAny (model prog w) A (Builtin.SmallTypes.nextOrEnd (.ref j2)) Q E ⟨h3, g, d, t0, os⟩ := fun q => orEnd_none D2 (D2.over (D2.frame _ _ _ (D2.over k2 b1 S.zf2) fun b hb o e => b2 b o (fun x => S.sep1_2 (x ▸ hb)) e) b3 S.zf2) q
  wp_walk using r2
  intro h4 b4
  wp_walk
  simp only [raiseNew]
  refine wpAny_bind (wpAny_handled ?_)
  rw [hh]
  refine wpAny_bind (wpAny_pure (wpAny_throw ?_))
  refine q _ _ _ (fun c o nc e => ?_) ⟨_, Heap.get?_push_size _ rfl, rfl⟩
  simp only [List.mem_cons, List.not_mem_nil, or_false, not_or] at nc
  obtain ⟨cz, cT, c1, c2⟩ := nc
  exact Heap.get?_push_of_some _ (Heap.get?_push_of_some _ (b4 _ _ c2 (b3.extBut _ _ cz (b2 _ _ c1 (b1.extBut _ _ cz e)))))
theorem next_more {Q : Option Value → Shared → Prop} (S : ZipSep2 z ins held j1 j2 f1 f2) (D1 : Draws prog w A.in1 j1 f1 n P1 S1) (D2 : Draws prog w A.in1 j2 f2 n P2 S2)
    (hz : StrictZip s.heap z ins held .none) (hI : IsTupOf2 s.heap ins (.ref j1) (.ref j2)) (hO : IsTupOf2 s.heap held u1 u2) (k1 : S1 i s.heap) (k2 : S2 i s.heap) (hi : i < n)
    (q : ∀ x y hp tk, P1 i x → P2 i y → StrictZip hp z ins held (rawInt s.heap.objs.size) → IsTupOf2 hp held x y → S1 (i + 1) hp → S2 (i + 1) hp → IsTupOf2 hp s.heap.objs.size x y → hp.objs.size = s.heap.objs.size + 1 →
      (∀ c o, c ∉ [z, held, j1, j2] → s.heap.get? c = some o → hp.get? c = some o) → Q (some (.ref s.heap.objs.size)) { s with heap := hp, toks := tk }) : wpAny (model prog w) A (pyNext (.ref z)) Q E s :=
  have ty : s.TypeIs (.ref z) "zip" := ⟨_, hz, rfl⟩
  wpAny_bind (wpAny_attempt (wpAny_callSpecial?_slot (name := Str.ofString "__next__") ty F.slot_zip_next (wpAny_call_entry F.slot_zip_next ty F.entry_zip_next
    (strict_more S D1 D2 hz hI hO k1 k2 hi fun x y hp tk a b c d e f g h l => wpAny_pure (q x y hp tk a b c d e f g h l)) (F.args_zip_next_1 _))))
theorem next_none {Q : Option Value → Shared → Prop} (hh : A.handled = none) (S : ZipSep2 z ins held j1 j2 f1 f2) (D1 : Draws prog w A.in1 j1 f1 n P1 S1) (D2 : Draws prog w A.in1 j2 f2 n P2 S2)
    (hz : StrictZip s.heap z ins held .none) (hI : IsTupOf2 s.heap ins (.ref j1) (.ref j2)) (k1 : S1 n s.heap) (k2 : S2 n s.heap)
    (q : ∀ hp tk, (∀ c o, c ∉ [z, held, j1, j2] → s.heap.get? c = some o → hp.get? c = some o) → Q none { s with heap := hp, toks := tk }) : wpAny (model prog w) A (pyNext (.ref z)) Q E s :=
  have ty : s.TypeIs (.ref z) "zip" := ⟨_, hz, rfl⟩
  wpAny_bind (wpAny_attempt (wpAny_callSpecial?_slot (name := Str.ofString "__next__") ty F.slot_zip_next (wpAny_call_entry F.slot_zip_next ty F.entry_zip_next
    (strict_none (show A.in1.handled = none from hh) S D1 D2 hz hI k1 k2 fun hp tk e k ⟨o, ho, hc⟩ => wpAny_bind (wpAny_isInstance (T := "StopIteration") (b := true) ⟨o, ho, hc⟩ isSubtype_stop (wpAny_pure (q _ _ k)))) (F.args_zip_next_1 _))))
theorem go_strict {elts : List Expr} {kk : Nat} {pos : Pos} {T : Addr} {Q : Unit → Shared → Prop} (hz : StrictZip s.heap z ins held (rawInt T)) (q : ∀ hp, StrictZip hp z ins held .none → Heap.SameBut z s.heap hp → Q () { s with heap := hp }) :
    wpAny (model prog w) A (letOwnedTupleGo (.Tuple elts kk pos) (.ref z) (.ref T)) Q E s := by
  unfold letOwnedTupleGo
  refine wpAny_bind (wpAny_load hz ?_)
  refine wpAny_ite_true (by simp) ?_
  exact wpAny_bind (wpAny_rule (wpAny_setField_rec hz (by simp) fun hp a b => q hp a b))
theorem iter_strict {v : Value} {Q : Value → Shared → Prop} (hz : StrictZip s.heap z ins held v) (q : Q (.ref z) s) : wpAny (model prog w) A (pyIter (.ref z)) Q E s :=
  have ty : s.TypeIs (.ref z) "zip" := ⟨_, hz, rfl⟩
  wpAny_pyIter_slot ty F.slot_zip_iter (wpAny_call_entry F.slot_zip_iter ty F.entry_zip_iter (wpAny_pure ⟨_, rfl, "zip", _, ty, F.slot_zip_next.lookup, q⟩) (F.args_zip_iter_1 _))
end
end PySem
set_option Elab.async false
set_option linter.all false
set_option maxRecDepth 100000
set_option maxHeartbeats 1000000
/-! zip of a list, a tuple or a text with another one, plain or strict. -/
namespace N
open PySem PySem.Spec PyProof.Rows L2
open C8 (Cal Met Mak InsC pe_c pe_mt pe_mt0 pe_mk)
inductive Kd
  | lst (a : Addr)
  | tup (a : Addr)
  | txt (x : Str)
def Kd.v : Kd → V
  | .lst a => .ref a
  | .tup a => .ref a
  | .txt x => .str x
def Kd.src (K : PySem.W.Frag) (H : Hp) : Kd → List V → Prop
  | .lst a, xs => SqL K H a xs
  | .tup a, xs => SqT K H a xs
  | .txt x, xs => xs = x.cps.toList.map fun c => V.str ⟨#[c]⟩
def Kd.at (k : Kd) (t : Tok) (it : Addr) (i : Nat) (h : Heap) : Prop := match k with
  | .lst a => h.IsListIter it a i
  | .tup a => h.IsTupleIter it a i
  | .txt x => h.IsStrIter it (strIterType x) x t i
def Kd.low (k : Kd) (b : Nat) : Prop := match k with
  | .lst a => a < b
  | .tup a => a < b
  | .txt _ => True
theorem Kd.keep {k : Kd} {t : Tok} {it : Addr} {i : Nat} {h h' : Heap} (s : k.at t it i h) (e : ∀ o, h.get? it = some o → h'.get? it = some o) : k.at t it i h' := by
  cases k with
  | lst a => exact Heap.IsListIter.at s e
  | tup a => exact Heap.IsTupleIter.at s e
  | txt x =>
    obtain ⟨o, ho, r⟩ := s
    exact ⟨o, e o ho, r⟩
theorem Kd.obj {k : Kd} {t : Tok} {it : Addr} {i : Nat} {h : Heap} (s : k.at t it i h) : ∃ o, h.get? it = some o ∧ ∀ v, o.data ≠ .cell v := by
  cases k with
  | lst a =>
    obtain ⟨o, e, _, d⟩ := s
    exact ⟨o, e, fun v q => by rw [d] at q; cases q⟩
  | tup a =>
    obtain ⟨o, e, _, d⟩ := s
    exact ⟨o, e, fun v q => by rw [d] at q; cases q⟩
  | txt x =>
    obtain ⟨o, e, _, d⟩ := s
    exact ⟨o, e, fun v q => by rw [d] at q; cases q⟩
section
variable {X : Cx} {pins : List (Addr × Obj)} {σ : L2.St} {H : Hp} {s : Shared}
theorem Kd.inj {k : Kd} {xs ys : List V} (I : Inv X pins σ H s) (h : k.src X.K H xs) (h' : k.src X.K H ys) : xs = ys := by
  cases k with
  | lst a => exact I.list_inj h h'
  | tup a => exact I.tuple_inj h h'
  | txt x => exact Eq.trans h (Eq.symm h')
/-- the iterator over a source, as it stands now -/
theorem Kd.draws {k : Kd} {t : Tok} {it : Addr} {xs : List V} (I : Inv X pins σ H s) (hc : X.calm = true) (hs : k.src X.K H xs) {b : Nat} (hl : k.low b) (hb : b ≤ it) :
    ∃ (fp : List Addr) (P : Nat → Value → Prop) (St : Nat → Heap → Prop), Draws X.prog X.w X.A.in1 it fp xs.length P St ∧ it ∈ fp ∧ (∀ c ∈ fp, c = it ∨ c < b) ∧ (∀ i, k.at t it i s.heap → St i s.heap) ∧ (∀ i h, St i h → k.at t it i h) ∧ ∀ i v, P i v → ∃ x, xs[i]? = some x ∧ RelV x v := by
  have hh : X.A.in1.handled = none := I.ok.hd hc
  cases k with
  | lst a =>
    obtain ⟨its, rv, p, _⟩ := I.list hs
    have ne : a ≠ it := Nat.ne_of_lt (Nat.lt_of_lt_of_le hl hb)
    have D := Draws.list (prog := X.prog) (w := X.w) hh it a ne its.toArray
    have e : its.toArray.size = xs.length := by simp [rv.length]
    rw [e] at D
    refine ⟨_, _, _, D, by simp, fun c hc => ?_, fun i st => ⟨st, p.isList⟩, fun i h st => st.1, fun i v h => ?_⟩
    · simp at hc
      rcases hc with e | e
      · exact .inl e
      · subst e
        exact .inr hl
    · have h : its[i]? = some v := by simpa using h
      have hi : i < xs.length := by
        have := (List.getElem?_eq_some_iff.mp h).1
        rw [rv.length]
        exact this
      obtain ⟨u, hu, ru⟩ := rv.get (List.getElem?_eq_getElem hi)
      rw [h] at hu
      cases hu
      exact ⟨_, List.getElem?_eq_getElem hi, ru⟩
  | tup a =>
    obtain ⟨its, rv, p, _⟩ := I.tuple hs
    have ne : a ≠ it := Nat.ne_of_lt (Nat.lt_of_lt_of_le hl hb)
    have D := Draws.tuple (prog := X.prog) (w := X.w) hh it a ne its.toArray
    have e : its.toArray.size = xs.length := by simp [rv.length]
    rw [e] at D
    refine ⟨_, _, _, D, by simp, fun c hc => ?_, fun i st => ⟨st, p⟩, fun i h st => st.1, fun i v h => ?_⟩
    · simp at hc
      rcases hc with e | e
      · exact .inl e
      · subst e
        exact .inr hl
    · have h : its[i]? = some v := by simpa using h
      have hi : i < xs.length := by
        have := (List.getElem?_eq_some_iff.mp h).1
        rw [rv.length]
        exact this
      obtain ⟨u, hu, ru⟩ := rv.get (List.getElem?_eq_getElem hi)
      rw [h] at hu
      cases hu
      exact ⟨_, List.getElem?_eq_getElem hi, ru⟩
  | txt x =>
    have hs : xs = x.cps.toList.map fun c => V.str ⟨#[c]⟩ := hs
    subst hs
    have D := Draws.text (prog := X.prog) (w := X.w) hh it x t
    have e : (x.cps.toList.map fun c => V.str ⟨#[c]⟩).length = x.cps.size := by simp
    rw [e]
    refine ⟨_, _, _, D, by simp, fun c hc => .inl (by simpa using hc), fun i st => st, fun i h st => st, fun i v ⟨c, u, h1, h2⟩ => ?_⟩
    refine ⟨.str ⟨#[c]⟩, ?_, u, h2⟩
    rw [List.getElem?_map]
    have : x.cps.toList[i]? = some c := by simpa using h1
    rw [this]
    rfl
end
def ZAt (strict : Bool) (h : Heap) (z ins held : Addr) (v : Value) : Prop := if strict then StrictZip h z ins held v else IsZip h z ins held v
def ItzK (K : PySem.W.Frag) (k1 k2 : Kd) (strict : Bool) : It :=
  ⟨fun i H => ∃ xs ys : List V, k1.src K H xs ∧ k2.src K H ys ∧ i < xs.length ∧ i < ys.length ∧ (strict = true → xs.length = ys.length),
    fun i H v H' => ∃ T x y, v = .ref T ∧ H T = none ∧ H' = upd H T (.tup [x, y]) ∧ (∀ xs, k1.src K H xs → xs[i]? = some x) ∧ ∀ ys, k2.src K H ys → ys[i]? = some y,
    fun i H => ∃ xs ys : List V, k1.src K H xs ∧ k2.src K H ys ∧ i ≤ xs.length ∧ i ≤ ys.length ∧ (i = xs.length ∨ i = ys.length) ∧ (strict = true → xs.length = ys.length)⟩
theorem ne_add {b c d : Nat} (h : c ≠ d) : b + c ≠ b + d := by omega
theorem zno {b k : Nat} (h : k ≠ 0) (_ : 0 ≠ k) : ¬ (b + k = b ∨ b + k < b) := by omega
theorem zno2 {b k : Nat} (h : k ≠ 1) : ¬ (b + k = b + 1 ∨ b + k < b) := by omega
theorem zsep {b : Nat} {f1 f2 : List Addr} (m1 : b ∈ f1) (m2 : b + 1 ∈ f2) (h1 : ∀ c ∈ f1, c = b ∨ c < b) (h2 : ∀ c ∈ f2, c = b + 1 ∨ c < b) : ZipSep2 (b + 4) (b + 2) (b + 3) b (b + 1) f1 f2 where
  TIz := ne_add (by decide)
  TOz := ne_add (by decide)
  TITO := ne_add (by decide)
  TIi1 := ne_add (c := 2) (d := 0) (by decide)
  mem1 := m1
  zf1 := fun h => zno (by decide) (by decide) (h1 _ h)
  Tf1 := fun h => zno (by decide) (by decide) (h1 _ h)
  TIi2 := ne_add (by decide)
  mem2 := m2
  zf2 := fun h => zno2 (by decide) (h2 _ h)
  Tf2 := fun h => zno2 (by decide) (h2 _ h)
  sep1_2 := fun h => zno2 (k := 0) (by decide) (h2 _ h)
  sep2_1 := fun h => zno (by decide) (by decide) (h1 _ h)
theorem turn_zipK {P : Program} {w : World} {K : PySem.W.Frag} {elts : List Expr} {kk : Nat} {tpos : Pos} {k1 k2 : Kd} {u1 u2 : Tok} {strict : Bool} {b : Nat} (l1 : k1.low b) (l2 : k2.low b) :
    Turn P w K (.Tuple elts kk tpos) (ItzK K k1 k2 strict) [b + 4, b + 2, b + 3, b, b + 1] (b + 4) (fun i h => ZAt strict h (b + 4) (b + 2) (b + 3) .none ∧ IsTupOf2 h (b + 2) (.ref b) (.ref (b + 1)) ∧ (∃ u v, IsTupOf2 h (b + 3) u v) ∧ k1.at u1 b i h ∧ k2.at u2 (b + 1) i h) where
  mem := by simp
  obj := fun i h st c hc => by
    obtain ⟨hz, hI, ⟨x, y, hO⟩, s1, s2⟩ := st
    simp only [List.mem_cons, List.not_mem_nil, or_false] at hc
    rcases hc with rfl | rfl | rfl | rfl | rfl
    · cases strict
      · exact ⟨_, hz, fun v q => nomatch q⟩
      · exact ⟨_, hz, fun v q => nomatch q⟩
    · exact ⟨_, hI, fun v q => nomatch q⟩
    · exact ⟨_, hO, fun v q => nomatch q⟩
    · exact Kd.obj s1
    · exact Kd.obj s2
  keep := fun i h h' st k => by
    obtain ⟨hz, hI, ⟨x, y, hO⟩, s1, s2⟩ := st
    refine ⟨?_, k _ (by simp) _ hI, ⟨x, y, k _ (by simp) _ hO⟩, Kd.keep s1 fun o e => k _ (by simp) o e, Kd.keep s2 fun o e => k _ (by simp) o e⟩
    cases strict
    · exact k (b + 4) (by simp) _ hz
    · exact k (b + 4) (by simp) _ hz
  item := by
    intro X hP hw hK hc i pins s σ H E I hf st hg
    subst hP hw hK
    obtain ⟨hz, hI, ⟨x0, y0, hO⟩, s1, s2⟩ := st
    obtain ⟨xs, ys, hx, hy, i1, i2, hst⟩ := hg
    obtain ⟨f1, P1, S1, D1, m1, b1, t1, o1, v1⟩ := Kd.draws (t := u1) (it := b) I hc hx l1 (Nat.le_refl _)
    obtain ⟨f2, P2, S2, D2, m2, b2, t2, o2, v2⟩ := Kd.draws (t := u2) (it := b + 1) I hc hy l2 (Nat.le_succ _)
    have S := zsep m1 m2 b1 b2
    have lt : b + 4 < s.heap.objs.size := by cases strict <;> exact Heap.lt_size hz
    have fin : ∀ (x y : Value) (h' h2 : Heap) (tk : Tok), P1 i x → P2 i y → ZAt strict h2 (b + 4) (b + 2) (b + 3) .none → Heap.SameBut (b + 4) h' h2 → IsTupOf2 h' (b + 3) x y → S1 (i + 1) h' → S2 (i + 1) h' → IsTupOf2 h' s.heap.objs.size x y →
        (∀ c o, c ≠ b + 4 → c ≠ b + 3 → c ≠ b → c ≠ b + 1 → s.heap.get? c = some o → h'.get? c = some o) →
        ∃ (v : V) (H' : Hp), Inv X pins σ H' { s with heap := h2, toks := tk } ∧ RelV v (.ref s.heap.objs.size) ∧ (ItzK X.K k1 k2 strict).yld i H v H' ∧
          (ZAt strict h2 (b + 4) (b + 2) (b + 3) .none ∧ IsTupOf2 h2 (b + 2) (.ref b) (.ref (b + 1)) ∧ (∃ u v, IsTupOf2 h2 (b + 3) u v) ∧ k1.at u1 b (i + 1) h2 ∧ k2.at u2 (b + 1) (i + 1) h2) ∧ ∀ c ∈ [b + 4, b + 2, b + 3, b, b + 1], H' c = none := by
      intro x y h' h2 tk px py z2 sb o' a1 a2 new kp
      obtain ⟨u, gu, ru⟩ := v1 i x px
      obtain ⟨v, gv, rv⟩ := v2 i y py
      have up : ∀ c o, c ≠ b + 4 → h'.get? c = some o → h2.get? c = some o := fun c o ne e => (sb.2 c ne).trans e
      have new2 : IsTupOf2 h2 s.heap.objs.size x y := up _ _ (Nat.ne_of_gt lt) new
      have ok : ObjOk X.prog X.w (upd H s.heap.objs.size (.tup [u, v])) h2 s.heap.objs.size (.tup [u, v]) :=
        ⟨by show 2 ≤ sizeLine; decide, [x, y], .cons ru (.cons rv .nil), ⟨_, new2, rfl, _, rfl⟩⟩
      have I1 : Inv X pins σ (upd H s.heap.objs.size (.tup [u, v])) { s with heap := h2, toks := tk } :=
        I.turnedNew (t' := tk) (ch := [b + 4, b + 2, b + 3, b, b + 1]) (fun c o hb q => up c o (fun q' => hb (by simp [q'])) (kp c o (fun q' => hb (by simp [q'])) (fun q' => hb (by simp [q'])) (fun q' => hb (by simp [q'])) (fun q' => hb (by simp [q'])) q)) hf (Nat.le_refl _) ok
      refine ⟨.ref s.heap.objs.size, _, I1, rfl, ⟨_, u, v, rfl, I.hok.fresh (Nat.le_refl _), rfl, fun l hl => by rw [Kd.inj I hl hx]; exact gu, fun l hl => by rw [Kd.inj I hl hy]; exact gv⟩, ⟨z2, ?_, ⟨x, y, up _ _ (ne_add (by decide)) o'⟩, ?_, ?_⟩, fun c hcm => ?_⟩
      · exact up _ _ (ne_add (by decide)) (kp _ _ (ne_add (by decide)) (ne_add (by decide)) (ne_add (c := 2) (d := 0) (by decide)) (ne_add (by decide)) hI)
      · exact Kd.keep (o1 _ _ a1) fun o e => up _ _ (ne_add (c := 0) (d := 4) (by decide)) e
      · exact Kd.keep (o2 _ _ a2) fun o e => up _ _ (ne_add (by decide)) e
      · have hlt : c < s.heap.objs.size := by
          simp only [List.mem_cons, List.not_mem_nil, or_false] at hcm
          have lt : (b : Nat) + 4 < s.heap.objs.size := lt
          rcases hcm with rfl | rfl | rfl | rfl | rfl
          · exact lt
          · exact Nat.lt_trans (Nat.add_lt_add_left (by decide) b) lt
          · exact Nat.lt_trans (Nat.add_lt_add_left (by decide) b) lt
          · exact Nat.lt_of_le_of_lt (Nat.le_add_right _ 4) lt
          · exact Nat.lt_trans (Nat.add_lt_add_left (by decide) b) lt
        rw [upd_ne (Nat.ne_of_lt hlt)]
        exact (hf c hcm).1
    cases strict with
    | false =>
      refine wpAny_pyNext_zipD2_item S D1 D2 hz hI hO (t1 _ s1) (t2 _ s2) i1 i2 fun x y h' tk px py z' o' a1 a2 new _ kp => ?_
      exact ⟨_, rfl, wpAny_letOwnedTupleGo_zip (s := { s with heap := h', toks := tk }) z' fun h2 z2 sb => fin x y h' h2 tk px py z2 sb o' a1 a2 new kp⟩
    | true =>
      have e := hst rfl
      rw [← e] at D2
      refine next_more S D1 D2 hz hI hO (t1 _ s1) (t2 _ s2) i1 fun x y h' tk px py z' o' a1 a2 new _ kp => ?_
      exact ⟨_, rfl, go_strict (s := { s with heap := h', toks := tk }) z' fun h2 z2 sb => fin x y h' h2 tk px py z2 sb o' a1 a2 new fun c o c1 c2 c3 c4 q => kp c o (by simp only [List.mem_cons, List.not_mem_nil, or_false, not_or]; exact ⟨c1, c2, c3, c4⟩) q⟩
  done := by
    intro X hP hw hK hc i pins s σ H E I hf st hg
    subst hP hw hK
    obtain ⟨hz, hI, ⟨x0, y0, hO⟩, s1, s2⟩ := st
    obtain ⟨xs, ys, hx, hy, i1, i2, he, hst⟩ := hg
    obtain ⟨f1, P1, S1, D1, m1, b1, t1, o1, v1⟩ := Kd.draws (t := u1) (it := b) I hc hx l1 (Nat.le_refl _)
    obtain ⟨f2, P2, S2, D2, m2, b2, t2, o2, v2⟩ := Kd.draws (t := u2) (it := b + 1) I hc hy l2 (Nat.le_succ _)
    have S := zsep m1 m2 b1 b2
    cases strict with
    | false => exact wpAny_pyNext_zipD2_end S D1 D2 hz hI hO (t1 _ s1) (t2 _ s2) i1 i2 he fun h' tk k => ⟨rfl, I.turnedL (t' := tk) (ch := [b + 4, b + 2, b + 3, b, b + 1]) (fun c o hb q =>
        k c o (fun q' => hb (by simp [q'])) (fun q' => hb (by simp [q'])) (fun q' => hb (by simp [q'])) (fun q' => hb (by simp [q'])) q) hf⟩
    | true =>
      have e := hst rfl
      have ei : i = xs.length := by omega
      subst ei
      rw [← e] at D2
      exact next_none (I.ok.hd hc) S D1 D2 hz hI (t1 _ s1) (t2 _ s2) fun h' tk k => ⟨rfl, I.turnedL (t' := tk) (ch := [b + 4, b + 2, b + 3, b, b + 1]) (fun c o hb q => k c o (fun q' => hb (by simp only [List.mem_cons, List.not_mem_nil, or_false] at q' ⊢; rcases q' with h | h | h | h <;> simp [h])) q) hf⟩
  self := fun A i s Q E st h => by
    cases strict
    · exact wpAny_pyIter_zip st.1 h
    · exact iter_strict st.1 h
end N
set_option Elab.async false
set_option linter.all false
set_option maxRecDepth 100000
set_option maxHeartbeats 1000000
/-! zip is called, plain or strict; loops over it. -/
namespace PySem
open Sem (wp)
theorem tc_strict (a b : Value) : checkTypeCall "zip" ⟨[a, b], [(Str.ofString "strict", .bool true)]⟩ = pure () := by kernel_rfl
theorem nc_strict (a b : Value) : checkBuiltinCall "zip.__new__" ⟨[.type "zip", a, b], [(Str.ofString "strict", .bool true)]⟩ = pure () := by kernel_rfl
theorem ao_strict (obj a b : Value) : argsOk "object.__init__" ⟨[obj, a, b], [(Str.ofString "strict", .bool true)]⟩ := by unfold argsOk; kernel_rfl
def zs1 (h : Heap) (p q : Obj) : Heap := (h.push p).push q
def zs2 (h : Heap) (p q : Obj) : Heap := (zs1 h p q).push { cls := .type "tuple", data := .seq #[.ref h.objs.size, .ref (h.push p).objs.size] }
def zs3 (h : Heap) (p q : Obj) : Heap := (zs2 h p q).push { cls := .type "tuple", data := .seq #[.none, .none] }
def zs4 (h : Heap) (p q : Obj) : Heap := (zs3 h p q).push { cls := .type "zip", data := .fields #[.none, .bool false, .bool true, .ref (zs1 h p q).objs.size, .ref (zs2 h p q).objs.size] }
theorem meets_strict {v1 v2 : Value} {p q : Obj} {H1 H2 : Heap → Prop} (B1 : Begins v1 p H1) (B2 : Begins v2 q H2) :
    Meets (Builtin.«zip.__new__» ⟨[.type "zip", v1, v2], [(Str.ofString "strict", .bool true)]⟩) (fun _ R s => (H1 s.heap ∧ H2 s.heap) ∧ R (.ok (.ret (.ref (zs3 s.heap p q).objs.size))) { s with heap := zs4 s.heap p q }) :=
  .of_wp fun prog w A R s h => by
    obtain ⟨hp, g, d, tk, os⟩ := s
    obtain ⟨⟨a1, a2⟩, h⟩ := h
    have hsub := sub_zip
    have q1 : ∀ {A' : Around} {E : Value → Shared → Prop} {Q : Value → Shared → Prop}, Q (.ref hp.objs.size) ⟨hp.push p, g, d, tk, os⟩ → wpAny (model prog w) A' (pyIter v1) Q E ⟨hp, g, d, tk, os⟩ :=
      fun z => B1.iter prog w _ _ ⟨hp, g, d, tk, os⟩ _ a1 z
    have q2 : ∀ {A' : Around} {E : Value → Shared → Prop} {Q : Value → Shared → Prop}, Q (.ref (hp.push p).objs.size) ⟨(hp.push p).push q, g, d, tk, os⟩ → wpAny (model prog w) A' (pyIter v2) Q E ⟨hp.push p, g, d, tk, os⟩ :=
      fun z => B2.iter prog w _ _ ⟨hp.push p, g, d, tk, os⟩ _ (B2.keeps _ _ a2 fun b o e => Heap.get?_push_of_some _ e) z
    wp_walk using q1, q2
    exact ⟨_, rfl, h⟩
section
variable {prog : Program} {w : World} {A : Around} {E : Value → Shared → Prop} {s : Shared}
theorem strict_begins {v1 v2 : Value} {p q : Obj} {H1 H2 : Heap → Prop} {Q : Value → Shared → Prop} (B1 : Begins v1 p H1) (B2 : Begins v2 q H2) (a1 : H1 s.heap) (a2 : H2 s.heap) {b : Nat} (hb : b = s.heap.objs.size)
    (h : ∀ h', StrictZip h' (b + 4) (b + 2) (b + 3) .none → IsTupOf2 h' (b + 2) (.ref b) (.ref (b + 1)) → IsTupOf2 h' (b + 3) .none .none → h'.get? b = some p → h'.get? (b + 1) = some q →
      (∀ c o, s.heap.get? c = some o → h'.get? c = some o) → Q (.ref (b + 4)) { s with heap := h' }) : wpAny (model prog w) A (call (.type "zip") [v1, v2] [(Str.ofString "strict", .bool true)]) Q E s := by
  subst hb
  refine callType_newKw F.called_zip (by decide) (tc_strict _ _) (nc_strict _ _) (fun obj => ao_strict obj _ _) F.entry_zip_new (meets_strict B1 B2) ⟨⟨a1, a2⟩, ?_⟩
  have e0 : (s.heap.push p).objs.size = s.heap.objs.size + 1 := Heap.size_push ..
  have e1 : (zs1 s.heap p q).objs.size = s.heap.objs.size + 2 := by unfold zs1; rw [Heap.size_push, e0]
  have e2 : (zs2 s.heap p q).objs.size = s.heap.objs.size + 3 := by unfold zs2; rw [Heap.size_push, e1]
  have e3 : (zs3 s.heap p q).objs.size = s.heap.objs.size + 4 := by unfold zs3; rw [Heap.size_push, e2]
  have up0 : ∀ c o, s.heap.get? c = some o → (s.heap.push p).get? c = some o := fun c o e => Heap.get?_push_of_some _ e
  have up1 : ∀ c o, (s.heap.push p).get? c = some o → (zs1 s.heap p q).get? c = some o := fun c o e => Heap.get?_push_of_some _ e
  have up2 : ∀ c o, (zs1 s.heap p q).get? c = some o → (zs2 s.heap p q).get? c = some o := fun c o e => Heap.get?_push_of_some _ e
  have up3 : ∀ c o, (zs2 s.heap p q).get? c = some o → (zs3 s.heap p q).get? c = some o := fun c o e => Heap.get?_push_of_some _ e
  have up4 : ∀ c o, (zs3 s.heap p q).get? c = some o → (zs4 s.heap p q).get? c = some o := fun c o e => Heap.get?_push_of_some _ e
  have gZ : (zs4 s.heap p q).get? (s.heap.objs.size + 4) = some { cls := .type "zip", data := .fields #[.none, .bool false, .bool true, .ref (s.heap.objs.size + 2), .ref (s.heap.objs.size + 3)] } := by
    have := Heap.get?_push_size (zs3 s.heap p q) (o := { cls := .type "zip", data := .fields #[.none, .bool false, .bool true, .ref (zs1 s.heap p q).objs.size, .ref (zs2 s.heap p q).objs.size] }) rfl
    rw [e3, e1, e2] at this
    unfold zs4
    rw [e1, e2]
    exact this
  have gO : (zs3 s.heap p q).get? (s.heap.objs.size + 3) = some { cls := .type "tuple", data := .seq #[.none, .none] } := by
    have := Heap.get?_push_size (zs2 s.heap p q) (o := { cls := .type "tuple", data := .seq #[.none, .none] }) rfl
    rw [e2] at this
    exact this
  have gT : (zs2 s.heap p q).get? (s.heap.objs.size + 2) = some { cls := .type "tuple", data := .seq #[.ref s.heap.objs.size, .ref (s.heap.objs.size + 1)] } := by
    have := Heap.get?_push_size (zs1 s.heap p q) (o := { cls := .type "tuple", data := .seq #[.ref s.heap.objs.size, .ref (s.heap.push p).objs.size] }) rfl
    rw [e1, e0] at this
    unfold zs2
    rw [e0]
    exact this
  have g1 : (s.heap.push p).get? s.heap.objs.size = some p := Heap.get?_push_size _ B1.free
  have g2 : (zs1 s.heap p q).get? (s.heap.objs.size + 1) = some q := by
    have := Heap.get?_push_size (s.heap.push p) (o := q) B2.free
    rw [e0] at this
    exact this
  show _ ∧ _
  rw [e3]
  exact ⟨⟨_, gZ, rfl⟩, h _ gZ (up4 _ _ (up3 _ _ gT)) (up4 _ _ gO) (up4 _ _ (up3 _ _ (up2 _ _ (up1 _ _ g1)))) (up4 _ _ (up3 _ _ (up2 _ _ g2))) fun c o e => up4 _ _ (up3 _ _ (up2 _ _ (up1 _ _ (up0 _ _ e))))⟩
end
end PySem
namespace N
open PySem PySem.Spec PyProof.Rows L2
open C8 (Cal Met Mak InsC pe_c pe_mt pe_mt0 pe_mk)
section
variable {X : Cx} {pins : List (Addr × Obj)} {σ : L2.St} {H : Hp} {s : Shared}
theorem Kd.begins {k : Kd} {xs : List V} {u : Value} (I : Inv X pins σ H s) (hs : k.src X.K H xs) (r : RelV k.v u) :
    k.low s.heap.objs.size ∧ ∃ (t : Tok) (o : Obj) (Hq : Heap → Prop), Begins u o Hq ∧ Hq s.heap ∧ ∀ (h : Heap) (it : Addr), h.get? it = some o → k.at t it 0 h := by
  cases k with
  | lst a =>
    cases r
    obtain ⟨its, rv, p, _⟩ := I.list hs
    exact ⟨p.lt, default, _, _, begins_list a its.toArray, p.isList, fun h it e => ⟨_, e, rfl, rfl⟩⟩
  | tup a =>
    cases r
    obtain ⟨its, rv, p, _⟩ := I.tuple hs
    obtain ⟨o, ho, _⟩ := id p
    exact ⟨Heap.lt_size ho, default, _, _, begins_tuple a its.toArray, p, fun h it e => ⟨_, e, rfl, rfl⟩⟩
  | txt x =>
    obtain ⟨t, rfl⟩ := r
    exact ⟨trivial, t, _, _, begins_text x t, trivial, fun h it e => ⟨_, e, rfl, rfl⟩⟩
end
def iZipK (K : PySem.W.Frag) (strict : Bool) (ta : TA) : TI := fun σ H R => ta σ H fun vs H1 => ∃ (k1 k2 : Kd) (xs ys : List V), vs = [k1.v, k2.v] ∧ k1.src K H1 xs ∧ k2.src K H1 ys ∧ R (ItzK K k1 k2 strict) H1
theorem pi_zipK {X : Cx} {e e2 : Expr} {ta : TA} {p pos tpos : Pos} {elts : List Expr} {kk : Nat} (hg : Gl X "zip") (hm : X.mg "zip" = none) (ha : PA X [e, e2] ta)
    (hs : starEach [e, e2] X.env = (false, eval e X.env) :: starEach [e2] X.env := by rfl) (hpl : (backTo pos (starEach [e2] X.env)).any (·.1) = false := by rfl) :
    PI X (.Tuple elts kk tpos) (.Call (.Name "zip" p) [e, e2] [] pos) (iZipK X.K false ta) := by
  refine ⟨fun pins s σ H R I h => ?_⟩
  refine Call_ (ld_blt I hg hm PyProof.Rows.boot_zip (PyProof.Rows.callWith_type1 (thn (ha.run pos pins s σ H _ I h) fun us s1 ⟨vs, H1, I1, r1, q1⟩ => ?_) hs hpl))
  obtain ⟨k1, k2, xs, ys, ex, hx, hy, q⟩ := q1
  subst ex
  cases r1 with
  | cons r rr =>
    cases rr with
    | cons r' rr =>
      cases rr
      obtain ⟨l1, t1, o1, G1, B1, g1, z1⟩ := Kd.begins I1 hx r
      obtain ⟨l2, t2, o2, G2, B2, g2, z2⟩ := Kd.begins I1 hy r'
      refine zip_begins2 B1 B2 g1 g2 fun h' hz hI hO e1 e2 _ kp => wpAny_pyIter_zip hz ?_
      have I2 : Inv X pins σ H1 { s1 with heap := h' } := I1.kept (t' := s1.toks) kp
      refine ⟨_, _, _, _, H1, rfl, I2, turn_zipK (b := s1.heap.objs.size) (strict := false) (u1 := t1) (u2 := t2) l1 l2, ⟨hz, hI, ⟨_, _, hO⟩, z1 _ _ e1, z2 _ _ e2⟩, fun c hc => ?_, q⟩
      have le : s1.heap.objs.size ≤ c := by
        simp only [List.mem_cons, List.not_mem_nil, or_false] at hc
        rcases hc with rfl | rfl | rfl | rfl | rfl
        · exact Nat.le_add_right _ _
        · exact Nat.le_add_right _ _
        · exact Nat.le_add_right _ _
        · exact Nat.le_refl _
        · exact Nat.le_add_right _ _
      exact I1.fpOk le (I1.hok.fresh le)
theorem pi_zipS {X : Cx} {e e2 : Expr} {ta tk : TA} {p pos tpos : Pos} {elts : List Expr} {kk : Nat} {kws : List Keyword} (hg : Gl X "zip") (hm : X.mg "zip" = none) (ha : PA X [e, e2] ta) (hk : PK X kws tk)
    (hall : (backToKw pos (keywordEach kws X.env)).all (·.1.isSome) = true := by rfl) (hks : (backToKw pos (keywordEach kws X.env)).filterMap (·.1) = [Str.ofString "strict"] := by rfl)
    (hs : starEach [e, e2] X.env = (false, eval e X.env) :: starEach [e2] X.env := by rfl)
    (hpl : ((backTo pos (starEach [e, e2] X.env)).any (·.1) || (backToKw pos (keywordEach kws X.env)).any (·.1.isNone)) = false := by rfl) :
    PI X (.Tuple elts kk tpos) (.Call (.Name "zip" p) [e, e2] kws pos) (fun σ H R => ta σ H fun vs H1 => tk σ H1 fun zs H2 => zs = [.bl true] ∧ ∃ (k1 k2 : Kd) (xs ys : List V), vs = [k1.v, k2.v] ∧ k1.src X.K H2 xs ∧ k2.src X.K H2 ys ∧ R (ItzK X.K k1 k2 true) H2) := by
  refine ⟨fun pins s σ H R I h => ?_⟩
  refine wpAny_Call_Name_kw (ld_blt I hg hm PyProof.Rows.boot_zip ?_)
  refine PySem.W.callWith_of (P := fun _ => True) hpl (fun h _ => ⟨Keeper.machine, .inr (.inl rfl), .of_pure rfl⟩) ?_
  refine evalArgs_kw2 hall (thn (ha.run pos pins s σ H _ I h) fun us s1 ⟨vs, H1, I1, r1, q1⟩ => thn (hk.run pos pins s1 σ H1 _ I1 q1) fun ws s2 ⟨zs, H2, I2, r2, ez, q2⟩ => ⟨trivial, ?_⟩) hs
  obtain ⟨k1, k2, xs, ys, ex, hx, hy, q⟩ := q2
  subst ez ex
  rw [hks]
  obtain ⟨w, rfl, rw'⟩ := vals1 r2
  cases rw'
  cases r1 with
  | cons r rr =>
    cases rr with
    | cons r' rr =>
      cases rr
      obtain ⟨l1, t1, o1, G1, B1, g1, z1⟩ := Kd.begins I2 hx r
      obtain ⟨l2, t2, o2, G2, B2, g2, z2⟩ := Kd.begins I2 hy r'
      refine strict_begins B1 B2 g1 g2 rfl fun h' hz hI hO e1 e2 kp => iter_strict hz ?_
      have I3 : Inv X pins σ H2 { s2 with heap := h' } := I2.kept (t' := s2.toks) kp
      refine ⟨_, _, _, _, H2, rfl, I3, turn_zipK (b := s2.heap.objs.size) (strict := true) (u1 := t1) (u2 := t2) l1 l2, ⟨hz, hI, ⟨_, _, hO⟩, z1 _ _ e1, z2 _ _ e2⟩, fun c hc => ?_, q⟩
      have le : s2.heap.objs.size ≤ c := by
        simp only [List.mem_cons, List.not_mem_nil, or_false] at hc
        rcases hc with rfl | rfl | rfl | rfl | rfl
        · exact Nat.le_add_right _ _
        · exact Nat.le_add_right _ _
        · exact Nat.le_add_right _ _
        · exact Nat.le_refl _
        · exact Nat.le_add_right _ _
      exact I2.fpOk le (I2.hok.fresh le)
def iZipS (K : PySem.W.Frag) (ta tk : TA) : TI := fun σ H R => ta σ H fun vs H1 => tk σ H1 fun zs H2 => zs = [.bl true] ∧ ∃ (k1 k2 : Kd) (xs ys : List V), vs = [k1.v, k2.v] ∧ k1.src K H2 xs ∧ k2.src K H2 ys ∧ R (ItzK K k1 k2 true) H2
section
variable {F : FmKit} {T : Kx} {C H H' O O' : Hp} {G : Gm} {W W' : Om} {R : D → Om → Prop} {d e : D} {l m : List D} {ta tk : TA}
/-- a datum that zip takes: list, tuple, text; nothing that is still written -/
def Zs (d : D) (l : List D) : Prop := d = .lst l ∨ d = .tup l ∨ ∃ x : Str, d = .str x ∧ l = x.cps.toList.map fun c => D.str ⟨#[c]⟩
def pairs2 (l m : List D) : List D := (l.zip m).map fun p => .tup [p.1, p.2]
theorem den_chars (x : Str) : DenL F T H (x.cps.toList.map fun c => D.str ⟨#[c]⟩) (x.cps.toList.map fun c => V.str ⟨#[c]⟩) := by
  induction x.cps.toList with
  | nil => rfl
  | cons c cs ih => exact ⟨_, _, rfl, rfl, ih⟩
/-- the source at the machine; it stands -/
theorem Zs.kd {x : V} (h : Zs d l) (k : Den F T H d x) : ∃ (kd : Kd) (xs : List V), x = kd.v ∧ DenL F T H l xs ∧ ∀ H2 O2, Same H H2 → Dis O2 H2 → kd.src T.K (ov O2 H2) xs := by
  rcases h with rfl | rfl | ⟨z, rfl, rfl⟩
  · obtain ⟨a, xs, e, hs, kl⟩ := k
    exact ⟨.lst a, xs, e, kl, fun H2 O2 s di => di.same.seq (s.seq (SqL.of hs))⟩
  · obtain ⟨a, xs, e, hs, kl⟩ := k
    exact ⟨.tup a, xs, e, kl, fun H2 O2 s di => Same.sqT di.same (Same.sqT s hs)⟩
  · have k : x = .str z := k
    exact ⟨.txt z, _, k, den_chars z, fun _ _ _ _ => rfl⟩
theorem pairs2_len : (pairs2 l m).length = min l.length m.length := by simp [pairs2]
theorem pairs2_get {i : Nat} {z : D} (h : (pairs2 l m)[i]? = some z) : ∃ x y, l[i]? = some x ∧ m[i]? = some y ∧ z = .tup [x, y] := by
  unfold pairs2 at h
  rw [List.getElem?_map] at h
  obtain ⟨p, hp, e⟩ := Option.map_eq_some_iff.mp h
  rw [List.getElem?_zip_eq_some] at hp
  exact ⟨p.1, p.2, hp.1, hp.2, e.symm⟩
/-- the walk over a zip -/
theorem wk_zip {H1 : Hp} {k1 k2 : Kd} {xs ys : List V} {strict : Bool} (a1 : DenL F T H1 l xs) (a2 : DenL F T H1 m ys) (s1 : ∀ H2 O2, Same H1 H2 → Dis O2 H2 → k1.src T.K (ov O2 H2) xs) (s2 : ∀ H2 O2, Same H1 H2 → Dis O2 H2 → k2.src T.K (ov O2 H2) ys) (e : strict = true → l.length = m.length) :
    Wk F T (ItzK T.K k1 k2 strict) H1 (pairs2 l m) := fun i H2 O2 s di => by
  refine ⟨fun d hd => ?_, fun ei => ?_⟩
  · obtain ⟨x, y, hx, hy, rfl⟩ := pairs2_get hd
    obtain ⟨u, hu, ku⟩ := a1.get hx
    obtain ⟨v, hv, kv⟩ := a2.get hy
    have i1 := (List.getElem?_eq_some_iff.mp hu).1
    have i2 := (List.getElem?_eq_some_iff.mp hv).1
    refine ⟨⟨xs, ys, s1 _ _ s di, s2 _ _ s di, i1, i2, fun z => by rw [a1.len, a2.len]; exact e z⟩, fun w X ⟨Tp, u', v', e1, e2, e3, e4, e5⟩ => ?_⟩
    have hu' := e4 xs (s1 _ _ s di)
    have hv' := e5 ys (s2 _ _ s di)
    rw [hu] at hu'
    rw [hv] at hv'
    cases hu'
    cases hv'
    obtain ⟨h1, h2⟩ := ov_none e2
    have sm := same_upd (o := .tup [u, v]) h2
    refine ⟨upd H2 Tp (.tup [u, v]), sm, di.updH h1, by rw [e3, ov_updH h1], Tp, _, e1, SqT.of upd_same, ?_⟩
    exact ⟨u, _, rfl, (ku.mono s).mono sm, v, _, rfl, (kv.mono s).mono sm, rfl⟩
  · rw [pairs2_len] at ei
    have h1 := a1.len
    have h2 := a2.len
    exact ⟨xs, ys, s1 _ _ s di, s2 _ _ s di, by omega, by omega, by omega, fun z => by rw [h1, h2]; exact e z⟩
theorem ei_zipK {Y : List D → Om → Prop} (h : EvA F T ta G W fun ds W1 => ∃ d e l m, ds = [d, e] ∧ Zs d l ∧ Zs e m ∧ Y (pairs2 l m) W1) : EvI F T (iZipK T.K false ta) G W Y := fun C H O σ w Q q =>
  h C H O σ w _ fun ds W1 H1 O1 us ⟨d, e, l, m, ed, z1, z2, y⟩ n k => by
    subst ed
    obtain ⟨x, r, e1, k1, x2, r2, e2, k2, e3⟩ := k
    have e3 : r2 = [] := e3
    subst e3 e2 e1
    obtain ⟨kd1, xs, ex, a1, s1⟩ := z1.kd k1
    obtain ⟨kd2, ys, ey, a2, s2⟩ := z2.kd k2
    subst ex ey
    exact ⟨kd1, kd2, xs, ys, rfl, s1 _ _ (.refl _) n.dis, s2 _ _ (.refl _) n.dis, q _ _ W1 H1 O1 y n (wk_zip a1 a2 s1 s2 fun z => by cases z)⟩
theorem ei_zipS {Y : List D → Om → Prop} (h : EvA F T ta G W fun ds W1 => EvA F T tk G W1 fun zs W2 => zs = [.bl true] ∧ ∃ d e l m, ds = [d, e] ∧ Zs d l ∧ Zs e m ∧ l.length = m.length ∧ Y (pairs2 l m) W2) : EvI F T (iZipS T.K ta tk) G W Y := fun C H O σ w Q q =>
  h C H O σ w _ fun ds W1 H1 O1 us h1 n1 k => h1 C H1 O1 σ (w.step n1) _ fun zs W2 H2 O2 vs ⟨ez, d, e, l, m, ed, z1, z2, el, y⟩ n2 kz => by
    subst ed ez
    obtain ⟨x, r, e1, k1, x2, r2, e2, k2, e3⟩ := k
    obtain ⟨b, r3, e4, k3, e5⟩ := kz
    have e3 : r2 = [] := e3
    have e5 : r3 = [] := e5
    have k3 : b = .bl true := k3
    subst e3 e2 e1 e5 k3 e4
    obtain ⟨kd1, xs, ex, a1, s1⟩ := z1.kd (k1.mono n2.ext)
    obtain ⟨kd2, ys, ey, a2, s2⟩ := z2.kd (k2.mono n2.ext)
    subst ex ey
    exact ⟨rfl, kd1, kd2, xs, ys, rfl, s1 _ _ (.refl _) n2.dis, s2 _ _ (.refl _) n2.dis, q _ _ W2 H2 O2 y (n1.trans n2) (wk_zip a1 a2 s1 s2 fun _ => el)⟩
end
end N
set_option Elab.async false
set_option linter.all false
set_option maxRecDepth 100000
set_option maxHeartbeats 1000000
/-! Texts compared by order; d.update(e); sorted(dict of ints); one rule or another. -/
namespace N
open PySem PySem.Spec PyProof.Rows L2
open C8 (Cal Met Mak InsC pe_c pe_mt pe_mt0 pe_mk)
def rLtS : R2 := fun x y H Q => ∃ a b : Str, x = .str a ∧ y = .str b ∧ Q (.bl (decide (a.cps.toList < b.cps.toList))) H
def r2Or (r r' : R2) : R2 := fun x y H Q => r x y H Q ∨ r' x y H Q
def tDUpd (td ty : TE) : TE := fun σ H Q => td σ H fun x H1 => ∃ a, x = .ref a ∧ IsD H1 a ∧ ty σ H1 fun y H2 => ∃ b kvs more, y = .ref b ∧ H2 a = some (.dK kvs) ∧ Rd H2 b (.dK more) ∧ a ≠ b ∧ kvs.length + more.length ≤ sizeLine ∧ Q .non (upd H2 a (.dK (mergeK kvs more)))
section
variable {X : Cx} {o e : Expr} {apos cpos : Pos} {td ty : TE}
theorem op_lt_str : OpR X (compareOp .Lt) rLtS := by
  intro pins s σ H x y v u Q I rx ry h
  obtain ⟨a, b, rfl, rfl, q⟩ := h
  obtain ⟨t, rfl⟩ := rx
  obtain ⟨t', rfl⟩ := ry
  exact PyProof.Rows.lt_str ⟨.bl (decide (a.cps.toList < b.cps.toList)), H, I, rfl, q⟩
theorem op_or {f : Value → Value → Sem Value} {r r' : R2} (h : OpR X f r) (h' : OpR X f r') : OpR X f (r2Or r r') := fun pins s σ H x y v u Q I rx ry z => z.elim (h pins s σ H x y v u Q I rx ry) (h' pins s σ H x y v u Q I rx ry)
theorem length_mergeKK (kvs more : List (Key × V)) : (mergeK kvs more).length ≤ kvs.length + more.length := by
  have := length_mergeK more kvs
  omega
theorem pe_dupd (ho : PE X o td) (he : PE X e ty) (m : M1 X o "update" apos e cpos) : PE X (.Call (.Attribute o "update" apos) [e] [] cpos) (tDUpd td ty) := by
  refine ⟨fun pins s σ H Q I h => ?_⟩
  refine wpAny_Call_method m.base m.few m.line PySem.F.plainAttrs_dict PySem.F.slot_dict_update PySem.F.type_dict_update (thn (ho.run pins s σ H _ I h) fun u s1 ⟨x, H1, I1, rx, a, ex, d, q1⟩ => ?_)
  subst ex
  obtain rfl : u = Value.ref a := rx
  obtain ⟨t1, t2, _⟩ := isD_at I1 d
  refine ⟨t1, t2, ?_⟩
  rw [m.trees]
  refine Calls.callWith_builtin rfl (Calls.evalArgs_plain (Calls.spliced_cons (thn (he.run pins s1 σ H1 _ I1 q1) fun iv s2 ⟨y, H2, I2, ry, b, kvs, more, ey, ea, eb, ne, hl, q2⟩ => Calls.spliced_nil ?_)))
  subst ey
  obtain rfl : iv = Value.ref b := ry
  obtain ⟨z1, lo1, vs, rel1, dd1⟩ := dk_of I2.hok ea
  obtain ⟨z2, lo2, ws, rel2, dd2⟩ := dk_rd I2.hok eb
  refine call_meetsIn PySem.F.slot_dict_update dd1.typeIs PySem.F.entry_dict_update (PySem.F.args_dict_update_2 _ _) (meets_dict_update (mixKind X.prog X.w) a b ne lo2) ⟨vs, ws, dd1, dd2, by rw [← rel1.length, ← rel2.length]; exact hl, fun h' dd' _ hs => ?_⟩
  have he : ∃ q, h'.get? a = some q := let ⟨q, _, _, hq, _⟩ := dd'; ⟨q, hq⟩
  have I3 := d_write (t' := s2.toks) (ob := .dK (mergeK kvs more)) I2 (by rw [ea]; exact True.intro) hs he (dk_new (Nat.le_trans (length_mergeKK _ _) hl) lo1 (KV.merge rel2 rel1) dd')
  exact ⟨.non, _, I3, rfl, q2⟩
end
def upG (ps qs : List (Key × D)) : List (Key × D) := qs.foldl (fun acc kv => putG acc kv.1 kv.2) ps
section
variable {F : FmKit} {T : Kx} {C H H' O O' : Hp} {G : Gm} {W W' : Om} {R : D → Om → Prop} {d e : D} {l m : List D} {te ta tb : TE}
/-- d.update(e), e a dict that is not written any more -/
theorem ev_dupd (h : Ev F T ta G W fun d W1 => (∃ ps, Vd W1 d ps) ∧ Ev F T tb G W1 fun e W2 => ∃ a ps qs Wa Wb, d = .adr a ∧ W2 = Wa ++ (a, .dp ps) :: Wb ∧ e = .dp qs ∧ ps.length + qs.length ≤ sizeLine ∧ R .non (Wa ++ (a, .dp (upG ps qs)) :: Wb)) : Ev F T (tDUpd ta tb) G W R := fun C H O σ w Q q =>
  h C H O σ w _ fun d W1 H1 O1 x ⟨⟨ps0, hv0⟩, h1⟩ n1 k1 => by
    obtain ⟨a, kvs0, ex, ha0, _⟩ := hv0.at n1.dis n1.own k1
    refine ⟨a, ex, .inl ⟨kvs0, .inl ha0⟩, h1 C H1 O1 σ (w.step n1) _ fun e W2 H2 O2 yv ⟨a', ps, qs, Wa, Wb, ed, ew, ee, hl, r⟩ n2 k2 => ?_⟩
    subst ed ew ee
    have k1 : x = .ref a' := k1
    rw [k1] at ex
    cases ex
    obtain ⟨b, more, ey, hb, e3, e4, kl2⟩ := k2
    obtain ⟨_, kvs, oa, e1, e2, kl⟩ := n2.own.at_ a _ (List.mem_append_right _ List.mem_cons_self)
    have ha : O2 a = some (.dK kvs) := oa
    have ne : a ≠ b := fun e => by
      subst e
      have := n2.dis a _ ha
      rw [hb] at this
      cases this
    have l1 : kvs.length = ps.length := by
      have := congrArg List.length e1
      rwa [List.length_map, List.length_map] at this
    have l2 : more.length = qs.length := by
      have := congrArg List.length e3
      rwa [List.length_map, List.length_map] at this
    refine ⟨b, kvs, more, ey, ov_own ha, .inl (n2.dis.same _ _ hb), ne, by rw [l1, l2]; exact hl, ?_⟩
    obtain ⟨m1, m2, m3⟩ := mergeK_keys (F := F) (T := T) (H := H2) (acc := ps) (av := kvs) e3 e1 e2 kl2 kl
    obtain ⟨n3, e5⟩ := (n1.trans n2).write (o := .dK (mergeK kvs more)) (od2 := .dp (upG ps qs)) ⟨mergeK kvs more, rfl, m1, m2, m3⟩
    rw [e5]
    exact q .non _ _ _ _ r n3 rfl
theorem ca_sortedDI {ps : List (Key × D)} {ks : List Int} (hv : Vd W d ps) (hk : ps.map (·.1) = ks.map Sum.inl) (hl : ks.length < 64) (r : ∀ ys : List Int, ys.Perm ks → ys.Pairwise (· ≤ ·) → R (.lst (ys.map D.int)) W) :
    Ca F T (fun xs H Q => ∃ (a : Addr) (kvs : List (Key × V)) (ks : List Int), xs = [.ref a] ∧ Rd H a (.dK kvs) ∧ kvs.map (·.1) = ks.map Sum.inl ∧ ks.length < 64 ∧
      ∀ (ys : List Int) (p : Addr), ys.Perm ks → ys.Pairwise (· ≤ ·) → H p = none → Q (.ref p) (upd H p (.lst (ys.map V.int)))) [d] W R := ca_one fun C H O di oc ow x k Q q => by
  obtain ⟨a, kvs, e, h1, h2, h3, h4⟩ := hv.at di ow k
  refine ⟨a, kvs, ks, by rw [e], .inl h1, h2.trans hk, hl, fun ys p hp hs hn => ?_⟩
  obtain ⟨n2, e2, s2⟩ := (Nx.refl (F := F) (T := T) di oc ow).newF (o := .lst (ys.map V.int)) hn
  rw [e2]
  refine q _ W _ O _ (r ys hp hs) n2 ⟨p, _, rfl, upd_same, ?_⟩
  have := DenL.vls (F := F) (T := T) (H := upd H p (.lst (ys.map V.int))) (ys.map V.int)
  rw [List.map_map] at this
  exact this
theorem bo_orL {r r' : R2} (h : Bo F T r d e W R) : Bo F T (r2Or r r') d e W R := fun C H O di oc ow x y hx hy Q q => .inl (h C H O di oc ow x y hx hy Q q)
theorem bo_orR {r r' : R2} (h : Bo F T r' d e W R) : Bo F T (r2Or r r') d e W R := fun C H O di oc ow x y hx hy Q q => .inr (h C H O di oc ow x y hx hy Q q)
theorem bo_ltS {a b : Str} (r : R (.bl (decide (a.cps.toList < b.cps.toList))) W) : Bo F T rLtS (.str a) (.str b) W R := op_sc fun H Q k => ⟨a, b, rfl, rfl, k _ r⟩
theorem ca_slOrL {r r' : V → Option Int → Option Int → Hp → VK → Prop} {lo hi : Option Int} (h : Ca F T (fun xs H Q => ∃ x, xs = [x] ∧ r x lo hi H Q) [d] W R) : Ca F T (fun xs H Q => ∃ x, xs = [x] ∧ (r x lo hi H Q ∨ r' x lo hi H Q)) [d] W R := fun C H O di oc ow vs k Q q =>
  let ⟨x, e, z⟩ := h C H O di oc ow vs k Q q; ⟨x, e, .inl z⟩
theorem ca_slOrR {r r' : V → Option Int → Option Int → Hp → VK → Prop} {lo hi : Option Int} (h : Ca F T (fun xs H Q => ∃ x, xs = [x] ∧ r' x lo hi H Q) [d] W R) : Ca F T (fun xs H Q => ∃ x, xs = [x] ∧ (r x lo hi H Q ∨ r' x lo hi H Q)) [d] W R := fun C H O di oc ow vs k Q q =>
  let ⟨x, e, z⟩ := h C H O di oc ow vs k Q q; ⟨x, e, .inr z⟩
end
end N
set_option Elab.async false
set_option linter.all false
set_option maxRecDepth 100000
set_option maxHeartbeats 1000000
/-! enumerate of a list, a tuple or a text; with a start by its name. -/
namespace PySem
open Sem (wp)
theorem tc_enum (a : Value) : checkTypeCall "enumerate" ⟨[a], []⟩ = pure () := by kernel_rfl
theorem nc_enum (a : Value) : checkBuiltinCall "enumerate.__new__" ⟨[.type "enumerate", a], []⟩ = pure () := by kernel_rfl
theorem ao_enum (obj a : Value) : argsOk "object.__init__" ⟨[obj, a], []⟩ := by unfold argsOk; kernel_rfl
theorem meets_enum {v : Value} {p : Obj} {Hp : Heap → Prop} (B : Begins v p Hp) :
    Meets (Builtin.«enumerate.__new__» ⟨[.type "enumerate", v], []⟩) (fun _ R s => Hp s.heap ∧ R (.ok (.ret (.ref (s.heap.push p).objs.size))) { s with heap := (s.heap.push p).push { cls := .type "enumerate", data := .fields #[.none, .bool false, .ref s.heap.objs.size, rawInt 0, .none, .none] } }) :=
  .of_wp fun prog w A R s h => by
    obtain ⟨hp, g, d, tk, os⟩ := s
    obtain ⟨a1, h⟩ := h
    have hsub := sub_enumerate
    have q1 : ∀ {A' : Around} {E : Value → Shared → Prop} {Q : Value → Shared → Prop}, Q (.ref hp.objs.size) ⟨hp.push p, g, d, tk, os⟩ → wpAny (model prog w) A' (pyIter v) Q E ⟨hp, g, d, tk, os⟩ :=
      fun z => B.iter prog w _ _ ⟨hp, g, d, tk, os⟩ _ a1 z
    wp_walk using q1
    refine wpAny_stack_any fun st => wpAny_pure ?_
    split
    · rename_i c _ _ _ _ _
      cases (c == Value.type "enumerate") <;> (wp_walk using q1; exact ⟨_, rfl, h⟩)
    · wp_walk using q1
      exact ⟨_, rfl, h⟩
section
variable {prog : Program} {w : World} {A : Around} {E : Value → Shared → Prop} {s : Shared}
theorem enum1_begins {v : Value} {p : Obj} {Hq : Heap → Prop} {Q : Value → Shared → Prop} (B : Begins v p Hq) (a1 : Hq s.heap)
    (h : ∀ h', IsEnum h' (s.heap.objs.size + 1) s.heap.objs.size 0 .none → h'.get? s.heap.objs.size = some p → (∀ c o, s.heap.get? c = some o → h'.get? c = some o) → Q (.ref (s.heap.objs.size + 1)) { s with heap := h' }) :
    wpAny (model prog w) A (call (.type "enumerate") [v]) Q E s := by
  refine callType_new F.called_enumerate (by decide) (tc_enum _) (nc_enum _) (fun obj => ao_enum obj _) F.entry_enumerate_new (meets_enum B) ⟨a1, ?_⟩
  have e0 : (s.heap.push p).objs.size = s.heap.objs.size + 1 := Heap.size_push ..
  show _ ∧ _
  have g := Heap.get?_push_size (s.heap.push p) (o := { cls := .type "enumerate", data := .fields #[.none, .bool false, .ref s.heap.objs.size, rawInt 0, .none, .none] }) rfl
  rw [e0] at g ⊢
  exact ⟨⟨_, g, rfl⟩, h _ g (Heap.get?_push_of_some _ (Heap.get?_push_size _ B.free)) fun c o e => Heap.get?_push_of_some _ (Heap.get?_push_of_some _ e)⟩
end
end PySem
namespace N
open PySem PySem.Spec PyProof.Rows L2
open C8 (Cal Met Mak InsC pe_c pe_mt pe_mt0 pe_mk)
def IteK (K : PySem.W.Frag) (k : Kd) (c : Int) : It :=
  ⟨fun i H => ∃ xs : List V, k.src K H xs ∧ i < xs.length,
    fun i H v H' => ∃ T x, v = .ref T ∧ H T = none ∧ H' = upd H T (.tup [.int (c + (i : Nat)), x]) ∧ ∀ xs, k.src K H xs → xs[i]? = some x,
    fun i H => ∃ xs : List V, k.src K H xs ∧ i = xs.length⟩
theorem turn_enumK {P : Program} {w : World} {K : PySem.W.Frag} {elts : List Expr} {kk : Nat} {tpos : Pos} {k : Kd} {c : Int} {u1 : Tok} {b : Nat} (l1 : k.low b) :
    Turn P w K (.Tuple elts kk tpos) (IteK K k c) [b + 1, b] (b + 1) (fun i h => (∃ old, IsEnum h (b + 1) b (c + (i : Nat)) old) ∧ k.at u1 b i h) where
  mem := by simp
  obj := fun i h st d hd => by
    obtain ⟨⟨old, he⟩, s1⟩ := st
    simp only [List.mem_cons, List.not_mem_nil, or_false] at hd
    rcases hd with rfl | rfl
    · exact ⟨_, he, fun v q => nomatch q⟩
    · exact Kd.obj s1
  keep := fun i h h' st z => by
    obtain ⟨⟨old, he⟩, s1⟩ := st
    exact ⟨⟨old, z _ (by simp) _ he⟩, Kd.keep s1 fun o e => z _ (by simp) o e⟩
  item := by
    intro X hP hw hK hc i pins s σ H E I hf st hg
    subst hP hw hK
    obtain ⟨⟨old, he⟩, s1⟩ := st
    obtain ⟨xs, hx, hi⟩ := hg
    obtain ⟨f1, P1, S1, D1, m1, b1, t1, o1, v1⟩ := Kd.draws (t := u1) (it := b) I hc hx l1 (Nat.le_refl _)
    have lt : b + 1 < s.heap.objs.size := Heap.lt_size he
    refine wpAny_pyNext_enum_itemC D1 he (t1 _ s1) hi (ne_add (c := 1) (d := 0) (by decide)) (fun h => zno (by decide) (by decide) (b1 _ h)) fun x h' tk px ho a1 hT _ kp => ?_
    refine ⟨_, rfl, wpAny_letOwnedTupleGo_enum (s := { s with heap := h', toks := tk + 1 }) ho fun h2 he2 sb => ?_⟩
    obtain ⟨u, gu, ru⟩ := v1 i x px
    have up : ∀ d o, d ≠ b + 1 → h'.get? d = some o → h2.get? d = some o := fun d o ne e => (sb.2 d ne).trans e
    have new2 : h2.get? s.heap.objs.size = some { cls := .type "tuple", data := .seq #[.int (c + (i : Nat)) tk, x] } := up _ _ (Nat.ne_of_gt lt) hT
    have ok : ObjOk X.prog X.w (upd H s.heap.objs.size (.tup [.int (c + (i : Nat)), u])) h2 s.heap.objs.size (.tup [.int (c + (i : Nat)), u]) :=
      ⟨by show 2 ≤ sizeLine; decide, [.int (c + (i : Nat)) tk, x], .cons ⟨_, rfl⟩ (.cons ru .nil), ⟨_, new2, rfl, _, rfl⟩⟩
    have I1 : Inv X pins σ (upd H s.heap.objs.size (.tup [.int (c + (i : Nat)), u])) { s with heap := h2, toks := tk + 1 } :=
      I.turnedNew (t' := tk + 1) (ch := [b + 1, b]) (fun d o hb q => up d o (fun q' => hb (by simp [q'])) (kp d o (fun q' => hb (by simp [q'])) (fun q' => hb (by simp [q'])) q)) hf (Nat.le_refl _) ok
    refine ⟨.ref s.heap.objs.size, _, I1, rfl, ⟨_, u, rfl, I.hok.fresh (Nat.le_refl _), rfl, fun l hl => by rw [Kd.inj I hl hx]; exact gu⟩, ⟨⟨x, ?_⟩, ?_⟩, fun d hd => ?_⟩
    · have e1 : c + ((i + 1 : Nat) : Int) = c + (i : Nat) + 1 := by omega
      rw [e1]
      exact he2
    · exact Kd.keep (o1 _ _ a1) fun o e => up _ _ (ne_add (c := 0) (d := 1) (by decide)) e
    · have hlt : d < s.heap.objs.size := by
        simp only [List.mem_cons, List.not_mem_nil, or_false] at hd
        rcases hd with rfl | rfl
        · exact lt
        · exact Nat.lt_of_succ_lt lt
      rw [upd_ne (Nat.ne_of_lt hlt)]
      exact (hf d hd).1
  done := by
    intro X hP hw hK hc i pins s σ H E I hf st hg
    subst hP hw hK
    obtain ⟨⟨old, he⟩, s1⟩ := st
    obtain ⟨xs, hx, rfl⟩ := hg
    obtain ⟨f1, P1, S1, D1, m1, b1, t1, o1, v1⟩ := Kd.draws (t := u1) (it := b) I hc hx l1 (Nat.le_refl _)
    exact wpAny_pyNext_enum_endD D1 he (t1 _ s1) fun h' z => ⟨rfl, I.turnedL (t' := s.toks) (ch := [b + 1, b]) (fun d o hb q => z d o (fun q' => hb (by simp [q'])) q) hf⟩
  self := fun A i s Q E st h => let ⟨⟨_, he⟩, _⟩ := st; wpAny_pyIter_enum he h
def iEnumK (K : PySem.W.Frag) (ta : TA) : TI := fun σ H R => ta σ H fun vs H1 => ∃ (k : Kd) (xs : List V), vs = [k.v] ∧ k.src K H1 xs ∧ R (IteK K k 0) H1
theorem pi_enumK {X : Cx} {e : Expr} {ta : TA} {p pos tpos : Pos} {elts : List Expr} {kk : Nat} (hg : Gl X "enumerate") (hm : X.mg "enumerate" = none) (ha : PA X [e] ta) (hs : starEach [e] X.env = [(false, eval e X.env)] := by rfl) :
    PI X (.Tuple elts kk tpos) (.Call (.Name "enumerate" p) [e] [] pos) (iEnumK X.K ta) := by
  refine ⟨fun pins s σ H R I h => ?_⟩
  refine Call_ (ld_blt I hg hm boot_enumerate (PyProof.Rows.callWith_type1 (thn (ha.run pos pins s σ H _ I h) fun us s1 ⟨vs, H1, I1, r1, q1⟩ => ?_) hs rfl))
  obtain ⟨k, xs, ex, hx, q⟩ := q1
  subst ex
  cases r1 with
  | cons r rr =>
    cases rr
    obtain ⟨l1, t1, o1, G1, B1, g1, z1⟩ := Kd.begins I1 hx r
    refine enum1_begins B1 g1 fun h' he e1 kp => wpAny_pyIter_enum he ?_
    have I2 : Inv X pins σ H1 { s1 with heap := h' } := I1.kept (t' := s1.toks) kp
    refine ⟨_, _, _, _, H1, rfl, I2, turn_enumK (b := s1.heap.objs.size) (c := 0) (u1 := t1) l1, ⟨⟨.none, he⟩, z1 _ _ e1⟩, fun d hd => ?_, q⟩
    have le : s1.heap.objs.size ≤ d := by
      simp only [List.mem_cons, List.not_mem_nil, or_false] at hd
      rcases hd with rfl | rfl
      · exact Nat.le_add_right _ _
      · exact Nat.le_refl _
    exact I1.fpOk le (I1.hok.fresh le)
section
variable {F : FmKit} {T : Kx} {C H H' O O' : Hp} {G : Gm} {W W' : Om} {R : D → Om → Prop} {l : List D} {ta tk : TA}
theorem wk_enum {H1 : Hp} {k : Kd} {xs : List V} {c : Nat} (a1 : DenL F T H1 l xs) (s1 : ∀ H2 O2, Same H1 H2 → Dis O2 H2 → k.src T.K (ov O2 H2) xs) : Wk F T (IteK T.K k (c : Nat)) H1 (pairsD c l) := fun i H2 O2 s di => by
  refine ⟨fun d hd => ?_, fun ei => ?_⟩
  · obtain ⟨x, hx, rfl⟩ := pairsD_get hd
    obtain ⟨u, hu, ku⟩ := a1.get hx
    refine ⟨⟨xs, s1 _ _ s di, (List.getElem?_eq_some_iff.mp hu).1⟩, fun w X ⟨Tp, u', e1, e2, e3, e4⟩ => ?_⟩
    have hu' := e4 xs (s1 _ _ s di)
    rw [hu] at hu'
    cases hu'
    obtain ⟨h1, h2⟩ := ov_none e2
    have ec : ((c + i : Nat) : Int) = (c : Int) + (i : Nat) := by omega
    have sm := same_upd (o := .tup [.int ((c : Nat) + (i : Nat)), u]) h2
    refine ⟨upd H2 Tp (.tup [.int ((c : Nat) + (i : Nat)), u]), sm, di.updH h1, by rw [e3, ov_updH h1], Tp, _, e1, SqT.of upd_same, ?_⟩
    rw [ec]
    exact ⟨_, _, rfl, rfl, u, _, rfl, (ku.mono s).mono sm, rfl⟩
  · rw [pairsD_len] at ei
    exact ⟨xs, s1 _ _ s di, by rw [a1.len]; exact ei⟩
theorem ei_enumK {Y : List D → Om → Prop} (h : EvA F T ta G W fun ds W1 => ∃ d l, ds = [d] ∧ Zs d l ∧ Y (pairsD 0 l) W1) : EvI F T (iEnumK T.K ta) G W Y := fun C H O σ w Q q =>
  h C H O σ w _ fun ds W1 H1 O1 us ⟨d, l, ed, z1, y⟩ n k => by
    subst ed
    obtain ⟨x, r, e1, k1, e2⟩ := k
    have e2 : r = [] := e2
    subst e2 e1
    obtain ⟨kd1, xs, ex, a1, s1⟩ := z1.kd k1
    subst ex
    exact ⟨kd1, xs, rfl, s1 _ _ (.refl _) n.dis, q _ _ W1 H1 O1 y n (wk_enum (c := 0) a1 s1)⟩
end
end N
set_option Elab.async false
set_option linter.all false
set_option maxRecDepth 100000
/-! Formulas as nested tuples; how high, how large; what draws give. -/
namespace N
open PySem PySem.Spec PyProof.Rows L2
theorem cutD_tl (x : D) (l : List D) : cutD (x :: l) (some 1) none = l := by
  unfold cutD
  have e1 : HT.sIx (x :: l).length 0 (some 1) = 1 := by
    have e : HT.sIx (x :: l).length 0 (some 1) = min 1 (x :: l).length := HT.sIx_nat (x :: l).length 0 1
    rw [e]
    simp
  have e2 : HT.sIx (x :: l).length (x :: l).length none = (x :: l).length := rfl
  rw [e1, e2]
  simp
namespace Fm
def tr : Fm → D
  | .at c => .tup [.str "atom", .str (sg c)]
  | .no => .tup [.str "no"]
  | .imp a b => .tup [.str "if", a.tr, b.tr]
  | .all a => .tup [.str "all", a.tr]
def ht : Fm → Nat
  | .at _ => 0
  | .no => 0
  | .imp a b => 1 + max a.ht b.ht
  | .all a => 1 + a.ht
theorem sz_ht : ∀ f : Fm, f.sz + 5 ≤ 7 * 2 ^ f.ht
  | .at _ => by simp [sz, ht]
  | .no => by simp [sz, ht]
  | .imp a b => by
    have h1 := sz_ht a
    have h2 := sz_ht b
    have l1 : 2 ^ a.ht ≤ 2 ^ max a.ht b.ht := Nat.pow_le_pow_right (by omega) (Nat.le_max_left _ _)
    have l2 : 2 ^ b.ht ≤ 2 ^ max a.ht b.ht := Nat.pow_le_pow_right (by omega) (Nat.le_max_right _ _)
    simp only [sz, ht, Nat.pow_add, Nat.pow_one]
    omega
  | .all a => by
    have h1 := sz_ht a
    have : 1 ≤ 2 ^ a.ht := Nat.one_le_two_pow
    simp only [sz, ht, Nat.pow_add, Nat.pow_one]
    omega
theorem many_sz : ∀ f : Fm, f.many ≤ f.sz
  | .at _ => Nat.le_refl _
  | .no => by simp [many, sz]
  | .imp a b => by
    have := many_sz a
    have := many_sz b
    simp only [many, sz]
    omega
  | .all a => by
    have := many_sz a
    simp only [many, sz]
    omega
/-- few unlike all-parts -/
def few (k : Nat) (f : Fm) : Prop := ∃ L : List Fm, L.length ≤ k ∧ ∀ g ∈ f.alls, g ∈ L
theorem few.len {k : Nat} {f : Fm} (h : few k f) (ok : f.okL) : f.alls.length ≤ k := by
  obtain ⟨L, h1, h2⟩ := h
  exact Nat.le_trans (len_le (nodup_asc (alls_sub ok).2) h2) h1
theorem few.up {k j : Nat} {f : Fm} (h : few k f) (hk : k ≤ j) : few j f := let ⟨L, h1, h2⟩ := h; ⟨L, by omega, h2⟩
theorem few.imp {k j : Nat} {f g : Fm} (h : few k f) (h' : few j g) : few (k + j) (.imp f g) := by
  obtain ⟨L, h1, h2⟩ := h
  obtain ⟨M, h3, h4⟩ := h'
  refine ⟨L ++ M, by rw [List.length_append]; omega, fun x hx => ?_⟩
  rw [List.mem_append]
  exact (mem_merge.mp hx).imp (h2 x) (h4 x)
theorem few.same {k : Nat} {f : Fm} (h : few k f) : few k (.imp f f) := by
  obtain ⟨L, h1, h2⟩ := h
  exact ⟨L, h1, fun x hx => (mem_merge.mp hx).elim (h2 x) (h2 x)⟩
theorem few.all {k : Nat} {f : Fm} (h : few k f) : few (k + 1) (.all f) := by
  obtain ⟨L, h1, h2⟩ := h
  refine ⟨.all f :: L, by rw [List.length_cons]; omega, fun x hx => ?_⟩
  rw [List.mem_cons]
  rcases mem_merge.mp hx with h | h
  · exact .inr (h2 x h)
  · exact .inl (List.mem_singleton.mp h)
theorem few.at (c : Nat) : few 0 (.at c) := ⟨[], Nat.le_refl _, fun x hx => by simp [alls] at hx⟩
theorem few.no : few 0 .no := ⟨[], Nat.le_refl _, fun x hx => by simp [alls] at hx⟩
theorem few_ht : ∀ f : Fm, few (2 ^ f.ht - 1) f
  | .at c => (few.at c).up (by omega)
  | .no => few.no.up (by omega)
  | .imp a b => by
    have l1 : 2 ^ a.ht ≤ 2 ^ max a.ht b.ht := Nat.pow_le_pow_right (by omega) (Nat.le_max_left _ _)
    have l2 : 2 ^ b.ht ≤ 2 ^ max a.ht b.ht := Nat.pow_le_pow_right (by omega) (Nat.le_max_right _ _)
    refine ((few_ht a).imp (few_ht b)).up ?_
    simp only [ht, Nat.pow_add, Nat.pow_one]
    omega
  | .all a => by
    have : 1 ≤ 2 ^ a.ht := Nat.one_le_two_pow
    refine (few_ht a).all.up ?_
    simp only [ht, Nat.pow_add, Nat.pow_one]
    omega
end Fm
theorem DkA_mono {a : Addr} {c c' : Int} {W : Om} (h : DkA a c W) (hc : c ≤ c') : DkA a c' W := let ⟨l, cells, s, n, h1, h2, h3, h4⟩ := h; ⟨l, cells, s, n, h1, h2, h3, by omega⟩
def letters (p : Str) : Prop := ∀ c ∈ lets p, (65 ≤ c ∧ c ≤ 90) ∨ (97 ≤ c ∧ c ≤ 122)
def S_form (Dk : Deck) (j : Nat) : FS := fun ds W post => ∃ (a : Addr) (c : Int) (p : Str) (n : Nat), ds = [.adr a, .str p, .int (n : Nat)] ∧ Dk a c W ∧ n < j ∧ j ≤ 20 ∧ letters p ∧ p.length ≠ 0 ∧ p.length ≤ 1000 ∧ c + 4 * 2 ^ n < 2 ^ 59 ∧
  ∀ (f : Fm) (W' : Om), f.okL → f.ht ≤ n → Dk a (c + (4 * 2 ^ n - 1)) W' → post f.tr W'
def S_text (j : Nat) : FS := fun ds W post => ∃ f : Fm, ds = [f.tr] ∧ W = [] ∧ f.ht < j ∧ f.sz ≤ 1000000 ∧ post (.str f.spell) []
def S_built (j : Nat) : FS := fun ds W post => ∃ f : Fm, ds = [f.tr] ∧ W = [] ∧ f.ht < j ∧ f.okF ∧ post (.fm f) []
theorem pow_le19 {n : Nat} (h : n ≤ 20) : (2 : Int) ^ n ≤ 1048576 := by
  have : (2 : Nat) ^ n ≤ 2 ^ 20 := Nat.pow_le_pow_right (by omega) h
  have e : ((2 ^ n : Nat) : Int) = (2 : Int) ^ n := by rw [Int.natCast_pow]; rfl
  rw [← e]
  have : (2 : Nat) ^ 20 = 1048576 := by decide
  omega
theorem pow_pos' (n : Nat) : (1 : Int) ≤ 2 ^ n := by
  have : 1 ≤ (2 : Nat) ^ n := Nat.one_le_two_pow
  have e : ((2 ^ n : Nat) : Int) = (2 : Int) ^ n := by rw [Int.natCast_pow]; rfl
  omega
theorem str_nat (n : Nat) : (((n + 1 : Nat) : Int) - 1) = (n : Int) := by omega
end N
set_option Elab.async false
set_option linter.all false
set_option maxRecDepth 100000
/-! The formulas within one; formulas put in. -/
namespace N
open PySem PySem.Spec PyProof.Rows L2
namespace Fm
def inner : Fm → List Fm
  | .imp a b => [a, b]
  | .all a => [a]
  | _ => []
def subs : Fm → List Fm
  | .at c => [.at c]
  | .no => [.no]
  | .imp a b => .imp a b :: (subs a ++ subs b)
  | .all a => .all a :: subs a
theorem subs_len : ∀ f : Fm, (subs f).length = f.many
  | .at _ => rfl
  | .no => rfl
  | .imp a b => by
    simp only [subs, List.length_cons, List.length_append, subs_len a, subs_len b, many]
    omega
  | .all a => by
    simp only [subs, List.length_cons, subs_len a, many]
    omega
theorem subs_self (f : Fm) : f ∈ subs f := by cases f <;> simp [subs]
theorem inner_subs {p : Fm} : ∀ {f g : Fm}, g ∈ subs f → p ∈ inner g → p ∈ subs f
  | .at c, g, h, hp => by
    simp only [subs, List.mem_singleton] at h
    subst h
    simp [inner] at hp
  | .no, g, h, hp => by
    simp only [subs, List.mem_singleton] at h
    subst h
    simp [inner] at hp
  | .imp a b, g, h, hp => by
    simp only [subs, List.mem_cons, List.mem_append] at h ⊢
    rcases h with rfl | h | h
    · simp only [inner, List.mem_cons, List.not_mem_nil, or_false] at hp
      rcases hp with rfl | rfl
      · exact .inr (.inl (subs_self _))
      · exact .inr (.inr (subs_self _))
    · exact .inr (.inl (inner_subs h hp))
    · exact .inr (.inr (inner_subs h hp))
  | .all a, g, h, hp => by
    simp only [subs, List.mem_cons] at h ⊢
    rcases h with rfl | h
    · simp only [inner, List.mem_cons, List.not_mem_nil, or_false] at hp
      subst hp
      exact .inr (subs_self _)
    · exact .inr (inner_subs h hp)
theorem okF.subs : ∀ {f g : Fm}, f.okF → g ∈ subs f → g.okF
  | .at c, g, hf, h => by
    simp only [Fm.subs, List.mem_singleton] at h
    exact h ▸ hf
  | .no, g, hf, h => by
    simp only [Fm.subs, List.mem_singleton] at h
    exact h ▸ hf
  | .imp a b, g, hf, h => by
    simp only [Fm.subs, List.mem_cons, List.mem_append] at h
    rcases h with rfl | h | h
    · exact hf
    · exact okF.subs hf.l h
    · exact okF.subs hf.r h
  | .all a, g, hf, h => by
    simp only [Fm.subs, List.mem_cons] at h
    rcases h with rfl | h
    · exact hf
    · exact okF.subs hf.a h
theorem inner_sz {p g : Fm} (h : p ∈ inner g) : p.sz < g.sz := by
  cases g with
  | «at» c => simp [inner] at h
  | no => simp [inner] at h
  | imp a b =>
    simp only [inner, List.mem_cons, List.not_mem_nil, or_false] at h
    simp only [sz]
    rcases h with rfl | rfl <;> omega
  | all a =>
    simp only [inner, List.mem_cons, List.not_mem_nil, or_false] at h
    subst h
    simp only [sz]
    omega
theorem inner_len (g : Fm) : (inner g).length ≤ 2 := by cases g <;> simp [inner]
/-- each one behind those within it -/
inductive Cl : List Fm → Prop
  | nil : Cl []
  | snoc {l : List Fm} {g : Fm} : Cl l → (∀ p ∈ inner g, p ∈ l) → Cl (l ++ [g])
theorem Cl.take {l : List Fm} (h : Cl l) : ∀ i g, l[i]? = some g → ∀ p ∈ inner g, p ∈ l.take i := by
  induction h with
  | nil => intro i g h; simp at h
  | @snoc l g h hp ih =>
    intro i x hx p px
    by_cases hi : i < l.length
    · rw [List.getElem?_append_left hi] at hx
      rw [List.take_append_of_le_length (by omega)]
      exact ih i x hx p px
    · rw [List.getElem?_append_right (by omega)] at hx
      have e : i = l.length := by
        have := (List.getElem?_eq_some_iff.mp hx).1
        simp at this
        omega
      subst e
      simp at hx
      subst hx
      simp
      exact hp p px
structure PW (f : Fm) (K F : List Fm) (L : List (Fm × Bool)) : Prop where
  kn : K.Nodup
  ks : ∀ g ∈ K, g ∈ subs f
  ls : ∀ x ∈ L, x.1 ∈ subs f
  kf : ∀ g, g ∈ K ↔ g ∈ F ∨ (g, true) ∈ L
  fn : F.Nodup
  dj : ∀ g ∈ F, (g, true) ∉ L
  cl : Cl F
  up : ∀ A h B, L = A ++ (h, true) :: B → (∀ x ∈ B, x.1.sz < h.sz) ∧ ∀ p ∈ inner h, p ∈ F ∨ ∃ b, (p, b) ∈ B
  bt : (∃ B, L = (f, true) :: B) ∨ (L = [] ∧ ∃ F', F = F' ++ [f]) ∨ (L = [(f, false)] ∧ K = [])
  ln : L.length ≤ 2 * K.length + 1
theorem PW.start (f : Fm) : PW f [] [] [(f, false)] where
  kn := List.nodup_nil
  ks := by simp
  ls := by simp [subs_self]
  kf := by simp
  fn := List.nodup_nil
  dj := by simp
  cl := .nil
  up := by
    intro A h B e
    have : (h, true) ∈ [(f, false)] := by rw [e]; simp
    simp at this
  bt := .inr (.inr ⟨rfl, rfl⟩)
  ln := by simp
section
variable {f g h : Fm} {K F : List Fm} {L : List (Fm × Bool)}
theorem PW.low (s : PW f K F (L ++ [(h, true)])) : (h, true) ∉ L := fun m => by
  obtain ⟨A, B, e⟩ := List.append_of_mem m
  have := (s.up A h (B ++ [(h, true)]) (by rw [e]; simp)).1 (h, true) (by simp)
  exact Nat.lt_irrefl _ this
theorem PW.pop_true (s : PW f K F (L ++ [(h, true)])) : PW f K (F ++ [h]) L where
  kn := s.kn
  ks := s.ks
  ls := fun x hx => s.ls x (List.mem_append_left _ hx)
  kf := fun g => by
    rw [s.kf g]
    simp only [List.mem_append, List.mem_singleton, Prod.mk.injEq, and_true]
    constructor
    · rintro (h | h | h)
      · exact .inl (.inl h)
      · exact .inr h
      · exact .inl (.inr h)
    · rintro ((h | h) | h)
      · exact .inl h
      · exact .inr (.inr h)
      · exact .inr (.inl h)
  fn := by
    rw [List.nodup_append]
    refine ⟨s.fn, by simp, fun a ha b hb e => ?_⟩
    simp at hb
    subst hb e
    exact s.dj a ha (by simp)
  dj := fun g hg m => by
    rcases List.mem_append.mp hg with h | h
    · exact s.dj g h (List.mem_append_left _ m)
    · simp at h
      subst h
      exact s.low m
  cl := .snoc s.cl fun p hp => ((s.up L h [] rfl).2 p hp).elim id fun ⟨b, z⟩ => by simp at z
  up := fun A h' B e => by
    obtain ⟨u1, u2⟩ := s.up A h' (B ++ [(h, true)]) (by rw [e]; simp)
    refine ⟨fun x hx => u1 x (List.mem_append_left _ hx), fun p hp => ?_⟩
    rcases u2 p hp with z | ⟨b, z⟩
    · exact .inl (List.mem_append_left _ z)
    · rcases List.mem_append.mp z with z | z
      · exact .inr ⟨b, z⟩
      · simp at z
        exact .inl (by simp [z.1])
  bt := by
    rcases s.bt with ⟨B, e⟩ | ⟨e, _⟩ | ⟨e, _⟩
    · cases L with
      | nil =>
        simp at e
        exact .inr (.inl ⟨rfl, F, by rw [e.1]⟩)
      | cons x L =>
        simp at e
        exact .inl ⟨L, by rw [e.1]⟩
    · simp at e
    · cases L with
      | nil => simp at e
      | cons x L => simp at e
  ln := by
    have := s.ln
    rw [List.length_append] at this
    simp at this
    omega
theorem PW.pop_known (s : PW f K F (L ++ [(g, false)])) (hk : g ∈ K) : PW f K F L where
  kn := s.kn
  ks := s.ks
  ls := fun x hx => s.ls x (List.mem_append_left _ hx)
  kf := fun x => by
    rw [s.kf x]
    simp
  fn := s.fn
  dj := fun x hx m => s.dj x hx (List.mem_append_left _ m)
  cl := s.cl
  up := fun A h B e => by
    obtain ⟨u1, u2⟩ := s.up A h (B ++ [(g, false)]) (by rw [e]; simp)
    refine ⟨fun x hx => u1 x (List.mem_append_left _ hx), fun p hp => ?_⟩
    rcases u2 p hp with z | ⟨b, z⟩
    · exact .inl z
    · rcases List.mem_append.mp z with z | z
      · exact .inr ⟨b, z⟩
      · simp at z
        obtain ⟨rfl, rfl⟩ := z
        rcases (s.kf p).mp hk with y | y
        · exact .inl y
        · rcases List.mem_append.mp y with y | y
          · rw [e] at y
            rcases List.mem_append.mp y with y | y
            · obtain ⟨A1, A2, e2⟩ := List.append_of_mem y
              have := (s.up A1 p (A2 ++ (h, true) :: B ++ [(p, false)]) (by rw [e, e2]; simp)).1 (h, true) (by simp)
              have := inner_sz hp
              simp only at *
              omega
            · rcases List.mem_cons.mp y with y | y
              · cases y
                exact absurd (inner_sz hp) (Nat.lt_irrefl _)
              · exact .inr ⟨true, y⟩
          · simp at y
  bt := by
    rcases s.bt with ⟨B, e⟩ | ⟨e, _⟩ | ⟨e, ek⟩
    · cases L with
      | nil => simp at e
      | cons x L =>
        simp at e
        exact .inl ⟨L, by rw [e.1]⟩
    · simp at e
    · rw [ek] at hk
      simp at hk
  ln := by
    have := s.ln
    rw [List.length_append] at this
    simp at this
    omega
theorem PW.pop_new (s : PW f K F (L ++ [(g, false)])) (hk : g ∉ K) : PW f (K ++ [g]) F (L ++ [(g, true)] ++ (inner g).map (·, false)) where
  kn := by
    rw [List.nodup_append]
    refine ⟨s.kn, by simp, fun a ha b hb e => ?_⟩
    simp at hb
    subst hb e
    exact hk ha
  ks := fun x hx => by
    rcases List.mem_append.mp hx with h | h
    · exact s.ks x h
    · simp at h
      subst h
      exact s.ls (x, false) (by simp)
  ls := fun x hx => by
    have hg : g ∈ subs f := s.ls (g, false) (by simp)
    rcases List.mem_append.mp hx with h | h
    · rcases List.mem_append.mp h with h | h
      · exact s.ls x (List.mem_append_left _ h)
      · simp at h
        subst h
        exact hg
    · obtain ⟨p, hp, e⟩ := List.mem_map.mp h
      subst e
      exact inner_subs hg hp
  kf := fun x => by
    have := s.kf x
    simp only [List.mem_append, List.mem_singleton, Prod.mk.injEq, Bool.true_eq_false, and_false, or_false, List.mem_map, and_true, exists_false, Bool.false_eq_true] at this ⊢
    rw [this]
    constructor
    · rintro ((h | h) | h)
      · exact .inl h
      · exact .inr (.inl h)
      · exact .inr (.inr h)
    · rintro (h | h | h)
      · exact .inl (.inl h)
      · exact .inl (.inr h)
      · exact .inr h
  fn := s.fn
  dj := fun x hx m => by
    simp only [List.mem_append, List.mem_singleton, Prod.mk.injEq, and_true, List.mem_map, Bool.false_eq_true, and_false, exists_false, or_false] at m
    rcases m with m | m
    · exact s.dj x hx (List.mem_append_left _ m)
    · subst m
      exact hk ((s.kf x).mpr (.inl hx))
  cl := s.cl
  up := fun A h B e => by
    have hM : ∀ x ∈ (inner g).map (·, false), x.2 = false := fun x hx => by
      obtain ⟨p, _, e⟩ := List.mem_map.mp hx
      subst e
      rfl
    rw [List.append_assoc, List.append_eq_append_iff] at e
    rcases e with ⟨a', e1, e2⟩ | ⟨c', e1, e2⟩
    · cases a' with
      | nil =>
        simp at e2
        obtain ⟨e2, e3⟩ := e2
        subst e2 e3
        refine ⟨fun x hx => ?_, fun p hp => .inr ⟨false, List.mem_map.mpr ⟨p, hp, rfl⟩⟩⟩
        obtain ⟨p, hp, e⟩ := List.mem_map.mp hx
        subst e
        exact inner_sz hp
      | cons y a' =>
        simp at e2
        have : (h, true) ∈ (inner g).map (·, false) := by rw [e2.2]; simp
        exact absurd (hM _ this) (by simp)
    · cases c' with
      | nil =>
        simp at e2
        obtain ⟨e2, e3⟩ := e2
        subst e2 e3
        refine ⟨fun x hx => ?_, fun p hp => .inr ⟨false, List.mem_map.mpr ⟨p, hp, rfl⟩⟩⟩
        obtain ⟨p, hp, e⟩ := List.mem_map.mp hx
        subst e
        exact inner_sz hp
      | cons y c' =>
        simp at e2
        obtain ⟨e2, e3⟩ := e2
        subst e2 e3
        obtain ⟨u1, u2⟩ := s.up A h (c' ++ [(g, false)]) (by rw [e1]; simp)
        have hg := u1 (g, false) (by simp)
        refine ⟨fun x hx => ?_, fun p hp => ?_⟩
        · rcases List.mem_append.mp hx with z | z
          · exact u1 x (List.mem_append_left _ z)
          · rcases List.mem_cons.mp z with z | z
            · subst z
              exact hg
            · obtain ⟨p, hp, e⟩ := List.mem_map.mp z
              subst e
              exact Nat.lt_trans (inner_sz hp) hg
        · rcases u2 p hp with z | ⟨b, z⟩
          · exact .inl z
          · rcases List.mem_append.mp z with z | z
            · exact .inr ⟨b, List.mem_append_left _ z⟩
            · simp at z
              exact .inr ⟨true, by simp [z.1]⟩
  bt := by
    rcases s.bt with ⟨B, e⟩ | ⟨e, _⟩ | ⟨e, _⟩
    · cases L with
      | nil => simp at e
      | cons x L =>
        simp at e
        exact .inl ⟨L ++ (g, true) :: (inner g).map (·, false), by rw [e.1]; simp⟩
    · simp at e
    · cases L with
      | nil =>
        simp at e
        exact .inl ⟨(inner g).map (·, false), by rw [e]; rfl⟩
      | cons x L => simp at e
  ln := by
    have := s.ln
    have := inner_len g
    simp only [List.length_append, List.length_cons, List.length_nil, List.length_map] at *
    omega
theorem PW.room (s : PW f K F L) : K.length ≤ f.many := by
  rw [← subs_len f]
  exact len_le s.kn s.ks
theorem PW.floor (s : PW f K F L) : F.length ≤ f.many := by
  rw [← subs_len f]
  exact len_le s.fn fun g hg => s.ks g ((s.kf g).mpr (.inl hg))
theorem PW.fin (s : PW f K F []) : (∃ F', F = F' ++ [f]) ∧ Cl F ∧ F.Nodup ∧ ∀ g ∈ F, g ∈ subs f := by
  refine ⟨?_, s.cl, s.fn, fun g hg => s.ks g ((s.kf g).mpr (.inl hg))⟩
  rcases s.bt with ⟨B, e⟩ | ⟨_, h⟩ | ⟨e, _⟩
  · simp at e
  · exact h
  · simp at e
end
/-- others in the place of atoms -/
def sub (σ : Nat → Fm) : Fm → Fm
  | .at c => σ c
  | .no => .no
  | .imp a b => .imp (a.sub σ) (b.sub σ)
  | .all a => .all (a.sub σ)
theorem sub_okF {σ : Nat → Fm} : ∀ {f g : Fm}, (f.sub σ).okF → g ∈ subs f → (g.sub σ).okF
  | .at c, g, hf, h => by
    simp only [subs, List.mem_singleton] at h
    exact h ▸ hf
  | .no, g, hf, h => by
    simp only [subs, List.mem_singleton] at h
    exact h ▸ hf
  | .imp a b, g, hf, h => by
    simp only [subs, List.mem_cons, List.mem_append] at h
    rcases h with rfl | h | h
    · exact hf
    · exact sub_okF (okF.l hf) h
    · exact sub_okF (okF.r hf) h
  | .all a, g, hf, h => by
    simp only [subs, List.mem_cons] at h
    rcases h with rfl | h
    · exact hf
    · exact sub_okF (okF.a hf) h
end Fm
/-- what a list of pairs puts in the place of an atom -/
def asg (ps : List (Nat × Fm)) (c : Nat) : Fm := (ps.lookup c).getD (.at c)
def S_within : FS := fun ds W post => ∃ f : Fm, ds = [.fm f] ∧ W = [] ∧ f.okF ∧ ∀ l : List Fm, (∃ l', l = l' ++ [f]) → Fm.Cl l → l.Nodup → (∀ g ∈ l, g ∈ Fm.subs f) → post (.lst (l.map .fm)) []
def S_put : FS := fun ds W post => ∃ (f : Fm) (ps : List (Nat × D × Fm)), ds = [.fm f, .tup (ps.map fun r => .tup [.str (sg r.1), r.2.1])] ∧ W = [] ∧ f.okF ∧ (∀ r ∈ ps, Opd r.2.1 r.2.2) ∧ (ps.map (·.1)).Nodup ∧ ps.length ≤ 1000 ∧
  (f.sub (asg (ps.map fun r => (r.1, r.2.2)))).okF ∧ post (.fm (f.sub (asg (ps.map fun r => (r.1, r.2.2))))) []
/-- formulas as the keys of a dict -/
def kns (K : List Fm) : List (Key × D) := K.map fun g => (Sum.inr g.spell, .bl true)
theorem getG_none {ps : List (Key × D)} {k : Key} (h : k ∉ ps.map (·.1)) : getG ps k = none := by
  unfold getG
  rw [List.find?_eq_none.mpr fun q hq => by
    rw [decide_eq_true_eq]
    exact fun e => h (List.mem_map.mpr ⟨q, hq, e⟩)]
  rfl
theorem getG_mem {ps : List (Key × D)} {k : Key} (h : k ∈ ps.map (·.1)) : (getG ps k).isSome = true := by
  obtain ⟨q, hq, e⟩ := List.mem_map.mp h
  unfold getG
  rw [Option.isSome_map, List.find?_isSome]
  exact ⟨q, hq, by rw [decide_eq_true_eq]; exact e⟩
theorem kns_keys {K : List Fm} {g : Fm} (hK : ∀ x ∈ K, x.okL) (hg : g.okL) : (Sum.inr g.spell : Key) ∈ (kns K).map (·.1) ↔ g ∈ K := by
  unfold kns
  rw [List.map_map, List.mem_map]
  constructor
  · rintro ⟨x, hx, e⟩
    have : x.spell = g.spell := by simpa using e
    exact Fm.spell_inj (hK x hx) hg this ▸ hx
  · exact fun h => ⟨g, h, rfl⟩
theorem getG_kns {K : List Fm} {g : Fm} (hK : ∀ x ∈ K, x.okL) (hg : g.okL) : (getG (kns K) (Sum.inr g.spell)).isSome = decide (g ∈ K) := by
  by_cases h : g ∈ K
  · rw [getG_mem ((kns_keys hK hg).mpr h), decide_eq_true h]
  · rw [getG_none (fun z => h ((kns_keys hK hg).mp z)), decide_eq_false h]
    rfl
theorem put_kns {K : List Fm} {g : Fm} (hK : ∀ x ∈ K, x.okL) (hg : g.okL) (h : g ∉ K) : putG (kns K) (Sum.inr g.spell) (.bl true) = kns (K ++ [g]) := by
  rw [putG_new (fun z => h ((kns_keys hK hg).mp z))]
  simp [kns]
/-- a table of formulas by their texts -/
def kvF (v : Fm → D) (l : List Fm) : List (Key × D) := l.map fun g => (Sum.inr g.spell, v g)
theorem kvF_keys {v : Fm → D} {l : List Fm} {g : Fm} (hl : ∀ x ∈ l, x.okL) (hg : g.okL) : (Sum.inr g.spell : Key) ∈ (kvF v l).map (·.1) ↔ g ∈ l := by
  rw [← kns_keys hl hg]
  simp [kvF, kns]
theorem put_kvF {v : Fm → D} {l : List Fm} {g : Fm} (hl : ∀ x ∈ l, x.okL) (hg : g.okL) (h : g ∉ l) : putG (kvF v l) (Sum.inr g.spell) (v g) = kvF v (l ++ [g]) := by
  rw [putG_new (fun z => h ((kvF_keys hl hg).mp z))]
  simp [kvF]
theorem getG_kvF {v : Fm → D} {l : List Fm} {g : Fm} (hl : ∀ x ∈ l, x.okL) (hg : g ∈ l) : getG (kvF v l) (Sum.inr g.spell) = some (v g) := by
  have h1 := getG_mem ((kvF_keys (v := v) hl (hl g hg)).mpr hg)
  obtain ⟨z, hz⟩ := Option.isSome_iff_exists.mp h1
  have h2 := hz
  unfold getG at h2
  obtain ⟨q, hq, e⟩ := Option.map_eq_some_iff.mp h2
  have h3 := List.mem_of_find?_eq_some hq
  have h4 := List.find?_some hq
  rw [decide_eq_true_eq] at h4
  obtain ⟨x, hx, e2⟩ := List.mem_map.mp h3
  subst e2
  have e3 : x.spell = g.spell := by simpa using h4
  have := Fm.spell_inj (hl x hx) (hl g hg) e3
  subst this
  rw [hz, ← e]
theorem getG_asg (ps : List (Nat × D × Fm)) (c : Nat) : (getG (ps.map fun r => ((Sum.inr (sg r.1) : Key), D.fm r.2.2)) (Sum.inr (sg c))).getD (.fm (.at c)) = .fm (asg (ps.map fun r => (r.1, r.2.2)) c) := by
  unfold asg
  induction ps with
  | nil => rfl
  | cons r ps ih =>
    unfold getG at ih ⊢
    simp only [List.map_cons, List.find?_cons, List.lookup_cons]
    by_cases e : r.1 = c
    · subst e
      simp
    · have : ¬ (Sum.inr (sg r.1) : Key) = Sum.inr (sg c) := fun h => e (sg_inj (by simpa using h))
      rw [show (c == r.1) = false from by simp; exact fun h => e h.symm]
      rw [decide_eq_false this]
      exact ih
end N
set_option Elab.async false
set_option linter.all false
set_option maxRecDepth 100000
/-! Webs: their data, what lies beneath, heights; what their defs promise. -/
namespace N
open PySem PySem.Spec PyProof.Rows L2
open C8 (Cal Met Mak InsC pe_c pe_mt pe_mt0 pe_mk)
theorem makD {P : Program} {w : World} {K : PySem.W.Frag} {mg : Str → Option Value} {base : Heap} {F : FmKit} {cl : Nat → Addr} {S : FS} {x qual : Str} {C : Addr} {st : Stmt} {f : Addr} {fd : FuncData} {N ps : List Str} {k : Nat} (M : Mk K C f) (hm : mg x = some (.ref C)) (Fn : Fun K "__init__" qual st f fd) (Sc : FnScope N ps (defScope st)) (len : ∀ ds W post, S ds W post → ds.length = ps.length)
    (hb : ∀ (kV doc pm : Value) (an : Option Addr) (cdv ct : Value) (us : List Value), us.length = ps.length → bindArgs (PySem.W.fnOf "__init__" qual (defArgs st) (defBody st) (defScope st) .none kV doc pm an cdv ct) ⟨us, []⟩ = pure (ps.zip us))
    (body : ∀ (cdv : Value) (A : Around) (outer : List Env) (s : Shared) (H : Hp) (E : XK), Room k (A.deeper (envOfC qual (defScope st) s.heap.objs.size f cdv)) →
      ∃ t, PSs (cxOf CX0 P w K mg base N qual (defScope st) f cdv A outer s H E).nox (defBody st) t ∧ ∀ ds W post, S ds W post → Sw F ⟨K, cl⟩ t (startD N ds) W (E_ post)) : Mak P w K mg base (k + 1) x C (spN F ⟨K, cl⟩ S) [] :=
  ⟨f, fd, ps, [], M, okD Fn Sc len body, hm, Fn.binds hb, .nil⟩
def wbNames : List Str := ["below", "atoms", "all_beneath", "all_heights"]
structure Wb where
  below : List (List Nat)
  atoms : List Str
abbrev natD (k : Nat) : D := .int (k : Nat)
abbrev rowD (r : List Nat) : D := .tup (r.map natD)
abbrev rowsD (rs : List (List Nat)) : D := .tup (rs.map rowD)
abbrev atomsD (l : List Str) : D := .tup (l.map .str)
/-- the points beneath each one, by the points directly below -/
def bensF (rs : List (List Nat)) : List (List Nat) := rs.foldl (fun acc r => acc ++ [ascN (r ++ (r.map fun k => acc.getD k []).flatten)]) []
def hgtF (rs : List (List Nat)) : List Nat := rs.foldl (fun acc r => acc ++ [((r.map fun k => 1 + acc.getD k 0)).foldl max 0]) []
structure rowsOk (rs : List (List Nat)) : Prop where
  asc : ∀ (i : Nat) (r : List Nat), rs[i]? = some r → r.Pairwise (· < ·) ∧ ∀ k ∈ r, k < i
  few : rs.length ≤ 63
theorem rowsOk.take {rs : List (List Nat)} (h : rowsOk rs) (n : Nat) : rowsOk (rs.take n) where
  asc := fun i r hr => by
    rw [List.getElem?_take] at hr
    split at hr
    · exact h.asc i r hr
    · cases hr
  few := Nat.le_trans (by rw [List.length_take]; exact Nat.min_le_right _ _) h.few
theorem bensF_snoc (rs : List (List Nat)) (r : List Nat) : bensF (rs ++ [r]) = bensF rs ++ [ascN (r ++ (r.map fun k => (bensF rs).getD k []).flatten)] := by
  unfold bensF
  rw [List.foldl_append]
  rfl
theorem hgtF_snoc (rs : List (List Nat)) (r : List Nat) : hgtF (rs ++ [r]) = hgtF rs ++ [((r.map fun k => 1 + (hgtF rs).getD k 0)).foldl max 0] := by
  unfold hgtF
  rw [List.foldl_append]
  rfl
theorem snoc_ind {α : Type} {P : List α → Prop} (h0 : P []) (h1 : ∀ l a, P l → P (l ++ [a])) (l : List α) : P l := by
  rw [← List.reverse_reverse l]
  induction l.reverse with
  | nil => exact h0
  | cons a l ih =>
    rw [List.reverse_cons]
    exact h1 _ a ih
theorem bensF_len (rs : List (List Nat)) : (bensF rs).length = rs.length := by
  induction rs using snoc_ind with
  | h0 => rfl
  | h1 rs r ih => rw [bensF_snoc, List.length_append, List.length_append, ih]; rfl
theorem hgtF_len (rs : List (List Nat)) : (hgtF rs).length = rs.length := by
  induction rs using snoc_ind with
  | h0 => rfl
  | h1 rs r ih => rw [hgtF_snoc, List.length_append, List.length_append, ih]; rfl
structure Wb.ok (w : Wb) : Prop where
  rows : rowsOk w.below
  some_ : w.below ≠ []
  len : w.atoms.length = w.below.length
  lets : ∀ s ∈ w.atoms, letters s ∧ (N.lets s).Pairwise (· < ·)
def Wb.d (w : Wb) : D := .obj 1 wbNames [rowsD w.below, atomsD w.atoms, .lst ((bensF w.below).map rowD), .lst ((hgtF w.below).map natD)]
def S_ascend : FS := fun ds W post => ∃ d, ds = [d] ∧ W = [] ∧ post (.bl true) [] ∧ ((∃ r : List Nat, d = rowD r ∧ r.length ≤ 100 ∧ r.Pairwise (· < ·)) ∨ ∃ s : Str, d = .str s ∧ s.length ≤ 100 ∧ (lets s).Pairwise (· < ·))
def S_isbelow : FS := fun ds W post => ∃ (i : Nat) (r : List Nat), ds = [natD i, rowD r] ∧ W = [] ∧ i ≤ 63 ∧ r.Pairwise (· < ·) ∧ (∀ k ∈ r, k < i) ∧ post (.bl true) []
def S_arebelow : FS := fun ds W post => ∃ rs : List (List Nat), ds = [rowsD rs] ∧ W = [] ∧ rowsOk rs ∧ rs ≠ [] ∧ post (.bl true) []
def S_isletters : FS := fun ds W post => ∃ s : Str, ds = [.str s] ∧ W = [] ∧ letters s ∧ (lets s).Pairwise (· < ·) ∧ post (.bl true) []
def S_areletters : FS := fun ds W post => ∃ l : List Str, ds = [.int (l.length : Nat), atomsD l] ∧ W = [] ∧ l.length ≤ 63 ∧ (∀ s ∈ l, letters s ∧ (lets s).Pairwise (· < ·)) ∧ post (.bl true) []
def S_beneathby : FS := fun ds W post => ∃ rs : List (List Nat), ds = [rowsD rs] ∧ W = [] ∧ rowsOk rs ∧ post (.lst ((bensF rs).map rowD)) []
def S_heightsby : FS := fun ds W post => ∃ rs : List (List Nat), ds = [rowsD rs] ∧ W = [] ∧ rowsOk rs ∧ post (.lst ((hgtF rs).map natD)) []
def S_initW : FS := fun ds W post => ∃ (x : Addr) (w : Wb), ds = [.adr x, rowsD w.below, atomsD w.atoms] ∧ W = [(x, .ins 1 [] [])] ∧ w.ok ∧
  post .non [(x, .ins 1 wbNames [rowsD w.below, atomsD w.atoms, .lst ((bensF w.below).map rowD), .lst ((hgtF w.below).map natD)])]
section
variable {F : FmKit} {T : Kx} {G : Gm} {W : Om} {R : D → Om → Prop} {tr : TA} {E : XK} {x : Addr} {z : D} {n : Str} {ns : List Str} {l : List D}
theorem ev_mkW (h : EvA F T tr G W fun ds W1 => ∃ w : Wb, ds = [rowsD w.below, atomsD w.atoms] ∧ w.ok ∧ R w.d W1) : Ev F T (tMake (T.cl 1) (spN F T S_initW) [] E tr) G W R :=
  ev_fz (ev_make (fun C H O σ w Q q => h C H O σ w Q fun ds W1 H1 O1 vs ⟨wb, e, hw, r⟩ n k => q ds W1 H1 O1 vs (fun x hx => by
    subst e
    exact ⟨[(x, .ins 1 [] [])], W1, List.Perm.refl _, x, wb, rfl, rfl, hw, rfl, x, _, W1, wb.d, rfl, List.Perm.refl _, .obj _ _ _, r⟩) n k))
end
theorem cutD_d1 (l : List D) : cutD l (some 1) none = l.drop 1 := by
  unfold cutD
  rw [show HT.sIx l.length 0 (some 1) = min 1 l.length from HT.sIx_nat l.length 0 1, show HT.sIx l.length l.length none = l.length from rfl]
  rw [List.take_of_length_le (by simp)]
  cases l <;> simp
theorem cutD_init (l : List D) : cutD l none (some (-1)) = l.take (l.length - 1) := by
  unfold cutD
  have e : HT.sIx l.length l.length (some (-1)) = l.length - 1 := by
    show (if (-1 : Int) < 0 then (-1 + (l.length : Int)).toNat else min (-1 : Int).toNat l.length) = _
    rw [if_pos (by decide)]
    omega
  rw [e, show HT.sIx l.length 0 none = 0 from rfl]
  simp
theorem cutS_d1 (s : Str) : (cutS s (some 1) none).cps.toList = (lets s).drop 1 := by
  unfold cutS
  rw [show HT.sIx s.length 0 (some 1) = min 1 s.length from HT.sIx_nat s.length 0 1, show HT.sIx s.length s.length none = s.length from rfl]
  have e : s.length = (lets s).length := str_len s
  rw [e]
  show ((lets s).drop _).take _ = _
  rw [List.take_of_length_le (by simp)]
  cases lets s <;> simp
theorem cutS_init (s : Str) : (cutS s none (some (-1))).cps.toList = (lets s).take ((lets s).length - 1) := by
  unfold cutS
  have e : s.length = (lets s).length := str_len s
  have e2 : HT.sIx s.length s.length (some (-1)) = s.length - 1 := by
    show (if (-1 : Int) < 0 then (-1 + (s.length : Int)).toNat else min (-1 : Int).toNat s.length) = _
    rw [if_pos (by decide)]
    omega
  rw [e2, show HT.sIx s.length 0 none = 0 from rfl, e]
  show ((lets s).drop 0).take _ = _
  simp
/-- neighbours in an ascending list -/
theorem adj {l : List Nat} (h : l.Pairwise (· < ·)) {i x y : Nat} (h1 : (l.take (l.length - 1))[i]? = some x) (h2 : (l.drop 1)[i]? = some y) : x < y := by
  rw [List.getElem?_take] at h1
  rw [List.getElem?_drop] at h2
  split at h1
  · rw [List.pairwise_iff_getElem] at h
    obtain ⟨a1, a2⟩ := List.getElem?_eq_some_iff.mp h1
    obtain ⟨b1, b2⟩ := List.getElem?_eq_some_iff.mp h2
    have := h i (1 + i) a1 b1 (by omega)
    rw [a2, b2] at this
    exact this
  · cases h1
theorem all_yes (n : Nat) : ((List.replicate n true).all id) = true := by simp
theorem yes_bl (n : Nat) : (List.replicate n true).map D.bl = List.replicate n (D.bl true) := by simp
theorem map_take_sub (l : List Nat) : (l.map natD).take ((l.map natD).length - 1) = (l.take (l.length - 1)).map natD := by rw [List.length_map, List.map_take]
theorem map_drop_1 (l : List Nat) : (l.map natD).drop 1 = (l.drop 1).map natD := by rw [List.map_drop]
section
variable {F : FmKit} {T : Kx} {W : Om} {R : D → Om → Prop}
theorem isi_int {i : Int} (r : R (.bl true) W) : Ca F T (rIsi T.K) [.int i, .vl (.ty "int")] W R := ca_isi (.ty "int") tyd_int (by unfold PySem.W.kitOne; rfl) r
theorem isi_intB {i : Int} (r : R (.bl false) W) : Ca F T (rIsi T.K) [.int i, .vl (.ty "bool")] W R := ca_isi (.ty "bool") tyd_int (by unfold PySem.W.kitOne; first | rfl | decide +kernel) r
end
theorem letters_len {s : Str} (hl : letters s) (hp : (lets s).Pairwise (· < ·)) : s.length ≤ 100 := by
  have h1 := hp.imp (S := (· ≠ ·)) fun h => Nat.ne_of_lt h
  have h2 := List.Nodup.length_le_of_subset (l₁ := (lets s).map (· - 30)) (l₂ := List.range 100) ?_ fun x hx => ?_
  · rw [List.length_range, List.length_map, ← str_len] at h2
    exact h2
  · rw [List.Nodup, List.pairwise_map]
    refine hp.imp_of_mem fun {a b} ha hb h => ?_
    have := hl a ha
    have := hl b hb
    omega
  · obtain ⟨c, hc, rfl⟩ := List.mem_map.mp hx
    have := hl c hc
    rw [List.mem_range]
    omega
/-- ints as the keys of a dict -/
def kni (ks : List Nat) : List (Key × D) := ks.map fun (k : Nat) => ((Sum.inl (k : Int) : Key), D.bl true)
theorem kni_keys (ks : List Nat) (k : Nat) : (Sum.inl (k : Int) : Key) ∈ (kni ks).map (·.1) ↔ k ∈ ks := by
  unfold kni
  rw [List.map_map, List.mem_map]
  constructor
  · rintro ⟨x, hx, e⟩
    have : (x : Int) = k := by simpa using e
    have : x = k := by omega
    exact this ▸ hx
  · exact fun h => ⟨k, h, rfl⟩
theorem kni_map (ks : List Nat) : (kni ks).map (·.1) = (ks.map fun (k : Nat) => (k : Int)).map Sum.inl := by
  unfold kni
  rw [List.map_map, List.map_map]
  rfl
/-- one key more, or none -/
def insK (ks : List Nat) (k : Nat) : List Nat := if k ∈ ks then ks else ks ++ [k]
theorem putG_old {v : D} {ps : List (Key × D)} {k : Key} (hv : ∀ p ∈ ps, p.2 = v) (h : k ∈ ps.map (·.1)) : putG ps k v = ps := by
  unfold putG
  obtain ⟨q, hq, e⟩ := List.mem_map.mp h
  rw [if_pos (List.any_eq_true.mpr ⟨q, hq, by rw [decide_eq_true_eq]; exact e⟩)]
  refine (List.map_congr_left fun p hp => ?_).trans (List.map_id ps)
  split
  · rw [← hv p hp]
    rfl
  · rfl
theorem put_kni (ks : List Nat) (k : Nat) : putG (kni ks) (Sum.inl (k : Int)) (.bl true) = kni (insK ks k) := by
  unfold insK
  split
  · next h =>
    exact putG_old (fun p hp => by
      obtain ⟨x, _, rfl⟩ := List.mem_map.mp hp
      rfl) ((kni_keys ks k).mpr h)
  · next h =>
    rw [putG_new (fun z => h ((kni_keys ks k).mp z))]
    simp [kni]
theorem mem_insK {ks : List Nat} {k x : Nat} : x ∈ insK ks k ↔ x ∈ ks ∨ x = k := by
  unfold insK
  split
  · next h =>
    constructor
    · exact .inl
    · rintro (h1 | rfl)
      · exact h1
      · exact h
  · simp
theorem nodup_insK {ks : List Nat} {k : Nat} (h : ks.Nodup) : (insK ks k).Nodup := by
  unfold insK
  split
  · exact h
  · next hk =>
    rw [List.nodup_append]
    refine ⟨h, by simp, fun a ha b hb e => ?_⟩
    simp at hb
    subst hb e
    exact hk ha
theorem up_kni (ks ms : List Nat) : upG (kni ks) (kni ms) = kni (ms.foldl insK ks) := by
  unfold upG
  induction ms generalizing ks with
  | nil => rfl
  | cons m ms ih =>
    show (kni ms).foldl _ (putG (kni ks) (Sum.inl (m : Int)) (.bl true)) = _
    rw [put_kni]
    exact ih _
theorem mem_fold_ins {ms : List Nat} : ∀ {ks : List Nat} {x : Nat}, x ∈ ms.foldl insK ks ↔ x ∈ ks ∨ x ∈ ms := by
  induction ms with
  | nil => intro ks x; simp
  | cons m ms ih =>
    intro ks x
    show x ∈ ms.foldl insK (insK ks m) ↔ _
    rw [ih, mem_insK, List.mem_cons]
    constructor
    · rintro ((h | h) | h)
      · exact .inl h
      · exact .inr (.inl h)
      · exact .inr (.inr h)
    · rintro (h | h | h)
      · exact .inl (.inl h)
      · exact .inl (.inr h)
      · exact .inr h
theorem nodup_fold_ins {ms : List Nat} : ∀ {ks : List Nat}, ks.Nodup → (ms.foldl insK ks).Nodup := by
  induction ms with
  | nil => intro ks h; exact h
  | cons m ms ih => exact fun h => ih (nodup_insK h)
theorem sorted_kni {ks ms : List Nat} {ys : List Int} (nd : ks.Nodup) (hp : ys.Perm (ks.map fun (k : Nat) => (k : Int))) (hs : ys.Pairwise (· ≤ ·)) (hm : ∀ x, x ∈ ks ↔ x ∈ ms) : ys = (ascN ms).map fun (k : Nat) => (k : Int) := by
  obtain ⟨zs, hz, rfl⟩ := perm_map_inv hp
  congr 1
  refine ascN_ext ?_ (asc_ascN ms) fun x => by rw [hz.mem_iff, hm x, mem_ascN]
  have n2 : zs.Nodup := hz.nodup_iff.mpr nd
  rw [List.pairwise_map] at hs
  exact (hs.and n2).imp fun ⟨a, b⟩ => by omega
theorem bensF_low {rs : List (List Nat)} : rowsOk rs → ∀ (i : Nat) (b : List Nat), (bensF rs)[i]? = some b → ∀ x ∈ b, x < i := by
  induction rs using snoc_ind with
  | h0 => intro _ i b h; simp [bensF] at h
  | h1 rs r ih =>
    intro ok i b h x hx
    have ok2 : rowsOk rs := by
      have := ok.take rs.length
      simpa using this
    rw [bensF_snoc] at h
    by_cases hi : i < (bensF rs).length
    · rw [List.getElem?_append_left hi] at h
      exact ih ok2 i b h x hx
    · rw [List.getElem?_append_right (by omega)] at h
      have e : i = rs.length := by
        have := (List.getElem?_eq_some_iff.mp h).1
        rw [bensF_len] at *
        simp at this
        omega
      subst e
      rw [bensF_len] at h
      simp at h
      subst h
      rw [mem_ascN, List.mem_append] at hx
      have hr := (ok.asc rs.length r (by simp)).2
      rcases hx with h | h
      · exact hr x h
      · obtain ⟨l, hl, hx2⟩ := List.mem_flatten.mp h
        obtain ⟨k, hk, rfl⟩ := List.mem_map.mp hl
        have hk2 := hr k hk
        have hb : (bensF rs)[k]? = some ((bensF rs).getD k []) := by
          rw [List.getD_eq_getElem?_getD, List.getElem?_eq_getElem (by rw [bensF_len]; exact hk2)]
          rfl
        have := ih ok2 k _ hb x hx2
        omega
theorem low_len {ks : List Nat} {j : Nat} (nd : ks.Nodup) (h : ∀ x ∈ ks, x < j) : ks.length ≤ j := by
  have h2 := List.Nodup.length_le_of_subset (l₁ := ks) (l₂ := List.range j) nd fun x hx => List.mem_range.mpr (h x hx)
  rwa [List.length_range] at h2
theorem kni_len (ks : List Nat) : (kni ks).length = ks.length := by simp [kni]
theorem at_row {bs : List (List Nat)} {k : Nat} (h : k < bs.length) : atI (bs.map rowD) ((k : Nat) : Int) = some (rowD (bs.getD k [])) := by
  unfold atI ixN
  rw [if_pos (by omega), if_pos (by rw [List.length_map]; omega)]
  simp [h]
theorem fold_max : ∀ (ls : List Nat) (a : Nat), ls.foldl max a ∈ a :: ls ∧ ∀ y ∈ a :: ls, y ≤ ls.foldl max a
  | [], a => by simp
  | b :: ls, a => by
    obtain ⟨h1, h2⟩ := fold_max ls (max a b)
    show ls.foldl max (max a b) ∈ _ ∧ ∀ y ∈ _, y ≤ ls.foldl max (max a b)
    have h3 := h2 (max a b) List.mem_cons_self
    refine ⟨?_, fun y hy => ?_⟩
    · rcases List.mem_cons.mp h1 with e | e
      · rw [e]
        rcases Nat.le_total a b with h | h
        · rw [Nat.max_eq_right h]
          simp
        · rw [Nat.max_eq_left h]
          simp
      · exact List.mem_cons_of_mem _ (List.mem_cons_of_mem _ e)
    · simp only [List.mem_cons] at hy
      rcases hy with rfl | rfl | hy
      · omega
      · omega
      · exact h2 y (List.mem_cons_of_mem _ hy)
theorem at_nat {hs : List Nat} {k : Nat} (h : k < hs.length) : atI (hs.map natD) ((k : Nat) : Int) = some (natD (hs.getD k 0)) := by
  unfold atI ixN
  rw [if_pos (by omega), if_pos (by rw [List.length_map]; omega)]
  simp [h]
section
variable {F : FmKit} {T : Kx} {RR : Om → Prop} {x : Addr} {z : D} {n : Str} {ns nm : List Str} {l : List D} {c : Nat}
theorem rcv_newC (zf : CZ T.K (T.cl c) nm) (hn : n ∈ nm) (h : n ∉ ns) (hl : ns.length < 1000) (r : RR [(x, .ins c (ns ++ [n]) (l ++ [z]))]) : Rcv F T (.adr x) z n [(x, .ins c ns l)] RR :=
  ⟨x, c, ns, l, [], [], _, _, rfl, rfl, zf.cls, zf.nos n hn, hl, .new ns l h, r⟩
end
def S_beneath : FS := fun ds W post => ∃ (w : Wb) (k : Nat), ds = [w.d, natD k] ∧ W = [] ∧ k < w.below.length ∧ post (rowD ((bensF w.below).getD k [])) []
def S_lenW : FS := fun ds W post => ∃ w : Wb, ds = [w.d] ∧ W = [] ∧ w.below.length ≤ 63 ∧ post (.int (w.below.length : Nat)) []
inductive FldW : Str → Wb → D → Prop
  | below (w : Wb) : FldW "below" w (rowsD w.below)
  | atoms (w : Wb) : FldW "atoms" w (atomsD w.atoms)
  | bens (w : Wb) : FldW "all_beneath" w (.lst ((bensF w.below).map rowD))
  | hgts (w : Wb) : FldW "all_heights" w (.lst ((hgtF w.below).map natD))
theorem ev_wbF {F : FmKit} {T : Kx} {G : Gm} {W : Om} {R : D → Om → Prop} {ta : TE} {n : Str} (zf : CZ T.K (T.cl 1) wbNames) (h : Ev F T ta G W fun d W1 => ∃ w z, d = w.d ∧ FldW n w z ∧ R z W1) : Ev F T (tFld T.K ta n) G W R :=
  ev_fld (h.imp fun d W1 ⟨w, z, e, f, r⟩ => by
    subst e
    refine ⟨1, wbNames, _, z, .obj _ _ _, zf.cls, ?_, ?_, r⟩
    · cases f <;> exact zf.nos _ (by decide +kernel)
    · cases f <;> rfl)
end N
set_option Elab.async false
set_option linter.all false
set_option maxRecDepth 100000
/-! Methods with defaults; a web's places. -/
namespace N
open PySem PySem.Spec PyProof.Rows L2
open C8 (Cal Met Mak InsC pe_c pe_mt pe_mt0 pe_mk)
/-- a def of the text with defaults -/
abbrev FunT (K : PySem.W.Frag) (x qual : Str) (st : Stmt) (dvs : List V) (f : Addr) (fd : FuncData) : Prop := FunD K x qual (defArgs st) (defBody st) (defScope st) dvs [] f fd
section
variable {P : Program} {w : World} {K : PySem.W.Frag} {mg : Str → Option Value} {base : Heap} {F : FmKit} {cl : Nat → Addr} {S : FS}
theorem okT {x qual : Str} {st : Stmt} {dvs : List V} {f : Addr} {fd : FuncData} {N ps : List Str} {k : Nat} (Fn : FunT K x qual st dvs f fd) (Sc : FnScope N ps (defScope st)) (len : ∀ ds W post, S ds W post → ds.length = ps.length)
    (body : ∀ (cdv : Value) (A : Around) (outer : List Env) (s : Shared) (H : Hp) (E : XK), Room k (A.deeper (envOfC qual (defScope st) s.heap.objs.size f cdv)) →
      ∃ t, PSs (cxOf CX0 P w K mg base N qual (defScope st) f cdv A outer s H E).nox (defBody st) t ∧ ∀ ds W post, S ds W post → Sw F ⟨K, cl⟩ t (startD N ds) W (E_ post)) : FnOk P w K mg base CX0 (k + 1) f fd ps (spN F ⟨K, cl⟩ S) :=
  FunD.ok Fn Sc (spN_len len) fun cdv A outer s H vs Q E hr h => by
    obtain ⟨t, ht, b⟩ := body cdv A outer s H E hr
    exact ⟨t, ht.nox, body_run h b⟩
/-- every argument is written -/
theorem FunT.all {x qual : Str} {st : Stmt} {dvs : List V} {f : Addr} {fd : FuncData} {ps : List Str} (Fn : FunT K x qual st dvs f fd) (hd : dvs ≠ [])
    (h : ∀ (T : Addr) (kV doc pm : Value) (an : Option Addr) (cdv ct : Value) (us its : List Value), us.length = ps.length → its.length = dvs.length →
      ∃ k, bindArgs (PySem.W.fnOf x qual (defArgs st) (defBody st) (defScope st) (.ref T) kV doc pm an cdv ct) ⟨us, []⟩ = seqItems? (.ref T) >>= k ∧ k (some its.toArray) = pure (ps.zip us)) : Binds K fd ps [] := by
  obtain ⟨ds, r, b⟩ := FunD.binds1 (ps := ps) Fn ps.length dvs.length hd (by omega) (fun T kV doc pm an cdv ct us its h1 h2 => by
    obtain ⟨k, e1, e2⟩ := h T kV doc pm an cdv ct us its h1 h2
    refine ⟨k, e1, ?_⟩
    rw [e2, List.drop_of_length_le (by omega), List.append_nil])
  rw [List.drop_of_length_le (Nat.le_refl _)] at r
  cases r
  exact b
/-- all defaults stand -/
theorem FunT.dfl {x qual : Str} {st : Stmt} {dvs : List V} {f : Addr} {fd : FuncData} {ps : List Str} (Fn : FunT K x qual st dvs f fd) (n : Nat) (hd : dvs ≠ []) (hn : n + dvs.length = ps.length)
    (h : ∀ (T : Addr) (kV doc pm : Value) (an : Option Addr) (cdv ct : Value) (us its : List Value), us.length = n → its.length = dvs.length →
      ∃ k, bindArgs (PySem.W.fnOf x qual (defArgs st) (defBody st) (defScope st) (.ref T) kV doc pm an cdv ct) ⟨us, []⟩ = seqItems? (.ref T) >>= k ∧ k (some its.toArray) = pure (ps.zip (us ++ its))) : ∃ ds, Vals dvs ds ∧ Binds K fd ps ds :=
  FunD.binds1 (ps := ps) Fn n 0 hd hn h
/-- a method by names, the defaults behind -/
theorem FunT.kb {x qual : Str} {st : Stmt} {dvs : List V} {f : Addr} {fd : FuncData} {ps ks : List Str} (Fn : FunT K x qual st dvs f fd) (hd : dvs ≠ []) (g : List Value → List Value → List Value → List Value) (gV : List V → List V → List V)
    (hrel : ∀ {vs : List V} {us : List Value} {zs : List V} {ws its : List Value}, Vals dvs its → Vals vs us → Vals zs ws → Vals (gV vs zs) (g its us ws))
    (h : ∀ (T : Addr) (kV doc pm : Value) (an : Option Addr) (cdv ct u : Value) (its ws : List Value), its.length = dvs.length → ws.length = ks.length →
      ∃ k, bindArgs (PySem.W.fnOf x qual (defArgs st) (defBody st) (defScope st) (.ref T) kV doc pm an cdv ct) ⟨[u], ks.zip ws⟩ = seqItems? (.ref T) >>= k ∧ k (some its.toArray) = pure (ps.zip (g its [u] ws))) :
    ∃ g', KBn K fd ps 1 ks g' gV := by
  obtain ⟨oc, od, dV, kV, doc, pm, an, cdv, ct, osl, rfl, lk, hcd, hD, hK⟩ := Fn.ex
  rcases hD with ⟨e, _⟩ | ⟨_, T, o, its, m, rfl, lT, oT, rT⟩
  · exact absurd e hd
  refine ⟨g its, ⟨fun s us ws X h1 h2 => ?_, fun r1 r2 => hrel rT r1 r2⟩⟩
  obtain ⟨u, rfl⟩ : ∃ u, us = [u] := List.length_eq_one_iff.mp h1
  obtain ⟨k, e1, e2⟩ := h T kV doc pm an cdv ct u its ws rT.length.symm h2
  refine BindsTo.of_looks fun M => ?_
  rw [e1]
  exact looks_items X lT oT (.of_pure e2)
/-- a method with defaults: all arguments; none of the defaults' arguments -/
theorem metDd {m qual : Str} {C : Addr} {st : Stmt} {dvs : List V} {f : Addr} {fd : FuncData} {N ps : List Str} {k : Nat} (c : Cls K C) (me : Meth K C m f) (Fn : FunT K m qual st dvs f fd) (Sc : FnScope N ps (defScope st)) (len : ∀ ds W post, S ds W post → ds.length = ps.length)
    (b0 : Binds K fd ps []) (b1 : ∃ ds, Vals dvs ds ∧ Binds K fd ps ds)
    (body : ∀ (cdv : Value) (A : Around) (outer : List Env) (s : Shared) (H : Hp) (E : XK), Room k (A.deeper (envOfC qual (defScope st) s.heap.objs.size f cdv)) →
      ∃ t, PSs (cxOf CX0 P w K mg base N qual (defScope st) f cdv A outer s H E).nox (defBody st) t ∧ ∀ ds W post, S ds W post → Sw F ⟨K, cl⟩ t (startD N ds) W (E_ post)) :
    Met P w K mg base (k + 1) C m (spN F ⟨K, cl⟩ S) [] ∧ Met P w K mg base (k + 1) C m (spN F ⟨K, cl⟩ S) dvs ∧ ∀ (ks : List Str) (gV : List V → List V → List V), (∃ g', KBn K fd ps 1 ks g' gV) → MetK P w K mg base (k + 1) C m ks gV (spN F ⟨K, cl⟩ S) :=
  have ok := okT Fn Sc len body
  ⟨⟨f, fd, ps, [], c, me, ok, b0, .nil⟩, b1.elim fun ds h => ⟨f, fd, ps, ds, c, me, ok, h.2, h.1⟩, fun ks gV h => h.elim fun g h => ⟨f, fd, ps, g, c, me, ok, h⟩⟩
end
theorem inst_wb {F : FmKit} {W : Om} (w : Wb) : Inst F W w.d 1 wbNames [rowsD w.below, atomsD w.atoms, .lst ((bensF w.below).map rowD), .lst ((hgtF w.below).map natD)] := .obj _ _ _
/-- a field of a formula or of a web -/
theorem ev_fwF {T : Kx} {G : Gm} {W : Om} {R : D → Om → Prop} {ta : TE} {n : Str} (zf : FZ T.K (T.cl 0)) (zw : CZ T.K (T.cl 1) wbNames)
    (h : Ev FK T ta G W fun d W1 => (∃ f z, d = .fm f ∧ FldF n f z ∧ R z W1) ∨ ∃ w z, d = Wb.d w ∧ FldW n w z ∧ R z W1) : Ev FK T (tFld T.K ta n) G W R :=
  ev_fld (h.imp fun d W1 hh => by
    rcases hh with ⟨f, z, e, k, r⟩ | ⟨w, z, e, f, r⟩
    · subst e
      exact ⟨0, fmNames, fmVals FK f, z, .fm f, zf.cls, zf.nos n k.look.1, k.look.2, r⟩
    · subst e
      refine ⟨1, wbNames, _, z, .obj _ _ _, zw.cls, ?_, ?_, r⟩
      · cases f <;> exact zw.nos _ (by decide +kernel)
      · cases f <;> rfl)
/-- a place of a web: told, or none -/
def Plc (w : Wb) (p : D) (k : Nat) : Prop := k < w.below.length ∧ ((p = D.non ∧ k + 1 = w.below.length) ∨ p = natD k)
def S_placeof : FS := fun ds W post => ∃ (w : Wb) (p : D) (k : Nat), ds = [w.d, p] ∧ W = [] ∧ w.below.length ≤ 63 ∧ Plc w p k ∧ post (natD k) []
def S_height : FS := fun ds W post => ∃ (w : Wb) (p : D) (k : Nat), ds = [w.d, p] ∧ W = [] ∧ w.below.length ≤ 63 ∧ Plc w p k ∧ post (natD ((hgtF w.below).getD k 0)) []
end N
set_option Elab.async false
set_option linter.all false
set_option maxRecDepth 100000
set_option maxHeartbeats 4000000
/-! Sets of many ints, sorted. -/
namespace N
open PySem PySem.Spec PyProof.Rows L2
section
variable {P : Program} {w : World} {A : Around} {E : Value → Shared → Prop} {s : Shared}
theorem sorted_setR {a : Addr} {S : Int → Bool} {n : Nat} {Q : Value → Shared → Prop} (R : SetR w s.heap a S n) (hh : A.handled = none)
    (hQ : ∀ s' p (out : Array Value) (c : Nat) (ns : List Int), (∀ b o, s.heap.get? b = some o → s'.heap.get? b = some o) → s'.gens = s.gens → s'.os = s.os → s.heap.objs.size ≤ p →
      s'.heap.get? p = some (seqObj "list" out c) → IntsAre out.toList ns → ns.Pairwise (· < ·) → (∀ k, k ∈ ns ↔ S k = true) → ns.length = n → Q (.ref p) s') :
    wpAny (model P w) A (call (.builtin "sorted") [.ref a]) Q E s := by
  obtain ⟨o, es, ep, t, ho, hex, hd, g, nd, hm, hb, hf, hn, hr, hl⟩ := R
  refine Calls.call_function_entry kind_sorted plain_sorted entry_sorted (args_sorted1 _) ?_
  unfold Builtin.«sorted»
  refine wpAny_bind (m := checkCount "sorted" 1 1 _) (wpAny_pure (wpAny_bind (collect_set (A := A.in1) hh ⟨o, ho, hex.1, hd⟩ hf hb hr hl fun s1 vs k1 hz g1 o1 pm => ?_)))
  have hvl : vs.length = n := by rw [pm.length_eq, List.length_map, Array.length_toList]; exact hn
  have hI : IntsAre vs (vs.map Builtin.Re.reRawOf) := ints_of vs fun v hv => by
    obtain ⟨e, he, q⟩ := List.mem_map.mp (pm.mem_iff.mp hv)
    obtain ⟨k, tk, h1, _⟩ := g e he
    exact ⟨k, tk, by rw [← q]; exact h1⟩
  have pk : (vs.map Builtin.Re.reRawOf).Perm (es.toList.map keyOf) := by
    have q := pm.map Builtin.Re.reRawOf
    rw [List.map_map] at q
    exact q
  have hs : vs.length ≤ sizeLine := by
    have : scanBound = 4096 := rfl
    rw [sizeLine_eq, hvl, ← hn]
    omega
  refine wpAny_bind (wpAny_newList ?_ hs)
  have hoL : (s1.heap.push (seqObj "list" vs.toArray 0)).get? s1.heap.objs.size = some (seqObj "list" vs.toArray 0) := Heap.get?_push_size _ rfl
  refine wpAny_bind (wpAny_holding (wpAny_call_entry slot_list_sort ⟨_, hoL, rfl⟩ entry_list_sort (list_sort_treeAny hoL hI hs fun out ns' a1 a2 a3 => ⟨_, rfl, ?_⟩) (args_list_sort _)))
  obtain ⟨c, hc⟩ := sortedHeap_at (vs := vs) (out := out) hoL
  have pn : ns'.Perm (es.toList.map keyOf) := a2.trans pk
  refine wpAny_pure ⟨_, rfl, hQ _ s1.heap.objs.size out c ns' (fun b u e => ?_) g1 o1 hz hc a1 (lt_of_le_nodup ns' a3 (pn.nodup_iff.mpr nd)) (fun k => by rw [pn.mem_iff, ← hm k]) ?_⟩
  · have q := k1 b u e
    have hlt := Heap.lt_size q
    show (sortedHeap (s1.heap.push (seqObj "list" vs.toArray 0)) s1.heap.objs.size vs out).get? b = some u
    rw [sortedHeap_old (Nat.ne_of_lt hlt) (by rw [size_push']; exact Nat.lt_succ_of_lt hlt)]
    exact Heap.get?_push_of_some _ q
  · rw [pn.length_eq, List.length_map, Array.length_toList]; exact hn
end
def rSetN (K : PySem.W.Frag) (w : World) : List V → Hp → VK → Prop := fun xs H Q => ∃ (l : Addr) (ns : List Int), xs = [.ref l] ∧ (SqL K H l (ns.map V.int) ∨ SqT K H l (ns.map V.int)) ∧ ns.length < 4000 ∧ ∀ a c, c ≤ ns.length → H a = none → Q (.ref a) (upd H a (SetO w a (fun j => decide (j ∈ ns)) c))
def rSetL (K : PySem.W.Frag) (w : World) : List V → Hp → VK → Prop := fun xs H Q => ∃ (l : Addr) (ns : List Int), xs = [.ref l] ∧ SqL K H l (ns.map V.int) ∧ ns.length < 4000 ∧ ∀ a c, c ≤ ns.length → H a = none → Q (.ref a) (upd H a (SetO w a (fun j => decide (j ∈ ns)) c))
theorem cr_setL {X : Cx} (hc : X.calm = true) : CallR X (.type "set") (rSetL X.K X.w) := by
  intro pins s σ H xs us Q I r h
  obtain ⟨l, ns, rfl, hl, hz, q⟩ := h
  rw [Vals.ref1 r]
  obtain ⟨its, rv, pl, hlen⟩ := I.list hl
  have hn : H s.heap.objs.size = none := I.hok.fresh (Nat.le_refl _)
  have hsb : (4096 : Nat) = scanBound := by decide
  refine set_of_list (P := X.prog) (w := X.w) ns (I.ok.hd hc) pl.isList (by simpa using ints_of_vals rv) (by omega) fun h' tk c R hc' k => ?_
  exact ⟨.ref s.heap.objs.size, upd H s.heap.objs.size (SetO X.w s.heap.objs.size (fun j => decide (j ∈ ns)) c), I.laid (t' := tk) k (Nat.le_refl _) (setO_new R), rfl, q _ c hc' hn⟩
def rSortedN (w : World) : List V → Hp → VK → Prop := fun vs H Q => ∃ (a : Addr) (S : Int → Bool) (n : Nat), vs = [V.ref a] ∧ H a = some (SetO w a S n) ∧ n ≤ 5000 ∧
  ∀ (ns : List Int) (p : Addr), ns.Pairwise (· < ·) → (∀ k : Int, k ∈ ns ↔ S k = true) → ns.length = n → H p = none → Q (.ref p) (upd H p (.lst (ns.map V.int)))
theorem cr_sortedN {X : Cx} (hc : X.calm = true) : CallR X (.builtin "sorted") (rSortedN X.w) := by
  intro pins s σ H vs us Q I r h
  obtain ⟨a, S, n, rfl, ha, h64, q⟩ := h
  have R := setO_get I ha
  rw [Vals.ref1 r]
  refine sorted_setR R (I.ok.hd hc) fun s' p out c ns k g o hp hg hi hs hm hl => ?_
  have hlen : (ns.map V.int).length ≤ sizeLine := by rw [List.length_map, hl, sizeLine_eq]; omega
  have hn : H p = none := I.hok.fresh hp
  have J : Inv X pins σ (upd H p (.lst (ns.map V.int))) { s with heap := s'.heap, gens := s'.gens, drawn := s'.drawn, toks := s'.toks } :=
    I.call (ch := []) (Un.laid k hp hn) (I.hok.laid k hp ⟨hlen, out.toList, c, vals_of_ints hi, hg⟩) (by rw [g]; exact I.bare) (fun _ z => nomatch z)
  have e : s' = { s with heap := s'.heap, gens := s'.gens, drawn := s'.drawn, toks := s'.toks } := by
    cases s'
    cases s
    cases o
    rfl
  rw [e]
  exact ⟨.ref p, _, J, rfl, q ns p hs hm hl hn⟩
/-- whole numbers from 0 on, as data -/
def castI (ns : List Nat) : List Int := ns.map fun (k : Nat) => (k : Int)
theorem castI_inv {ys : List Int} {ns : List Nat} (hs : ys.Pairwise (· < ·)) (hm : ∀ k, k ∈ ys ↔ k ∈ castI ns) : ys = castI (ascN ns) := by
  have e : ys = castI (ys.map Int.toNat) := by
    unfold castI
    rw [List.map_map]
    refine (List.map_id ys).symm.trans (List.map_congr_left fun y hy => ?_)
    obtain ⟨k, _, rfl⟩ := List.mem_map.mp ((hm y).mp hy)
    simp
  have hmem : ∀ x : Nat, x ∈ ys.map Int.toNat ↔ x ∈ ns := fun x => by
    constructor
    · intro h
      obtain ⟨y, hy, rfl⟩ := List.mem_map.mp h
      obtain ⟨k, hk, rfl⟩ := List.mem_map.mp ((hm y).mp hy)
      simpa using hk
    · intro h
      exact List.mem_map.mpr ⟨(x : Int), (hm _).mpr (List.mem_map.mpr ⟨x, h, rfl⟩), by simp⟩
  have asc : (ys.map Int.toNat).Pairwise (· < ·) := by
    rw [e] at hs
    unfold castI at hs
    rw [List.pairwise_map] at hs
    exact hs.imp fun h => by omega
  rw [e]
  congr 1
  exact ascN_ext asc (asc_ascN ns) fun x => by rw [hmem, mem_ascN]
section
variable {F : FmKit} {T : Kx} {C H H' O O' : Hp} {G : Gm} {W W' : Om} {R : D → Om → Prop} {d : D} {w : World}
theorem ca_setL {ns : List Int} (hv : Vl W d (ns.map D.int)) (hz : ns.length < 4000) (r : ∀ p c, p ∉ akeys W → c ≤ ns.length → R (.adr p) ((p, .any (SetO w p (fun j => decide (j ∈ ns)) c)) :: W)) : Ca F T (rSetL T.K w) [d] W R := ca_one fun C H O di oc ow x k Q q => by
  obtain ⟨a, xs, e, hs, kl⟩ := hv.sq ow di k
  have : xs = ns.map V.int := by
    have := kl
    rw [show ns.map D.int = (ns.map V.int).map D.vl by rw [List.map_map]; rfl] at this
    exact DenL.vls_inv this
  subst this
  refine ⟨a, ns, by rw [e], hs, hz, fun p c hc hp => ?_⟩
  obtain ⟨n2, e2, np⟩ := (Nx.refl (F := F) (T := T) di oc ow).newO (od := .any (SetO w p (fun j => decide (j ∈ ns)) c)) (o := SetO w p (fun j => decide (j ∈ ns)) c) hp rfl
  rw [e2]
  exact q _ _ H _ _ (r p c np hc) n2 rfl
theorem ca_setNs {ns : List Nat} (hv : Vl W d (ns.map natD)) (hz : ns.length < 4000) (r : ∀ p c, p ∉ akeys W → c ≤ 4000 → R (.adr p) ((p, .any (SetO w p (fun j => decide (j ∈ castI ns)) c)) :: W)) : Ca F T (rSetL T.K w) [d] W R :=
  ca_setL (ns := castI ns) (by unfold castI; rw [List.map_map]; exact hv) (by unfold castI; rw [List.length_map]; exact hz) fun p c h1 h2 => r p c h1 (by unfold castI at h2; rw [List.length_map] at h2; omega)
theorem ca_sortedNs {p : Addr} {ns : List Nat} {c : Nat} (hn : c ≤ 4000) (r : R (.lst ((ascN ns).map natD)) W) : Ca F T (rSortedN w) [.adr p] ((p, .any (SetO w p (fun j => decide (j ∈ castI ns)) c)) :: W) R := ca_one fun C H O di oc ow x k Q q => by
  have k : x = .ref p := k
  have h1 : O p = some (SetO w p (fun j => decide (j ∈ castI ns)) c) := (ow.at_ p _ List.mem_cons_self).2
  refine ⟨p, _, c, by rw [k], ov_own h1, by omega, fun ys p2 hs hm hl hp2 => ?_⟩
  obtain ⟨n2, e2, s2⟩ := (Nx.refl (F := F) (T := T) di oc ow).newF (o := .lst (ys.map V.int)) hp2
  rw [e2]
  have e : ys = castI (ascN ns) := castI_inv hs fun k => by rw [hm]; simp
  refine q _ W _ _ _ r ⟨n2.ext, n2.dis, n2.oc, n2.own.tail⟩ ?_
  refine ⟨p2, ys.map V.int, rfl, upd_same, ?_⟩
  have := DenL.vls (F := F) (T := T) (H := upd H p2 (.lst (ys.map V.int))) (ys.map V.int)
  rw [List.map_map] at this
  have e3 : (ascN ns).map natD = ys.map (D.vl ∘ V.int) := by
    rw [e]
    unfold castI
    rw [List.map_map]
    rfl
  rw [e3]
  exact this
end
end N
set_option Elab.async false
set_option linter.all false
set_option maxRecDepth 100000
set_option maxHeartbeats 4000000
/-! Tuples repeated any number of times; items stored; tuple(range(n)); sorted of a list of ints, of a text. -/
namespace N
open PySem PySem.Spec PyProof.Rows L2
theorem tuple_mul1 (l : Addr) (items : Array Value) (n : Nat) (dd : Option Addr) (sl : Array (Option Value)) (u : Tok) :
    Meets (Builtin.«tuple.__mul__» ⟨[.ref l, .int 1 u], []⟩) (fun _ R s => s.heap.get? l = some { cls := .type "tuple", dict := dd, data := .seq items n, slots := sl } ∧ R (.ok (.ret (Value.ref l))) s) :=
  .of_wp fun prog w A R s h => by
    obtain ⟨hp, g, d, tk, os⟩ := s
    obtain ⟨hl, h⟩ := h
    have f1 := AutoSeq1.idx_int
    wp_walk using wpAny_loadPart' hl
    repeat (first
      | (refine wpAny_ite_false (by decide) ?_; wp_walk using wpAny_loadPart' hl)
      | (refine wpAny_ite_true (by simp) ?_; wp_walk using wpAny_loadPart' hl))
    exact ⟨_, rfl, h⟩
theorem tuple_mul0 (l : Addr) (items : Array Value) (n : Nat) (dd : Option Addr) (sl : Array (Option Value)) (u : Tok) (c1 : items.isEmpty = false) :
    Meets (Builtin.«tuple.__mul__» ⟨[.ref l, .int 0 u], []⟩) (fun _ R s => s.heap.get? l = some { cls := .type "tuple", dict := dd, data := .seq items n, slots := sl } ∧
      R (.ok (.ret (Value.ref s.heap.objs.size))) { s with heap := s.heap.push { cls := Value.type "tuple", data := Data.seq #[] }, toks := s.toks }) :=
  .of_wp fun prog w A R s h => by
    obtain ⟨hp, g, d, tk, os⟩ := s
    obtain ⟨hl, h⟩ := h
    have f1 := AutoSeq1.idx_int
    wp_walk using wpAny_loadPart' hl
    repeat (first
      | (refine wpAny_ite_false (by decide) ?_; wp_walk using wpAny_loadPart' hl)
      | (refine wpAny_ite_false (by rw [c1]; decide) ?_; wp_walk using wpAny_loadPart' hl)
      | (refine wpAny_ite_true (by simp) ?_; wp_walk using wpAny_loadPart' hl))
    exact ⟨_, rfl, h⟩
def rRepTA (K : PySem.W.Frag) : R2 := fun x y H Q => ∃ l k xs, x = .ref l ∧ y = .int k ∧ SqT K H l xs ∧ xs ≠ [] ∧ 0 ≤ k ∧ k ≤ 1000 ∧ xs.length ≤ 1000 ∧ (k = 1 → Q (.ref l) H) ∧ (k ≠ 1 → ∀ p, H p = none → Q (.ref p) (upd H p (.tup (List.replicate k.toNat xs).flatten)))
theorem op_repTA {X : Cx} : OpR X (binaryOp .Mult) (rRepTA X.K) := by
  intro pins s σ H x y v u Q I rx ry h
  obtain ⟨l, k, xs, ex, ey, hT, hne, h1, h2, hz, q1, q2⟩ := h
  rcases (by omega : k = 0 ∨ k = 1 ∨ 2 ≤ k) with e | e | e
  · subst e ex ey
    have q := q2 (by decide)
    cases rx
    obtain ⟨t, rfl⟩ := ry
    obtain ⟨its, r, ⟨⟨cls, dd, data, sl⟩, ho, hc, n, hd⟩, hs⟩ := I.tuple hT
    simp only at hc hd
    subst hc hd
    have hle : its.length = xs.length := r.length.symm
    have hi : its.toArray.isEmpty = false := by
      cases its with
      | nil => exact absurd (List.eq_nil_of_length_eq_zero hle.symm) hne
      | cons a b => rfl
    refine wpAny_binaryOp_repeat_ref (T := "tuple") (U := "int") (by decide) ⟨_, ho, rfl⟩ (fun s' => typeIs_int s' 0 t) noFill_tuple_mul F.fills_int_mul F.slot_int_rmul repeat_tuple F.slot_int_index.lookup
      (call_meets F.slot_int_rmul (typeIs_int s 0 t) F.entry_int_rmul (F.args_int_rmul_2 _ _) (int_rmul_tuple 0 t l its.toArray n dd sl)
        ⟨ho, rfl, ⟨_, ho, rfl⟩, call_meets F.slot_tuple_mul ⟨_, ho, rfl⟩ F.entry_tuple_mul (F.args_tuple_mul_2 _ _) (tuple_mul0 l its.toArray n dd sl t hi) ⟨ho, ?_⟩⟩)
    refine ⟨.ref s.heap.objs.size, _, I.laid (t' := s.toks) (o := .tup []) (fun b ob q => Heap.get?_push_of_some _ q) (Nat.le_refl _) ?_, rfl, q _ (I.hok.fresh (Nat.le_refl _))⟩
    exact ⟨by simp, [], .nil, IsTup.new _ _⟩
  · subst e ex ey
    have q := q1 rfl
    cases rx
    obtain ⟨t, rfl⟩ := ry
    obtain ⟨its, r, ⟨⟨cls, dd, data, sl⟩, ho, hc, n, hd⟩, hs⟩ := I.tuple hT
    simp only at hc hd
    subst hc hd
    refine wpAny_binaryOp_repeat_ref (T := "tuple") (U := "int") (by decide) ⟨_, ho, rfl⟩ (fun s' => typeIs_int s' 1 t) noFill_tuple_mul F.fills_int_mul F.slot_int_rmul repeat_tuple F.slot_int_index.lookup
      (call_meets F.slot_int_rmul (typeIs_int s 1 t) F.entry_int_rmul (F.args_int_rmul_2 _ _) (int_rmul_tuple 1 t l its.toArray n dd sl)
        ⟨ho, rfl, ⟨_, ho, rfl⟩, call_meets F.slot_tuple_mul ⟨_, ho, rfl⟩ F.entry_tuple_mul (F.args_tuple_mul_2 _ _) (tuple_mul1 l its.toArray n dd sl t) ⟨ho, ?_⟩⟩)
    exact ⟨.ref l, H, I, rfl, q⟩
  · exact op_repT pins s σ H x y v u Q I rx ry ⟨l, k, xs, ex, ey, hT, hne, e, h2, hz, q2 (by omega)⟩
theorem op_repTAK {X : Cx} {K : PySem.W.Frag} (hK : X.K = K) : OpR X (binaryOp .Mult) (rRepTA K) := hK ▸ op_repTA
section
variable {F : FmKit} {T : Kx} {C H H' O O' : Hp} {G : Gm} {W W' : Om} {R : D → Om → Prop} {σ : L2.St} {d e : D} {l m : List D} {te ta tb to ti : TE}
/-- a tuple any number of times -/
theorem bo_repTA {k : Int} (hne : l ≠ []) (hk : 0 ≤ k) (hk2 : k ≤ 1000) (hl : l.length ≤ 1000) (r : R (.tup (List.replicate k.toNat l).flatten) W) : Bo F T (rRepTA T.K) (.tup l) (.int k) W R := fun C H O di oc ow x y hx hy Q kk => by
  have hy : y = .int k := hy
  subst hy
  obtain ⟨a, us, ex, hs, kl⟩ := hx
  have n := Nx.refl (F := F) (T := T) di oc ow
  refine ⟨a, k, us, ex, rfl, Same.sqT di.same hs, fun e0 => ?_, hk, hk2, by rw [kl.len]; exact hl, fun e1 => ?_, fun ne p hp => ?_⟩
  · subst e0
    have := kl.len
    exact hne (by simpa using this.symm)
  · subst e1
    have e : (List.replicate (1 : Int).toNat l).flatten = l := by simp
    rw [e] at r
    exact kk _ W H O _ r n ⟨a, us, rfl, hs, kl⟩
  · obtain ⟨n2, e2, s2⟩ := n.newF (o := .tup (List.replicate k.toNat us).flatten) hp
    rw [e2]
    exact kk _ W _ O _ r n2 ⟨p, _, rfl, SqT.of upd_same, den_rep (kl.mono s2) _⟩
/-- o[i] = e of a list -/
theorem ta_subL {RR : Gm → Om → Prop} (h : Ev F T to G W fun o W1 => Ev F T ti G W1 fun i W2 => ∃ p l k j W3 W4, o = .adr p ∧ i = .int k ∧ W2 = W3 ++ (p, .lst l) :: W4 ∧ L2.ixN l.length k = some j ∧ RR G (W3 ++ (p, .lst (l.set j d)) :: W4)) :
    Ta F T (gSub to ti L2.rSetL) d G W RR := fun C H O σ w v k Q q =>
  h C H O σ w _ fun o W1 H1 O1 ov' h1 n1 k1 => h1 C H1 O1 σ (w.step n1) _ fun i W2 H2 O2 iv ⟨p, l, kk, j, W3, W4, e1, e2, e3, hj, r⟩ n2 k2 => by
    subst e1 e2 e3
    have k1 : ov' = .ref p := k1
    have k2 : iv = .int kk := k2
    subst k1 k2
    have nx := n1.trans n2
    obtain ⟨xs, e, kl⟩ := own_lst n2.own
    have kv := (k.mono n1.ext).mono n2.ext
    obtain ⟨n3, e3⟩ := nx.write (o := .lst (xs.set j v)) (od2 := .lst (l.set j d)) ⟨_, rfl, kl.set kv⟩
    refine ⟨p, xs, kk, j, rfl, rfl, ov_own e, by rw [kl.len]; exact hj, ?_⟩
    rw [e3]
    exact q G _ _ _ σ r n3 (w.loc.mono nx.ext)
theorem ca_listF (hv : Vs W d l) (r : R (.lst l) W) : Ca F T (fun xs H Q => ∃ p ys, xs = [.ref p] ∧ (SqL T.K H p ys ∨ SqT T.K H p ys) ∧ ∀ q, H q = none → Q (.ref q) (upd H q (.lst ys))) [d] W R :=
  ca_fz (ca_list hv fun p hp => ⟨p, _, W, _, rfl, List.Perm.refl _, .lst _, r⟩)
/-- a list n times, owned -/
theorem bo_repO {k : Int} (h1 : Vt W d l) (hk : 0 ≤ k) (hk2 : k < 2 ^ 63) (hl : l.length * k.toNat ≤ sizeLine) (r : ∀ p, p ∉ akeys W → R (.adr p) ((p, .lst (List.replicate k.toNat l).flatten) :: W)) : Bo F T L2.rRep d (.int k) W R := fun C H O di oc ow x y hx hy Q kk => by
  have hy : y = .int k := hy
  subst hy
  obtain ⟨a, us, ea, ha, ku⟩ := h1.at ow di hx
  refine ⟨a, k, us, ea, rfl, ha, by omega, hk2, by rw [ku.len]; exact hl, fun z hz => ?_⟩
  obtain ⟨n2, e2, np⟩ := (Nx.refl (F := F) (T := T) di oc ow).newO (od := .lst (List.replicate k.toNat l).flatten) (o := .lst (List.replicate k.toNat us).flatten) hz ⟨_, rfl, den_rep ku _⟩
  rw [e2]
  exact kk _ _ _ _ _ (r z np) n2 rfl
theorem ev_tupRg1 (h : Ev F T ta G W fun d W1 => ∃ n : Int, d = .int n ∧ RgOk 0 n ∧ R (.tup ((rgV 0 n).map .vl)) W1) : Ev F T (tTupRg (tRg1 ta)) G W R := fun C H O σ w Q q =>
  h C H O σ w _ fun d W1 H1 O1 x ⟨n, e, ok, r⟩ n1 k1 => by
    subst e
    have k1 : x = .int n := k1
    refine ⟨n, k1, ok, fun p hp => ?_⟩
    obtain ⟨n2, e2, s2⟩ := n1.newF (o := .tup (rgV 0 n)) hp
    rw [e2]
    exact q _ W1 _ _ _ r n2 ⟨p, _, rfl, SqT.of upd_same, .vls _⟩
/-- sorted of a list of ints -/
theorem ca_sortedIL {ns : List Int} (hv : Vl W d (ns.map D.int)) (r : ∀ ys : List Int, ys.Perm ns → ys.Pairwise (· ≤ ·) → R (.lst (ys.map D.int)) W) : Ca F T (L2.rSortedI T.K) [d] W R := ca_one fun C H O di oc ow x k Q q => by
  obtain ⟨a, xs, e, hs, kl⟩ := hv.sq ow di k
  have : xs = ns.map V.int := by
    have := kl
    rw [show ns.map D.int = (ns.map V.int).map D.vl by rw [List.map_map]; rfl] at this
    exact DenL.vls_inv this
  subst this
  refine ⟨a, ns, by rw [e], hs, fun ys p hp hs2 hn => ?_⟩
  obtain ⟨n2, e2, s2⟩ := (Nx.refl (F := F) (T := T) di oc ow).newF (o := .lst (ys.map V.int)) hn
  rw [e2]
  refine q _ W _ O _ (r ys hp hs2) n2 ⟨p, _, rfl, upd_same, ?_⟩
  have := DenL.vls (F := F) (T := T) (H := upd H p (.lst (ys.map V.int))) (ys.map V.int)
  rw [List.map_map] at this
  exact this
theorem ca_sortedNL {ns : List Nat} (hv : Vl W d (ns.map natD)) (nd : ns.Nodup) (r : R (.lst ((ascN ns).map natD)) W) : Ca F T (L2.rSortedI T.K) [d] W R :=
  ca_sortedIL (ns := castI ns) (by unfold castI; rw [List.map_map]; exact hv) fun ys hp hs => by
    have e : ys = castI (ascN ns) := castI_inv (by
      have n2 : ys.Nodup := hp.nodup_iff.mpr (by
        unfold castI
        exact nd.map (f := fun k : Nat => (k : Int)) fun x y e h => e (by omega))
      exact (hs.and n2).imp fun ⟨a, b⟩ => by omega) fun k => hp.mem_iff
    rw [e]
    unfold castI
    rw [List.map_map]
    exact r
end
end N
set_option Elab.async false
set_option linter.all false
set_option maxRecDepth 100000
set_option maxHeartbeats 4000000
/-! sorted of a text. -/
namespace N
open PySem PySem.Spec PyProof.Rows L2
theorem sub_str_str : isSubtype (.type "str") (.type "str") = pure true := by rw [isSubtype_type]; kernel_rfl
section
variable {P : Program} {w : World} {A : Around} {E : Value → Shared → Prop} {s : Shared}
theorem strsAre_of_get {us : List Value} {xs : List Str} (hl : us.length = xs.length) (h : ∀ (i : Nat) (v : Value), us[i]? = some v → ∃ k t, xs[i]? = some k ∧ v = .str k t) : StrsAre us xs := by
  induction us generalizing xs with
  | nil =>
    cases xs with
    | nil => exact .nil
    | cons x xs => cases hl
  | cons u us ih =>
    cases xs with
    | nil => cases hl
    | cons x xs =>
      obtain ⟨k, t, e1, rfl⟩ := h 0 u rfl
      have e1 : some x = some k := e1
      cases e1
      exact .cons x t (ih (by simpa using hl) fun i v hv => h (i + 1) v hv)
theorem collect_text {x : Str} {t : Tok} {Q : List Value → Shared → Prop} (hh : A.handled = none) (hb : x.length ≤ sizeLine)
    (hQ : ∀ s' out, (∀ b o, s.heap.get? b = some o → s'.heap.get? b = some o) → s.heap.objs.size ≤ s'.heap.objs.size → s'.gens = s.gens → s'.os = s.os → StrsAre out (signs x) → Q out s') :
    wpAny (model P w) A (collect (.str x t)) Q E s := by
  unfold collect
  refine wpAny_bind (wpAny_runValue (codeAny_builtin F.entry_proto_collect ?_))
  rw [Around.under_plainId F.plain_proto_collect _]
  show wpAny _ A.in1 (newList [] >>= fun l => again (.builtin "list.__iadd__" ⟨[l, .str x t], []⟩)) _ _ s
  refine wpAny_bind (wpAny_newObj_type ?_)
  refine wpAny_pure ⟨plainId_quiet F.plain_list_iadd _, codeAny_builtin F.entry_list_iadd ?_⟩
  rw [Around.under_plainId F.plain_list_iadd _]
  have hS : (s.heap.push { cls := .type "list", data := .seq ([] : List Value).toArray }).get? s.heap.objs.size = some { cls := .type "list", data := .seq ([] : List Value).toArray } := Heap.get?_push_size _ rfl
  have hz1 : (s.heap.push { cls := .type "list", data := .seq ([] : List Value).toArray }).objs.size = s.heap.objs.size + 1 := size_push' _ _
  show wpAny _ A.in1 (Builtin.List.listExtendWith (.ref s.heap.objs.size) (.str x t) (.ref s.heap.objs.size)) _ _ _
  unfold Builtin.List.listExtendWith
  refine wpAny_bind (wpAny_typeOf (T := "str") (typeIs_str _ _ _) ?_)
  have h1 : Builtin.List.listSameRef (.ref s.heap.objs.size) (.str x t) = false := rfl
  have h2 : (Value.type "str" == Value.type "list") = false := by decide
  have h3 : (Value.type "str" == Value.type "tuple") = false := by decide
  simp only [h1, h2, h3, Bool.or_false, Bool.false_eq_true, if_false]
  refine wpAny_bind (wpAny_pyIter_str fun o St W hst => ?_)
  refine wpAny_bind (wpAny_holding ?_)
  unfold Builtin.List.listLengthHint
  refine wpAny_bind (wpAny_specialOf (typeIs_str _ _ _) F.slot_str_len.lookup ?_)
  (generalize hid : ("str.__len__" : String) = id0; (fail_if_success (clear hid id0)); wp_delta; rw [show splitId id0 = some ("str", "__len__") from by subst hid; decide +kernel]; subst hid)
  refine wpAny_bind (wpAny_isInstance (b := true) (typeIs_str _ _ _) sub_str_str ?_)
  show wpAny _ A.in1 (typeOf (.str x t) >>= _) _ _ _
  refine wpAny_bind (wpAny_typeOf (T := "str") (typeIs_str _ _ _) ?_)
  refine wpAny_pure ?_
  refine wpAny_ite_false (by decide +kernel) ?_
  have hI : (s.heap.push { cls := .type "list", data := .seq ([] : List Value).toArray }).objs.size = s.heap.objs.size + 1 := hz1
  have hS2 : ((s.heap.push { cls := .type "list", data := .seq ([] : List Value).toArray }).push o).get? s.heap.objs.size = some { cls := .type "list", data := .seq ([] : List Value).toArray } := Heap.get?_push_of_some _ hS
  have hSf : s.heap.objs.size ∉ [(s.heap.push { cls := .type "list", data := .seq ([] : List Value).toArray }).objs.size] := by
    rw [hz1, List.mem_singleton]
    omega
  refine wpAny_pure ⟨plainId_quiet F.plain_extend_loop _, codeAny_extend_loopS (W A.in1 hh).toS hb _ hSf _ x.cps.size 0 _ _ _ rfl (Nat.zero_le _) hst hS2 (ItemsOf.nil (SignAt x)) fun s' acc' c' hm hS' hacc => ?_⟩
  show wpAny _ A (load s.heap.objs.size >>= _) _ _ s'
  refine wpAny_bind (wpAny_load hS' ?_)
  refine wpAny_pure ?_
  show Q acc'.toList s'
  refine hQ s' _ (fun b u e => ?_) (Nat.le_of_lt (Heap.lt_size hS')) hm.gens hm.os ?_
  · have hbl : b < s.heap.objs.size := Heap.lt_size e
    refine hm.heap b u (fun z => ?_) (Heap.get?_push_of_some _ (Heap.get?_push_of_some _ e))
    rcases List.mem_cons.mp z with z | z
    · exact Nat.ne_of_lt hbl z
    · have z := List.mem_singleton.mp z
      exact Nat.ne_of_lt (Nat.lt_succ_of_lt hbl) (z.trans hz1)
  · refine strsAre_of_get ?_ fun i v hv => ?_
    · unfold signs
      rw [Array.length_toList, hacc.1, List.length_map, Array.length_toList]
    · rw [Array.getElem?_toList] at hv
      obtain ⟨c, u, hc, e⟩ := hacc.2 i v hv
      refine ⟨⟨#[c]⟩, u, ?_, e⟩
      unfold signs
      rw [List.getElem?_map, Array.getElem?_toList, hc]
      rfl
theorem sorted_text {x : Str} {t : Tok} {Q : Value → Shared → Prop} (hh : A.handled = none) (hb : x.length ≤ sizeLine)
    (hQ : ∀ s' p (out : Array Value) (c : Nat) (ks : List Str), (∀ b o, s.heap.get? b = some o → s'.heap.get? b = some o) → s'.gens = s.gens → s'.os = s.os → s.heap.objs.size ≤ p →
      s'.heap.get? p = some (seqObj "list" out c) → StrsAre out.toList ks → sortedS ks = true → ks.Perm (signs x) → Q (.ref p) s') :
    wpAny (model P w) A (call (.builtin "sorted") [.str x t]) Q E s := by
  refine Calls.call_function_entry kind_sorted plain_sorted entry_sorted (args_sorted1 _) ?_
  unfold Builtin.«sorted»
  refine wpAny_bind (m := checkCount "sorted" 1 1 _) (wpAny_pure (wpAny_bind (collect_text (A := A.in1) hh hb fun s1 vs k1 hz g1 o1 hI => ?_)))
  have hvl : vs.length = (signs x).length := hI.length
  have hs : vs.length ≤ sizeLine := by
    rw [hvl]
    unfold signs
    rw [List.length_map, Array.length_toList]
    exact hb
  refine wpAny_bind (wpAny_newList ?_ hs)
  have hoL : (s1.heap.push (seqObj "list" vs.toArray 0)).get? s1.heap.objs.size = some (seqObj "list" vs.toArray 0) := Heap.get?_push_size _ rfl
  refine wpAny_bind (wpAny_holding (wpAny_call_entry slot_list_sort ⟨_, hoL, rfl⟩ entry_list_sort (list_sort_treeKAny strKind_oneLt hoL hI.keysOf (fun v₁ v₂ rest e => keyKind_strs (by rw [← e]; exact hI)) hs fun st' hp ht => ⟨_, rfl, ?_⟩) (args_list_sort _)))
  obtain ⟨ss, h1, h2, h3⟩ := sorted_out_str hI hp ht
  obtain ⟨c, hc⟩ := sortedHeap_at (vs := vs) (out := (arrOf st').map (·.2)) hoL
  refine wpAny_pure ⟨_, rfl, hQ _ s1.heap.objs.size _ c ss (fun b u e => ?_) g1 o1 hz hc h1 h3 h2⟩
  have q := k1 b u e
  have hlt := Heap.lt_size q
  show (sortedHeap (s1.heap.push (seqObj "list" vs.toArray 0)) s1.heap.objs.size vs _).get? b = some u
  rw [sortedHeap_old (Nat.ne_of_lt hlt) (by rw [size_push']; exact Nat.lt_succ_of_lt hlt)]
  exact Heap.get?_push_of_some _ q
end
def rSortedX : List V → Hp → VK → Prop := fun vs H Q => ∃ x : Str, vs = [V.str x] ∧ x.length ≤ 5000 ∧ ∀ (ks : List Str) (p : Addr), sortedS ks = true → ks.Perm (signs x) → H p = none → Q (.ref p) (upd H p (.lst (ks.map V.str)))
theorem cr_sortedX {X : Cx} (hc : X.calm = true) : CallR X (.builtin "sorted") rSortedX := by
  intro pins s σ H vs us Q I r h
  obtain ⟨x, rfl, hx, q⟩ := h
  obtain ⟨u, rfl, t, rfl⟩ := vals1 r
  have h16 := sizeLine_eq
  refine sorted_text (I.ok.hd hc) (by omega) fun s' p out c ks k g o hp hg hi hs hm => ?_
  have hlen : (ks.map V.str).length ≤ sizeLine := by
    rw [List.length_map, hm.length_eq]
    unfold signs
    rw [List.length_map, Array.length_toList]
    show x.length ≤ _
    omega
  have hn : H p = none := I.hok.fresh hp
  have J : Inv X pins σ (upd H p (.lst (ks.map V.str))) { s with heap := s'.heap, gens := s'.gens, drawn := s'.drawn, toks := s'.toks } :=
    I.call (ch := []) (Un.laid k hp hn) (I.hok.laid k hp ⟨hlen, out.toList, c, vals_of_strs hi, hg⟩) (by rw [g]; exact I.bare) (fun _ z => nomatch z)
  have e : s' = { s with heap := s'.heap, gens := s'.gens, drawn := s'.drawn, toks := s'.toks } := by
    cases s'
    cases s
    cases o
    rfl
  rw [e]
  exact ⟨.ref p, _, J, rfl, q ks p hs hm hn⟩
/-- sorted of a text of unlike signs -/
theorem sorted_signs {x : Str} {ks : List Str} (hs : sortedS ks = true) (hp : ks.Perm (signs x)) (nd : (lets x).Nodup) : ks = (ascN (lets x)).map sg := by
  have e1 : signs x = (lets x).map sg := rfl
  have n2 : (signs x).Nodup := by
    rw [e1]
    exact nd.map (f := sg) fun a b e h => e (sg_inj h)
  rw [ascS_sorted (m := signs x) hs (hp.nodup_iff.mpr n2) fun z => hp.mem_iff, e1, ascS_sg]
  rfl
section
variable {F : FmKit} {T : Kx} {G : Gm} {W W' : Om} {R : D → Om → Prop}
theorem ca_sortedX {x : Str} (hx : x.length ≤ 5000) (nd : (lets x).Nodup) (r : R (.lst ((ascN (lets x)).map fun c => .str (sg c))) W) : Ca F T rSortedX [.str x] W R := ca_one fun C H O di oc ow v k Q q => by
  have k : v = .str x := k
  refine ⟨x, by rw [k], hx, fun ys p hs hp hn => ?_⟩
  obtain ⟨n2, e2, s2⟩ := (Nx.refl (F := F) (T := T) di oc ow).newF (o := .lst (ys.map V.str)) hn
  rw [e2]
  refine q _ W _ O _ r n2 ⟨p, _, rfl, upd_same, ?_⟩
  rw [sorted_signs hs hp nd]
  have := den_strs (F := F) (T := T) (H := upd H p (.lst (((ascN (lets x)).map sg).map V.str))) ((ascN (lets x)).map sg)
  rw [show ((ascN (lets x)).map fun c => D.str (sg c)) = ((ascN (lets x)).map sg).map D.str by rw [List.map_map]; rfl]
  exact this
end
end N
set_option Elab.async false
set_option linter.all false
set_option maxRecDepth 100000
/-! Law k09, plainly: ways, heights. -/
namespace N
open PySem PySem.Spec PyProof.Rows L2
theorem getD_snoc_lt {α : Type} {l : List α} {a d : α} {i : Nat} (h : i < l.length) : (l ++ [a]).getD i d = l.getD i d := by
  rw [List.getD_eq_getElem?_getD, List.getD_eq_getElem?_getD, List.getElem?_append_left h]
theorem getD_snoc_eq {α : Type} {l : List α} {a d : α} {i : Nat} (h : i = l.length) : (l ++ [a]).getD i d = a := by
  subst h
  rw [List.getD_eq_getElem?_getD, List.getElem?_append_right (Nat.le_refl _)]
  simp
theorem rowsOk.init {rs : List (List Nat)} {r : List Nat} (h : rowsOk (rs ++ [r])) : rowsOk rs := by
  have := h.take rs.length
  simpa using this
theorem rowsOk.at_ {rs : List (List Nat)} (h : rowsOk rs) {i : Nat} (hi : i < rs.length) : (rs.getD i []).Pairwise (· < ·) ∧ ∀ k ∈ rs.getD i [], k < i :=
  h.asc i _ (by rw [List.getD_eq_getElem?_getD, List.getElem?_eq_getElem hi]; rfl)
theorem bens_at {rs : List (List Nat)} : rowsOk rs → ∀ {i : Nat}, i < rs.length → (bensF rs).getD i [] = ascN (rs.getD i [] ++ ((rs.getD i []).map fun k => (bensF rs).getD k []).flatten) := by
  induction rs using snoc_ind with
  | h0 => intro _ i h; cases h
  | h1 rs r ih =>
    intro ok i hi
    rw [bensF_snoc]
    have hl := bensF_len rs
    rw [List.length_append] at hi
    have hi : i < rs.length + 1 := hi
    rcases Nat.lt_or_eq_of_le (Nat.le_of_lt_succ hi) with h | h
    · rw [getD_snoc_lt (by omega), getD_snoc_lt h, ih ok.init h]
      congr 3
      refine List.map_congr_left fun k hk => ?_
      have := (ok.init.at_ h).2 k hk
      rw [getD_snoc_lt (by omega)]
    · rw [getD_snoc_eq (by omega), getD_snoc_eq h]
      congr 3
      refine List.map_congr_left fun k hk => ?_
      have := (ok.asc rs.length r (by simp)).2 k hk
      rw [getD_snoc_lt (by omega)]
theorem hgt_at {rs : List (List Nat)} : rowsOk rs → ∀ {i : Nat}, i < rs.length → (hgtF rs).getD i 0 = ((rs.getD i []).map fun k => 1 + (hgtF rs).getD k 0).foldl max 0 := by
  induction rs using snoc_ind with
  | h0 => intro _ i h; cases h
  | h1 rs r ih =>
    intro ok i hi
    rw [hgtF_snoc]
    have hl := hgtF_len rs
    rw [List.length_append] at hi
    have hi : i < rs.length + 1 := hi
    rcases Nat.lt_or_eq_of_le (Nat.le_of_lt_succ hi) with h | h
    · rw [getD_snoc_lt (by omega), getD_snoc_lt h, ih ok.init h]
      congr 1
      refine List.map_congr_left fun k hk => ?_
      have := (ok.init.at_ h).2 k hk
      rw [getD_snoc_lt (by omega)]
    · rw [getD_snoc_eq (by omega), getD_snoc_eq h]
      congr 1
      refine List.map_congr_left fun k hk => ?_
      have := (ok.asc rs.length r (by simp)).2 k hk
      rw [getD_snoc_lt (by omega)]
theorem bens_mem {rs : List (List Nat)} (ok : rowsOk rs) {i x : Nat} (hi : i < rs.length) : x ∈ (bensF rs).getD i [] ↔ x ∈ rs.getD i [] ∨ ∃ k ∈ rs.getD i [], x ∈ (bensF rs).getD k [] := by
  rw [bens_at ok hi, mem_ascN, List.mem_append, List.mem_flatten]
  refine or_congr Iff.rfl ⟨fun ⟨l, h1, h2⟩ => ?_, fun ⟨k, h1, h2⟩ => ⟨_, List.mem_map.mpr ⟨k, h1, rfl⟩, h2⟩⟩
  obtain ⟨k, h3, rfl⟩ := List.mem_map.mp h1
  exact ⟨k, h3, h2⟩
theorem bens_lt {rs : List (List Nat)} (ok : rowsOk rs) {i x : Nat} (hi : i < rs.length) (h : x ∈ (bensF rs).getD i []) : x < i :=
  bensF_low ok i _ (by rw [List.getD_eq_getElem?_getD, List.getElem?_eq_getElem (by rw [bensF_len]; exact hi)]; rfl) x h
theorem bens_least {rs : List (List Nat)} (ok : rowsOk rs) (M : Nat → Prop) (cl : ∀ m, m < rs.length → M m → ∀ k ∈ rs.getD m [], M k) : ∀ (i : Nat), i < rs.length → (∀ k ∈ rs.getD i [], M k) → ∀ x ∈ (bensF rs).getD i [], M x := by
  intro i
  induction i using Nat.strongRecOn with
  | ind i ih =>
    intro hi h x hx
    rcases (bens_mem ok hi).mp hx with h1 | ⟨k, h1, h2⟩
    · exact h x h1
    · have hk := (ok.at_ hi).2 k h1
      exact ih k hk (by omega) (cl k (by omega) (h k h1)) x h2
theorem bens_trans {rs : List (List Nat)} (ok : rowsOk rs) {x k : Nat} : ∀ (i : Nat), i < rs.length → k ∈ (bensF rs).getD i [] → x ∈ (bensF rs).getD k [] → x ∈ (bensF rs).getD i [] := by
  intro i
  induction i using Nat.strongRecOn with
  | ind i ih =>
    intro hi h hx
    rcases (bens_mem ok hi).mp h with h1 | ⟨q, h1, h2⟩
    · exact (bens_mem ok hi).mpr (.inr ⟨k, h1, hx⟩)
    · have hq := (ok.at_ hi).2 q h1
      exact (bens_mem ok hi).mpr (.inr ⟨q, h1, ih q hq (by omega) h2 hx⟩)
theorem bens_row {rs : List (List Nat)} (ok : rowsOk rs) {i x k : Nat} (hi : i < rs.length) (h : k ∈ (bensF rs).getD i []) (hx : x ∈ rs.getD k []) : x ∈ (bensF rs).getD i [] := by
  have := bens_lt ok hi h
  exact bens_trans ok i hi h ((bens_mem ok (by omega)).mpr (.inl hx))
theorem bens_asc {rs : List (List Nat)} (ok : rowsOk rs) {i : Nat} (hi : i < rs.length) : ((bensF rs).getD i []).Pairwise (· < ·) := by
  rw [bens_at ok hi]
  exact asc_ascN _
/-- the ways, gone one by one -/
structure WW (rs : List (List Nat)) (i : Nat) (met wait : List Nat) : Prop where
  nd : met.Nodup
  ms : ∀ x ∈ met, x ∈ (bensF rs).getD i []
  ws : ∀ x ∈ wait, x ∈ (bensF rs).getD i []
  top : ∀ k ∈ rs.getD i [], k ∈ met ∨ k ∈ wait
  cl : ∀ m ∈ met, ∀ k ∈ rs.getD m [], k ∈ met ∨ k ∈ wait
theorem WW.start {rs : List (List Nat)} (ok : rowsOk rs) {i : Nat} (hi : i < rs.length) : WW rs i [] (rs.getD i []) :=
  ⟨List.nodup_nil, by simp, fun x hx => (bens_mem ok hi).mpr (.inl hx), fun k hk => .inr hk, by simp⟩
theorem WW.known {rs : List (List Nat)} {i k : Nat} {met wait : List Nat} (w : WW rs i met (wait ++ [k])) (h : k ∈ met) : WW rs i met wait := by
  refine ⟨w.nd, w.ms, fun x hx => w.ws x (by simp [hx]), fun x hx => ?_, fun m hm x hx => ?_⟩
  · rcases w.top x hx with h1 | h1
    · exact .inl h1
    · rcases List.mem_append.mp h1 with h2 | h2
      · exact .inr h2
      · rw [List.mem_singleton] at h2
        exact .inl (h2 ▸ h)
  · rcases w.cl m hm x hx with h1 | h1
    · exact .inl h1
    · rcases List.mem_append.mp h1 with h2 | h2
      · exact .inr h2
      · rw [List.mem_singleton] at h2
        exact .inl (h2 ▸ h)
theorem WW.new {rs : List (List Nat)} (ok : rowsOk rs) {i k : Nat} {met wait : List Nat} (hi : i < rs.length) (w : WW rs i met (wait ++ [k])) (h : k ∉ met) : WW rs i (met ++ [k]) (wait ++ rs.getD k []) := by
  have hk := w.ws k (by simp)
  have mv : ∀ x, x ∈ met ∨ x ∈ wait ++ [k] → x ∈ met ++ [k] ∨ x ∈ wait ++ rs.getD k [] := fun x hx => by
    simp only [List.mem_append, List.mem_singleton] at hx ⊢
    rcases hx with h | h | h
    · exact .inl (.inl h)
    · exact .inr (.inl h)
    · exact .inl (.inr h)
  refine ⟨?_, fun x hx => ?_, fun x hx => ?_, fun x hx => mv x (w.top x hx), fun m hm x hx => ?_⟩
  · rw [List.nodup_append]
    refine ⟨w.nd, by simp, fun a ha b hb e => ?_⟩
    rw [List.mem_singleton] at hb
    subst hb e
    exact h ha
  · rcases List.mem_append.mp hx with h1 | h1
    · exact w.ms x h1
    · rw [List.mem_singleton] at h1
      exact h1 ▸ hk
  · rcases List.mem_append.mp hx with h1 | h1
    · exact w.ws x (by simp [h1])
    · exact bens_row ok hi hk h1
  · rcases List.mem_append.mp hm with h1 | h1
    · exact mv x (w.cl m h1 x hx)
    · rw [List.mem_singleton] at h1
      subst h1
      exact .inr (List.mem_append_right _ hx)
theorem WW.fin {rs : List (List Nat)} (ok : rowsOk rs) {i : Nat} {met : List Nat} (hi : i < rs.length) (w : WW rs i met []) : ascN met = (bensF rs).getD i [] := by
  refine ascN_ext (asc_ascN _) (bens_asc ok hi) fun x => ?_
  rw [mem_ascN]
  constructor
  · exact w.ms x
  · refine fun hx => bens_least ok (· ∈ met) (fun m hm hmm k hk => ?_) i hi (fun k hk => ?_) x hx
    · exact (w.cl m hmm k hk).resolve_right (by simp)
    · exact (w.top k hk).resolve_right (by simp)
theorem WW.few {rs : List (List Nat)} (ok : rowsOk rs) {i : Nat} {met wait : List Nat} (hi : i < rs.length) (w : WW rs i met wait) : met.length ≤ i :=
  low_len w.nd fun x hx => bens_lt ok hi (w.ms x hx)
theorem rowsOk.len_at {rs : List (List Nat)} (h : rowsOk rs) {i : Nat} (hi : i < rs.length) : (rs.getD i []).length ≤ i :=
  low_len ((h.at_ hi).1.imp fun h => Nat.ne_of_lt h) (h.at_ hi).2
theorem rowsOk.nil : rowsOk [] := ⟨fun i r h => by simp at h, by simp⟩
theorem rowsOk.snoc {rs : List (List Nat)} {r : List Nat} (h : rowsOk rs) (h1 : r.Pairwise (· < ·)) (h2 : ∀ k ∈ r, k < rs.length) (hl : rs.length < 63) : rowsOk (rs ++ [r]) := by
  refine ⟨fun i q hq => ?_, by simp; omega⟩
  by_cases hi : i < rs.length
  · rw [List.getElem?_append_left hi] at hq
    exact h.asc i q hq
  · rw [List.getElem?_append_right (by omega)] at hq
    have e : i - rs.length = 0 := by
      have := (List.getElem?_eq_some_iff.mp hq).1
      simp at this
      omega
    rw [e] at hq
    have hq : some r = some q := hq
    cases hq
    have e : i = rs.length := by omega
    subst e
    exact ⟨h1, h2⟩
theorem asc_few {p : Str} (hp : letters p) : (ascN (lets p)).length ≤ 100 := by
  have h1 := (asc_ascN (lets p)).imp (S := (· ≠ ·)) fun h => Nat.ne_of_lt h
  have h2 := List.Nodup.length_le_of_subset (l₁ := (ascN (lets p)).map (· - 30)) (l₂ := List.range 100) ?_ fun x hx => ?_
  · rw [List.length_range, List.length_map] at h2
    exact h2
  · rw [List.Nodup, List.pairwise_map]
    refine h1.imp_of_mem fun {a b} ha hb h => ?_
    have := hp a (mem_ascN.mp ha)
    have := hp b (mem_ascN.mp hb)
    omega
  · obtain ⟨c, hc, rfl⟩ := List.mem_map.mp hx
    have := hp c (mem_ascN.mp hc)
    rw [List.mem_range]
    omega
theorem letsN_len {p : Str} (hp : letters p) (nd : (lets p).Nodup) : (lets p).length ≤ 100 := by
  have h2 := List.Nodup.length_le_of_subset nd (l₂ := ascN (lets p)) fun x hx => mem_ascN.mpr hx
  exact Nat.le_trans h2 (asc_few hp)
theorem sg_sum : ∀ m : List Nat, ((m.map sg).map (·.length)).sum = m.length
  | [] => rfl
  | c :: m => by
    have := sg_sum m
    simp only [List.map_cons, List.sum_cons, List.length_cons]
    rw [this]
    show 1 + _ = _
    omega
theorem flat_len {α : Type} {n : Nat} : ∀ {L : List (List α)}, (∀ l ∈ L, l.length ≤ n) → L.flatten.length ≤ L.length * n
  | [], _ => by simp
  | l :: L, h => by
    have h1 := h l List.mem_cons_self
    have h2 := flat_len (L := L) fun x hx => h x (List.mem_cons_of_mem _ hx)
    rw [List.flatten_cons, List.length_append, List.length_cons, Nat.succ_mul]
    omega
theorem at_map {α : Type} {f : α → D} {bs : List α} {k : Nat} {d : α} (h : k < bs.length) : atI (bs.map f) ((k : Nat) : Int) = some (f (bs.getD k d)) := by
  unfold atI ixN
  rw [if_pos (by omega), if_pos (by rw [List.length_map]; omega)]
  simp [h]
/-- a chain, a fan, all lesser points -/
def chainR (n : Nat) : List (List Nat) := (List.range n).map fun k => if k = 0 then [] else [k - 1]
def fullR (n : Nat) : List (List Nat) := (List.range n).map List.range
def fanR (n : Nat) : List (List Nat) := List.replicate n [] ++ [List.range n]
theorem range_at {n i : Nat} {x : Nat} (h : (List.range n)[i]? = some x) : x = i ∧ i < n := by
  obtain ⟨h1, h2⟩ := List.getElem?_eq_some_iff.mp h
  rw [List.length_range] at h1
  simp at h2
  exact ⟨h2.symm, h1⟩
theorem chainR_at {n i : Nat} {r : List Nat} (h : (chainR n)[i]? = some r) : r = if i = 0 then [] else [i - 1] := by
  unfold chainR at h
  rw [List.getElem?_map] at h
  obtain ⟨k, hk, rfl⟩ := Option.map_eq_some_iff.mp h
  rw [(range_at hk).1]
theorem fullR_at {n i : Nat} {r : List Nat} (h : (fullR n)[i]? = some r) : r = List.range i := by
  unfold fullR at h
  rw [List.getElem?_map] at h
  obtain ⟨k, hk, rfl⟩ := Option.map_eq_some_iff.mp h
  rw [(range_at hk).1]
theorem chainR_ok {n : Nat} (h : n ≤ 63) : rowsOk (chainR n) := by
  refine ⟨fun i r hr => ?_, by simp [chainR, h]⟩
  rw [chainR_at hr]
  split
  · simp
  · refine ⟨by simp, fun k hk => ?_⟩
    rw [List.mem_singleton] at hk
    omega
theorem fullR_ok {n : Nat} (h : n ≤ 63) : rowsOk (fullR n) := by
  refine ⟨fun i r hr => ?_, by simp [fullR, h]⟩
  rw [fullR_at hr]
  exact ⟨List.pairwise_lt_range, fun k hk => List.mem_range.mp hk⟩
theorem fanR_ok {n : Nat} (h : n < 63) : rowsOk (fanR n) := by
  refine ⟨fun i r hr => ?_, by simp [fanR]; omega⟩
  unfold fanR at hr
  by_cases hi : i < n
  · rw [List.getElem?_append_left (by simpa using hi), List.getElem?_replicate, if_pos hi] at hr
    cases hr
    simp
  · rw [List.getElem?_append_right (by simpa using hi), List.length_replicate] at hr
    have e : i - n = 0 := by
      have := (List.getElem?_eq_some_iff.mp hr).1
      simp at this
      omega
    rw [e] at hr
    have hr : some (List.range n) = some r := hr
    cases hr
    have e : i = n := by omega
    subst e
    exact ⟨List.pairwise_lt_range, fun k hk => List.mem_range.mp hk⟩
theorem rgV_nat {i : Nat} {b : Int} (h : b = (i : Nat)) : (rgV 0 b).map D.vl = (List.range i).map natD := by
  subst h
  unfold rgV
  rw [List.map_map]
  have e : ((i : Int) - 0).toNat = i := by omega
  rw [e]
  refine List.map_congr_left fun x _ => ?_
  show D.int _ = D.int _
  congr 1
  omega
theorem rep_nilT (n : Nat) : (List.replicate n [D.tup []]).flatten = (List.replicate n ([] : List Nat)).map rowD := by
  induction n with
  | zero => rfl
  | succ n ih =>
    rw [List.replicate_succ, List.flatten_cons, ih]
    rfl
theorem rep_0 (n : Nat) : (List.replicate n [D.vl (V.int 0)]).flatten = (List.replicate n 0).map natD := by
  induction n with
  | zero => rfl
  | succ n ih =>
    rw [List.replicate_succ, List.flatten_cons, ih]
    rfl
theorem step_get {hs : List Nat} {n j k : Nat} (hj : j ≤ hs.length) (hk : k < j) : (hs.take j ++ List.replicate n 0).getD k 0 = hs.getD k 0 := by
  rw [List.getD_eq_getElem?_getD, List.getD_eq_getElem?_getD, List.getElem?_append_left (by rw [List.length_take]; omega), List.getElem?_take, if_pos hk]
theorem step_set {hs : List Nat} {n j : Nat} (hl : hs.length = n) (hj : j < n) : (hs.take j ++ List.replicate (n - j) 0).set j (hs.getD j 0) = hs.take (j + 1) ++ List.replicate (n - (j + 1)) 0 := by
  have e : n - j = (n - (j + 1)) + 1 := by omega
  rw [e, List.replicate_succ, List.set_append_right _ _ (by rw [List.length_take]; omega)]
  have e2 : j - (hs.take j).length = 0 := by rw [List.length_take]; omega
  have hj2 : j < hs.length := by omega
  have e3 : hs.take (j + 1) = hs.take j ++ [hs.getD j 0] := by
    rw [List.take_add_one, List.getD_eq_getElem?_getD, List.getElem?_eq_getElem hj2]
    rfl
  rw [e2, List.set_cons_zero, e3, List.append_assoc]
  rfl
theorem ixN_nat {n k : Nat} (h : k < n) : L2.ixN n ((k : Nat) : Int) = some k := by
  unfold L2.ixN
  rw [if_pos (by omega), if_pos (by omega)]
  simp
theorem dec_castI {q : Nat} {met : List Nat} : decide ((q : Int) ∈ castI met) = decide (q ∈ met) := by
  have : ((q : Int) ∈ castI met) ↔ q ∈ met := by
    unfold castI
    rw [List.mem_map]
    constructor
    · rintro ⟨x, hx, e⟩
      have : x = q := by omega
      exact this ▸ hx
    · exact fun h => ⟨q, h, rfl⟩
  by_cases h : q ∈ met
  · rw [decide_eq_true h, decide_eq_true (this.mpr h)]
  · rw [decide_eq_false h, decide_eq_false (fun z => h (this.mp z))]
def bareW (rs : List (List Nat)) : Wb := ⟨rs, List.replicate rs.length ""⟩
theorem bareW_ok {rs : List (List Nat)} (h : rowsOk rs) (hne : rs ≠ []) : (bareW rs).ok := by
  refine ⟨h, hne, List.length_replicate, fun s hs => ?_⟩
  rw [List.eq_of_mem_replicate hs]
  exact ⟨by unfold letters; decide +kernel, List.Pairwise.nil⟩
theorem rep_s (n : Nat) : (List.replicate n [D.str ""]).flatten = (List.replicate n ("" : Str)).map D.str := by
  induction n with
  | zero => rfl
  | succ n ih =>
    rw [List.replicate_succ, List.flatten_cons, ih]
    rfl
def rowP (r : List Nat) : PyData := .tuple (r.map fun k => .int (k : Nat))
theorem pd_row (r : List Nat) : (rowD r).pd = some (rowP r) := pd_tup (pdL_map _ _ (fun _ => rfl) r)
theorem rowP_ok {r : List Nat} (hl : r.length ≤ 63) (h : ∀ k ∈ r, k < 64) : Ok1 1 600 (rowP r) :=
  (ok_tup (k := 0) (n := 8) (fun d hd => by
    obtain ⟨k, hk, rfl⟩ := List.mem_map.mp hd
    have := h k hk
    exact ok_int (by omega) (by omega))).up (Nat.le_refl _) (by rw [List.length_map]; omega)
theorem intP_ok {h : Nat} (hh : h < 64) : Ok1 0 8 (.int (h : Nat)) := ok_int (by omega) (by omega)
def told9 (b : List Nat) (h : Nat) : D := .lst [rowD b, rowD b, natD h, natD h]
def told9P (b : List Nat) (h : Nat) : PyData := .list [rowP b, rowP b, .int (h : Nat), .int (h : Nat)]
theorem told9_pd (b : List Nat) (h : Nat) : (told9 b h).pd = some (told9P b h) := pd_lst (pdL_cons (pd_row b) (pdL_cons (pd_row b) (pdL_cons rfl (pdL_cons rfl rfl))))
theorem told9_shw {b : List Nat} {h : Nat} (hl : b.length ≤ 63) (hb : ∀ k ∈ b, k < 64) (hh : h < 64) : Shw (told9P b h) :=
  ((okL_cons (rowP_ok hl hb) (okL_cons (rowP_ok hl hb) (okL_cons ((intP_ok hh).up (by decide) (Nat.le_refl _)) (okL_cons ((intP_ok hh).up (by decide) (Nat.le_refl _)) (okL_nil (n := 0)))))).lst).shw (by decide) (by decide)
def told9b (h n : Nat) : D := .lst [natD h, natD h, natD h, natD n]
def told9bP (h n : Nat) : PyData := .list [.int (h : Nat), .int (h : Nat), .int (h : Nat), .int (n : Nat)]
theorem told9b_pd (h n : Nat) : (told9b h n).pd = some (told9bP h n) := rfl
theorem told9b_shw {h n : Nat} (hh : h < 64) (hn : n < 64) : Shw (told9bP h n) :=
  ((okL_cons (intP_ok hh) (okL_cons (intP_ok hh) (okL_cons (intP_ok hh) (okL_cons (intP_ok hn) (okL_nil (n := 0)))))).lst).shw (by decide) (by decide)
def told9c (b : List Nat) (h n : Nat) : D := .lst [rowD b, natD h, natD n]
def told9cP (b : List Nat) (h n : Nat) : PyData := .list [rowP b, .int (h : Nat), .int (n : Nat)]
theorem told9c_pd (b : List Nat) (h n : Nat) : (told9c b h n).pd = some (told9cP b h n) := pd_lst (pdL_cons (pd_row b) (pdL_cons rfl (pdL_cons rfl rfl)))
theorem told9c_shw {b : List Nat} {h n : Nat} (hl : b.length ≤ 63) (hb : ∀ k ∈ b, k < 64) (hh : h < 64) (hn : n < 64) : Shw (told9cP b h n) :=
  ((okL_cons (rowP_ok hl hb) (okL_cons ((intP_ok hh).up (by decide) (Nat.le_refl _)) (okL_cons ((intP_ok hn).up (by decide) (Nat.le_refl _)) (okL_nil (n := 0))))).lst).shw (by decide) (by decide)
theorem bens_len {rs : List (List Nat)} (ok : rowsOk rs) {i : Nat} (hi : i < rs.length) : ((bensF rs).getD i []).length ≤ i :=
  low_len ((bens_asc ok hi).imp fun h => Nat.ne_of_lt h) fun x hx => bens_lt ok hi hx
theorem hgt_le {rs : List (List Nat)} (ok : rowsOk rs) : ∀ i : Nat, i < rs.length → (hgtF rs).getD i 0 ≤ i := by
  intro i
  induction i using Nat.strongRecOn with
  | ind i ih =>
    intro hi
    rw [hgt_at ok hi]
    obtain ⟨m1, _⟩ := fold_max ((rs.getD i []).map fun k => 1 + (hgtF rs).getD k 0) 0
    rcases List.mem_cons.mp m1 with e | e
    · omega
    · obtain ⟨k, hk, e2⟩ := List.mem_map.mp e
      have hki := (ok.at_ hi).2 k hk
      have := ih k hki (by omega)
      omega
theorem full_bens {n i : Nat} (hn : n ≤ 63) (hi : i < n) : (bensF (fullR n)).getD i [] = List.range i := by
  have ok := fullR_ok hn
  have hl : (fullR n).length = n := by simp [fullR]
  have hat : (fullR n).getD i [] = List.range i := by
    have : (fullR n)[i]? = some ((fullR n).getD i []) := by
      rw [List.getD_eq_getElem?_getD, List.getElem?_eq_getElem (by omega)]
      rfl
    exact fullR_at this
  refine ascN_ext (bens_asc ok (by omega)) List.pairwise_lt_range fun x => ?_
  rw [List.mem_range]
  constructor
  · exact fun h => bens_lt ok (by omega) h
  · intro h
    refine (bens_mem ok (by omega)).mpr (.inl ?_)
    rw [hat, List.mem_range]
    exact h
theorem full_hgt {n : Nat} (hn : n ≤ 63) : ∀ i : Nat, i < n → (hgtF (fullR n)).getD i 0 = i := by
  have ok := fullR_ok hn
  have hl : (fullR n).length = n := by simp [fullR]
  intro i
  induction i using Nat.strongRecOn with
  | ind i ih =>
    intro hi
    have hat : (fullR n).getD i [] = List.range i := by
      have : (fullR n)[i]? = some ((fullR n).getD i []) := by
        rw [List.getD_eq_getElem?_getD, List.getElem?_eq_getElem (by omega)]
        rfl
      exact fullR_at this
    refine Nat.le_antisymm (hgt_le ok i (by omega)) ?_
    rw [hgt_at ok (by omega), hat]
    rcases Nat.eq_zero_or_pos i with e | e
    · omega
    · obtain ⟨_, m2⟩ := fold_max ((List.range i).map fun k => 1 + (hgtF (fullR n)).getD k 0) 0
      have := m2 (1 + (hgtF (fullR n)).getD (i - 1) 0) (List.mem_cons_of_mem _ (List.mem_map.mpr ⟨i - 1, List.mem_range.mpr (by omega), rfl⟩))
      rw [ih (i - 1) (by omega) (by omega)] at this
      omega
theorem vp_natL {W : Om} (r : List Nat) : Vp W (.lst (r.map natD)) (.list (r.map fun k => .int (k : Nat))) := .inl (pd_lst (pdL_map _ _ (fun _ => rfl) r))
theorem shaped_natL (r : List Nat) : SeqAt.shaped (.list (r.map fun k => PyData.int (k : Nat))) = true := by
  have := shaped_ints (castI r)
  unfold castI at this
  rw [List.map_map] at this
  exact this
theorem eqv_natL (l : List Nat) : PyData.eqv (.list (l.map fun k => .int (k : Nat))) (.list (l.map fun k => .int (k : Nat))) = true := by
  have h : ∀ l : List Nat, PyData.eqvAll (l.map fun k => .int (k : Nat)) (l.map fun k => .int (k : Nat)) = true := fun l => by
    induction l with
    | nil => rfl
    | cons n ns ih =>
      rw [List.map_cons, PyData.eqvAll, ih, PyData.eqv]
      simp
  rw [PyData.eqv]
  exact h l
theorem eqself {α : Type} {x : α} {i : Decidable (x = x)} : (@decide (x = x) i) = true := by
  cases i with
  | isTrue h => rfl
  | isFalse h => exact absurd rfl h
theorem neself {α : Type} {x : α} {i : Decidable (x = x)} : (!@decide (x = x) i) = false := by
  cases i with
  | isTrue h => rfl
  | isFalse h => exact absurd rfl h
def S_web (Dk : Deck) : FS := fun ds W post => ∃ (a : Addr) (c : Int) (p : Str) (n : Nat), ds = [.adr a, .str p, natD n] ∧ Dk a c W ∧ 0 < n ∧ n ≤ 40 ∧ letters p ∧ (lets p).Nodup ∧ c + 10000 < 2 ^ 59 ∧
  ∀ (w : Wb) (W' : Om), w.ok → w.below.length ≤ n → (∀ s ∈ w.atoms, ∀ q ∈ lets s, q ∈ lets p) → Dk a (c + 10000) W' → post (.tup [rowsD w.below, atomsD w.atoms]) W'
def S_under : FS := fun ds W post => ∃ rs : List (List Nat), ds = [rowsD rs] ∧ W = [] ∧ rowsOk rs ∧ post (.lst ((bensF rs).map fun b => D.lst (b.map natD))) []
def S_shape (Dk : Deck) : FS := fun ds W post => ∃ (a : Addr) (c : Int), ds = [.adr a] ∧ Dk a c W ∧ c + 20000 < 2 ^ 59 ∧ ∀ (rs : List (List Nat)) (W' : Om), rowsOk rs → rs ≠ [] → rs.length ≤ 12 → Dk a (c + 20000) W' → post (rowsD rs) W'
def S_longest : FS := fun ds W post => ∃ (rs : List (List Nat)) (k : Nat), ds = [rowsD rs, natD k] ∧ W = [] ∧ rowsOk rs ∧ k < rs.length ∧ post (natD ((hgtF rs).getD k 0)) []
def S_ways : FS := fun ds W post => ∃ (rs : List (List Nat)) (k : Nat), ds = [rowsD rs, natD k] ∧ W = [] ∧ rowsOk rs ∧ k < rs.length ∧ post (rowD ((bensF rs).getD k [])) []
end N
set_option Elab.async false
set_option linter.all false
set_option maxRecDepth 100000
/-! Values at points, plainly; the promises of values_of, all_values, where, holds. -/
namespace N
open PySem PySem.Spec PyProof.Rows L2
section
variable {F : FmKit} {T : Kx} {C H H' O O' : Hp} {G : Gm} {W W' : Om} {σ : L2.St} {d : D}
theorem tg_lst {n : Nat} {gs : TGs} {ds : List D} {Z : Gm → Prop} (hn : ds.length = n) (h : Tgs F T gs ds G Z) : Tg F T (gLst T.K n gs) (.lst ds) G Z := fun H H1 σ v l e k Q q => by
  obtain ⟨a, xs, ev, hs, kl⟩ := k
  exact ⟨a, xs, ev, SqL.of (e a _ hs), by rw [kl.len, hn], h H H1 σ xs l e kl Q q⟩
end
section
variable {F : FmKit} {T : Kx} {G : Gm} {W : Om} {R : D → Om → Prop} {t : TT} {te : TE}
/-- a comprehension that leaves what is owned as it is -/
theorem ev_lcQ {vs : List Nat} {wi : TI} {g : TG} (h : EvI F T wi G W fun ds W1 => ∃ I : Nat → List D → Prop, I 0 [] ∧
      (∀ i d acc, ds[i]? = some d → I i acc → Tw F T vs g d (wipeG G vs) fun G2 => EvT F T t G2 W1 fun b W2 => if b = true then Ev F T te G2 W2 (fun z W3 => acc.length < sizeLine ∧ W3 = W1 ∧ I (i + 1) (acc ++ [z])) else (W2 = W1 ∧ I (i + 1) acc)) ∧
      (∀ acc, I ds.length acc → R (.lst acc) W1)) : Ev F T (tLc wi g t te vs) G W R :=
  ev_lcF (ei_imp h fun ds W1 ⟨I, h1, h2, h3⟩ => ⟨fun i acc W' => W' = W1 ∧ I i acc, ⟨rfl, h1⟩, fun i d acc W' hd ⟨e, hi⟩ => by
    subst e
    exact h2 i d acc hd hi, fun acc W' ⟨e, hi⟩ => by
    subst e
    exact h3 acc hi⟩)
end
theorem pe_cg0 {X : Cx} {k j : Nat} {x : Str} {sp : Sp} {p pos : Pos} (c : CalG X.prog X.w X.K X.mg X.base k x sp) (hgd : X.A.guards = some []) (hr : Room j X.A) (hk : k ≤ j) (hg : Gl X x) (hdb : (x == ("__debug__" : Str)) = false := by decide) : PE X (.Call (.Name x p) [] [] pos) (tCall sp [] E0 tNil) := by
  obtain ⟨f, h, hm, hk'⟩ := c.ex
  refine ⟨fun pins s σ H Q I q => ?_⟩
  refine wpAny_Call_Name_kw (ld_glob I hg hm ?_ hdb)
  have q : sp ([] ++ []) H Q E0 := q
  exact PySem.W.callWith_K0 I.kIn hk' (run_fnG (us := []) h hgd (hr.mono hk) I .nil q)
theorem pi_zipT {X : Cx} {e e2 : Expr} {ta tk : TA} {p pos tpos : Pos} {elts : List Expr} {kk : Nat} {kws : List Keyword} (hg : Gl X "zip") (hm : X.mg "zip" = none) (ha : PA X [e, e2] ta) (hk : PK X kws tk)
    (hall : (backToKw pos (keywordEach kws X.env)).all (·.1.isSome) = true := by rfl) (hks : (backToKw pos (keywordEach kws X.env)).filterMap (·.1) = [Str.ofString "strict"] := by rfl)
    (hs : starEach [e, e2] X.env = (false, eval e X.env) :: starEach [e2] X.env := by rfl)
    (hpl : ((backTo pos (starEach [e, e2] X.env)).any (·.1) || (backToKw pos (keywordEach kws X.env)).any (·.1.isNone)) = false := by rfl) :
    PI X (.Tuple elts kk tpos) (.Call (.Name "zip" p) [e, e2] kws pos) (iZipS X.K ta tk) := pi_zipS hg hm ha hk hall hks hs hpl
section
variable {X : Cx} {K : PySem.W.Frag}
theorem op_eqEK (hK : X.K = K) (hu : X.A.units + 64 < cLine) : OpR X (compareOp .Eq) (rEqE K) := hK ▸ op_eqE hu
theorem op_neEK (hK : X.K = K) (hu : X.A.units + 64 < cLine) : OpR X (compareOp .NotEq) (rNeE K) := hK ▸ op_neE hu
theorem op_eqDK (hK : X.K = K) (hu : X.A.units + 64 < cLine) : OpR X (compareOp .Eq) (rEqD K) := hK ▸ op_eqD hu
theorem op_neDK (hK : X.K = K) (hu : X.A.units + 64 < cLine) : OpR X (compareOp .NotEq) (rNeD K) := hK ▸ op_neD hu
end
def allV (rs : List (List Nat)) (vs : List Bool) : List Bool := rs.foldl (fun acc r => acc ++ [r.all fun k => vs.getD k false && acc.getD k false]) []
theorem allV_snoc (rs : List (List Nat)) (r : List Nat) (vs : List Bool) : allV (rs ++ [r]) vs = allV rs vs ++ [r.all fun k => vs.getD k false && (allV rs vs).getD k false] := by
  unfold allV
  rw [List.foldl_append]
  rfl
theorem allV_len (rs : List (List Nat)) (vs : List Bool) : (allV rs vs).length = rs.length := by
  induction rs using snoc_ind with
  | h0 => rfl
  | h1 rs r ih => rw [allV_snoc, List.length_append, List.length_append, ih]; rfl
theorem allV_row {rs : List (List Nat)} {vs : List Bool} : rowsOk rs → ∀ {i : Nat}, i < rs.length → (allV rs vs).getD i false = (rs.getD i []).all fun k => vs.getD k false && (allV rs vs).getD k false := by
  induction rs using snoc_ind with
  | h0 => intro _ i h; cases h
  | h1 rs r ih =>
    intro ok i hi
    rw [allV_snoc]
    have hl := allV_len rs vs
    rw [List.length_append] at hi
    have hi : i < rs.length + 1 := hi
    have cong : ∀ (l : List Nat), (∀ k ∈ l, k < rs.length) → (l.all fun k => vs.getD k false && (allV rs vs).getD k false) = l.all fun k => vs.getD k false && (allV rs vs ++ [r.all fun k => vs.getD k false && (allV rs vs).getD k false]).getD k false := fun l h => by
      rw [Bool.eq_iff_iff, List.all_eq_true, List.all_eq_true]
      refine forall_congr' fun k => forall_congr' fun hk => ?_
      rw [getD_snoc_lt (by have := h k hk; omega)]
    rcases Nat.lt_or_eq_of_le (Nat.le_of_lt_succ hi) with h | h
    · rw [getD_snoc_lt (by omega), getD_snoc_lt h, ih ok.init h]
      exact cong _ fun k hk => by have := (ok.init.at_ h).2 k hk; omega
    · rw [getD_snoc_eq (by omega), getD_snoc_eq h]
      exact cong _ fun k hk => (ok.asc rs.length r (by simp)).2 k hk
theorem allV_at {rs : List (List Nat)} {vs : List Bool} (ok : rowsOk rs) : ∀ i : Nat, i < rs.length → (allV rs vs).getD i false = ((bensF rs).getD i []).all fun k => vs.getD k false := by
  intro i
  induction i using Nat.strongRecOn with
  | ind i ih =>
    intro hi
    rw [allV_row ok hi, Bool.eq_iff_iff, List.all_eq_true, List.all_eq_true]
    constructor
    · intro h x hx
      rcases (bens_mem ok hi).mp hx with h1 | ⟨k, h1, h2⟩
      · have := h x h1
        rw [Bool.and_eq_true] at this
        exact this.1
      · have hk := (ok.at_ hi).2 k h1
        have := h k h1
        rw [Bool.and_eq_true, ih k hk (by omega), List.all_eq_true] at this
        exact this.2 x h2
    · intro h k hk
      have hki := (ok.at_ hi).2 k hk
      rw [Bool.and_eq_true, ih k hki (by omega), List.all_eq_true]
      exact ⟨h k ((bens_mem ok hi).mpr (.inl hk)), fun x hx => h x ((bens_mem ok hi).mpr (.inr ⟨k, hk, hx⟩))⟩
/-- the values of a formula at the points -/
def Wb.vals (w : Wb) : Fm → List Bool
  | .at c => w.atoms.map fun s => decide (c ∈ lets s)
  | .no => w.below.map fun _ => false
  | .imp a b => List.zipWith (fun x y => !x || y) (w.vals a) (w.vals b)
  | .all a => allV w.below (w.vals a)
theorem Wb.vals_len {w : Wb} (h : w.atoms.length = w.below.length) : ∀ f : Fm, (w.vals f).length = w.below.length
  | .at c => by unfold Wb.vals; rw [List.length_map, h]
  | .no => by unfold Wb.vals; rw [List.length_map]
  | .imp a b => by unfold Wb.vals; rw [List.length_zipWith, vals_len h a, vals_len h b, Nat.min_self]
  | .all a => by unfold Wb.vals; rw [allV_len]
abbrev blsD (l : List Bool) : D := .lst (l.map .bl)
def S_allvalsW : FS := fun ds W post => ∃ (w : Wb) (vs : List Bool), ds = [w.d, blsD vs] ∧ W = [] ∧ w.ok ∧ vs.length = w.below.length ∧ post (blsD (allV w.below vs)) []
def S_valuesW : FS := fun ds W post => ∃ (w : Wb) (d : D) (f : Fm), ds = [w.d, d] ∧ W = [] ∧ w.ok ∧ Opd d f ∧ f.okF ∧ post (blsD (w.vals f)) []
def S_whereW : FS := fun ds W post => ∃ (w : Wb) (d : D) (f : Fm), ds = [w.d, d] ∧ W = [] ∧ w.ok ∧ Opd d f ∧ f.okF ∧ post (rowD ((List.range w.below.length).filter fun i => (w.vals f).getD i false)) []
def S_holdsW : FS := fun ds W post => ∃ (w : Wb) (d : D) (f : Fm) (p : D) (k : Nat), ds = [w.d, d, p] ∧ W = [] ∧ w.ok ∧ Opd d f ∧ f.okF ∧ Plc w p k ∧ post (.bl ((w.vals f).getD k false)) []
theorem at_bl {bs : List Bool} {k : Nat} (h : k < bs.length) : atI (bs.map D.bl) ((k : Nat) : Int) = some (.bl (bs.getD k false)) := at_map h
end N
set_option Elab.async false
set_option linter.all false
set_option maxRecDepth 100000
set_option maxHeartbeats 4000000
/-! == and != of the own classes. -/
namespace N
open PySem PySem.Spec PyProof.Rows L2
section
variable {prog : Program} {w : World} {A : Around} {E : Value → Shared → Prop} {s : Shared} {K : PySem.W.Frag} {x C L f : Addr} {h₀ : Heap} {m : Str → Option Value} {ox : Obj} {od : Option Obj} {name nm : Str} {b tb : Value}
theorem ifBound_S {M : Model} {T id : String} {args : List Value} {Q : Option Value → Shared → Prop} (X : K.In s.heap) (I : PySem.W.InstAt s.heap x ox C od) (hs : PySem.W.findIn K (.ref C) name = some (some (.builtin id))) (S : Slot T nm id)
    (h : wpAny M A (call (.builtin id) (.ref x :: args)) (fun v => Q (some v)) E s) : wpAny M A (callSpecialIfBound? (.ref x) name args) Q E s := by
  simp only [callSpecialIfBound?, bindSpecialIfBound?]
  refine wpAny_holding (wpAny_bind (wpAny_bind (wpAny_bind (I.type.here ((PySem.W.looks_findIn X hs).here ?_)))))
  simp only [S.bind]
  refine wpAny_bind (wpAny_askSetting (wpAny_ite ?_))
  have fin : wpAny M A (call (.builtin id) ([.ref x] ++ args) >>= fun v => pure (some v)) Q E s := wpAny_bind (wpAny_mono h (fun v s' h' => wpAny_pure h') fun _ _ h' => h')
  split
  · exact wpAny_bind (wpAny_pure (wpAny_pure fin))
  · exact wpAny_tryCatch (wpAny_bind (wpAny_pure (wpAny_pure fin)))
theorem inst_object (X : K.In s.heap) (I : PySem.W.InstAt s.heap x ox C od) (hm : PySem.W.mroIn K C (.type "object") = some true) {M : Model} : PySem.W.Looks M s.heap (isInstance (.ref x) (.type "object")) true :=
  I.type.andThen (PySem.W.looks_mroIn X hm)
theorem cmp_ne {Q : Value → Shared → Prop} (hu : A.units + 1 < cLine) (X : K.In s.heap) (I : PySem.W.InstAt s.heap x ox C od) (hb : PySem.W.Looks (model prog w) s.heap (typeOf b) tb) (hn : PySem.W.notFirst K C tb = true)
    (hs : PySem.W.findIn K (.ref C) "__ne__" = some (some (.builtin "object.__ne__"))) (hq : PySem.W.findIn K (.ref C) "__eq__" = some (some (.ref f))) (hf : PySem.W.isFn K (.ref f) = true) (hm : PySem.W.mroIn K C (.type "object") = some true)
    (h : wpAny (model prog w) A.in1 (call (.ref f) [.ref x, b]) (fun v s' => ∃ k, v = .bool k ∧ Q (.bool (!k)) s') E s) : wpAny (model prog w) A (richCompare .NotEq (.ref x) b) Q E s := by
  have one : wpAny (model prog w) A (tryCompare (.ref x) (cmpInfo .NotEq).2.1 b) (fun r s' => ∃ v, r = some v ∧ Q v s') E s := by
    unfold tryCompare
    refine wpAny_bind (ifBound_S X I hs F.slot_object_ne (wpAny_call (codeAny_call_builtin F.slot_object_ne.plain F.cmpEntry_ne
      (PySem.W.check_slot F.cmpKind_ne F.cmpSplit_ne (inst_object X I hm) (F.cmpArgs_ne _ _) ?_))))
    unfold Builtin.«object.__ne__»
    repeat (first | with_reducible refine wpAny_cRoomFor hu ?_ | with_reducible refine PySem.W.ifBound_K X I hq hf (wpAny_mono h (fun v s' hv => ?_) fun _ _ e => e) | wp_step)
    obtain ⟨k, rfl, q⟩ := hv
    repeat wp_step
    exact ⟨_, rfl, q⟩
  unfold richCompare
  simp only [oneThing_ref]
  refine wpAny_holding (wpAny_bind (wpAny_cRoomFor (Nat.lt_of_succ_lt hu) ?_))
  refine wpAny_bind (I.type.here (wpAny_bind (hb.here ?_)))
  split
  · rename_i q
    have e : PySem.W.subIn K tb (.ref C) = some false := by
      rcases Bool.or_eq_true_iff.mp hn with e | e
      · rw [beq_iff_eq.mp e] at q; simp at q
      · exact beq_iff_eq.mp e
    refine wpAny_bind ((PySem.W.looks_subIn X e).here ?_)
    simp only [Bool.false_eq_true, if_false]
    refine wpAny_bind (wpAny_mono one (fun r s' z => ?_) fun _ _ e => e)
    obtain ⟨v, rfl, hq⟩ := z
    exact wpAny_pure hq
  · refine wpAny_bind (wpAny_pure ?_)
    simp only [Bool.false_eq_true, if_false]
    refine wpAny_bind (wpAny_mono one (fun r s' z => ?_) fun _ _ e => e)
    obtain ⟨v, rfl, hq⟩ := z
    exact wpAny_pure hq
end
section
variable {X : Cx} {CX : CXT} {k : Nat} {f C : Addr} {fd : FuncData} {ps : List Str} {sp : Sp} {E : XK}
theorem notFirst_self {K : PySem.W.Frag} {C : Addr} : PySem.W.notFirst K C (.ref C) = true := by
  unfold PySem.W.notFirst
  simp
/-- x == y by the own __eq__ -/
theorem op_eqO (F : FnOk X.prog X.w X.K X.mg X.base CX k f fd ps sp) (hr : Room k X.A) (o : Own2 X.K C "__eq__" f) (hb : Binds X.K fd ps []) (hx : Passes CX X E) : OpR X (compareOp .Eq) (rOwn2 C (fun vs H Q E => sp vs H (fun v H' => (∃ b, v = .bl b) ∧ Q v H') E) E) := by
  intro pins s σ H x y v u Q I rx ry hq
  obtain ⟨a, b, dx, dy, fs, gs, rfl, rfl, ha, hb', q⟩ := hq
  cases rx
  cases ry
  obtain ⟨od, J⟩ := inst_of I ha
  obtain ⟨od', J'⟩ := inst_of I hb'
  obtain ⟨m, hF⟩ := I.fr
  show wpAny _ _ (richCompare .Eq (.ref a) (.ref b)) _ _ _
  refine PySem.W.cmp_K (op := .Eq) (tb := .ref C) hr.units0 hF I.ok.mod.kin J J'.type notFirst_self o.at_ o.fn ?_
  refine wpAny_mono (run_fn (us := [.ref a, .ref b]) (vs := [.ref a, .ref b]) F hr hb .nil hx I (.cons rfl (.cons rfl .nil)) (by exact q)) (fun w s' z => ?_) fun _ _ x => x
  obtain ⟨z', H', I', rz, ⟨b, rfl⟩, qz⟩ := z
  exact SlX.cmpback rz ⟨.bl b, H', I', rz, qz⟩
/-- x != y by the own __eq__ -/
def rNeO (C : Addr) (sp : Sp) (E : XK) : R2 := rOwn2 C (fun vs H Q E => sp vs H (fun v H' => ∃ b, v = .bl b ∧ Q (.bl (!b)) H') E) E
theorem op_neO (F : FnOk X.prog X.w X.K X.mg X.base CX k f fd ps sp) (hr : Room (k + 1) X.A) (o : Own2 X.K C "__eq__" f) (hs : PySem.W.findIn X.K (.ref C) "__ne__" = some (some (.builtin "object.__ne__"))) (hm : PySem.W.mroIn X.K C (.type "object") = some true) (hb : Binds X.K fd ps []) (hx : Passes CX X E) : OpR X (compareOp .NotEq) (rNeO C sp E) := by
  intro pins s σ H x y v u Q I rx ry hq
  obtain ⟨a, b, dx, dy, fs, gs, rfl, rfl, ha, hb', q⟩ := hq
  cases rx
  cases ry
  obtain ⟨od, J⟩ := inst_of I ha
  obtain ⟨od', J'⟩ := inst_of I hb'
  show wpAny _ _ (richCompare .NotEq (.ref a) (.ref b)) _ _ _
  refine cmp_ne (tb := .ref C) ?_ I.kIn J J'.type notFirst_self hs o.at_ o.fn hm ?_
  · exact hr.in1.units0
  · refine thn (run_at F hr.in1 rfl hb hx I (vs := [V.ref a, V.ref b]) (.cons rfl (.cons rfl .nil)) q) fun v s' h => ?_
    obtain ⟨z, H', I', rz, b, rfl, qz⟩ := h
    cases rz
    exact ⟨b, rfl, .bl (!b), H', I', rfl, qz⟩
/-- the class has no own __ne__ -/
structure NeC (K : PySem.W.Frag) (C : Addr) : Prop where
  ne : PySem.W.findIn K (.ref C) "__ne__" = some (some (.builtin "object.__ne__"))
  ob : PySem.W.mroIn K C (.type "object") = some true
def rEqO (C : Addr) (sp : Sp) (E : XK) : R2 := rOwn2 C (fun vs H Q E => sp vs H (fun v H' => (∃ b, v = .bl b) ∧ Q v H') E) E
theorem op_eq_opn {j : Nat} (o : Opn X.prog X.w X.K X.mg X.base k C "__eq__" sp) (hr : Room j X.A) (hk : k ≤ j) : OpR X (compareOp .Eq) (rEqO C sp E0) := by
  obtain ⟨f, fd, ps, o2, h, b⟩ := o.ex
  exact op_eqO h (hr.mono hk) o2 b pass0
theorem op_ne_opn {j : Nat} (o : Opn X.prog X.w X.K X.mg X.base k C "__eq__" sp) (y : NeC X.K C) (hr : Room j X.A) (hk : k + 1 ≤ j) : OpR X (compareOp .NotEq) (rNeO C sp E0) := by
  obtain ⟨f, fd, ps, o2, h, b⟩ := o.ex
  exact op_neO h (hr.mono hk) o2 y.ne y.ob b pass0
end
section
variable {F : FmKit} {T : Kx} {C H H' O O' : Hp} {G : Gm} {W W' : Om} {R : D → Om → Prop} {S : FS} {c : Nat}
theorem bo_eqO {d e : D} {ns ms : List Str} {l m : List D} (i1 : Inst F W d c ns l) (i2 : Inst F W e c ms m) (h : Hand S [d, e] W fun d' W' => (∃ b, d' = .bl b) ∧ R d' W') : Bo F T (rEqO (T.cl c) (spN F T S) E0) d e W R := fun C H O di oc ow x y hx hy Q q => by
  obtain ⟨a, dx, fs, ex, ha, _⟩ := i1.at di ow hx
  obtain ⟨b, dy, gs, ey, hb, _⟩ := i2.at di ow hy
  refine ⟨a, b, dx, dy, fs, gs, ex, ey, ha, hb, h.run di oc ow ⟨x, _, rfl, hx, .one hy⟩ fun d' W' H' O' v ⟨⟨z, e⟩, r⟩ n k => ?_⟩
  subst e
  exact ⟨⟨z, k⟩, q _ W' H' O' v r n k⟩
theorem bo_neO {d e : D} {ns ms : List Str} {l m : List D} (i1 : Inst F W d c ns l) (i2 : Inst F W e c ms m) (h : Hand S [d, e] W fun d' W' => ∃ b, d' = .bl b ∧ R (.bl (!b)) W') : Bo F T (rNeO (T.cl c) (spN F T S) E0) d e W R := fun C H O di oc ow x y hx hy Q q => by
  obtain ⟨a, dx, fs, ex, ha, _⟩ := i1.at di ow hx
  obtain ⟨b, dy, gs, ey, hb, _⟩ := i2.at di ow hy
  refine ⟨a, b, dx, dy, fs, gs, ex, ey, ha, hb, h.run di oc ow ⟨x, _, rfl, hx, .one hy⟩ fun d' W' H' O' v ⟨z, e, r⟩ n k => ?_⟩
  subst e
  exact ⟨z, k, q _ W' H' O' _ r n rfl⟩
end
end N
set_option Elab.async false
set_option linter.all false
set_option maxRecDepth 100000
/-! Law k10, plainly. -/
namespace N
open PySem PySem.Spec PyProof.Rows L2
namespace Fm
def sm (f : Fm) : Fm := neg (.all (neg f))
def yes : Fm := .imp .no .no
end Fm
def S_sm : FS := fun ds W post => ∃ f : Fm, ds = [.fm f] ∧ W = [] ∧ (Fm.sm f).okF ∧ post (.fm (Fm.sm f)) []
def S_yes : FS := fun ds W post => ds = [] ∧ W = [] ∧ post (.fm Fm.yes) []
theorem yes_ok : Fm.yes.okF := ⟨⟨trivial, trivial⟩, by decide, by decide⟩
theorem no_ok : Fm.okF .no := ⟨trivial, by decide, by decide⟩
abbrev undD (rs : List (List Nat)) : D := .lst ((bensF rs).map fun b => D.lst (b.map natD))
abbrev pairD (w : Wb) : D := .tup [rowsD w.below, atomsD w.atoms]
def S_true (j : Nat) : FS := fun ds W post => ∃ (w : Wb) (f : Fm), ds = [pairD w, undD w.below, f.tr] ∧ W = [] ∧ w.ok ∧ f.ht < j ∧ post (blsD (w.vals f)) []
theorem rep_bl (b : Bool) (n : Nat) : (List.replicate n [D.vl (V.bl b)]).flatten = (List.replicate n b).map D.bl := by
  induction n with
  | zero => rfl
  | succ n ih =>
    rw [List.replicate_succ, List.flatten_cons, ih]
    rfl
theorem flt_empty {b : List Nat} {p : Nat → Bool} : (b.filter fun k => !p k).isEmpty = b.all p := by
  rw [Bool.eq_iff_iff, List.isEmpty_iff, List.filter_eq_nil_iff, List.all_eq_true]
  exact forall_congr' fun x => forall_congr' fun _ => by cases p x <;> simp
def ptsOf (vs : List Bool) : List Nat := (List.range vs.length).filter fun i => vs.getD i false
def S_points : FS := fun ds W post => ∃ vs : List Bool, ds = [blsD vs] ∧ W = [] ∧ vs.length ≤ 63 ∧ post (rowD (ptsOf vs)) []
theorem vals_at {w : Wb} (hw : w.ok) {f : Fm} {i : Nat} (hi : i < w.below.length) : (w.vals (.all f)).getD i false = ((bensF w.below).getD i []).all fun k => (w.vals f).getD k false := allV_at hw.rows i hi
theorem vals_ext {vs us : List Bool} {n : Nat} (h1 : vs.length = n) (h2 : us.length = n) (h : ∀ i, i < n → vs.getD i false = us.getD i false) : vs = us := by
  refine List.ext_getElem (h1.trans h2.symm) fun i a b => ?_
  have := h i (by omega)
  rw [List.getD_eq_getElem?_getD, List.getD_eq_getElem?_getD, List.getElem?_eq_getElem a, List.getElem?_eq_getElem b] at this
  exact this
theorem getD_map {α : Type} {β : Type} {f : α → β} {l : List α} {i : Nat} {d : α} {e : β} (h : i < l.length) : (l.map f).getD i e = f (l.getD i d) := by
  rw [List.getD_eq_getElem?_getD, List.getD_eq_getElem?_getD, List.getElem?_map, List.getElem?_eq_getElem h]
  rfl
theorem getD_zip {α β γ : Type} {f : α → β → γ} {l : List α} {m : List β} {i : Nat} {d : α} {e : β} {z : γ} (h : i < l.length) (h2 : i < m.length) : (List.zipWith f l m).getD i z = f (l.getD i d) (m.getD i e) := by
  rw [List.getD_eq_getElem?_getD, List.getD_eq_getElem?_getD, List.getD_eq_getElem?_getD, List.getElem?_zipWith, List.getElem?_eq_getElem h, List.getElem?_eq_getElem h2]
  rfl
section
variable {w : Wb} (hl : w.atoms.length = w.below.length)
include hl
theorem vals_imp {f g : Fm} {i : Nat} (hi : i < w.below.length) : (w.vals (.imp f g)).getD i false = (!(w.vals f).getD i false || (w.vals g).getD i false) := by
  show (List.zipWith _ _ _).getD i false = _
  rw [getD_zip (d := false) (e := false) (by rw [Wb.vals_len hl]; exact hi) (by rw [Wb.vals_len hl]; exact hi)]
theorem vals_no {i : Nat} (hi : i < w.below.length) : (w.vals .no).getD i false = false := by
  show (w.below.map fun _ => false).getD i false = false
  rw [getD_map (d := []) hi]
theorem vals_neg {f : Fm} {i : Nat} (hi : i < w.below.length) : (w.vals (Fm.neg f)).getD i false = !(w.vals f).getD i false := by
  unfold Fm.neg
  rw [vals_imp hl hi, vals_no hl hi, Bool.or_false]
theorem vals_conj {f g : Fm} {i : Nat} (hi : i < w.below.length) : (w.vals (Fm.conj f g)).getD i false = ((w.vals f).getD i false && (w.vals g).getD i false) := by
  unfold Fm.conj
  rw [vals_neg hl hi, vals_imp hl hi, vals_neg hl hi]
  cases (w.vals f).getD i false <;> cases (w.vals g).getD i false <;> rfl
theorem vals_disj {f g : Fm} {i : Nat} (hi : i < w.below.length) : (w.vals (Fm.disj f g)).getD i false = ((w.vals f).getD i false || (w.vals g).getD i false) := by
  unfold Fm.disj
  rw [vals_imp hl hi, vals_neg hl hi]
  cases (w.vals f).getD i false <;> cases (w.vals g).getD i false <;> rfl
theorem vals_yes {i : Nat} (hi : i < w.below.length) : (w.vals Fm.yes).getD i false = true := by
  unfold Fm.yes
  rw [vals_imp hl hi, vals_no hl hi]
  rfl
end
theorem vals_sm {w : Wb} (hw : w.ok) {f : Fm} {i : Nat} (hi : i < w.below.length) : (w.vals (Fm.sm f)).getD i false = ((bensF w.below).getD i []).any fun k => (w.vals f).getD k false := by
  unfold Fm.sm
  rw [vals_neg hw.len hi, vals_at hw hi, Bool.eq_iff_iff, Bool.not_eq_true', List.any_eq_true, ← Bool.not_eq_true, List.all_eq_true]
  constructor
  · intro h
    refine Classical.byContradiction fun hn => h fun x hx => ?_
    have := bens_lt hw.rows hi hx
    rw [vals_neg hw.len (by omega), Bool.not_eq_true', ← Bool.not_eq_true]
    exact fun z => hn ⟨x, hx, z⟩
  · rintro ⟨x, hx, hv⟩ h
    have := bens_lt hw.rows hi hx
    have h2 := h x hx
    rw [vals_neg hw.len (by omega), hv] at h2
    cases h2
/-- what the law tells: formulas beside their values -/
abbrev entD (w : Wb) (f : Fm) : D := .tup [.fm f, blsD (w.vals f)]
theorem at_last {α : Type} {f : α → D} {bs : List α} {d : α} (h : bs ≠ []) : atI (bs.map f) (-1) = some (f (bs.getD (bs.length - 1) d)) := by
  have hl : 0 < bs.length := List.length_pos_iff.mpr h
  unfold atI L2.ixN
  rw [if_neg (by omega), if_pos (by rw [List.length_map]; omega), List.length_map]
  have e : ((-1 : Int) + (bs.length : Nat)).toNat = bs.length - 1 := by omega
  have e2 : ((bs.length : Nat) : Int).toNat - 1 = bs.length - 1 := by omega
  simp only [Option.bind_some, List.getElem?_map]
  rw [show (-1 + (bs.length : Int)).toNat = bs.length - 1 by omega, List.getD_eq_getElem?_getD, List.getElem?_eq_getElem (by omega)]
  rfl
def blsP (l : List Bool) : PyData := .list (l.map .bool)
theorem pd_bls (l : List Bool) : (blsD l).pd = some (blsP l) := pd_lst (pdL_map _ _ (fun _ => rfl) l)
theorem blsP_ok {l : List Bool} (hl : l.length ≤ 63) : Ok1 1 600 (blsP l) :=
  (ok_lst (k := 0) (n := 8) (fun d hd => by
    obtain ⟨b, _, rfl⟩ := List.mem_map.mp hd
    exact ok_bool b)).up (Nat.le_refl _) (by rw [List.length_map]; omega)
theorem ptsOf_few {vs : List Bool} {n : Nat} (h : vs.length ≤ n) : (ptsOf vs).length ≤ n ∧ ∀ k ∈ ptsOf vs, k < n := by
  refine ⟨?_, fun k hk => ?_⟩
  · have := List.length_filter_le (fun i => vs.getD i false) (List.range vs.length)
    rw [List.length_range] at this
    unfold ptsOf
    omega
  · have := List.mem_range.mp (List.mem_filter.mp hk).1
    omega
def S_right10 : FS := fun ds W post => ∃ (a : Addr) (c : Int), ds = [.adr a] ∧ DkA a c W ∧ c < 2 ^ 58 ∧ ∀ W', DkA a (c + 100000) W' → post (.bl true) W'
def S_dense10 : FS := fun ds W post => ds = [] ∧ W = [] ∧ post (.bl true) []
theorem pools10 : ∀ z ∈ [D.vl (.str "ab"), D.vl (.str "abP"), D.vl (.str "PQ")], ∃ p : Str, z = .str p ∧ letters p ∧ (lets p).Nodup := fun z hz => by
  simp only [List.mem_cons, List.not_mem_nil, or_false] at hz
  rcases hz with e | e | e
  · exact ⟨_, e, by unfold letters; decide +kernel, by decide +kernel⟩
  · exact ⟨_, e, by unfold letters; decide +kernel, by decide +kernel⟩
  · exact ⟨_, e, by unfold letters; decide +kernel, by decide +kernel⟩
theorem okF10 {k : Nat} {f : Fm} (h : f.okL) (ht : f.ht ≤ 12) (hf : Fm.few k f) (hk : k ≤ 63) : f.okF := by
  refine ⟨h, ?_, Nat.lt_of_le_of_lt (hf.len h) (by omega)⟩
  have h1 := Fm.sz_ht f
  have h2 : 2 ^ f.ht ≤ 2 ^ 12 := Nat.pow_le_pow_right (by omega) ht
  have e : (2 : Nat) ^ 12 = 4096 := by decide
  omega
/-- drawn formulas -/
structure sm10 (f : Fm) : Prop where
  ok : f.okL
  ht : f.ht ≤ 5
theorem sm10.few {f : Fm} (h : sm10 f) : Fm.few 31 f := (Fm.few_ht f).up (by
  have : (2 : Nat) ^ f.ht ≤ 2 ^ 5 := Nat.pow_le_pow_right (by omega) h.ht
  omega)
theorem sm10.okF {f : Fm} (h : sm10 f) : f.okF := okF10 h.ok (Nat.le_trans h.ht (by decide)) h.few (by decide)
theorem sm10.neg {f : Fm} (h : sm10 f) : (Fm.neg f).okF := okF10 ⟨h.ok, trivial⟩ (by have := h.ht; simp only [Fm.neg, Fm.ht]; omega) (h.few.imp Fm.few.no) (by decide)
theorem sm10.imp {f g : Fm} (h : sm10 f) (k : sm10 g) : (Fm.imp f g).okF := okF10 ⟨h.ok, k.ok⟩ (by have := h.ht; have := k.ht; simp only [Fm.ht]; omega) (h.few.imp k.few) (by decide)
theorem sm10.conj {f g : Fm} (h : sm10 f) (k : sm10 g) : (Fm.conj f g).okF :=
  okF10 ⟨⟨h.ok, k.ok, trivial⟩, trivial⟩ (by have := h.ht; have := k.ht; simp only [Fm.conj, Fm.neg, Fm.ht]; omega) ((h.few.imp (k.few.imp Fm.few.no)).imp Fm.few.no) (by decide)
theorem sm10.disj {f g : Fm} (h : sm10 f) (k : sm10 g) : (Fm.disj f g).okF :=
  okF10 ⟨⟨h.ok, trivial⟩, k.ok⟩ (by have := h.ht; have := k.ht; simp only [Fm.disj, Fm.neg, Fm.ht]; omega) ((h.few.imp Fm.few.no).imp k.few) (by decide)
theorem sm10.sm {f : Fm} (h : sm10 f) : (Fm.sm f).okF :=
  okF10 (show (Fm.sm f).okL from ⟨⟨h.ok, trivial⟩, trivial⟩) (by have := h.ht; simp only [Fm.sm, Fm.neg, Fm.ht]; omega) ((h.few.imp Fm.few.no).all.imp Fm.few.no) (by decide)
theorem sm10.all {f g : Fm} (h : sm10 f) (k : sm10 g) : (Fm.all (.imp f g)).okF :=
  okF10 (show (Fm.all (.imp f g)).okL from ⟨h.ok, k.ok⟩) (by have := h.ht; have := k.ht; simp only [Fm.ht]; omega) (h.few.imp k.few).all (by decide)
theorem vals_allimp {w : Wb} (hw : w.ok) {f g : Fm} {i : Nat} (hi : i < w.below.length) : (w.vals (.all (.imp f g))).getD i false = ((bensF w.below).getD i []).all fun k => !((w.vals f).getD k false && !(w.vals g).getD k false) := by
  rw [vals_at hw hi, Bool.eq_iff_iff, List.all_eq_true, List.all_eq_true]
  refine forall_congr' fun x => forall_congr' fun hx => ?_
  have := bens_lt hw.rows hi hx
  rw [vals_imp hw.len (by omega)]
  cases (w.vals f).getD x false <;> cases (w.vals g).getD x false <;> simp
theorem flt_no {b : List Nat} {p : Nat → Bool} : (b.filter p).isEmpty = b.all fun k => !p k := by
  rw [Bool.eq_iff_iff, List.isEmpty_iff, List.filter_eq_nil_iff, List.all_eq_true]
  exact forall_congr' fun x => forall_congr' fun _ => by cases p x <;> simp
theorem flt_any {b : List Nat} {p : Nat → Bool} : (!(b.filter p).isEmpty) = b.any p := by
  rw [Bool.eq_iff_iff, Bool.not_eq_true', List.any_eq_true, ← Bool.not_eq_true, List.isEmpty_iff, List.filter_eq_nil_iff]
  constructor
  · intro h
    refine Classical.byContradiction fun hn => h fun x hx hp => hn ⟨x, hx, hp⟩
  · rintro ⟨x, hx, hp⟩ h
    exact h x hx hp
theorem rep_yes {w : Wb} (hl : w.atoms.length = w.below.length) : List.replicate w.below.length true = w.vals Fm.yes :=
  vals_ext List.length_replicate (Wb.vals_len hl _) fun i hi => by
    rw [vals_yes hl hi, List.getD_eq_getElem?_getD, List.getElem?_replicate, if_pos hi]
    rfl
theorem rep_no {w : Wb} : List.replicate w.below.length false = w.vals .no := by
  show _ = w.below.map fun _ => false
  rw [List.map_const']
def told10 (f0 f1 f2 f3 : Fm) : List Fm := [f0, f1, f2, f3, Fm.conj f0 f1, Fm.disj f0 f1, Fm.neg f0, Fm.sm f0, .all (.imp f0 f1), Fm.yes, .no]
theorem told10_ok {f0 f1 f2 f3 : Fm} (s0 : sm10 f0) (s1 : sm10 f1) (s2 : sm10 f2) (s3 : sm10 f3) : ∀ f ∈ told10 f0 f1 f2 f3, f.okF := fun f hf => by
  simp only [told10, List.mem_cons, List.not_mem_nil, or_false] at hf
  rcases hf with rfl | rfl | rfl | rfl | rfl | rfl | rfl | rfl | rfl | rfl | rfl
  · exact s0.okF
  · exact s1.okF
  · exact s2.okF
  · exact s3.okF
  · exact s0.conj s1
  · exact s0.disj s1
  · exact s0.neg
  · exact s0.sm
  · exact s0.all s1
  · exact yes_ok
  · exact no_ok
theorem den_rev2 {F : FmKit} {T : Kx} {H : Hp} {a b : D} {zs : List V} (h : DenL F T H [a, b] zs) : DenL F T H [b, a] zs.reverse := by
  obtain ⟨v, r, e, h1, v2, r2, e2, h2, h3⟩ := h
  have h3 : r2 = [] := h3
  subst h3 e2 e
  exact ⟨v2, [v], rfl, h2, v, [], rfl, h1, rfl⟩
section
variable {F : FmKit} {T : Kx} {G : Gm} {W : Om} {R : D → Om → Prop} {ta tb : TE}
theorem ev_tupRg2 (h : Ev F T ta G W fun d W1 => Ev F T tb G W1 fun e W2 => ∃ i j : Int, d = .int i ∧ e = .int j ∧ RgOk i j ∧ R (.tup ((rgV i j).map .vl)) W2) : Ev F T (tTupRg (tRg2 ta tb)) G W R := fun C H O σ w Q q =>
  h C H O σ w _ fun d W1 H1 O1 x h1 n1 k1 => h1 C H1 O1 σ (w.step n1) _ fun e W2 H2 O2 y ⟨i, j, e1, e2, ok, r⟩ n2 k2 => by
    subst e1 e2
    have k1 : x = .int i := k1
    have k2 : y = .int j := k2
    refine ⟨i, j, k1, k2, ok, fun p hp => ?_⟩
    obtain ⟨n3, e3, s3⟩ := (n1.trans n2).newF (o := .tup (rgV i j)) hp
    rw [e3]
    exact q _ W2 _ _ _ r n3 ⟨p, _, rfl, SqT.of upd_same, .vls _⟩
end
def tri10 (a b c : Bool) : D := .lst [.bl a, .bl b, .bl c]
def tri10P (a b c : Bool) : PyData := .list [.bool a, .bool b, .bool c]
theorem tri10_shw (a b c : Bool) : Shw (tri10P a b c) := ((okL_cons (ok_bool a) (okL_cons (ok_bool b) (okL_cons (ok_bool c) (okL_nil (n := 0))))).lst).shw (by decide) (by decide)
def two10P (r : List Nat) : PyData := .list [rowP r, rowP r]
theorem two10_pd (r : List Nat) : (D.lst [rowD r, rowD r]).pd = some (two10P r) := pd_lst (pdL_cons (pd_row r) (pdL_cons (pd_row r) rfl))
theorem two10_shw {r : List Nat} (hl : r.length ≤ 63) (h : ∀ k ∈ r, k < 64) : Shw (two10P r) := ((okL_cons (rowP_ok hl h) (okL_cons (rowP_ok hl h) (okL_nil (n := 0)))).lst).shw (by decide) (by decide)
/-- the two parts of a web as data -/
def webP (w : Wb) : PyData := .list [.tuple (w.below.map rowP), .tuple (w.atoms.map .str)]
theorem pd_rows (rs : List (List Nat)) : (rowsD rs).pd = some (.tuple (rs.map rowP)) := pd_tup (pdL_map _ _ pd_row rs)
theorem pd_atoms (l : List Str) : (atomsD l).pd = some (.tuple (l.map .str)) := pd_tup (pdL_map _ _ (fun _ => rfl) l)
theorem web_pd (w : Wb) : (D.lst [rowsD w.below, atomsD w.atoms]).pd = some (webP w) := pd_lst (pdL_cons (pd_rows _) (pdL_cons (pd_atoms _) rfl))
theorem rowsP_ok {rs : List (List Nat)} (h : rowsOk rs) : Ok1 2 37864 (.tuple (rs.map rowP)) :=
  (ok_tup (k := 1) (n := 600) (fun d hd => by
    obtain ⟨r, hr, rfl⟩ := List.mem_map.mp hd
    obtain ⟨i, hi, e⟩ := List.getElem_of_mem hr
    obtain ⟨h1, h2⟩ := h.asc i r (by rw [List.getElem?_eq_getElem hi, e])
    have hf := h.few
    exact rowP_ok (by have := low_len (h1.imp fun h => Nat.ne_of_lt h) h2; omega) (fun k hk => by have := h2 k hk; omega))).up (Nat.le_refl _) (by rw [List.length_map]; have := h.few; omega)
theorem atomsP_ok {w : Wb} (h : w.ok) : Ok1 1 6500 (.tuple (w.atoms.map .str)) :=
  (ok_tup (k := 0) (n := 100) (fun d hd => by
    obtain ⟨s, hs, rfl⟩ := List.mem_map.mp hd
    obtain ⟨h1, h2⟩ := h.lets s hs
    exact (ok_str fun c hc => by have := h1 c hc; omega).up (Nat.le_refl _) (letters_len h1 h2))).up (Nat.le_refl _) (by rw [List.length_map]; have := h.rows.few; have := h.len; omega)
theorem web_shw {w : Wb} (h : w.ok) : Shw (webP w) :=
  ((okL_cons (rowsP_ok h.rows) (okL_cons ((atomsP_ok h).up (by decide) (Nat.le_refl _)) (okL_nil (n := 0)))).lst).shw (by decide) (by decide)
/-- the towers of all -/
def twr : Nat → Fm
  | 0 => .no
  | n + 1 => .all (twr n)
theorem twr_ok : ∀ n, (twr n).okL ∧ (twr n).ht = n ∧ (twr n).sz = 4 * n + 2 ∧ (twr n).few n
  | 0 => ⟨trivial, rfl, rfl, Fm.few.no⟩
  | n + 1 => by
    obtain ⟨h1, h2, h3, h4⟩ := twr_ok n
    exact ⟨h1, by simp only [twr, Fm.ht]; omega, by simp only [twr, Fm.sz]; omega, h4.all⟩
theorem twr_okF {n : Nat} (h : n ≤ 63) : (twr n).okF := by
  obtain ⟨h1, h2, h3, h4⟩ := twr_ok n
  exact ⟨h1, by omega, Nat.lt_of_le_of_lt (h4.len h1) (by omega)⟩
/-- forty points, each above all lesser ones; a at the point 5 -/
def denW : Wb := ⟨fullR 40, (List.range 40).map fun k => if k = 5 then "a" else ""⟩
theorem denW_len : denW.below.length = 40 := by simp [denW, fullR]
theorem denW_ok : denW.ok := by
  refine ⟨fullR_ok (by decide), fun e => ?_, by simp [denW, fullR], fun s hs => ?_⟩
  · have := denW_len
    rw [e] at this
    cases this
  obtain ⟨k, _, rfl⟩ := List.mem_map.mp hs
  split
  · exact ⟨by unfold letters; decide +kernel, by decide +kernel⟩
  · exact ⟨by unfold letters; decide +kernel, by decide +kernel⟩
theorem den_all {f : Fm} {k : Nat} (hk : k < 40) : (denW.vals (.all f)).getD k false = (List.range k).all fun i => (denW.vals f).getD i false := by
  rw [vals_at denW_ok (by rw [denW_len]; exact hk)]
  show ((bensF (fullR 40)).getD k []).all _ = _
  rw [full_bens (by decide) hk]
theorem den_twr : ∀ (n k : Nat), k < 40 → (denW.vals (twr n)).getD k false = decide (k < n)
  | 0, k, hk => by
    rw [show twr 0 = Fm.no from rfl, vals_no denW_ok.len (by rw [denW_len]; exact hk)]
    simp
  | n + 1, k, hk => by
    rw [show twr (n + 1) = Fm.all (twr n) from rfl, den_all hk, Bool.eq_iff_iff, List.all_eq_true, decide_eq_true_eq]
    constructor
    · intro h
      rcases Nat.eq_zero_or_pos k with e | e
      · omega
      · have := h (k - 1) (List.mem_range.mpr (by omega))
        rw [den_twr n (k - 1) (by omega), decide_eq_true_eq] at this
        omega
    · intro h i hi
      have := List.mem_range.mp hi
      rw [den_twr n i (by omega), decide_eq_true_eq]
      omega
theorem den_pts {f : Fm} {p : Nat → Bool} (h : ∀ k, k < 40 → (denW.vals f).getD k false = p k) : ((List.range denW.below.length).filter fun i => (denW.vals f).getD i false) = (List.range 40).filter p := by
  rw [denW_len]
  exact List.filter_congr fun k hk => h k (List.mem_range.mp hk)
theorem lastR (n : Nat) : (List.range (n + 1)).getD ((List.range (n + 1)).length - 1) 0 = n := by
  rw [List.length_range, List.getD_eq_getElem?_getD, List.getElem?_eq_getElem (by simp)]
  simp
theorem at97_ok : (Fm.at 97).okF := ⟨.inr ⟨by omega, by omega⟩, by decide, by decide⟩
theorem sm97_ok : (Fm.sm (.at 97)).okF := okF10 (show (Fm.sm (.at 97)).okL from ⟨⟨.inr ⟨by omega, by omega⟩, trivial⟩, trivial⟩) (by simp only [Fm.sm, Fm.neg, Fm.ht]; omega) ((((Fm.few.at 97).imp Fm.few.no).all).imp Fm.few.no) (by decide)
theorem rg640 : (rgV 6 40).map D.vl = ((List.range 40).filter fun k => decide (5 < k)).map natD := by rfl
theorem flt39 : ((List.range 40).filter fun k => decide (k < 39)) = List.range 39 := by decide +kernel
def told10dP (r s : List Nat) : PyData := .list [.bool true, .bool false, rowP r, rowP s]
theorem told10d_pd (r s : List Nat) : (D.lst [.bl true, .bl false, rowD r, rowD s]).pd = some (told10dP r s) := pd_lst (pdL_cons rfl (pdL_cons rfl (pdL_cons (pd_row r) (pdL_cons (pd_row s) rfl))))
theorem told10d_shw {r s : List Nat} (hl : r.length ≤ 63) (h : ∀ k ∈ r, k < 64) (hl2 : s.length ≤ 63) (h2 : ∀ k ∈ s, k < 64) : Shw (told10dP r s) :=
  ((okL_cons ((ok_bool true).up (by decide) (Nat.le_refl _)) (okL_cons ((ok_bool false).up (by decide) (Nat.le_refl _)) (okL_cons (rowP_ok hl h) (okL_cons (rowP_ok hl2 h2) (okL_nil (n := 0)))))).lst).shw (by decide) (by decide)
theorem den_a {k : Nat} (hk : k < 40) : (denW.vals (.at 97)).getD k false = decide (k = 5) := by
  show (((List.range 40).map fun k => if k = 5 then ("a" : Str) else "").map fun s => decide (97 ∈ lets s)).getD k false = _
  rw [List.map_map, getD_map (d := 0) (by simp; exact hk)]
  have : (List.range 40).getD k 0 = k := by
    rw [List.getD_eq_getElem?_getD, List.getElem?_eq_getElem (by simp; exact hk)]
    simp
  simp only [Function.comp]
  rw [this]
  by_cases e : k = 5
  · subst e
    decide +kernel
  · simp only [if_neg e]
    rw [decide_eq_false e]
    decide +kernel
theorem den_sm {k : Nat} (hk : k < 40) : (denW.vals (Fm.sm (.at 97))).getD k false = decide (5 < k) := by
  rw [vals_sm denW_ok (by rw [denW_len]; exact hk)]
  show ((bensF (fullR 40)).getD k []).any _ = _
  rw [full_bens (by decide) hk, Bool.eq_iff_iff, List.any_eq_true, decide_eq_true_eq]
  constructor
  · rintro ⟨x, hx, hv⟩
    have := List.mem_range.mp hx
    rw [den_a (by omega), decide_eq_true_eq] at hv
    omega
  · intro h
    refine ⟨5, List.mem_range.mpr h, ?_⟩
    rw [den_a (by omega)]
    rfl
end N
set_option Elab.async false
set_option linter.all false
set_option maxRecDepth 100000
/-! Webs cut, joined, topped, chains: plainly. -/
namespace N
open PySem PySem.Spec PyProof.Rows L2
/-- the place of a number in a list -/
def idxL : List Nat → Nat → Nat
  | [], _ => 0
  | a :: l, x => if a = x then 0 else idxL l x + 1
theorem idxL_at : ∀ {l : List Nat} {i x : Nat}, l.Nodup → l[i]? = some x → idxL l x = i
  | [], i, x, _, h => by simp at h
  | a :: l, 0, x, nd, h => by
    have h : some a = some x := h
    cases h
    simp [idxL]
  | a :: l, i + 1, x, nd, h => by
    obtain ⟨h1, h2⟩ := List.nodup_cons.mp nd
    have h : l[i]? = some x := h
    have hne : a ≠ x := fun e => h1 (e ▸ List.mem_of_getElem? h)
    rw [idxL, if_neg hne, idxL_at h2 h]
theorem idxL_lt {l : List Nat} (h : l.Pairwise (· < ·)) {x y : Nat} (hx : x ∈ l) (hy : y ∈ l) (lt : x < y) : idxL l x < idxL l y := by
  have nd := h.imp (S := (· ≠ ·)) fun h => Nat.ne_of_lt h
  obtain ⟨i, hi, e1⟩ := List.getElem_of_mem hx
  obtain ⟨j, hj, e2⟩ := List.getElem_of_mem hy
  rw [idxL_at nd (by rw [List.getElem?_eq_getElem hi, e1]), idxL_at nd (by rw [List.getElem?_eq_getElem hj, e2])]
  rcases Nat.lt_or_ge i j with q | q
  · exact q
  · rcases Nat.lt_or_eq_of_le q with q | q
    · have := List.pairwise_iff_getElem.mp h j i hj hi q
      omega
    · subst q
      omega
theorem idxL_len {l : List Nat} {x : Nat} (hx : x ∈ l) : idxL l x < l.length := by
  induction l with
  | nil => cases hx
  | cons a l ih =>
    unfold idxL
    split
    · simp
    · rename_i h
      have := ih ((List.mem_cons.mp hx).resolve_left fun e => h e.symm)
      simp
      exact this
/-- a point and all beneath it -/
def keptL (w : Wb) (k : Nat) : List Nat := (bensF w.below).getD k [] ++ [k]
def Wb.cut (w : Wb) (k : Nat) : Wb := ⟨(keptL w k).map fun o => (w.below.getD o []).map (idxL (keptL w k)), (keptL w k).map fun o => w.atoms.getD o ""⟩
section
variable {w : Wb} (hw : w.ok) {k : Nat} (hk : k < w.below.length)
include hw hk
theorem kept_asc : (keptL w k).Pairwise (· < ·) := by
  unfold keptL
  rw [List.pairwise_append]
  refine ⟨bens_asc hw.rows hk, by simp, fun a ha b hb => ?_⟩
  rw [List.mem_singleton] at hb
  rw [hb]
  exact bens_lt hw.rows hk ha
theorem kept_le {x : Nat} (h : x ∈ keptL w k) : x ≤ k := by
  rcases List.mem_append.mp h with h | h
  · exact Nat.le_of_lt (bens_lt hw.rows hk h)
  · rw [List.mem_singleton] at h
    omega
theorem kept_row {o x : Nat} (h : o ∈ keptL w k) (hx : x ∈ w.below.getD o []) : x ∈ keptL w k := by
  refine List.mem_append_left _ ?_
  rcases List.mem_append.mp h with h | h
  · exact bens_row hw.rows hk h hx
  · rw [List.mem_singleton] at h
    rw [h] at hx
    exact (bens_mem hw.rows hk).mpr (.inl hx)
theorem kept_few : (keptL w k).length ≤ 63 := by
  have h1 := bens_len hw.rows hk
  have h2 := hw.rows.few
  unfold keptL
  rw [List.length_append, List.length_singleton]
  omega
theorem cut_ok : (w.cut k).ok := by
  have asc := kept_asc hw hk
  refine ⟨⟨fun i r hr => ?_, by unfold Wb.cut; rw [List.length_map]; exact kept_few hw hk⟩, fun e => ?_, by simp [Wb.cut], fun s hs => ?_⟩
  · unfold Wb.cut at hr
    rw [List.getElem?_map] at hr
    obtain ⟨o, ho, rfl⟩ := Option.map_eq_some_iff.mp hr
    have hom := List.mem_of_getElem? ho
    have hol : o < w.below.length := by have := kept_le hw hk hom; omega
    obtain ⟨a1, a2⟩ := hw.rows.at_ hol
    have nd := asc.imp (S := (· ≠ ·)) fun h => Nat.ne_of_lt h
    refine ⟨?_, fun z hz => ?_⟩
    · rw [List.pairwise_map]
      exact a1.imp_of_mem fun {x y} hx hy h => idxL_lt asc (kept_row hw hk hom hx) (kept_row hw hk hom hy) h
    · obtain ⟨x, hx, rfl⟩ := List.mem_map.mp hz
      have := idxL_lt asc (kept_row hw hk hom hx) hom (a2 x hx)
      rw [idxL_at nd ho] at this
      exact this
  · have := congrArg List.length e
    simp [Wb.cut, keptL] at this
  · unfold Wb.cut at hs
    obtain ⟨o, ho, rfl⟩ := List.mem_map.mp hs
    have hol : o < w.atoms.length := by have := kept_le hw hk ho; rw [hw.len]; omega
    refine hw.lets _ ?_
    rw [List.getD_eq_getElem?_getD, List.getElem?_eq_getElem hol]
    exact List.getElem_mem hol
end
/-- the places of numbers, as a dict -/
def numD (l m : List Nat) : List (Key × D) := m.map fun (x : Nat) => ((Sum.inl (x : Int) : Key), natD (idxL l x))
theorem numD_keys {l m : List Nat} {x : Nat} : (Sum.inl (x : Int) : Key) ∈ (numD l m).map (·.1) ↔ x ∈ m := by
  unfold numD
  rw [List.map_map, List.mem_map]
  constructor
  · rintro ⟨y, hy, e⟩
    have : (y : Int) = x := by simpa using e
    have : y = x := by omega
    exact this ▸ hy
  · exact fun h => ⟨x, h, rfl⟩
theorem getG_numD {l : List Nat} {x : Nat} : ∀ {m : List Nat}, x ∈ m → getG (numD l m) (Sum.inl (x : Int)) = some (natD (idxL l x))
  | [], h => by cases h
  | y :: m, h => by
    unfold getG numD
    rw [List.map_cons, List.find?_cons]
    by_cases e : y = x
    · subst e
      simp
    · have e2 : ¬ (Sum.inl (y : Int) : Key) = Sum.inl (x : Int) := fun z => e (by
        have : (y : Int) = x := by simpa using z
        omega)
      simp only [e2, decide_false]
      exact getG_numD ((List.mem_cons.mp h).resolve_left fun z => e z.symm)
def Wb.top (w : Wb) (s : Str) (r : List Nat) : Wb := ⟨w.below ++ [r], w.atoms ++ [s]⟩
theorem top_ok {w : Wb} (hw : w.ok) {s : Str} {r : List Nat} (hn : w.below.length < 63) (h1 : r.Pairwise (· < ·)) (h2 : ∀ k ∈ r, k < w.below.length) (h3 : letters s) (h4 : (lets s).Pairwise (· < ·)) : (w.top s r).ok := by
  refine ⟨hw.rows.snoc h1 h2 hn, by simp [Wb.top], by simp [Wb.top, hw.len], fun z hz => ?_⟩
  rcases List.mem_append.mp hz with h | h
  · exact hw.lets z h
  · rw [List.mem_singleton] at h
    exact h ▸ ⟨h3, h4⟩
def Wb.join (w u : Wb) : Wb := ⟨w.below ++ u.below.map fun r => r.map (w.below.length + ·), w.atoms ++ u.atoms⟩
theorem join_ok {w u : Wb} (hw : w.ok) (hu : u.ok) (hn : w.below.length + u.below.length ≤ 63) : (w.join u).ok := by
  refine ⟨⟨fun i r hr => ?_, by simp [Wb.join]; omega⟩, ?_, by simp [Wb.join, hw.len, hu.len], fun z hz => ?_⟩
  · unfold Wb.join at hr
    simp only at hr
    by_cases hi : i < w.below.length
    · rw [List.getElem?_append_left hi] at hr
      exact hw.rows.asc i r hr
    · rw [List.getElem?_append_right (by omega), List.getElem?_map] at hr
      obtain ⟨q, hq, rfl⟩ := Option.map_eq_some_iff.mp hr
      obtain ⟨a1, a2⟩ := hu.rows.asc _ q hq
      refine ⟨?_, fun k hk => ?_⟩
      · rw [List.pairwise_map]
        exact a1.imp fun h => by omega
      · obtain ⟨x, hx, rfl⟩ := List.mem_map.mp hk
        have := a2 x hx
        omega
  · intro e
    exact hw.some_ (List.append_eq_nil_iff.mp e).1
  · rcases List.mem_append.mp hz with h | h
    · exact hw.lets z h
    · exact hu.lets z h
def chainW (ls : List Str) : Wb := ⟨chainR ls.length, ls⟩
theorem chainW_ok {ls : List Str} (hne : ls ≠ []) (hn : ls.length ≤ 63) (h : ∀ s ∈ ls, letters s ∧ (lets s).Pairwise (· < ·)) : (chainW ls).ok :=
  ⟨chainR_ok hn, fun e => hne (by
    have := congrArg List.length e
    simp [chainW, chainR] at this
    exact this), by simp [chainW, chainR], h⟩
theorem canLay_allD : ∀ {l : List PyData}, (∀ d ∈ l, d.canLay0 = true) → PyData.canLayAll0 l = true
  | [], _ => rfl
  | d :: l, h => by
    rw [PyData.canLayAll0, h d List.mem_cons_self, canLay_allD fun x hx => h x (List.mem_cons_of_mem _ hx)]
    rfl
theorem canLay_row (r : List Nat) : (rowP r).canLay0 = true := by
  unfold rowP
  rw [PyData.canLay0]
  exact canLay_allD fun d hd => by
    obtain ⟨k, _, rfl⟩ := List.mem_map.mp hd
    rfl
theorem shaped_rows {rs : List (List Nat)} (h : rowsOk rs) : SeqAt.shaped (.tuple (rs.map rowP)) = true := by
  unfold SeqAt.shaped
  rw [Bool.and_eq_true, decide_eq_true_eq]
  refine ⟨?_, Nat.le_trans (rowsP_ok h).dp (by decide)⟩
  rw [PyData.canLay0]
  exact canLay_allD fun d hd => by
    obtain ⟨r, _, rfl⟩ := List.mem_map.mp hd
    exact canLay_row r
theorem strOk_letters {s : Str} (h : letters s) : PyData.strOk s = true := by
  unfold PyData.strOk
  simp only [Array.all_eq_true, decide_eq_true_eq]
  intro i hi
  have := h s.cps[i] (by simp [lets])
  omega
theorem shaped_atoms {w : Wb} (h : w.ok) : SeqAt.shaped (.tuple (w.atoms.map .str)) = true := by
  unfold SeqAt.shaped
  rw [Bool.and_eq_true, decide_eq_true_eq]
  refine ⟨?_, Nat.le_trans (atomsP_ok h).dp (by decide)⟩
  rw [PyData.canLay0]
  exact canLay_allD fun d hd => by
    obtain ⟨s, hs, rfl⟩ := List.mem_map.mp hd
    rw [PyData.canLay0]
    exact strOk_letters (h.lets s hs).1
theorem eqv_rows {rs : List (List Nat)} (h : rowsOk rs) : PyData.eqv (.tuple (rs.map rowP)) (.tuple (rs.map rowP)) = true := SeqAt.eqv_refl _ (SeqAt.canLay_of_shaped (shaped_rows h))
theorem eqv_atoms {w : Wb} (h : w.ok) : PyData.eqv (.tuple (w.atoms.map .str)) (.tuple (w.atoms.map .str)) = true := SeqAt.eqv_refl _ (SeqAt.canLay_of_shaped (shaped_atoms h))
theorem kept_eq (w : Wb) (k : Nat) : ((bensF w.below).getD k []).map natD ++ [natD k] = (keptL w k).map natD := by
  unfold keptL
  rw [List.map_append]
  rfl
def S_cutW : FS := fun ds W post => ∃ (w : Wb) (k : Nat), ds = [w.d, natD k] ∧ W = [] ∧ w.ok ∧ k < w.below.length ∧ post (w.cut k).d []
def S_topW : FS := fun ds W post => ∃ (w : Wb) (s : Str) (r : List Nat), ds = [w.d, .str s, rowD r] ∧ W = [] ∧ w.below.length < 63 ∧ (w.top s r).ok ∧ post (w.top s r).d []
def S_joinW : FS := fun ds W post => ∃ (w u : Wb), ds = [w.d, u.d] ∧ W = [] ∧ (w.join u).ok ∧ u.below.length ≤ 63 ∧ post (w.join u).d []
def S_eqW : FS := fun ds W post => ∃ w : Wb, ds = [w.d, w.d] ∧ W = [] ∧ w.ok ∧ post (.bl true) []
def S_chainW : FS := fun ds W post => ∃ ls : List Str, ds = [atomsD ls] ∧ W = [] ∧ (chainW ls).ok ∧ post (chainW ls).d []
def S_cut12 : FS := fun ds W post => ∃ (w : Wb) (k : Nat), ds = [pairD w, undD w.below, natD k] ∧ W = [] ∧ w.ok ∧ k < w.below.length ∧ post (.lst [rowsD (w.cut k).below, atomsD (w.cut k).atoms]) []
def S_told12 : FS := fun ds W post => ∃ w : Wb, ds = [w.d] ∧ W = [] ∧ post (.lst [rowsD w.below, atomsD w.atoms]) []
def S_right12 : FS := fun ds W post => ∃ (a : Addr) (c : Int), ds = [.adr a] ∧ DkA a c W ∧ c < 2 ^ 58 ∧ ∀ W', DkA a (c + 100000) W' → post (.bl true) W'
end N
set_option Elab.async false
set_option linter.all false
set_option maxRecDepth 100000
/-! list.index. -/
namespace N
open PySem PySem.Spec PyProof.Rows L2
section
variable {X : Cx} {K : PySem.W.Frag} {o e : Expr} {to : TE} {t : TA} {apos cpos : Pos}
theorem pe_index (ho : PE X o to) (ha : PA X [e] t)
    (hbase : attributeBase o "index" X.env (eval o X.env) = eval o X.env := by rfl)
    (hfew : ((backTo cpos (starEach [e] X.env)).all (fun x => !x.1) && (backToKw cpos (keywordEach [] X.env)).all (fun x => x.1.isSome)
      && decide ([e].length + ([] : List Keyword).length + (if ([] : List Keyword).isEmpty then 0 else 1) < 30)) = true := by rfl)
    (hline : (apos.endLine == cpos.line) = true := by rfl) (hs : starEach [e] X.env = (false, eval e X.env) :: starEach [] X.env := by rfl) (hplain : (backTo cpos (starEach [] X.env)).any (·.1) = false := by rfl) :
    PE X (.Call (.Attribute o "index" apos) [e] [] cpos) (tBM X.K "list" (rIndex X.K) to t) :=
  pe_bm PySem.F.plainAttrs_list PySem.F.slot_list_index PySem.F.type_list_index mt_index ho ha hbase hfew hline hs hplain
theorem pe_indexK (hK : X.K = K) (ho : PE X o to) (ha : PA X [e] t)
    (hbase : attributeBase o "index" X.env (eval o X.env) = eval o X.env := by rfl)
    (hfew : ((backTo cpos (starEach [e] X.env)).all (fun x => !x.1) && (backToKw cpos (keywordEach [] X.env)).all (fun x => x.1.isSome)
      && decide ([e].length + ([] : List Keyword).length + (if ([] : List Keyword).isEmpty then 0 else 1) < 30)) = true := by rfl)
    (hline : (apos.endLine == cpos.line) = true := by rfl) (hs : starEach [e] X.env = (false, eval e X.env) :: starEach [] X.env := by rfl) (hplain : (backTo cpos (starEach [] X.env)).any (·.1) = false := by rfl) :
    PE X (.Call (.Attribute o "index" apos) [e] [] cpos) (tBM K "list" (rIndex K) to t) :=
  hK ▸ pe_index ho ha hbase hfew hline hs hplain
end
theorem idxL_get : ∀ {l : List Nat} {x : Nat}, x ∈ l → l[idxL l x]? = some x
  | [], _, h => by cases h
  | a :: l, x, h => by
    unfold idxL
    split
    · next e => rw [e]; rfl
    · next e =>
      rw [List.getElem?_cons_succ]
      exact idxL_get ((List.mem_cons.mp h).resolve_left fun z => e z.symm)
theorem idxL_first : ∀ {l : List Nat} {x m : Nat}, m < idxL l x → l[m]? ≠ some x
  | [], _, m, h => by simp
  | a :: l, x, m, h => by
    unfold idxL at h
    split at h
    · cases h
    · next e =>
      cases m with
      | zero => exact fun z => e (Option.some.inj z)
      | succ m => exact idxL_first (l := l) (by omega)
section
variable {F : FmKit} {T : Kx} {C H H' O O' : Hp} {G : Gm} {W W' : Om} {R : D → Om → Prop} {to : TE} {tr : TA}
theorem nat_vals {H : Hp} {l : List Nat} {xs : List V} (k : DenL F T H (l.map natD) xs) : xs = l.map fun n : Nat => V.int n := by
  rw [show l.map natD = (l.map fun n : Nat => V.int n).map D.vl by rw [List.map_map]; rfl] at k
  exact DenL.vls_inv k
theorem ev_index (h : Ev F T to G W fun d W1 => ∃ l : List Nat, d = .lst (l.map natD) ∧ EvA F T tr G W1 fun ds W2 => ∃ x : Nat, ds = [natD x] ∧ x ∈ l ∧ R (natD (idxL l x)) W2) : Ev F T (tBM T.K "list" (rIndex T.K) to tr) G W R :=
  ev_bm (h.imp fun d W1 ⟨l, e, ha⟩ => by
    subst e
    refine ⟨fun C H O di oc ow x kx => ?_, fun C H O σ w Q q => ha C H O σ w Q fun ds W' H' O' vs ⟨y, e, hy, r⟩ n k => q ds W' H' O' vs ?_ n k⟩
    · obtain ⟨a, xs, e, hs, _⟩ := (show Vl _ (D.lst (l.map natD)) (l.map natD) from .inl (.inl rfl)).sq ow di kx
      subst e
      exact .inl ⟨rfl, xs, hs⟩
    · subst e
      intro C H O di oc ow x vs kx kv Q q
      obtain ⟨a, xs, e, hs, kl⟩ := (show Vl _ (D.lst (l.map natD)) (l.map natD) from .inl (.inl rfl)).sq ow di kx
      subst e
      obtain ⟨v, r', ev, k1, er⟩ := kv
      have er : r' = [] := er
      have k1 : v = .int (y : Nat) := k1
      subst er ev k1
      have ex := nat_vals kl
      subst ex
      refine ⟨a, _, .int (y : Nat), idxL l y, .int (y : Nat), rfl, rfl, hs, rfl, by simp [flatV], by rw [List.getElem?_map, idxL_get hy]; rfl, by simp [eqV], fun m z' hm hz => ?_, q _ _ _ _ _ r (Nx.refl di oc ow) rfl⟩
      rw [List.getElem?_map] at hz
      obtain ⟨n, hn, rfl⟩ := Option.map_eq_some_iff.mp hz
      have : n ≠ y := fun e => idxL_first hm (e ▸ hn)
      simp [eqV]
      omega)
end
theorem webP_ok {w : Wb} (h : w.ok) : Ok1 3 45000 (webP w) :=
  ((okL_cons (rowsP_ok h.rows) (okL_cons ((atomsP_ok h).up (by decide) (Nat.le_refl _)) (okL_nil (n := 0)))).lst).up (by decide) (by decide)
def two12 (w u : Wb) : PyData := .list [webP w, webP u]
theorem two12_pd (w u : Wb) : (D.lst [.lst [rowsD w.below, atomsD w.atoms], .lst [rowsD u.below, atomsD u.atoms]]).pd = some (two12 w u) := pd_lst (pdL_cons (web_pd w) (pdL_cons (web_pd u) rfl))
theorem two12_shw {w u : Wb} (h : w.ok) (h2 : u.ok) : Shw (two12 w u) := ((okL_cons (webP_ok h) (okL_cons (webP_ok h2) (okL_nil (n := 0)))).lst).shwB (by decide) (by decide)
def three12 (w u v : Wb) : PyData := .list [webP w, webP u, webP v]
theorem three12_pd (w u v : Wb) : (D.lst [.lst [rowsD w.below, atomsD w.atoms], .lst [rowsD u.below, atomsD u.atoms], .lst [rowsD v.below, atomsD v.atoms]]).pd = some (three12 w u v) := pd_lst (pdL_cons (web_pd w) (pdL_cons (web_pd u) (pdL_cons (web_pd v) rfl)))
theorem three12_shw {w u v : Wb} (h : w.ok) (h2 : u.ok) (h3 : v.ok) : Shw (three12 w u v) := ((okL_cons (webP_ok h) (okL_cons (webP_ok h2) (okL_cons (webP_ok h3) (okL_nil (n := 0))))).lst).shwB (by decide) (by decide)
theorem signs12 : ∀ z ∈ [D.vl (.str ""), D.vl (.str "a"), D.vl (.str "Pab"), D.vl (.str "z")], ∃ s : Str, z = .str s ∧ letters s ∧ (lets s).Pairwise (· < ·) := fun z hz => by
  simp only [List.mem_cons, List.not_mem_nil, or_false] at hz
  rcases hz with e | e | e | e
  · exact ⟨_, e, by unfold letters; decide +kernel, by decide +kernel⟩
  · exact ⟨_, e, by unfold letters; decide +kernel, by decide +kernel⟩
  · exact ⟨_, e, by unfold letters; decide +kernel, by decide +kernel⟩
  · exact ⟨_, e, by unfold letters; decide +kernel, by decide +kernel⟩
theorem row12 : ∀ z ∈ [D.vl (.str ""), D.vl (.str "a"), D.vl (.str "ab"), D.vl (.str "Pz")], ∃ s : Str, z = .str s ∧ letters s ∧ (lets s).Pairwise (· < ·) := fun z hz => by
  simp only [List.mem_cons, List.not_mem_nil, or_false] at hz
  rcases hz with e | e | e | e
  · exact ⟨_, e, by unfold letters; decide +kernel, by decide +kernel⟩
  · exact ⟨_, e, by unfold letters; decide +kernel, by decide +kernel⟩
  · exact ⟨_, e, by unfold letters; decide +kernel, by decide +kernel⟩
  · exact ⟨_, e, by unfold letters; decide +kernel, by decide +kernel⟩
theorem zip12 {w u : Wb} {i : Nat} {d : D} (h : (pairs2 [pairD w, pairD u] [w.d, u.d])[i]? = some d) : ∃ v : Wb, (v = w ∨ v = u) ∧ d = .tup [pairD v, v.d] := by
  match i, h with
  | 0, h => exact ⟨w, .inl rfl, (Option.some.inj h).symm⟩
  | 1, h => exact ⟨u, .inr rfl, (Option.some.inj h).symm⟩
  | n + 2, h => cases h
end N
set_option Elab.async false
set_option linter.all false
set_option maxRecDepth 100000
set_option maxHeartbeats 1000000
/-! enumerate(.., start=k); class methods; a class called by a local name; str.split, int(text). -/
namespace N
open PySem PySem.Spec PyProof.Rows L2
open C8 (Cal Met Mak InsC pe_c pe_mt pe_mt0 pe_mk)
def iEnumS (K : PySem.W.Frag) (ta tk : TA) : TI := fun σ H R => ta σ H fun vs H1 => tk σ H1 fun zs H2 => ∃ (k : Kd) (xs : List V) (c : Nat), zs = [.int (c : Nat)] ∧ c < 1000 ∧ vs = [k.v] ∧ k.src K H2 xs ∧ R (IteK K k (c : Nat)) H2
theorem pi_enumS {X : Cx} {e : Expr} {ta tk : TA} {p pos tpos : Pos} {elts : List Expr} {kk : Nat} {kws : List Keyword} (hg : Gl X "enumerate") (hm : X.mg "enumerate" = none) (ha : PA X [e] ta) (hk : PK X kws tk)
    (hall : (backToKw pos (keywordEach kws X.env)).all (·.1.isSome) = true := by rfl) (hks : (backToKw pos (keywordEach kws X.env)).filterMap (·.1) = [Str.ofString "start"] := by rfl)
    (hs : starEach [e] X.env = (false, eval e X.env) :: starEach [] X.env := by rfl)
    (hpl : ((backTo pos (starEach [e] X.env)).any (·.1) || (backToKw pos (keywordEach kws X.env)).any (·.1.isNone)) = false := by rfl) :
    PI X (.Tuple elts kk tpos) (.Call (.Name "enumerate" p) [e] kws pos) (iEnumS X.K ta tk) := by
  refine ⟨fun pins s σ H R I h => ?_⟩
  refine wpAny_Call_Name_kw (ld_blt I hg hm boot_enumerate ?_)
  refine PySem.W.callWith_of (P := fun _ => True) hpl (fun h _ => ⟨Keeper.machine, .inr (.inl rfl), .of_pure rfl⟩) ?_
  refine evalArgs_kw2 hall (thn (ha.run pos pins s σ H _ I h) fun us s1 ⟨vs, H1, I1, r1, q1⟩ => thn (hk.run pos pins s1 σ H1 _ I1 q1) fun ws s2 ⟨zs, H2, I2, r2, q2⟩ => ⟨trivial, ?_⟩) hs
  obtain ⟨k, xs, c, ez, hc, ex, hx, q⟩ := q2
  subst ez ex
  rw [hks]
  obtain ⟨w, rfl, rw'⟩ := vals1 r2
  obtain ⟨tw, rfl⟩ := rw'
  cases r1 with
  | cons r rr =>
    cases rr
    obtain ⟨l1, t1, o1, G1, B1, g1, z1⟩ := Kd.begins I2 hx r
    refine enum_begins_start B1 g1 (by omega) (by omega) fun h' he e1 _ kp => wpAny_pyIter_enum he ?_
    have I3 : Inv X pins σ H2 { s2 with heap := h' } := I2.kept (t' := s2.toks) kp
    refine ⟨_, _, _, _, H2, rfl, I3, turn_enumK (b := s2.heap.objs.size) (c := (c : Nat)) (u1 := t1) l1, ⟨⟨.none, he⟩, z1 _ _ e1⟩, fun d hd => ?_, q⟩
    have le : s2.heap.objs.size ≤ d := by
      simp only [List.mem_cons, List.not_mem_nil, or_false] at hd
      rcases hd with rfl | rfl
      · exact Nat.le_add_right _ _
      · exact Nat.le_refl _
    exact I2.fpOk le (I2.hok.fresh le)
section
variable {F : FmKit} {T : Kx} {C H H' O O' : Hp} {G : Gm} {W W' : Om} {R : D → Om → Prop} {l : List D} {ta tk : TA} {te to : TE}
theorem ei_enumS {Y : List D → Om → Prop} (h : EvA F T ta G W fun ds W1 => EvA F T tk G W1 fun es W2 => ∃ d l c, ds = [d] ∧ es = [.int ((c : Nat) : Int)] ∧ c < 1000 ∧ Zs d l ∧ Y (pairsD c l) W2) : EvI F T (iEnumS T.K ta tk) G W Y := fun C H O σ w Q q =>
  h C H O σ w _ fun ds W1 H1 O1 us h1 n k => h1 C H1 O1 σ (w.step n) _ fun es W2 H2 O2 ws ⟨d, l, c, ed, ee, hc, z1, y⟩ n2 k2 => by
    subst ed ee
    obtain ⟨x, r, e1, k1, e2⟩ := k
    have e2 : r = [] := e2
    subst e2 e1
    obtain ⟨x2, r2, e1, k3, e2⟩ := k2
    have e2 : r2 = [] := e2
    have k3 : x2 = .int (c : Nat) := k3
    subst e2 e1 k3
    obtain ⟨kd1, xs, ex, a1, s1⟩ := z1.kd (k1.mono n2.ext)
    subst ex
    exact ⟨kd1, xs, c, rfl, hc, rfl, s1 _ _ (.refl _) n2.dis, q _ _ W2 H2 O2 y (n.trans n2) (wk_enum (c := c) a1 s1)⟩
end
/-! ### class methods -/
structure CmK (P : Program) (w : World) (K : PySem.W.Frag) (mg : Str → Option Value) (base : Heap) (k : Nat) (C : Addr) (m : Str) (ks : List Str) (gV : List V → List V → List V) (sp : Sp) : Prop where
  ex : ∃ (mc : Value) (p f : Addr) (fd : FuncData) (ps : List Str) (g : List Value → List Value → List Value), ClX.CRead K C mc ∧ ClX.CMet K C mc m p f ∧ FnOk P w K mg base CX0 k f fd ps sp ∧ Binds K fd ps [] ∧ KBn K fd ps 1 ks g gV
def tCmKw (C : Addr) (n : Nat) (sp : Sp) (gV : List V → List V → List V) (ta : TE) (tk : TA) : TE := fun σ H Q => ta σ H fun x H1 => x = .ref C ∧ tk σ H1 fun zs H2 => zs.length = n ∧ sp (gV [.ref C] zs) H2 Q E0
section
variable {X : Cx} {k j : Nat} {x m : Str} {C : Addr} {sp : Sp} {e o : Expr} {es : List Expr} {t ta : TA} {te : TE} {p pos apos : Pos} {ks : List Str} {gV : List V → List V → List V} {kws : List Keyword} {tk : TA}
theorem pe_cm {pl : Sem Bool} (c : CmK X.prog X.w X.K X.mg X.base k C m ks gV sp) (hr : Room j X.A) (hk : k ≤ j) (he : PE X o te) (ha : PA X (e :: es) t)
    (hst : starEach (e :: es) X.env = (false, eval e X.env) :: starEach es X.env := by rfl) (hpl : (backTo pos (starEach es X.env)).any (·.1) = false := by rfl)
    (ht : eval (.Call (.Attribute o m apos) (e :: es) [] pos) X.env = (do
      let ov ← eval o X.env
      standAt apos.atName
      let (f, first) ← holding [ov] (getMethod ov m pl)
      callWith pos f first (backTo pos (starEach (e :: es) X.env)) (backToKw pos (keywordEach [] X.env))) := by rfl) :
    PE X (.Call (.Attribute o m apos) (e :: es) [] pos) (ClX.tCMeth C sp E0 te t) := by
  obtain ⟨mc, p, f, fd, ps, g, r, cm, F, hb, _⟩ := c.ex
  have Fr : FnR X.prog X.w X.K X.mg X.base CX0 k f sp := by
    have := F.raw hb .nil
    simp only [List.append_nil] at this
    exact this
  exact ClX.pe_cmeth he r cm Fr (hr.mono hk) pass0 ha hst hpl ht
theorem pe_cmk {pl : Sem Bool} (c : CmK X.prog X.w X.K X.mg X.base k C m ks gV sp) (hr : Room j X.A) (hk : k ≤ j) (he : PE X o te) (hkw : PK X kws tk)
    (hall : (backToKw pos (keywordEach kws X.env)).all (·.1.isSome) = true := by rfl) (hks : (backToKw pos (keywordEach kws X.env)).filterMap (·.1) = ks := by rfl)
    (hpl : ((backTo pos (starEach [] X.env)).any (·.1) || (backToKw pos (keywordEach kws X.env)).any (·.1.isNone)) = false := by rfl)
    (ht : eval (.Call (.Attribute o m apos) [] kws pos) X.env = (do
      let ov ← eval o X.env
      standAt apos.atName
      let (f, first) ← holding [ov] (getMethod ov m pl)
      callWith pos f first (backTo pos (starEach [] X.env)) (backToKw pos (keywordEach kws X.env))) := by rfl) :
    PE X (.Call (.Attribute o m apos) [] kws pos) (tCmKw C ks.length sp gV te tk) := by
  obtain ⟨mc, p, f, fd, ps, g, r, cm, F, _, hb⟩ := c.ex
  refine ⟨fun pins s σ H Q I h => ?_⟩
  refine PySem.W.methodCall_KW (pl := pl) (thn (he.run pins s σ H _ I h) fun u s1 ⟨x, H1, I1, rx, ex, q⟩ => ?_) ht
  subst ex
  obtain rfl : u = Value.ref C := rx
  refine ClX.getmethcm_ok I1 r cm fun s2 I2 => ?_
  have hz : ∀ s3 (I3 : Inv X ((s1.heap.objs.size, PySem.W.methodObj (.ref f) (.ref C)) :: pins) σ H1 s3), PySem.W.MethP X.K s1.heap.objs.size f (.ref C) s3.heap := fun s3 I3 => ⟨ClX.pin_at I3, I3.kIn⟩
  refine PySem.W.callWith_of (P := PySem.W.MethP X.K s1.heap.objs.size f (.ref C)) hpl (PySem.W.keeps_M cm.fi) (evalArgs_kw2_nil hall ?_)
  refine thn (hkw.run pos _ s2 σ H1 _ I2 q) fun ws s3 ⟨zs, H2, I3, rz, l2, q2⟩ => ⟨⟨ClX.pin_at I3, I3.kIn⟩, ?_⟩
  rw [hks]
  have z : wpAny (model X.prog X.w) X.A (call (.ref s1.heap.objs.size) [] (ks.zip ws)) (EP X ((s1.heap.objs.size, PySem.W.methodObj (.ref f) (.ref C)) :: pins) σ Q) X.xe s3 := by
    refine wpAny_call (PySem.W.method_call (ClX.pin_at I3) ?_)
    have r2 := hb.rel (us := [Value.ref C]) (vs := [V.ref C]) (.cons rfl .nil) rz
    refine codeAny_mono (F.run X.A X.stack s3 H2 ⟨[.ref C], ks.zip ws⟩ (g [.ref C] ws) (gV [.ref C] zs) Q E0 (hr.mono hk) I3.env0 (hb.to s3 [.ref C] ws I3.kIn rfl (rz.length.symm.trans l2)) r2 q2) fun r s' hq => ?_
    cases r with
    | error e => exact pass0 _ σ H2 s3 e s' I3 hq
    | ok fl =>
      cases fl with
      | ret u => exact I3.after hq
      | next => exact False.elim hq
      | brk => exact False.elim hq
      | cont => exact False.elim hq
  exact thn z fun _ _ y => ClX.unpinE y
/-- C(..), C in the i-th slot -/
def tMakeL (i : Nat) (C : Addr) (sp : Sp) (dvs : List V) (E : XK) (t : TA) : TE := fun σ H Q => σ[i]? = some (some (.ref C)) ∧ tMake C sp dvs E t σ H Q
theorem pe_mkL {i : Nat} {y : Str} {dvs : List V} (c : Mak X.prog X.w X.K X.mg X.base k y C sp dvs) (hr : Room j X.A) (hk : k + 1 ≤ j) (hN : X.N[i]? = some x) (hv : Vis X.env.scope x) (ha : PA X (e :: es) t)
    (hdb : (x == ("__debug__" : Str)) = false := by decide) (hcd : (x == ("__classdict__" : Str)) = false := by decide)
    (he : starEach (e :: es) X.env = (false, eval e X.env) :: starEach es X.env := by rfl) (hpl : (backTo pos (starEach es X.env)).any (·.1) = false := by rfl) : PE X (.Call (.Name x p) (e :: es) [] pos) (tMakeL i C sp dvs E0 t) := by
  obtain ⟨f, fd, ps, ds, M, F, hm, b, d⟩ := c.ex
  refine ⟨fun pins s σ H Q I h => ?_⟩
  obtain ⟨hs, ht⟩ := h
  refine wpAny_Call_Name_kw (thn ((pe_var (pos := p) hN hv hdb hcd).run pins s σ H (fun v H1 => v = .ref C ∧ H1 = H) I ⟨.ref C, hs, rfl, rfl⟩) fun u s1 ⟨v, H1, I1, r1, q1⟩ => ?_)
  obtain ⟨rfl, rfl⟩ := q1
  cases r1
  refine PySem.W.callWith_K (h₀ := X.base) I.ok.mod.kin M.kp (thn (ha.run pos pins s1 σ _ _ I1 ht) fun us s2 ⟨vs, H2, I2, r, q⟩ => ⟨I2.kIn, ?_⟩) he hpl
  exact L2.run_make M F (hr.mono hk) b d pass0 I2 r q
end
section
variable {F : FmKit} {T : Kx} {C H H' O O' : Hp} {G : Gm} {W W' : Om} {R : D → Om → Prop} {σ : L2.St} {d e : D} {l m : List D} {te ta tb to : TE} {t : TT} {tr tk : TA} {S : FS}
theorem ev_cm {c : Nat} (h : Ev F T te G W fun d W1 => d = .adr (T.cl c) ∧ EvA F T tr G W1 fun ds W2 => Hand S (.adr (T.cl c) :: ds) W2 R) : Ev F T (ClX.tCMeth (T.cl c) (spN F T S) E0 te tr) G W R := fun C H O σ w Q q =>
  h C H O σ w _ fun d W1 H1 O1 x ⟨ed, ha⟩ n1 k1 => by
    subst ed
    exact ⟨k1, ha C H1 O1 σ (w.step n1) _ fun ds W2 H2 O2 vs hh n2 k2 => hh.run n2.dis n2.oc n2.own ⟨_, _, rfl, rfl, k2⟩ fun d W' H' O' v r n3 kd => q d W' H' O' v r ((n1.trans n2).trans n3) kd⟩
theorem ev_cmk {c n : Nat} {gV : List V → List V → List V} (h : Ev F T te G W fun d W1 => d = .adr (T.cl c) ∧ EvA F T tk G W1 fun ds W2 => ds.length = n ∧ ∃ as, (∀ H x zs, Den F T H d x → DenL F T H ds zs → DenL F T H as (gV [x] zs)) ∧ Hand S as W2 R) : Ev F T (tCmKw (T.cl c) n (spN F T S) gV te tk) G W R := fun C H O σ w Q q =>
  h C H O σ w _ fun d W1 H1 O1 x ⟨ed, ha⟩ n1 k1 => by
    subst ed
    refine ⟨k1, ha C H1 O1 σ (w.step n1) _ fun ds W2 H2 O2 vs ⟨hl, as, hg, hh⟩ n2 k2 => ⟨by rw [k2.len]; exact hl, ?_⟩⟩
    exact hh.run n2.dis n2.oc n2.own (hg H2 _ vs rfl k2) fun d W' H' O' v r n3 kd => q d W' H' O' v r ((n1.trans n2).trans n3) kd
theorem ev_mkL {i c : Nat} {dvs : List V} (hi : G[i]? = some (some (.adr (T.cl c)))) (h : Ev F T (tMake (T.cl c) (spN F T S) dvs E0 tr) G W R) : Ev F T (tMakeL i (T.cl c) (spN F T S) dvs E0 tr) G W R := fun C H O σ w Q q => by
  obtain ⟨v, hv, kv⟩ := w.loc.at_ i _ hi
  have kv : v = .ref (T.cl c) := kv
  subst kv
  exact ⟨hv, h C H O σ w Q q⟩
/-- x.split(sep) -/
theorem ev_split (h : Ev F T to G W fun d W1 => ∃ a : Str, d = .str a ∧ Ev F T te G W1 fun d2 W2 => ∃ b : Str, d2 = .str b ∧ (b.length == 0) = false ∧ a.length + 2 ≤ sizeLine ∧ R (.lst ((Txt.split a b).map .str)) W2) :
    Ev F T (tM1 (fun x xs H Q => ∃ a b, x = .str a ∧ xs = [.str b] ∧ (b.length == 0) = false ∧ a.length + 2 ≤ sizeLine ∧ rNewStrs (Txt.split a b) H Q) to te) G W R := fun C H O σ w Q q =>
  h C H O σ w _ fun d W1 H1 O1 x ⟨a, ea, h1⟩ n1 k1 => by
    subst ea
    have k1 : x = .str a := k1
    refine ⟨⟨a, k1⟩, h1 C H1 O1 σ (w.step n1) _ fun d2 W2 H2 O2 y ⟨b, eb, hb, hl, r⟩ n2 k2 => ?_⟩
    subst eb
    have k2 : y = .str b := k2
    refine ⟨a, b, k1, by rw [k2], hb, hl, fun p hp => ?_⟩
    obtain ⟨n3, e3, s3⟩ := ((w.step n1).step n2).nx.newF (o := .lst ((Txt.split a b).map V.str)) hp
    rw [e3]
    exact q _ W2 _ _ _ r ((n1.trans n2).trans n3) ⟨p, (Txt.split a b).map V.str, rfl, upd_same, den_strs _⟩
theorem ca_intS {s : Str} {n : Int} (hn : PySem.intText? s = some n) (hl : s.length ≤ 640) (r : R (.int n) W) : Ca F T (fun xs H Q => ∃ a n, xs = [.str a] ∧ PySem.intText? a = some n ∧ a.length ≤ 640 ∧ Q (.int n) H) [.str s] W R := cl_sc (xs := [.str s]) fun H Q k => ⟨s, n, rfl, hn, hl, k _ r⟩
end
section
variable {P : Program} {w : World} {K : PySem.W.Frag} {mg : Str → Option Value} {base : Heap} {F : FmKit} {cl : Nat → Addr} {S : FS}
/-- a class method, called by places and by names -/
theorem cmD {m qual : Str} {C p : Addr} {mc : Value} {st : Stmt} {f : Addr} {fd : FuncData} {N ps ks : List Str} {g : List Value → List Value → List Value} {gV : List V → List V → List V} {k : Nat} (cr : ClX.CRead K C mc) (cm : ClX.CMet K C mc m p f) (Fn : Fun K m qual st f fd) (Sc : FnScope N ps (defScope st)) (len : ∀ ds W post, S ds W post → ds.length = ps.length)
    (hb : ∀ (kV doc pm : Value) (an : Option Addr) (cdv ct : Value) (us : List Value), us.length = ps.length → bindArgs (PySem.W.fnOf m qual (defArgs st) (defBody st) (defScope st) .none kV doc pm an cdv ct) ⟨us, []⟩ = pure (ps.zip us))
    (kb : KBn K fd ps 1 ks g gV)
    (body : ∀ (cdv : Value) (A : Around) (outer : List Env) (s : Shared) (H : Hp) (E : XK), Room k (A.deeper (envOfC qual (defScope st) s.heap.objs.size f cdv)) →
      ∃ t, PSs (cxOf CX0 P w K mg base N qual (defScope st) f cdv A outer s H E).nox (defBody st) t ∧ ∀ ds W post, S ds W post → Sw F ⟨K, cl⟩ t (startD N ds) W (E_ post)) :
    CmK P w K mg base (k + 1) C m ks gV (spN F ⟨K, cl⟩ S) :=
  ⟨mc, p, f, fd, ps, g, cr, cm, okD Fn Sc len body, Fn.binds hb, kb⟩
end
end N
set_option Elab.async false
set_option linter.all false
set_option maxRecDepth 100000
set_option maxHeartbeats 1000000
/-! The reading of formulas, plainly: what stands behind a place, the things that are begun. -/
namespace N
open PySem PySem.Spec PyProof.Rows L2
open C8 (Cal Met Mak InsC pe_c pe_mt pe_mt0 pe_mk)
/-! ### == of a text or a list, and a text -/
def rEqLS : R2 := fun x y H Q => (scal x y = true ∧ Q (.bl (decide (x = y))) H) ∨ ∃ a xs s, x = .ref a ∧ H a = some (.lst xs) ∧ y = .str s ∧ Q (.bl false) H
theorem op_eqLS {X : Cx} (hu : X.A.units + 64 < cLine) : OpR X (compareOp .Eq) rEqLS := by
  intro pins s σ H x y v u Q I rx ry h
  rcases h with ⟨h1, h2⟩ | ⟨a, xs, t, rfl, ha, rfl, q⟩
  · exact op_eq pins s σ H x y v u Q I rx ry ⟨h1, h2⟩
  · obtain rfl : v = .ref a := rx
    obtain ⟨tk, rfl⟩ := ry
    obtain ⟨its, r, ⟨o1, n1, ho1, hc1, _, hd1⟩, _⟩ := I.list (SqL.of ha)
    show wpAny _ _ (richCompare .Eq _ _) _ _ _
    exact SeqAt.RcAt.list_str t tk ⟨o1, ho1, hc1, n1, hd1⟩ (by omega) _ _ _ _ ⟨.bl false, H, I, rfl, q⟩
section
variable {F : FmKit} {T : Kx} {W : Om} {R : D → Om → Prop} {d : D} {l : List D}
theorem bo_eqLSs {a b : Str} (r : R (.bl (decide (a = b))) W) : Bo F T rEqLS (.str a) (.str b) W R := op_sc fun H Q k => .inl ⟨rfl, by rw [dec_str]; exact k _ r⟩
theorem bo_eqLSl {s : Str} (hv : Vt W d l) (r : R (.bl false) W) : Bo F T rEqLS d (.str s) W R := fun C H O di oc ow x y hx hy Q q => by
  obtain ⟨a, xs, e, ha, kl⟩ := hv.at ow di hx
  have hy : y = .str s := hy
  exact .inr ⟨a, xs, s, e, ha, hy, q _ W H O _ r (.refl di oc ow) rfl⟩
end
/-! ### texts as lists of signs -/
abbrev tx (f : Fm) : List Nat := lets f.spell
theorem tx_imp (a b : Fm) : tx (.imp a b) = 40 :: (tx a ++ (32 :: 62 :: 32 :: (tx b ++ [41]))) := by
  show lets ((("(" ++ a.spell ++ " > " ++ b.spell ++ ")" : Str))) = _
  simp only [lets, TL.tl_append]
  show (([40] ++ tx a) ++ [32, 62, 32] ++ tx b) ++ [41] = _
  simp
theorem tx_all (a : Fm) : tx (.all a) = 97 :: 108 :: 108 :: 32 :: tx a := by
  show lets ("all " ++ a.spell) = _
  simp only [lets, TL.tl_append]
  rfl
theorem tx_no : tx .no = [110, 111] := rfl
theorem tx_at (c : Nat) : tx (.at c) = [c] := rfl
inductive ItP where
  | al | l (b : Fm) | r (a : Fm)
def restT : List ItP → List Nat
  | [] => []
  | .al :: K => restT K
  | .l b :: K => 32 :: 62 :: 32 :: (tx b ++ (41 :: restT K))
  | .r _ :: K => 41 :: restT K
def plug : List ItP → Fm → Fm
  | [], g => g
  | .al :: K, g => plug K (.all g)
  | .l b :: K, g => plug K (.imp g b)
  | .r a :: K, g => plug K (.imp a g)
theorem rest_hd : ∀ K : List ItP, restT K = [] ∨ (∃ r, restT K = 32 :: 62 :: r) ∨ ∃ r, restT K = 41 :: r
  | [] => .inl rfl
  | .al :: K => rest_hd K
  | .l b :: K => .inr (.inl ⟨_, rfl⟩)
  | .r _ :: K => .inr (.inr ⟨_, rfl⟩)
def wt : Fm → Nat
  | .at _ => 1
  | .no => 1
  | .imp a b => 3 + wt a + wt b
  | .all a => 2 + wt a
def wk : List ItP → Nat
  | [] => 0
  | .al :: K => 1 + wk K
  | .l b :: K => 2 + wt b + wk K
  | .r _ :: K => 1 + wk K
theorem plug_okF : ∀ {K : List ItP} {g : Fm}, (plug K g).okF → g.okF
  | [], _, h => h
  | .al :: K, g, h => (plug_okF (K := K) (g := .all g) h).a
  | .l b :: K, g, h => (plug_okF (K := K) (g := .imp g b) h).l
  | .r a :: K, g, h => (plug_okF (K := K) (g := .imp a g) h).r
theorem plug_len : ∀ {K : List ItP} {g : Fm}, K.length + g.sz ≤ (plug K g).sz
  | [], g => by simp [plug]
  | .al :: K, g => by
    have := plug_len (K := K) (g := .all g)
    have e : (Fm.all g).sz = 4 + g.sz := rfl
    show (K.length + 1) + g.sz ≤ (plug K (.all g)).sz
    omega
  | .l b :: K, g => by
    have := plug_len (K := K) (g := .imp g b)
    have e : (Fm.imp g b).sz = 5 + g.sz + b.sz := rfl
    show (K.length + 1) + g.sz ≤ (plug K (.imp g b)).sz
    omega
  | .r a :: K, g => by
    have := plug_len (K := K) (g := .imp a g)
    have e : (Fm.imp a g).sz = 5 + a.sz + g.sz := rfl
    show (K.length + 1) + g.sz ≤ (plug K (.imp a g)).sz
    omega
/-- how far two rows of signs go together -/
def lcp : List Nat → List Nat → Nat
  | a :: x, b :: y => if a = b then lcp x y + 1 else 0
  | _, _ => 0
theorem lcp_le : ∀ (x y : List Nat), lcp x y ≤ x.length
  | [], y => by cases y <;> simp [lcp]
  | a :: x, [] => by simp [lcp]
  | a :: x, b :: y => by
    have := lcp_le x y
    unfold lcp
    split
    · rw [List.length_cons]; omega
    · omega
theorem lcp_app : ∀ (x y : List Nat), lcp x (x ++ y) = x.length
  | [], y => by cases y <;> rfl
  | a :: x, y => by
    show (if a = a then lcp x (x ++ y) + 1 else 0) = _
    rw [if_pos rfl, lcp_app x y]
    rfl
theorem lcp_before : ∀ (x y : List Nat) (n : Nat), n < lcp x y → ∃ c, x[n]? = some c ∧ y[n]? = some c
  | [], y, n, h => by cases y <;> simp [lcp] at h
  | a :: x, [], n, h => by simp [lcp] at h
  | a :: x, b :: y, n, h => by
    unfold lcp at h
    split at h
    · next e =>
      subst e
      cases n with
      | zero => exact ⟨a, rfl, rfl⟩
      | succ n => exact lcp_before x y n (by omega)
    · omega
theorem lcp_end : ∀ (x y : List Nat), lcp x y < x.length → y[lcp x y]? ≠ x[lcp x y]?
  | [], y, h => by simp at h
  | a :: x, [], h => by simp [lcp]
  | a :: x, b :: y, h => by
    unfold lcp at h ⊢
    split at h
    · next e =>
      rw [if_pos e]
      exact lcp_end x y (by rw [List.length_cons] at h; omega)
    · next e =>
      rw [if_neg e]
      simp
      exact fun q => e q.symm
theorem lcp_atom {c : Nat} (K : List ItP) : lcp [97, 108, 108, 32] (c :: restT K) ≤ 1 := by
  unfold lcp
  split
  · rcases rest_hd K with h | ⟨r, h⟩ | ⟨r, h⟩ <;> rw [h] <;> simp [lcp]
  · omega
theorem take_atom {c : Nat} (K : List ItP) : (c :: restT K).take 2 ≠ [110, 111] := by
  rcases rest_hd K with h | ⟨r, h⟩ | ⟨r, h⟩ <;> rw [h] <;> simp
/-- so many signs from a place -/
def subT (s : Str) (a n : Nat) : Str := ⟨(((lets s).drop a).take n).toArray⟩
theorem cutS_sub (s : Str) (a b n : Nat) (h : b = a + n) (ha : a ≤ s.length) : cutS s (some (a : Nat)) (some (b : Nat)) = subT s a n := by
  unfold cutS subT
  rw [HT.sIx_nat, HT.sIx_nat]
  have e : s.length = (lets s).length := str_len s
  congr 2
  subst h
  rw [e] at ha ⊢
  rw [Nat.min_eq_left ha]
  rcases Nat.le_total (a + n) (lets s).length with h | h
  · rw [Nat.min_eq_left h]
    congr 1
    omega
  · have e2 : ((lets s).drop a).length = (lets s).length - a := List.length_drop
    rw [Nat.min_eq_right h, List.take_of_length_le (Nat.le_of_eq e2), List.take_of_length_le (by rw [e2]; omega)]
theorem sub_cons {s : Str} {a c : Nat} {r : List Nat} (h : (lets s).drop a = c :: r) : subT s a 1 = sg c := by
  unfold subT
  rw [h]
  rfl
theorem drop_lt {s : Str} {a c : Nat} {r : List Nat} (h : (lets s).drop a = c :: r) : a < s.length := by
  rw [show s.length = (lets s).length from str_len s]
  rcases Nat.lt_or_ge a (lets s).length with h2 | h2
  · exact h2
  · rw [List.drop_eq_nil_of_le h2] at h
    cases h
theorem at_drop {s : Str} {a n c : Nat} {r : List Nat} (h : (lets s).drop a = r) (h2 : r[n]? = some c) : atI (lets s) (((a + n : Nat)) : Int) = some c ∧ a + n < s.length := by
  rw [← h, List.getElem?_drop] at h2
  have h3 := (List.getElem?_eq_some_iff.mp h2).1
  rw [show s.length = (lets s).length from str_len s]
  refine ⟨?_, h3⟩
  unfold atI ixN
  rw [if_pos (by omega), if_pos (by omega)]
  rw [Int.toNat_natCast]
  exact h2
/-! ### the stack -/
abbrev KA := List (ItP × Addr)
def itD : ItP × Addr → D
  | (.al, _) => .str "all"
  | (.l _, q) => .adr q
  | (.r _, q) => .adr q
def cellsK : KA → Om
  | [] => []
  | (.al, _) :: K => cellsK K
  | (.l _, q) :: K => (q, .lst []) :: cellsK K
  | (.r a, q) :: K => (q, .lst [.fm a]) :: cellsK K
def stk (K : KA) : List D := (K.map itD).reverse
def begP (p : Addr) (a : Nat) (L : List D) (post : D → Om → Prop) : Fm → Prop
  | .at c => post (.tup [.fm (.at c), natD (a + 1)]) [(p, .lst L)]
  | .no => post (.tup [.fm .no, natD (a + 2)]) [(p, .lst L)]
  | .all _ => post (.tup [.non, natD (a + 4)]) [(p, .lst (L ++ [.str "all"]))]
  | .imp _ _ => ∀ q, post (.tup [.non, natD (a + 1)]) [(p, .lst (L ++ [.adr q])), (q, .lst [])]
def S_placeend : FS := fun ds W post => ∃ (s x : Str) (a : Nat), ds = [.str s, .str x, natD a] ∧ W = [] ∧ s.length ≤ 1000000 ∧ x.length ≤ 10 ∧ a ≤ s.length ∧ post (natD (a + lcp (lets x) ((lets s).drop a))) []
def S_begun : FS := fun ds W post => ∃ (s : Str) (p : Addr) (a : Nat) (L : List D) (g : Fm) (K : List ItP), ds = [.str s, .adr p, natD a] ∧ W = [(p, .lst L)] ∧ s.length ≤ 1000000 ∧ L.length ≤ 1000000 ∧ g.okF ∧ (lets s).drop a = tx g ++ restT K ∧ begP p a L post g
def S_formin : FS := fun ds W post => ∃ f : Fm, ds = [.str f.spell] ∧ W = [] ∧ f.okF ∧ post (.fm f) []
def S_readF (c : Addr) : FS := fun ds W post => ∃ f : Fm, ds = [.adr c, .str f.spell] ∧ W = [] ∧ f.okF ∧ post (.fm f) []
theorem spell_len : ∀ f : Fm, f.spell.length = f.sz
  | .at _ => rfl
  | .no => rfl
  | .imp a b => by
    have h := congrArg List.length (tx_imp a b)
    have ea := spell_len a
    have eb := spell_len b
    rw [show a.spell.length = (tx a).length from str_len _] at ea
    rw [show b.spell.length = (tx b).length from str_len _] at eb
    rw [show (Fm.imp a b).spell.length = (tx (.imp a b)).length from str_len _, h]
    simp only [List.length_cons, List.length_append, List.length_nil, ea, eb]
    show _ = 5 + a.sz + b.sz
    omega
  | .all a => by
    have h := congrArg List.length (tx_all a)
    have ea := spell_len a
    rw [show a.spell.length = (tx a).length from str_len _] at ea
    rw [show (Fm.all a).spell.length = (tx (.all a)).length from str_len _, h]
    simp only [List.length_cons, ea]
    show _ = 4 + a.sz
    omega
end N
namespace N
open PySem PySem.Spec PyProof.Rows L2
theorem drop_step {l r : List Nat} {a : Nat} (x : List Nat) (h : l.drop a = x ++ r) : l.drop (a + x.length) = r := by
  rw [← List.drop_drop, h, List.drop_left]
theorem drop_app {l x r : List Nat} {a : Nat} (h : l.drop a = x ++ r) (hne : x ≠ []) : a + x.length ≤ l.length := by
  have e := congrArg List.length h
  rw [List.length_drop, List.length_append] at e
  have : 0 < x.length := List.length_pos_iff.mpr hne
  omega
theorem at_lastK {l : List D} {d : D} : atI (l ++ [d]) (-1) = some d := by
  unfold atI ixN
  have e : ((-1 : Int) + (((l ++ [d]).length : Nat) : Int)).toNat = l.length := by
    rw [List.length_append]
    show ((-1 : Int) + ((l.length + 1 : Nat) : Int)).toNat = _
    omega
  rw [if_neg (by omega), if_pos (by rw [List.length_append]; show -((l.length + 1 : Nat) : Int) ≤ -1; omega), e]
  simp
theorem stk_cons (x : ItP × Addr) (K : KA) : stk (x :: K) = stk K ++ [itD x] := by simp [stk]
theorem stk_len (K : KA) : (stk K).length = K.length := by simp [stk]
end N
set_option Elab.async false
set_option linter.all false
set_option maxRecDepth 100000
set_option maxHeartbeats 4000000
/-! Own exception classes over Exception whose __init__ calls the base class's __init__ by the class's name. -/
namespace XE
open PySem PySem.W PySem.Calls PyProof.Rows
abbrev exTail : List Value := [.type "Exception", .type "BaseException", .type "object"]
/-- own classes, then Exception's mro -/
def refsX : List Value → Bool
  | .ref _ :: r => refsX r
  | l => l == exTail
theorem refsX_cases : ∀ l : List Value, refsX l = true → (∃ c r, l = .ref c :: r ∧ refsX r = true) ∨ l = exTail
  | [], e => .inr (beq_iff_eq.mp e)
  | .ref c :: r, e => .inl ⟨c, r, rfl, e⟩
  | .none :: _, e => .inr (beq_iff_eq.mp e)
  | .ellipsis :: _, e => .inr (beq_iff_eq.mp e)
  | .notImplemented :: _, e => .inr (beq_iff_eq.mp e)
  | .bool _ :: _, e => .inr (beq_iff_eq.mp e)
  | .int _ _ :: _, e => .inr (beq_iff_eq.mp e)
  | .float _ _ :: _, e => .inr (beq_iff_eq.mp e)
  | .str _ _ :: _, e => .inr (beq_iff_eq.mp e)
  | .bytes _ _ :: _, e => .inr (beq_iff_eq.mp e)
  | .type _ :: _, e => .inr (beq_iff_eq.mp e)
  | .builtin _ :: _, e => .inr (beq_iff_eq.mp e)
theorem refsX_pass (self : Value) : ∀ l : List Value, refsX l = true → refuseLoop self "__setattr__" l = pure () := by
  intro l
  induction l with
  | nil => intro e; exact absurd e (by decide)
  | cons a r ih =>
    intro e
    rcases refsX_cases (a :: r) e with ⟨c, r', q, h⟩ | q
    · obtain ⟨rfl, rfl⟩ := List.cons.inj q
      rw [refuseLoop_ref]; exact ih h
    · rw [q]; exact F.store_Exception.passes self
theorem refsX_contains (X : String) : ∀ l : List Value, refsX l = true → l.contains (.type X) = exTail.contains (.type X) := by
  intro l
  induction l with
  | nil => intro e; exact absurd e (by decide)
  | cons a r ih =>
    intro e
    rcases refsX_cases (a :: r) e with ⟨c, r', q, h⟩ | q
    · obtain ⟨rfl, rfl⟩ := List.cons.inj q
      rw [List.contains_cons, ih h]; rfl
    · rw [q]
theorem refsX_ne {l : List Value} (e : refsX l = true) : l.isEmpty = false := by
  cases l with
  | nil => exact absurd e (by decide)
  | cons _ _ => rfl
section
open Builtin Builtin.ObjectAttr
variable {prog : Program} {w : World} {A : Around} {E : Value → Shared → Prop} {R : Result → Shared → Prop} {hp : Heap} {g : Array GenState} {d : Drawn} {t : Nat} {os : OsState}
theorem osa_base {K : W.Frag} {name : Str} {tk : Tok} {v : Value} {x C : Addr} {ox : Obj} {od : Option Obj} {cd : ClassData}
    (X : K.In hp) (I : W.InstAt hp x ox C od) (hcd : W.clsIn K C = some cd) (hm : refsX cd.mro = true) (ha : W.findIn K (.ref C) name = some none)
    (hq : wpAny (model prog w) A.in1 (storeInOwnDict (.ref x) (.ref C) (.str name tk) name v false)
      (fun fin s' => match fin with | .done f => R (.ok f) s' | .again c' => c'.quiet = true ∧ codeAny (model prog w) A c' R s') (fun e s' => R (.error e) s') ⟨hp, g, d, t, os⟩) :
    codeAny (model prog w) A (.call (.builtin "object.__setattr__") ⟨[.ref x, .str name tk, v], []⟩) R ⟨hp, g, d, t, os⟩ := by
  have SF := F.store_object
  have ne := refsX_ne hm
  have hob : cd.mro.contains (.type "object") = true := (refsX_contains "object" _ hm).trans (by decide +kernel)
  have sub : W.Looks (model prog w) hp (isInstance (.ref x) (.type "object")) true := I.type.andThen (W.looks_mroIn X (by unfold W.mroIn; rw [hcd, Option.bind_some, if_neg (by rw [ne]; decide), hob]))
  refine codeAny_call_builtin SF.slot.plain SF.entry (@W.check_slot (model prog w) _ _ ⟨hp, g, d, t, os⟩ "object.__setattr__" "object" "__setattr__" (.ref x) [.str name tk, v] [] _ SF.kind SF.split sub (SF.args (.ref x) (.str name tk) v) ?_)
  have hmr : W.Looks (model prog w) hp (mroOf (.ref C)) cd.mro := (W.looks_clsIn X hcd).andThen .now
  have L3 : W.Looks (model prog w) hp (storeTaker? none) none := .now
  rw [W.osa_eq, refuse_eq]
  refine wpAny_bind (wpAny_bind (I.type.at (wpAny_bind (hmr.at ?_))))
  rw [refsX_pass _ _ hm]
  refine wpAny_pure (wpAny_bind (I.type.at (wpAny_bind ((W.looks_findIn X ha).at (wpAny_bind (L3.at ?_))))))
  exact hq
theorem osa_new {K : W.Frag} {name : Str} {tk : Tok} {v : Value} {x C : Addr} {fv : Array Value} {cd : ClassData}
    (X : K.In hp) (hx : hp.get? x = some { cls := .ref C, data := .fields fv }) (hcd : W.clsIn K C = some cd) (hm : refsX cd.mro = true) (hh : cd.hasDict = true) (ha : W.findIn K (.ref C) name = some none)
    (hq : ∀ h' tk' dx, (∀ b o, b ≠ x → hp.get? b = some o → h'.get? b = some o) → hp.objs.size ≤ dx → dx ≠ x → h'.get? x = some { cls := .ref C, dict := some dx, data := .fields fv } →
      h'.Ns1 dx (fun y => if y = name then some v else none) → R (.ok (.ret .none)) ⟨h', g, d, tk', os⟩) :
    codeAny (model prog w) A (.call (.builtin "object.__setattr__") ⟨[.ref x, .str name tk, v], []⟩) R ⟨hp, g, d, t, os⟩ := by
  have I : W.InstAt hp x { cls := .ref C, data := .fields fv } C none := ⟨hx, rfl, rfl, trivial⟩
  have hxs : x ≠ hp.objs.size := Nat.ne_of_lt (Heap.lt_size hx)
  refine osa_base X I hcd hm ha ?_
  have hcls : W.Looks (model prog w) hp (classData C) cd := W.looks_clsIn X hcd
  obtain ⟨nm, bs, mro, ns, qn, hd, sn, sb, ab, col, del⟩ := cd
  dsimp only at hh
  subst hh
  unfold storeInOwnDict ownDictForStores
  repeat (first | with_reducible refine HandSPX.store_in_new ?_ ?_ | with_reducible refine wpAny_loadPart_at hx ?_ | with_reducible refine hcls.at ?_ | wp_step)
  · exact ⟨_, #[], _, (Heap.get?_update_ne _ _ _ _ hxs.symm).trans (Heap.get?_push_at rfl rfl), rfl, fun e he => absurd he (by simp), fun _ => rfl⟩
  · intro h' tk' hn' hs
    have hx₁ : (hp.push { cls := .type "dict", data := .dict #[] }).get? x = some { cls := .ref C, data := .fields fv } := Heap.get?_push_of_some _ hx
    refine hq h' tk' hp.objs.size (fun b o hb ho => ?_) (Nat.le_refl _) hxs.symm ?_ hn'
    · exact (hs.2 b (Nat.ne_of_lt (Heap.lt_size ho))).trans ((Heap.get?_update_ne _ _ _ _ hb).trans (Heap.get?_push_of_some _ ho))
    · exact (hs.2 x hxs).trans (Heap.get?_update_self _ hx₁ rfl)
end
end XE

namespace L2
open PySem PySem.Spec PyProof.Rows
/-- what the written part says of such a class -/
structure OexX (K : PySem.W.Frag) (C : Addr) : Prop where
  cls : ∃ nm q N bs bm sn sub ab col dd k0 k1 k2 k3 k5, K.lookup C = some (excClassObj nm q C N bs bm true sn sub ab col dd k0 k1 k2 k3 k5 "Exception.__new__") ∧ XE.refsX bm = true
  sa : PySem.W.findIn K (.ref C) "__setattr__" = some (some (.builtin "object.__setattr__"))
  exC : PySem.W.subIn K (.ref C) (.type "BaseException") = some true
  tyC : PySem.W.typeIn K (.ref C) = some (.type "type")
  kC : PySem.W.keepIn K (.ref C) = true
section
variable {X : Cx} {pins : List (Addr × Obj)} {σ : St} {H : Hp} {s : Shared} {a C dx : Addr} {f : Str} {y : V} {u : Value} {fs : List (Str × V)} {Q : Unit → Shared → Prop} {E : Value → Shared → Prop} {A : Around}
/-- self.f = y, the first one -/
theorem ostX_new (T : OexX X.K C) (I : Inv X pins σ H s) (e : H a = some (exo a C none)) (hno : PySem.W.findIn X.K (.ref C) f = some none) (ry : RelV y u)
    (h : ∀ dx s', H dx = none → dx ≠ a → Inv X pins σ (upd (upd H dx (exd dx [(f, y)])) a (exo a C (some dx))) s' → Q () s') : wpAny (model X.prog X.w) A (setAttr (.ref a) f u) Q E s := by
  obtain ⟨nm, q, N, bs, bm, sn, sub, ab, col, dd, k0, k1, k2, k3, k5, hC, hbm⟩ := T.cls
  have hcl : PySem.W.clsIn X.K C = some { name := nm, bases := bs, mro := .ref C :: bm, ns := N, qualname := q, hasDict := true, slotNames := sn, subclasses := sub, abstract := ab, collection := col, hasDel := false } := by unfold PySem.W.clsIn; rw [hC] <;> rfl
  obtain ⟨t1, ho⟩ := exo_at I.hok e
  obtain ⟨hp, g, d, t, os⟩ := s
  refine PySem.W.set_plain I.kIn (ox := { cls := .ref C, dict := none, data := .fields #[.ref t1, .none, .none, .none, .bool false, .none] }) (od := none) ⟨ho, rfl, rfl, trivial⟩ T.sa ?_
  refine XE.osa_new I.kIn ho hcl (show XE.refsX (.ref C :: bm) = true from hbm) rfl hno (fun h' tk' dx k dn dne hx hn => ?_)
  have hnd : H dx = none := I.hok.fresh dn
  have nd : ∀ {b : Addr} {o : Obj}, hp.get? b = some o → b ≠ dx := fun {b o} q => Nat.ne_of_lt (Nat.lt_of_lt_of_le (Heap.lt_size q) dn)
  have na : ∀ {b : Addr}, H b = none → b ≠ a := fun {b} n z => by
    rw [z, e] at n
    cases n
  have Un1 : Un X.fs [] H (upd (upd H dx (exd dx [(f, y)])) a (exo a C (some dx))) hp h' := {
    keep := fun b o q n _ _ => k b o (na n) q
    slot := fun b o q n _ _ => ⟨o.slots, k b o (na n) q⟩
    free := fun b o q n _ => by rw [upd_ne (na n), upd_ne (nd q)]; exact n
    there := fun b o q _ => by
      by_cases hb : b = a
      · exact ⟨_, by rw [hb]; exact hx⟩
      · exact ⟨o, k b o hb q⟩
    tups := fun b xs q => by rw [upd_ne (at_ne e q exo_tup), upd_ne (ne_of_none q hnd)]; exact q
    frzs := fun b o v q => by rw [upd_ne (at_ne e q exo_frz), upd_ne (ne_of_none q hnd)]; exact q
    tbls := fun b ps q => ⟨#[], by rw [upd_ne (at_ne e q exo_tbl), upd_ne (ne_of_none q hnd), q]; simp⟩ }
  refine h dx _ hnd dne (I.un (t' := tk') Un1 fun b o q => ?_)
  by_cases hb : b = a
  · subst hb
    rw [upd_same] at q
    cases q
    exact exo_ok hx
  · rw [upd_ne hb] at q
    by_cases hd : b = dx
    · subst hd
      rw [upd_same] at q
      cases q
      exact exd_ok hn (relO_put (fs := []) ry fun g => True.intro)
    · rw [upd_ne hd] at q
      exact (I.hok b o q).stay (fun c v hc z => k c v (by
          rcases hc with hc | hc
          · rw [hc]
            exact hb
          · exact at_ne e hc exo_own) z)
        (fun c hc => by rw [upd_ne (at_ne e hc exo_own), upd_ne (ne_of_none hc hnd)]; exact hc) (fun c xs hc => by rw [upd_ne (at_ne e hc exo_tup), upd_ne (ne_of_none hc hnd)]; exact hc)
/-- Exception.__init__(self, ..): nothing of it is told -/
theorem oinitX_ok {us : List Value} {Q : Value → Shared → Prop} (T : OexX X.K C) (I : Inv X pins σ H s) (e : H a = some (exo a C none)) (hl : us.length ≤ sizeLine) (h : ∀ s', Inv X pins σ H s' → Q .none s') :
    wpAny (model X.prog X.w) A (call (.builtin "Exception.__init__") (.ref a :: us)) Q E s := by
  obtain ⟨nm, q, N, bs, bm, sn, sub, ab, col, dd, k0, k1, k2, k3, k5, hC, hbm⟩ := T.cls
  obtain ⟨t1, ho⟩ := exo_at I.hok e
  obtain ⟨hp, g, d, t, os⟩ := s
  refine wpAny_call (PySem.HandSPX.init_base F.excBase_Exception (fun Y => XE.refsX_contains Y bm hbm) (I.kIn _ _ hC) ho hl fun h' t2 k hx => ?_)
  have J := I.write (t' := t) (x := a) (e := a) (o := exo a C none) (by rw [e]; exact True.intro) (.inl rfl) k ⟨_, hx⟩ (exo_ok hx)
  have eu : upd H a (exo a C none) = H := by
    funext b
    by_cases hb : b = a
    · rw [hb, upd_same, e]
    · rw [upd_ne hb]
  rw [eu] at J
  exact h _ J
end
/-- B.__init__(self, ..), B an own class that takes Exception's -/
def tExI (K : PySem.W.Frag) (ta : TA) : TE := fun σ H Q => ta σ H fun vs H1 => ∃ (a C : Addr) (ws : List V), vs = .ref a :: ws ∧ ws.length ≤ 1000 ∧ OexX K C ∧ H1 a = some (exo a C none) ∧ Q .non H1
/-- self.f = e, the first field -/
def tOsx (K : PySem.W.Frag) (f : Str) (to te : TE) : TS := fun D σ H => te σ H fun y H1 => to σ H1 fun x H2 => ∃ a C : Addr, x = .ref a ∧ OexX K C ∧ PySem.W.findIn K (.ref C) f = some none ∧
  H2 a = some (exo a C none) ∧ ∀ dx, H2 dx = none → dx ≠ a → D.nx σ (upd (upd H2 dx (exd dx [(f, y)])) a (exo a C (some dx)))
/-- what is asked of the base class whose __init__ is called -/
structure BaseX (K : PySem.W.Frag) (B : Addr) : Prop where
  rd : ClX.CRead K B (.type "type")
  ini : PySem.W.findCls K (.ref B) (.type "type") "__init__" = some (.val (.builtin "Exception.__init__"))
section
variable {X : Cx} {o e : Expr} {es : List Expr} {to te : TE} {ta : TA} {f x : Str} {p p' p1 p2 pos : Pos} {B : Addr}
theorem pe_exinit {pl : Sem Bool} (T : BaseX X.K B) (hg : Gl X x) (hm : X.mg x = some (.ref B)) (ha : PA X (e :: es) ta) (hdb : (x == ("__debug__" : Str)) = false := by decide)
    (hc : eval (.Call (.Attribute (.Name x p1) "__init__" p2) (e :: es) [] pos) X.env = (do
      let ov ← eval (.Name x p1) X.env
      standAt p2.atName
      let (f, first) ← holding [ov] (getMethod ov "__init__" pl)
      callWith pos f first (backTo pos (starEach (e :: es) X.env)) (backToKw pos (keywordEach [] X.env))) := by rfl)
    (he : starEach (e :: es) X.env = (false, eval e X.env) :: starEach es X.env := by rfl) (hpl : (backTo pos (starEach es X.env)).any (·.1) = false := by rfl) :
    PE X (.Call (.Attribute (.Name x p1) "__init__" p2) (e :: es) [] pos) (tExI X.K ta) := by
  refine ⟨fun pins s σ H Q I h => ?_⟩
  refine PySem.W.methodCall_KW (ld_glob I hg hm ?_ hdb) hc
  refine PySem.W.method_cls I.kIn T.rd.ga (PySem.W.cls_value I.kIn T.rd.rd T.ini (by decide +kernel) ?_)
  show wpAny _ _ (callWith pos (Value.builtin "Exception.__init__") [] (backTo pos (starEach (e :: es) X.env)) []) _ _ _
  refine PyProof.Rows.callWith_method1 (thn (ha.run pos pins _ σ H _ (I.tok _) h) fun us s1 ⟨vs, H1, I1, r1, a, C, ws, ev, hl, T, ea, q⟩ => ?_) he hpl
  subst ev
  cases r1 with
  | @cons _ u0 _ ur ra rw' =>
    obtain rfl : u0 = Value.ref a := ra
    have hlen : ur.length ≤ sizeLine := by
      rw [← Paired.length rw', sizeLine_eq]
      omega
    exact oinitX_ok T I1 ea hlen fun s' J => ⟨.non, H1, J, rfl, q⟩
theorem ps_osx (ho : PE X o to) (he : PE X e te) (hs : swapsWith e (some (.Attribute o f p')) pos.line X.env = pure false := by rfl) : PS X (.Assign [.Attribute o f p'] e pos) (tOsx X.K f to te) := by
  refine ⟨fun pins s σ H D I h => ?_⟩
  refine plainObj_wpAny_Assign_Attribute (thn (he.run pins s σ H _ I h) fun v s1 ⟨y, H1, I1, r1, q1⟩ => thn (ho.run pins s1 σ H1 _ I1 q1) fun u s2 ⟨x, H2, I2, r2, a, C, ex, T, hno, ea, q⟩ => ?_) hs
  subst ex
  obtain rfl : u = Value.ref a := r2
  exact ostX_new T I2 ea hno r1 fun dx s' n ne J => ⟨σ, _, J, q dx n ne⟩
theorem pmk_oexX {CX : CXT} {x : Str} {C fI : Addr} {k : Nat} {fd : FuncData} {ps : List Str} {sp : Sp} {ds : List Value} {dvs : List V} (T : OexX X.K C) (iC : PySem.W.findIn X.K (.ref C) "__init__" = some (some (.ref fI))) (tI : PySem.W.typeIn X.K (.ref fI) = some (.type "function"))
    (F1 : FnOk X.prog X.w X.K X.mg X.base CX k fI fd ps sp) (hr : Room (k + 1) X.A) (hb : Binds X.K fd ps ds) (hd : Vals dvs ds) (hx : Passes CX X (fun _ _ _ => False)) (hg : Gl X x) (hm : X.mg x = some (.ref C)) (ha : PA X (e :: es) ta)
    (hdb : (x == ("__debug__" : Str)) = false := by decide) (he : starEach (e :: es) X.env = (false, eval e X.env) :: starEach es X.env := by rfl) (hpl : (backTo pos (starEach es X.env)).any (·.1) = false := by rfl) :
    PMk X (.Call (.Name x p) (e :: es) [] pos) (tMkO C sp dvs ta) := by
  intro pins s σ H Q I h
  obtain ⟨nm, q, N, bs, bm, sn, sub, ab, col, dd, k0, k1, k2, k3, k5, hC, hbm⟩ := T.cls
  refine wpAny_Call_Name_kw (ld_glob I hg hm ?_ hdb)
  refine PySem.W.callWith_K (h₀ := X.base) I.ok.mod.kin T.kC (thn (ha.run pos pins s σ H _ I h) fun us s1 ⟨vs, H1, I1, r1, hz, q1⟩ => ⟨I1.kIn, ?_⟩) he hpl
  show wpAny _ _ (call (.ref C) us) _ _ _
  obtain ⟨hp, g, dr, tk, os⟩ := s1
  have hsz : hp.objs.size ≤ hp.objs.size + 1 := Nat.le_succ _
  have hn : H1 (hp.objs.size + 1) = none := I1.hok.fresh hsz
  have hq := q1 (hp.objs.size + 1) hn
  have kk : ∀ b o, hp.get? b = some o → ((hp.push (PySem.W.kdv_tup us)).push (PySem.HandSPX.excO C hp.objs.size)).get? b = some o := fun b o e => Heap.get?_push_of_some _ (Heap.get?_push_of_some _ e)
  have hget : ((hp.push (PySem.W.kdv_tup us)).push (PySem.HandSPX.excO C hp.objs.size)).get? (hp.objs.size + 1) = some (PySem.HandSPX.excO C hp.objs.size) := by heap_get
  have I2 : Inv X pins σ (upd H1 (hp.objs.size + 1) (exo (hp.objs.size + 1) C none)) ⟨(hp.push (PySem.W.kdv_tup us)).push (PySem.HandSPX.excO C hp.objs.size), g, dr, tk, os⟩ :=
    I1.laid (t' := tk) (a := hp.objs.size + 1) (o := exo (hp.objs.size + 1) C none) (h' := (hp.push (PySem.W.kdv_tup us)).push (PySem.HandSPX.excO C hp.objs.size)) kk hsz (exo_ok hget)
  have r2 : Vals (V.ref (hp.objs.size + 1) :: (vs ++ dvs)) (Value.ref (hp.objs.size + 1) :: (us ++ ds)) := .cons rfl (r1.append hd)
  have hl : (Value.ref (hp.objs.size + 1) :: us ++ ds).length = ps.length := by
    have e := r2.length
    rw [F1.len _ _ _ _ hq] at e
    exact e.symm
  have hus : us.length ≤ sizeLine := by
    rw [← Paired.length r1, sizeLine_eq]
    omega
  refine wpAny_call (PySem.HandSPX.call_own F.excBase_Exception (fun Y => XE.refsX_contains Y bm hbm) (I1.kIn _ _ hC) (PySem.W.looks_findIn I1.kIn iC) (fun self => PySem.W.bind_fn I1.kIn self tI) hus
    (codeAny_mono (F1.run _ X.stack _ _ ⟨Value.ref (hp.objs.size + 1) :: us, []⟩ (Value.ref (hp.objs.size + 1) :: (us ++ ds)) _ _ (fun _ _ _ => False) (hr.make C us []) (I2.env0.make C us []) (hb _ (Value.ref (hp.objs.size + 1) :: us) I2.kIn hl) r2 hq) fun r s' hq' => ?_))
  cases r with
  | error er => exact hx pins σ _ _ er s' I2 hq'
  | ok fl =>
    cases fl with
    | ret u =>
      obtain ⟨v, H2, os2, bare2, un2, hok2, rv, ev, d, fs, ea, ed, hd1, q2⟩ := hq'
      subst ev
      obtain ⟨h2, g2, d2, t2, os'⟩ := s'
      exact ⟨rv, mk_end (raises_own T.exC T.tyC) I1 hsz kk un2 hok2 os2 bare2 ea ed hd1 q2⟩
    | next => exact False.elim hq'
    | brk => exact False.elim hq'
    | cont => exact False.elim hq'
end
end L2
set_option Elab.async false
set_option linter.all false
set_option maxRecDepth 100000
set_option maxHeartbeats 4000000
/-! Exceptions over plain data: what a def lets out, raise, try. -/
namespace N
open PySem PySem.Spec PyProof.Rows L2
open C8 (Cal Met Mak pe_c pe_mt pe_mt0 pe_mk)
/-! ### hand level: error classes, defs that raise -/
/-- what __init__ of an error class does -/
def spEr (C : Addr) (f : Str) : Sp := fun vs H Q _ => ∃ a y, vs = [.ref a, y] ∧ H a = some (exo a C none) ∧ ∀ dx, H dx = none → dx ≠ a → Q .non (upd (upd H dx (exd dx [(f, y)])) a (exo a C (some dx)))
structure ErC (K : PySem.W.Frag) (C : Addr) (f : Str) : Prop where
  oex : OexX K C
  xf : XfC K C
  no : PySem.W.findIn K (.ref C) f = some none
structure Err (P : Program) (w : World) (K : PySem.W.Frag) (mg : Str → Option Value) (base : Heap) (k : Nat) (x : Str) (C : Addr) (f : Str) : Prop where
  ex : ∃ (g : Addr) (fd : FuncData) (ps : List Str), ErC K C f ∧ PySem.W.findIn K (.ref C) "__init__" = some (some (.ref g)) ∧ PySem.W.typeIn K (.ref g) = some (.type "function") ∧ FnOk P w K mg base CX0 k g fd ps (spEr C f) ∧ Binds K fd ps [] ∧ mg x = some (.ref C)
/-- the __init__ of an error class, by its body -/
theorem errD {P : Program} {w : World} {K : PySem.W.Frag} {mg : Str → Option Value} {base : Heap} {x qual f : Str} {C g : Addr} {st : Stmt} {fd : FuncData} {N ps : List Str} (er : ErC K C f) (iC : PySem.W.findIn K (.ref C) "__init__" = some (some (.ref g))) (tI : PySem.W.typeIn K (.ref g) = some (.type "function"))
    (hm : mg x = some (.ref C)) (Fn : Fun K "__init__" qual st g fd) (Sc : FnScope N ps (defScope st)) (hN : N = [("self" : Str), f]) (hps : ps = [("self" : Str), f])
    (hb : ∀ (kV doc pm : Value) (an : Option Addr) (cdv ct : Value) (us : List Value), us.length = ps.length → bindArgs (PySem.W.fnOf "__init__" qual (defArgs st) (defBody st) (defScope st) .none kV doc pm an cdv ct) ⟨us, []⟩ = pure (ps.zip us))
    (body : ∀ (cdv : Value) (A : Around) (outer : List Env) (s : Shared) (H : Hp) (E : XK), ∃ m,
      PSs (cxOf CX0 P w K mg base N qual (defScope st) g cdv A outer s H E).nox (defBody st) (tSeq (tDrop (tExI K (tCons (tVar 0) (tCons (tC (.str m)) tNil)))) (tOsx K f (tVar 0) (tVar 1)))) :
    Err P w K mg base 1 x C f := by
  subst hN hps
  refine ⟨g, fd, _, er, iC, tI, Fn.ok Sc (fun vs H Q E ⟨a, y, e, _⟩ => by rw [e]; rfl) fun cdv A outer s H vs Q E hr h => ?_, Fn.binds hb, hm⟩
  obtain ⟨a, y, e, ha, q⟩ := h
  subst e
  obtain ⟨m, b⟩ := body cdv A outer s H E
  refine ⟨_, b, ?_⟩
  refine ⟨_, rfl, ?_⟩
  refine ⟨a, C, [_], rfl, by simp, er.oex, ha, ?_⟩
  exact ⟨_, rfl, _, rfl, a, C, rfl, er.oex, er.no, ha, fun dx h1 h2 => q dx h1 h2⟩
/-- a def that may raise -/
structure CalX (P : Program) (w : World) (K : PySem.W.Frag) (mg : Str → Option Value) (base : Heap) (k : Nat) (x : Str) (sp : Sp) : Prop where
  ex : ∃ (f : Addr) (fd : FuncData) (ps : List Str), FnOk P w K mg base (L2.CX P w) k f fd ps sp ∧ mg x = some (.ref f) ∧ PySem.W.keepIn K (.ref f) = true ∧ Binds K fd ps []
/-- a class method that may raise -/
structure CmX (P : Program) (w : World) (K : PySem.W.Frag) (mg : Str → Option Value) (base : Heap) (k : Nat) (C : Addr) (m : Str) (ks : List Str) (gV : List V → List V → List V) (sp : Sp) : Prop where
  ex : ∃ (mc : Value) (p f : Addr) (fd : FuncData) (ps : List Str) (g : List Value → List Value → List Value), ClX.CRead K C mc ∧ ClX.CMet K C mc m p f ∧ FnOk P w K mg base (L2.CX P w) k f fd ps sp ∧ Binds K fd ps [] ∧ KBn K fd ps 1 ks g gV
/-- a class whose __init__ may raise -/
structure MakX (P : Program) (w : World) (K : PySem.W.Frag) (mg : Str → Option Value) (base : Heap) (k : Nat) (x : Str) (C : Addr) (n : Nat) (ks : List Str) (gV : List V → List V → List V) (sp : Sp) : Prop where
  ex : ∃ (f : Addr) (fd : FuncData) (ps : List Str) (g : List Value → List Value → List Value), Mk K C f ∧ FnOk P w K mg base (L2.CX P w) k f fd ps sp ∧ mg x = some (.ref C) ∧ Binds K fd ps [] ∧ KBn K fd ps 1 ks g gV ∧ n = ks.length
def tCmS (C : Addr) (sp : Sp) (E : L2.St → XK) (ta : TE) (t : TA) : TE := fun σ H Q => ta σ H fun x H1 => x = .ref C ∧ t σ H1 fun vs H2 => sp (.ref C :: vs) H2 Q (E σ)
def tCmKS (C : Addr) (n : Nat) (sp : Sp) (gV : List V → List V → List V) (E : L2.St → XK) (ta : TE) (tk : TA) : TE := fun σ H Q => ta σ H fun x H1 => x = .ref C ∧ tk σ H1 fun zs H2 => zs.length = n ∧ sp (gV [.ref C] zs) H2 Q (E σ)
def tMakS (C : Addr) (sp : Sp) (E : L2.St → XK) (t : TA) : TE := fun σ H Q => t σ H fun vs H1 => ∀ x dx, H1 x = none → H1 dx = none → dx ≠ x →
  sp (.ref x :: vs) (upd (upd H1 dx (.own x)) x (.ins C dx [])) (fun v H2 => v = .non ∧ Q (.ref x) H2) (E σ)
def tMakKS (C : Addr) (n : Nat) (sp : Sp) (gV : List V → List V → List V) (E : L2.St → XK) (tk : TA) : TE := fun σ H Q => tk σ H fun zs H2 => zs.length = n ∧ ∀ x dx, H2 x = none → H2 dx = none → dx ≠ x →
  sp (gV [.ref x] zs) (upd (upd H2 dx (.own x)) x (.ins C dx [])) (fun v H3 => v = .non ∧ Q (.ref x) H3) (E σ)
section
variable {X : Cx} {W : WX} {k j n : Nat} {x m f : Str} {C : Addr} {sp : Sp} {e o : Expr} {es : List Expr} {t ta tk : TA} {te : TE} {p pos apos : Pos} {ks : List Str} {gV : List V → List V → List V} {kws : List Keyword}
theorem pmk_err (c : Err X.prog X.w X.K X.mg X.base k x C f) (hr : Room j X.A) (hk : k + 1 ≤ j) (hg : Gl X x) (ha : PA X (e :: es) ta)
    (hdb : (x == ("__debug__" : Str)) = false := by decide) (he : starEach (e :: es) X.env = (false, eval e X.env) :: starEach es X.env := by rfl) (hpl : (backTo pos (starEach es X.env)).any (·.1) = false := by rfl) :
    PMk X (.Call (.Name x p) (e :: es) [] pos) (tMkO C (spEr C f) [] ta) := by
  obtain ⟨g, fd, ps, E, iC, tI, F1, hb, hm⟩ := c.ex
  exact pmk_oexX (sp := spEr C f) (dvs := []) E.oex iC tI F1 (hr.mono hk) hb .nil C8.pass0 hg hm ha hdb he hpl
theorem pe_cX (c : CalX X.prog X.w X.K X.mg X.base k x sp) (hr : Room j X.A) (hk : k ≤ j) (hg : Gl X x) (tk : Takes X W) (ha : PA X (e :: es) t)
    (hdb : (x == ("__debug__" : Str)) = false := by decide) (he : starEach (e :: es) X.env = (false, eval e X.env) :: starEach es X.env := by rfl) (hpl : (backTo pos (starEach es X.env)).any (·.1) = false := by rfl) :
    PE X (.Call (.Name x p) (e :: es) [] pos) (tCallS sp (WE W) t) := by
  obtain ⟨f, fd, ps, F, hm, kp, b⟩ := c.ex
  exact pe_callS F (hr.mono hk) hg hm kp b (fun σ => passAt tk σ) ha hdb he hpl
/-- how a run of a raising def ends, seen from the caller -/
theorem endS {pins : List (Addr × Obj)} {σ : L2.St} {H : Hp} {s : Shared} {Q : VK} (tk : Takes X W) (I : Inv X pins σ H s) {r : Result} {s' : Shared} (hq : CR (L2.CX X.prog X.w) X.stack X.prog X.w H s Q (WE W σ) r s') :
    match r with | .ok (.ret u) => EP X pins σ Q u s' | .ok _ => False | .error e => X.xe e s' := by
  cases r with
  | error e => exact passAt tk σ pins H s e s' I hq
  | ok fl =>
    cases fl with
    | ret u => exact I.after hq
    | next => exact False.elim hq
    | brk => exact False.elim hq
    | cont => exact False.elim hq
theorem pe_cmX {pl : Sem Bool} (c : CmX X.prog X.w X.K X.mg X.base k C m ks gV sp) (hr : Room j X.A) (hk : k ≤ j) (tk : Takes X W) (he : PE X o te) (ha : PA X (e :: es) t)
    (hst : starEach (e :: es) X.env = (false, eval e X.env) :: starEach es X.env := by rfl) (hpl : (backTo pos (starEach es X.env)).any (·.1) = false := by rfl)
    (ht : eval (.Call (.Attribute o m apos) (e :: es) [] pos) X.env = (do
      let ov ← eval o X.env
      standAt apos.atName
      let (f, first) ← holding [ov] (getMethod ov m pl)
      callWith pos f first (backTo pos (starEach (e :: es) X.env)) (backToKw pos (keywordEach [] X.env))) := by rfl) :
    PE X (.Call (.Attribute o m apos) (e :: es) [] pos) (tCmS C sp (WE W) te t) := by
  obtain ⟨mc, p, f, fd, ps, g, r, cm, F, hb, _⟩ := c.ex
  have Fr : FnR X.prog X.w X.K X.mg X.base (L2.CX X.prog X.w) k f sp := by
    have := F.raw hb .nil
    simp only [List.append_nil] at this
    exact this
  refine ⟨fun pins s σ H Q I h => ?_⟩
  refine PySem.W.methodCall_KW (pl := pl) (thn (he.run pins s σ H _ I h) fun u s1 ⟨x, H1, I1, rx, ex, q⟩ => ?_) ht
  subst ex
  obtain rfl : u = Value.ref C := rx
  refine ClX.getmethcm_ok I1 r cm fun s2 I2 => ?_
  refine ClX.callwith_cm I2 (ClX.base_none I1 (Nat.le_refl _)) cm.fi (thn (ha.run pos _ s2 σ H1 _ I2 q) fun us s3 ⟨vs, H2, I3, rv, q2⟩ => ⟨⟨ClX.pin_at I3, I3.kIn⟩, ?_⟩) hst hpl
  have z : wpAny (model X.prog X.w) X.A (call (.ref s1.heap.objs.size) us) (EP X ((s1.heap.objs.size, PySem.W.methodObj (.ref f) (.ref C)) :: pins) σ Q) X.xe s3 := by
    refine wpAny_call (PySem.W.method_call (ClX.pin_at I3) (codeAny_mono (Fr X.A X.stack s3 H2 (.ref C :: us) (.ref C :: vs) Q (WE W σ) (hr.mono hk) I3.env0 (.cons rfl rv) q2) fun r s' hq => ?_))
    have := endS tk I3 hq
    cases r with
    | error e => exact this
    | ok fl =>
      cases fl with
      | ret u => exact this
      | next => exact False.elim this
      | brk => exact False.elim this
      | cont => exact False.elim this
  exact thn z fun _ _ y => ClX.unpinE y
theorem pe_cmkX {pl : Sem Bool} (c : CmX X.prog X.w X.K X.mg X.base k C m ks gV sp) (hr : Room j X.A) (hk : k ≤ j) (tkX : Takes X W) (he : PE X o te) (hkw : PK X kws tk)
    (hall : (backToKw pos (keywordEach kws X.env)).all (·.1.isSome) = true := by rfl) (hks : (backToKw pos (keywordEach kws X.env)).filterMap (·.1) = ks := by rfl)
    (hpl : ((backTo pos (starEach [] X.env)).any (·.1) || (backToKw pos (keywordEach kws X.env)).any (·.1.isNone)) = false := by rfl)
    (ht : eval (.Call (.Attribute o m apos) [] kws pos) X.env = (do
      let ov ← eval o X.env
      standAt apos.atName
      let (f, first) ← holding [ov] (getMethod ov m pl)
      callWith pos f first (backTo pos (starEach [] X.env)) (backToKw pos (keywordEach kws X.env))) := by rfl) :
    PE X (.Call (.Attribute o m apos) [] kws pos) (tCmKS C ks.length sp gV (WE W) te tk) := by
  obtain ⟨mc, p, f, fd, ps, g, r, cm, F, _, hb⟩ := c.ex
  refine ⟨fun pins s σ H Q I h => ?_⟩
  refine PySem.W.methodCall_KW (pl := pl) (thn (he.run pins s σ H _ I h) fun u s1 ⟨x, H1, I1, rx, ex, q⟩ => ?_) ht
  subst ex
  obtain rfl : u = Value.ref C := rx
  refine ClX.getmethcm_ok I1 r cm fun s2 I2 => ?_
  refine PySem.W.callWith_of (P := PySem.W.MethP X.K s1.heap.objs.size f (.ref C)) hpl (PySem.W.keeps_M cm.fi) (evalArgs_kw2_nil hall ?_)
  refine thn (hkw.run pos _ s2 σ H1 _ I2 q) fun ws s3 ⟨zs, H2, I3, rz, l2, q2⟩ => ⟨⟨ClX.pin_at I3, I3.kIn⟩, ?_⟩
  rw [hks]
  have z : wpAny (model X.prog X.w) X.A (call (.ref s1.heap.objs.size) [] (ks.zip ws)) (EP X ((s1.heap.objs.size, PySem.W.methodObj (.ref f) (.ref C)) :: pins) σ Q) X.xe s3 := by
    refine wpAny_call (PySem.W.method_call (ClX.pin_at I3) ?_)
    have r2 := hb.rel (us := [Value.ref C]) (vs := [V.ref C]) (.cons rfl .nil) rz
    refine codeAny_mono (F.run X.A X.stack s3 H2 ⟨[.ref C], ks.zip ws⟩ (g [.ref C] ws) (gV [.ref C] zs) Q (WE W σ) (hr.mono hk) I3.env0 (hb.to s3 [.ref C] ws I3.kIn rfl (rz.length.symm.trans l2)) r2 q2) fun r s' hq => ?_
    have := endS tkX I3 hq
    cases r with
    | error e => exact this
    | ok fl =>
      cases fl with
      | ret u => exact this
      | next => exact False.elim this
      | brk => exact False.elim this
      | cont => exact False.elim this
  exact thn z fun _ _ y => ClX.unpinE y
theorem pe_mkX (c : MakX X.prog X.w X.K X.mg X.base k x C n ks gV sp) (hr : Room j X.A) (hk : k + 1 ≤ j) (hg : Gl X x) (tkX : Takes X W) (ha : PA X (e :: es) t)
    (hdb : (x == ("__debug__" : Str)) = false := by decide) (he : starEach (e :: es) X.env = (false, eval e X.env) :: starEach es X.env := by rfl) (hpl : (backTo pos (starEach es X.env)).any (·.1) = false := by rfl) :
    PE X (.Call (.Name x p) (e :: es) [] pos) (tMakS C sp (WE W) t) := by
  obtain ⟨f, fd, ps, g, M, F, hm, hb, _⟩ := c.ex
  refine ⟨fun pins s σ H Q I h => ?_⟩
  refine wpAny_Call_Name_kw (ld_glob I hg hm ?_ hdb)
  refine PySem.W.callWith_K (h₀ := X.base) I.ok.mod.kin M.kp (thn (ha.run pos pins s σ H _ I h) fun us s1 ⟨vs, H1, I1, r, q⟩ => ⟨I1.kIn, ?_⟩) he hpl
  have hq := q (s1.heap.objs.size + 1) s1.heap.objs.size (I1.hok.fresh (Nat.le_succ _)) (I1.hok.fresh (Nat.le_refl _)) (Nat.ne_of_lt (Nat.lt_succ_self _))
  have I2 := Inv.made (C := C) I1
  have r2 : Vals (V.ref (s1.heap.objs.size + 1) :: vs) (Value.ref (s1.heap.objs.size + 1) :: us) := .cons rfl r
  have hl : (Value.ref (s1.heap.objs.size + 1) :: us).length = ps.length := by rw [← r2.length, F.len _ _ _ _ hq]
  have hbi := hb _ (Value.ref (s1.heap.objs.size + 1) :: us) I2.kIn (by rw [List.append_nil]; exact hl)
  rw [List.append_nil] at hbi
  refine wpAny_call (make_map (f := f) I1.kIn M.makes M.init (beq_iff_eq.mp M.fn) (codeAny_mono (F.run _ X.stack _ _ ⟨Value.ref (s1.heap.objs.size + 1) :: us, []⟩ (Value.ref (s1.heap.objs.size + 1) :: us) _ _ (WE W σ) ((hr.mono hk).make C us [])
    (I2.env0.make C us []) hbi r2 hq) fun r s' hq' => ?_))
  have := endS tkX I2 hq'
  cases r with
  | error e => exact this
  | ok fl =>
    cases fl with
    | ret u =>
      obtain ⟨v, H', I3, rv, ev, q3⟩ := this
      subst ev
      exact ⟨rv, V.ref (s1.heap.objs.size + 1), H', I3, rfl, q3⟩
    | next => exact False.elim this
    | brk => exact False.elim this
    | cont => exact False.elim this
theorem pe_mkkX (c : MakX X.prog X.w X.K X.mg X.base k x C n ks gV sp) (hr : Room j X.A) (hk : k + 1 ≤ j) (hg : Gl X x) (tkX : Takes X W) (hkw : PK X kws tk)
    (hall : (backToKw pos (keywordEach kws X.env)).all (·.1.isSome) = true := by rfl) (hks : (backToKw pos (keywordEach kws X.env)).filterMap (·.1) = ks := by rfl)
    (hpl : ((backTo pos (starEach [] X.env)).any (·.1) || (backToKw pos (keywordEach kws X.env)).any (·.1.isNone)) = false := by rfl) (hdb : (x == ("__debug__" : Str)) = false := by decide) :
    PE X (.Call (.Name x p) [] kws pos) (tMakKS C n sp gV (WE W) tk) := by
  obtain ⟨f, fd, ps, g, M, F, hm, _, hb, hn⟩ := c.ex
  refine ⟨fun pins s σ H Q I h => ?_⟩
  refine wpAny_Call_Name_kw (ld_glob I hg hm ?_ hdb)
  refine PySem.W.callWith_of (P := fun h => X.K.In h) hpl (PySem.W.keeps_K M.kp) (evalArgs_kw2_nil hall ?_)
  refine thn (hkw.run pos pins s σ H _ I h) fun ws s1 ⟨zs, H1, I1, rz, l2, q⟩ => ⟨I1.kIn, ?_⟩
  rw [hks]
  have hq := q (s1.heap.objs.size + 1) s1.heap.objs.size (I1.hok.fresh (Nat.le_succ _)) (I1.hok.fresh (Nat.le_refl _)) (Nat.ne_of_lt (Nat.lt_succ_self _))
  have I2 := Inv.made (C := C) I1
  have r1 : Vals [V.ref (s1.heap.objs.size + 1)] [Value.ref (s1.heap.objs.size + 1)] := .cons rfl .nil
  have r2 := hb.rel r1 rz
  refine wpAny_call (make_map (f := f) I1.kIn M.makes M.init (beq_iff_eq.mp M.fn) (codeAny_mono (F.run _ X.stack _ _ ⟨[Value.ref (s1.heap.objs.size + 1)], ks.zip ws⟩ (g [Value.ref (s1.heap.objs.size + 1)] ws) _ _ (WE W σ) ((hr.mono hk).make C [] (ks.zip ws))
    (I2.env0.make C [] (ks.zip ws)) (hb.to _ [Value.ref (s1.heap.objs.size + 1)] ws I2.kIn rfl (rz.length.symm.trans (l2.trans hn))) r2 hq) fun r s' hq' => ?_))
  have := endS tkX I2 hq'
  cases r with
  | error e => exact this
  | ok fl =>
    cases fl with
    | ret u =>
      obtain ⟨v, H', I3, rv, ev, q3⟩ := this
      subst ev
      exact ⟨rv, V.ref (s1.heap.objs.size + 1), H', I3, rfl, q3⟩
    | next => exact False.elim this
    | brk => exact False.elim this
    | cont => exact False.elim this
end
end N
set_option Elab.async false
set_option linter.all false
set_option maxRecDepth 100000
set_option maxHeartbeats 1000000
/-! Exceptions over plain data: the judgements. -/
namespace N
open PySem PySem.Spec PyProof.Rows L2
/-- how an exception leaves: the class, the place of its dict, slots, owned cells (its dict among them) -/
abbrev EX := Nat → Addr → Gm → Om → Prop
abbrev FX := List D → Om → (D → Om → Prop) → (Nat → Addr → Om → Prop) → Prop
section
variable (F : FmKit) (T : Kx)
def XOk (C H : Hp) (ex : EX) (W0 : WX) : Prop := ∀ c d G W H' O' σ, ex c d G W → Nx F T C W H H' O' → Lo F T H' G σ → W0 (.ref (T.cl c)) (some d) σ (ov O' H')
def EvX (W0 : WX) (te : TE) (G : Gm) (W : Om) (R : D → Om → Prop) (ex : EX) : Prop :=
  ∀ (C H O : Hp) (σ : L2.St), Wd F T C G W H O σ → XOk F T C H ex W0 → ∀ Q : VK, (∀ d W' H' O' v, R d W' → Nx F T C W' H H' O' → Den F T H' d v → Q v (ov O' H')) → te σ (ov O H) Q
def EvAX (W0 : WX) (ta : TA) (G : Gm) (W : Om) (R : List D → Om → Prop) (ex : EX) : Prop :=
  ∀ (C H O : Hp) (σ : L2.St), Wd F T C G W H O σ → XOk F T C H ex W0 → ∀ Q : List V → Hp → Prop, (∀ ds W' H' O' vs, R ds W' → Nx F T C W' H H' O' → DenL F T H' ds vs → Q vs (ov O' H')) → ta σ (ov O H) Q
def SwX (W0 : WX) (ts : TS) (G : Gm) (W : Om) (E : En) (ex : EX) : Prop :=
  ∀ (C H O : Hp) (σ : L2.St), Wd F T C G W H O σ → XOk F T C H ex W0 → ∀ B : Ends, EnOk F T C H E B → ts B σ (ov O H)
def spX (S : FX) : Sp := fun vs X Q E => ∃ (ds : List D) (W : Om) (C H O : Hp) (post : D → Om → Prop) (ex : Nat → Addr → Om → Prop), X = ov O H ∧ Dis O H ∧ Same C O ∧ Ow F T H C O W ∧ DenL F T H ds vs ∧ S ds W post ex ∧
  (∀ d W' H' O' v, post d W' → Nx F T C W' H H' O' → Den F T H' d v → Q v (ov O' H')) ∧ ∀ c d W' H' O', ex c d W' → Nx F T C W' H H' O' → E (.ref (T.cl c)) (some d) (ov O' H')
end
section
variable {F : FmKit} {T : Kx} {C H H' O O' : Hp} {G : Gm} {W W' : Om} {σ : L2.St} {a p : Addr} {od : OD} {d : D} {l : List D}
  {te ta tb : TE} {t u : TT} {R R' : D → Om → Prop} {Z : Bool → Om → Prop} {tr tk : TA} {ts tz : TS} {En1 E : En} {ex ex' : EX} {W0 : WX} {S : FX}
theorem XOk.up (h : XOk F T C H ex W0) (e : Same H H') : XOk F T C H' ex W0 := fun c d G W H2 O' σ x n l => h c d G W H2 O' σ x ⟨e.trans n.ext, n.dis, n.oc, n.own⟩ l
theorem evx_of (h : Ev F T te G W R) : EvX F T W0 te G W R ex := fun C H O σ w _ Q q => h C H O σ w Q q
theorem evax_of {Y : List D → Om → Prop} (h : EvA F T tr G W Y) : EvAX F T W0 tr G W Y ex := fun C H O σ w _ Q q => h C H O σ w Q q
theorem swx_of (h : Sw F T ts G W E) : SwX F T W0 ts G W E ex := fun C H O σ w _ B b => h C H O σ w B b
theorem sw_ofX (h : SwX F T W0 ts G W E fun _ _ _ _ => False) : Sw F T ts G W E := fun C H O σ w B b => h C H O σ w (fun _ _ _ _ _ _ _ z => z.elim) B b
theorem evx_imp (h : EvX F T W0 te G W R ex) (i : ∀ d W', R d W' → R' d W') : EvX F T W0 te G W R' ex := fun C H O σ w x Q q => h C H O σ w x Q fun d W' H' O' v r n k => q d W' H' O' v (i d W' r) n k
theorem XOk.imp (h : XOk F T C H ex' W0) (i : ∀ c d G W, ex c d G W → ex' c d G W) : XOk F T C H ex W0 := fun c d G W H2 O' σ x n l => h c d G W H2 O' σ (i c d G W x) n l
/-! ### expressions -/
theorem evax_nil {Y : List D → Om → Prop} (r : Y [] W) : EvAX F T W0 tNil G W Y ex := evax_of (ea_nil r)
theorem evax_cons {Y : List D → Om → Prop} (h : EvX F T W0 ta G W (fun d W1 => EvAX F T W0 tr G W1 (fun ds W2 => Y (d :: ds) W2) ex) ex) : EvAX F T W0 (tCons ta tr) G W Y ex := fun C H O σ w x Q q =>
  h C H O σ w x _ fun d W1 H1 O1 v h1 n1 k1 => h1 C H1 O1 σ (w.step n1) (x.up n1.ext) _ fun ds W2 H2 O2 vs h2 n2 k2 => q (d :: ds) W2 H2 O2 (v :: vs) h2 (n1.trans n2) ⟨v, vs, rfl, k1.mono n2.ext, k2⟩
theorem evx_cb {r : List V → Hp → VK → Prop} (h : EvAX F T W0 tr G W (fun ds W1 => Ca F T r ds W1 R) ex) : EvX F T W0 (tCB r tr) G W R ex := fun C H O σ w x Q q =>
  h C H O σ w x _ fun ds W1 H1 O1 vs h1 n1 k1 => h1 C H1 O1 n1.dis n1.oc n1.own vs k1 Q fun d W' H' O' v rr n k => q d W' H' O' v rr (n1.trans n) k
theorem evx_lstF (h : EvAX F T W0 tr G W (fun ds W1 => ds.length ≤ sizeLine ∧ R (.lst ds) W1) ex) : EvX F T W0 (tLst tr) G W R ex := fun C H O σ w x Q q =>
  h C H O σ w x _ fun ds W1 H1 O1 vs ⟨hl, r⟩ n k => ⟨by rw [k.len]; exact hl, fun p hp => by
    obtain ⟨n2, e, s⟩ := n.newF (o := .lst vs) hp
    rw [e]
    exact q (.lst ds) W1 _ _ _ r n2 ⟨p, vs, rfl, upd_same, k.mono s⟩⟩
theorem evx_if (h : EvT F T t G W fun b W1 => if b = true then EvX F T W0 ta G W1 R ex else EvX F T W0 tb G W1 R ex) : EvX F T W0 (tIf t ta tb) G W R ex := fun C H O σ w x Q q =>
  h C H O σ w _ fun b W1 H1 O1 s n => by
    cases b with
    | true => exact s C H1 O1 σ (w.step n) (x.up n.ext) _ fun d W2 H2 O2 v s2 n2 k2 => q d W2 H2 O2 v s2 (n.trans n2) k2
    | false => exact s C H1 O1 σ (w.step n) (x.up n.ext) _ fun d W2 H2 O2 v s2 n2 k2 => q d W2 H2 O2 v s2 (n.trans n2) k2
theorem evx_fz (h : EvX F T W0 te G W (Fz F R) ex) : EvX F T W0 te G W R ex := fun C H O σ w x Q q => h C H O σ w x Q fun d W' H' O' v ⟨a, od, W2, d', e, hp, z, r⟩ n k => by
  subst e
  have k : v = .ref a := k
  subst k
  obtain ⟨o, _, n2, eo, k2, _⟩ := n.freeze hp z
  rw [eo]
  exact q d' W2 _ _ _ r n2 k2
/-! ### statements -/
theorem swx_seq (h : SwX F T W0 ts G W { E with nx := fun G' W' => SwX F T W0 tz G' W' E ex } ex) : SwX F T W0 (tSeq ts tz) G W E ex := fun C H O σ w x B b =>
  h C H O σ w x { B with nx := tz B } ⟨fun G' W' H' O' σ' a n l => a C H' O' σ' ⟨n.dis, n.oc, l, n.own⟩ (x.up n.ext) B (b.up n.ext), b.rt, b.bk, b.ct⟩
theorem swx_if (h : EvT F T t G W fun c W' => if c = true then SwX F T W0 ts G W' E ex else SwX F T W0 tz G W' E ex) : SwX F T W0 (tIfS t ts tz) G W E ex := fun C H O σ w x B b =>
  h C H O σ w _ fun c W' H' O' r n => by
    cases c with
    | true => exact r C H' O' σ (w.step n) (x.up n.ext) B (b.up n.ext)
    | false => exact r C H' O' σ (w.step n) (x.up n.ext) B (b.up n.ext)
theorem swx_set {i : Nat} (h : EvX F T W0 te G W (fun d W' => E.nx (G.set i (some d)) W') ex) : SwX F T W0 (tAsg te (gName i)) G W E ex := fun C H O σ w x B b =>
  h C H O σ w x _ fun d W' H' O' v r n k => b.nx _ W' H' O' _ r n ((w.loc.mono n.ext).set k)
theorem swx_asg {g : TG} (h : EvX F T W0 te G W (fun d W' => Ta F T g d G W' fun G2 W2 => E.nx G2 W2) ex) : SwX F T W0 (tAsg te g) G W E ex := fun C H O σ w x B b =>
  h C H O σ w x _ fun d W' H' O' v r n k => r C H' O' σ (w.step n) v k _ fun G2 W2 H2 O2 σ2 r2 n2 l2 => b.nx G2 W2 H2 O2 σ2 r2 (n.trans n2) l2
theorem swx_ret (h : EvX F T W0 te G W E.rt ex) : SwX F T W0 (tRet te) G W E ex := fun C H O σ w x B b =>
  h C H O σ w x _ fun d W' H' O' v r n k => b.rt d W' H' O' v r n k
theorem swx_drop (h : EvX F T W0 te G W (fun _ W' => E.nx G W') ex) : SwX F T W0 (tDrop te) G W E ex := fun C H O σ w x B b =>
  h C H O σ w x _ fun d W' H' O' v r n k => b.nx G W' H' O' σ r n (w.loc.mono n.ext)
theorem swx_next (h : E.nx G W) : SwX F T W0 tNext G W E ex := swx_of (sw_next h)
theorem swx_brk (h : E.bk G W) : SwX F T W0 tBreak G W E ex := swx_of (sw_brk h)
theorem swx_cont (h : E.ct G W) : SwX F T W0 tCont G W E ex := swx_of (sw_cont h)
theorem swx_retN (h : E.rt .non W) : SwX F T W0 tRetN G W E ex := swx_of (sw_retN h)
theorem swx_par {i j : Nat} (h : EvA F T tr G W fun ds W' => ∃ d1 d2, ds = [d1, d2] ∧ E.nx ((G.set i (some d1)).set j (some d2)) W') : SwX F T W0 (tPar i j tr) G W E ex := swx_of (sw_par h)
theorem swx_fld {n : Str} (h : Ev F T tb G W fun z W1 => Ev F T ta G W1 fun d W2 => Rcv F T d z n W2 (E.nx G)) : SwX F T W0 (sFld T.K ta tb n) G W E ex := swx_of (sw_fld h)
theorem swx_drp {W2 : Om} (hs : W2.Sublist W) (h : SwX F T W0 ts G W2 E ex) : SwX F T W0 ts G W E ex := fun C H O σ w x B b => h C H O σ ⟨w.dis, w.oc, w.loc, w.own.sub hs⟩ x B b
theorem swx_perm {W2 : Om} (hs : W.Perm W2) (h : SwX F T W0 ts G W2 E ex) : SwX F T W0 ts G W E ex := fun C H O σ w x B b => h C H O σ ⟨w.dis, w.oc, w.loc, w.own.perm hs⟩ x B b
theorem swx_for {wi : TI} {g : TG} (h : EvI F T wi G W fun ds W1 => ∃ I : Nat → Gm → Om → Prop, I 0 G W1 ∧
      (∀ i d G' W', ds[i]? = some d → I i G' W' → Tg F T g d G' fun G2 => SwX F T W0 ts G2 W' { E with nx := I (i + 1), ct := I (i + 1), bk := E.nx } ex) ∧ (∀ G' W', I ds.length G' W' → E.nx G' W')) :
    SwX F T W0 (tFor wi g ts) G W E ex := fun C H O σ w x B b =>
  h C H O σ w _ fun J ds W1 H1 O1 ⟨I, i0, turn, fin⟩ n1 wk => by
    refine ⟨fun i m σ' X => m = ds.length - i ∧ i ≤ ds.length ∧ ∃ G' W' H' O', X = ov O' H' ∧ Nx F T C W' H1 H' O' ∧ Lo F T H' G' σ' ∧ I i G' W', ⟨ds.length, by simp, Nat.zero_le _, G, W1, H1, O1, rfl, ⟨Same.refl _, n1.dis, n1.oc, n1.own⟩, w.loc.mono n1.ext, i0⟩, ?_⟩
    rintro i m σ' X ⟨rfl, hi, G', W', H', O', rfl, n, l, ii⟩
    have k := wk i H' O' n.ext n.dis
    by_cases hlt : i < ds.length
    · obtain ⟨k1, k2⟩ := k.1 ds[i] (by simp [hlt])
      refine .inr ⟨k1, fun σ2 X2 => ∃ G2 W2 H2 O2, X2 = ov O2 H2 ∧ Nx F T C W2 H1 H2 O2 ∧ Lo F T H2 G2 σ2 ∧ I (i + 1) G2 W2, fun σ2 X2 ⟨G2, W2, H2, O2, e, n2, l2, i2⟩ => ⟨ds.length - (i + 1), by omega, rfl, hlt, G2, W2, H2, O2, e, n2, l2, i2⟩, fun x2 X2 y => ?_⟩
      obtain ⟨H2, s2, d2, rfl, kx⟩ := k2 x2 X2 y
      refine turn i ds[i] G' W' (by simp [hlt]) ii H2 _ σ' x2 (l.mono s2) d2.same kx _ fun G3 σ3 sw l3 => ?_
      refine sw C H2 O' σ3 ⟨d2, n.oc, l3, n.own.mono s2⟩ (x.up ((n1.ext.trans n.ext).trans s2)) _ ⟨fun G4 W4 H4 O4 σ4 a n4 l4 => ⟨G4, W4, H4, O4, rfl, ⟨(n.ext.trans s2).trans n4.ext, n4.dis, n4.oc, n4.own⟩, l4, a⟩, ?_, ?_, fun G4 W4 H4 O4 σ4 a n4 l4 => ⟨G4, W4, H4, O4, rfl, ⟨(n.ext.trans s2).trans n4.ext, n4.dis, n4.oc, n4.own⟩, l4, a⟩⟩
      · exact fun d W4 H4 O4 v a n4 k4 => b.rt d W4 H4 O4 v a ⟨((n1.ext.trans n.ext).trans s2).trans n4.ext, n4.dis, n4.oc, n4.own⟩ k4
      · exact fun G4 W4 H4 O4 σ4 a n4 l4 => b.nx G4 W4 H4 O4 σ4 a ⟨((n1.ext.trans n.ext).trans s2).trans n4.ext, n4.dis, n4.oc, n4.own⟩ l4
    · have e : i = ds.length := by omega
      subst e
      exact .inl ⟨k.2 rfl, b.nx G' W' H' O' σ' (fin G' W' ii) ⟨n1.ext.trans n.ext, n.dis, n.oc, n.own⟩ l⟩
theorem swx_while (I : Nat → Gm → Om → Prop) (m0 : Nat) (i0 : I m0 G W)
    (turn : ∀ m G' W', I m G' W' → EvT F T t G' W' fun c W2 => if c = true then SwX F T W0 ts G' W2 { E with nx := fun G3 W3 => ∃ m', m' < m ∧ I m' G3 W3, ct := fun G3 W3 => ∃ m', m' < m ∧ I m' G3 W3, bk := E.nx } ex else E.nx G' W2) :
    SwX F T W0 (tWhile t ts) G W E ex := fun C H O σ w x B b => by
  refine ⟨fun m σ' X => ∃ G' W' H' O', X = ov O' H' ∧ Nx F T C W' H H' O' ∧ Lo F T H' G' σ' ∧ I m G' W', ⟨m0, G, W, H, O, rfl, w.nx, w.loc, i0⟩, ?_⟩
  rintro m σ' X ⟨G', W', H', O', rfl, n, l, ii⟩
  refine turn m G' W' ii C H' O' σ' ⟨n.dis, n.oc, l, n.own⟩ _ fun c W2 H2 O2 r n2 => ?_
  cases c with
  | true =>
    refine ⟨fun σ3 X3 => ∃ G3 W3 H3 O3, X3 = ov O3 H3 ∧ Nx F T C W3 H H3 O3 ∧ Lo F T H3 G3 σ3 ∧ ∃ m', m' < m ∧ I m' G3 W3, fun σ3 X3 ⟨G3, W3, H3, O3, e, n3, l3, m', hm, i3⟩ => ⟨m', hm, G3, W3, H3, O3, e, n3, l3, i3⟩, ?_⟩
    exact r C H2 O2 σ' ⟨n2.dis, n2.oc, l.mono n2.ext, n2.own⟩ (x.up (n.ext.trans n2.ext)) _ ⟨fun G4 W4 H4 O4 σ4 a n4 l4 => ⟨G4, W4, H4, O4, rfl, (n.trans n2).trans n4, l4, a⟩, fun d W4 H4 O4 v a n4 k4 => b.rt d W4 H4 O4 v a ((n.trans n2).trans n4) k4,
      fun G4 W4 H4 O4 σ4 a n4 l4 => b.nx G4 W4 H4 O4 σ4 a ((n.trans n2).trans n4) l4, fun G4 W4 H4 O4 σ4 a n4 l4 => ⟨G4, W4, H4, O4, rfl, (n.trans n2).trans n4, l4, a⟩⟩
  | false => exact b.nx G' W2 H2 O2 σ' r (n.trans n2) (l.mono n2.ext)
/-! ### what a call hands over -/
theorem frame {Wc Wf : Om} (di : Dis O H) (oc : Same C O) (ow : Ow F T H C O (Wc ++ Wf)) : ∃ C', Same C' O ∧ Ow F T H C' O Wc ∧ ∀ W' H' O', Nx F T C' W' H H' O' → Nx F T C (W' ++ Wf) H H' O' := by
  have nd := ow.nd
  have nd2 : (akeys Wc ++ akeys Wf).Nodup := by
    have e : akeys (Wc ++ Wf) = akeys Wc ++ akeys Wf := by simp [akeys]
    rw [← e]
    exact nd
  rw [List.nodup_append] at nd2
  obtain ⟨ndc, ndf, dj⟩ := nd2
  have inF : ∀ b, b ∈ akeys Wf → ∃ od, (b, od) ∈ Wf := fun b hb => by
    obtain ⟨x, hx, e⟩ := List.mem_map.mp hb
    exact ⟨x.2, by rw [← e]; exact hx⟩
  have atF : ∀ b od, (b, od) ∈ Wf → C b = none ∧ OdAt F T H (O b) od := fun b od m => ow.at_ b od (List.mem_append_right _ m)
  refine ⟨fun b => if b ∈ akeys Wf then O b else C b, fun b o e => ?_, ⟨ndc, fun a od m => ?_⟩, fun W' H' O' n => ⟨n.ext, n.dis, fun b o e => ?_, ⟨?_, fun a od m => ?_⟩⟩⟩
  · by_cases hb : b ∈ akeys Wf
    · simp only [if_pos hb] at e
      exact e
    · simp only [if_neg hb] at e
      exact oc b o e
  · have hn : a ∉ akeys Wf := fun z => dj a (mem_akeys m) a z rfl
    rw [if_neg hn]
    exact ow.at_ a od (List.mem_append_left _ m)
  · refine n.oc b o ?_
    by_cases hb : b ∈ akeys Wf
    · obtain ⟨od, m⟩ := inF b hb
      rw [(atF b od m).1] at e
      cases e
    · rw [if_neg hb]
      exact e
  · have e : akeys (W' ++ Wf) = akeys W' ++ akeys Wf := by simp [akeys]
    rw [e, List.nodup_append]
    refine ⟨n.own.nd, ndf, fun x hx y hy exy => ?_⟩
    subst exy
    obtain ⟨z, hz, ez⟩ := List.mem_map.mp hx
    have h1 := (n.own.at_ z.1 z.2 hz).1
    rw [ez, if_pos hy] at h1
    obtain ⟨od, m⟩ := inF _ hy
    obtain ⟨o, eo⟩ := (atF _ od m).2.some
    rw [h1] at eo
    cases eo
  · rcases List.mem_append.mp m with m | m
    · obtain ⟨h1, h2⟩ := n.own.at_ a od m
      refine ⟨?_, h2⟩
      by_cases hb : a ∈ akeys Wf
      · obtain ⟨od', m'⟩ := inF a hb
        exact (atF a od' m').1
      · rw [if_neg hb] at h1
        exact h1
    · obtain ⟨h1, h2⟩ := atF a od m
      obtain ⟨o, eo⟩ := h2.some
      have e2 : O' a = some o := n.oc a o (by rw [if_pos (mem_akeys (x := (a, od)) m)]; exact eo)
      rw [eo] at h2
      rw [e2]
      exact ⟨h1, h2.mono n.ext⟩
def HandX (S : FX) (ds : List D) (W : Om) (R : D → Om → Prop) (rx : Nat → Addr → Om → Prop) : Prop := ∃ Wc Wf, W.Perm (Wc ++ Wf) ∧ S ds Wc (fun d W' => R d (W' ++ Wf)) fun c d W' => rx c d (W' ++ Wf)
variable {rx : Nat → Addr → Om → Prop}
theorem handX0 {ds : List D} (h : S ds [] (fun d W' => R d (W' ++ W)) fun c d W' => rx c d (W' ++ W)) : HandX S ds W R rx := ⟨[], W, List.Perm.refl _, h⟩
theorem handXA {ds : List D} (h : S ds W R rx) : HandX S ds W R rx := ⟨W, [], by rw [List.append_nil], by simpa only [List.append_nil] using h⟩
theorem HandX.run {ds : List D} {vs : List V} {Q : VK} {XE : XK} (h : HandX S ds W R rx) (di : Dis O H) (oc : Same C O) (ow : Ow F T H C O W) (k : DenL F T H ds vs) (q : ∀ d W' H' O' v, R d W' → Nx F T C W' H H' O' → Den F T H' d v → Q v (ov O' H'))
    (x : ∀ c d W' H' O', rx c d W' → Nx F T C W' H H' O' → XE (.ref (T.cl c)) (some d) (ov O' H')) : spX F T S vs (ov O H) Q XE := by
  obtain ⟨Wc, Wf, hp, hs⟩ := h
  obtain ⟨C', h1, h2, h3⟩ := frame di oc (ow.perm hp)
  exact ⟨ds, Wc, C', H, O, _, _, rfl, di, h1, h2, k, hs, fun d W' H' O' v r n kd => q d _ H' O' v r (h3 W' H' O' n) kd, fun c d W' H' O' r n => x c d _ H' O' r (h3 W' H' O' n)⟩
theorem evx_call (h : EvA F T tr G W fun ds W1 => HandX S ds W1 R fun c d W' => ex c d G W') : EvX F T W0 (tCallS (spX F T S) (WE W0) tr) G W R ex := fun C H O σ w x Q q =>
  h C H O σ w _ fun ds W1 H1 O1 vs h1 n k => h1.run n.dis n.oc n.own k (fun d W' H' O' v r n2 kd => q d W' H' O' v r (n.trans n2) kd) fun c d W' H' O' r n2 => x c d G W' H' O' σ r (n.trans n2) (w.loc.mono (n.trans n2).ext)
theorem evx_cm {c : Nat} (h : Ev F T te G W fun d W1 => d = .adr (T.cl c) ∧ EvA F T tr G W1 fun ds W2 => HandX S (.adr (T.cl c) :: ds) W2 R fun c d W' => ex c d G W') : EvX F T W0 (tCmS (T.cl c) (spX F T S) (WE W0) te tr) G W R ex := fun C H O σ w x Q q =>
  h C H O σ w _ fun d W1 H1 O1 y ⟨ed, ha⟩ n1 k1 => by
    subst ed
    exact ⟨k1, ha C H1 O1 σ (w.step n1) _ fun ds W2 H2 O2 vs hh n2 k2 => hh.run n2.dis n2.oc n2.own ⟨_, _, rfl, rfl, k2⟩ (fun d W' H' O' v r n3 kd => q d W' H' O' v r ((n1.trans n2).trans n3) kd)
      fun c d W' H' O' r n3 => x c d G W' H' O' σ r ((n1.trans n2).trans n3) (w.loc.mono ((n1.trans n2).trans n3).ext)⟩
theorem evx_cmk {c n : Nat} {gV : List V → List V → List V} (h : Ev F T te G W fun d W1 => d = .adr (T.cl c) ∧ EvA F T tk G W1 fun ds W2 => ds.length = n ∧ ∃ as, (∀ H x zs, Den F T H d x → DenL F T H ds zs → DenL F T H as (gV [x] zs)) ∧ HandX S as W2 R fun c d W' => ex c d G W') :
    EvX F T W0 (tCmKS (T.cl c) n (spX F T S) gV (WE W0) te tk) G W R ex := fun C H O σ w x Q q =>
  h C H O σ w _ fun d W1 H1 O1 y ⟨ed, ha⟩ n1 k1 => by
    subst ed
    refine ⟨k1, ha C H1 O1 σ (w.step n1) _ fun ds W2 H2 O2 vs ⟨hl, as, hg, hh⟩ n2 k2 => ⟨by rw [k2.len]; exact hl, ?_⟩⟩
    exact hh.run n2.dis n2.oc n2.own (hg H2 _ vs rfl k2) (fun d W' H' O' v r n3 kd => q d W' H' O' v r ((n1.trans n2).trans n3) kd)
      fun c d W' H' O' r n3 => x c d G W' H' O' σ r ((n1.trans n2).trans n3) (w.loc.mono ((n1.trans n2).trans n3).ext)
/-- a new instance is handed to a raising __init__ -/
theorem run_makeX {c : Nat} {as : Addr → List D} {vs : Addr → List V} {x dx : Addr} {Q : VK} {XE : XK} (n : Nx F T C W H H' O') (k : ∀ H2 x, Same H' H2 → DenL F T H2 (as x) (vs x)) (h : ∀ x, x ∉ akeys W → HandX S (as x) ((x, .ins c [] []) :: W) (fun d W' => d = .non ∧ R (.adr x) W') rx)
    (hx : ov O' H' x = none) (hdx : ov O' H' dx = none) (ne : dx ≠ x) (q : ∀ d W2 H2 O2 v, R d W2 → Nx F T C W2 H H2 O2 → Den F T H2 d v → Q v (ov O2 H2)) (xq : ∀ c d W2 H2 O2, rx c d W2 → Nx F T C W2 H H2 O2 → XE (.ref (T.cl c)) (some d) (ov O2 H2)) :
    spX F T S (vs x) (upd (upd (ov O' H') dx (.own x)) x (.ins (T.cl c) dx [])) (fun v H2 => v = .non ∧ Q (.ref x) H2) XE := by
  obtain ⟨n2, e2, s2⟩ := n.newF (o := .own x) hdx
  rw [e2]
  have hx2 : ov O' (upd H' dx (.own x)) x = none := by rw [← e2, upd_ne ne.symm]; exact hx
  obtain ⟨n3, e3, np⟩ := n2.newO (od := .ins c [] []) (o := .ins (T.cl c) dx []) hx2 ⟨dx, [], rfl, rfl, rfl⟩
  rw [e3]
  refine (h x np).run n3.dis n3.oc n3.own (k _ x s2) (fun d W' H2 O2 v ⟨e, r⟩ n4 kd => ?_) fun c d W' H2 O2 r n4 => xq c d W' H2 O2 r (n3.trans n4)
  subst e
  exact ⟨kd, q (.adr x) W' H2 O2 _ r (n3.trans n4) rfl⟩
theorem evx_mk {c : Nat} (h : EvA F T tr G W fun ds W1 => ∀ x, x ∉ akeys W1 → HandX S (.adr x :: ds) ((x, .ins c [] []) :: W1) (fun d W' => d = .non ∧ R (.adr x) W') fun c d W' => ex c d G W') : EvX F T W0 (tMakS (T.cl c) (spX F T S) (WE W0) tr) G W R ex := fun C H O σ w xo Q q =>
  h C H O σ w _ fun ds W1 H1 O1 vs h1 n k x dx hx hdx ne => run_makeX (as := fun x => .adr x :: ds) (vs := fun x => .ref x :: vs) n (fun H2 x s => ⟨_, _, rfl, rfl, k.mono s⟩) h1 hx hdx ne q
    fun c d W' H' O' r n2 => xo c d G W' H' O' σ r n2 (w.loc.mono n2.ext)
theorem evx_mkk {c m : Nat} {gV : List V → List V → List V} (h : EvA F T tk G W fun ds W1 => ds.length = m ∧ ∃ as : Addr → List D, (∀ H x zs, DenL F T H ds zs → DenL F T H (as x) (gV [.ref x] zs)) ∧ ∀ x, x ∉ akeys W1 → HandX S (as x) ((x, .ins c [] []) :: W1) (fun d W' => d = .non ∧ R (.adr x) W') fun c d W' => ex c d G W') :
    EvX F T W0 (tMakKS (T.cl c) m (spX F T S) gV (WE W0) tk) G W R ex := fun C H O σ w xo Q q =>
  h C H O σ w _ fun ds W1 H1 O1 vs ⟨hl, as, hg, h1⟩ n k => ⟨by rw [k.len]; exact hl, fun x dx hx hdx ne => run_makeX (as := as) (vs := fun x => gV [.ref x] vs) n (fun H2 x s => hg H2 x vs (k.mono s)) h1 hx hdx ne q
    fun c d W' H' O' r n2 => xo c d G W' H' O' σ r n2 (w.loc.mono n2.ext)⟩
/-! ### raise, try -/
theorem swx_raise {c : Nat} {f : Str} (h : EvA F T tr G W fun ds W1 => ∃ z, ds = [z] ∧ ∀ d, d ∉ akeys W1 → ex c d G ((d, .xd [f] [z]) :: W1)) :
    SwX F T W0 (fun _ σ H => tMkO (T.cl c) (spEr (T.cl c) f) [] tr σ H fun cls d H' => W0 cls d σ H') G W E ex := fun C H O σ w xo B b =>
  h C H O σ w _ fun ds W1 H1 O1 vs ⟨z, e, hz⟩ n k => by
    subst e
    obtain ⟨v, r', e1, k1, e2⟩ := k
    have e2 : r' = [] := e2
    subst e2 e1
    refine ⟨by simp, fun a ha => ⟨a, v, rfl, upd_same, fun dx h1 h2 => ⟨rfl, dx, [(f, v)], upd_same, ?_, ?_, ?_⟩⟩⟩
    · rw [upd_ne h2, upd_same]
    · rwa [upd_ne h2] at h1
    · have h3 : ov O1 H1 dx = none := by rwa [upd_ne h2] at h1
      have e : upd (del (upd (upd (upd (ov O1 H1) a (exo a (T.cl c) none)) dx (exd dx [(f, v)])) a (exo a (T.cl c) (some dx))) a) dx (.xd [(f, v)]) = upd (ov O1 H1) dx (.xd [(f, v)]) := by
        funext y
        by_cases hy : y = dx
        · rw [hy, upd_same, upd_same]
        · rw [upd_ne hy, upd_ne hy]
          unfold del
          by_cases ha2 : y = a
          · rw [if_pos ha2, ha2, ha]
          · rw [if_neg ha2, upd_ne ha2, upd_ne hy, upd_ne ha2]
      show W0 _ _ σ (upd (L2.del _ a) dx _)
      have e' := e
      obtain ⟨n2, e3, np⟩ := n.newO (od := .xd [f] [z]) (o := .xd [(f, v)]) h3 ⟨[(f, v)], rfl, rfl, .one k1⟩
      rw [show upd (L2.del (upd (upd (upd (ov O1 H1) a (exo a (T.cl c) none)) dx (exd dx [(f, v)])) a (exo a (T.cl c) (some dx))) a) dx (.xd [(f, v)]) = upd (ov O1 H1) dx (.xd [(f, v)]) from e', e3]
      exact xo c dx G _ _ _ σ (hz dx np) n2 (w.loc.mono n2.ext)
theorem swx_try {tb : WX → TS} {sx : Addr → Value → Option Addr → TS} {cc i : Nat} {ex1 : EX} (hb : ∀ W1, SwX F T W1 (tb W1) G W E ex1)
    (hs : ∀ c d G' W', ex1 c d G' W' → ∃ b, PySem.W.exmOne T.K (.ref (T.cl c)) (.ref (T.cl cc)) = some b ∧ (b = true → ∀ a, Sw F T (sx a (.ref (T.cl c)) (some d)) (G'.set i (some (.adr a))) W'
      { nx := fun G2 W2 => E.nx (G2.set i none) W2, rt := E.rt, bk := fun G2 W2 => E.bk (G2.set i none) W2, ct := fun G2 W2 => E.ct (G2.set i none) W2 }) ∧ (b = false → ex c d G' W')) :
    SwX F T W0 (fun B σ H => tb (wAs T.K (.ref (T.cl cc)) i sx W0 B) B σ H) G W E ex := fun C H O σ w xo B b => by
  refine hb _ C H O σ w (fun c d G' W' H' O' σ' e n l => ?_) B b
  obtain ⟨bb, h1, h2, h3⟩ := hs c d G' W' e
  refine ⟨bb, h1, fun q a ha => ?_, fun q => xo c d G' W' H' O' σ' (h3 q) n l⟩
  refine h2 q a C H' O' _ ⟨n.dis, n.oc, l.set rfl, n.own⟩ _ ⟨fun G2 W2 H2 O2 σ2 z n2 l2 => b.nx _ W2 H2 O2 _ z (n.trans n2) (l2.forget none), fun d W2 H2 O2 v z n2 k2 => b.rt d W2 H2 O2 v z (n.trans n2) k2,
    fun G2 W2 H2 O2 σ2 z n2 l2 => b.bk _ W2 H2 O2 _ z (n.trans n2) (l2.forget none), fun G2 W2 H2 O2 σ2 z n2 l2 => b.ct _ W2 H2 O2 _ z (n.trans n2) (l2.forget none)⟩
theorem swx_tryG {tb : (Ends → WX) → TS} {sx : Addr → Value → Option Addr → TS} {cc i : Nat} {ex1 : EX} (hp : ∀ w B, tb w B = tb (fun _ => w B) B) (hb : ∀ W1, SwX F T W1 (tb fun _ => W1) G W E ex1)
    (hs : ∀ c d G' W', ex1 c d G' W' → ∃ b, PySem.W.exmOne T.K (.ref (T.cl c)) (.ref (T.cl cc)) = some b ∧ (b = true → ∀ a, Sw F T (sx a (.ref (T.cl c)) (some d)) (G'.set i (some (.adr a))) W'
      { nx := fun G2 W2 => E.nx (G2.set i none) W2, rt := E.rt, bk := fun G2 W2 => E.bk (G2.set i none) W2, ct := fun G2 W2 => E.ct (G2.set i none) W2 }) ∧ (b = false → ex c d G' W')) :
    ∀ wx, wAs T.K (.ref (T.cl cc)) i sx W0 = wx → SwX F T W0 (tb wx) G W E ex := by
  rintro _ rfl
  have h := swx_try (tb := fun W => tb fun _ => W) hb hs (W0 := W0) (ex := ex)
  have e : (fun B σ H => tb (fun _ => wAs T.K (.ref (T.cl cc)) i sx W0 B) B σ H) = tb (wAs T.K (.ref (T.cl cc)) i sx W0) := funext fun B => (hp _ B).symm
  rw [e] at h
  exact h
/-- e.f, e the exception that is held -/
theorem ev_xf {c : Nat} {a dd : Addr} {f : Str} (h : Ev F T te G W fun d W1 => d = .adr a ∧ ∃ ns l z, (dd, OD.xd ns l) ∈ W1 ∧ (ns.zip l).lookup f = some z ∧ R z W1) : Ev F T (tXf a (.ref (T.cl c)) (some dd) (T.cl c) f te) G W R := fun C H O σ w Q q =>
  h C H O σ w _ fun d W1 H1 O1 x ⟨e, ns, l, z, hm, hl, r⟩ n k => by
    subst e
    obtain ⟨_, fs, h1, h2, h3⟩ := n.own.at_ dd _ hm
    subst h2
    obtain ⟨v, hv, kv⟩ := look_zip h3 hl
    exact ⟨k, rfl, dd, fs, v, rfl, ov_own h1, hv, q z W1 H1 O1 v r n kv⟩
end
/-! ### from a body to a promise -/
section
variable {P : Program} {w : World} {K : PySem.W.Frag} {mg : Str → Option Value} {base : Heap} {F : FmKit} {cl : Nat → Addr} {S : FX}
/-- the wish of a def about what it lets out -/
abbrev WD (E : XK) : WX := fun cls d _ H => E cls d H
theorem spX_len {n : Nat} (len : ∀ ds W post ex, S ds W post ex → ds.length = n) : ∀ vs H Q E, spX F ⟨K, cl⟩ S vs H Q E → vs.length = n := fun vs H Q E ⟨ds, W, C, H1, O, post, ex, _, _, _, _, k, h, _⟩ => by
  rw [k.len]
  exact len ds W post ex h
theorem body_runX {N : List Str} {t : TS} {vs : List V} {H : Hp} {Q : VK} {E : XK} (h : spX F ⟨K, cl⟩ S vs H Q E) (b : ∀ ds W post ex, S ds W post ex → SwX F ⟨K, cl⟩ (WD E) t (startD N ds) W (E_ post) fun c d _ W => ex c d W) : t { nx := fun _ H' => Q .non H', rt := Q } (L2.start N vs) H := by
  obtain ⟨ds, W, C, H1, O, post, ex, e, di, oc, ow, k, hs, q, x⟩ := h
  subst e
  exact b ds W post ex hs C H1 O _ ⟨di, oc, k.lo, ow⟩ (fun c d G W' H' O' σ' r n _ => x c d W' H' O' r n) _ ⟨fun G W' H' O' σ' r n l => q .non W' H' O' .non r n rfl, fun d W' H' O' v r n kd => q d W' H' O' v r n kd, fun _ _ _ _ _ z => z.elim, fun _ _ _ _ _ z => z.elim⟩
theorem okX {x qual : Str} {st : Stmt} {f : Addr} {fd : FuncData} {N ps : List Str} {k : Nat} (Fn : Fun K x qual st f fd) (Sc : FnScope N ps (defScope st)) (len : ∀ ds W post ex, S ds W post ex → ds.length = ps.length)
    (body : ∀ (cdv : Value) (A : Around) (outer : List Env) (s : Shared) (H : Hp) (E : XK), Room k (A.deeper (envOfC qual (defScope st) s.heap.objs.size f cdv)) →
      ∃ t, PSs (cxOf (L2.CX P w) P w K mg base N qual (defScope st) f cdv A outer s H E) (defBody st) t ∧ ∀ ds W post ex, S ds W post ex → SwX F ⟨K, cl⟩ (WD E) t (startD N ds) W (E_ post) fun c d _ W => ex c d W) : FnOk P w K mg base (L2.CX P w) (k + 1) f fd ps (spX F ⟨K, cl⟩ S) :=
  Fn.okX Sc (spX_len len) fun cdv A outer s H vs Q E hr h => let ⟨t, ht, b⟩ := body cdv A outer s H E hr; ⟨t, ht, body_runX h b⟩
theorem calXD {x : Str} {st : Stmt} {f : Addr} {fd : FuncData} {N ps : List Str} {k : Nat} (hm : mg x = some (.ref f)) (Fn : Fun K x x st f fd) (Sc : FnScope N ps (defScope st)) (len : ∀ ds W post ex, S ds W post ex → ds.length = ps.length)
    (hb : ∀ (kV doc pm : Value) (an : Option Addr) (cdv ct : Value) (us : List Value), us.length = ps.length → bindArgs (PySem.W.fnOf x x (defArgs st) (defBody st) (defScope st) .none kV doc pm an cdv ct) ⟨us, []⟩ = pure (ps.zip us))
    (body : ∀ (cdv : Value) (A : Around) (outer : List Env) (s : Shared) (H : Hp) (E : XK), Room k (A.deeper (envOfC x (defScope st) s.heap.objs.size f cdv)) →
      ∃ t, PSs (cxOf (L2.CX P w) P w K mg base N x (defScope st) f cdv A outer s H E) (defBody st) t ∧ ∀ ds W post ex, S ds W post ex → SwX F ⟨K, cl⟩ (WD E) t (startD N ds) W (E_ post) fun c d _ W => ex c d W) : CalX P w K mg base (k + 1) x (spX F ⟨K, cl⟩ S) :=
  ⟨f, fd, ps, okX Fn Sc len body, hm, Fn.kp, Fn.binds hb⟩
theorem cmXD {m qual : Str} {C p : Addr} {mc : Value} {st : Stmt} {f : Addr} {fd : FuncData} {N ps ks : List Str} {g : List Value → List Value → List Value} {gV : List V → List V → List V} {k : Nat} (cr : ClX.CRead K C mc) (cm : ClX.CMet K C mc m p f) (Fn : Fun K m qual st f fd) (Sc : FnScope N ps (defScope st)) (len : ∀ ds W post ex, S ds W post ex → ds.length = ps.length)
    (hb : ∀ (kV doc pm : Value) (an : Option Addr) (cdv ct : Value) (us : List Value), us.length = ps.length → bindArgs (PySem.W.fnOf m qual (defArgs st) (defBody st) (defScope st) .none kV doc pm an cdv ct) ⟨us, []⟩ = pure (ps.zip us))
    (kb : KBn K fd ps 1 ks g gV)
    (body : ∀ (cdv : Value) (A : Around) (outer : List Env) (s : Shared) (H : Hp) (E : XK), Room k (A.deeper (envOfC qual (defScope st) s.heap.objs.size f cdv)) →
      ∃ t, PSs (cxOf (L2.CX P w) P w K mg base N qual (defScope st) f cdv A outer s H E) (defBody st) t ∧ ∀ ds W post ex, S ds W post ex → SwX F ⟨K, cl⟩ (WD E) t (startD N ds) W (E_ post) fun c d _ W => ex c d W) :
    CmX P w K mg base (k + 1) C m ks gV (spX F ⟨K, cl⟩ S) :=
  ⟨mc, p, f, fd, ps, g, cr, cm, okX Fn Sc len body, Fn.binds hb, kb⟩
theorem makXD {x qual : Str} {C : Addr} {st : Stmt} {f : Addr} {fd : FuncData} {N ps ks : List Str} {g : List Value → List Value → List Value} {gV : List V → List V → List V} {k : Nat} (mk : Mk K C f) (hm : mg x = some (.ref C)) (Fn : Fun K "__init__" qual st f fd) (Sc : FnScope N ps (defScope st)) (len : ∀ ds W post ex, S ds W post ex → ds.length = ps.length)
    (hb : ∀ (kV doc pm : Value) (an : Option Addr) (cdv ct : Value) (us : List Value), us.length = ps.length → bindArgs (PySem.W.fnOf "__init__" qual (defArgs st) (defBody st) (defScope st) .none kV doc pm an cdv ct) ⟨us, []⟩ = pure (ps.zip us))
    (kb : KBn K fd ps 1 ks g gV)
    (body : ∀ (cdv : Value) (A : Around) (outer : List Env) (s : Shared) (H : Hp) (E : XK), Room k (A.deeper (envOfC qual (defScope st) s.heap.objs.size f cdv)) →
      ∃ t, PSs (cxOf (L2.CX P w) P w K mg base N qual (defScope st) f cdv A outer s H E) (defBody st) t ∧ ∀ ds W post ex, S ds W post ex → SwX F ⟨K, cl⟩ (WD E) t (startD N ds) W (E_ post) fun c d _ W => ex c d W) :
    MakX P w K mg base (k + 1) x C ks.length ks gV (spX F ⟨K, cl⟩ S) :=
  ⟨f, fd, ps, g, mk, okX Fn Sc len body, hm, Fn.binds hb, kb, rfl⟩
end
end N
set_option Elab.async false
set_option linter.all false
set_option maxRecDepth 100000
set_option maxHeartbeats 1000000
/-! The reading of any text, plainly: what is wanted next, how far a text goes. -/
namespace N
open PySem PySem.Spec PyProof.Rows L2
/-! ### what is wanted -/
inductive Tok where
  | form | sg (c : Nat)
abbrev isL (c : Nat) : Prop := (65 ≤ c ∧ c ≤ 90) ∨ (97 ≤ c ∧ c ≤ 122)
/-- what is left where a text goes wrong or ends, and whether nothing is wanted any more -/
def lr : List Tok → List Nat → List Nat × Bool
  | [], r => (r, true)
  | .sg _ :: _, [] => ([], false)
  | .sg c :: S, x :: r => if x = c then lr S r else (x :: r, false)
  | .form :: _, [] => ([], false)
  | .form :: S, x :: r =>
    if x = 40 then lr (.form :: .sg 32 :: .sg 62 :: .sg 32 :: .form :: .sg 41 :: S) r
    else if isL x then
      if x = 97 ∧ r.head? = some 108 then lr (.sg 108 :: .sg 108 :: .sg 32 :: .form :: S) r
      else if x = 110 ∧ r.head? = some 111 then lr (.sg 111 :: S) r
      else lr S r
    else (x :: r, false)
theorem lr_nil (r : List Nat) : lr [] r = (r, true) := by cases r <;> rfl
theorem lr_form {S : List Tok} {x : Nat} {r : List Nat} : lr (.form :: S) (x :: r) =
    if x = 40 then lr (.form :: .sg 32 :: .sg 62 :: .sg 32 :: .form :: .sg 41 :: S) r
    else if isL x then
      if x = 97 ∧ r.head? = some 108 then lr (.sg 108 :: .sg 108 :: .sg 32 :: .form :: S) r
      else if x = 110 ∧ r.head? = some 111 then lr (.sg 111 :: S) r
      else lr S r
    else (x :: r, false) := rfl
theorem lr_sg {S : List Tok} {c x : Nat} {r : List Nat} : lr (.sg c :: S) (x :: r) = if x = c then lr S r else (x :: r, false) := rfl
theorem lr_sg0 {S : List Tok} {c : Nat} : lr (.sg c :: S) [] = ([], false) := rfl
/-- what is left is an end of the text -/
theorem lr_suf : ∀ (r : List Nat) (S : List Tok), ∃ x, r = x ++ (lr S r).1
  | [], [] => ⟨[], rfl⟩
  | [], .sg _ :: _ => ⟨[], rfl⟩
  | [], .form :: _ => ⟨[], rfl⟩
  | y :: r, [] => ⟨[], rfl⟩
  | y :: r, .sg c :: S => by
    rw [lr_sg]
    split
    · obtain ⟨x, h⟩ := lr_suf r S
      exact ⟨y :: x, by rw [List.cons_append, ← h]⟩
    · exact ⟨[], rfl⟩
  | y :: r, .form :: S => by
    rw [lr_form]
    have g : ∀ S', ∃ x, y :: r = x ++ (lr S' r).1 := fun S' => by
      obtain ⟨x, h⟩ := lr_suf r S'
      exact ⟨y :: x, by rw [List.cons_append, ← h]⟩
    split
    · exact g _
    · split
      · split
        · exact g _
        · split
          · exact g _
          · exact g _
      · exact ⟨[], rfl⟩
theorem lr_sgs {S : List Tok} : ∀ (w r : List Nat), lr (w.map .sg ++ S) r = if lcp w r = w.length then lr S (r.drop w.length) else (r.drop (lcp w r), false)
  | [], r => by simp [lcp]
  | c :: w, [] => by simp [lcp]; rfl
  | c :: w, x :: r => by
    show lr (.sg c :: (w.map .sg ++ S)) (x :: r) = _
    rw [lr_sg]
    unfold lcp
    by_cases h : c = x
    · subst h
      rw [if_pos rfl, if_pos rfl, lr_sgs w r]
      by_cases h2 : lcp w r = w.length
      · rw [if_pos h2, if_pos (by simp [h2])]
        rfl
      · rw [if_neg h2, if_neg (by simp [h2])]
        rfl
    · rw [if_neg (fun e => h e.symm), if_neg h, if_neg (by simp)]
      rfl
/-- what begins a text -/
inductive BR where
  | par | all | no | at (c : Nat) | bad (n : Nat)
def begOf (r : List Nat) : BR :=
  match r with
  | [] => .bad 0
  | x :: t => if x = 40 then .par else if lcp [97, 108, 108, 32] (x :: t) = 4 then .all else if 2 ≤ lcp [97, 108, 108, 32] (x :: t) then .bad (lcp [97, 108, 108, 32] (x :: t))
    else if (x :: t).take 2 = [110, 111] then .no else if isL x then .at x else .bad 0
theorem lr_beg (S : List Tok) (r : List Nat) : lr (.form :: S) r = match begOf r with
    | .par => lr (.form :: .sg 32 :: .sg 62 :: .sg 32 :: .form :: .sg 41 :: S) (r.drop 1)
    | .all => lr (.form :: S) (r.drop 4)
    | .no => lr S (r.drop 2)
    | .at _ => lr S (r.drop 1)
    | .bad n => (r.drop n, false) := by
  cases r with
  | nil => rfl
  | cons x t =>
    rw [lr_form]
    unfold begOf
    dsimp only
    by_cases h1 : x = 40
    · rw [if_pos h1, if_pos h1]
      rfl
    · rw [if_neg h1, if_neg h1]
      by_cases h2 : x = 97 ∧ t.head? = some 108
      · obtain ⟨rfl, h3⟩ := h2
        cases t with
        | nil => cases h3
        | cons y t =>
          have h3 : y = 108 := by simpa using h3
          subst h3
          rw [if_pos (by decide), if_pos ⟨rfl, rfl⟩]
          have e : lr (.sg 108 :: .sg 108 :: .sg 32 :: .form :: S) (108 :: t) = if lcp [108, 108, 32] (108 :: t) = 3 then lr (.form :: S) ((108 :: t).drop 3) else ((108 :: t).drop (lcp [108, 108, 32] (108 :: t)), false) := lr_sgs (S := .form :: S) [108, 108, 32] (108 :: t)
          have e2 : lcp [97, 108, 108, 32] (97 :: 108 :: t) = lcp [108, 108, 32] (108 :: t) + 1 := rfl
          have e3 : lcp [108, 108, 32] (108 :: t) = lcp [108, 32] t + 1 := rfl
          refine e.trans ?_
          rw [e2]
          by_cases h4 : lcp [108, 108, 32] (108 :: t) = 3
          · rw [if_pos h4, if_pos (by omega)]
            rfl
          · rw [if_neg h4, if_neg (by omega), if_pos (by omega)]
            rfl
      · have hl : ¬ 2 ≤ lcp [97, 108, 108, 32] (x :: t) := fun h => h2 (by
          unfold lcp at h
          split at h
          · next e =>
            subst e
            refine ⟨rfl, ?_⟩
            cases t with
            | nil => simp [lcp] at h
            | cons y t =>
              unfold lcp at h
              split at h
              · next e => rw [← e]; rfl
              · omega
          · omega)
        rw [if_neg h2, if_neg (show ¬ lcp [97, 108, 108, 32] (x :: t) = 4 by omega), if_neg hl]
        by_cases h5 : x = 110 ∧ t.head? = some 111
        · obtain ⟨rfl, h3⟩ := h5
          cases t with
          | nil => cases h3
          | cons y t =>
            have h3 : y = 111 := by simpa using h3
            subst h3
            have e : lr (.sg 111 :: S) (111 :: t) = lr S t := rfl
            have e2 : List.take 2 (110 :: 111 :: t) = [110, 111] := rfl
            rw [if_pos (show isL 110 by decide), if_pos ⟨rfl, rfl⟩, if_pos e2, e]
            rfl
        · have h6 : ¬ (x :: t).take 2 = [110, 111] := fun h => h5 (by
            cases t with
            | nil => simp at h
            | cons y t =>
              simp at h
              exact ⟨h.1, by rw [h.2]; rfl⟩)
          rw [if_neg h5, if_neg h6]
          by_cases h7 : isL x
          · rw [if_pos h7, if_pos h7]
            rfl
          · rw [if_neg h7, if_neg h7]
            rfl
theorem lcp_le2 : ∀ (x y : List Nat), lcp x y ≤ y.length
  | [], y => by cases y <;> simp [lcp]
  | a :: x, [] => by simp [lcp]
  | a :: x, b :: y => by
    have := lcp_le2 x y
    unfold lcp
    split
    · rw [List.length_cons]; omega
    · omega
theorem lcp_drop : ∀ (x y : List Nat), y = x.take (lcp x y) ++ y.drop (lcp x y)
  | [], y => by cases y <;> simp [lcp]
  | a :: x, [] => by simp [lcp]
  | a :: x, b :: y => by
    have := lcp_drop x y
    unfold lcp
    split
    · next e =>
      subst e
      rw [List.take_succ_cons, List.drop_succ_cons, List.cons_append, ← this]
    · rfl
theorem lcp_full {x y : List Nat} (h : lcp x y = x.length) : ∃ t, y = x ++ t := ⟨y.drop x.length, by
  have := lcp_drop x y
  rw [h, List.take_length] at this
  exact this⟩
theorem begOf_drop (r : List Nat) : match begOf r with
    | .par => ∃ t, r = 40 :: t
    | .all => ∃ t, r = [97, 108, 108, 32] ++ t
    | .no => ∃ t, r = [110, 111] ++ t
    | .at c => ∃ t, r = c :: t
    | .bad n => n ≤ r.length := by
  cases r with
  | nil => exact Nat.le_refl _
  | cons x t =>
    unfold begOf
    dsimp only
    by_cases h1 : x = 40
    · rw [if_pos h1]
      exact ⟨t, by rw [h1]⟩
    · rw [if_neg h1]
      by_cases h2 : lcp [97, 108, 108, 32] (x :: t) = 4
      · rw [if_pos h2]
        exact lcp_full h2
      · rw [if_neg h2]
        by_cases h3 : 2 ≤ lcp [97, 108, 108, 32] (x :: t)
        · rw [if_pos h3]
          exact lcp_le2 _ _
        · rw [if_neg h3]
          by_cases h4 : (x :: t).take 2 = [110, 111]
          · rw [if_pos h4]
            refine ⟨(x :: t).drop 2, ?_⟩
            rw [← h4]
            exact (List.take_append_drop 2 (x :: t)).symm
          · rw [if_neg h4]
            by_cases h5 : isL x
            · rw [if_pos h5]
              exact ⟨t, rfl⟩
            · rw [if_neg h5]
              exact Nat.zero_le _
/-! ### where a text goes wrong -/
def rdOf (s : Str) : List Nat × Bool := lr [.form] (lets s)
/-- -1 for a formula's text -/
def placeOf (s : Str) : Int := if (rdOf s).2 = true ∧ (rdOf s).1 = [] then -1 else ((s.length - (rdOf s).1.length : Nat) : Int)
/-! ### the things that are begun -/
inductive It2 where
  | al | l | r (a : Fm)
abbrev KB := List (It2 × Addr)
def itE : It2 × Addr → D
  | (.al, _) => .str "all"
  | (.l, q) => .adr q
  | (.r _, q) => .adr q
def cellsE : KB → Om
  | [] => []
  | (.al, _) :: K => cellsE K
  | (.l, q) :: K => (q, .lst []) :: cellsE K
  | (.r a, q) :: K => (q, .lst [.fm a]) :: cellsE K
def stkE (K : KB) : List D := (K.map itE).reverse
theorem stkE_cons (x : It2 × Addr) (K : KB) : stkE (x :: K) = stkE K ++ [itE x] := by simp [stkE]
theorem stkE_len (K : KB) : (stkE K).length = K.length := by simp [stkE]
/-- what is wanted behind -/
def expE : List It2 → List Tok
  | [] => []
  | .al :: K => expE K
  | .l :: K => .sg 32 :: .sg 62 :: .sg 32 :: .form :: .sg 41 :: expE K
  | .r _ :: K => .sg 41 :: expE K
/-- what was read -/
def preE : List It2 → List Nat
  | [] => []
  | .al :: K => preE K ++ [97, 108, 108, 32]
  | .l :: K => preE K ++ [40]
  | .r a :: K => preE K ++ (40 :: (tx a ++ [32, 62, 32]))
def okE : List It2 → Prop
  | [] => True
  | .al :: K => okE K
  | .l :: K => okE K
  | .r a :: K => a.okL ∧ okE K
/-! ### how many alls -/
def cl (l : List Nat) : Nat := l.count 108
theorem cl_app (x y : List Nat) : cl (x ++ y) = cl x + cl y := List.count_append
theorem alls_cl : ∀ {f : Fm}, f.okL → 2 * f.alls.length ≤ cl (tx f)
  | .at _, _ => Nat.zero_le _
  | .no, _ => Nat.zero_le _
  | .imp a b, h => by
    have h1 := alls_cl (f := a) h.1
    have h2 := alls_cl (f := b) h.2
    have h3 : (Fm.imp a b).alls.length ≤ (a.alls ++ b.alls).length := Fm.len_le (Fm.nodup_asc (Fm.alls_sub (f := .imp a b) h).2) fun x hx => by
      rcases Fm.mem_merge.mp hx with h | h
      · exact List.mem_append_left _ h
      · exact List.mem_append_right _ h
    rw [List.length_append] at h3
    have e : cl (tx (.imp a b)) = cl (tx a) + cl (tx b) := by
      rw [tx_imp]
      simp only [cl, List.count_cons, List.count_append, List.count_nil]
      simp
    omega
  | .all a, h => by
    have h1 := alls_cl (f := a) h
    have h3 : (Fm.all a).alls.length ≤ (a.alls ++ [Fm.all a]).length := Fm.len_le (Fm.nodup_asc (Fm.alls_sub (f := .all a) h).2) fun x hx => by
      rcases Fm.mem_merge.mp hx with h | h
      · exact List.mem_append_left _ h
      · exact List.mem_append_right _ h
    rw [List.length_append, List.length_singleton] at h3
    have e : cl (tx (.all a)) = cl (tx a) + 2 := by
      rw [tx_all]
      simp only [cl, List.count_cons]
      simp
    omega
theorem okF_in {f : Fm} {x y l : List Nat} (h : f.okL) (e : l = x ++ (tx f ++ y)) (hl : l.length ≤ 1000000) (hc : cl l < 128) : f.okF := by
  have h1 := alls_cl h
  have h2 : f.sz = (tx f).length := by rw [← spell_len, str_len]
  refine ⟨h, ?_, ?_⟩
  · rw [e] at hl
    simp only [List.length_append] at hl
    omega
  · rw [e, cl_app, cl_app] at hc
    omega
/-! ### isinstance(v, str) of other values -/
section
variable {F : FmKit} {T : Kx} {W : Om} {R : D → Om → Prop} {l : List D} {ks : List Key}
theorem tyd_non : TyD F T W .non (.type "NoneType") := fun C H O di ow x k => by
  have k : x = .non := k
  subst k
  exact .base .non
theorem tyd_lst : TyD F T W (.lst l) (.type "list") := fun C H O di ow x k => by
  obtain ⟨a, xs, e, hs, kl⟩ := k
  subst e
  exact .base (.lst (di.same _ _ hs))
theorem tyd_dct : TyD F T W (.dct ks l) (.type "dict") := fun C H O di ow x k => by
  obtain ⟨a, kvs, e, hs, _⟩ := k
  subst e
  exact .base (.dK (di.same _ _ hs))
/-- a value that is no text -/
inductive notStr : D → Prop
  | non : notStr .non
  | bl (b : Bool) : notStr (.bl b)
  | int (i : Int) : notStr (.int i)
  | tup (l : List D) : notStr (.tup l)
  | lst (l : List D) : notStr (.lst l)
  | dct (ks : List Key) (l : List D) : notStr (.dct ks l)
theorem isi_notStr {d : D} (h : notStr d) (r : R (.bl false) W) : Ca F T (rIsi T.K) [d, .vl (.ty "str")] W R := by
  cases h with
  | non => exact ca_isi (.ty "str") tyd_non (by unfold PySem.W.kitOne; first | rfl | decide +kernel) r
  | bl b => exact ca_isi (.ty "str") tyd_bl (by unfold PySem.W.kitOne; first | rfl | decide +kernel) r
  | int i => exact ca_isi (.ty "str") tyd_int (by unfold PySem.W.kitOne; first | rfl | decide +kernel) r
  | tup l => exact ca_isi (.ty "str") tyd_tup (by unfold PySem.W.kitOne; first | rfl | decide +kernel) r
  | lst l => exact ca_isi (.ty "str") tyd_lst (by unfold PySem.W.kitOne; first | rfl | decide +kernel) r
  | dct ks l => exact ca_isi (.ty "str") tyd_dct (by unfold PySem.W.kitOne; first | rfl | decide +kernel) r
end
/-! ### promises -/
def begX (s : Str) (p : Addr) (a : Nat) (L : List D) (post : D → Om → Prop) (ex : Nat → Addr → Om → Prop) : BR → Prop
  | .at c => isL c → post (.tup [.fm (.at c), natD (a + 1)]) [(p, .lst L)]
  | .no => post (.tup [.fm .no, natD (a + 2)]) [(p, .lst L)]
  | .all => post (.tup [.non, natD (a + 4)]) [(p, .lst (L ++ [.str "all"]))]
  | .par => ∀ q, post (.tup [.non, natD (a + 1)]) [(p, .lst (L ++ [.adr q])), (q, .lst [])]
  | .bad n => ∀ d W', (d, OD.xd ["place"] [natD (a + n)]) ∈ W' → ex 12 d W'
def S_begunX : FX := fun ds W post ex => ∃ (s : Str) (p : Addr) (a : Nat) (L : List D), ds = [.str s, .adr p, natD a] ∧ W = [(p, .lst L)] ∧ s.length ≤ 1000000 ∧ L.length ≤ 1000000 ∧ a ≤ s.length ∧ begX s p a L post ex (begOf ((lets s).drop a))
def alls4 : Nat → List Nat
  | 0 => []
  | n + 1 => [97, 108, 108, 32] ++ alls4 n
theorem alls4_len : ∀ n, (alls4 n).length = 4 * n
  | 0 => rfl
  | n + 1 => by
    show (alls4 n).length + 4 = _
    rw [alls4_len n]
    omega
theorem alls4_drop : ∀ {n j : Nat}, j ≤ n → (alls4 n).drop (4 * j) = alls4 (n - j)
  | n, 0, _ => rfl
  | 0, j + 1, h => absurd h (by omega)
  | n + 1, j + 1, h => by
    rw [show 4 * (j + 1) = 4 * j + 4 by omega]
    show (alls4 n).drop (4 * j) = _
    rw [alls4_drop (by omega : j ≤ n), show n + 1 - (j + 1) = n - j by omega]
theorem begOf_alls4 {n : Nat} (h : 0 < n) : begOf (alls4 n) = .all := by
  obtain ⟨m, rfl⟩ : ∃ m, n = m + 1 := ⟨n - 1, by omega⟩
  show begOf (97 :: 108 :: 108 :: 32 :: alls4 m) = _
  unfold begOf
  dsimp only
  rw [if_neg (by decide), if_pos]
  exact lcp_app [97, 108, 108, 32] (alls4 m)
theorem lr_alls4 : ∀ n, lr [.form] (alls4 n) = ([], false)
  | 0 => rfl
  | n + 1 => by
    rw [lr_beg, begOf_alls4 (by omega)]
    exact lr_alls4 n
/-- a text that may be read: few alls, or nothing but alls -/
def rdOk (s : Str) : Prop := s.length ≤ 1000000 ∧ (cl (lets s) < 128 ∨ ∃ n, n ≤ 1000 ∧ lets s = alls4 n)
def S_forminX : FX := fun ds W post ex => ∃ s : Str, ds = [.str s] ∧ W = [] ∧ rdOk s ∧ (∀ f : Fm, rdOf s = ([], true) → f.okF → f.spell = s → post (.fm f) []) ∧
  (¬ rdOf s = ([], true) → ∀ d W', (d, OD.xd ["place"] [natD (s.length - (rdOf s).1.length)]) ∈ W' → ex 12 d W')
/-- any value that is read -/
def S_readX (c : Addr) : FX := fun ds W post ex => ∃ v : D, ds = [.adr c, v] ∧ W = [] ∧
  ((∃ s : Str, v = .str s ∧ rdOk s ∧ (∀ f : Fm, rdOf s = ([], true) → f.okF → f.spell = s → post (.fm f) []) ∧ (¬ rdOf s = ([], true) → ∀ d W', (d, OD.xd ["place"] [natD (s.length - (rdOf s).1.length)]) ∈ W' → ex 12 d W')) ∨
   (notStr v ∧ ∀ d W', (d, OD.xd ["place"] [.int (-1)]) ∈ W' → ex 12 d W'))
end N
set_option Elab.async false
set_option linter.all false
set_option maxRecDepth 100000
namespace N
open PySem PySem.Spec PyProof.Rows L2
open C8 (Cal Met Mak InsC pe_c pe_mt pe_mt0 pe_mk)
set_option maxHeartbeats 4000000

def top (i : Nat) : Stmt := PySem.Challenge.pw_allbeneath_k05_texts_bent.main.body.getD i (.Pass ⟨0, 0, 0, 0⟩)
/-- what the module has written -/
structure ZZ (K : PySem.W.Frag) (w : World) (mg : Str → Option Value) (cl : Nat → Addr) where
  g_LETTERS : ∃ u, mg "LETTERS" = some u ∧ RelV (.str "ABCDEFGHIJKLMNOPQRSTUVWXYZabcdefghijklmnopqrstuvwxyz") u
  g_ATOM : ∃ u, mg "ATOM" = some u ∧ RelV (.str "atom") u
  g_NO : ∃ u, mg "NO" = some u ∧ RelV (.str "no") u
  g_IF : ∃ u, mg "IF" = some u ∧ RelV (.str "if") u
  g_ALL : ∃ u, mg "ALL" = some u ∧ RelV (.str "all") u
  d_PARTS_OF : Addr
  e_PARTS_OF : Array DictEntry
  n_PARTS_OF : Nat
  g_PARTS_OF : mg "PARTS_OF" = some (.ref d_PARTS_OF)
  t_PARTS_OF : KDict K w d_PARTS_OF e_PARTS_OF n_PARTS_OF
  k_PARTS_OF_atom : ∃ t, PySem.W.nsIn K d_PARTS_OF "atom" = some (some (.int 1 t))
  k_PARTS_OF_no : ∃ t, PySem.W.nsIn K d_PARTS_OF "no" = some (some (.int 0 t))
  k_PARTS_OF_if : ∃ t, PySem.W.nsIn K d_PARTS_OF "if" = some (some (.int 2 t))
  k_PARTS_OF_all : ∃ t, PySem.W.nsIn K d_PARTS_OF "all" = some (some (.int 1 t))
  g_ALL_AHEAD : ∃ u, mg "ALL_AHEAD" = some u ∧ RelV (.str "all ") u
  g_BETWEEN : ∃ u, mg "BETWEEN" = some u ∧ RelV (.str " > ") u
  g_Formula : mg "Formula" = some (.ref (cl 0))
  z0 : CZ K (cl 0) fmNames
  g_BadText : mg "BadText" = some (.ref (cl 12))
  x12 : ErC K (cl 12) "place"
  v12_12 : PySem.W.exmOne K (.ref (cl 12)) (.ref (cl 12)) = some true
local macro_rules | `(tactic| walk_at "vl") => `(tactic| first | exact .inl (.inl rfl) | exact .inr ⟨_, rfl, List.mem_cons_self⟩ | exact .inr ⟨_, rfl, List.mem_cons_of_mem _ List.mem_cons_self⟩ | exact .inr ⟨_, rfl, List.mem_cons_of_mem _ (List.mem_cons_of_mem _ List.mem_cons_self)⟩ | exact .inr ⟨_, rfl, List.mem_cons_of_mem _ (List.mem_cons_of_mem _ (List.mem_cons_of_mem _ List.mem_cons_self))⟩ | exact .inl (.inr ⟨_, rfl, rfl⟩))
local macro_rules | `(tactic| walk_at "vt") => `(tactic| first | exact .inl rfl | exact .inr ⟨_, rfl, List.mem_cons_self⟩ | exact .inr ⟨_, rfl, List.mem_cons_of_mem _ List.mem_cons_self⟩ | exact .inr ⟨_, rfl, List.mem_cons_of_mem _ (List.mem_cons_of_mem _ List.mem_cons_self)⟩ | exact .inr ⟨_, rfl, List.mem_cons_of_mem _ (List.mem_cons_of_mem _ (List.mem_cons_of_mem _ List.mem_cons_self))⟩)
local macro_rules | `(tactic| walk_at "vd") => `(tactic| first | exact .inl rfl | exact .inr ⟨_, rfl, List.mem_cons_self⟩ | exact .inr ⟨_, rfl, List.mem_cons_of_mem _ List.mem_cons_self⟩ | exact .inr ⟨_, rfl, List.mem_cons_of_mem _ (List.mem_cons_of_mem _ List.mem_cons_self)⟩ | exact .inr ⟨_, rfl, List.mem_cons_of_mem _ (List.mem_cons_of_mem _ (List.mem_cons_of_mem _ List.mem_cons_self))⟩)
local macro_rules | `(tactic| walk_at "gg") => `(tactic| first | exact getG_hd _ _ _ | (refine getG_tl (by decide +kernel) ?_; walk_at "gg"))
local macro_rules | `(tactic| walk_at "vs") => `(tactic| first | exact .inr rfl | (refine .inl ?_; walk_at "vl"))
local macro_rules | `(tactic| walk_at "nc") => `(tactic| first | omega | (unfold CMul; omega) | (unfold CDiv; omega) | (unfold CPow; decide) | (show (0 : Int) < _; omega))
local macro_rules | `(tactic| walk_at "sx") => `(tactic| first
  | with_reducible refine swx_seq ?_ | with_reducible refine swx_set ?_ | with_reducible refine swx_if ?_ | with_reducible refine swx_asg ?_ | with_reducible refine swx_ret ?_ | with_reducible refine swx_drop ?_ | with_reducible refine swx_raise ?_ | with_reducible refine swx_next ?_ | with_reducible refine swx_brk ?_ | with_reducible refine swx_cont ?_ | with_reducible refine swx_retN ?_ | with_reducible refine swx_par ?_ | with_reducible refine swx_fld ?_
  | with_reducible refine evx_call ?_ | with_reducible refine evx_cm ?_ | with_reducible refine evx_cmk ?_ | with_reducible refine evx_mk ?_ | with_reducible refine evx_mkk ?_ | with_reducible refine evx_of ?_)
local macro_rules | `(tactic| walk_at "s1") => `(tactic| first
  | with_reducible refine sw_seq ?_ | with_reducible refine sw_set ?_ | (with_reducible refine' ev_var ?h ?_); (case h => rfl) | with_reducible refine ev_c ?_ | with_reducible refine ev_op ?_
  | with_reducible refine bo_I0 ?_ | with_reducible refine ev_tup ?_ | with_reducible refine ev_lstF ?_ | with_reducible refine ev_cb ?_ | with_reducible refine ea_cons ?_ | with_reducible refine ea_nil ?_
  | with_reducible refine bo_eqI ?_ | with_reducible refine bo_neI ?_ | with_reducible refine bo_eqS ?_ | with_reducible refine bo_neS ?_ | with_reducible refine bo_eqB ?_ | with_reducible refine bo_neB ?_
  | with_reducible refine isi_str ?_ | (with_reducible refine' ca_intBt ?h1 ?_); (case h1 => decide +kernel) | (with_reducible refine' ca_intBf ?h1 ?_); (case h1 => decide +kernel) | with_reducible refine ca_intB ?_ | with_reducible refine ca_int ?_ | with_reducible refine ca_max2 ?_ | with_reducible refine ca_min2 ?_
  | with_reducible refine sw_if ?_ | with_reducible refine sw_ret ?_ | with_reducible refine sw_drop ?_ | with_reducible refine sw_setL ?_ | with_reducible refine sw_next ?_ | with_reducible refine sw_par ?_ | with_reducible refine ev_neg ?_ | with_reducible refine ev_mkF ?_ | with_reducible refine ev_inv ?_ | with_reducible refine ev_prpF ?_ | with_reducible refine ta_fld ?_ | with_reducible refine ta_name ?_ | (with_reducible refine' ta_tup ?hl ?_); (case hl => rfl) | with_reducible refine tas_cons ?_ | with_reducible refine tas_nil ?_
  | with_reducible refine et_ifE ?_ | with_reducible refine ev_orV ?_ | with_reducible refine ev_andV ?_ | with_reducible refine ev_notV ?_ | with_reducible refine et_or ?_ | with_reducible refine et_and ?_ | with_reducible refine sw_asgA ?_ | with_reducible refine sw_asg2 ?_ | with_reducible refine sw_asg3 ?_ | with_reducible refine sw_fld ?_ | with_reducible refine et_test ?_ | with_reducible refine et_B ?_ | with_reducible refine ⟨_, rfl, ?_⟩ | with_reducible refine ⟨_, _, rfl, ?_⟩ | with_reducible refine et_not ?_ | with_reducible refine ev_if ?_
  | (with_reducible refine' bo_ixL ?h1 ?h2 ?_); (case h1 => walk_at "vl"); (case h2 => rfl) | (with_reducible refine' bo_ixT ?h2 ?_); (case h2 => rfl) | with_reducible refine ev_call ?_ | ((with_reducible refine' ev_fwF ?hz ?hy ?_); (case hz => assumption); (case hy => assumption)) | (with_reducible refine' ev_fmF ?hz ?_; case hz => assumption) | with_reducible refine ev_fld ?_
  | with_reducible refine .inr ⟨_, _, rfl, FldW.below _, ?_⟩ | with_reducible refine .inr ⟨_, _, rfl, FldW.atoms _, ?_⟩ | with_reducible refine .inr ⟨_, _, rfl, FldW.bens _, ?_⟩ | with_reducible refine .inr ⟨_, _, rfl, FldW.hgts _, ?_⟩
  | with_reducible refine .inl ⟨_, _, rfl, FldF.kind _, ?_⟩ | with_reducible refine .inl ⟨_, _, rfl, FldF.parts _, ?_⟩ | with_reducible refine .inl ⟨_, _, rfl, FldF.many _, ?_⟩ | with_reducible refine .inl ⟨_, _, rfl, FldF.deep _, ?_⟩ | with_reducible refine .inl ⟨_, _, rfl, FldF.atoms _, ?_⟩ | with_reducible refine .inl ⟨_, _, rfl, FldF.bare _, ?_⟩ | with_reducible refine .inl ⟨_, _, rfl, FldF.spell _, ?_⟩ | with_reducible refine .inl ⟨_, _, rfl, FldF.alls _, ?_⟩
  | with_reducible refine ev_meth ?_ | ((with_reducible refine' ⟨_, _, inst_wb _, ?hm, ?_⟩); (case hm => decide +kernel)) | ((with_reducible refine' ⟨_, _, Inst.fm _, ?hm, ?_⟩); (case hm => decide +kernel))
  | with_reducible refine ⟨_, _, rfl, FldF.kind _, ?_⟩ | with_reducible refine ⟨_, _, rfl, FldF.parts _, ?_⟩ | with_reducible refine ⟨_, _, rfl, FldF.many _, ?_⟩ | with_reducible refine ⟨_, _, rfl, FldF.deep _, ?_⟩ | with_reducible refine ⟨_, _, rfl, FldF.atoms _, ?_⟩ | with_reducible refine ⟨_, _, rfl, FldF.bare _, ?_⟩ | with_reducible refine ⟨_, _, rfl, FldF.spell _, ?_⟩ | with_reducible refine ⟨_, _, rfl, FldF.alls _, ?_⟩
  | ((with_reducible refine' ⟨len_ok ?hl, ?_⟩); (case hl => exact Nat.le_of_ble_eq_true rfl))
  | (with_reducible refine' bo_I ?h1 ?_); (case h1 => walk_at "nc")
  | with_reducible refine ev_sl ?_ | with_reducible refine eo_none ?_ | with_reducible refine eo_some ?_ | (with_reducible refine' ca_slF ?h1 ?_); (case h1 => walk_at "vl") | with_reducible refine ev_revF ?_ | with_reducible refine ev_dget ?_ | with_reducible refine sw_dput ?_ | with_reducible refine ev_dispF ?_ | with_reducible refine eps_cons ?_ | with_reducible refine eps_nil ?_ | with_reducible refine exk_str ?_ | with_reducible refine exk_int ?_ | (with_reducible refine' dg_str ?h1 ?h2 ?_); (case h1 => walk_at "vd"); (case h2 => walk_at "gg")
  | with_reducible refine unr_cons ?_ | with_reducible refine unr_nil ?_ | with_reducible refine swu_cons ?_ | with_reducible refine swu_nil ?_ | with_reducible refine et_yes ?_ | with_reducible refine tg_name ?_ | (with_reducible refine' tw_name ?h1 ?_); (case h1 => simp) | ((with_reducible refine' ⟨acc_ok ?h1, ?_⟩); (case h1 => exact Nat.le_of_ble_eq_true rfl)) | with_reducible refine ei_tup ?_ | with_reducible refine ei_list ?_ | with_reducible refine ei_rng1 ?_
  | with_reducible refine ca_strF ?_ | with_reducible refine ca_lenF ?_ | with_reducible refine isi_tup ?_ | with_reducible refine isi_int ?_ | with_reducible refine isi_intB ?_ | with_reducible refine et_chain ?_ | with_reducible refine ev_chain ?_ | (with_reducible refine' isi_fm ?hz ?_; case hz => assumption)
  | (with_reducible refine' ca_len ?h1 ?_); (case h1 => walk_at "vs")
  | (with_reducible refine' if_so ?h1 ?_); (case h1 => first | rfl | decide +kernel) | (with_reducible refine' if_not ?h1 ?_); (case h1 => first | rfl | decide +kernel))
local macro_rules | `(tactic| walk_at "st") => `(tactic| repeat first | walk_at "s1" | walk_at "sx")
abbrev s_united : Stmt := top 15
theorem sc_united : FnScope ["one", "other"] ["one", "other"] (defScope s_united) := ⟨rfl, rfl, rfl, by decide +kernel, rfl, by decide +kernel, by decide +kernel⟩
theorem c_united {P : Program} {w : World} {K : PySem.W.Frag} {mg : Str → Option Value} {base : Heap} {cl : Nat → Addr} {f : Addr} {fd : FuncData} (hm : mg "united" = some (.ref f)) (B : Blt mg) (Z : ZZ K w mg cl) (Fn : Fun K "united" "united" s_united f fd) : Cal P w K mg base 1 "united" (spN FK ⟨K, cl⟩ S_united) [] := by
  have fz := Z.z0
  refine calD hm Fn sc_united (by intro ds W post h; first | (obtain ⟨rfl, _⟩ := h; rfl) | (obtain ⟨_, rfl, _⟩ := h; rfl) | (obtain ⟨_, _, rfl, _⟩ := h; rfl) | (obtain ⟨_, _, _, rfl, _⟩ := h; rfl) | (obtain ⟨_, _, _, _, rfl, _⟩ := h; rfl) | (obtain ⟨_, _, _, _, _, rfl, _⟩ := h; rfl) | (obtain ⟨_, _, _, _, _, _, rfl, _⟩ := h; rfl) | (obtain ⟨_, _, _, _, _, _, _, rfl, _⟩ := h; rfl) | (obtain ⟨_, _, _, _, _, _, _, _, rfl, _⟩ := h; rfl) | (obtain ⟨_, _, _, _, _, _, _, _, _, rfl, _⟩ := h; rfl) | (obtain ⟨_, _, _, _, _, _, _, _, _, _, rfl, _⟩ := h; rfl) | (obtain ⟨_, _, _, _, _, _, _, _, _, _, _, rfl, _⟩ := h; rfl)) (fun _ _ _ _ _ _ us hl => match us, hl with | [_, _], _ => rfl) fun cdv A outer s H E hr => ⟨_, pss_one (ps_ret (pe_ifExp (pt_cmpR op_eq (pv 0) (pv 1) (nomark _)) (pv 0) (pe_join pe_str (pe_callB (cr_sortedT rfl) (by rfl) B.sorted bt_sorted (pa_cons (pe_callTy (cr_setT rfl) (by rfl) B.set bt_set (pa_cons (pe_op op_add_str (pv 0) (pv 1)) pa_nil)) pa_nil))))), ?_⟩
  rintro ds W post ⟨x, y, rfl, hl, rfl, k⟩
  try dsimp only [cxOf, Cx.nox, Cx.wish]
  walk_at "st"
  refine if_dec (fun e => ?_) (fun e => ?_)
  · walk_at "st"
    show post _ _
    simpa [unite, e] using k
  · have h16 := sizeLine_eq
    walk_at "st"
    refine ev_join ?_
    walk_at "st"
    refine bo_addS (by omega) ?_
    try walk_at "st"
    refine ca_setT (.inr ⟨_, rfl, rfl⟩) (by unfold signs; rw [List.length_map, ← str_len, str_app_len]; omega) fun p c hp hc => ?_
    have hs : (signs (x ++ y)).length = x.length + y.length := by unfold signs; rw [List.length_map, ← str_len, str_app_len]
    walk_at "st"
    refine ca_sortedT (by omega) ⟨ascS (signs (x ++ y)), .inl (.inl (.inl rfl)), ?_, ?_⟩
    · have h1 := ascS_len (signs (x ++ y))
      have h2 : (ascS (signs (x ++ y))).map (·.length) = (ascS (signs (x ++ y))).map fun _ => 1 := List.map_congr_left fun z hz => by
        obtain ⟨c, _, e⟩ := List.mem_map.mp (mem_ascS.mp hz)
        subst e
        rfl
      rw [h2, List.map_const', List.sum_replicate_nat]
      show _ * 1 + _ * 0 ≤ _
      omega
    · have e1 : signs (x ++ y) = ((lets x ++ lets y)).map sg := by unfold signs; rw [str_app]; rfl
      rw [e1, ascS_sg, join_nil_sg]
      have e2 : unite x y = ⟨((lets x ++ lets y).foldr insN []).toArray⟩ := by unfold unite; rw [if_neg e]
      rw [← e2]
      exact k
abbrev s_merged : Stmt := top 16
theorem sc_merged : FnScope ["one", "other", "formula", "found", "text"] ["one", "other"] (defScope s_merged) := ⟨rfl, rfl, rfl, by decide +kernel, rfl, by decide +kernel, by decide +kernel⟩
theorem c_merged {P : Program} {w : World} {K : PySem.W.Frag} {mg : Str → Option Value} {base : Heap} {cl : Nat → Addr} {f : Addr} {fd : FuncData} (hm : mg "merged" = some (.ref f)) (B : Blt mg) (Z : ZZ K w mg cl) (Fn : Fun K "merged" "merged" s_merged f fd) : Cal P w K mg base 1 "merged" (spN FK ⟨K, cl⟩ S_merged) [] := by
  have fz := Z.z0
  refine calD hm Fn sc_merged (by intro ds W post h; first | (obtain ⟨rfl, _⟩ := h; rfl) | (obtain ⟨_, rfl, _⟩ := h; rfl) | (obtain ⟨_, _, rfl, _⟩ := h; rfl) | (obtain ⟨_, _, _, rfl, _⟩ := h; rfl) | (obtain ⟨_, _, _, _, rfl, _⟩ := h; rfl) | (obtain ⟨_, _, _, _, _, rfl, _⟩ := h; rfl) | (obtain ⟨_, _, _, _, _, _, rfl, _⟩ := h; rfl) | (obtain ⟨_, _, _, _, _, _, _, rfl, _⟩ := h; rfl) | (obtain ⟨_, _, _, _, _, _, _, _, rfl, _⟩ := h; rfl) | (obtain ⟨_, _, _, _, _, _, _, _, _, rfl, _⟩ := h; rfl) | (obtain ⟨_, _, _, _, _, _, _, _, _, _, rfl, _⟩ := h; rfl) | (obtain ⟨_, _, _, _, _, _, _, _, _, _, _, rfl, _⟩ := h; rfl)) (fun _ _ _ _ _ _ us hl => match us, hl with | [_, _], _ => rfl) fun cdv A outer s H E hr => ⟨_, pss_cons (ps_if (PW.pt (pw_or (pt_cmpR op_eq (pe_callB call_len (by rfl) B.len bt_len (pa_cons (pv 0) pa_nil)) pe_int (nomark _)) (pw_or1 (pt_cmpR op_eq (pe_callB call_len (by rfl) B.len bt_len (pa_cons (pv 1) pa_nil)) pe_int (nomark _))))) (pss_one (ps_ret (pe_op op_catA (pv 0) (pv 1)))) (pss_nil))
 (pss_cons (ps_set (i := 3) sc_merged.nd rfl (Or.inr rfl) (pe_dc (own := [("formula", 2)]) (by rfl) sc_merged.nd (pi_tup (pe_op op_catA (pv 0) (pv 1))) (blkOk_by (own := [("formula", 2)]) (N := ["one", "other", "formula", "found", "text"]) (sc := defScope s_merged) (by decide +kernel)) (fun _ _ _ _ _ => (pg_name (i := 2) sc_merged.nd rfl (Or.inl rfl))) (fun _ _ _ _ _ => pts_nil) (fun _ _ _ _ _ => (pe_fldK (K := K) rfl (pv 2) rfl)) (fun _ _ _ _ _ => (pv 2))))
 (pss_one (ps_ret (pe_callTy call_tuple_of (by rfl) B.tuple bt_tuple (pa_cons (pe_lc (own := [("text", 4)]) (by rfl) sc_merged.nd (pi_list (pe_callB (call_sortedD rfl) (by rfl) B.sorted bt_sorted (pa_cons (pv 3) pa_nil))) (blkOk_by (own := [("text", 4)]) (N := ["one", "other", "formula", "found", "text"]) (sc := defScope s_merged) (by decide +kernel)) (fun _ _ _ _ _ => (pg_name (i := 4) sc_merged.nd rfl (Or.inl rfl))) (fun _ _ _ _ _ => pts_nil) (fun _ _ _ _ _ => (pe_dget (by exact hu_of hr) (pv 3) (pv 4) (fun _ _ => rfl)))) pa_nil))))), ?_⟩
  rintro ds W post ⟨e1, e2, rfl, hs, l1, l2, lm, k⟩
  try dsimp only [cxOf, Cx.nox, Cx.wish]
  walk_at "st"
  try refine ca_len (.inr rfl) ?_
  walk_at "st"
  refine if_dec (fun h1 => ?_) (fun h1 => ?_)
  · try refine if_so rfl ?_
    walk_at "st"
    refine bo_catA (by have := sizeLine_eq; simp; omega) ?_
    have e : e1 = [] := by simpa using h1
    subst e
    exact k e2 (by simp [Fm.merge]) (fun p h => by simpa using h)
  · walk_at "st"
    try refine ca_len (.inr rfl) ?_
    walk_at "st"
    refine if_dec (fun h2 => ?_) (fun h2 => ?_)
    · walk_at "st"
      refine bo_catA (by have := sizeLine_eq; simp; omega) ?_
      have e : e2 = [] := by simpa using h2
      subst e
      have e : e1 ≠ [] := by simpa using h1
      refine (show post (.tup (e1.map (·.1) ++ [])) W from ?_)
      rw [List.append_nil]
      exact k e1 (by simp [Fm.merge, e]) (fun p h => by simpa using h)
    · have n1 : e1 ≠ [] := by simpa using h1
      have n2 : e2 ≠ [] := by simpa using h2
      walk_at "st"
      refine ev_dc (ei_tup ?_)
      walk_at "st"
      refine bo_catA (by have := sizeLine_eq; simp; omega) ⟨_, rfl, fun i acc W' => W' = W ∧ ∃ l : List (D × Fm), acc = kvE l ∧ (l.map fun p => p.2.spell).Nodup ∧ (∀ p ∈ l, p ∈ e1 ++ e2) ∧ (∀ p ∈ (e1 ++ e2).take i, p.2 ∈ l.map (·.2)) ∧ l.length ≤ i, ⟨rfl, [], rfl, List.nodup_nil, by simp, by simp, by simp⟩, ?_, ?_⟩
      · rintro i d acc W' hd ⟨rfl, l, rfl, nd, hl, hm, hn⟩
        rw [← List.map_append, List.getElem?_map] at hd
        obtain ⟨p, hp, e⟩ := Option.map_eq_some_iff.mp hd
        subst e
        have hpm : p ∈ e1 ++ e2 := List.mem_of_getElem? hp
        refine tw_name (by simp) (et_yes ?_)
        try refine if_so rfl ?_
        refine ev_spl (g := p.2) Z.z0 ?_
        walk_at "st"
        refine ⟨(hs p hpm).2, ?_⟩
        walk_at "st"
        obtain ⟨l', e, h3, h4, h5, h6⟩ := put_kvE (d := p.1) (fun q hq => (hs q (hl q hq)).1) (hs p hpm).1
        have hi : i < (e1 ++ e2).length := (List.getElem?_eq_some_iff.mp hp).1
        refine ⟨by have := sizeLine_eq; simp at hi ⊢; omega, rfl, l', e, ?_, fun q hq => ?_, fun q hq => ?_, by omega⟩
        · have := putG_nodup (k := Sum.inr p.2.spell) (z := p.1) (ps := kvE l) (by rw [kvE_keys]; exact nd.map Sum.inr (fun a b hab => fun e => hab (Sum.inr.inj e)))
          rw [e, kvE_keys] at this
          exact List.Pairwise.of_map Sum.inr (fun a b h e => h (by rw [e])) this
        · rcases h3 q hq with h | h
          · exact hl q h
          · rw [h]
            exact hpm
        · rw [List.take_add_one, hp] at hq
          rcases List.mem_append.mp hq with h | h
          · exact h4 _ (hm q h)
          · simp at h
            subst h
            exact h5
      · rintro acc W' ⟨rfl, l, rfl, nd, hl, hm, hn⟩ p hp
        have e0 : (e1.map (·.1) ++ e2.map (·.1)).length = (e1 ++ e2).length := by simp
        rw [e0, List.take_length] at hm
        have ms : ∀ x, x ∈ l.map (·.2) ↔ x ∈ e1.map (·.2) ++ e2.map (·.2) := fun x => by
          rw [← List.map_append]
          constructor
          · intro h
            obtain ⟨q, hq, e⟩ := List.mem_map.mp h
            exact List.mem_map.mpr ⟨q, hl q hq, e⟩
          · intro h
            obtain ⟨q, hq, e⟩ := List.mem_map.mp h
            subst e
            exact hm q hq
        have ok2 : ∀ x ∈ e1.map (·.2) ++ e2.map (·.2), x.okL := fun x hx => by
          rw [← List.map_append] at hx
          obtain ⟨q, hq, e⟩ := List.mem_map.mp hx
          subst e
          exact (hs q hq).1
        have nd2 : (l.map (·.2)).Nodup := by
          have : ((l.map (·.2)).map Fm.spell).Nodup := by
            rw [List.map_map]
            exact nd
          exact List.Pairwise.of_map Fm.spell (fun a b h e => h (by rw [e])) this
        walk_at "st"
        refine ev_lc (ei_list ?_)
        walk_at "st"
        refine ca_sortedD (ps := kvE l) (ks := l.map fun p => p.2.spell) (.inr ⟨p, rfl, List.mem_cons_self⟩) (kvE_keys l) ?_ ?_
        · refine Nat.lt_of_le_of_lt ?_ lm
          have := Fm.len_le nd2 (m := Fm.merge (e1.map (·.2)) (e2.map (·.2))) fun x hx => by
            rw [Fm.mem_merge, ← List.mem_append]
            exact (ms x).mp hx
          simpa using this
        · intro ys hp2 hss
          obtain ⟨e', hpe, ey⟩ := perm_map_inv hp2
          subst ey
          refine ⟨_, rfl, fun i acc W2 => acc = (e'.take i).map (·.1) ∧ W2 = (p, .dp (kvE l)) :: W', ⟨by simp, rfl⟩, ?_, ?_⟩
          · rintro i d acc W2 hd ⟨rfl, rfl⟩
            rw [List.map_map, List.getElem?_map] at hd
            obtain ⟨q, hq, e⟩ := Option.map_eq_some_iff.mp hd
            subst e
            have hqm : q ∈ l := hpe.mem_iff.mp (List.mem_of_getElem? hq)
            refine tw_name (by simp) (et_yes ?_)
            try refine if_so rfl ?_
            refine ev_dget ?_
            walk_at "st"
            refine ⟨kvE l, Sum.inr q.2.spell, q.1, .inr ⟨p, rfl, List.mem_cons_self⟩, rfl, getG_kvE hqm nd, ?_, ?_, rfl⟩
            · have h7 := hpe.length_eq
              have := sizeLine_eq
              simp at hn ⊢
              omega
            · rw [List.take_add_one, hq]
              simp
          · rintro acc W2 ⟨rfl, rfl⟩ p2 hp3
            walk_at "st"
            refine ca_drp (ca_tup (.inr ⟨p2, rfl, List.mem_cons_self⟩) ?_)
            refine ⟨W', (List.sublist_cons_self _ _).trans (List.sublist_cons_self _ _), ?_⟩
            have e : (e'.take (List.map D.str (e'.map fun p => p.2.spell)).length) = e' := by simp
            rw [e]
            refine k e' (merge_of (by simpa using n1) (by simpa using n2) ok2 hss (hp2.nodup_iff.mpr nd) fun x => ?_) fun q hq => hl q (hpe.mem_iff.mp hq)
            rw [← ms x]
            exact (hpe.map _).mem_iff
abbrev s_is_atom : Stmt := top 14
theorem sc_is_atom : FnScope ["thing"] ["thing"] (defScope s_is_atom) := ⟨rfl, rfl, rfl, by decide +kernel, rfl, by decide +kernel, by decide +kernel⟩
theorem c_is_atom {P : Program} {w : World} {K : PySem.W.Frag} {mg : Str → Option Value} {base : Heap} {cl : Nat → Addr} {f : Addr} {fd : FuncData} (hm : mg "is_atom" = some (.ref f)) (B : Blt mg) (Z : ZZ K w mg cl) (Fn : Fun K "is_atom" "is_atom" s_is_atom f fd) : Cal P w K mg base 1 "is_atom" (spN FK ⟨K, cl⟩ S_isatom) [] := by
  have fz := Z.z0
  refine calD hm Fn sc_is_atom (by intro ds W post h; first | (obtain ⟨rfl, _⟩ := h; rfl) | (obtain ⟨_, rfl, _⟩ := h; rfl) | (obtain ⟨_, _, rfl, _⟩ := h; rfl) | (obtain ⟨_, _, _, rfl, _⟩ := h; rfl) | (obtain ⟨_, _, _, _, rfl, _⟩ := h; rfl) | (obtain ⟨_, _, _, _, _, rfl, _⟩ := h; rfl) | (obtain ⟨_, _, _, _, _, _, rfl, _⟩ := h; rfl) | (obtain ⟨_, _, _, _, _, _, _, rfl, _⟩ := h; rfl) | (obtain ⟨_, _, _, _, _, _, _, _, rfl, _⟩ := h; rfl) | (obtain ⟨_, _, _, _, _, _, _, _, _, rfl, _⟩ := h; rfl) | (obtain ⟨_, _, _, _, _, _, _, _, _, _, rfl, _⟩ := h; rfl) | (obtain ⟨_, _, _, _, _, _, _, _, _, _, _, rfl, _⟩ := h; rfl)) (fun _ _ _ _ _ _ us hl => match us, hl with | [_], _ => rfl) fun cdv A outer s H E hr => ⟨_, pss_one (ps_ret (pe_and (pe_callB call_isi (by rfl) B.isinstance bt_isinstance (pa_cons (pv 0) (pa_cons (pe_bltn (by rfl) B.str bt_str (relV_ty _)) pa_nil))) (pe_and (pe_cmpR op_eq (pe_callB call_len (by rfl) B.len bt_len (pa_cons (pv 0) pa_nil)) pe_int (nomark _)) (pe_one (pe_cmpR op_in_sign (pv 0) (C8.pe_gc (by rfl) Z.g_LETTERS) rfl))))), ?_⟩
  rintro ds W post ⟨x, rfl, rfl, hl, k⟩
  try dsimp only [cxOf, Cx.nox, Cx.wish]
  walk_at "st"
  try refine if_so rfl ?_
  walk_at "st"
  refine ca_lenS (by have := sizeLine_eq; omega) ?_
  walk_at "st"
  refine if_dec (fun e => ?_) (fun e => ?_)
  · have e : x.length = 1 := by omega
    obtain ⟨c, rfl⟩ := one_sign e
    walk_at "st"
    refine bo_inSg ?_
    walk_at "st"
    rw [in_letters]
    exact k
  · rw [isLet_long (show x.length ≠ 1 by omega)] at k
    exact k
end N
set_option Elab.async false
set_option linter.all false
set_option maxRecDepth 100000
namespace N
open PySem PySem.Spec PyProof.Rows L2
open C8 (Cal Met Mak InsC pe_c pe_mt pe_mt0 pe_mk)
set_option maxHeartbeats 4000000

local macro_rules | `(tactic| walk_at "vl") => `(tactic| first | exact .inl (.inl rfl) | exact .inr ⟨_, rfl, List.mem_cons_self⟩ | exact .inr ⟨_, rfl, List.mem_cons_of_mem _ List.mem_cons_self⟩ | exact .inr ⟨_, rfl, List.mem_cons_of_mem _ (List.mem_cons_of_mem _ List.mem_cons_self)⟩ | exact .inr ⟨_, rfl, List.mem_cons_of_mem _ (List.mem_cons_of_mem _ (List.mem_cons_of_mem _ List.mem_cons_self))⟩ | exact .inl (.inr ⟨_, rfl, rfl⟩))
local macro_rules | `(tactic| walk_at "vt") => `(tactic| first | exact .inl rfl | exact .inr ⟨_, rfl, List.mem_cons_self⟩ | exact .inr ⟨_, rfl, List.mem_cons_of_mem _ List.mem_cons_self⟩ | exact .inr ⟨_, rfl, List.mem_cons_of_mem _ (List.mem_cons_of_mem _ List.mem_cons_self)⟩ | exact .inr ⟨_, rfl, List.mem_cons_of_mem _ (List.mem_cons_of_mem _ (List.mem_cons_of_mem _ List.mem_cons_self))⟩)
local macro_rules | `(tactic| walk_at "vd") => `(tactic| first | exact .inl rfl | exact .inr ⟨_, rfl, List.mem_cons_self⟩ | exact .inr ⟨_, rfl, List.mem_cons_of_mem _ List.mem_cons_self⟩ | exact .inr ⟨_, rfl, List.mem_cons_of_mem _ (List.mem_cons_of_mem _ List.mem_cons_self)⟩ | exact .inr ⟨_, rfl, List.mem_cons_of_mem _ (List.mem_cons_of_mem _ (List.mem_cons_of_mem _ List.mem_cons_self))⟩)
local macro_rules | `(tactic| walk_at "gg") => `(tactic| first | exact getG_hd _ _ _ | (refine getG_tl (by decide +kernel) ?_; walk_at "gg"))
local macro_rules | `(tactic| walk_at "vs") => `(tactic| first | exact .inr rfl | (refine .inl ?_; walk_at "vl"))
local macro_rules | `(tactic| walk_at "nc") => `(tactic| first | omega | (unfold CMul; omega) | (unfold CDiv; omega) | (unfold CPow; decide) | (show (0 : Int) < _; omega))
local macro_rules | `(tactic| walk_at "sx") => `(tactic| first
  | with_reducible refine swx_seq ?_ | with_reducible refine swx_set ?_ | with_reducible refine swx_if ?_ | with_reducible refine swx_asg ?_ | with_reducible refine swx_ret ?_ | with_reducible refine swx_drop ?_ | with_reducible refine swx_raise ?_ | with_reducible refine swx_next ?_ | with_reducible refine swx_brk ?_ | with_reducible refine swx_cont ?_ | with_reducible refine swx_retN ?_ | with_reducible refine swx_par ?_ | with_reducible refine swx_fld ?_
  | with_reducible refine evx_call ?_ | with_reducible refine evx_cm ?_ | with_reducible refine evx_cmk ?_ | with_reducible refine evx_mk ?_ | with_reducible refine evx_mkk ?_ | with_reducible refine evx_of ?_)
local macro_rules | `(tactic| walk_at "s1") => `(tactic| first
  | with_reducible refine sw_seq ?_ | with_reducible refine sw_set ?_ | (with_reducible refine' ev_var ?h ?_); (case h => rfl) | with_reducible refine ev_c ?_ | with_reducible refine ev_op ?_
  | with_reducible refine bo_I0 ?_ | with_reducible refine ev_tup ?_ | with_reducible refine ev_lstF ?_ | with_reducible refine ev_cb ?_ | with_reducible refine ea_cons ?_ | with_reducible refine ea_nil ?_
  | with_reducible refine bo_eqI ?_ | with_reducible refine bo_neI ?_ | with_reducible refine bo_eqS ?_ | with_reducible refine bo_neS ?_ | with_reducible refine bo_eqB ?_ | with_reducible refine bo_neB ?_
  | with_reducible refine isi_str ?_ | (with_reducible refine' ca_intBt ?h1 ?_); (case h1 => decide +kernel) | (with_reducible refine' ca_intBf ?h1 ?_); (case h1 => decide +kernel) | with_reducible refine ca_intB ?_ | with_reducible refine ca_int ?_ | with_reducible refine ca_max2 ?_ | with_reducible refine ca_min2 ?_
  | with_reducible refine sw_if ?_ | with_reducible refine sw_ret ?_ | with_reducible refine sw_drop ?_ | with_reducible refine sw_setL ?_ | with_reducible refine sw_next ?_ | with_reducible refine sw_par ?_ | with_reducible refine ev_neg ?_ | with_reducible refine ev_mkF ?_ | with_reducible refine ev_inv ?_ | with_reducible refine ev_prpF ?_ | with_reducible refine ta_fld ?_ | with_reducible refine ta_name ?_ | (with_reducible refine' ta_tup ?hl ?_); (case hl => rfl) | with_reducible refine tas_cons ?_ | with_reducible refine tas_nil ?_
  | with_reducible refine et_ifE ?_ | with_reducible refine ev_orV ?_ | with_reducible refine ev_andV ?_ | with_reducible refine ev_notV ?_ | with_reducible refine et_or ?_ | with_reducible refine et_and ?_ | with_reducible refine sw_asgA ?_ | with_reducible refine sw_asg2 ?_ | with_reducible refine sw_asg3 ?_ | with_reducible refine sw_fld ?_ | with_reducible refine et_test ?_ | with_reducible refine et_B ?_ | with_reducible refine ⟨_, rfl, ?_⟩ | with_reducible refine ⟨_, _, rfl, ?_⟩ | with_reducible refine et_not ?_ | with_reducible refine ev_if ?_
  | (with_reducible refine' bo_ixL ?h1 ?h2 ?_); (case h1 => walk_at "vl"); (case h2 => rfl) | (with_reducible refine' bo_ixT ?h2 ?_); (case h2 => rfl) | with_reducible refine ev_call ?_ | ((with_reducible refine' ev_fwF ?hz ?hy ?_); (case hz => assumption); (case hy => assumption)) | (with_reducible refine' ev_fmF ?hz ?_; case hz => assumption) | with_reducible refine ev_fld ?_
  | with_reducible refine .inr ⟨_, _, rfl, FldW.below _, ?_⟩ | with_reducible refine .inr ⟨_, _, rfl, FldW.atoms _, ?_⟩ | with_reducible refine .inr ⟨_, _, rfl, FldW.bens _, ?_⟩ | with_reducible refine .inr ⟨_, _, rfl, FldW.hgts _, ?_⟩
  | with_reducible refine .inl ⟨_, _, rfl, FldF.kind _, ?_⟩ | with_reducible refine .inl ⟨_, _, rfl, FldF.parts _, ?_⟩ | with_reducible refine .inl ⟨_, _, rfl, FldF.many _, ?_⟩ | with_reducible refine .inl ⟨_, _, rfl, FldF.deep _, ?_⟩ | with_reducible refine .inl ⟨_, _, rfl, FldF.atoms _, ?_⟩ | with_reducible refine .inl ⟨_, _, rfl, FldF.bare _, ?_⟩ | with_reducible refine .inl ⟨_, _, rfl, FldF.spell _, ?_⟩ | with_reducible refine .inl ⟨_, _, rfl, FldF.alls _, ?_⟩
  | with_reducible refine ev_meth ?_ | ((with_reducible refine' ⟨_, _, inst_wb _, ?hm, ?_⟩); (case hm => decide +kernel)) | ((with_reducible refine' ⟨_, _, Inst.fm _, ?hm, ?_⟩); (case hm => decide +kernel))
  | with_reducible refine ⟨_, _, rfl, FldF.kind _, ?_⟩ | with_reducible refine ⟨_, _, rfl, FldF.parts _, ?_⟩ | with_reducible refine ⟨_, _, rfl, FldF.many _, ?_⟩ | with_reducible refine ⟨_, _, rfl, FldF.deep _, ?_⟩ | with_reducible refine ⟨_, _, rfl, FldF.atoms _, ?_⟩ | with_reducible refine ⟨_, _, rfl, FldF.bare _, ?_⟩ | with_reducible refine ⟨_, _, rfl, FldF.spell _, ?_⟩ | with_reducible refine ⟨_, _, rfl, FldF.alls _, ?_⟩
  | ((with_reducible refine' ⟨len_ok ?hl, ?_⟩); (case hl => exact Nat.le_of_ble_eq_true rfl))
  | (with_reducible refine' bo_I ?h1 ?_); (case h1 => walk_at "nc")
  | with_reducible refine ev_sl ?_ | with_reducible refine eo_none ?_ | with_reducible refine eo_some ?_ | (with_reducible refine' ca_slF ?h1 ?_); (case h1 => walk_at "vl") | with_reducible refine ev_revF ?_ | with_reducible refine ev_dget ?_ | with_reducible refine sw_dput ?_ | with_reducible refine ev_dispF ?_ | with_reducible refine eps_cons ?_ | with_reducible refine eps_nil ?_ | with_reducible refine exk_str ?_ | with_reducible refine exk_int ?_ | (with_reducible refine' dg_str ?h1 ?h2 ?_); (case h1 => walk_at "vd"); (case h2 => walk_at "gg")
  | with_reducible refine unr_cons ?_ | with_reducible refine unr_nil ?_ | with_reducible refine swu_cons ?_ | with_reducible refine swu_nil ?_ | with_reducible refine et_yes ?_ | with_reducible refine tg_name ?_ | (with_reducible refine' tw_name ?h1 ?_); (case h1 => simp) | ((with_reducible refine' ⟨acc_ok ?h1, ?_⟩); (case h1 => exact Nat.le_of_ble_eq_true rfl)) | with_reducible refine ei_tup ?_ | with_reducible refine ei_list ?_ | with_reducible refine ei_rng1 ?_
  | with_reducible refine ca_strF ?_ | with_reducible refine ca_lenF ?_ | with_reducible refine isi_tup ?_ | with_reducible refine isi_int ?_ | with_reducible refine isi_intB ?_ | with_reducible refine et_chain ?_ | with_reducible refine ev_chain ?_ | (with_reducible refine' isi_fm ?hz ?_; case hz => assumption)
  | (with_reducible refine' ca_len ?h1 ?_); (case h1 => walk_at "vs")
  | (with_reducible refine' if_so ?h1 ?_); (case h1 => first | rfl | decide +kernel) | (with_reducible refine' if_not ?h1 ?_); (case h1 => first | rfl | decide +kernel))
local macro_rules | `(tactic| walk_at "st") => `(tactic| repeat first | walk_at "s1" | walk_at "sx")
theorem kd_facts {P : Program} {w : World} {K : PySem.W.Frag} {mg : Str → Option Value} {cl : Nat → Addr} (Z : ZZ K w mg cl) (f : Fm) : (∃ r, PySem.W.nsIn K Z.d_PARTS_OF f.kind = some (some r)) ∧ KDct K w Z.d_PARTS_OF f.kind (.int ((partsD f).length : Nat)) := by
  cases f with
  | «at» c => obtain ⟨t, h⟩ := Z.k_PARTS_OF_atom; exact ⟨⟨_, h⟩, _, _, _, Z.t_PARTS_OF.at_, Z.t_PARTS_OF.lit, h, t, rfl⟩
  | no => obtain ⟨t, h⟩ := Z.k_PARTS_OF_no; exact ⟨⟨_, h⟩, _, _, _, Z.t_PARTS_OF.at_, Z.t_PARTS_OF.lit, h, t, rfl⟩
  | imp a b => obtain ⟨t, h⟩ := Z.k_PARTS_OF_if; exact ⟨⟨_, h⟩, _, _, _, Z.t_PARTS_OF.at_, Z.t_PARTS_OF.lit, h, t, rfl⟩
  | all a => obtain ⟨t, h⟩ := Z.k_PARTS_OF_all; exact ⟨⟨_, h⟩, _, _, _, Z.t_PARTS_OF.at_, Z.t_PARTS_OF.lit, h, t, rfl⟩
abbrev s_Formula___init__ : Stmt := inClass (top 17) 0
theorem sc_Formula___init__ : FnScope ["self", "kind", "parts", "part", "inner", "first", "second"] ["self", "kind", "parts"] (defScope s_Formula___init__) := ⟨rfl, rfl, rfl, by decide +kernel, rfl, by decide +kernel, by decide +kernel⟩
theorem m_Formula {P : Program} {w : World} {K : PySem.W.Frag} {mg : Str → Option Value} {base : Heap} {cl : Nat → Addr} {f : Addr} {fd : FuncData} (mk : Mk K (cl 0) f) (B : Blt mg) (Z : ZZ K w mg cl) (Fn : Fun K "__init__" "Formula.__init__" s_Formula___init__ f fd)
    (c_united : Cal P w K mg base 1 "united" (spN FK ⟨K, cl⟩ S_united) [])
    (c_merged : Cal P w K mg base 1 "merged" (spN FK ⟨K, cl⟩ S_merged) [])
    (c_is_atom : Cal P w K mg base 1 "is_atom" (spN FK ⟨K, cl⟩ S_isatom) []) : MakR P w K mg base 2 "Formula" (cl 0) (spN FK ⟨K, cl⟩ (starS 2 S_init)) := by
  have fz := Z.z0
  refine ⟨f, mk, okS (ps := ["self", "kind"]) (pv := "parts") Fn sc_Formula___init__ (fun _ _ _ _ _ _ us rest hl => match us, hl, rest with | [_, _], _, [] => rfl | [_, _], _, [_] => rfl | [_, _], _, _ :: _ :: _ => rfl) fun cdv A outer s H E hr => ⟨_, PSs.nox (pss_cons (ps_if (PW.pt (pw_or (pt_not (pt_val (pe_callB call_isi (by rfl) B.isinstance bt_isinstance (pa_cons (pv 1) (pa_cons (pe_bltn (by rfl) B.str bt_str (relV_ty _)) pa_nil))))) (pw_or1 (pt_cmpR (op_notIn_kd Z.t_PARTS_OF) (pv 1) (pe_glob (by rfl) Z.g_PARTS_OF (relV_ref _)) rfl)))) (pss_one (ps_never)) (pss_nil))
 (pss_cons (ps_if (pt_cmpR op_ne (pe_callB call_len (by rfl) B.len bt_len (pa_cons (pv 2) pa_nil)) (pe_ix ix_kdict (pe_glob (by rfl) Z.g_PARTS_OF (relV_ref _)) (pv 1) (fun _ _ => rfl)) (nomark _)) (pss_one (ps_never)) (pss_nil))
 (pss_cons (ps_for PassesOwn.never rfl (pi_tup (pv 2)) (pg_name (i := 3) sc_Formula___init__.nd rfl (Or.inl rfl)) (pss_one (ps_if (pt_not (pt_ifE (pt_cmpR op_eq (pv 1) (C8.pe_gc (by rfl) Z.g_ATOM) (nomark _)) (pt_val (pe_c c_is_atom hr (by omega) (by rfl) (pa_cons (pv 3) pa_nil))) (pt_val (pe_callB call_isi (by rfl) B.isinstance bt_isinstance (pa_cons (pv 3) (pa_cons (pe_glob (by rfl) Z.g_Formula (relV_ref _)) pa_nil)))))) (pss_one (ps_never)) (pss_nil))))
 (pss_cons (ps_fld (pv 0) (pv 1) rfl)
 (pss_cons (ps_fld (pv 0) (pv 2) rfl)
 (pss_cons (ps_fld (pv 0) pe_int rfl)
 (pss_cons (ps_fld (pv 0) (pe_callTy call_int1 (by rfl) B.int bt_int (pa_cons (pe_cmpR op_eq (pv 1) (C8.pe_gc (by rfl) Z.g_ALL) (nomark _)) pa_nil)) rfl)
 (pss_cons (ps_asg2 pe_str (pg_fld (pv 0)) (pg_fld (pv 0)))
 (pss_cons (ps_asg (pe_tup (pa_cons (C8.pe_gc (by rfl) Z.g_NO) (pa_cons (pe_tup pa_nil) pa_nil))) (pg_tup (n := 2) rfl (pgs_cons (pg_fld (pv 0)) (pgs_cons (pg_fld (pv 0)) pgs_nil))))
 (pss_one (ps_if (pt_cmpR op_eq (pv 1) (C8.pe_gc (by rfl) Z.g_ATOM) (nomark _)) (pss_one (ps_asg3 (pe_ix ix_tup (pv 2) pe_int (fun _ _ => rfl)) (pg_fld (pv 0)) (pg_fld (pv 0)) (pg_fld (pv 0)))) (pss_one (ps_if (pt_cmpR op_eq (pv 1) (C8.pe_gc (by rfl) Z.g_ALL) (nomark _)) (pss_cons (ps_set (i := 4) sc_Formula___init__.nd rfl (Or.inl rfl) (pe_ix ix_tup (pv 2) pe_int (fun _ _ => rfl)))
 (pss_cons (ps_asg (pe_tup (pa_cons (pe_op op_add pe_int (pe_fld (pv 4) rfl)) (pa_cons (pe_op op_add pe_int (pe_fld (pv 4) rfl)) pa_nil))) (pg_tup (n := 2) rfl (pgs_cons (pg_fld (pv 0)) (pgs_cons (pg_fld (pv 0)) pgs_nil))))
 (pss_cons (ps_asg (pe_tup (pa_cons (pe_fld (pv 4) rfl) (pa_cons (pe_op op_add_str (C8.pe_gc (by rfl) Z.g_ALL_AHEAD) (pe_fld (pv 4) rfl)) pa_nil))) (pg_tup (n := 2) rfl (pgs_cons (pg_fld (pv 0)) (pgs_cons (pg_fld (pv 0)) pgs_nil))))
 (pss_one (ps_fld (pv 0) (pe_c c_merged hr (by omega) (by rfl) (pa_cons (pe_fld (pv 4) rfl) (pa_cons (pe_tup (pa_cons (pv 0) pa_nil)) pa_nil))) rfl))))) (pss_one (ps_if (pt_cmpR op_eq (pv 1) (C8.pe_gc (by rfl) Z.g_IF) (nomark _)) (pss_cons (ps_asg (pv 2) (pg_tup (n := 2) rfl (pgs_cons (pg_name (i := 5) sc_Formula___init__.nd rfl (Or.inl rfl)) (pgs_cons (pg_name (i := 6) sc_Formula___init__.nd rfl (Or.inl rfl)) pgs_nil))))
 (pss_cons (ps_asg (pe_tup (pa_cons (pe_op op_add (pe_op op_add pe_int (pe_fld (pv 5) rfl)) (pe_fld (pv 6) rfl)) (pa_cons (pe_callB (call_max2 rfl) (by rfl) B.max bt_max (pa_cons (pe_fld (pv 5) rfl) (pa_cons (pe_fld (pv 6) rfl) pa_nil))) pa_nil))) (pg_tup (n := 2) rfl (pgs_cons (pg_fld (pv 0)) (pgs_cons (pg_fld (pv 0)) pgs_nil))))
 (pss_cons (ps_fld (pv 0) (pe_c c_united hr (by omega) (by rfl) (pa_cons (pe_fld (pv 5) rfl) (pa_cons (pe_fld (pv 6) rfl) pa_nil))) rfl)
 (pss_cons (ps_fld (pv 0) (pe_c c_united hr (by omega) (by rfl) (pa_cons (pe_fld (pv 5) rfl) (pa_cons (pe_fld (pv 6) rfl) pa_nil))) rfl)
 (pss_cons (ps_fld (pv 0) (pe_c c_merged hr (by omega) (by rfl) (pa_cons (pe_fld (pv 5) rfl) (pa_cons (pe_fld (pv 6) rfl) pa_nil))) rfl)
 (pss_one (ps_fld (pv 0) (pe_joined (PJ.cons pe_str (PJ.cons (pe_fmt (pe_fld (pv 5) rfl)) (PJ.cons (pe_fmt (C8.pe_gc (by rfl) Z.g_BETWEEN)) (PJ.cons (pe_fmt (pe_fld (pv 6) rfl)) (PJ.cons pe_str PJ.nil)))))) rfl))))))) (pss_nil)))))))))))))))), ?_⟩, Z.g_Formula⟩
  rintro ds W post ⟨x, f, rfl, rfl, hf, k⟩
  try dsimp only [cxOf, Cx.nox, Cx.wish]
  walk_at "st"
  obtain ⟨⟨r0, hk1⟩, hk2⟩ := kd_facts (P := P) Z f
  walk_at "st"
  try refine if_not rfl ?_
  walk_at "st"
  refine bo_knin hk1 ?_
  walk_at "st"
  try refine if_not rfl ?_
  walk_at "st"
  try refine ca_len (.inr rfl) ?_
  walk_at "st"
  refine bo_kix hk2 ?_
  walk_at "st"
  refine if_not (by simp) ?_
  walk_at "st"
  refine sw_for (ei_tup ?_)
  walk_at "st"
  refine ⟨fun i G' W' => W' = [(x, .ins 0 [] [])] ∧ ∃ o, G' = [some (.adr x), some (.str f.kind), some (.tup (partsD f)), o, none, none, none], ⟨rfl, _, rfl⟩, ?_, ?_⟩
  · rintro i d G' W' hd ⟨rfl, o, rfl⟩
    refine tg_name ?_
    walk_at "st"
    refine if_dec (fun e => ?_) (fun e => ?_)
    · obtain ⟨c, rfl⟩ := kind_at.mp e
      have hd := List.mem_of_getElem? hd
      simp only [partsD, List.mem_singleton] at hd
      subst hd
      walk_at "st"
      refine hand0 ⟨_, rfl, rfl, Nat.le_of_ble_eq_true rfl, ?_⟩
      rw [show isLet ⟨#[c]⟩ = true from (isLet_sg c).trans (decide_eq_true hf.ok)]
      simp only [List.nil_append]
      walk_at "st"
      try refine if_not rfl ?_
      walk_at "st"
      exact ⟨rfl, _, rfl⟩
    · obtain ⟨g, rfl⟩ := parts_fm (fun c ec => e (kind_at.mpr ⟨c, ec⟩)) d (List.mem_of_getElem? hd)
      walk_at "st"
      try refine isi_ins (.fm g) Z.z0.ins ?_
      walk_at "st"
      try refine if_not rfl ?_
      walk_at "st"
      exact ⟨rfl, _, rfl⟩
  · rintro G' W' ⟨rfl, o, rfl⟩
    walk_at "st"
    refine rcv_new Z.z0 (by decide +kernel) (by decide +kernel) (by decide) ?_
    walk_at "st"
    refine rcv_new Z.z0 (by decide +kernel) (by decide +kernel) (by decide) ?_
    walk_at "st"
    refine rcv_new Z.z0 (by decide +kernel) (by decide +kernel) (by decide) ?_
    walk_at "st"
    refine rcv_new Z.z0 (by decide +kernel) (by decide +kernel) (by decide) ?_
    walk_at "st"
    refine rcv_new Z.z0 (by decide +kernel) (by decide +kernel) (by decide) ?_
    walk_at "st"
    refine rcv_new Z.z0 (by decide +kernel) (by decide +kernel) (by decide) ?_
    walk_at "st"
    refine rcv_new Z.z0 (by decide +kernel) (by decide +kernel) (by decide) ?_
    walk_at "st"
    refine rcv_new Z.z0 (by decide +kernel) (by decide +kernel) (by decide) ?_
    walk_at "st"
    cases f with
    | «at» c =>
      try refine if_so (show decide (("atom" : Str) = "atom") = true by decide +kernel) ?_
      simp only [partsD]
      walk_at "st"
      refine rcv_at 4 Z.z0 (by decide +kernel) (by decide +kernel) rfl (by decide) ?_
      walk_at "st"
      refine rcv_at 5 Z.z0 (by decide +kernel) (by decide +kernel) rfl (by decide) ?_
      walk_at "st"
      refine rcv_at 6 Z.z0 (by decide +kernel) (by decide +kernel) rfl (by decide) ?_
      exact k [] rfl
    | no =>
      try refine if_not (show decide (("no" : Str) = "atom") = false by decide +kernel) ?_
      walk_at "st"
      try refine if_not (by decide +kernel) ?_
      walk_at "st"
      try refine if_not (by decide +kernel) ?_
      walk_at "st"
      exact k [] rfl
    | all a =>
      try refine if_not (show decide (("all" : Str) = "atom") = false by decide +kernel) ?_
      walk_at "st"
      try refine if_so (show decide (("all" : Str) = "all") = true by decide +kernel) ?_
      simp only [partsD]
      walk_at "st"
      refine rcv_at 2 Z.z0 (by decide +kernel) (by decide +kernel) rfl (by decide) ?_
      walk_at "st"
      refine rcv_at 3 Z.z0 (by decide +kernel) (by decide +kernel) rfl (by decide) ?_
      walk_at "st"
      have hsz := hf.sz
      simp only [Fm.sz] at hsz
      have h16 := sizeLine_eq
      refine bo_addS (by rw [Fm.spell_len]; show 4 + _ ≤ _; omega) ?_
      walk_at "st"
      refine rcv_at 4 Z.z0 (by decide +kernel) (by decide +kernel) rfl (by decide) ?_
      walk_at "st"
      refine rcv_at 6 Z.z0 (by decide +kernel) (by decide +kernel) rfl (by decide) ?_
      walk_at "st"
      refine handA ⟨a.alls.map fun g => (D.fm g, g), [(.adr x, .all a)], by rw [fm_map]; rfl, ?_, ?_, by simp, ?_, ?_⟩
      · intro p hp
        rcases List.mem_append.mp hp with h | h
        · obtain ⟨g, hg, e⟩ := List.mem_map.mp h
          subst e
          exact ⟨(Fm.alls_sub (f := a) hf.a.ok).1 g hg, spl_fm g⟩
        · rw [List.mem_singleton] at h
          subst h
          exact ⟨hf.ok, _, _, .own x 0 _ _ List.mem_cons_self, rfl⟩
      · rw [List.length_map]
        exact hf.a.alls
      · rw [fm_map2]
        exact hf.alls
      · intro e' h1 h2
        rw [fm_map2] at h1
        walk_at "st"
        refine rcv_at 7 Z.z0 (by decide +kernel) (by decide +kernel) rfl (by decide) ?_
        have := allsD_of (x := x) (f := .all a) (e := e') fun p hp => by
          rcases List.mem_append.mp (h2 p hp) with h | h
          · obtain ⟨g, hg, e⟩ := List.mem_map.mp h
            subst e
            exact .inl rfl
          · rw [List.mem_singleton] at h
            subst h
            exact .inr ⟨rfl, rfl⟩
        rw [h1] at this
        exact k _ this
    | imp a b =>
      try refine if_not (show decide (("if" : Str) = "atom") = false by decide +kernel) ?_
      walk_at "st"
      try refine if_not (show decide (("if" : Str) = "all") = false by decide +kernel) ?_
      walk_at "st"
      try refine if_so (show decide (("if" : Str) = "if") = true by decide +kernel) ?_
      simp only [partsD]
      walk_at "st"
      refine rcv_at 2 Z.z0 (by decide +kernel) (by decide +kernel) rfl (by decide) ?_
      walk_at "st"
      refine rcv_at 3 Z.z0 (by decide +kernel) (by decide +kernel) rfl (by decide) ?_
      walk_at "st"
      have la := Fm.atoms_len hf.ok.1
      have lb := Fm.atoms_len hf.ok.2
      have lc := Fm.outer_len hf.ok.1
      have ld := Fm.outer_len hf.ok.2
      refine hand0 ⟨_, _, rfl, by omega, rfl, ?_⟩
      rw [List.nil_append]
      walk_at "st"
      refine rcv_at 4 Z.z0 (by decide +kernel) (by decide +kernel) rfl (by decide) ?_
      walk_at "st"
      refine hand0 ⟨_, _, rfl, by omega, rfl, ?_⟩
      rw [List.nil_append]
      walk_at "st"
      refine rcv_at 5 Z.z0 (by decide +kernel) (by decide +kernel) rfl (by decide) ?_
      walk_at "st"
      refine handA ⟨a.alls.map fun g => (D.fm g, g), b.alls.map fun g => (D.fm g, g), by rw [fm_map, fm_map]; rfl, ?_, ?_, ?_, ?_, ?_⟩
      · intro p hp
        rw [← List.map_append] at hp
        obtain ⟨g, hg, e⟩ := List.mem_map.mp hp
        subst e
        refine ⟨?_, spl_fm g⟩
        rcases List.mem_append.mp hg with h | h
        · exact (Fm.alls_sub hf.l.ok).1 g h
        · exact (Fm.alls_sub hf.r.ok).1 g h
      · rw [List.length_map]
        exact hf.l.alls
      · rw [List.length_map]
        exact hf.r.alls
      · rw [fm_map2, fm_map2]
        exact hf.alls
      · intro e' h1 h2
        rw [fm_map2, fm_map2] at h1
        walk_at "st"
        refine rcv_at 7 Z.z0 (by decide +kernel) (by decide +kernel) rfl (by decide) ?_
        have := allsD_of (x := x) (f := .imp a b) (e := e') fun p hp => by
          have h := h2 p hp
          rw [← List.map_append] at h
          obtain ⟨g, hg, e⟩ := List.mem_map.mp h
          subst e
          exact .inl rfl
        rw [h1] at this
        have k2 := k _ this
        walk_at "st"
        refine ev_joined ?_
        have hsz := hf.sz
        simp only [Fm.sz] at hsz
        have h16 := sizeLine_eq
        have l1 : ("(" : Str).length = 1 := rfl
        have l2 : (" > " : Str).length = 3 := rfl
        have l3 : (")" : Str).length = 1 := rfl
        have l4 := Fm.spell_len a
        have l5 := Fm.spell_len b
        refine ev_c ⟨_, rfl, by rw [empty_app, l1]; omega, ?_⟩
        refine ev_fmt ?_
        walk_at "st"
        refine ⟨by omega, _, rfl, by rw [empty_app, str_app_len]; omega, ?_⟩
        refine ev_fmt ?_
        walk_at "st"
        refine ⟨by rw [empty_app, str_app_len, str_app_len]; omega, ?_⟩
        refine ev_fmt ?_
        walk_at "st"
        refine ⟨by omega, _, rfl, by rw [empty_app, str_app_len, str_app_len, str_app_len]; omega, ?_⟩
        refine ev_c ⟨_, rfl, by rw [empty_app, str_app_len, str_app_len, str_app_len, str_app_len]; omega, ?_⟩
        rw [empty_app]
        refine ev_var rfl ?_
        refine rcv_at 6 Z.z0 (by decide +kernel) (by decide +kernel) rfl (by decide) ?_
        rw [max_int]
        exact k2
end N
set_option Elab.async false
set_option linter.all false
set_option maxRecDepth 100000
namespace N
open PySem PySem.Spec PyProof.Rows L2
open C8 (Cal Met Mak InsC pe_c pe_mt pe_mt0 pe_mk)
set_option maxHeartbeats 4000000

local macro_rules | `(tactic| walk_at "vl") => `(tactic| first | exact .inl (.inl rfl) | exact .inr ⟨_, rfl, List.mem_cons_self⟩ | exact .inr ⟨_, rfl, List.mem_cons_of_mem _ List.mem_cons_self⟩ | exact .inr ⟨_, rfl, List.mem_cons_of_mem _ (List.mem_cons_of_mem _ List.mem_cons_self)⟩ | exact .inr ⟨_, rfl, List.mem_cons_of_mem _ (List.mem_cons_of_mem _ (List.mem_cons_of_mem _ List.mem_cons_self))⟩ | exact .inl (.inr ⟨_, rfl, rfl⟩))
local macro_rules | `(tactic| walk_at "vt") => `(tactic| first | exact .inl rfl | exact .inr ⟨_, rfl, List.mem_cons_self⟩ | exact .inr ⟨_, rfl, List.mem_cons_of_mem _ List.mem_cons_self⟩ | exact .inr ⟨_, rfl, List.mem_cons_of_mem _ (List.mem_cons_of_mem _ List.mem_cons_self)⟩ | exact .inr ⟨_, rfl, List.mem_cons_of_mem _ (List.mem_cons_of_mem _ (List.mem_cons_of_mem _ List.mem_cons_self))⟩)
local macro_rules | `(tactic| walk_at "vd") => `(tactic| first | exact .inl rfl | exact .inr ⟨_, rfl, List.mem_cons_self⟩ | exact .inr ⟨_, rfl, List.mem_cons_of_mem _ List.mem_cons_self⟩ | exact .inr ⟨_, rfl, List.mem_cons_of_mem _ (List.mem_cons_of_mem _ List.mem_cons_self)⟩ | exact .inr ⟨_, rfl, List.mem_cons_of_mem _ (List.mem_cons_of_mem _ (List.mem_cons_of_mem _ List.mem_cons_self))⟩)
local macro_rules | `(tactic| walk_at "gg") => `(tactic| first | exact getG_hd _ _ _ | (refine getG_tl (by decide +kernel) ?_; walk_at "gg"))
local macro_rules | `(tactic| walk_at "vs") => `(tactic| first | exact .inr rfl | (refine .inl ?_; walk_at "vl"))
local macro_rules | `(tactic| walk_at "nc") => `(tactic| first | omega | (unfold CMul; omega) | (unfold CDiv; omega) | (unfold CPow; decide) | (show (0 : Int) < _; omega))
local macro_rules | `(tactic| walk_at "sx") => `(tactic| first
  | with_reducible refine swx_seq ?_ | with_reducible refine swx_set ?_ | with_reducible refine swx_if ?_ | with_reducible refine swx_asg ?_ | with_reducible refine swx_ret ?_ | with_reducible refine swx_drop ?_ | with_reducible refine swx_raise ?_ | with_reducible refine swx_next ?_ | with_reducible refine swx_brk ?_ | with_reducible refine swx_cont ?_ | with_reducible refine swx_retN ?_ | with_reducible refine swx_par ?_ | with_reducible refine swx_fld ?_
  | with_reducible refine evx_call ?_ | with_reducible refine evx_cm ?_ | with_reducible refine evx_cmk ?_ | with_reducible refine evx_mk ?_ | with_reducible refine evx_mkk ?_ | with_reducible refine evx_of ?_)
local macro_rules | `(tactic| walk_at "s1") => `(tactic| first
  | with_reducible refine sw_seq ?_ | with_reducible refine sw_set ?_ | (with_reducible refine' ev_var ?h ?_); (case h => rfl) | with_reducible refine ev_c ?_ | with_reducible refine ev_op ?_
  | with_reducible refine bo_I0 ?_ | with_reducible refine ev_tup ?_ | with_reducible refine ev_lstF ?_ | with_reducible refine ev_cb ?_ | with_reducible refine ea_cons ?_ | with_reducible refine ea_nil ?_
  | with_reducible refine bo_eqI ?_ | with_reducible refine bo_neI ?_ | with_reducible refine bo_eqS ?_ | with_reducible refine bo_neS ?_ | with_reducible refine bo_eqB ?_ | with_reducible refine bo_neB ?_
  | with_reducible refine isi_str ?_ | (with_reducible refine' ca_intBt ?h1 ?_); (case h1 => decide +kernel) | (with_reducible refine' ca_intBf ?h1 ?_); (case h1 => decide +kernel) | with_reducible refine ca_intB ?_ | with_reducible refine ca_int ?_ | with_reducible refine ca_max2 ?_ | with_reducible refine ca_min2 ?_
  | with_reducible refine sw_if ?_ | with_reducible refine sw_ret ?_ | with_reducible refine sw_drop ?_ | with_reducible refine sw_setL ?_ | with_reducible refine sw_next ?_ | with_reducible refine sw_par ?_ | with_reducible refine ev_neg ?_ | with_reducible refine ev_mkF ?_ | with_reducible refine ev_inv ?_ | with_reducible refine ev_prpF ?_ | with_reducible refine ta_fld ?_ | with_reducible refine ta_name ?_ | (with_reducible refine' ta_tup ?hl ?_); (case hl => rfl) | with_reducible refine tas_cons ?_ | with_reducible refine tas_nil ?_
  | with_reducible refine et_ifE ?_ | with_reducible refine ev_orV ?_ | with_reducible refine ev_andV ?_ | with_reducible refine ev_notV ?_ | with_reducible refine et_or ?_ | with_reducible refine et_and ?_ | with_reducible refine sw_asgA ?_ | with_reducible refine sw_asg2 ?_ | with_reducible refine sw_asg3 ?_ | with_reducible refine sw_fld ?_ | with_reducible refine et_test ?_ | with_reducible refine et_B ?_ | with_reducible refine ⟨_, rfl, ?_⟩ | with_reducible refine ⟨_, _, rfl, ?_⟩ | with_reducible refine et_not ?_ | with_reducible refine ev_if ?_
  | (with_reducible refine' bo_ixL ?h1 ?h2 ?_); (case h1 => walk_at "vl"); (case h2 => rfl) | (with_reducible refine' bo_ixT ?h2 ?_); (case h2 => rfl) | with_reducible refine ev_call ?_ | ((with_reducible refine' ev_fwF ?hz ?hy ?_); (case hz => assumption); (case hy => assumption)) | (with_reducible refine' ev_fmF ?hz ?_; case hz => assumption) | with_reducible refine ev_fld ?_
  | with_reducible refine .inr ⟨_, _, rfl, FldW.below _, ?_⟩ | with_reducible refine .inr ⟨_, _, rfl, FldW.atoms _, ?_⟩ | with_reducible refine .inr ⟨_, _, rfl, FldW.bens _, ?_⟩ | with_reducible refine .inr ⟨_, _, rfl, FldW.hgts _, ?_⟩
  | with_reducible refine .inl ⟨_, _, rfl, FldF.kind _, ?_⟩ | with_reducible refine .inl ⟨_, _, rfl, FldF.parts _, ?_⟩ | with_reducible refine .inl ⟨_, _, rfl, FldF.many _, ?_⟩ | with_reducible refine .inl ⟨_, _, rfl, FldF.deep _, ?_⟩ | with_reducible refine .inl ⟨_, _, rfl, FldF.atoms _, ?_⟩ | with_reducible refine .inl ⟨_, _, rfl, FldF.bare _, ?_⟩ | with_reducible refine .inl ⟨_, _, rfl, FldF.spell _, ?_⟩ | with_reducible refine .inl ⟨_, _, rfl, FldF.alls _, ?_⟩
  | with_reducible refine ev_meth ?_ | ((with_reducible refine' ⟨_, _, inst_wb _, ?hm, ?_⟩); (case hm => decide +kernel)) | ((with_reducible refine' ⟨_, _, Inst.fm _, ?hm, ?_⟩); (case hm => decide +kernel))
  | with_reducible refine ⟨_, _, rfl, FldF.kind _, ?_⟩ | with_reducible refine ⟨_, _, rfl, FldF.parts _, ?_⟩ | with_reducible refine ⟨_, _, rfl, FldF.many _, ?_⟩ | with_reducible refine ⟨_, _, rfl, FldF.deep _, ?_⟩ | with_reducible refine ⟨_, _, rfl, FldF.atoms _, ?_⟩ | with_reducible refine ⟨_, _, rfl, FldF.bare _, ?_⟩ | with_reducible refine ⟨_, _, rfl, FldF.spell _, ?_⟩ | with_reducible refine ⟨_, _, rfl, FldF.alls _, ?_⟩
  | ((with_reducible refine' ⟨len_ok ?hl, ?_⟩); (case hl => exact Nat.le_of_ble_eq_true rfl))
  | (with_reducible refine' bo_I ?h1 ?_); (case h1 => walk_at "nc")
  | with_reducible refine ev_sl ?_ | with_reducible refine eo_none ?_ | with_reducible refine eo_some ?_ | (with_reducible refine' ca_slF ?h1 ?_); (case h1 => walk_at "vl") | with_reducible refine ev_revF ?_ | with_reducible refine ev_dget ?_ | with_reducible refine sw_dput ?_ | with_reducible refine ev_dispF ?_ | with_reducible refine eps_cons ?_ | with_reducible refine eps_nil ?_ | with_reducible refine exk_str ?_ | with_reducible refine exk_int ?_ | (with_reducible refine' dg_str ?h1 ?h2 ?_); (case h1 => walk_at "vd"); (case h2 => walk_at "gg")
  | with_reducible refine unr_cons ?_ | with_reducible refine unr_nil ?_ | with_reducible refine swu_cons ?_ | with_reducible refine swu_nil ?_ | with_reducible refine et_yes ?_ | with_reducible refine tg_name ?_ | (with_reducible refine' tw_name ?h1 ?_); (case h1 => simp) | ((with_reducible refine' ⟨acc_ok ?h1, ?_⟩); (case h1 => exact Nat.le_of_ble_eq_true rfl)) | with_reducible refine ei_tup ?_ | with_reducible refine ei_list ?_ | with_reducible refine ei_rng1 ?_
  | with_reducible refine ca_strF ?_ | with_reducible refine ca_lenF ?_ | with_reducible refine isi_tup ?_ | with_reducible refine isi_int ?_ | with_reducible refine isi_intB ?_ | with_reducible refine et_chain ?_ | with_reducible refine ev_chain ?_ | (with_reducible refine' isi_fm ?hz ?_; case hz => assumption)
  | (with_reducible refine' ca_len ?h1 ?_); (case h1 => walk_at "vs")
  | (with_reducible refine' if_so ?h1 ?_); (case h1 => first | rfl | decide +kernel) | (with_reducible refine' if_not ?h1 ?_); (case h1 => first | rfl | decide +kernel))
local macro_rules | `(tactic| walk_at "st") => `(tactic| repeat first | walk_at "s1" | walk_at "sx")
abbrev s_no : Stmt := top 22
theorem sc_no : FnScope [] [] (defScope s_no) := ⟨rfl, rfl, rfl, by decide +kernel, rfl, by decide +kernel, by decide +kernel⟩
theorem c_no {P : Program} {w : World} {K : PySem.W.Frag} {mg : Str → Option Value} {base : Heap} {cl : Nat → Addr} {f : Addr} {fd : FuncData} (hm : mg "no" = some (.ref f)) (B : Blt mg) (Z : ZZ K w mg cl) (Fn : Fun K "no" "no" s_no f fd)
    (m_Formula : MakR P w K mg base 2 "Formula" (cl 0) (spN FK ⟨K, cl⟩ (starS 2 S_init))) : Cal P w K mg base 5 "no" (spN FK ⟨K, cl⟩ S_no) [] := by
  have fz := Z.z0
  refine calD hm Fn sc_no (by intro ds W post h; first | (obtain ⟨rfl, _⟩ := h; rfl) | (obtain ⟨_, rfl, _⟩ := h; rfl) | (obtain ⟨_, _, rfl, _⟩ := h; rfl) | (obtain ⟨_, _, _, rfl, _⟩ := h; rfl) | (obtain ⟨_, _, _, _, rfl, _⟩ := h; rfl) | (obtain ⟨_, _, _, _, _, rfl, _⟩ := h; rfl) | (obtain ⟨_, _, _, _, _, _, rfl, _⟩ := h; rfl) | (obtain ⟨_, _, _, _, _, _, _, rfl, _⟩ := h; rfl) | (obtain ⟨_, _, _, _, _, _, _, _, rfl, _⟩ := h; rfl) | (obtain ⟨_, _, _, _, _, _, _, _, _, rfl, _⟩ := h; rfl) | (obtain ⟨_, _, _, _, _, _, _, _, _, _, rfl, _⟩ := h; rfl) | (obtain ⟨_, _, _, _, _, _, _, _, _, _, _, rfl, _⟩ := h; rfl)) (fun _ _ _ _ _ _ us hl => match us, hl with | [], _ => rfl) fun cdv A outer s H E hr => ⟨_, pss_one (ps_ret (pe_mkR m_Formula hr (by omega) (by rfl) (pa_cons (C8.pe_gc (by rfl) Z.g_NO) pa_nil))), ?_⟩
  rintro ds W post ⟨rfl, rfl, k⟩
  try dsimp only [cxOf, Cx.nox, Cx.wish]
  walk_at "st"
  exact ⟨.no, rfl, ⟨trivial, by decide, by decide⟩, k⟩
abbrev s_every : Stmt := top 23
theorem sc_every : FnScope ["formula"] ["formula"] (defScope s_every) := ⟨rfl, rfl, rfl, by decide +kernel, rfl, by decide +kernel, by decide +kernel⟩
theorem c_every {P : Program} {w : World} {K : PySem.W.Frag} {mg : Str → Option Value} {base : Heap} {cl : Nat → Addr} {f : Addr} {fd : FuncData} (hm : mg "every" = some (.ref f)) (B : Blt mg) (Z : ZZ K w mg cl) (Fn : Fun K "every" "every" s_every f fd)
    (m_Formula : MakR P w K mg base 2 "Formula" (cl 0) (spN FK ⟨K, cl⟩ (starS 2 S_init))) : Cal P w K mg base 5 "every" (spN FK ⟨K, cl⟩ S_every) [] := by
  have fz := Z.z0
  refine calD hm Fn sc_every (by intro ds W post h; first | (obtain ⟨rfl, _⟩ := h; rfl) | (obtain ⟨_, rfl, _⟩ := h; rfl) | (obtain ⟨_, _, rfl, _⟩ := h; rfl) | (obtain ⟨_, _, _, rfl, _⟩ := h; rfl) | (obtain ⟨_, _, _, _, rfl, _⟩ := h; rfl) | (obtain ⟨_, _, _, _, _, rfl, _⟩ := h; rfl) | (obtain ⟨_, _, _, _, _, _, rfl, _⟩ := h; rfl) | (obtain ⟨_, _, _, _, _, _, _, rfl, _⟩ := h; rfl) | (obtain ⟨_, _, _, _, _, _, _, _, rfl, _⟩ := h; rfl) | (obtain ⟨_, _, _, _, _, _, _, _, _, rfl, _⟩ := h; rfl) | (obtain ⟨_, _, _, _, _, _, _, _, _, _, rfl, _⟩ := h; rfl) | (obtain ⟨_, _, _, _, _, _, _, _, _, _, _, rfl, _⟩ := h; rfl)) (fun _ _ _ _ _ _ us hl => match us, hl with | [_], _ => rfl) fun cdv A outer s H E hr => ⟨_, pss_one (ps_ret (pe_mkR m_Formula hr (by omega) (by rfl) (pa_cons (C8.pe_gc (by rfl) Z.g_ALL) (pa_cons (pv 0) pa_nil)))), ?_⟩
  rintro ds W post ⟨f, rfl, rfl, hf, k⟩
  try dsimp only [cxOf, Cx.nox, Cx.wish]
  walk_at "st"
  exact ⟨.all f, rfl, hf, k⟩
abbrev s_as_formula : Stmt := top 18
theorem sc_as_formula : FnScope ["value"] ["value"] (defScope s_as_formula) := ⟨rfl, rfl, rfl, by decide +kernel, rfl, by decide +kernel, by decide +kernel⟩
theorem c_as_formula {P : Program} {w : World} {K : PySem.W.Frag} {mg : Str → Option Value} {base : Heap} {cl : Nat → Addr} {f : Addr} {fd : FuncData} (hm : mg "as_formula" = some (.ref f)) (B : Blt mg) (Z : ZZ K w mg cl) (Fn : Fun K "as_formula" "as_formula" s_as_formula f fd)
    (c_is_atom : Cal P w K mg base 1 "is_atom" (spN FK ⟨K, cl⟩ S_isatom) [])
    (m_Formula : MakR P w K mg base 2 "Formula" (cl 0) (spN FK ⟨K, cl⟩ (starS 2 S_init))) : Cal P w K mg base 5 "as_formula" (spN FK ⟨K, cl⟩ S_opd) [] := by
  have fz := Z.z0
  refine calD hm Fn sc_as_formula (by intro ds W post h; first | (obtain ⟨rfl, _⟩ := h; rfl) | (obtain ⟨_, rfl, _⟩ := h; rfl) | (obtain ⟨_, _, rfl, _⟩ := h; rfl) | (obtain ⟨_, _, _, rfl, _⟩ := h; rfl) | (obtain ⟨_, _, _, _, rfl, _⟩ := h; rfl) | (obtain ⟨_, _, _, _, _, rfl, _⟩ := h; rfl) | (obtain ⟨_, _, _, _, _, _, rfl, _⟩ := h; rfl) | (obtain ⟨_, _, _, _, _, _, _, rfl, _⟩ := h; rfl) | (obtain ⟨_, _, _, _, _, _, _, _, rfl, _⟩ := h; rfl) | (obtain ⟨_, _, _, _, _, _, _, _, _, rfl, _⟩ := h; rfl) | (obtain ⟨_, _, _, _, _, _, _, _, _, _, rfl, _⟩ := h; rfl) | (obtain ⟨_, _, _, _, _, _, _, _, _, _, _, rfl, _⟩ := h; rfl)) (fun _ _ _ _ _ _ us hl => match us, hl with | [_], _ => rfl) fun cdv A outer s H E hr => ⟨_, pss_cons (ps_if (pt_val (pe_callB call_isi (by rfl) B.isinstance bt_isinstance (pa_cons (pv 0) (pa_cons (pe_glob (by rfl) Z.g_Formula (relV_ref _)) pa_nil)))) (pss_one (ps_ret (pv 0))) (pss_nil))
 (pss_one (ps_ret (pe_ifExp (pt_val (pe_c c_is_atom hr (by omega) (by rfl) (pa_cons (pv 0) pa_nil))) (pe_mkR m_Formula hr (by omega) (by rfl) (pa_cons (C8.pe_gc (by rfl) Z.g_ATOM) (pa_cons (pv 0) pa_nil))) pe_non))), ?_⟩
  rintro ds W post ⟨d, f, rfl, rfl, hd, k⟩
  try dsimp only [cxOf, Cx.nox, Cx.wish]
  rcases hd with rfl | ⟨c, hc, rfl, rfl⟩
  · walk_at "st"
    try refine isi_ins (.fm f) fz.ins ?_
    walk_at "st"
    try refine if_so (by first | rfl | decide +kernel | simp) ?_
    try walk_at "st"
    exact k
  · walk_at "st"
    refine isi_strF fz ?_
    walk_at "st"
    try refine if_not (by first | rfl | decide +kernel | simp) ?_
    try walk_at "st"
    refine hand0 ⟨_, rfl, rfl, Nat.le_of_ble_eq_true rfl, ?_⟩
    try simp only [List.nil_append]
    try walk_at "st"
    rw [isLet_sg, decide_eq_true hc]
    try refine if_so (by first | rfl | decide +kernel | simp) ?_
    try walk_at "st"
    exact ⟨.at c, rfl, ⟨hc, Nat.le_of_ble_eq_true rfl, Nat.lt_of_lt_of_le Nat.zero_lt_one (Nat.le_of_ble_eq_true rfl)⟩, k⟩
abbrev s_operand : Stmt := top 19
theorem sc_operand : FnScope ["value", "found"] ["value"] (defScope s_operand) := ⟨rfl, rfl, rfl, by decide +kernel, rfl, by decide +kernel, by decide +kernel⟩
theorem c_operand {P : Program} {w : World} {K : PySem.W.Frag} {mg : Str → Option Value} {base : Heap} {cl : Nat → Addr} {f : Addr} {fd : FuncData} (hm : mg "operand" = some (.ref f)) (B : Blt mg) (Z : ZZ K w mg cl) (Fn : Fun K "operand" "operand" s_operand f fd)
    (c_as_formula : Cal P w K mg base 5 "as_formula" (spN FK ⟨K, cl⟩ S_opd) []) : Cal P w K mg base 6 "operand" (spN FK ⟨K, cl⟩ S_opd) [] := by
  have fz := Z.z0
  refine calD hm Fn sc_operand (by intro ds W post h; first | (obtain ⟨rfl, _⟩ := h; rfl) | (obtain ⟨_, rfl, _⟩ := h; rfl) | (obtain ⟨_, _, rfl, _⟩ := h; rfl) | (obtain ⟨_, _, _, rfl, _⟩ := h; rfl) | (obtain ⟨_, _, _, _, rfl, _⟩ := h; rfl) | (obtain ⟨_, _, _, _, _, rfl, _⟩ := h; rfl) | (obtain ⟨_, _, _, _, _, _, rfl, _⟩ := h; rfl) | (obtain ⟨_, _, _, _, _, _, _, rfl, _⟩ := h; rfl) | (obtain ⟨_, _, _, _, _, _, _, _, rfl, _⟩ := h; rfl) | (obtain ⟨_, _, _, _, _, _, _, _, _, rfl, _⟩ := h; rfl) | (obtain ⟨_, _, _, _, _, _, _, _, _, _, rfl, _⟩ := h; rfl) | (obtain ⟨_, _, _, _, _, _, _, _, _, _, _, rfl, _⟩ := h; rfl)) (fun _ _ _ _ _ _ us hl => match us, hl with | [_], _ => rfl) fun cdv A outer s H E hr => ⟨_, pss_cons (ps_set (i := 1) sc_operand.nd rfl (Or.inl rfl) (pe_c c_as_formula hr (by omega) (by rfl) (pa_cons (pv 0) pa_nil)))
 (pss_cons (ps_if (pt_cmp (pc_isN (pv 1))) (pss_one (ps_never)) (pss_nil))
 (pss_one (ps_ret (pv 1)))), ?_⟩
  rintro ds W post ⟨d, f, rfl, rfl, hd, k⟩
  try dsimp only [cxOf, Cx.nox, Cx.wish]
  walk_at "st"
  refine hand0 ⟨d, f, rfl, rfl, hd, ?_⟩
  try simp only [List.nil_append]
  try walk_at "st"
  refine ev_isN_fm (f := f) ?_
  walk_at "st"
  refine ⟨rfl, ?_⟩
  walk_at "st"
  try refine if_not (by first | rfl | decide +kernel | simp) ?_
  try walk_at "st"
  exact k
abbrev s_Formula___invert__ : Stmt := inClass (top 17) 10
theorem sc_Formula___invert__ : FnScope ["self"] ["self"] (defScope s_Formula___invert__) := ⟨rfl, rfl, rfl, by decide +kernel, rfl, by decide +kernel, by decide +kernel⟩
theorem o_inv {P : Program} {w : World} {K : PySem.W.Frag} {mg : Str → Option Value} {base : Heap} {cl : Nat → Addr} {f : Addr} {fd : FuncData} (o : Own2 K (cl 0) "__invert__" f) (B : Blt mg) (Z : ZZ K w mg cl) (Fn : Fun K "__invert__" "Formula.__invert__" s_Formula___invert__ f fd)
    (m_Formula : MakR P w K mg base 2 "Formula" (cl 0) (spN FK ⟨K, cl⟩ (starS 2 S_init)))
    (c_no : Cal P w K mg base 5 "no" (spN FK ⟨K, cl⟩ S_no) []) : Opn P w K mg base 6 (cl 0) "__invert__" (spN FK ⟨K, cl⟩ S_inv) := by
  have fz := Z.z0
  refine opnD o Fn sc_Formula___invert__ (by intro ds W post h; first | (obtain ⟨rfl, _⟩ := h; rfl) | (obtain ⟨_, rfl, _⟩ := h; rfl) | (obtain ⟨_, _, rfl, _⟩ := h; rfl) | (obtain ⟨_, _, _, rfl, _⟩ := h; rfl) | (obtain ⟨_, _, _, _, rfl, _⟩ := h; rfl) | (obtain ⟨_, _, _, _, _, rfl, _⟩ := h; rfl) | (obtain ⟨_, _, _, _, _, _, rfl, _⟩ := h; rfl) | (obtain ⟨_, _, _, _, _, _, _, rfl, _⟩ := h; rfl) | (obtain ⟨_, _, _, _, _, _, _, _, rfl, _⟩ := h; rfl) | (obtain ⟨_, _, _, _, _, _, _, _, _, rfl, _⟩ := h; rfl) | (obtain ⟨_, _, _, _, _, _, _, _, _, _, rfl, _⟩ := h; rfl) | (obtain ⟨_, _, _, _, _, _, _, _, _, _, _, rfl, _⟩ := h; rfl)) (fun _ _ _ _ _ _ us hl => match us, hl with | [_], _ => rfl) fun cdv A outer s H E hr => ⟨_, pss_one (ps_ret (pe_mkR m_Formula hr (by omega) (by rfl) (pa_cons (C8.pe_gc (by rfl) Z.g_IF) (pa_cons (pv 0) (pa_cons (pe_c0 c_no hr (by omega) (by rfl)) pa_nil))))), ?_⟩
  rintro ds W post ⟨f, rfl, rfl, hf, k⟩
  try dsimp only [cxOf, Cx.nox, Cx.wish]
  walk_at "st"
  refine hand0 ⟨rfl, rfl, ?_⟩
  simp only [List.nil_append, List.append_nil]
  walk_at "st"
  exact ⟨.imp f .no, rfl, hf, k⟩
abbrev s_both : Stmt := top 20
theorem sc_both : FnScope ["one", "other"] ["one", "other"] (defScope s_both) := ⟨rfl, rfl, rfl, by decide +kernel, rfl, by decide +kernel, by decide +kernel⟩
theorem c_both {P : Program} {w : World} {K : PySem.W.Frag} {mg : Str → Option Value} {base : Heap} {cl : Nat → Addr} {f : Addr} {fd : FuncData} (hm : mg "both" = some (.ref f)) (B : Blt mg) (Z : ZZ K w mg cl) (Fn : Fun K "both" "both" s_both f fd)
    (m_Formula : MakR P w K mg base 2 "Formula" (cl 0) (spN FK ⟨K, cl⟩ (starS 2 S_init)))
    (o_inv : Opn P w K mg base 6 (cl 0) "__invert__" (spN FK ⟨K, cl⟩ S_inv)) : Cal P w K mg base 9 "both" (spN FK ⟨K, cl⟩ S_and) [] := by
  have fz := Z.z0
  refine calD hm Fn sc_both (by intro ds W post h; first | (obtain ⟨rfl, _⟩ := h; rfl) | (obtain ⟨_, rfl, _⟩ := h; rfl) | (obtain ⟨_, _, rfl, _⟩ := h; rfl) | (obtain ⟨_, _, _, rfl, _⟩ := h; rfl) | (obtain ⟨_, _, _, _, rfl, _⟩ := h; rfl) | (obtain ⟨_, _, _, _, _, rfl, _⟩ := h; rfl) | (obtain ⟨_, _, _, _, _, _, rfl, _⟩ := h; rfl) | (obtain ⟨_, _, _, _, _, _, _, rfl, _⟩ := h; rfl) | (obtain ⟨_, _, _, _, _, _, _, _, rfl, _⟩ := h; rfl) | (obtain ⟨_, _, _, _, _, _, _, _, _, rfl, _⟩ := h; rfl) | (obtain ⟨_, _, _, _, _, _, _, _, _, _, rfl, _⟩ := h; rfl) | (obtain ⟨_, _, _, _, _, _, _, _, _, _, _, rfl, _⟩ := h; rfl)) (fun _ _ _ _ _ _ us hl => match us, hl with | [_, _], _ => rfl) fun cdv A outer s H E hr => ⟨_, pss_one (ps_ret (pe_un (un_opn o_inv hr (by omega)) (pe_mkR m_Formula hr (by omega) (by rfl) (pa_cons (C8.pe_gc (by rfl) Z.g_IF) (pa_cons (pv 0) (pa_cons (pe_un (un_opn o_inv hr (by omega)) (pv 1)) pa_nil)))))), ?_⟩
  rintro ds W post ⟨f, g, rfl, rfl, hf, k⟩
  try dsimp only [cxOf, Cx.nox, Cx.wish]
  walk_at "st"
  refine hand0 ⟨g, rfl, rfl, hf.l.r, ?_⟩
  simp only [List.nil_append, List.append_nil]
  walk_at "st"
  refine ⟨.imp f (Fm.neg g), rfl, hf.l, ?_⟩
  walk_at "st"
  exact hand0 ⟨_, rfl, rfl, hf, k⟩
abbrev s_either : Stmt := top 21
theorem sc_either : FnScope ["one", "other"] ["one", "other"] (defScope s_either) := ⟨rfl, rfl, rfl, by decide +kernel, rfl, by decide +kernel, by decide +kernel⟩
theorem c_either {P : Program} {w : World} {K : PySem.W.Frag} {mg : Str → Option Value} {base : Heap} {cl : Nat → Addr} {f : Addr} {fd : FuncData} (hm : mg "either" = some (.ref f)) (B : Blt mg) (Z : ZZ K w mg cl) (Fn : Fun K "either" "either" s_either f fd)
    (m_Formula : MakR P w K mg base 2 "Formula" (cl 0) (spN FK ⟨K, cl⟩ (starS 2 S_init)))
    (o_inv : Opn P w K mg base 6 (cl 0) "__invert__" (spN FK ⟨K, cl⟩ S_inv)) : Cal P w K mg base 9 "either" (spN FK ⟨K, cl⟩ S_or) [] := by
  have fz := Z.z0
  refine calD hm Fn sc_either (by intro ds W post h; first | (obtain ⟨rfl, _⟩ := h; rfl) | (obtain ⟨_, rfl, _⟩ := h; rfl) | (obtain ⟨_, _, rfl, _⟩ := h; rfl) | (obtain ⟨_, _, _, rfl, _⟩ := h; rfl) | (obtain ⟨_, _, _, _, rfl, _⟩ := h; rfl) | (obtain ⟨_, _, _, _, _, rfl, _⟩ := h; rfl) | (obtain ⟨_, _, _, _, _, _, rfl, _⟩ := h; rfl) | (obtain ⟨_, _, _, _, _, _, _, rfl, _⟩ := h; rfl) | (obtain ⟨_, _, _, _, _, _, _, _, rfl, _⟩ := h; rfl) | (obtain ⟨_, _, _, _, _, _, _, _, _, rfl, _⟩ := h; rfl) | (obtain ⟨_, _, _, _, _, _, _, _, _, _, rfl, _⟩ := h; rfl) | (obtain ⟨_, _, _, _, _, _, _, _, _, _, _, rfl, _⟩ := h; rfl)) (fun _ _ _ _ _ _ us hl => match us, hl with | [_, _], _ => rfl) fun cdv A outer s H E hr => ⟨_, pss_one (ps_ret (pe_mkR m_Formula hr (by omega) (by rfl) (pa_cons (C8.pe_gc (by rfl) Z.g_IF) (pa_cons (pe_un (un_opn o_inv hr (by omega)) (pv 0)) (pa_cons (pv 1) pa_nil))))), ?_⟩
  rintro ds W post ⟨f, g, rfl, rfl, hf, k⟩
  try dsimp only [cxOf, Cx.nox, Cx.wish]
  walk_at "st"
  refine hand0 ⟨f, rfl, rfl, hf.l, ?_⟩
  simp only [List.nil_append, List.append_nil]
  walk_at "st"
  exact ⟨_, rfl, hf, k⟩
abbrev s_Formula___and__ : Stmt := inClass (top 17) 11
theorem sc_Formula___and__ : FnScope ["self", "other"] ["self", "other"] (defScope s_Formula___and__) := ⟨rfl, rfl, rfl, by decide +kernel, rfl, by decide +kernel, by decide +kernel⟩
theorem o_and {P : Program} {w : World} {K : PySem.W.Frag} {mg : Str → Option Value} {base : Heap} {cl : Nat → Addr} {f : Addr} {fd : FuncData} (o : Own2 K (cl 0) "__and__" f) (B : Blt mg) (Z : ZZ K w mg cl) (Fn : Fun K "__and__" "Formula.__and__" s_Formula___and__ f fd)
    (c_operand : Cal P w K mg base 6 "operand" (spN FK ⟨K, cl⟩ S_opd) [])
    (c_both : Cal P w K mg base 9 "both" (spN FK ⟨K, cl⟩ S_and) []) : Opn P w K mg base 10 (cl 0) "__and__" (spN FK ⟨K, cl⟩ S_and) := by
  have fz := Z.z0
  refine opnD o Fn sc_Formula___and__ (by intro ds W post h; first | (obtain ⟨rfl, _⟩ := h; rfl) | (obtain ⟨_, rfl, _⟩ := h; rfl) | (obtain ⟨_, _, rfl, _⟩ := h; rfl) | (obtain ⟨_, _, _, rfl, _⟩ := h; rfl) | (obtain ⟨_, _, _, _, rfl, _⟩ := h; rfl) | (obtain ⟨_, _, _, _, _, rfl, _⟩ := h; rfl) | (obtain ⟨_, _, _, _, _, _, rfl, _⟩ := h; rfl) | (obtain ⟨_, _, _, _, _, _, _, rfl, _⟩ := h; rfl) | (obtain ⟨_, _, _, _, _, _, _, _, rfl, _⟩ := h; rfl) | (obtain ⟨_, _, _, _, _, _, _, _, _, rfl, _⟩ := h; rfl) | (obtain ⟨_, _, _, _, _, _, _, _, _, _, rfl, _⟩ := h; rfl) | (obtain ⟨_, _, _, _, _, _, _, _, _, _, _, rfl, _⟩ := h; rfl)) (fun _ _ _ _ _ _ us hl => match us, hl with | [_, _], _ => rfl) fun cdv A outer s H E hr => ⟨_, pss_one (ps_ret (pe_c c_both hr (by omega) (by rfl) (pa_cons (pv 0) (pa_cons (pe_c c_operand hr (by omega) (by rfl) (pa_cons (pv 1) pa_nil)) pa_nil)))), ?_⟩
  rintro ds W post ⟨f, g, rfl, rfl, hf, k⟩
  try dsimp only [cxOf, Cx.nox, Cx.wish]
  walk_at "st"
  refine hand0 ⟨_, g, rfl, rfl, .inl rfl, ?_⟩
  simp only [List.nil_append, List.append_nil]
  walk_at "st"
  exact hand0 ⟨f, g, rfl, rfl, hf, k⟩
abbrev s_Formula___or__ : Stmt := inClass (top 17) 13
theorem sc_Formula___or__ : FnScope ["self", "other"] ["self", "other"] (defScope s_Formula___or__) := ⟨rfl, rfl, rfl, by decide +kernel, rfl, by decide +kernel, by decide +kernel⟩
theorem o_or {P : Program} {w : World} {K : PySem.W.Frag} {mg : Str → Option Value} {base : Heap} {cl : Nat → Addr} {f : Addr} {fd : FuncData} (o : Own2 K (cl 0) "__or__" f) (B : Blt mg) (Z : ZZ K w mg cl) (Fn : Fun K "__or__" "Formula.__or__" s_Formula___or__ f fd)
    (c_operand : Cal P w K mg base 6 "operand" (spN FK ⟨K, cl⟩ S_opd) [])
    (c_either : Cal P w K mg base 9 "either" (spN FK ⟨K, cl⟩ S_or) []) : Opn P w K mg base 10 (cl 0) "__or__" (spN FK ⟨K, cl⟩ S_or) := by
  have fz := Z.z0
  refine opnD o Fn sc_Formula___or__ (by intro ds W post h; first | (obtain ⟨rfl, _⟩ := h; rfl) | (obtain ⟨_, rfl, _⟩ := h; rfl) | (obtain ⟨_, _, rfl, _⟩ := h; rfl) | (obtain ⟨_, _, _, rfl, _⟩ := h; rfl) | (obtain ⟨_, _, _, _, rfl, _⟩ := h; rfl) | (obtain ⟨_, _, _, _, _, rfl, _⟩ := h; rfl) | (obtain ⟨_, _, _, _, _, _, rfl, _⟩ := h; rfl) | (obtain ⟨_, _, _, _, _, _, _, rfl, _⟩ := h; rfl) | (obtain ⟨_, _, _, _, _, _, _, _, rfl, _⟩ := h; rfl) | (obtain ⟨_, _, _, _, _, _, _, _, _, rfl, _⟩ := h; rfl) | (obtain ⟨_, _, _, _, _, _, _, _, _, _, rfl, _⟩ := h; rfl) | (obtain ⟨_, _, _, _, _, _, _, _, _, _, _, rfl, _⟩ := h; rfl)) (fun _ _ _ _ _ _ us hl => match us, hl with | [_, _], _ => rfl) fun cdv A outer s H E hr => ⟨_, pss_one (ps_ret (pe_c c_either hr (by omega) (by rfl) (pa_cons (pv 0) (pa_cons (pe_c c_operand hr (by omega) (by rfl) (pa_cons (pv 1) pa_nil)) pa_nil)))), ?_⟩
  rintro ds W post ⟨f, g, rfl, rfl, hf, k⟩
  try dsimp only [cxOf, Cx.nox, Cx.wish]
  walk_at "st"
  refine hand0 ⟨_, g, rfl, rfl, .inl rfl, ?_⟩
  simp only [List.nil_append, List.append_nil]
  walk_at "st"
  exact hand0 ⟨f, g, rfl, rfl, hf, k⟩
abbrev s_Formula___rshift__ : Stmt := inClass (top 17) 8
theorem sc_Formula___rshift__ : FnScope ["self", "other"] ["self", "other"] (defScope s_Formula___rshift__) := ⟨rfl, rfl, rfl, by decide +kernel, rfl, by decide +kernel, by decide +kernel⟩
theorem o_shr {P : Program} {w : World} {K : PySem.W.Frag} {mg : Str → Option Value} {base : Heap} {cl : Nat → Addr} {f : Addr} {fd : FuncData} (o : Own2 K (cl 0) "__rshift__" f) (B : Blt mg) (Z : ZZ K w mg cl) (Fn : Fun K "__rshift__" "Formula.__rshift__" s_Formula___rshift__ f fd)
    (m_Formula : MakR P w K mg base 2 "Formula" (cl 0) (spN FK ⟨K, cl⟩ (starS 2 S_init)))
    (c_operand : Cal P w K mg base 6 "operand" (spN FK ⟨K, cl⟩ S_opd) []) : Opn P w K mg base 7 (cl 0) "__rshift__" (spN FK ⟨K, cl⟩ S_shr) := by
  have fz := Z.z0
  refine opnD o Fn sc_Formula___rshift__ (by intro ds W post h; first | (obtain ⟨rfl, _⟩ := h; rfl) | (obtain ⟨_, rfl, _⟩ := h; rfl) | (obtain ⟨_, _, rfl, _⟩ := h; rfl) | (obtain ⟨_, _, _, rfl, _⟩ := h; rfl) | (obtain ⟨_, _, _, _, rfl, _⟩ := h; rfl) | (obtain ⟨_, _, _, _, _, rfl, _⟩ := h; rfl) | (obtain ⟨_, _, _, _, _, _, rfl, _⟩ := h; rfl) | (obtain ⟨_, _, _, _, _, _, _, rfl, _⟩ := h; rfl) | (obtain ⟨_, _, _, _, _, _, _, _, rfl, _⟩ := h; rfl) | (obtain ⟨_, _, _, _, _, _, _, _, _, rfl, _⟩ := h; rfl) | (obtain ⟨_, _, _, _, _, _, _, _, _, _, rfl, _⟩ := h; rfl) | (obtain ⟨_, _, _, _, _, _, _, _, _, _, _, rfl, _⟩ := h; rfl)) (fun _ _ _ _ _ _ us hl => match us, hl with | [_, _], _ => rfl) fun cdv A outer s H E hr => ⟨_, pss_one (ps_ret (pe_mkR m_Formula hr (by omega) (by rfl) (pa_cons (C8.pe_gc (by rfl) Z.g_IF) (pa_cons (pv 0) (pa_cons (pe_c c_operand hr (by omega) (by rfl) (pa_cons (pv 1) pa_nil)) pa_nil))))), ?_⟩
  rintro ds W post ⟨f, g, rfl, rfl, hf, k⟩
  try dsimp only [cxOf, Cx.nox, Cx.wish]
  walk_at "st"
  refine hand0 ⟨_, g, rfl, rfl, .inl rfl, ?_⟩
  simp only [List.nil_append, List.append_nil]
  walk_at "st"
  exact ⟨_, rfl, hf, k⟩
abbrev s_Formula___str__ : Stmt := inClass (top 17) 7
theorem sc_Formula___str__ : FnScope ["self"] ["self"] (defScope s_Formula___str__) := ⟨rfl, rfl, rfl, by decide +kernel, rfl, by decide +kernel, by decide +kernel⟩
theorem o_str {P : Program} {w : World} {K : PySem.W.Frag} {mg : Str → Option Value} {base : Heap} {cl : Nat → Addr} {f : Addr} {fd : FuncData} (o : Own2 K (cl 0) "__str__" f) (B : Blt mg) (Z : ZZ K w mg cl) (Fn : Fun K "__str__" "Formula.__str__" s_Formula___str__ f fd) : Opn P w K mg base 1 (cl 0) "__str__" (spN FK ⟨K, cl⟩ S_str) := by
  have fz := Z.z0
  refine opnD o Fn sc_Formula___str__ (by intro ds W post h; first | (obtain ⟨rfl, _⟩ := h; rfl) | (obtain ⟨_, rfl, _⟩ := h; rfl) | (obtain ⟨_, _, rfl, _⟩ := h; rfl) | (obtain ⟨_, _, _, rfl, _⟩ := h; rfl) | (obtain ⟨_, _, _, _, rfl, _⟩ := h; rfl) | (obtain ⟨_, _, _, _, _, rfl, _⟩ := h; rfl) | (obtain ⟨_, _, _, _, _, _, rfl, _⟩ := h; rfl) | (obtain ⟨_, _, _, _, _, _, _, rfl, _⟩ := h; rfl) | (obtain ⟨_, _, _, _, _, _, _, _, rfl, _⟩ := h; rfl) | (obtain ⟨_, _, _, _, _, _, _, _, _, rfl, _⟩ := h; rfl) | (obtain ⟨_, _, _, _, _, _, _, _, _, _, rfl, _⟩ := h; rfl) | (obtain ⟨_, _, _, _, _, _, _, _, _, _, _, rfl, _⟩ := h; rfl)) (fun _ _ _ _ _ _ us hl => match us, hl with | [_], _ => rfl) fun cdv A outer s H E hr => ⟨_, pss_one (ps_ret (pe_callTy SkE.call_str_str (by rfl) B.str bt_str (pa_cons (pe_fld (pv 0) rfl) pa_nil))), ?_⟩
  rintro ds W post ⟨f, rfl, rfl, k⟩
  try dsimp only [cxOf, Cx.nox, Cx.wish]
  walk_at "st"
  refine ca_strS ?_
  exact k
abbrev s_Formula___len__ : Stmt := inClass (top 17) 5
theorem sc_Formula___len__ : FnScope ["self"] ["self"] (defScope s_Formula___len__) := ⟨rfl, rfl, rfl, by decide +kernel, rfl, by decide +kernel, by decide +kernel⟩
theorem o_len {P : Program} {w : World} {K : PySem.W.Frag} {mg : Str → Option Value} {base : Heap} {cl : Nat → Addr} {f : Addr} {fd : FuncData} (o : Own2 K (cl 0) "__len__" f) (B : Blt mg) (Z : ZZ K w mg cl) (Fn : Fun K "__len__" "Formula.__len__" s_Formula___len__ f fd) : Opn P w K mg base 1 (cl 0) "__len__" (spN FK ⟨K, cl⟩ S_many) := by
  have fz := Z.z0
  refine opnD o Fn sc_Formula___len__ (by intro ds W post h; first | (obtain ⟨rfl, _⟩ := h; rfl) | (obtain ⟨_, rfl, _⟩ := h; rfl) | (obtain ⟨_, _, rfl, _⟩ := h; rfl) | (obtain ⟨_, _, _, rfl, _⟩ := h; rfl) | (obtain ⟨_, _, _, _, rfl, _⟩ := h; rfl) | (obtain ⟨_, _, _, _, _, rfl, _⟩ := h; rfl) | (obtain ⟨_, _, _, _, _, _, rfl, _⟩ := h; rfl) | (obtain ⟨_, _, _, _, _, _, _, rfl, _⟩ := h; rfl) | (obtain ⟨_, _, _, _, _, _, _, _, rfl, _⟩ := h; rfl) | (obtain ⟨_, _, _, _, _, _, _, _, _, rfl, _⟩ := h; rfl) | (obtain ⟨_, _, _, _, _, _, _, _, _, _, rfl, _⟩ := h; rfl) | (obtain ⟨_, _, _, _, _, _, _, _, _, _, _, rfl, _⟩ := h; rfl)) (fun _ _ _ _ _ _ us hl => match us, hl with | [_], _ => rfl) fun cdv A outer s H E hr => ⟨_, pss_one (ps_ret (pe_callB call_len_str (by rfl) B.len bt_len (pa_cons (pe_op op_mul_str pe_str (pe_fld (pv 0) rfl)) pa_nil))), ?_⟩
  rintro ds W post ⟨f, rfl, rfl, hf, k⟩
  try dsimp only [cxOf, Cx.nox, Cx.wish]
  have h16 := sizeLine_eq
  walk_at "st"
  refine bo_mulS (by omega) ?_
  walk_at "st"
  refine ca_lenStr (by rw [spaces_len]; omega) ?_
  rw [spaces_len]
  exact k
abbrev s_Formula_depth : Stmt := inClass (top 17) 2
theorem sc_Formula_depth : FnScope ["self"] ["self"] (defScope s_Formula_depth) := ⟨rfl, rfl, rfl, by decide +kernel, rfl, by decide +kernel, by decide +kernel⟩
theorem p_depth {P : Program} {w : World} {K : PySem.W.Frag} {mg : Str → Option Value} {base : Heap} {cl : Nat → Addr} {f : Addr} {fd : FuncData} {p : Addr} (o : PropOf K (cl 0) "depth" p f) (B : Blt mg) (Z : ZZ K w mg cl) (Fn : Fun K "depth" "Formula.depth" s_Formula_depth f fd) : Prp P w K mg base 1 (cl 0) "depth" (spN FK ⟨K, cl⟩ S_depth) := by
  have fz := Z.z0
  refine prpD o Fn sc_Formula_depth (by intro ds W post h; first | (obtain ⟨rfl, _⟩ := h; rfl) | (obtain ⟨_, rfl, _⟩ := h; rfl) | (obtain ⟨_, _, rfl, _⟩ := h; rfl) | (obtain ⟨_, _, _, rfl, _⟩ := h; rfl) | (obtain ⟨_, _, _, _, rfl, _⟩ := h; rfl) | (obtain ⟨_, _, _, _, _, rfl, _⟩ := h; rfl) | (obtain ⟨_, _, _, _, _, _, rfl, _⟩ := h; rfl) | (obtain ⟨_, _, _, _, _, _, _, rfl, _⟩ := h; rfl) | (obtain ⟨_, _, _, _, _, _, _, _, rfl, _⟩ := h; rfl) | (obtain ⟨_, _, _, _, _, _, _, _, _, rfl, _⟩ := h; rfl) | (obtain ⟨_, _, _, _, _, _, _, _, _, _, rfl, _⟩ := h; rfl) | (obtain ⟨_, _, _, _, _, _, _, _, _, _, _, rfl, _⟩ := h; rfl)) (fun _ _ _ _ _ _ us hl => match us, hl with | [_], _ => rfl) fun cdv A outer s H E hr => ⟨_, pss_one (ps_ret (pe_fld (pv 0) rfl)), ?_⟩
  rintro ds W post ⟨f, rfl, rfl, k⟩
  try dsimp only [cxOf, Cx.nox, Cx.wish]
  walk_at "st"
  exact k
abbrev s_Formula_alls : Stmt := inClass (top 17) 3
theorem sc_Formula_alls : FnScope ["self"] ["self"] (defScope s_Formula_alls) := ⟨rfl, rfl, rfl, by decide +kernel, rfl, by decide +kernel, by decide +kernel⟩
theorem p_alls {P : Program} {w : World} {K : PySem.W.Frag} {mg : Str → Option Value} {base : Heap} {cl : Nat → Addr} {f : Addr} {fd : FuncData} {p : Addr} (o : PropOf K (cl 0) "alls" p f) (B : Blt mg) (Z : ZZ K w mg cl) (Fn : Fun K "alls" "Formula.alls" s_Formula_alls f fd) : Prp P w K mg base 1 (cl 0) "alls" (spN FK ⟨K, cl⟩ S_alls) := by
  have fz := Z.z0
  refine prpD o Fn sc_Formula_alls (by intro ds W post h; first | (obtain ⟨rfl, _⟩ := h; rfl) | (obtain ⟨_, rfl, _⟩ := h; rfl) | (obtain ⟨_, _, rfl, _⟩ := h; rfl) | (obtain ⟨_, _, _, rfl, _⟩ := h; rfl) | (obtain ⟨_, _, _, _, rfl, _⟩ := h; rfl) | (obtain ⟨_, _, _, _, _, rfl, _⟩ := h; rfl) | (obtain ⟨_, _, _, _, _, _, rfl, _⟩ := h; rfl) | (obtain ⟨_, _, _, _, _, _, _, rfl, _⟩ := h; rfl) | (obtain ⟨_, _, _, _, _, _, _, _, rfl, _⟩ := h; rfl) | (obtain ⟨_, _, _, _, _, _, _, _, _, rfl, _⟩ := h; rfl) | (obtain ⟨_, _, _, _, _, _, _, _, _, _, rfl, _⟩ := h; rfl) | (obtain ⟨_, _, _, _, _, _, _, _, _, _, _, rfl, _⟩ := h; rfl)) (fun _ _ _ _ _ _ us hl => match us, hl with | [_], _ => rfl) fun cdv A outer s H E hr => ⟨_, pss_one (ps_ret (pe_fld (pv 0) rfl)), ?_⟩
  rintro ds W post ⟨f, rfl, rfl, k⟩
  try dsimp only [cxOf, Cx.nox, Cx.wish]
  walk_at "st"
  exact k

abbrev s_BadText___init__ : Stmt := inClass (top 4) 0
theorem sc_BadText___init__ : FnScope ["self", "place"] ["self", "place"] (defScope s_BadText___init__) := ⟨rfl, rfl, rfl, by decide +kernel, rfl, by decide +kernel, by decide +kernel⟩
theorem e_BadText {P : Program} {w : World} {K : PySem.W.Frag} {mg : Str → Option Value} {base : Heap} {cl : Nat → Addr} {f : Addr} {fd : FuncData} {BW : Addr} (iC : PySem.W.findIn K (.ref (cl 12)) "__init__" = some (some (.ref f))) (tI : PySem.W.typeIn K (.ref f) = some (.type "function")) (bw : BaseX K BW) (gw : mg "WebError" = some (.ref BW)) (Z : ZZ K w mg cl) (Fn : Fun K "__init__" "BadText.__init__" s_BadText___init__ f fd) : Err P w K mg base 1 "BadText" (cl 12) "place" := by
  exact errD Z.x12 iC tI Z.g_BadText Fn sc_BadText___init__ rfl rfl (fun _ _ _ _ _ _ us hl => match us, hl with | [_, _], _ => rfl) fun cdv A outer s H E => ⟨_, pss_cons (ps_expr (pe_exinit bw (by rfl) gw (pa_cons (pv 0) (pa_cons pe_str pa_nil)))) (pss_one (ps_osx (pv 0) (pv 1) rfl))⟩
end N
set_option Elab.async false
set_option linter.all false
set_option maxRecDepth 100000
namespace N
open PySem PySem.Spec PyProof.Rows L2
open C8 (Cal Met Mak InsC pe_c pe_mt pe_mt0 pe_mk)
set_option maxHeartbeats 4000000

local macro_rules | `(tactic| walk_at "vl") => `(tactic| first | exact .inl (.inl rfl) | exact .inr ⟨_, rfl, List.mem_cons_self⟩ | exact .inr ⟨_, rfl, List.mem_cons_of_mem _ List.mem_cons_self⟩ | exact .inr ⟨_, rfl, List.mem_cons_of_mem _ (List.mem_cons_of_mem _ List.mem_cons_self)⟩ | exact .inr ⟨_, rfl, List.mem_cons_of_mem _ (List.mem_cons_of_mem _ (List.mem_cons_of_mem _ List.mem_cons_self))⟩ | exact .inl (.inr ⟨_, rfl, rfl⟩))
local macro_rules | `(tactic| walk_at "vt") => `(tactic| first | exact .inl rfl | exact .inr ⟨_, rfl, List.mem_cons_self⟩ | exact .inr ⟨_, rfl, List.mem_cons_of_mem _ List.mem_cons_self⟩ | exact .inr ⟨_, rfl, List.mem_cons_of_mem _ (List.mem_cons_of_mem _ List.mem_cons_self)⟩ | exact .inr ⟨_, rfl, List.mem_cons_of_mem _ (List.mem_cons_of_mem _ (List.mem_cons_of_mem _ List.mem_cons_self))⟩)
local macro_rules | `(tactic| walk_at "vd") => `(tactic| first | exact .inl rfl | exact .inr ⟨_, rfl, List.mem_cons_self⟩ | exact .inr ⟨_, rfl, List.mem_cons_of_mem _ List.mem_cons_self⟩ | exact .inr ⟨_, rfl, List.mem_cons_of_mem _ (List.mem_cons_of_mem _ List.mem_cons_self)⟩ | exact .inr ⟨_, rfl, List.mem_cons_of_mem _ (List.mem_cons_of_mem _ (List.mem_cons_of_mem _ List.mem_cons_self))⟩)
local macro_rules | `(tactic| walk_at "gg") => `(tactic| first | exact getG_hd _ _ _ | (refine getG_tl (by decide +kernel) ?_; walk_at "gg"))
local macro_rules | `(tactic| walk_at "vs") => `(tactic| first | exact .inr rfl | (refine .inl ?_; walk_at "vl"))
local macro_rules | `(tactic| walk_at "nc") => `(tactic| first | omega | (unfold CMul; omega) | (unfold CDiv; omega) | (unfold CPow; decide) | (show (0 : Int) < _; omega))
local macro_rules | `(tactic| walk_at "sx") => `(tactic| first
  | with_reducible refine swx_seq ?_ | with_reducible refine swx_set ?_ | with_reducible refine swx_if ?_ | with_reducible refine swx_asg ?_ | with_reducible refine swx_ret ?_ | with_reducible refine swx_drop ?_ | with_reducible refine swx_raise ?_ | with_reducible refine swx_next ?_ | with_reducible refine swx_brk ?_ | with_reducible refine swx_cont ?_ | with_reducible refine swx_retN ?_ | with_reducible refine swx_par ?_ | with_reducible refine swx_fld ?_
  | with_reducible refine evx_call ?_ | with_reducible refine evx_cm ?_ | with_reducible refine evx_cmk ?_ | with_reducible refine evx_mk ?_ | with_reducible refine evx_mkk ?_ | with_reducible refine evx_of ?_)
local macro_rules | `(tactic| walk_at "s1") => `(tactic| first
  | with_reducible refine sw_seq ?_ | with_reducible refine sw_set ?_ | (with_reducible refine' ev_var ?h ?_); (case h => rfl) | with_reducible refine ev_c ?_ | with_reducible refine ev_op ?_
  | with_reducible refine bo_I0 ?_ | with_reducible refine ev_tup ?_ | with_reducible refine ev_lstF ?_ | with_reducible refine ev_cb ?_ | with_reducible refine ea_cons ?_ | with_reducible refine ea_nil ?_
  | with_reducible refine bo_eqI ?_ | with_reducible refine bo_neI ?_ | with_reducible refine bo_eqS ?_ | with_reducible refine bo_neS ?_ | with_reducible refine bo_eqB ?_ | with_reducible refine bo_neB ?_
  | with_reducible refine isi_str ?_ | (with_reducible refine' ca_intBt ?h1 ?_); (case h1 => decide +kernel) | (with_reducible refine' ca_intBf ?h1 ?_); (case h1 => decide +kernel) | with_reducible refine ca_intB ?_ | with_reducible refine ca_int ?_ | with_reducible refine ca_max2 ?_ | with_reducible refine ca_min2 ?_
  | with_reducible refine sw_if ?_ | with_reducible refine sw_ret ?_ | with_reducible refine sw_drop ?_ | with_reducible refine sw_setL ?_ | with_reducible refine sw_next ?_ | with_reducible refine sw_par ?_ | with_reducible refine ev_neg ?_ | with_reducible refine ev_mkF ?_ | with_reducible refine ev_inv ?_ | with_reducible refine ev_prpF ?_ | with_reducible refine ta_fld ?_ | with_reducible refine ta_name ?_ | (with_reducible refine' ta_tup ?hl ?_); (case hl => rfl) | with_reducible refine tas_cons ?_ | with_reducible refine tas_nil ?_
  | with_reducible refine et_ifE ?_ | with_reducible refine ev_orV ?_ | with_reducible refine ev_andV ?_ | with_reducible refine ev_notV ?_ | with_reducible refine et_or ?_ | with_reducible refine et_and ?_ | with_reducible refine sw_asgA ?_ | with_reducible refine sw_asg2 ?_ | with_reducible refine sw_asg3 ?_ | with_reducible refine sw_fld ?_ | with_reducible refine et_test ?_ | with_reducible refine et_B ?_ | with_reducible refine ⟨_, rfl, ?_⟩ | with_reducible refine ⟨_, _, rfl, ?_⟩ | with_reducible refine et_not ?_ | with_reducible refine ev_if ?_
  | (with_reducible refine' bo_ixL ?h1 ?h2 ?_); (case h1 => walk_at "vl"); (case h2 => rfl) | (with_reducible refine' bo_ixT ?h2 ?_); (case h2 => rfl) | with_reducible refine ev_call ?_ | ((with_reducible refine' ev_fwF ?hz ?hy ?_); (case hz => assumption); (case hy => assumption)) | (with_reducible refine' ev_fmF ?hz ?_; case hz => assumption) | with_reducible refine ev_fld ?_
  | with_reducible refine .inr ⟨_, _, rfl, FldW.below _, ?_⟩ | with_reducible refine .inr ⟨_, _, rfl, FldW.atoms _, ?_⟩ | with_reducible refine .inr ⟨_, _, rfl, FldW.bens _, ?_⟩ | with_reducible refine .inr ⟨_, _, rfl, FldW.hgts _, ?_⟩
  | with_reducible refine .inl ⟨_, _, rfl, FldF.kind _, ?_⟩ | with_reducible refine .inl ⟨_, _, rfl, FldF.parts _, ?_⟩ | with_reducible refine .inl ⟨_, _, rfl, FldF.many _, ?_⟩ | with_reducible refine .inl ⟨_, _, rfl, FldF.deep _, ?_⟩ | with_reducible refine .inl ⟨_, _, rfl, FldF.atoms _, ?_⟩ | with_reducible refine .inl ⟨_, _, rfl, FldF.bare _, ?_⟩ | with_reducible refine .inl ⟨_, _, rfl, FldF.spell _, ?_⟩ | with_reducible refine .inl ⟨_, _, rfl, FldF.alls _, ?_⟩
  | with_reducible refine ev_meth ?_ | ((with_reducible refine' ⟨_, _, inst_wb _, ?hm, ?_⟩); (case hm => decide +kernel)) | ((with_reducible refine' ⟨_, _, Inst.fm _, ?hm, ?_⟩); (case hm => decide +kernel))
  | with_reducible refine ⟨_, _, rfl, FldF.kind _, ?_⟩ | with_reducible refine ⟨_, _, rfl, FldF.parts _, ?_⟩ | with_reducible refine ⟨_, _, rfl, FldF.many _, ?_⟩ | with_reducible refine ⟨_, _, rfl, FldF.deep _, ?_⟩ | with_reducible refine ⟨_, _, rfl, FldF.atoms _, ?_⟩ | with_reducible refine ⟨_, _, rfl, FldF.bare _, ?_⟩ | with_reducible refine ⟨_, _, rfl, FldF.spell _, ?_⟩ | with_reducible refine ⟨_, _, rfl, FldF.alls _, ?_⟩
  | ((with_reducible refine' ⟨len_ok ?hl, ?_⟩); (case hl => exact Nat.le_of_ble_eq_true rfl))
  | (with_reducible refine' bo_I ?h1 ?_); (case h1 => walk_at "nc")
  | with_reducible refine ev_sl ?_ | with_reducible refine eo_none ?_ | with_reducible refine eo_some ?_ | (with_reducible refine' ca_slF ?h1 ?_); (case h1 => walk_at "vl") | with_reducible refine ev_revF ?_ | with_reducible refine ev_dget ?_ | with_reducible refine sw_dput ?_ | with_reducible refine ev_dispF ?_ | with_reducible refine eps_cons ?_ | with_reducible refine eps_nil ?_ | with_reducible refine exk_str ?_ | with_reducible refine exk_int ?_ | (with_reducible refine' dg_str ?h1 ?h2 ?_); (case h1 => walk_at "vd"); (case h2 => walk_at "gg")
  | with_reducible refine unr_cons ?_ | with_reducible refine unr_nil ?_ | with_reducible refine swu_cons ?_ | with_reducible refine swu_nil ?_ | with_reducible refine et_yes ?_ | with_reducible refine tg_name ?_ | (with_reducible refine' tw_name ?h1 ?_); (case h1 => simp) | ((with_reducible refine' ⟨acc_ok ?h1, ?_⟩); (case h1 => exact Nat.le_of_ble_eq_true rfl)) | with_reducible refine ei_tup ?_ | with_reducible refine ei_list ?_ | with_reducible refine ei_rng1 ?_
  | with_reducible refine ca_strF ?_ | with_reducible refine ca_lenF ?_ | with_reducible refine isi_tup ?_ | with_reducible refine isi_int ?_ | with_reducible refine isi_intB ?_ | with_reducible refine et_chain ?_ | with_reducible refine ev_chain ?_ | (with_reducible refine' isi_fm ?hz ?_; case hz => assumption)
  | (with_reducible refine' ca_len ?h1 ?_); (case h1 => walk_at "vs")
  | (with_reducible refine' if_so ?h1 ?_); (case h1 => first | rfl | decide +kernel) | (with_reducible refine' if_not ?h1 ?_); (case h1 => first | rfl | decide +kernel))
local macro_rules | `(tactic| walk_at "st") => `(tactic| repeat first | walk_at "s1" | walk_at "sx")
abbrev s_place_of_end : Stmt := top 24
theorem sc_place_of_end : FnScope ["text", "wanted", "at", "count", "sign"] ["text", "wanted", "at"] (defScope s_place_of_end) := ⟨rfl, rfl, rfl, by decide +kernel, rfl, by decide +kernel, by decide +kernel⟩
theorem c_place_of_end {P : Program} {w : World} {K : PySem.W.Frag} {mg : Str → Option Value} {base : Heap} {cl : Nat → Addr} {f : Addr} {fd : FuncData} (hm : mg "place_of_end" = some (.ref f)) (B : Blt mg) (Z : ZZ K w mg cl) (Fn : Fun K "place_of_end" "place_of_end" s_place_of_end f fd) : Cal P w K mg base 1 "place_of_end" (spN FK ⟨K, cl⟩ S_placeend) [] := by
  have fz := Z.z0
  refine calD hm Fn sc_place_of_end (by intro ds W post h; first | (obtain ⟨rfl, _⟩ := h; rfl) | (obtain ⟨_, rfl, _⟩ := h; rfl) | (obtain ⟨_, _, rfl, _⟩ := h; rfl) | (obtain ⟨_, _, _, rfl, _⟩ := h; rfl) | (obtain ⟨_, _, _, _, rfl, _⟩ := h; rfl) | (obtain ⟨_, _, _, _, _, rfl, _⟩ := h; rfl) | (obtain ⟨_, _, _, _, _, _, rfl, _⟩ := h; rfl) | (obtain ⟨_, _, _, _, _, _, _, rfl, _⟩ := h; rfl) | (obtain ⟨_, _, _, _, _, _, _, _, rfl, _⟩ := h; rfl) | (obtain ⟨_, _, _, _, _, _, _, _, _, rfl, _⟩ := h; rfl) | (obtain ⟨_, _, _, _, _, _, _, _, _, _, rfl, _⟩ := h; rfl) | (obtain ⟨_, _, _, _, _, _, _, _, _, _, _, rfl, _⟩ := h; rfl)) (fun _ _ _ _ _ _ us hl => match us, hl with | [_, _, _], _ => rfl) fun cdv A outer s H E hr => ⟨_, pss_cons (ps_for PassesOwn.never rfl (pi_enumK (by rfl) B.enumerate (pa_cons (pv 1) pa_nil)) (pg_tup (n := 2) rfl (pgs_cons (pg_name (i := 3) sc_place_of_end.nd rfl (Or.inl rfl)) (pgs_cons (pg_name (i := 4) sc_place_of_end.nd rfl (Or.inl rfl)) pgs_nil))) (pss_one (ps_if (PW.pt (pw_or (pt_cmpR op_ge (pe_op op_add (pv 2) (pv 3)) (pe_callB call_len (by rfl) B.len bt_len (pa_cons (pv 0) pa_nil)) (nomark _)) (pw_or1 (pt_cmpR op_ne (pe_ix ix_seq (pv 0) (pe_op op_add (pv 2) (pv 3)) (fun _ _ => rfl)) (pv 4) (nomark _))))) (pss_one (ps_ret (pe_op op_add (pv 2) (pv 3)))) (pss_nil))))
 (pss_one (ps_ret (pe_op op_add (pv 2) (pe_callB call_len (by rfl) B.len bt_len (pa_cons (pv 1) pa_nil))))), ?_⟩
  rintro ds W post ⟨s, x, a, rfl, rfl, hs, hx, ha, k⟩
  try dsimp only [cxOf, Cx.nox, Cx.wish]
  have h16 := sizeLine_eq
  walk_at "st"
  refine sw_for (ei_enumK ?_)
  walk_at "st"
  refine ⟨_, _, rfl, .inr (.inr ⟨_, rfl, rfl⟩), ?_⟩
  refine ⟨fun i G' W' => W' = [] ∧ i ≤ lcp (lets x) ((lets s).drop a) ∧ ∃ o3 o4, G' = [some (.str s), some (.str x), some (natD a), o3, o4], ⟨rfl, Nat.zero_le _, _, _, rfl⟩, ?_, ?_⟩
  · rintro i d G' W' hd ⟨rfl, hi, o3, o4, rfl⟩
    obtain ⟨y, hy, rfl⟩ := pairsD_get hd
    rw [List.getElem?_map] at hy
    obtain ⟨c, hc, rfl⟩ := Option.map_eq_some_iff.mp hy
    have hc : (lets x)[i]? = some c := hc
    have ez : ((0 + i : Nat) : Int) = ((i : Nat) : Int) := by omega
    have e1 : ((a : Nat) : Int) + ((i : Nat) : Int) = ((a + i : Nat) : Int) := by omega
    refine tg_tup rfl (tgs_cons (tg_name (tgs_cons (tg_name (tgs_nil ?_)))))
    rw [ez]
    walk_at "st"
    refine ca_lenS (by omega) ?_
    walk_at "st"
    rcases Nat.lt_or_ge i (lcp (lets x) ((lets s).drop a)) with h | h
    · obtain ⟨c', h1, h2⟩ := lcp_before _ _ _ h
      rw [hc] at h1
      cases h1
      obtain ⟨h3, h4⟩ := at_drop rfl h2
      refine if_not ((decide_eq_false (by omega))) ?_
      try walk_at "st"
      rw [e1]
      refine bo_ixSqS (by omega) h3 ?_
      walk_at "st"
      refine if_not ((by show (!decide (sg c = sg c)) = false; simp)) ?_
      try walk_at "st"
      exact ⟨rfl, h, _, _, rfl⟩
    · have hil := (List.getElem?_eq_some_iff.mp hc).1
      have hl : lcp (lets x) ((lets s).drop a) = i := by omega
      have hne := lcp_end (lets x) ((lets s).drop a) (by omega)
      rw [hl, hc] at hne
      rw [hl] at k
      refine if_dec (fun h2 => ?_) (fun h2 => ?_)
      · try refine if_so (by first | rfl | decide +kernel | simp) ?_
        try walk_at "st"
        walk_at "st"
        rw [e1]
        exact k
      · walk_at "st"
        rw [e1]
        have h5 : i < ((lets s).drop a).length := by
          have e5 : ((lets s).drop a).length = (lets s).length - a := List.length_drop
          have e6 : s.length = (lets s).length := str_len s
          omega
        have h6 := List.getElem?_eq_getElem h5
        obtain ⟨h3, h4⟩ := at_drop rfl h6
        refine bo_ixSqS (by omega) h3 ?_
        walk_at "st"
        have hb : (!decide (sg (((lets s).drop a)[i]) = sg c)) = true := by
          rw [Bool.not_eq_true', decide_eq_false_iff_not]
          exact fun e => hne (by rw [h6, sg_inj e])
        refine if_so (hb) ?_
        try walk_at "st"
        walk_at "st"
        rw [e1]
        exact k
  · rintro G' W' ⟨rfl, hi, o3, o4, rfl⟩
    rw [pairsD_len, List.length_map] at hi
    have h2 := lcp_le (lets x) ((lets s).drop a)
    have e6 : x.length = (lets x).length := str_len x
    have hi : (lets x).length ≤ lcp (lets x) ((lets s).drop a) := hi
    walk_at "st"
    refine ca_lenS (by omega) ?_
    walk_at "st"
    have e1 : ((a : Nat) : Int) + ((x.length : Nat) : Int) = ((a + lcp (lets x) ((lets s).drop a) : Nat) : Int) := by omega
    rw [e1]
    exact k
abbrev s_begun_at : Stmt := top 26
theorem sc_begun_at : FnScope ["text", "waiting", "at", "sign", "end"] ["text", "waiting", "at"] (defScope s_begun_at) := ⟨rfl, rfl, rfl, by decide +kernel, rfl, by decide +kernel, by decide +kernel⟩
theorem c_begun_at {P : Program} {w : World} {K : PySem.W.Frag} {mg : Str → Option Value} {base : Heap} {cl : Nat → Addr} {f : Addr} {fd : FuncData} (hm : mg "begun_at" = some (.ref f)) (B : Blt mg) (Z : ZZ K w mg cl) (Fn : Fun K "begun_at" "begun_at" s_begun_at f fd)
    (c_place_of_end : Cal P w K mg base 1 "place_of_end" (spN FK ⟨K, cl⟩ S_placeend) [])
    (c_no : Cal P w K mg base 5 "no" (spN FK ⟨K, cl⟩ S_no) [])
    (c_is_atom : Cal P w K mg base 1 "is_atom" (spN FK ⟨K, cl⟩ S_isatom) [])
    (m_Formula : MakR P w K mg base 2 "Formula" (cl 0) (spN FK ⟨K, cl⟩ (starS 2 S_init)))
    (e_BadText : Err P w K mg base 1 "BadText" (cl 12) "place") : CalX P w K mg base 6 "begun_at" (spX FK ⟨K, cl⟩ (S_begunX)) := by
  have fz := Z.z0
  refine calXD hm Fn sc_begun_at (by intro ds W post ex h; first | (obtain ⟨rfl, _⟩ := h; rfl) | (obtain ⟨_, rfl, _⟩ := h; rfl) | (obtain ⟨_, _, rfl, _⟩ := h; rfl) | (obtain ⟨_, _, _, rfl, _⟩ := h; rfl) | (obtain ⟨_, _, _, _, rfl, _⟩ := h; rfl) | (obtain ⟨_, _, _, _, _, rfl, _⟩ := h; rfl) | (obtain ⟨_, _, _, _, _, _, rfl, _⟩ := h; rfl) | (obtain ⟨_, _, _, _, _, _, _, rfl, _⟩ := h; rfl) | (obtain ⟨_, _, _, _, _, _, _, _, rfl, _⟩ := h; rfl) | (obtain ⟨_, _, _, _, _, _, _, _, _, rfl, _⟩ := h; rfl) | (obtain ⟨_, _, _, _, _, _, _, _, _, _, rfl, _⟩ := h; rfl) | (obtain ⟨_, _, _, _, _, _, _, _, _, _, _, rfl, _⟩ := h; rfl)) (fun _ _ _ _ _ _ us hl => match us, hl with | [_, _, _], _ => rfl) fun cdv A outer s H E hr => ⟨_, pss_cons (ps_set (i := 3) sc_begun_at.nd rfl (Or.inl rfl) (pe_slice sl_str (pv 0) (po_some (pv 2)) (po_some (pe_op op_add (pv 2) pe_int))))
 (pss_cons (ps_if (pt_cmpR op_eq (pv 3) pe_str (nomark _)) (pss_cons (ps_expr (pe_bm PySem.F.plainAttrs_list PySem.F.slot_list_append PySem.F.type_list_append mt_append (pv 1) (pa_cons (pe_lst pa_nil) pa_nil)))
 (pss_one (ps_ret (pe_tup (pa_cons pe_non (pa_cons (pe_op op_add (pv 2) pe_int) pa_nil)))))) (pss_nil))
 (pss_cons (ps_set (i := 4) sc_begun_at.nd rfl (Or.inl rfl) (pe_c c_place_of_end hr (by omega) (by rfl) (pa_cons (pv 0) (pa_cons (C8.pe_gc (by rfl) Z.g_ALL_AHEAD) (pa_cons (pv 2) pa_nil)))))
 (pss_cons (ps_if (pt_cmpR op_eq (pv 4) (pe_op op_add (pv 2) (pe_callB call_len (by rfl) B.len bt_len (pa_cons (C8.pe_gc (by rfl) Z.g_ALL_AHEAD) pa_nil))) (nomark _)) (pss_cons (ps_expr (pe_bm PySem.F.plainAttrs_list PySem.F.slot_list_append PySem.F.type_list_append mt_append (pv 1) (pa_cons (C8.pe_gc (by rfl) Z.g_ALL) pa_nil)))
 (pss_one (ps_ret (pe_tup (pa_cons pe_non (pa_cons (pv 4) pa_nil)))))) (pss_nil))
 (pss_cons (ps_if (pt_cmpR op_gt (pv 4) (pe_op op_add (pv 2) pe_int) (nomark _)) (pss_one (ps_raise rfl (takes_of rfl rfl rfl rfl) (pmk_err e_BadText hr (by omega) (by rfl) (pa_cons (pv 4) pa_nil)))) (pss_nil))
 (pss_cons (ps_if (pt_cmpR op_eq (pe_slice sl_str (pv 0) (po_some (pv 2)) (po_some (pe_op op_add (pv 2) (pe_callB call_len (by rfl) B.len bt_len (pa_cons (C8.pe_gc (by rfl) Z.g_NO) pa_nil))))) (C8.pe_gc (by rfl) Z.g_NO) (nomark _)) (pss_one (ps_ret (pe_tup (pa_cons (pe_c0 c_no hr (by omega) (by rfl)) (pa_cons (pe_op op_add (pv 2) (pe_callB call_len (by rfl) B.len bt_len (pa_cons (C8.pe_gc (by rfl) Z.g_NO) pa_nil))) pa_nil))))) (pss_nil))
 (pss_cons (ps_if (pt_not (pt_val (pe_c c_is_atom hr (by omega) (by rfl) (pa_cons (pv 3) pa_nil)))) (pss_one (ps_raise rfl (takes_of rfl rfl rfl rfl) (pmk_err e_BadText hr (by omega) (by rfl) (pa_cons (pv 2) pa_nil)))) (pss_nil))
 (pss_one (ps_ret (pe_tup (pa_cons (pe_mkR m_Formula hr (by omega) (by rfl) (pa_cons (C8.pe_gc (by rfl) Z.g_ATOM) (pa_cons (pv 3) pa_nil))) (pa_cons (pe_op op_add (pv 2) pe_int) pa_nil))))))))))), ?_⟩
  rintro ds W post ex ⟨s, p, a, L, rfl, rfl, hs, hL, hal, k⟩
  try dsimp only [cxOf, Cx.nox, Cx.wish]
  have h16 := sizeLine_eq
  have ec : ∀ n : Nat, ((a : Nat) : Int) + ((n : Nat) : Int) = ((a + n : Nat) : Int) := fun n => by omega
  obtain ⟨r, hr⟩ : ∃ r, (lets s).drop a = r := ⟨_, rfl⟩
  rw [hr] at k
  walk_at "st"
  refine ca_slS (by omega) ?_
  rw [show ((a : Nat) : Int) + 1 = ((a + 1 : Nat) : Int) from ec 1, cutS_sub s a (a + 1) 1 rfl hal]
  have sub2 : subT s a 2 = ⟨(r.take 2).toArray⟩ := by unfold subT; rw [hr]
  rcases r with _ | ⟨x, t⟩
  · have e0 : subT s a 1 = "" := by unfold subT; rw [hr]; rfl
    rw [e0]
    walk_at "st"
    refine hand0 ⟨s, "all ", a, rfl, rfl, hs, by decide, hal, ?_⟩
    try simp only [List.nil_append]
    try walk_at "st"
    rw [hr, show lcp (lets ("all " : Str)) [] = 0 from rfl]
    walk_at "st"
    refine ca_lenS (by decide) ?_
    walk_at "st"
    refine if_not ((decide_eq_false (by show ¬ ((a + 0 : Nat) : Int) = ((a : Nat) : Int) + ((4 : Nat) : Int); omega))) ?_
    try walk_at "st"
    refine if_not ((decide_eq_false (by omega))) ?_
    try walk_at "st"
    refine ca_lenS (by decide) ?_
    walk_at "st"
    refine ca_slS (by omega) ?_
    rw [show (((("no" : Str).length : Nat) : Int)) = ((2 : Nat) : Int) from rfl, ec 2, cutS_sub s a (a + 2) 2 rfl hal, sub2]
    walk_at "st"
    refine hand0 ⟨_, rfl, rfl, Nat.le_of_ble_eq_true rfl, ?_⟩
    try simp only [List.nil_append]
    try walk_at "st"
    walk_at "st"
    exact fun d hd => k d _ List.mem_cons_self
  rw [sub_cons hr]
  by_cases h40 : x = 40
  · subst h40
    have k : begX s p a L post ex .par := k
    walk_at "st"
    refine ev_append ?_
    walk_at "st"
    refine ⟨p, L, [], [], rfl, rfl, ?_⟩
    refine ea_cons (ev_lst ?_)
    walk_at "st"
    intro q hq
    refine ea_nil ?_
    refine ⟨L, [(q, .lst [])], [], _, rfl, rfl, by omega, ?_⟩
    refine swx_perm (List.Perm.swap _ _ _) ?_
    walk_at "st"
    exact k q
  walk_at "st"
  refine if_not ((decide_eq_false fun e => h40 (sg_inj (b := 40) e))) ?_
  try walk_at "st"
  unfold begOf at k
  dsimp only at k
  rw [if_neg h40] at k
  refine hand0 ⟨s, "all ", a, rfl, rfl, hs, by decide, hal, ?_⟩
  try simp only [List.nil_append]
  try walk_at "st"
  rw [hr, show lets ("all " : Str) = [97, 108, 108, 32] from rfl]
  have h4 := lcp_le [97, 108, 108, 32] (x :: t)
  have h4 : lcp [97, 108, 108, 32] (x :: t) ≤ 4 := h4
  generalize lcp [97, 108, 108, 32] (x :: t) = e at h4 k
  walk_at "st"
  refine ca_lenS (by decide) ?_
  walk_at "st"
  by_cases he4 : e = 4
  · subst he4
    rw [if_pos rfl] at k
    have k : begX s p a L post ex .all := k
    refine if_so ((decide_eq_true (ec 4).symm)) ?_
    try walk_at "st"
    refine ev_append ?_
    walk_at "st"
    refine ⟨p, L, [], [], rfl, rfl, ?_⟩
    walk_at "st"
    refine ⟨L, [], [], _, rfl, rfl, by omega, ?_⟩
    walk_at "st"
    exact k
  rw [if_neg he4] at k
  refine if_not ((decide_eq_false (by show ¬ ((a + e : Nat) : Int) = ((a : Nat) : Int) + ((4 : Nat) : Int); omega))) ?_
  try walk_at "st"
  by_cases he2 : 2 ≤ e
  · rw [if_pos he2] at k
    have k : begX s p a L post ex (.bad e) := k
    refine if_so ((decide_eq_true (by omega))) ?_
    try walk_at "st"
    exact fun d hd => k d _ List.mem_cons_self
  rw [if_neg he2] at k
  refine if_not ((decide_eq_false (by omega))) ?_
  try walk_at "st"
  refine ca_lenS (by decide) ?_
  walk_at "st"
  refine ca_slS (by omega) ?_
  rw [show (((("no" : Str).length : Nat) : Int)) = ((2 : Nat) : Int) from rfl, ec 2, cutS_sub s a (a + 2) 2 rfl hal, sub2]
  walk_at "st"
  by_cases hno : (x :: t).take 2 = [110, 111]
  · rw [if_pos hno] at k
    have k : begX s p a L post ex .no := k
    refine if_so ((decide_eq_true (by rw [hno]; rfl))) ?_
    try walk_at "st"
    refine hand0 ⟨rfl, rfl, ?_⟩
    try simp only [List.nil_append]
    try walk_at "st"
    walk_at "st"
    refine ca_lenS (by decide) ?_
    walk_at "st"
    rw [show (((("no" : Str).length : Nat) : Int)) = ((2 : Nat) : Int) from rfl, ec 2]
    exact k
  rw [if_neg hno] at k
  refine if_not ((decide_eq_false fun e => hno (by have e := congrArg (fun z : Str => z.cps.toList) e; exact e))) ?_
  try walk_at "st"
  refine hand0 ⟨_, rfl, rfl, Nat.le_of_ble_eq_true rfl, ?_⟩
  try simp only [List.nil_append]
  try walk_at "st"
  rw [isLet_sg]
  walk_at "st"
  by_cases hl : isL x
  · rw [if_pos hl] at k
    have k : begX s p a L post ex (.at x) := k
    refine if_not ((by rw [decide_eq_true hl]; rfl)) ?_
    try walk_at "st"
    refine ⟨.at x, rfl, ⟨hl, by show 1 ≤ 1000000; omega, by show 0 < 64; omega⟩, ?_⟩
    walk_at "st"
    exact k hl
  · rw [if_neg hl] at k
    have k : begX s p a L post ex (.bad 0) := k
    refine if_so ((by rw [decide_eq_false hl]; rfl)) ?_
    try walk_at "st"
    exact fun d hd => k d _ List.mem_cons_self
abbrev s_formula_in : Stmt := top 25
theorem sc_formula_in : FnScope ["text", "waiting", "at", "found", "rows", "wanted", "end"] ["text"] (defScope s_formula_in) := ⟨rfl, rfl, rfl, by decide +kernel, rfl, by decide +kernel, by decide +kernel⟩
theorem c_formula_in {P : Program} {w : World} {K : PySem.W.Frag} {mg : Str → Option Value} {base : Heap} {cl : Nat → Addr} {f : Addr} {fd : FuncData} (hm : mg "formula_in" = some (.ref f)) (B : Blt mg) (Z : ZZ K w mg cl) (Fn : Fun K "formula_in" "formula_in" s_formula_in f fd)
    (c_begun_at : CalX P w K mg base 6 "begun_at" (spX FK ⟨K, cl⟩ (S_begunX)))
    (c_place_of_end : Cal P w K mg base 1 "place_of_end" (spN FK ⟨K, cl⟩ S_placeend) [])
    (c_every : Cal P w K mg base 5 "every" (spN FK ⟨K, cl⟩ S_every) [])
    (m_Formula : MakR P w K mg base 2 "Formula" (cl 0) (spN FK ⟨K, cl⟩ (starS 2 S_init)))
    (e_BadText : Err P w K mg base 1 "BadText" (cl 12) "place") : CalX P w K mg base 7 "formula_in" (spX FK ⟨K, cl⟩ (S_forminX)) := by
  have fz := Z.z0
  refine calXD hm Fn sc_formula_in (by intro ds W post ex h; first | (obtain ⟨rfl, _⟩ := h; rfl) | (obtain ⟨_, rfl, _⟩ := h; rfl) | (obtain ⟨_, _, rfl, _⟩ := h; rfl) | (obtain ⟨_, _, _, rfl, _⟩ := h; rfl) | (obtain ⟨_, _, _, _, rfl, _⟩ := h; rfl) | (obtain ⟨_, _, _, _, _, rfl, _⟩ := h; rfl) | (obtain ⟨_, _, _, _, _, _, rfl, _⟩ := h; rfl) | (obtain ⟨_, _, _, _, _, _, _, rfl, _⟩ := h; rfl) | (obtain ⟨_, _, _, _, _, _, _, _, rfl, _⟩ := h; rfl) | (obtain ⟨_, _, _, _, _, _, _, _, _, rfl, _⟩ := h; rfl) | (obtain ⟨_, _, _, _, _, _, _, _, _, _, rfl, _⟩ := h; rfl) | (obtain ⟨_, _, _, _, _, _, _, _, _, _, _, rfl, _⟩ := h; rfl)) (fun _ _ _ _ _ _ us hl => match us, hl with | [_], _ => rfl) fun cdv A outer s H E hr => ⟨_, pss_cons (ps_par3 (i := 1) (j := 2) (l := 3) (by rfl) sc_formula_in.nd rfl rfl rfl (by decide) (by decide) (by decide) rfl rfl rfl (pa_cons (pe_lst pa_nil) (pa_cons pe_int (pa_cons pe_non pa_nil))) (by rfl))
 (pss_cons (ps_while (passes_of rfl) (PW.pt (pw_or (pt_cmp (pc_isN (pv 3))) (pw_or1 (pt_cmpR op_gt (pe_callB call_len (by rfl) B.len bt_len (pa_cons (pv 1) pa_nil)) pe_int (nomark _))))) (pss_one (ps_if (pt_cmp (pc_isN (pv 3))) (pss_one (ps_asg (pe_cX c_begun_at hr (by omega) (by rfl) (takes_of rfl rfl rfl rfl) (pa_cons (pv 0) (pa_cons (pv 1) (pa_cons (pv 2) pa_nil)))) (pg_tup (n := 2) rfl (pgs_cons (pg_name (i := 3) sc_formula_in.nd rfl (Or.inl rfl)) (pgs_cons (pg_name (i := 2) sc_formula_in.nd rfl (Or.inl rfl)) pgs_nil))))) (pss_one (ps_if (pt_cmpR (op_eqLS hr.units) (pe_ix ix_list (pv 1) (pe_un un_neg pe_int) (fun _ _ => rfl)) (C8.pe_gc (by rfl) Z.g_ALL) (nomark _)) (pss_cons (ps_expr (pe_bm0 PySem.F.plainAttrs_list PySem.F.slot_list_pop PySem.F.type_list_pop mt_pop (pv 1)))
 (pss_one (ps_set (i := 3) sc_formula_in.nd rfl (Or.inl rfl) (pe_c c_every hr (by omega) (by rfl) (pa_cons (pv 3) pa_nil))))) (pss_cons (ps_set (i := 4) sc_formula_in.nd rfl (Or.inl rfl) (pe_ix ix_list (pv 1) (pe_un un_neg pe_int) (fun _ _ => rfl)))
 (pss_cons (ps_expr (pe_bm PySem.F.plainAttrs_list PySem.F.slot_list_append PySem.F.type_list_append mt_append (pv 4) (pa_cons (pv 3) pa_nil)))
 (pss_cons (ps_set (i := 5) sc_formula_in.nd rfl (Or.inl rfl) (pe_ifExp (pt_cmpR op_eq (pe_callB call_len (by rfl) B.len bt_len (pa_cons (pv 4) pa_nil)) pe_int (nomark _)) (C8.pe_gc (by rfl) Z.g_BETWEEN) pe_str))
 (pss_cons (ps_set (i := 6) sc_formula_in.nd rfl (Or.inl rfl) (pe_c c_place_of_end hr (by omega) (by rfl) (pa_cons (pv 0) (pa_cons (pv 5) (pa_cons (pv 2) pa_nil)))))
 (pss_cons (ps_if (pt_cmpR op_lt (pv 6) (pe_op op_add (pv 2) (pe_callB call_len (by rfl) B.len bt_len (pa_cons (pv 5) pa_nil))) (nomark _)) (pss_one (ps_raise rfl (takes_of rfl rfl rfl rfl) (pmk_err e_BadText hr (by omega) (by rfl) (pa_cons (pv 6) pa_nil)))) (pss_nil))
 (pss_cons (ps_par (i := 2) (j := 3) (by rfl) sc_formula_in.nd rfl rfl (by decide) rfl rfl (pa_cons (pv 6) (pa_cons pe_non pa_nil)) (by rfl))
 (pss_one (ps_if (pt_cmpR op_eq (pe_callB call_len (by rfl) B.len bt_len (pa_cons (pv 4) pa_nil)) pe_int (nomark _)) (pss_cons (ps_expr (pe_bm0 PySem.F.plainAttrs_list PySem.F.slot_list_pop PySem.F.type_list_pop mt_pop (pv 1)))
 (pss_one (ps_set (i := 3) sc_formula_in.nd rfl (Or.inl rfl) (pe_mkRS m_Formula hr (by omega) (by rfl) (pa_cons (C8.pe_gc (by rfl) Z.g_IF) (StX.pa_star (pv 4) pa_nil)))))) (pss_nil))))))))))))))
 (pss_cons (ps_if (pt_cmpR op_lt (pv 2) (pe_callB call_len (by rfl) B.len bt_len (pa_cons (pv 0) pa_nil)) (nomark _)) (pss_one (ps_raise rfl (takes_of rfl rfl rfl rfl) (pmk_err e_BadText hr (by omega) (by rfl) (pa_cons (pv 2) pa_nil)))) (pss_nil))
 (pss_one (ps_ret (pv 3))))), ?_⟩
  rintro ds W post ex ⟨s, rfl, rfl, ⟨hs, hok⟩, kf, kx⟩
  try dsimp only [cxOf, Cx.nox, Cx.wish]
  have h16 := sizeLine_eq
  have hln : s.length = (lets s).length := str_len s
  have dl : ∀ a, ((lets s).drop a).length = (lets s).length - a := fun a => List.length_drop
  refine swx_seq (swx_of (sw_par3 ?_))
  refine ea_cons (ev_lst ?_)
  walk_at "st"
  intro p hp
  refine ea_cons (ev_c ?_)
  refine ea_cons (ev_c ?_)
  refine ea_nil ?_
  refine ⟨_, _, _, rfl, ?_⟩
  rcases hok with hcl | ⟨n, hn, hall⟩
  · refine swx_seq (swx_while (fun m G' W' => ∃ (KA : KB) (a : Nat) (o4 o5 o6 : Option D), W' = (p, .lst (stkE KA)) :: cellsE KA ∧ a ≤ s.length ∧ okE (KA.map (·.1)) ∧ KA.length ≤ a ∧ m = 2 * (s.length - a) + KA.length ∧
      ((G' = [some (.str s), some (.adr p), some (natD a), some .non, o4, o5, o6] ∧ rdOf s = lr (.form :: expE (KA.map (·.1))) ((lets s).drop a) ∧ lets s = preE (KA.map (·.1)) ++ (lets s).drop a) ∨
       (∃ g, g.okL ∧ G' = [some (.str s), some (.adr p), some (natD a), some (.fm g), o4, o5, o6] ∧ rdOf s = lr (expE (KA.map (·.1))) ((lets s).drop a) ∧ lets s = preE (KA.map (·.1)) ++ (tx g ++ (lets s).drop a)))) (2 * s.length) ⟨[], 0, none, none, none, rfl, by omega, trivial, by simp, by simp, .inl ⟨rfl, rfl, by simp [preE]⟩⟩ ?_)
    rintro m G' W' ⟨KA, a, o4, o5, o6, rfl, hal, hoe, hkl, rfl, ⟨rfl, hr, hp2⟩ | ⟨g, hg, rfl, hr, hp2⟩⟩
    · walk_at "st"
      refine ev_isV (v := .non) ?_
      walk_at "st"
      refine ⟨rfl, ?_⟩
      walk_at "st"
      try refine if_so (by first | rfl | decide +kernel | simp) ?_
      try walk_at "st"
      refine ev_isV (v := .non) ?_
      walk_at "st"
      refine ⟨rfl, ?_⟩
      walk_at "st"
      try refine if_so (by first | rfl | decide +kernel | simp) ?_
      try walk_at "st"
      refine ⟨[(p, .lst (stkE KA))], cellsE KA, List.Perm.refl _, s, p, a, stkE KA, rfl, rfl, by omega, by rw [stkE_len]; omega, hal, ?_⟩
      rw [lr_beg] at hr
      have hb := begOf_drop ((lets s).drop a)
      have dla := dl a
      cases hbr : begOf ((lets s).drop a) with
      | par =>
        rw [hbr] at hr hb
        obtain ⟨t, ht⟩ := hb
        have hal2 : a + 1 ≤ s.length := by rw [ht] at dla; simp only [List.length_cons, List.length_append, List.length_nil] at dla; omega
        intro q
        refine ta_tup rfl (tas_cons (ta_name (tas_cons (ta_name (tas_nil ?_)))))
        refine ⟨_, ?_, (.l, q) :: KA, a + 1, o4, o5, o6, ?_, hal2, hoe, by simp; omega, rfl, .inl ⟨rfl, ?_, ?_⟩⟩
        · simp only [List.length_cons]
          omega
        · rw [stkE_cons]
          rfl
        · have hr : rdOf s = lr (.form :: .sg 32 :: .sg 62 :: .sg 32 :: .form :: .sg 41 :: expE (KA.map (·.1))) (((lets s).drop a).drop 1) := hr
          rw [List.drop_drop] at hr
          exact hr
        · have e2 := drop_step [40] (show (lets s).drop a = [40] ++ t from ht)
          show lets s = (preE (KA.map (·.1)) ++ [40]) ++ (lets s).drop (a + 1)
          rw [show (lets s).drop (a + 1) = t from e2, List.append_assoc, ← show (lets s).drop a = [40] ++ t from ht]
          exact hp2
      | all =>
        rw [hbr] at hr hb
        obtain ⟨t, ht⟩ := hb
        have hal2 : a + 4 ≤ s.length := by rw [ht] at dla; simp only [List.length_cons, List.length_append, List.length_nil] at dla; omega
        refine ta_tup rfl (tas_cons (ta_name (tas_cons (ta_name (tas_nil ?_)))))
        refine ⟨_, ?_, (.al, p) :: KA, a + 4, o4, o5, o6, ?_, hal2, hoe, by simp; omega, rfl, .inl ⟨rfl, ?_, ?_⟩⟩
        · simp only [List.length_cons]
          omega
        · rw [stkE_cons]
          rfl
        · have hr : rdOf s = lr (.form :: expE (KA.map (·.1))) (((lets s).drop a).drop 4) := hr
          rw [List.drop_drop] at hr
          exact hr
        · have e2 := drop_step [97, 108, 108, 32] (show (lets s).drop a = [97, 108, 108, 32] ++ t from ht)
          show lets s = (preE (KA.map (·.1)) ++ [97, 108, 108, 32]) ++ (lets s).drop (a + 4)
          rw [show (lets s).drop (a + 4) = t from e2, List.append_assoc, ← show (lets s).drop a = [97, 108, 108, 32] ++ t from ht]
          exact hp2
      | no =>
        rw [hbr] at hr hb
        obtain ⟨t, ht⟩ := hb
        have hal2 : a + 2 ≤ s.length := by rw [ht] at dla; simp only [List.length_cons, List.length_append, List.length_nil] at dla; omega
        refine ta_tup rfl (tas_cons (ta_name (tas_cons (ta_name (tas_nil ?_)))))
        refine ⟨_, ?_, KA, a + 2, o4, o5, o6, rfl, hal2, hoe, by omega, rfl, .inr ⟨.no, trivial, rfl, ?_, ?_⟩⟩
        · omega
        · have hr : rdOf s = lr (expE (KA.map (·.1))) (((lets s).drop a).drop 2) := hr
          rw [List.drop_drop] at hr
          exact hr
        · have e2 := drop_step [110, 111] (show (lets s).drop a = [110, 111] ++ t from ht)
          rw [show (lets s).drop (a + 2) = t from e2, show tx .no ++ t = (lets s).drop a from ht.symm]
          exact hp2
      | «at» c =>
        rw [hbr] at hr hb
        obtain ⟨t, ht⟩ := hb
        have hal2 : a + 1 ≤ s.length := by rw [ht] at dla; simp only [List.length_cons, List.length_append, List.length_nil] at dla; omega
        intro hc
        refine ta_tup rfl (tas_cons (ta_name (tas_cons (ta_name (tas_nil ?_)))))
        refine ⟨_, ?_, KA, a + 1, o4, o5, o6, rfl, hal2, hoe, by omega, rfl, .inr ⟨.at c, hc, rfl, ?_, ?_⟩⟩
        · omega
        · have hr : rdOf s = lr (expE (KA.map (·.1))) (((lets s).drop a).drop 1) := hr
          rw [List.drop_drop] at hr
          exact hr
        · have e2 := drop_step [c] (show (lets s).drop a = [c] ++ t from ht)
          rw [show (lets s).drop (a + 1) = t from e2, show tx (.at c) ++ t = (lets s).drop a from ht.symm]
          exact hp2
      | bad n =>
        rw [hbr] at hr hb
        have hb : n ≤ ((lets s).drop a).length := hb
        intro d W' hm
        refine kx (by rw [hr]; simp) d _ ?_
        have e : s.length - (rdOf s).1.length = a + n := by
          rw [hr]
          show s.length - (((lets s).drop a).drop n).length = _
          rw [List.length_drop]
          omega
        rw [e]
        exact List.mem_append_left _ hm
    · have hgf : g.okF := okF_in hg hp2 (by omega) hcl
      walk_at "st"
      refine ev_isN_fm (f := g) ?_
      walk_at "st"
      refine ⟨rfl, ?_⟩
      walk_at "st"
      rw [stkE_len]
      cases KA with
      | nil =>
        refine if_not ((decide_eq_false (by simp))) ?_
        try walk_at "st"
        have hr : rdOf s = ((lets s).drop a, true) := hr.trans (lr_nil _)
        refine ca_lenS (by omega) ?_
        walk_at "st"
        refine if_dec (fun h => ?_) (fun h => ?_)
        · walk_at "st"
          intro d hd
          have hlt : a < s.length := by omega
          refine kx (fun e => ?_) d _ ?_
          · have e2 : ((lets s).drop a).length = 0 := congrArg (fun z : List Nat × Bool => z.1.length) (hr.symm.trans e)
            rw [dl a] at e2
            omega
          · have e : s.length - (rdOf s).1.length = a := by
              rw [hr]
              show s.length - ((lets s).drop a).length = _
              rw [dl a]
              omega
            rw [e]
            exact List.mem_cons_self
        · have hge : s.length ≤ a := by omega
          have e0 : (lets s).drop a = [] := List.drop_eq_nil_of_le (by omega)
          refine swx_drp (List.nil_sublist _) ?_
          walk_at "st"
          rw [e0] at hr hp2
          refine kf g hr hgf ?_
          have hp3 : lets s = tx g := by simpa [preE] using hp2
          exact (str_ext hp3).symm
      | cons x KA =>
        obtain ⟨it, q⟩ := x
        refine if_so ((decide_eq_true (by simp))) ?_
        try walk_at "st"
        refine ev_isN_fm (f := g) ?_
        walk_at "st"
        refine ⟨rfl, ?_⟩
        walk_at "st"
        refine bo_ixL (.inr ⟨_, rfl, List.mem_cons_self⟩) (by rw [stkE_cons]; exact at_lastK) ?_
        have hkl : KA.length + 1 ≤ a := hkl
        cases it with
        | al =>
          walk_at "st"
          refine bo_eqLSs ?_
          try refine if_so (by first | rfl | decide +kernel | simp) ?_
          try walk_at "st"
          refine ev_pop ?_
          walk_at "st"
          refine ⟨p, stkE KA, [], cellsE KA, .str "all", rfl, by rw [stkE_cons]; rfl, ?_⟩
          have hp3 : lets s = preE (KA.map (·.1)) ++ (tx (.all g) ++ (lets s).drop a) := by
            refine hp2.trans ?_
            rw [tx_all]
            show (preE (KA.map (·.1)) ++ [97, 108, 108, 32]) ++ _ = _
            simp
          have hgf2 : (Fm.all g).okF := okF_in (f := .all g) hg hp3 (by omega) hcl
          walk_at "st"
          refine hand0 ⟨g, rfl, rfl, hgf2, ?_⟩
          try simp only [List.nil_append]
          try walk_at "st"
          refine ⟨_, ?_, KA, a, o4, o5, o6, rfl, hal, hoe, by omega, rfl, .inr ⟨.all g, hg, rfl, hr, hp3⟩⟩
          simp only [List.length_cons]
          omega
        | l =>
          walk_at "st"
          refine bo_eqLSl (.inr ⟨q, rfl, List.mem_cons_of_mem _ List.mem_cons_self⟩) ?_
          try refine if_not (by first | rfl | decide +kernel | simp) ?_
          try walk_at "st"
          refine bo_ixL (.inr ⟨_, rfl, List.mem_cons_self⟩) (by rw [stkE_cons]; exact at_lastK) ?_
          walk_at "st"
          refine ev_append ?_
          walk_at "st"
          refine ⟨q, [], [(p, _)], cellsE KA, rfl, rfl, ?_⟩
          walk_at "st"
          refine ⟨[], [(p, _)], cellsE KA, _, rfl, rfl, by decide, ?_⟩
          walk_at "st"
          have hr2 : rdOf s = if lcp [32, 62, 32] ((lets s).drop a) = 3 then lr (.form :: .sg 41 :: expE (KA.map (·.1))) (((lets s).drop a).drop 3) else (((lets s).drop a).drop (lcp [32, 62, 32] ((lets s).drop a)), false) := hr.trans (lr_sgs [32, 62, 32] _)
          refine hand0 ⟨s, " > ", a, rfl, rfl, by omega, by decide, hal, ?_⟩
          try simp only [List.nil_append]
          try walk_at "st"
          rw [show lets (" > " : Str) = [32, 62, 32] from rfl]
          have h4 := lcp_le [32, 62, 32] ((lets s).drop a)
          have h5 := lcp_le2 [32, 62, 32] ((lets s).drop a)
          have h6 := lcp_drop [32, 62, 32] ((lets s).drop a)
          have h4 : lcp [32, 62, 32] ((lets s).drop a) ≤ 3 := h4
          have dla := dl a
          generalize lcp [32, 62, 32] ((lets s).drop a) = e at h4 h5 h6 hr2
          walk_at "st"
          refine ca_lenS (by decide) ?_
          walk_at "st"
          by_cases he : e = 3
          · subst he
            rw [if_pos rfl, List.drop_drop] at hr2
            refine if_not ((decide_eq_false (by show ¬ ((a + 3 : Nat) : Int) < (a : Nat) + ((3 : Nat) : Int); omega))) ?_
            try walk_at "st"
            refine ⟨_, ?_, (.r g, q) :: KA, a + 3, _, _, _, rfl, by omega, ⟨hg, hoe⟩, by simp; omega, rfl, .inl ⟨rfl, hr2, ?_⟩⟩
            · simp only [List.length_cons]
              omega
            · rw [List.drop_drop] at h6
              show lets s = (preE (KA.map (·.1)) ++ (40 :: (tx g ++ [32, 62, 32]))) ++ (lets s).drop (a + 3)
              refine hp2.trans ?_
              rw [h6]
              show (preE (KA.map (·.1)) ++ [40]) ++ _ = _
              simp
          · rw [if_neg he] at hr2
            refine if_so ((decide_eq_true (by show ((a + e : Nat) : Int) < (a : Nat) + ((3 : Nat) : Int); omega))) ?_
            try walk_at "st"
            intro d hd
            refine kx (by rw [hr2]; simp) d _ ?_
            have e2 : s.length - (rdOf s).1.length = a + e := by
              rw [hr2]
              show s.length - (((lets s).drop a).drop e).length = _
              rw [List.length_drop]
              omega
            rw [e2]
            exact List.mem_cons_self
        | r x =>
          walk_at "st"
          refine bo_eqLSl (.inr ⟨q, rfl, List.mem_cons_of_mem _ List.mem_cons_self⟩) ?_
          try refine if_not (by first | rfl | decide +kernel | simp) ?_
          try walk_at "st"
          refine bo_ixL (.inr ⟨_, rfl, List.mem_cons_self⟩) (by rw [stkE_cons]; exact at_lastK) ?_
          walk_at "st"
          refine ev_append ?_
          walk_at "st"
          refine ⟨q, [.fm x], [(p, _)], cellsE KA, rfl, rfl, ?_⟩
          walk_at "st"
          refine ⟨[.fm x], [(p, _)], cellsE KA, _, rfl, rfl, by show 1 < _; omega, ?_⟩
          walk_at "st"
          have hr2 : rdOf s = if lcp [41] ((lets s).drop a) = 1 then lr (expE (KA.map (·.1))) (((lets s).drop a).drop 1) else (((lets s).drop a).drop (lcp [41] ((lets s).drop a)), false) := hr.trans (lr_sgs [41] _)
          refine hand0 ⟨s, ")", a, rfl, rfl, by omega, by decide, hal, ?_⟩
          try simp only [List.nil_append]
          try walk_at "st"
          rw [show lets (")" : Str) = [41] from rfl]
          have h4 := lcp_le [41] ((lets s).drop a)
          have h5 := lcp_le2 [41] ((lets s).drop a)
          have h6 := lcp_drop [41] ((lets s).drop a)
          have h4 : lcp [41] ((lets s).drop a) ≤ 1 := h4
          have dla := dl a
          generalize lcp [41] ((lets s).drop a) = e at h4 h5 h6 hr2
          walk_at "st"
          refine ca_lenS (by decide) ?_
          walk_at "st"
          by_cases he : e = 1
          · subst he
            rw [if_pos rfl, List.drop_drop] at hr2
            refine if_not ((decide_eq_false (by show ¬ ((a + 1 : Nat) : Int) < (a : Nat) + ((1 : Nat) : Int); omega))) ?_
            try walk_at "st"
            refine ev_pop ?_
            walk_at "st"
            refine ⟨p, stkE KA, [], (q, .lst [.fm x, .fm g]) :: cellsE KA, .adr q, rfl, by rw [stkE_cons]; rfl, ?_⟩
            have hp3 : lets s = preE (KA.map (·.1)) ++ (tx (.imp x g) ++ (lets s).drop (a + 1)) := by
              rw [List.drop_drop] at h6
              refine hp2.trans ?_
              rw [h6, tx_imp]
              show (preE (KA.map (·.1)) ++ (40 :: (tx x ++ [32, 62, 32]))) ++ _ = _
              simp
            have hgf2 : (Fm.imp x g).okF := okF_in (f := .imp x g) ⟨hoe.1, hg⟩ hp3 (by omega) hcl
            refine swx_of (sw_set (ev_drp ?_))
            walk_at "st"
            refine ea_star ?_
            walk_at "st"
            refine ⟨_, .inl (.inr ⟨q, rfl, List.mem_cons_of_mem _ List.mem_cons_self⟩), ?_⟩
            walk_at "st"
            refine ⟨Fm.imp x g, rfl, hgf2, (p, _) :: cellsE KA, (List.sublist_cons_self _ _).cons₂ _, ?_⟩
            refine ⟨_, ?_, KA, a + 1, _, _, _, rfl, by omega, hoe.2, by omega, rfl, .inr ⟨.imp x g, ⟨hoe.1, hg⟩, rfl, hr2, hp3⟩⟩
            simp only [List.length_cons]
            omega
          · rw [if_neg he] at hr2
            refine if_so ((decide_eq_true (by show ((a + e : Nat) : Int) < (a : Nat) + ((1 : Nat) : Int); omega))) ?_
            try walk_at "st"
            intro d hd
            refine kx (by rw [hr2]; simp) d _ ?_
            have e2 : s.length - (rdOf s).1.length = a + e := by
              rw [hr2]
              show s.length - (((lets s).drop a).drop e).length = _
              rw [List.length_drop]
              omega
            rw [e2]
            exact List.mem_cons_self
  · have hl4 : (lets s).length = 4 * n := by rw [hall]; exact alls4_len n
    have hrd : rdOf s = ([], false) := by unfold rdOf; rw [hall]; exact lr_alls4 n
    refine swx_seq (swx_while (fun m G' W' => ∃ (j : Nat) (o4 o5 o6 : Option D), j ≤ n ∧ m = n - j ∧ W' = [(p, .lst (List.replicate j (.str "all")))] ∧ G' = [some (.str s), some (.adr p), some (natD (4 * j)), some .non, o4, o5, o6]) n ⟨0, none, none, none, by omega, rfl, rfl, rfl⟩ ?_)
    rintro m G' W' ⟨j, o4, o5, o6, hj, rfl, rfl, rfl⟩
    walk_at "st"
    refine ev_isV (v := .non) ?_
    walk_at "st"
    refine ⟨rfl, ?_⟩
    walk_at "st"
    try refine if_so (by first | rfl | decide +kernel | simp) ?_
    try walk_at "st"
    refine ev_isV (v := .non) ?_
    walk_at "st"
    refine ⟨rfl, ?_⟩
    walk_at "st"
    try refine if_so (by first | rfl | decide +kernel | simp) ?_
    try walk_at "st"
    refine handXA ⟨s, p, 4 * j, List.replicate j (.str "all"), rfl, rfl, by omega, by simp; omega, by omega, ?_⟩
    rw [hall, alls4_drop hj]
    rcases Nat.lt_or_ge j n with h | h
    · rw [begOf_alls4 (by omega)]
      refine ta_tup rfl (tas_cons (ta_name (tas_cons (ta_name (tas_nil ?_)))))
      refine ⟨_, ?_, j + 1, o4, o5, o6, by omega, rfl, ?_, by rfl⟩
      · omega
      · rw [List.replicate_succ']
    · have e : n - j = 0 := by omega
      rw [e]
      intro d W' hm
      refine kx (by rw [hrd]; simp) d _ ?_
      rw [hrd]
      have e2 : s.length - ([] : List Nat).length = 4 * j + 0 := by show s.length - 0 = _; omega
      rw [e2]
      exact hm
abbrev s_Formula_read : Stmt := inClass (top 17) 1
theorem sc_Formula_read : FnScope ["cls", "text"] ["cls", "text"] (defScope s_Formula_read) := ⟨rfl, rfl, rfl, by decide +kernel, rfl, by decide +kernel, by decide +kernel⟩
theorem cm_Formula_read {P : Program} {w : World} {K : PySem.W.Frag} {mg : Str → Option Value} {base : Heap} {cl : Nat → Addr} {f : Addr} {fd : FuncData} {mc : Value} {p : Addr} (cr : ClX.CRead K (cl 0) mc) (cm : ClX.CMet K (cl 0) mc "read" p f) (B : Blt mg) (Z : ZZ K w mg cl) (Fn : Fun K "read" "Formula.read" s_Formula_read f fd)
    (c_formula_in : CalX P w K mg base 7 "formula_in" (spX FK ⟨K, cl⟩ (S_forminX)))
    (e_BadText : Err P w K mg base 1 "BadText" (cl 12) "place") : CmX P w K mg base 8 (cl 0) "read" ["text"] (fun vs zs => vs ++ zs) (spX FK ⟨K, cl⟩ ((S_readX (cl 0)))) := by
  have fz := Z.z0
  refine cmXD cr cm Fn sc_Formula_read (by intro ds W post ex h; first | (obtain ⟨rfl, _⟩ := h; rfl) | (obtain ⟨_, rfl, _⟩ := h; rfl) | (obtain ⟨_, _, rfl, _⟩ := h; rfl) | (obtain ⟨_, _, _, rfl, _⟩ := h; rfl) | (obtain ⟨_, _, _, _, rfl, _⟩ := h; rfl) | (obtain ⟨_, _, _, _, _, rfl, _⟩ := h; rfl) | (obtain ⟨_, _, _, _, _, _, rfl, _⟩ := h; rfl) | (obtain ⟨_, _, _, _, _, _, _, rfl, _⟩ := h; rfl) | (obtain ⟨_, _, _, _, _, _, _, _, rfl, _⟩ := h; rfl) | (obtain ⟨_, _, _, _, _, _, _, _, _, rfl, _⟩ := h; rfl) | (obtain ⟨_, _, _, _, _, _, _, _, _, _, rfl, _⟩ := h; rfl) | (obtain ⟨_, _, _, _, _, _, _, _, _, _, _, rfl, _⟩ := h; rfl)) (fun _ _ _ _ _ _ us hl => match us, hl with | [_, _], _ => rfl) (kb1_of (g := fun us ws => us ++ ws) Fn (fun _ _ _ _ _ _ u ws hl => match ws, hl with | [_], _ => rfl) (fun h1 h2 => by first | exact h1.append h2 | exact h1.append h2.reverse)) fun cdv A outer s H E hr => ⟨_, pss_cons (ps_if (pt_not (pt_val (pe_callB call_isi (by rfl) B.isinstance bt_isinstance (pa_cons (pv 1) (pa_cons (pe_bltn (by rfl) B.str bt_str (relV_ty _)) pa_nil))))) (pss_one (ps_raise rfl (takes_of rfl rfl rfl rfl) (pmk_err e_BadText hr (by omega) (by rfl) (pa_cons (pe_un un_neg pe_int) pa_nil)))) (pss_nil))
 (pss_one (ps_ret (pe_cX c_formula_in hr (by omega) (by rfl) (takes_of rfl rfl rfl rfl) (pa_cons (pv 1) pa_nil)))), ?_⟩
  rintro ds W post ex ⟨v, rfl, rfl, ⟨s, rfl, hok, kf, kx⟩ | ⟨hv, kx⟩⟩
  try dsimp only [cxOf, Cx.nox, Cx.wish]
  · walk_at "st"
    refine handX0 ⟨s, rfl, rfl, hok, fun f h1 h2 h3 => ?_, fun h d W' hm => ?_⟩
    · show post _ _
      simpa using kf f h1 h2 h3
    · exact kx h d _ (List.mem_append_left _ hm)
  · walk_at "st"
    refine isi_notStr hv ?_
    walk_at "st"
    exact fun d hd => kx d _ List.mem_cons_self

end N
set_option Elab.async false
set_option linter.all false
set_option maxRecDepth 100000
namespace N
open PySem PySem.Spec PyProof.Rows L2
open C8 (Cal Met Mak InsC pe_c pe_mt pe_mt0 pe_mk)
set_option maxHeartbeats 4000000

local macro_rules | `(tactic| walk_at "vl") => `(tactic| first | exact .inl (.inl rfl) | exact .inr ⟨_, rfl, List.mem_cons_self⟩ | exact .inr ⟨_, rfl, List.mem_cons_of_mem _ List.mem_cons_self⟩ | exact .inr ⟨_, rfl, List.mem_cons_of_mem _ (List.mem_cons_of_mem _ List.mem_cons_self)⟩ | exact .inr ⟨_, rfl, List.mem_cons_of_mem _ (List.mem_cons_of_mem _ (List.mem_cons_of_mem _ List.mem_cons_self))⟩ | exact .inl (.inr ⟨_, rfl, rfl⟩))
local macro_rules | `(tactic| walk_at "vt") => `(tactic| first | exact .inl rfl | exact .inr ⟨_, rfl, List.mem_cons_self⟩ | exact .inr ⟨_, rfl, List.mem_cons_of_mem _ List.mem_cons_self⟩ | exact .inr ⟨_, rfl, List.mem_cons_of_mem _ (List.mem_cons_of_mem _ List.mem_cons_self)⟩ | exact .inr ⟨_, rfl, List.mem_cons_of_mem _ (List.mem_cons_of_mem _ (List.mem_cons_of_mem _ List.mem_cons_self))⟩)
local macro_rules | `(tactic| walk_at "vd") => `(tactic| first | exact .inl rfl | exact .inr ⟨_, rfl, List.mem_cons_self⟩ | exact .inr ⟨_, rfl, List.mem_cons_of_mem _ List.mem_cons_self⟩ | exact .inr ⟨_, rfl, List.mem_cons_of_mem _ (List.mem_cons_of_mem _ List.mem_cons_self)⟩ | exact .inr ⟨_, rfl, List.mem_cons_of_mem _ (List.mem_cons_of_mem _ (List.mem_cons_of_mem _ List.mem_cons_self))⟩)
local macro_rules | `(tactic| walk_at "gg") => `(tactic| first | exact getG_hd _ _ _ | (refine getG_tl (by decide +kernel) ?_; walk_at "gg"))
local macro_rules | `(tactic| walk_at "vs") => `(tactic| first | exact .inr rfl | (refine .inl ?_; walk_at "vl"))
local macro_rules | `(tactic| walk_at "nc") => `(tactic| first | omega | (unfold CMul; omega) | (unfold CDiv; omega) | (unfold CPow; decide) | (show (0 : Int) < _; omega))
local macro_rules | `(tactic| walk_at "sx") => `(tactic| first
  | with_reducible refine swx_seq ?_ | with_reducible refine swx_set ?_ | with_reducible refine swx_if ?_ | with_reducible refine swx_asg ?_ | with_reducible refine swx_ret ?_ | with_reducible refine swx_drop ?_ | with_reducible refine swx_raise ?_ | with_reducible refine swx_next ?_ | with_reducible refine swx_brk ?_ | with_reducible refine swx_cont ?_ | with_reducible refine swx_retN ?_ | with_reducible refine swx_par ?_ | with_reducible refine swx_fld ?_
  | with_reducible refine evx_call ?_ | with_reducible refine evx_cm ?_ | with_reducible refine evx_cmk ?_ | with_reducible refine evx_mk ?_ | with_reducible refine evx_mkk ?_ | with_reducible refine evx_of ?_)
local macro_rules | `(tactic| walk_at "s1") => `(tactic| first
  | with_reducible refine sw_seq ?_ | with_reducible refine sw_set ?_ | (with_reducible refine' ev_var ?h ?_); (case h => rfl) | with_reducible refine ev_c ?_ | with_reducible refine ev_op ?_
  | with_reducible refine bo_I0 ?_ | with_reducible refine ev_tup ?_ | with_reducible refine ev_lstF ?_ | with_reducible refine ev_cb ?_ | with_reducible refine ea_cons ?_ | with_reducible refine ea_nil ?_
  | with_reducible refine bo_eqI ?_ | with_reducible refine bo_neI ?_ | with_reducible refine bo_eqS ?_ | with_reducible refine bo_neS ?_ | with_reducible refine bo_eqB ?_ | with_reducible refine bo_neB ?_
  | with_reducible refine isi_str ?_ | (with_reducible refine' ca_intBt ?h1 ?_); (case h1 => decide +kernel) | (with_reducible refine' ca_intBf ?h1 ?_); (case h1 => decide +kernel) | with_reducible refine ca_intB ?_ | with_reducible refine ca_int ?_ | with_reducible refine ca_max2 ?_ | with_reducible refine ca_min2 ?_
  | with_reducible refine sw_if ?_ | with_reducible refine sw_ret ?_ | with_reducible refine sw_drop ?_ | with_reducible refine sw_setL ?_ | with_reducible refine sw_next ?_ | with_reducible refine sw_par ?_ | with_reducible refine ev_neg ?_ | with_reducible refine ev_mkF ?_ | with_reducible refine ev_inv ?_ | with_reducible refine ev_prpF ?_ | with_reducible refine ta_fld ?_ | with_reducible refine ta_name ?_ | (with_reducible refine' ta_tup ?hl ?_); (case hl => rfl) | with_reducible refine tas_cons ?_ | with_reducible refine tas_nil ?_
  | with_reducible refine et_ifE ?_ | with_reducible refine ev_orV ?_ | with_reducible refine ev_andV ?_ | with_reducible refine ev_notV ?_ | with_reducible refine et_or ?_ | with_reducible refine et_and ?_ | with_reducible refine sw_asgA ?_ | with_reducible refine sw_asg2 ?_ | with_reducible refine sw_asg3 ?_ | with_reducible refine sw_fld ?_ | with_reducible refine et_test ?_ | with_reducible refine et_B ?_ | with_reducible refine ⟨_, rfl, ?_⟩ | with_reducible refine ⟨_, _, rfl, ?_⟩ | with_reducible refine et_not ?_ | with_reducible refine ev_if ?_
  | (with_reducible refine' bo_ixL ?h1 ?h2 ?_); (case h1 => walk_at "vl"); (case h2 => rfl) | (with_reducible refine' bo_ixT ?h2 ?_); (case h2 => rfl) | with_reducible refine ev_call ?_ | ((with_reducible refine' ev_fwF ?hz ?hy ?_); (case hz => assumption); (case hy => assumption)) | (with_reducible refine' ev_fmF ?hz ?_; case hz => assumption) | with_reducible refine ev_fld ?_
  | with_reducible refine .inr ⟨_, _, rfl, FldW.below _, ?_⟩ | with_reducible refine .inr ⟨_, _, rfl, FldW.atoms _, ?_⟩ | with_reducible refine .inr ⟨_, _, rfl, FldW.bens _, ?_⟩ | with_reducible refine .inr ⟨_, _, rfl, FldW.hgts _, ?_⟩
  | with_reducible refine .inl ⟨_, _, rfl, FldF.kind _, ?_⟩ | with_reducible refine .inl ⟨_, _, rfl, FldF.parts _, ?_⟩ | with_reducible refine .inl ⟨_, _, rfl, FldF.many _, ?_⟩ | with_reducible refine .inl ⟨_, _, rfl, FldF.deep _, ?_⟩ | with_reducible refine .inl ⟨_, _, rfl, FldF.atoms _, ?_⟩ | with_reducible refine .inl ⟨_, _, rfl, FldF.bare _, ?_⟩ | with_reducible refine .inl ⟨_, _, rfl, FldF.spell _, ?_⟩ | with_reducible refine .inl ⟨_, _, rfl, FldF.alls _, ?_⟩
  | with_reducible refine ev_meth ?_ | ((with_reducible refine' ⟨_, _, inst_wb _, ?hm, ?_⟩); (case hm => decide +kernel)) | ((with_reducible refine' ⟨_, _, Inst.fm _, ?hm, ?_⟩); (case hm => decide +kernel))
  | with_reducible refine ⟨_, _, rfl, FldF.kind _, ?_⟩ | with_reducible refine ⟨_, _, rfl, FldF.parts _, ?_⟩ | with_reducible refine ⟨_, _, rfl, FldF.many _, ?_⟩ | with_reducible refine ⟨_, _, rfl, FldF.deep _, ?_⟩ | with_reducible refine ⟨_, _, rfl, FldF.atoms _, ?_⟩ | with_reducible refine ⟨_, _, rfl, FldF.bare _, ?_⟩ | with_reducible refine ⟨_, _, rfl, FldF.spell _, ?_⟩ | with_reducible refine ⟨_, _, rfl, FldF.alls _, ?_⟩
  | ((with_reducible refine' ⟨len_ok ?hl, ?_⟩); (case hl => exact Nat.le_of_ble_eq_true rfl))
  | (with_reducible refine' bo_I ?h1 ?_); (case h1 => walk_at "nc")
  | with_reducible refine ev_sl ?_ | with_reducible refine eo_none ?_ | with_reducible refine eo_some ?_ | (with_reducible refine' ca_slF ?h1 ?_); (case h1 => walk_at "vl") | with_reducible refine ev_revF ?_ | with_reducible refine ev_dget ?_ | with_reducible refine sw_dput ?_ | with_reducible refine ev_dispF ?_ | with_reducible refine eps_cons ?_ | with_reducible refine eps_nil ?_ | with_reducible refine exk_str ?_ | with_reducible refine exk_int ?_ | (with_reducible refine' dg_str ?h1 ?h2 ?_); (case h1 => walk_at "vd"); (case h2 => walk_at "gg")
  | with_reducible refine unr_cons ?_ | with_reducible refine unr_nil ?_ | with_reducible refine swu_cons ?_ | with_reducible refine swu_nil ?_ | with_reducible refine et_yes ?_ | with_reducible refine tg_name ?_ | (with_reducible refine' tw_name ?h1 ?_); (case h1 => simp) | ((with_reducible refine' ⟨acc_ok ?h1, ?_⟩); (case h1 => exact Nat.le_of_ble_eq_true rfl)) | with_reducible refine ei_tup ?_ | with_reducible refine ei_list ?_ | with_reducible refine ei_rng1 ?_
  | with_reducible refine ca_strF ?_ | with_reducible refine ca_lenF ?_ | with_reducible refine isi_tup ?_ | with_reducible refine isi_int ?_ | with_reducible refine isi_intB ?_ | with_reducible refine et_chain ?_ | with_reducible refine ev_chain ?_ | (with_reducible refine' isi_fm ?hz ?_; case hz => assumption)
  | (with_reducible refine' ca_len ?h1 ?_); (case h1 => walk_at "vs")
  | (with_reducible refine' if_so ?h1 ?_); (case h1 => first | rfl | decide +kernel) | (with_reducible refine' if_not ?h1 ?_); (case h1 => first | rfl | decide +kernel))
local macro_rules | `(tactic| walk_at "st") => `(tactic| repeat first | walk_at "s1" | walk_at "sx")
abbrev s_law_deck : Stmt := top 28
theorem sc_law_deck : FnScope ["_law_script", "_law_mixed", "_law_cell"] ["_law_script"] (defScope s_law_deck) := ⟨rfl, rfl, rfl, by decide +kernel, rfl, by decide +kernel, by decide +kernel⟩
theorem c_law_deck {P : Program} {w : World} {K : PySem.W.Frag} {mg : Str → Option Value} {base : Heap} {cl : Nat → Addr} {f : Addr} {fd : FuncData} (hm : mg "_law_deck" = some (.ref f)) (B : Blt mg) (Z : ZZ K w mg cl) (Fn : Fun K "_law_deck" "_law_deck" s_law_deck f fd) : Cal P w K mg base 1 "_law_deck" (spN FK ⟨K, cl⟩ (S_deck DkA)) [] := by
  have fz := Z.z0
  refine calD hm Fn sc_law_deck (by intro ds W post h; first | (obtain ⟨rfl, _⟩ := h; rfl) | (obtain ⟨_, rfl, _⟩ := h; rfl) | (obtain ⟨_, _, rfl, _⟩ := h; rfl) | (obtain ⟨_, _, _, rfl, _⟩ := h; rfl) | (obtain ⟨_, _, _, _, rfl, _⟩ := h; rfl) | (obtain ⟨_, _, _, _, _, rfl, _⟩ := h; rfl) | (obtain ⟨_, _, _, _, _, _, rfl, _⟩ := h; rfl) | (obtain ⟨_, _, _, _, _, _, _, rfl, _⟩ := h; rfl) | (obtain ⟨_, _, _, _, _, _, _, _, rfl, _⟩ := h; rfl) | (obtain ⟨_, _, _, _, _, _, _, _, _, rfl, _⟩ := h; rfl) | (obtain ⟨_, _, _, _, _, _, _, _, _, _, rfl, _⟩ := h; rfl) | (obtain ⟨_, _, _, _, _, _, _, _, _, _, _, rfl, _⟩ := h; rfl)) (fun _ _ _ _ _ _ us hl => match us, hl with | [_], _ => rfl) fun cdv A outer s H E hr => ⟨_, pss_cons (ps_set (i := 1) sc_law_deck.nd rfl (Or.inl rfl) pe_int)
 (pss_cons (ps_for PassesOwn.never rfl (pi_list (pe_slice sl_list (pv 0) po_none (po_some pe_int))) (pg_name (i := 2) sc_law_deck.nd rfl (Or.inl rfl)) (pss_one (ps_set (i := 1) sc_law_deck.nd rfl (Or.inl rfl) (pe_op op_mod (pe_callTy call_int1 (by rfl) B.int bt_int (pa_cons (pe_op op_add (pe_op op_add (pe_op op_mul (pv 1) pe_int) (pe_op op_mod (pe_callTy call_int1 (by rfl) B.int bt_int (pa_cons (pv 2) pa_nil)) pe_int)) pe_int) pa_nil)) pe_int))))
 (pss_one (ps_ret (pe_disp (pps_cons pe_str (pe_revL (pe_lc (own := [("_law_cell", 2)]) (by rfl) sc_law_deck.nd (pi_list (pe_slice sl_list (pv 0) po_none (po_some pe_int))) (blkOk_by (own := [("_law_cell", 2)]) (N := ["_law_script", "_law_mixed", "_law_cell"]) (sc := defScope s_law_deck) (by decide +kernel)) (fun _ _ _ _ _ => (pg_name (i := 2) sc_law_deck.nd rfl (Or.inl rfl))) (fun _ _ _ _ _ => pts_one (pt_cmpR op_ge (pv 2) (pe_op op_pow pe_int pe_int) (nomark _))) (fun _ _ _ _ _ => (pv 2)))) (pps_cons pe_str (pv 1) (pps_cons pe_str pe_int pps_nil))) (by rfl) (by rfl) (fun z => by cases z) (by decide))))), ?_⟩
  rintro ds W post ⟨ns, rfl, rfl, hl, k⟩
  try dsimp only [cxOf, Cx.nox, Cx.wish]
  have hc : cutD ((ns.map V.int).map D.vl) none (some 63) = ns.map D.int := (cut63 (by simpa using hl)).trans (by rw [List.map_map]; rfl)
  walk_at "st"
  refine sw_for (ei_list ?_)
  walk_at "st"
  rw [hc]
  refine ⟨fun i G W => W = [] ∧ ∃ (st : Int) (o : Option D), 0 ≤ st ∧ st < 2147483648 ∧ G = [some (.scr (ns.map V.int)), some (.int st), o], ⟨rfl, _, _, by omega, by omega, rfl⟩, ?_, ?_⟩
  · rintro i d G' W' hd ⟨rfl, st, o, h0, h1, rfl⟩
    rw [List.getElem?_map] at hd
    obtain ⟨z, hz, e⟩ := Option.map_eq_some_iff.mp hd
    subst e
    refine tg_name ?_
    walk_at "st"
    exact ⟨rfl, _, _, Int.emod_nonneg _ (by omega), Int.lt_of_lt_of_le (Int.emod_lt_of_pos _ (by omega)) (by omega), rfl⟩
  · rintro G' W' ⟨rfl, st, o, h0, h1, rfl⟩
    refine sw_ret (ev_disp (eps_cons (ev_c (ev_revL (ev_lcF (ei_list ?_))))))
    walk_at "st"
    rw [hc]
    refine ⟨fun i acc W => W = [] ∧ ∃ cells : List Int, acc = cells.map D.int ∧ cells.length ≤ i, ⟨rfl, [], rfl, Nat.le_refl _⟩, ?_, ?_⟩
    · rintro i d acc W' hd ⟨rfl, cells, rfl, hz⟩
      have hi : i < (ns.map D.int).length := (List.getElem?_eq_some_iff.mp hd).1
      rw [List.getElem?_map] at hd
      obtain ⟨z, hz2, e⟩ := Option.map_eq_some_iff.mp hd
      subst e
      refine tw_name (by simp) ?_
      walk_at "st"
      refine if_bl (fun e => ?_) (fun e => ?_)
      · walk_at "st"
        refine ⟨by have := sizeLine_eq; simp at hi ⊢; omega, rfl, cells ++ [z], by simp, by simp; omega⟩
      · exact ⟨rfl, cells, rfl, by omega⟩
    · rintro acc W' ⟨rfl, cells, rfl, hz⟩
      refine ⟨_, .inl (.inl rfl), fun p hp => ?_⟩
      walk_at "st"
      refine ⟨by simp, fun p2 hp2 => ?_⟩
      rw [mergeG_nd (by simp only [List.map_cons, List.map_nil, List.nil_append, List.cons_append]; decide +kernel)]
      refine k p2 _ ⟨p, cells.reverse, st, 0, ?_, ?_, by omega, by omega⟩
      · unfold dkA
        rw [List.map_reverse]
        rfl
      · simp at hz ⊢
        omega
abbrev s_law_draw : Stmt := top 29
theorem sc_law_draw : FnScope ["_law_deck_here", "_law_many", "_law_cell", "_law_lap", "_law_mixed"] ["_law_deck_here", "_law_many"] (defScope s_law_draw) := ⟨rfl, rfl, rfl, by decide +kernel, rfl, by decide +kernel, by decide +kernel⟩
theorem c_law_draw {P : Program} {w : World} {K : PySem.W.Frag} {mg : Str → Option Value} {base : Heap} {cl : Nat → Addr} {f : Addr} {fd : FuncData} (hm : mg "_law_draw" = some (.ref f)) (B : Blt mg) (Z : ZZ K w mg cl) (Fn : Fun K "_law_draw" "_law_draw" s_law_draw f fd) : Cal P w K mg base 1 "_law_draw" (spN FK ⟨K, cl⟩ (S_draw DkA)) [] := by
  have fz := Z.z0
  refine calD hm Fn sc_law_draw (by intro ds W post h; first | (obtain ⟨rfl, _⟩ := h; rfl) | (obtain ⟨_, rfl, _⟩ := h; rfl) | (obtain ⟨_, _, rfl, _⟩ := h; rfl) | (obtain ⟨_, _, _, rfl, _⟩ := h; rfl) | (obtain ⟨_, _, _, _, rfl, _⟩ := h; rfl) | (obtain ⟨_, _, _, _, _, rfl, _⟩ := h; rfl) | (obtain ⟨_, _, _, _, _, _, rfl, _⟩ := h; rfl) | (obtain ⟨_, _, _, _, _, _, _, rfl, _⟩ := h; rfl) | (obtain ⟨_, _, _, _, _, _, _, _, rfl, _⟩ := h; rfl) | (obtain ⟨_, _, _, _, _, _, _, _, _, rfl, _⟩ := h; rfl) | (obtain ⟨_, _, _, _, _, _, _, _, _, _, rfl, _⟩ := h; rfl) | (obtain ⟨_, _, _, _, _, _, _, _, _, _, _, rfl, _⟩ := h; rfl)) (fun _ _ _ _ _ _ us hl => match us, hl with | [_, _], _ => rfl) fun cdv A outer s H E hr => ⟨_, pss_cons (ps_if (pt_cmpR (op_neD hr.units) (pe_dget (by exact hu_of hr) (pv 0) pe_str (fun _ _ => rfl)) (pe_lst pa_nil) (nomark _)) (pss_cons (ps_set (i := 2) sc_law_draw.nd rfl (Or.inl rfl) (pe_callTy call_int1 (by rfl) B.int bt_int (pa_cons (pe_bm0 PySem.F.plainAttrs_list PySem.F.slot_list_pop PySem.F.type_list_pop mt_pop (pe_dget (by exact hu_of hr) (pv 0) pe_str (fun _ _ => rfl))) pa_nil)))
 (pss_cons (ps_if (pt_cmpR op_ge (pv 2) (pv 1) (nomark _)) (pss_one (ps_expr (pe_bm PySem.F.plainAttrs_list PySem.F.slot_list_append PySem.F.type_list_append mt_append (pe_dget (by exact hu_of hr) (pv 0) pe_str (fun _ _ => rfl)) (pa_cons (pe_op op_fdiv (pv 2) (pv 1)) pa_nil)))) (pss_nil))
 (pss_one (ps_ret (pe_op op_mod (pv 2) (pv 1)))))) (pss_nil))
 (pss_cons (ps_set (i := 3) sc_law_draw.nd rfl (Or.inl rfl) (pe_op op_add (pe_dget (by exact hu_of hr) (pv 0) pe_str (fun _ _ => rfl)) pe_int))
 (pss_cons (ps_dput (by exact hu_of hr) (pv 0) pe_str (pv 3) rfl)
 (pss_cons (ps_set (i := 4) sc_law_draw.nd rfl (Or.inl rfl) (pe_op op_mod (pe_callTy call_int1 (by rfl) B.int bt_int (pa_cons (pe_op op_mul (pe_callTy call_int1 (by rfl) B.int bt_int (pa_cons (pe_op op_add (pe_op op_add (pe_dget (by exact hu_of hr) (pv 0) pe_str (fun _ _ => rfl)) (pe_op op_mul (pe_op op_mul pe_int (pv 3)) (pv 3))) pe_int) pa_nil)) pe_int) pa_nil)) pe_int))
 (pss_cons (ps_set (i := 4) sc_law_draw.nd rfl (Or.inl rfl) (pe_op op_mod (pe_callTy call_int1 (by rfl) B.int bt_int (pa_cons (pe_op op_add (pe_op op_mul (pv 4) (pv 4)) (pe_op op_mul pe_int (pv 3))) pa_nil)) pe_int))
 (pss_one (ps_ret (pe_op op_mod (pe_op op_fdiv (pe_op op_mod (pe_callTy call_int1 (by rfl) B.int bt_int (pa_cons (pe_op op_mul (pv 4) pe_int) pa_nil)) pe_int) pe_int) (pv 1)))))))), ?_⟩
  rintro ds W post ⟨a, c, n, rfl, ⟨l, cells, s, m, rfl, hl, c0, c2⟩, n0, n1, c1, k⟩
  try dsimp only [cxOf, Cx.nox, Cx.wish]
  walk_at "st"
  refine bo_neD (vp_ints (.inr ⟨_, rfl, List.mem_cons_of_mem _ List.mem_cons_self⟩)) vp_nil (shaped_ints cells) rfl ⟨_, rfl, ?_⟩
  rw [eqv_nil]
  have h16 := sizeLine_eq
  rcases List.eq_nil_or_concat cells with e | ⟨init, x, e⟩
  · subst e
    refine if_not rfl ?_
    walk_at "st"
    refine ⟨a, _, Sum.inr _, [], _, rfl, rfl, rfl, by simp; omega, ?_⟩
    rw [putG_set (i := 2) (by simp only [List.map_cons, List.map_nil]; decide +kernel) rfl]
    walk_at "st"
    refine k _ _ (Int.emod_nonneg _ (by omega)) (Int.emod_lt_of_pos _ n0) ⟨l, [], s, m + 1, rfl, by simp, by omega, by omega⟩
  · subst e
    refine if_so (by simp) ?_
    refine sw_seq (sw_set (ev_cb (ea_cons (ev_pop ?_))))
    walk_at "st"
    refine ⟨l, init.map D.int, [(a, .dp [(kS "great", .adr l), (kS "mixed", .int s), (kS "lap", .int m)])], [], .int x, rfl, by simp, ?_⟩
    walk_at "st"
    refine if_dec (fun hx => ?_) (fun hx => ?_)
    · refine sw_drop (ev_append ?_)
      walk_at "st"
      refine ⟨l, init.map D.int, [_], [], rfl, rfl, ?_⟩
      walk_at "st"
      refine ⟨init.map D.int, [_], [], _, rfl, rfl, ?_, ?_⟩
      · simp at hl ⊢
        omega
      walk_at "st"
      have := k (x % n) (dkA a l (init ++ [x / n]) s m) (Int.emod_nonneg _ (by omega)) (Int.emod_lt_of_pos _ n0) ⟨l, init ++ [x / n], s, m, rfl, by simp at hl ⊢; omega, c0, by omega⟩
      rw [dkA, List.map_append] at this
      exact this
    · walk_at "st"
      exact k (x % n) (dkA a l init s m) (Int.emod_nonneg _ (by omega)) (Int.emod_lt_of_pos _ n0) ⟨l, init, s, m, rfl, by simp at hl ⊢; omega, c0, by omega⟩
abbrev s_law_pick : Stmt := top 30
theorem sc_law_pick : FnScope ["_law_deck_here", "_law_menu"] ["_law_deck_here", "_law_menu"] (defScope s_law_pick) := ⟨rfl, rfl, rfl, by decide +kernel, rfl, by decide +kernel, by decide +kernel⟩
theorem c_law_pick {P : Program} {w : World} {K : PySem.W.Frag} {mg : Str → Option Value} {base : Heap} {cl : Nat → Addr} {f : Addr} {fd : FuncData} (hm : mg "_law_pick" = some (.ref f)) (B : Blt mg) (Z : ZZ K w mg cl) (Fn : Fun K "_law_pick" "_law_pick" s_law_pick f fd)
    (c_law_draw : Cal P w K mg base 1 "_law_draw" (spN FK ⟨K, cl⟩ (S_draw DkA)) []) : Cal P w K mg base 2 "_law_pick" (spN FK ⟨K, cl⟩ (S_pick DkA)) [] := by
  have fz := Z.z0
  refine calD hm Fn sc_law_pick (by intro ds W post h; first | (obtain ⟨rfl, _⟩ := h; rfl) | (obtain ⟨_, rfl, _⟩ := h; rfl) | (obtain ⟨_, _, rfl, _⟩ := h; rfl) | (obtain ⟨_, _, _, rfl, _⟩ := h; rfl) | (obtain ⟨_, _, _, _, rfl, _⟩ := h; rfl) | (obtain ⟨_, _, _, _, _, rfl, _⟩ := h; rfl) | (obtain ⟨_, _, _, _, _, _, rfl, _⟩ := h; rfl) | (obtain ⟨_, _, _, _, _, _, _, rfl, _⟩ := h; rfl) | (obtain ⟨_, _, _, _, _, _, _, _, rfl, _⟩ := h; rfl) | (obtain ⟨_, _, _, _, _, _, _, _, _, rfl, _⟩ := h; rfl) | (obtain ⟨_, _, _, _, _, _, _, _, _, _, rfl, _⟩ := h; rfl) | (obtain ⟨_, _, _, _, _, _, _, _, _, _, _, rfl, _⟩ := h; rfl)) (fun _ _ _ _ _ _ us hl => match us, hl with | [_, _], _ => rfl) fun cdv A outer s H E hr => ⟨_, pss_one (ps_ret (pe_ix ix_seq (pv 1) (pe_c c_law_draw hr (by omega) (by rfl) (pa_cons (pv 0) (pa_cons (pe_callB call_len (by rfl) B.len bt_len (pa_cons (pv 1) pa_nil)) pa_nil))) (fun _ _ => rfl))), ?_⟩
  rintro ds W post ⟨a, c, m, rfl, hd, hc, h⟩
  try dsimp only [cxOf, Cx.nox, Cx.wish]
  rcases h with ⟨l, hm, hne, hl, h⟩ | ⟨x, rfl, hne, hl, h⟩
  · have hv : Vs W m l := hm.elim (fun e => .inl (.inl (.inl e))) .inr
    walk_at "st"
    refine ca_len hv ?_
    have : 0 < l.length := List.length_pos_iff.mpr hne
    walk_at "st"
    refine handA ⟨a, c, _, rfl, hd, by omega, by omega, hc, fun z W' h0 h1 hd' => ?_⟩
    try walk_at "st"
    obtain ⟨y, hy, e⟩ := at_of_draw (l := l) h0 h1
    have hv' : Vs W' m l := hm.elim (fun e => .inl (.inl (.inl e))) .inr
    exact bo_ixSq hv' e (h y hy W' hd')
  · have h16 := sizeLine_eq
    walk_at "st"
    refine ca_lenS (by omega) ?_
    walk_at "st"
    refine handA ⟨a, c, _, rfl, hd, by omega, by omega, hc, fun z W' h0 h1 hd' => ?_⟩
    try walk_at "st"
    obtain ⟨y, hy, e⟩ := at_of_draw (l := lets x) h0 (by rw [← str_len]; exact h1)
    exact bo_ixSqS (by omega) e (h y hy W' hd')

end N
set_option Elab.async false
set_option linter.all false
set_option maxRecDepth 100000
namespace N
open PySem PySem.Spec PyProof.Rows L2
open C8 (Cal Met Mak InsC pe_c pe_mt pe_mt0 pe_mk)
set_option maxHeartbeats 4000000

local macro_rules | `(tactic| walk_at "vl") => `(tactic| first | exact .inl (.inl rfl) | exact .inr ⟨_, rfl, List.mem_cons_self⟩ | exact .inr ⟨_, rfl, List.mem_cons_of_mem _ List.mem_cons_self⟩ | exact .inr ⟨_, rfl, List.mem_cons_of_mem _ (List.mem_cons_of_mem _ List.mem_cons_self)⟩ | exact .inr ⟨_, rfl, List.mem_cons_of_mem _ (List.mem_cons_of_mem _ (List.mem_cons_of_mem _ List.mem_cons_self))⟩ | exact .inl (.inr ⟨_, rfl, rfl⟩))
local macro_rules | `(tactic| walk_at "vt") => `(tactic| first | exact .inl rfl | exact .inr ⟨_, rfl, List.mem_cons_self⟩ | exact .inr ⟨_, rfl, List.mem_cons_of_mem _ List.mem_cons_self⟩ | exact .inr ⟨_, rfl, List.mem_cons_of_mem _ (List.mem_cons_of_mem _ List.mem_cons_self)⟩ | exact .inr ⟨_, rfl, List.mem_cons_of_mem _ (List.mem_cons_of_mem _ (List.mem_cons_of_mem _ List.mem_cons_self))⟩)
local macro_rules | `(tactic| walk_at "vd") => `(tactic| first | exact .inl rfl | exact .inr ⟨_, rfl, List.mem_cons_self⟩ | exact .inr ⟨_, rfl, List.mem_cons_of_mem _ List.mem_cons_self⟩ | exact .inr ⟨_, rfl, List.mem_cons_of_mem _ (List.mem_cons_of_mem _ List.mem_cons_self)⟩ | exact .inr ⟨_, rfl, List.mem_cons_of_mem _ (List.mem_cons_of_mem _ (List.mem_cons_of_mem _ List.mem_cons_self))⟩)
local macro_rules | `(tactic| walk_at "gg") => `(tactic| first | exact getG_hd _ _ _ | (refine getG_tl (by decide +kernel) ?_; walk_at "gg"))
local macro_rules | `(tactic| walk_at "vs") => `(tactic| first | exact .inr rfl | (refine .inl ?_; walk_at "vl"))
local macro_rules | `(tactic| walk_at "nc") => `(tactic| first | omega | (unfold CMul; omega) | (unfold CDiv; omega) | (unfold CPow; decide) | (show (0 : Int) < _; omega))
local macro_rules | `(tactic| walk_at "sx") => `(tactic| first
  | with_reducible refine swx_seq ?_ | with_reducible refine swx_set ?_ | with_reducible refine swx_if ?_ | with_reducible refine swx_asg ?_ | with_reducible refine swx_ret ?_ | with_reducible refine swx_drop ?_ | with_reducible refine swx_raise ?_ | with_reducible refine swx_next ?_ | with_reducible refine swx_brk ?_ | with_reducible refine swx_cont ?_ | with_reducible refine swx_retN ?_ | with_reducible refine swx_par ?_ | with_reducible refine swx_fld ?_
  | with_reducible refine evx_call ?_ | with_reducible refine evx_cm ?_ | with_reducible refine evx_cmk ?_ | with_reducible refine evx_mk ?_ | with_reducible refine evx_mkk ?_ | with_reducible refine evx_of ?_)
local macro_rules | `(tactic| walk_at "s1") => `(tactic| first
  | with_reducible refine sw_seq ?_ | with_reducible refine sw_set ?_ | (with_reducible refine' ev_var ?h ?_); (case h => rfl) | with_reducible refine ev_c ?_ | with_reducible refine ev_op ?_
  | with_reducible refine bo_I0 ?_ | with_reducible refine ev_tup ?_ | with_reducible refine ev_lstF ?_ | with_reducible refine ev_cb ?_ | with_reducible refine ea_cons ?_ | with_reducible refine ea_nil ?_
  | with_reducible refine bo_eqI ?_ | with_reducible refine bo_neI ?_ | with_reducible refine bo_eqS ?_ | with_reducible refine bo_neS ?_ | with_reducible refine bo_eqB ?_ | with_reducible refine bo_neB ?_
  | with_reducible refine isi_str ?_ | (with_reducible refine' ca_intBt ?h1 ?_); (case h1 => decide +kernel) | (with_reducible refine' ca_intBf ?h1 ?_); (case h1 => decide +kernel) | with_reducible refine ca_intB ?_ | with_reducible refine ca_int ?_ | with_reducible refine ca_max2 ?_ | with_reducible refine ca_min2 ?_
  | with_reducible refine sw_if ?_ | with_reducible refine sw_ret ?_ | with_reducible refine sw_drop ?_ | with_reducible refine sw_setL ?_ | with_reducible refine sw_next ?_ | with_reducible refine sw_par ?_ | with_reducible refine ev_neg ?_ | with_reducible refine ev_mkF ?_ | with_reducible refine ev_inv ?_ | with_reducible refine ev_prpF ?_ | with_reducible refine ta_fld ?_ | with_reducible refine ta_name ?_ | (with_reducible refine' ta_tup ?hl ?_); (case hl => rfl) | with_reducible refine tas_cons ?_ | with_reducible refine tas_nil ?_
  | with_reducible refine et_ifE ?_ | with_reducible refine ev_orV ?_ | with_reducible refine ev_andV ?_ | with_reducible refine ev_notV ?_ | with_reducible refine et_or ?_ | with_reducible refine et_and ?_ | with_reducible refine sw_asgA ?_ | with_reducible refine sw_asg2 ?_ | with_reducible refine sw_asg3 ?_ | with_reducible refine sw_fld ?_ | with_reducible refine et_test ?_ | with_reducible refine et_B ?_ | with_reducible refine ⟨_, rfl, ?_⟩ | with_reducible refine ⟨_, _, rfl, ?_⟩ | with_reducible refine et_not ?_ | with_reducible refine ev_if ?_
  | (with_reducible refine' bo_ixL ?h1 ?h2 ?_); (case h1 => walk_at "vl"); (case h2 => rfl) | (with_reducible refine' bo_ixT ?h2 ?_); (case h2 => rfl) | with_reducible refine ev_call ?_ | ((with_reducible refine' ev_fwF ?hz ?hy ?_); (case hz => assumption); (case hy => assumption)) | (with_reducible refine' ev_fmF ?hz ?_; case hz => assumption) | with_reducible refine ev_fld ?_
  | with_reducible refine .inr ⟨_, _, rfl, FldW.below _, ?_⟩ | with_reducible refine .inr ⟨_, _, rfl, FldW.atoms _, ?_⟩ | with_reducible refine .inr ⟨_, _, rfl, FldW.bens _, ?_⟩ | with_reducible refine .inr ⟨_, _, rfl, FldW.hgts _, ?_⟩
  | with_reducible refine .inl ⟨_, _, rfl, FldF.kind _, ?_⟩ | with_reducible refine .inl ⟨_, _, rfl, FldF.parts _, ?_⟩ | with_reducible refine .inl ⟨_, _, rfl, FldF.many _, ?_⟩ | with_reducible refine .inl ⟨_, _, rfl, FldF.deep _, ?_⟩ | with_reducible refine .inl ⟨_, _, rfl, FldF.atoms _, ?_⟩ | with_reducible refine .inl ⟨_, _, rfl, FldF.bare _, ?_⟩ | with_reducible refine .inl ⟨_, _, rfl, FldF.spell _, ?_⟩ | with_reducible refine .inl ⟨_, _, rfl, FldF.alls _, ?_⟩
  | with_reducible refine ev_meth ?_ | ((with_reducible refine' ⟨_, _, inst_wb _, ?hm, ?_⟩); (case hm => decide +kernel)) | ((with_reducible refine' ⟨_, _, Inst.fm _, ?hm, ?_⟩); (case hm => decide +kernel))
  | with_reducible refine ⟨_, _, rfl, FldF.kind _, ?_⟩ | with_reducible refine ⟨_, _, rfl, FldF.parts _, ?_⟩ | with_reducible refine ⟨_, _, rfl, FldF.many _, ?_⟩ | with_reducible refine ⟨_, _, rfl, FldF.deep _, ?_⟩ | with_reducible refine ⟨_, _, rfl, FldF.atoms _, ?_⟩ | with_reducible refine ⟨_, _, rfl, FldF.bare _, ?_⟩ | with_reducible refine ⟨_, _, rfl, FldF.spell _, ?_⟩ | with_reducible refine ⟨_, _, rfl, FldF.alls _, ?_⟩
  | ((with_reducible refine' ⟨len_ok ?hl, ?_⟩); (case hl => exact Nat.le_of_ble_eq_true rfl))
  | (with_reducible refine' bo_I ?h1 ?_); (case h1 => walk_at "nc")
  | with_reducible refine ev_sl ?_ | with_reducible refine eo_none ?_ | with_reducible refine eo_some ?_ | (with_reducible refine' ca_slF ?h1 ?_); (case h1 => walk_at "vl") | with_reducible refine ev_revF ?_ | with_reducible refine ev_dget ?_ | with_reducible refine sw_dput ?_ | with_reducible refine ev_dispF ?_ | with_reducible refine eps_cons ?_ | with_reducible refine eps_nil ?_ | with_reducible refine exk_str ?_ | with_reducible refine exk_int ?_ | (with_reducible refine' dg_str ?h1 ?h2 ?_); (case h1 => walk_at "vd"); (case h2 => walk_at "gg")
  | with_reducible refine unr_cons ?_ | with_reducible refine unr_nil ?_ | with_reducible refine swu_cons ?_ | with_reducible refine swu_nil ?_ | with_reducible refine et_yes ?_ | with_reducible refine tg_name ?_ | (with_reducible refine' tw_name ?h1 ?_); (case h1 => simp) | ((with_reducible refine' ⟨acc_ok ?h1, ?_⟩); (case h1 => exact Nat.le_of_ble_eq_true rfl)) | with_reducible refine ei_tup ?_ | with_reducible refine ei_list ?_ | with_reducible refine ei_rng1 ?_
  | with_reducible refine ca_strF ?_ | with_reducible refine ca_lenF ?_ | with_reducible refine isi_tup ?_ | with_reducible refine isi_int ?_ | with_reducible refine isi_intB ?_ | with_reducible refine et_chain ?_ | with_reducible refine ev_chain ?_ | (with_reducible refine' isi_fm ?hz ?_; case hz => assumption)
  | (with_reducible refine' ca_len ?h1 ?_); (case h1 => walk_at "vs")
  | (with_reducible refine' if_so ?h1 ?_); (case h1 => first | rfl | decide +kernel) | (with_reducible refine' if_not ?h1 ?_); (case h1 => first | rfl | decide +kernel))
local macro_rules | `(tactic| walk_at "st") => `(tactic| repeat first | walk_at "s1" | walk_at "sx")
abbrev s_law_form : Stmt := top 31
theorem sc_law_form : FnScope ["_law_deck_here", "_law_pool", "_law_deep", "_law_way", "_law_first"] ["_law_deck_here", "_law_pool", "_law_deep"] (defScope s_law_form) := ⟨rfl, rfl, rfl, by decide +kernel, rfl, by decide +kernel, by decide +kernel⟩
theorem c_law_form {P : Program} {w : World} {K : PySem.W.Frag} {mg : Str → Option Value} {base : Heap} {cl : Nat → Addr} {f : Addr} {fd : FuncData} (hm : mg "_law_form" = some (.ref f)) (B : Blt mg) (Z : ZZ K w mg cl) (Fn : Fun K "_law_form" "_law_form" s_law_form f fd)
    (c_law_draw : Cal P w K mg base 1 "_law_draw" (spN FK ⟨K, cl⟩ (S_draw DkA)) [])
    (c_law_pick : Cal P w K mg base 2 "_law_pick" (spN FK ⟨K, cl⟩ (S_pick DkA)) []) : ∀ j, Cal P w K mg base (3 + j) "_law_form" (spN FK ⟨K, cl⟩ ((S_form DkA) j)) [] := by
  have fz := Z.z0
  intro j
  induction j with
  | zero => exact calD (k := 2) hm Fn sc_law_form (by intro ds W post h; first | (obtain ⟨rfl, _⟩ := h; rfl) | (obtain ⟨_, rfl, _⟩ := h; rfl) | (obtain ⟨_, _, rfl, _⟩ := h; rfl) | (obtain ⟨_, _, _, rfl, _⟩ := h; rfl) | (obtain ⟨_, _, _, _, rfl, _⟩ := h; rfl) | (obtain ⟨_, _, _, _, _, rfl, _⟩ := h; rfl) | (obtain ⟨_, _, _, _, _, _, rfl, _⟩ := h; rfl) | (obtain ⟨_, _, _, _, _, _, _, rfl, _⟩ := h; rfl) | (obtain ⟨_, _, _, _, _, _, _, _, rfl, _⟩ := h; rfl) | (obtain ⟨_, _, _, _, _, _, _, _, _, rfl, _⟩ := h; rfl) | (obtain ⟨_, _, _, _, _, _, _, _, _, _, rfl, _⟩ := h; rfl) | (obtain ⟨_, _, _, _, _, _, _, _, _, _, _, rfl, _⟩ := h; rfl)) (fun _ _ _ _ _ _ us hl => match us, hl with | [_, _, _], _ => rfl) fun cdv A outer s H E hr => ⟨_, pss_never, fun ds W post ⟨a, c, p, n, _, _, h, _⟩ => absurd h (Nat.not_lt_zero _)⟩
  | succ j c_law_form =>
    refine calD (k := 3 + j) hm Fn sc_law_form (by intro ds W post h; first | (obtain ⟨rfl, _⟩ := h; rfl) | (obtain ⟨_, rfl, _⟩ := h; rfl) | (obtain ⟨_, _, rfl, _⟩ := h; rfl) | (obtain ⟨_, _, _, rfl, _⟩ := h; rfl) | (obtain ⟨_, _, _, _, rfl, _⟩ := h; rfl) | (obtain ⟨_, _, _, _, _, rfl, _⟩ := h; rfl) | (obtain ⟨_, _, _, _, _, _, rfl, _⟩ := h; rfl) | (obtain ⟨_, _, _, _, _, _, _, rfl, _⟩ := h; rfl) | (obtain ⟨_, _, _, _, _, _, _, _, rfl, _⟩ := h; rfl) | (obtain ⟨_, _, _, _, _, _, _, _, _, rfl, _⟩ := h; rfl) | (obtain ⟨_, _, _, _, _, _, _, _, _, _, rfl, _⟩ := h; rfl) | (obtain ⟨_, _, _, _, _, _, _, _, _, _, _, rfl, _⟩ := h; rfl)) (fun _ _ _ _ _ _ us hl => match us, hl with | [_, _, _], _ => rfl) fun cdv A outer s H E hr => ⟨_, pss_cons (ps_set (i := 3) sc_law_form.nd rfl (Or.inl rfl) (pe_ifExp (pt_cmpR op_gt (pv 2) pe_int (nomark _)) (pe_c c_law_draw hr (by omega) (by rfl) (pa_cons (pv 0) (pa_cons pe_int pa_nil))) pe_int))
 (pss_cons (ps_if (pt_cmpR op_lt (pv 3) pe_int (nomark _)) (pss_one (ps_ret (pe_tup (pa_cons pe_str (pa_cons (pe_c c_law_form hr (by omega) (by rfl) (pa_cons (pv 0) (pa_cons (pv 1) (pa_cons (pe_op op_sub (pv 2) pe_int) pa_nil)))) pa_nil))))) (pss_nil))
 (pss_cons (ps_if (pt_cmpR op_lt (pv 3) pe_int (nomark _)) (pss_cons (ps_set (i := 4) sc_law_form.nd rfl (Or.inl rfl) (pe_c c_law_form hr (by omega) (by rfl) (pa_cons (pv 0) (pa_cons (pv 1) (pa_cons (pe_op op_sub (pv 2) pe_int) pa_nil)))))
 (pss_one (ps_ret (pe_tup (pa_cons pe_str (pa_cons (pv 4) (pa_cons (pe_c c_law_form hr (by omega) (by rfl) (pa_cons (pv 0) (pa_cons (pv 1) (pa_cons (pe_op op_sub (pv 2) pe_int) pa_nil)))) pa_nil))))))) (pss_nil))
 (pss_one (ps_ret (pe_ifExp (pt_cmpR op_eq (pe_c c_law_draw hr (by omega) (by rfl) (pa_cons (pv 0) (pa_cons pe_int pa_nil))) pe_int (nomark _)) (pe_tup (pa_cons pe_str pa_nil)) (pe_tup (pa_cons pe_str (pa_cons (pe_c c_law_pick hr (by omega) (by rfl) (pa_cons (pv 0) (pa_cons (pv 1) pa_nil))) pa_nil)))))))), ?_⟩
    rintro ds W post ⟨a, c, p, n, rfl, hd, hj, hj2, hp, hp0, hp1, hc, k⟩
    try dsimp only [cxOf, Cx.nox, Cx.wish]
    have h2 := pow_le19 (n := n) (by omega)
    have h3 := pow_pos' n
    refine sw_seq (sw_set (Ev.imp (R := fun d W' => ∃ z : Int, d = .int z ∧ 0 ≤ z ∧ z < 7 ∧ (n = 0 → z = 6) ∧ DkA a (c + if n = 0 then 0 else 1) W') ?_ ?_))
    · walk_at "st"
      refine if_dec (fun h => ?_) (fun h => ?_)
      · walk_at "st"
        refine handA ⟨a, c, 7, rfl, hd, by omega, by omega, by omega, fun z W' h0 h1 hd' => ⟨z, rfl, h0, h1, by omega, by rw [if_neg (by omega)]; exact hd'⟩⟩
        try walk_at "st"
      · walk_at "st"
        exact ⟨by omega, by omega, by omega, by rw [if_pos (by omega), Int.add_zero]; exact hd⟩
    rintro d W1 ⟨z, rfl, z0, z1, z6, hd1⟩
    walk_at "st"
    refine if_dec (fun h => ?_) (fun h => ?_)
    · obtain ⟨m, rfl⟩ : ∃ m, n = m + 1 := ⟨n - 1, by omega⟩
      rw [if_neg (by omega)] at hd1
      have e2 : (2 : Int) ^ (m + 1) = 2 * 2 ^ m := by rw [Int.pow_succ, Int.mul_comm]
      walk_at "st"
      have h4 := pow_pos' m
      rw [str_nat]
      refine handA ⟨a, c + 1, p, m, rfl, hd1, by omega, by omega, hp, hp0, hp1, by omega, fun f W2 h1 h2 h3 => ?_⟩
      try walk_at "st"
      exact k (.all f) W2 h1 (by simp only [Fm.ht]; omega) (DkA_mono h3 (by omega))
    walk_at "st"
    refine if_dec (fun h5 => ?_) (fun h5 => ?_)
    · obtain ⟨m, rfl⟩ : ∃ m, n = m + 1 := ⟨n - 1, by omega⟩
      rw [if_neg (by omega)] at hd1
      have e2 : (2 : Int) ^ (m + 1) = 2 * 2 ^ m := by rw [Int.pow_succ, Int.mul_comm]
      have h4 := pow_pos' m
      walk_at "st"
      rw [str_nat]
      refine handA ⟨a, c + 1, p, m, rfl, hd1, by omega, by omega, hp, hp0, hp1, by omega, fun f W2 f1 f2 f3 => ?_⟩
      try walk_at "st"
      rw [str_nat]
      refine handA ⟨a, c + 1 + (4 * 2 ^ m - 1), p, m, rfl, f3, by omega, by omega, hp, hp0, hp1, by omega, fun g W3 g1 g2 g3 => ?_⟩
      try walk_at "st"
      exact k (.imp f g) W3 ⟨f1, g1⟩ (by simp only [Fm.ht]; omega) (DkA_mono g3 (by omega))
    walk_at "st"
    refine handA ⟨a, _, 4, rfl, hd1, by omega, by omega, by split <;> omega, fun y W2 y0 y1 hd2 => ?_⟩
    try walk_at "st"
    refine if_dec (fun h6 => ?_) (fun h6 => ?_)
    · walk_at "st"
      exact k .no W2 trivial (by simp [Fm.ht]) (DkA_mono hd2 (by split <;> omega))
    · walk_at "st"
      refine handA ⟨a, _, _, rfl, hd2, by split <;> omega, .inr ⟨p, rfl, hp0, by omega, fun q hq W3 hd3 => ?_⟩⟩
      try walk_at "st"
      exact k (.at q) W3 (hp q hq) (by simp [Fm.ht]) (DkA_mono hd3 (by split <;> omega))
abbrev s_law_text : Stmt := top 32
theorem sc_law_text : FnScope ["_law_form_here"] ["_law_form_here"] (defScope s_law_text) := ⟨rfl, rfl, rfl, by decide +kernel, rfl, by decide +kernel, by decide +kernel⟩
theorem c_law_text {P : Program} {w : World} {K : PySem.W.Frag} {mg : Str → Option Value} {base : Heap} {cl : Nat → Addr} {f : Addr} {fd : FuncData} (hm : mg "_law_text" = some (.ref f)) (B : Blt mg) (Z : ZZ K w mg cl) (Fn : Fun K "_law_text" "_law_text" s_law_text f fd) : ∀ j, Cal P w K mg base (1 + j) "_law_text" (spN FK ⟨K, cl⟩ (S_text j)) [] := by
  have fz := Z.z0
  intro j
  induction j with
  | zero => exact calD (k := 0) hm Fn sc_law_text (by intro ds W post h; first | (obtain ⟨rfl, _⟩ := h; rfl) | (obtain ⟨_, rfl, _⟩ := h; rfl) | (obtain ⟨_, _, rfl, _⟩ := h; rfl) | (obtain ⟨_, _, _, rfl, _⟩ := h; rfl) | (obtain ⟨_, _, _, _, rfl, _⟩ := h; rfl) | (obtain ⟨_, _, _, _, _, rfl, _⟩ := h; rfl) | (obtain ⟨_, _, _, _, _, _, rfl, _⟩ := h; rfl) | (obtain ⟨_, _, _, _, _, _, _, rfl, _⟩ := h; rfl) | (obtain ⟨_, _, _, _, _, _, _, _, rfl, _⟩ := h; rfl) | (obtain ⟨_, _, _, _, _, _, _, _, _, rfl, _⟩ := h; rfl) | (obtain ⟨_, _, _, _, _, _, _, _, _, _, rfl, _⟩ := h; rfl) | (obtain ⟨_, _, _, _, _, _, _, _, _, _, _, rfl, _⟩ := h; rfl)) (fun _ _ _ _ _ _ us hl => match us, hl with | [_], _ => rfl) fun cdv A outer s H E hr => ⟨_, pss_never, fun ds W post ⟨f, _, _, h, _⟩ => absurd h (Nat.not_lt_zero _)⟩
  | succ j c_law_text =>
    refine calD (k := 1 + j) hm Fn sc_law_text (by intro ds W post h; first | (obtain ⟨rfl, _⟩ := h; rfl) | (obtain ⟨_, rfl, _⟩ := h; rfl) | (obtain ⟨_, _, rfl, _⟩ := h; rfl) | (obtain ⟨_, _, _, rfl, _⟩ := h; rfl) | (obtain ⟨_, _, _, _, rfl, _⟩ := h; rfl) | (obtain ⟨_, _, _, _, _, rfl, _⟩ := h; rfl) | (obtain ⟨_, _, _, _, _, _, rfl, _⟩ := h; rfl) | (obtain ⟨_, _, _, _, _, _, _, rfl, _⟩ := h; rfl) | (obtain ⟨_, _, _, _, _, _, _, _, rfl, _⟩ := h; rfl) | (obtain ⟨_, _, _, _, _, _, _, _, _, rfl, _⟩ := h; rfl) | (obtain ⟨_, _, _, _, _, _, _, _, _, _, rfl, _⟩ := h; rfl) | (obtain ⟨_, _, _, _, _, _, _, _, _, _, _, rfl, _⟩ := h; rfl)) (fun _ _ _ _ _ _ us hl => match us, hl with | [_], _ => rfl) fun cdv A outer s H E hr => ⟨_, pss_cons (ps_if (pt_cmpR op_eq (pe_ix ix_tup (pv 0) pe_int (fun _ _ => rfl)) pe_str (nomark _)) (pss_one (ps_ret (pe_ix ix_tup (pv 0) pe_int (fun _ _ => rfl)))) (pss_nil))
 (pss_cons (ps_if (pt_cmpR op_eq (pe_ix ix_tup (pv 0) pe_int (fun _ _ => rfl)) pe_str (nomark _)) (pss_one (ps_ret (pe_op op_add_str pe_str (pe_c c_law_text hr (by omega) (by rfl) (pa_cons (pe_ix ix_tup (pv 0) pe_int (fun _ _ => rfl)) pa_nil))))) (pss_nil))
 (pss_cons (ps_if (pt_cmpR op_eq (pe_ix ix_tup (pv 0) pe_int (fun _ _ => rfl)) pe_str (nomark _)) (pss_one (ps_ret pe_str)) (pss_nil))
 (pss_one (ps_ret (pe_op op_add_str (pe_op op_add_str (pe_op op_add_str (pe_op op_add_str pe_str (pe_c c_law_text hr (by omega) (by rfl) (pa_cons (pe_ix ix_tup (pv 0) pe_int (fun _ _ => rfl)) pa_nil))) pe_str) (pe_c c_law_text hr (by omega) (by rfl) (pa_cons (pe_ix ix_tup (pv 0) pe_int (fun _ _ => rfl)) pa_nil))) pe_str))))), ?_⟩
    rintro ds W post ⟨f, rfl, rfl, hj, hs, k⟩
    try dsimp only [cxOf, Cx.nox, Cx.wish]
    have h16 := sizeLine_eq
    have l1 : ("(" : Str).length = 1 := rfl
    have l2 : (" > " : Str).length = 3 := rfl
    have l3 : (")" : Str).length = 1 := rfl
    have l4 : ("all " : Str).length = 4 := rfl
    cases f with
    | «at» c =>
      simp only [Fm.tr]
      walk_at "st"
      exact k
    | no =>
      simp only [Fm.tr]
      walk_at "st"
      exact k
    | all a =>
      simp only [Fm.tr, Fm.ht, Fm.sz] at hj hs ⊢
      walk_at "st"
      refine hand0 ⟨a, rfl, rfl, by omega, by omega, ?_⟩
      try simp only [List.nil_append]
      try walk_at "st"
      refine bo_addS (by rw [Fm.spell_len]; omega) ?_
      try walk_at "st"
      exact k
    | imp a b =>
      simp only [Fm.tr, Fm.ht, Fm.sz] at hj hs ⊢
      have l5 := Fm.spell_len a
      have l6 := Fm.spell_len b
      walk_at "st"
      refine hand0 ⟨a, rfl, rfl, by omega, by omega, ?_⟩
      try simp only [List.nil_append]
      try walk_at "st"
      refine bo_addS (by omega) ?_
      try walk_at "st"
      refine bo_addS (by rw [str_app_len]; omega) ?_
      try walk_at "st"
      refine hand0 ⟨b, rfl, rfl, by omega, by omega, ?_⟩
      try simp only [List.nil_append]
      try walk_at "st"
      refine bo_addS (by rw [str_app_len, str_app_len]; omega) ?_
      try walk_at "st"
      refine bo_addS (by rw [str_app_len, str_app_len, str_app_len]; omega) ?_
      try walk_at "st"
      exact k

end N
set_option Elab.async false
set_option linter.all false
set_option maxRecDepth 100000
set_option maxHeartbeats 1000000
/-! Texts of webs, plainly; what the reading defs promise. -/
namespace N
open PySem PySem.Spec PyProof.Rows L2
open C8 (Cal Met Mak InsC pe_c pe_mt pe_mt0 pe_mk)
open TL (numL numL_lt numL_step numL_digits numL_ne int_num split_join joinL tl_join join_eq tl_num)
theorem str_lets (x : Str) : x.length = (lets x).length := str_len x
/-- a number's text -/
def numS (n : Nat) : Str := Str.ofString (toString ((n : Nat) : Int))
theorem numS_lets (n : Nat) : lets (numS n) = numL n := tl_num n
theorem numL_two {n : Nat} (h : 10 ≤ n) (h2 : n < 100) : numL n = [48 + n / 10, 48 + n % 10] := by
  rw [numL_step h, numL_lt (by omega)]
  rfl
theorem numS_len {n : Nat} (h : n < 100) : (numS n).length ≤ 2 ∧ (numS n).length ≠ 0 := by
  rw [str_lets, numS_lets]
  by_cases h2 : n < 10
  · rw [numL_lt h2]
    simp
  · rw [numL_two (by omega) h]
    simp
theorem numS_ne (n : Nat) : numS n ≠ "" := fun e => numL_ne n (by rw [← numS_lets, e]; rfl)
theorem numS_dig {n c : Nat} (h : c ∈ lets (numS n)) : 48 ≤ c ∧ c ≤ 57 := by
  rw [numS_lets] at h
  exact numL_digits n c h
theorem numS_int {n : Nat} (h : n < 100) : PySem.intText? (numS n) = some ((n : Nat) : Int) := by
  refine int_num ?_
  have := (numS_len h).1
  rw [str_lets, numS_lets] at this
  omega
/-- a number of two signs begins with no nought -/
theorem numS_head {n : Nat} (h : n < 100) (h2 : 1 < (numS n).length) : ∃ c, atI (lets (numS n)) 0 = some c ∧ c ≠ 48 := by
  rw [str_lets, numS_lets] at h2
  rw [numS_lets]
  by_cases h3 : n < 10
  · rw [numL_lt h3] at h2
    simp at h2
  · rw [numL_two (by omega) h]
    exact ⟨_, rfl, by omega⟩
theorem dig_in {c : Nat} (h1 : 48 ≤ c) (h2 : c ≤ 57) : decide (c ∈ ("0123456789" : Str).cps.toList) = true := by
  have : c = 48 ∨ c = 49 ∨ c = 50 ∨ c = 51 ∨ c = 52 ∨ c = 53 ∨ c = 54 ∨ c = 55 ∨ c = 56 ∨ c = 57 := by omega
  rcases this with rfl | rfl | rfl | rfl | rfl | rfl | rfl | rfl | rfl | rfl <;> decide +kernel
/-- the word of the letters -/
def wordL (s : Str) : Str := if s = "" then "-" else s
def lineL (s : Str) (r : List Nat) : List Str := wordL s :: r.map numS
def lineS (s : Str) (r : List Nat) : Str := Txt.join " " (lineL s r)
def Wb.lines (w : Wb) : List Str := List.zipWith lineS w.atoms w.below
def Wb.text (w : Wb) : Str := Txt.join "\n" w.lines
theorem letter_no {s : Str} (h : letters s) {c : Nat} (h2 : ¬ (65 ≤ c ∧ c ≤ 122)) : c ∉ lets s := fun hc => h2 (by have := h c hc; omega)
theorem word_no {s : Str} (h : letters s) {c : Nat} (h2 : c = 32 ∨ c = 10) : c ∉ lets (wordL s) := by
  unfold wordL
  split
  · intro hc
    have hc : c ∈ [45] := hc
    simp at hc
    omega
  · exact letter_no h (by omega)
theorem num_no {n c : Nat} (h2 : c = 32 ∨ c = 10) : c ∉ lets (numS n) := fun hc => by
  have := numS_dig hc
  omega
theorem line_split {s : Str} {r : List Nat} (h : letters s) : Txt.split (lineS s r) " " = lineL s r :=
  split_join (s := 32) (S := []) rfl (by decide +kernel) (by simp [lineL]) fun p hp => by
    rcases List.mem_cons.mp hp with rfl | hp
    · exact word_no h (.inl rfl)
    · obtain ⟨n, _, rfl⟩ := List.mem_map.mp hp
      exact num_no (.inl rfl)
theorem joinL_mem {S : List Nat} {c : Nat} : ∀ {ps : List (List Nat)}, c ∈ joinL S ps → c ∈ S ∨ ∃ p ∈ ps, c ∈ p
  | [], h => by cases h
  | [p], h => .inr ⟨p, List.mem_singleton.mpr rfl, h⟩
  | p :: q :: r, h => by
    have h : c ∈ p ++ (S ++ joinL S (q :: r)) := h
    rcases List.mem_append.mp h with h | h
    · exact .inr ⟨p, List.mem_cons_self, h⟩
    · rcases List.mem_append.mp h with h | h
      · exact .inl h
      · rcases joinL_mem h with h | ⟨z, hz, hc⟩
        · exact .inl h
        · exact .inr ⟨z, List.mem_cons_of_mem _ hz, hc⟩
theorem lets_join (y : Str) (ps : List Str) : lets (Txt.join y ps) = joinL (lets y) (ps.map lets) := by
  rw [join_eq]
  exact tl_join y ps
theorem line_no {s : Str} {r : List Nat} (h : letters s) : 10 ∉ lets (lineS s r) := fun hc => by
  unfold lineS at hc
  rw [lets_join] at hc
  rcases joinL_mem hc with hc | ⟨p, hp, hc⟩
  · have hc : 10 ∈ [32] := hc
    simp at hc
  · obtain ⟨q, hq, rfl⟩ := List.mem_map.mp hp
    rcases List.mem_cons.mp hq with rfl | hq
    · exact word_no h (.inr rfl) hc
    · obtain ⟨n, _, rfl⟩ := List.mem_map.mp hq
      exact num_no (.inr rfl) hc
theorem lines_len {w : Wb} (hw : w.ok) : w.lines.length = w.below.length := by
  unfold Wb.lines
  rw [List.length_zipWith, hw.len, Nat.min_self]
theorem lines_get {w : Wb} {i : Nat} {l : Str} (h : w.lines[i]? = some l) : ∃ s r, w.atoms[i]? = some s ∧ w.below[i]? = some r ∧ l = lineS s r := by
  unfold Wb.lines at h
  rw [List.getElem?_zipWith] at h
  cases h1 : w.atoms[i]? with
  | none => rw [h1] at h; cases h
  | some s =>
    cases h2 : w.below[i]? with
    | none => rw [h1, h2] at h; cases h
    | some r =>
      rw [h1, h2] at h
      exact ⟨s, r, rfl, rfl, (Option.some.inj h).symm⟩
theorem text_split {w : Wb} (hw : w.ok) : Txt.split w.text "\n" = w.lines :=
  split_join (s := 10) (S := []) rfl (by decide +kernel) (fun e => hw.some_ (by
    have := lines_len hw
    rw [e] at this
    exact List.length_eq_zero_iff.mp this.symm)) fun p hp => by
    obtain ⟨i, hi⟩ := List.getElem?_of_mem hp
    obtain ⟨s, r, h1, h2, rfl⟩ := lines_get hi
    exact line_no (hw.lets s (List.mem_of_getElem? h1)).1
/-- lengths -/
theorem joinL_len (S : List Nat) : ∀ (ps : List (List Nat)) (n : Nat), (∀ p ∈ ps, p.length ≤ n) → (joinL S ps).length ≤ ps.length * (n + S.length)
  | [], n, _ => by simp [joinL]
  | [p], n, h => by
    have := h p (List.mem_singleton.mpr rfl)
    show p.length ≤ _
    simp
    omega
  | p :: q :: r, n, h => by
    have h1 := h p List.mem_cons_self
    have h2 := joinL_len S (q :: r) n fun z hz => h z (List.mem_cons_of_mem _ hz)
    show (p ++ (S ++ joinL S (q :: r))).length ≤ _
    rw [List.length_append, List.length_append]
    have e : (p :: q :: r).length * (n + S.length) = (q :: r).length * (n + S.length) + (n + S.length) := by
      rw [List.length_cons, Nat.add_mul, Nat.one_mul]
    rw [e]
    omega
theorem join_len {y : Str} {ps : List Str} {n : Nat} (h : ∀ p ∈ ps, p.length ≤ n) : (Txt.join y ps).length ≤ ps.length * (n + y.length) := by
  rw [str_lets, lets_join, str_lets]
  have := joinL_len (lets y) (ps.map lets) n fun p hp => by
    obtain ⟨q, hq, rfl⟩ := List.mem_map.mp hp
    rw [← str_lets]
    exact h q hq
  rw [List.length_map] at this
  exact this
theorem sum_len {ps : List Str} {n : Nat} (h : ∀ p ∈ ps, p.length ≤ n) : (ps.map (·.length)).sum ≤ ps.length * n := by
  induction ps with
  | nil => simp
  | cons p ps ih =>
    have h1 := h p List.mem_cons_self
    have h2 := ih fun z hz => h z (List.mem_cons_of_mem _ hz)
    rw [List.map_cons, List.sum_cons, List.length_cons, Nat.add_mul, Nat.one_mul]
    omega
theorem word_len {s : Str} (h : s.length ≤ 100) : (wordL s).length ≤ 100 := by
  unfold wordL
  split
  · decide
  · exact h
structure LineOk (s : Str) (r : List Nat) : Prop where
  lets : letters s
  asc : (N.lets s).Pairwise (· < ·)
  few : r.length ≤ 63
  low : ∀ k ∈ r, k < 63
theorem LineOk.len {s : Str} {r : List Nat} (h : LineOk s r) : s.length ≤ 100 := letters_len h.lets h.asc
theorem LineOk.part {s : Str} {r : List Nat} (h : LineOk s r) : ∀ p ∈ lineL s r, p.length ≤ 100 := fun p hp => by
  rcases List.mem_cons.mp hp with rfl | hp
  · exact word_len h.len
  · obtain ⟨n, hn, rfl⟩ := List.mem_map.mp hp
    have := (numS_len (n := n) (by have := h.low n hn; omega)).1
    omega
theorem LineOk.parts {s : Str} {r : List Nat} (h : LineOk s r) : (lineL s r).length ≤ 64 := by
  have := h.few
  simp [lineL]
  omega
theorem LineOk.lenS {s : Str} {r : List Nat} (h : LineOk s r) : (lineS s r).length ≤ 6464 := by
  have h1 := join_len (y := " ") h.part
  have h2 := Nat.mul_le_mul_right (100 + (" " : Str).length) h.parts
  exact Nat.le_trans h1 (Nat.le_trans h2 (by decide))
theorem LineOk.sum {s : Str} {r : List Nat} (h : LineOk s r) : ((lineL s r).map (·.length)).sum + (lineL s r).length * (" " : Str).length ≤ 16777216 := by
  have h1 := sum_len h.part
  have h2 := h.parts
  have h3 : (" " : Str).length = 1 := rfl
  rw [h3]
  have := Nat.mul_le_mul_right 100 h2
  omega
theorem Wb.ok.line {w : Wb} (hw : w.ok) {i : Nat} {s : Str} {r : List Nat} (h1 : w.atoms[i]? = some s) (h2 : w.below[i]? = some r) : LineOk s r where
  lets := (hw.lets s (List.mem_of_getElem? h1)).1
  asc := (hw.lets s (List.mem_of_getElem? h1)).2
  few := by
    obtain ⟨a, b⟩ := hw.rows.asc i r h2
    have h3 := low_len (a.imp fun h => Nat.ne_of_lt h) b
    have := hw.rows.few
    have := (List.getElem?_eq_some_iff.mp h2).1
    omega
  low := fun k hk => by
    have h3 := (hw.rows.asc i r h2).2 k hk
    have := hw.rows.few
    have := (List.getElem?_eq_some_iff.mp h2).1
    omega
theorem lines_each {w : Wb} (hw : w.ok) : ∀ p ∈ w.lines, p.length ≤ 6464 := fun p hp => by
  obtain ⟨i, hi⟩ := List.getElem?_of_mem hp
  obtain ⟨s, r, h1, h2, rfl⟩ := lines_get hi
  exact (hw.line h1 h2).lenS
theorem text_len {w : Wb} (hw : w.ok) : w.text.length ≤ 408000 := by
  have h1 := join_len (y := "\n") (lines_each hw)
  have h2 : w.lines.length ≤ 63 := by rw [lines_len hw]; exact hw.rows.few
  have h3 := Nat.mul_le_mul_right (6464 + ("\n" : Str).length) h2
  exact Nat.le_trans h1 (Nat.le_trans h3 (by decide))
theorem lines_sum {w : Wb} (hw : w.ok) : (w.lines.map (·.length)).sum + w.lines.length * ("\n" : Str).length ≤ 16777216 := by
  have h1 := sum_len (lines_each hw)
  have h2 : w.lines.length ≤ 63 := by rw [lines_len hw]; exact hw.rows.few
  have h3 : ("\n" : Str).length = 1 := rfl
  rw [h3]
  have := Nat.mul_le_mul_right 6464 h2
  omega
section
variable {F : FmKit} {T : Kx} {W : Om} {R : D → Om → Prop}
theorem ca_strN {n : Nat} (hn : n < 1000) (r : R (.str (numS n)) W) : Ca F T (fun xs H Q => ∃ i : Int, xs = [.int i] ∧ i.natAbs.log2 < 1920 ∧ Q (.str (toString i)) H) [natD n] W R := cl_sc (xs := [.int (n : Nat)]) fun H Q k => ⟨_, rfl, by
  have : ((n : Nat) : Int).natAbs = n := rfl
  rw [this]
  have : n.log2 < 10 := by
    rcases Nat.eq_zero_or_pos n with e | e
    · rw [e]
      decide
    · exact (Nat.log2_lt (by omega)).mpr (by omega)
  omega, k _ r⟩
end
def S_numin : FS := fun ds W post => ∃ n : Nat, ds = [.str (numS n)] ∧ W = [] ∧ n < 100 ∧ post (natD n) []
def S_pointsin : FS := fun ds W post => ∃ (i : Nat) (r : List Nat), ds = [.lst ((r.map numS).map .str), natD i] ∧ W = [] ∧ i ≤ 63 ∧ r.Pairwise (· < ·) ∧ (∀ k ∈ r, k < i) ∧ post (rowD r) []
def S_isword : FS := fun ds W post => ∃ s : Str, ds = [.str (wordL s)] ∧ W = [] ∧ letters s ∧ (lets s).Pairwise (· < ·) ∧ post (.bl true) []
def S_lineof : FS := fun ds W post => ∃ (s : Str) (r : List Nat), ds = [rowD r, .str s] ∧ W = [] ∧ LineOk s r ∧ post (.str (lineS s r)) []
def S_strW : FS := fun ds W post => ∃ w : Wb, ds = [w.d] ∧ W = [] ∧ w.ok ∧ post (.str w.text) []
def S_readW (c : Addr) : FS := fun ds W post => ∃ w : Wb, ds = [.adr c, .str w.text] ∧ W = [] ∧ w.ok ∧ post w.d []
def S_text13 : FS := fun ds W post => ∃ w : Wb, ds = [pairD w] ∧ W = [] ∧ w.ok ∧ post (.str w.text) []
theorem word_ne {s : Str} (h : letters s) (h2 : wordL s = "-") : s = "" := by
  unfold wordL at h2
  split at h2
  · assumption
  · rw [h2] at h
    have := h 45 (by show 45 ∈ [45]; simp)
    omega
end N
namespace N
open PySem
theorem word_ways (s : Str) : (s = "" ∧ wordL s = "-") ∨ (s ≠ "" ∧ wordL s = s) := by
  unfold wordL
  by_cases h : s = ""
  · exact .inl ⟨h, if_pos h⟩
  · exact .inr ⟨h, if_neg h⟩
end N
namespace N
open PySem PySem.Spec PyProof.Rows L2
section
variable {F : FmKit} {T : Kx} {G : Gm} {W : Om} {R : D → Om → Prop} {ta : TE}
theorem ev_isT (h : Ev F T ta G W fun d W1 => (∃ l, d = .tup l) ∧ R (.bl false) W1) : Ev F T (tIsN ta) G W R := ev_isN (h.imp fun d W1 ⟨⟨l, e⟩, r⟩ => ⟨false, fun H v k => by
  subst e
  obtain ⟨a, xs, rfl, _⟩ := k
  rfl, r⟩)
end
end N
namespace N
theorem at_hd {α : Type} {d : α} {l : List α} : L2.atI (d :: l) 0 = some d := by
  unfold L2.atI L2.ixN
  rw [if_pos (by omega), if_pos (by simp)]
  rfl
end N
namespace N
open PySem PySem.Spec PyProof.Rows L2
theorem pools13 : ∀ z ∈ [D.vl (.str "ab"), D.vl (.str ""), D.vl (.str "aPQzZ"), D.vl (.str "ABCDEFGHIJKLMNOPQRSTUVWXYZabcdefghijklmnopqrstuvwxyz")], ∃ p : Str, z = .str p ∧ letters p ∧ (lets p).Nodup := fun z hz => by
  simp only [List.mem_cons, List.not_mem_nil, or_false] at hz
  rcases hz with e | e | e | e
  · exact ⟨_, e, by unfold letters; decide +kernel, by decide +kernel⟩
  · exact ⟨_, e, by unfold letters; decide +kernel, by decide +kernel⟩
  · exact ⟨_, e, by unfold letters; decide +kernel, by decide +kernel⟩
  · exact ⟨_, e, by unfold letters; decide +kernel, by decide +kernel⟩
theorem many13 : ∀ z ∈ [D.int 3, D.int 6, D.int 9, D.int 12, D.int 30], ∃ n : Nat, z = natD n ∧ 0 < n ∧ n ≤ 30 := fun z hz => by
  simp only [List.mem_cons, List.not_mem_nil, or_false] at hz
  rcases hz with e | e | e | e | e
  · exact ⟨3, e, by omega, by omega⟩
  · exact ⟨6, e, by omega, by omega⟩
  · exact ⟨9, e, by omega, by omega⟩
  · exact ⟨12, e, by omega, by omega⟩
  · exact ⟨30, e, by omega, by omega⟩
theorem low_line {s : Str} {r : List Nat} (h : LineOk s r) : ∀ c ∈ lets (lineS s r), c < 200 := fun c hc => by
  unfold lineS at hc
  rw [lets_join] at hc
  rcases joinL_mem hc with hc | ⟨p, hp, hc⟩
  · have hc : c ∈ [32] := hc
    simp at hc
    omega
  · obtain ⟨q, hq, rfl⟩ := List.mem_map.mp hp
    rcases List.mem_cons.mp hq with rfl | hq
    · unfold wordL at hc
      split at hc
      · have hc : c ∈ [45] := hc
        simp at hc
        omega
      · have := h.lets c hc
        omega
    · obtain ⟨n, _, rfl⟩ := List.mem_map.mp hq
      have := numS_dig hc
      omega
theorem text_low {w : Wb} (hw : w.ok) : ∀ c ∈ lets w.text, c < 200 := fun c hc => by
  unfold Wb.text at hc
  rw [lets_join] at hc
  rcases joinL_mem hc with hc | ⟨p, hp, hc⟩
  · have hc : c ∈ [10] := hc
    simp at hc
    omega
  · obtain ⟨q, hq, rfl⟩ := List.mem_map.mp hp
    obtain ⟨i, hi⟩ := List.getElem?_of_mem hq
    obtain ⟨s, r, h1, h2, rfl⟩ := lines_get hi
    exact low_line (hw.line h1 h2) c hc
theorem strOk_low {s : Str} (h : ∀ c ∈ lets s, c < 200) : PyData.strOk s = true := by
  unfold PyData.strOk
  simp only [Array.all_eq_true, decide_eq_true_eq]
  intro i hi
  have := h s.cps[i] (by simp [lets])
  omega
theorem shaped_texts {l : List Str} (h : ∀ s ∈ l, ∀ c ∈ lets s, c < 200) : SeqAt.shaped (.list (l.map .str)) = true := by
  unfold SeqAt.shaped
  have e : PyData.depthAll (l.map .str) = 0 := by
    clear h
    induction l with
    | nil => rfl
    | cons n ns ih =>
      rw [List.map_cons, PyData.depthAll, ih]
      rfl
  rw [Bool.and_eq_true, decide_eq_true_eq, PyData.canLay0, PyData.depth, e]
  refine ⟨canLay_allD fun d hd => ?_, by decide⟩
  obtain ⟨s, hs, rfl⟩ := List.mem_map.mp hd
  rw [PyData.canLay0]
  exact strOk_low (h s hs)
theorem vp_texts {W : Om} (l : List Str) : Vp W (.lst (l.map D.str)) (.list (l.map .str)) := .inl (pd_lst (pdL_strs l))
theorem eqv_texts {l : List Str} (h : ∀ s ∈ l, ∀ c ∈ lets s, c < 200) : PyData.eqv (.list (l.map .str)) (.list (l.map .str)) = true := SeqAt.eqv_refl _ (SeqAt.canLay_of_shaped (shaped_texts h))
end N
namespace N
open PySem PySem.Spec PyProof.Rows L2
def fork13 : Wb := ⟨[[], [], [0, 1]], ["", "ab", "Z"]⟩
theorem fork13_ok : fork13.ok where
  rows := { asc := fun i r h => by
              unfold fork13 at h
              rcases i with _ | _ | _ | i <;> simp at h <;> subst h <;> simp
            few := by decide }
  some_ := by simp [fork13]
  len := rfl
  lets := fun s hs => by
    simp only [fork13, List.mem_cons, List.not_mem_nil, or_false] at hs
    rcases hs with rfl | rfl | rfl
    · exact ⟨by unfold letters; decide +kernel, by decide +kernel⟩
    · exact ⟨by unfold letters; decide +kernel, by decide +kernel⟩
    · exact ⟨by unfold letters; decide +kernel, by decide +kernel⟩
theorem fork13_text : decide (fork13.text = "-\nab\nZ 0 1") = true := by decide +kernel
end N
set_option Elab.async false
set_option linter.all false
set_option maxRecDepth 100000
set_option maxHeartbeats 1000000
/-! Texts of formulas: what the law builds. -/
namespace N
open PySem PySem.Spec PyProof.Rows L2
theorem tx_low : ∀ {f : Fm}, f.okL → ∀ c ∈ tx f, c < 200
  | .at q, h, c, hc => by
    have hc : c ∈ [q] := hc
    have h : (65 ≤ q ∧ q ≤ 90) ∨ (97 ≤ q ∧ q ≤ 122) := h
    simp at hc
    omega
  | .no, _, c, hc => by
    have hc : c ∈ [110, 111] := hc
    simp at hc
    omega
  | .imp a b, h, c, hc => by
    rw [tx_imp] at hc
    simp only [List.mem_cons, List.mem_append, List.not_mem_nil, or_false] at hc
    rcases hc with e | e | e | e | e | e | e
    · omega
    · exact tx_low h.1 c e
    · omega
    · omega
    · omega
    · exact tx_low h.2 c e
    · omega
  | .all a, h, c, hc => by
    rw [tx_all] at hc
    simp only [List.mem_cons] at hc
    rcases hc with e | e | e | e | e
    · omega
    · omega
    · omega
    · omega
    · exact tx_low (f := a) h c e
/-- a formula and all within it -/
def Fm.wi : Fm → List Fm
  | .at c => [.at c]
  | .no => [.no]
  | .imp a b => .imp a b :: (a.wi ++ b.wi)
  | .all a => .all a :: a.wi
theorem wi_sz : ∀ f : Fm, f.wi.length ≤ f.sz
  | .at _ => by simp [Fm.wi, Fm.sz]
  | .no => by simp [Fm.wi, Fm.sz]
  | .imp a b => by
    have := wi_sz a
    have := wi_sz b
    simp only [Fm.wi, Fm.sz, List.length_cons, List.length_append]
    omega
  | .all a => by
    have := wi_sz a
    simp only [Fm.wi, Fm.sz, List.length_cons]
    omega
theorem wi_ok : ∀ {f g : Fm}, f.okF → g ∈ f.wi → g.okF ∧ g.ht ≤ f.ht
  | .at c, g, hf, h => by
    have h : g ∈ [Fm.at c] := h
    rw [List.mem_singleton] at h
    subst h
    exact ⟨hf, Nat.le_refl _⟩
  | .no, g, hf, h => by
    have h : g ∈ [Fm.no] := h
    rw [List.mem_singleton] at h
    subst h
    exact ⟨hf, Nat.le_refl _⟩
  | .imp a b, g, hf, h => by
    simp only [Fm.wi, List.mem_cons, List.mem_append] at h
    rcases h with rfl | h | h
    · exact ⟨hf, Nat.le_refl _⟩
    · obtain ⟨h1, h2⟩ := wi_ok hf.l h
      exact ⟨h1, by simp only [Fm.ht]; omega⟩
    · obtain ⟨h1, h2⟩ := wi_ok hf.r h
      exact ⟨h1, by simp only [Fm.ht]; omega⟩
  | .all a, g, hf, h => by
    simp only [Fm.wi, List.mem_cons] at h
    rcases h with rfl | h
    · exact ⟨hf, Nat.le_refl _⟩
    · obtain ⟨h1, h2⟩ := wi_ok hf.a h
      exact ⟨h1, by simp only [Fm.ht]; omega⟩
def S_eqF : FS := fun ds W post => ∃ f g : Fm, ds = [.fm f, .fm g] ∧ W = [] ∧ post (.bl (decide (f.spell = g.spell))) []
def S_isof4 (j : Nat) : FS := fun ds W post => ∃ f : Fm, ds = [.fm f, f.tr] ∧ W = [] ∧ f.ht < j ∧ post (.bl true) []
def S_within4 (j : Nat) : FS := fun ds W post => ∃ f : Fm, ds = [f.tr] ∧ W = [] ∧ f.ht < j ∧ f.sz ≤ 1000000 ∧ post (.lst (f.wi.map Fm.tr)) []
def S_right4 : FS := fun ds W post => ∃ f : Fm, ds = [f.tr] ∧ W = [] ∧ f.okF ∧ f.ht < 60 ∧ post (.bl true) []
theorem pools4 : ∀ z ∈ [D.vl (.str "a"), D.vl (.str "ab"), D.vl (.str "anol"), D.vl (.str "nNoOlLaA"), D.vl (.str "azAZ"), D.vl (.str "abPQ")], ∃ p : Str, z = .str p ∧ letters p ∧ p.length ≠ 0 ∧ p.length ≤ 1000 := fun z hz => by
  simp only [List.mem_cons, List.not_mem_nil, or_false] at hz
  rcases hz with e | e | e | e | e | e
  · exact ⟨_, e, by unfold letters; decide +kernel, by decide +kernel, by decide +kernel⟩
  · exact ⟨_, e, by unfold letters; decide +kernel, by decide +kernel, by decide +kernel⟩
  · exact ⟨_, e, by unfold letters; decide +kernel, by decide +kernel, by decide +kernel⟩
  · exact ⟨_, e, by unfold letters; decide +kernel, by decide +kernel, by decide +kernel⟩
  · exact ⟨_, e, by unfold letters; decide +kernel, by decide +kernel, by decide +kernel⟩
  · exact ⟨_, e, by unfold letters; decide +kernel, by decide +kernel, by decide +kernel⟩
/-- doubled again and again -/
def dbl : Nat → Fm
  | 0 => .all (.at 97)
  | n + 1 => .imp (dbl n) (dbl n)
theorem dbl_ok : ∀ n, (dbl n).okL ∧ (dbl n).ht = n + 1 ∧ (dbl n).alls = [.all (.at 97)]
  | 0 => ⟨.inr ⟨by decide, by decide⟩, rfl, rfl⟩
  | n + 1 => by
    obtain ⟨h1, h2, h3⟩ := dbl_ok n
    refine ⟨⟨h1, h1⟩, by simp only [dbl, Fm.ht]; omega, ?_⟩
    show Fm.merge (dbl n).alls (dbl n).alls = _
    rw [h3]
    simp [Fm.merge, Fm.ins]
theorem dbl_okF {n : Nat} (h : n ≤ 7) : (dbl n).okF := by
  obtain ⟨h1, h2, h3⟩ := dbl_ok n
  refine ⟨h1, ?_, by rw [h3]; decide⟩
  have h4 := Fm.sz_ht (dbl n)
  have h5 : 2 ^ (dbl n).ht ≤ 2 ^ 12 := Nat.pow_le_pow_right (by omega) (by omega)
  have e : (2 : Nat) ^ 12 = 4096 := by decide
  omega
theorem fold_app {a : Array Nat} : ∀ (n : Nat) (acc : Array Nat), ((List.replicate n a).foldl (· ++ ·) acc).toList = acc.toList ++ (List.replicate n a.toList).flatten
  | 0, acc => by simp
  | n + 1, acc => by
    rw [List.replicate_succ, List.foldl_cons, fold_app n, List.replicate_succ, List.flatten_cons, Array.toList_append, List.append_assoc]
theorem mul_lets {x : Str} {n : Nat} (h : 2 ≤ n) (hx : (x.length == 0) = false) : lets (Txt.mul x ((n : Nat) : Int)) = (List.replicate n (lets x)).flatten := by
  unfold Txt.mul
  rw [if_neg (by omega), if_neg (by
    rw [hx, Bool.or_false, beq_iff_eq]
    omega)]
  show ((List.replicate ((n : Nat) : Int).toNat x.cps).foldl (· ++ ·) #[]).toList = _
  rw [fold_app, Int.toNat_natCast]
  rfl
theorem tx_twr : ∀ n, tx (twr n) = (List.replicate n [97, 108, 108, 32]).flatten ++ [110, 111]
  | 0 => rfl
  | n + 1 => by
    rw [show twr (n + 1) = Fm.all (twr n) from rfl, tx_all, tx_twr n, List.replicate_succ, List.flatten_cons]
    rfl
theorem twr_mul {n : Nat} (h : 2 ≤ n) : (twr n).spell = Txt.mul "all " ((n : Nat) : Int) ++ "no" := by
  refine str_ext ?_
  show tx (twr n) = lets (Txt.mul "all " ((n : Nat) : Int) ++ "no")
  rw [tx_twr]
  rw [show lets (Txt.mul "all " ((n : Nat) : Int) ++ "no") = lets (Txt.mul "all " ((n : Nat) : Int)) ++ lets ("no" : Str) from TL.tl_append _ _, mul_lets h rfl, show lets ("all " : Str) = [97, 108, 108, 32] from rfl, show lets ("no" : Str) = [110, 111] from rfl]
theorem twr_deep : ∀ n, (twr n).deep = n
  | 0 => rfl
  | n + 1 => by
    have := twr_deep n
    simp only [twr, Fm.deep]
    omega
theorem twr60_deep : decide ((((twr 60).deep : Nat) : Int) = 60) = true := decide_eq_true (by rw [twr_deep]; rfl)
theorem twr60 : (twr 60).spell = Txt.mul "all " ((60 : Nat) : Int) ++ "no" := twr_mul (by omega)
theorem twr60_len : (Txt.mul "all " ((60 : Nat) : Int)).length + ("no" : Str).length ≤ 242 := by
  have h1 := congrArg (fun z : Str => z.length) twr60
  have h2 := spell_len (twr 60)
  rw [(twr_ok 60).2.2.1] at h2
  have h3 : (Txt.mul "all " ((60 : Nat) : Int) ++ ("no" : Str)).length = (Txt.mul "all " ((60 : Nat) : Int)).length + ("no" : Str).length := str_app_len _ _
  omega
theorem cut12_mem {l : List D} {d : D} (h : d ∈ cutD l none (some 12)) : d ∈ l := by
  unfold cutD at h
  exact List.mem_of_mem_drop (List.mem_of_mem_take h)
end N
set_option Elab.async false
set_option linter.all false
set_option maxRecDepth 100000
set_option maxHeartbeats 1000000
/-! Law k05: texts with something otherwise. -/
namespace N
open PySem PySem.Spec PyProof.Rows L2
open TL (joinL tl_join join_eq)
/-- a text of small signs, so long, with so many l -/
structure txT (n c : Nat) (s : Str) : Prop where
  lo : ∀ x ∈ lets s, x < 200
  len : s.length ≤ n
  cl : cl (lets s) ≤ c
theorem txT.up {n c m d : Nat} {s : Str} (h : txT n c s) (h1 : n ≤ m) (h2 : c ≤ d) : txT m d s := ⟨h.lo, Nat.le_trans h.len h1, Nat.le_trans h.cl h2⟩
theorem txT.app {n c m d : Nat} {s t : Str} (h : txT n c s) (k : txT m d t) : txT (n + m) (c + d) (s ++ t) := by
  refine ⟨fun x hx => ?_, ?_, ?_⟩
  · rw [show lets (s ++ t) = lets s ++ lets t from TL.tl_append _ _] at hx
    exact (List.mem_append.mp hx).elim (h.lo x) (k.lo x)
  · rw [str_app_len]
    have := h.len
    have := k.len
    omega
  · rw [show lets (s ++ t) = lets s ++ lets t from TL.tl_append _ _, cl_app]
    have := h.cl
    have := k.cl
    omega
theorem cut_sub (s : Str) (lo hi : Option Int) : (lets (cutS s lo hi)).Sublist (lets s) := by
  unfold cutS
  exact (List.take_sublist _ _).trans (List.drop_sublist _ _)
theorem txT.cut {n c : Nat} {s : Str} (h : txT n c s) (lo hi : Option Int) : txT n c (cutS s lo hi) := by
  have hs := cut_sub s lo hi
  refine ⟨fun x hx => h.lo x (hs.subset hx), ?_, Nat.le_trans (hs.count_le _) h.cl⟩
  rw [str_len]
  refine Nat.le_trans hs.length_le ?_
  rw [← str_len]
  exact h.len
def okB (n c : Nat) (s : Str) : Bool := (lets s).all (fun x => decide (x < 200)) && decide (s.length ≤ n) && decide (cl (lets s) ≤ c)
theorem okB_ok {n c : Nat} {s : Str} (h : okB n c s = true) : txT n c s := by
  unfold okB at h
  simp only [Bool.and_eq_true, List.all_eq_true, decide_eq_true_eq] at h
  exact ⟨h.1.1, h.1.2, h.2⟩
theorem okB_mem {n c : Nat} {L : List Str} (h : L.all (okB n c) = true) : ∀ s ∈ L, txT n c s := fun s hs => okB_ok (List.all_eq_true.mp h s hs)
theorem txT.sg {c : Nat} (h : c < 200) : txT 1 1 (sg c) := ⟨fun x hx => by
  have hx : x ∈ [c] := hx
  rw [List.mem_singleton] at hx
  omega, Nat.le_refl _, by show [c].count 108 ≤ 1; exact Nat.le_trans (List.count_le_length) (Nat.le_refl 1)⟩
theorem cl_joinL {k : Nat} : ∀ (ps : List (List Nat)), (∀ p ∈ ps, cl p ≤ k) → cl (joinL [] ps) ≤ ps.length * k
  | [], _ => by simp [joinL, cl]
  | [p], h => by
    have := h p (List.mem_singleton.mpr rfl)
    show cl p ≤ _
    simp
    exact this
  | p :: q :: r, h => by
    have h1 := h p List.mem_cons_self
    have h2 := cl_joinL (q :: r) fun z hz => h z (List.mem_cons_of_mem _ hz)
    show cl (p ++ ([] ++ joinL [] (q :: r))) ≤ _
    rw [List.nil_append, cl_app]
    have e : (p :: q :: r).length * k = (q :: r).length * k + k := by
      rw [List.length_cons, Nat.add_mul, Nat.one_mul]
    rw [e]
    omega
theorem txT.join {n c : Nat} {ps : List Str} (h : ∀ p ∈ ps, txT n c p) : txT (ps.length * n) (ps.length * c) (Txt.join "" ps) := by
  refine ⟨fun x hx => ?_, ?_, ?_⟩
  · rw [lets_join] at hx
    rcases joinL_mem hx with hx | ⟨p, hp, hx⟩
    · cases hx
    · obtain ⟨q, hq, rfl⟩ := List.mem_map.mp hp
      exact (h q hq).lo x hx
  · exact join_len (y := "") fun p hp => (h p hp).len
  · rw [lets_join]
    have := cl_joinL (k := c) (ps.map lets) fun p hp => by
      obtain ⟨q, hq, rfl⟩ := List.mem_map.mp hp
      exact (h q hq).cl
    rw [List.length_map] at this
    exact this
theorem txT.rd {n c : Nat} {s : Str} (h : txT n c s) (hn : n ≤ 1000000) (hc : c < 128) : rdOk s := ⟨Nat.le_trans h.len hn, .inl (Nat.lt_of_le_of_lt h.cl hc)⟩
/-! ### formulas' texts -/
theorem cl_ht : ∀ f : Fm, 2 * cl (tx f) ≤ 3 * 2 ^ f.ht
  | .at c => by
    have : cl (tx (.at c)) ≤ 1 := Nat.le_trans (List.count_le_length) (Nat.le_refl 1)
    show 2 * _ ≤ 3 * 2 ^ 0
    omega
  | .no => by
    show 2 * 0 ≤ _
    omega
  | .imp a b => by
    have h1 := cl_ht a
    have h2 := cl_ht b
    have e : cl (tx (.imp a b)) = cl (tx a) + cl (tx b) := by
      rw [tx_imp]
      simp only [cl, List.count_cons, List.count_append, List.count_nil]
      simp
    have h3 : 2 ^ a.ht ≤ 2 ^ max a.ht b.ht := Nat.pow_le_pow_right (by omega) (Nat.le_max_left _ _)
    have h4 : 2 ^ b.ht ≤ 2 ^ max a.ht b.ht := Nat.pow_le_pow_right (by omega) (Nat.le_max_right _ _)
    have h5 : 2 ^ (Fm.imp a b).ht = 2 * 2 ^ max a.ht b.ht := by
      simp only [Fm.ht]
      rw [Nat.pow_add, Nat.pow_one]
    rw [e, h5]
    omega
  | .all a => by
    have h1 := cl_ht a
    have e : cl (tx (.all a)) = cl (tx a) + 2 := by
      rw [tx_all]
      simp only [cl, List.count_cons]
      simp
    have h5 : 2 ^ (Fm.all a).ht = 2 * 2 ^ a.ht := by
      simp only [Fm.ht]
      rw [Nat.pow_add, Nat.pow_one]
    have h6 : 1 ≤ 2 ^ a.ht := Nat.one_le_two_pow
    rw [e, h5]
    omega
theorem sz_ht : ∀ f : Fm, f.sz + 5 ≤ 7 * 2 ^ f.ht
  | .at c => by show 1 + 5 ≤ 7 * 1; omega
  | .no => by show 2 + 5 ≤ 7 * 1; omega
  | .imp a b => by
    have h1 := sz_ht a
    have h2 := sz_ht b
    have h3 : 2 ^ a.ht ≤ 2 ^ max a.ht b.ht := Nat.pow_le_pow_right (by omega) (Nat.le_max_left _ _)
    have h4 : 2 ^ b.ht ≤ 2 ^ max a.ht b.ht := Nat.pow_le_pow_right (by omega) (Nat.le_max_right _ _)
    have h5 : 2 ^ (Fm.imp a b).ht = 2 * 2 ^ max a.ht b.ht := by
      simp only [Fm.ht]
      rw [Nat.pow_add, Nat.pow_one]
    have e : (Fm.imp a b).sz = 5 + a.sz + b.sz := rfl
    rw [e, h5]
    omega
  | .all a => by
    have h1 := sz_ht a
    have h5 : 2 ^ (Fm.all a).ht = 2 * 2 ^ a.ht := by
      simp only [Fm.ht]
      rw [Nat.pow_add, Nat.pow_one]
    have h6 : 1 ≤ 2 ^ a.ht := Nat.one_le_two_pow
    have e : (Fm.all a).sz = 4 + a.sz := rfl
    rw [e, h5]
    omega
theorem txT_fm {f : Fm} (h : f.okL) (hh : f.ht ≤ 4) : txT 107 24 f.spell := by
  have h1 := cl_ht f
  have h2 := sz_ht f
  have h3 : 2 ^ f.ht ≤ 2 ^ 4 := Nat.pow_le_pow_right (by omega) hh
  have h4 : (2 : Nat) ^ 4 = 16 := rfl
  have h5 := spell_len f
  exact ⟨tx_low h, by omega, by show cl (tx f) ≤ 24; omega⟩
/-! ### what is heard -/
def hw : D → Str × V
  | .vl (.str s) => if rdOf s = ([], true) then ("read", .str s) else ("bad", .int ((s.length - (rdOf s).1.length : Nat) : Int))
  | _ => ("bad", .int (-1))
def heardD (v : D) : D := .lst [.str (hw v).1, .vl (hw v).2]
def vP : V → PyData
  | .str s => .str s
  | .int i => .int i
  | _ => .none
def heardP (v : D) : PyData := .list [.str (hw v).1, vP (hw v).2]
def okV5 (v : D) : Prop := (∃ s : Str, v = .str s ∧ rdOk s ∧ (∀ x ∈ lets s, x < 200) ∧ s.length ≤ 10000) ∨ notStr v
theorem hw_not {v : D} (h : notStr v) : hw v = (("bad" : Str), V.int (-1)) := by cases h <;> rfl
theorem hw_str (s : Str) : hw (.str s) = if rdOf s = ([], true) then (("read" : Str), V.str s) else (("bad" : Str), V.int ((s.length - (rdOf s).1.length : Nat) : Int)) := rfl
theorem hw_cases {v : D} (h : okV5 v) : ((hw v).1 = "read" ∧ ∃ s : Str, (hw v).2 = .str s ∧ (∀ x ∈ lets s, x < 200) ∧ s.length ≤ 10000) ∨ ((hw v).1 = "bad" ∧ ∃ i : Int, (hw v).2 = .int i ∧ i.natAbs ≤ 10000) := by
  rcases h with ⟨s, rfl, _, h1, h2⟩ | h
  · rw [hw_str]
    by_cases e : rdOf s = ([], true)
    · rw [if_pos e]
      exact .inl ⟨rfl, s, rfl, h1, h2⟩
    · rw [if_neg e]
      exact .inr ⟨rfl, _, rfl, by omega⟩
  · rw [hw_not h]
    exact .inr ⟨rfl, _, rfl, by decide⟩
theorem heard_pd {v : D} (h : okV5 v) : (heardD v).pd = some (heardP v) := by
  unfold heardD heardP
  rcases hw_cases h with ⟨e, s, e2, _⟩ | ⟨e, s, e2, _⟩ <;> rw [e, e2] <;> rfl
theorem heard_ok {v : D} (h : okV5 v) : Ok1 1 20011 (heardP v) := by
  unfold heardP
  rcases hw_cases h with ⟨e, s, e2, h1, h2⟩ | ⟨e, i, e2, h1⟩
  · rw [e, e2]
    exact (ok_lst (k := 0) (n := 10004) (l := [.str "read", .str s]) fun d hd => by
      simp only [List.mem_cons, List.not_mem_nil, or_false] at hd
      rcases hd with rfl | rfl
      · exact (ok_str (x := "read") (by decide +kernel)).up (Nat.le_refl _) (by decide)
      · exact (ok_str fun c hc => Nat.lt_trans (h1 c hc) (by decide)).up (Nat.le_refl _) (by omega)).up (Nat.le_refl _) (by show 2 * (10004 + 1) + 1 ≤ _; omega)
  · rw [e, e2]
    exact (ok_lst (k := 0) (n := 10004) (l := [.str "bad", .int i]) fun d hd => by
      simp only [List.mem_cons, List.not_mem_nil, or_false] at hd
      rcases hd with rfl | rfl
      · exact (ok_str (x := "bad") (by decide +kernel)).up (Nat.le_refl _) (by decide)
      · exact (ok_intL (by omega)).up (Nat.le_refl _) (by omega)).up (Nat.le_refl _) (by show 2 * (10004 + 1) + 1 ≤ _; omega)
def dueP5 (v : D) : PyData := .list [heardP v, heardP v]
theorem due5_pd {v : D} (h : okV5 v) : (D.lst [heardD v, heardD v]).pd = some (dueP5 v) := pd_lst (pdL_cons (heard_pd h) (pdL_cons (heard_pd h) rfl))
theorem due5_shw {v : D} (h : okV5 v) : Shw (dueP5 v) := (ok_lst (k := 1) (n := 20011) (l := [heardP v, heardP v]) fun d hd => by
  simp only [List.mem_cons, List.not_mem_nil, or_false, or_self] at hd
  rw [hd]
  exact heard_ok h).shwB (by decide) (by show 2 * (20011 + 1) + 1 ≤ _; omega)
theorem place_read {s : Str} : placeOf s = -1 ↔ rdOf s = ([], true) := by
  unfold placeOf
  constructor
  · intro h
    split at h
    · next e => exact Prod.ext e.2 e.1
    · omega
  · intro h
    rw [h, if_pos ⟨rfl, rfl⟩]
theorem place_bad {s : Str} (h : ¬ rdOf s = ([], true)) : placeOf s = ((s.length - (rdOf s).1.length : Nat) : Int) := by
  unfold placeOf
  rw [if_neg fun e => h (Prod.ext e.2 e.1)]
theorem sg_form {c : Nat} : (!decide (sg c = ("formula" : Str))) = true := by
  rw [Bool.not_eq_true', decide_eq_false_iff_not]
  intro e
  have := congrArg Str.length e
  rw [show (sg c).length = 1 from rfl, show ("formula" : Str).length = 7 from rfl] at this
  omega
theorem nil_sg {c : Nat} : (!decide (("" : Str) = sg c)) = true := by
  rw [Bool.not_eq_true', decide_eq_false_iff_not]
  intro e
  have := congrArg Str.length e
  rw [show (sg c).length = 1 from rfl, show ("" : Str).length = 0 from rfl] at this
  omega
theorem sg_nil {c : Nat} : (!decide (sg c = ("" : Str))) = true := by
  rw [Bool.not_eq_true', decide_eq_false_iff_not]
  intro e
  have := congrArg Str.length e
  rw [show (sg c).length = 1 from rfl, show ("" : Str).length = 0 from rfl] at this
  omega
/-! ### the law's reader -/
def tokD : Tok → D
  | .form => .str "formula"
  | .sg c => .str (sg c)
def wantD (S : List Tok) : List D := (S.map tokD).reverse
theorem wantD_cons (x : Tok) (S : List Tok) : wantD (x :: S) = wantD S ++ [tokD x] := by simp [wantD]
theorem isL_up {c : Nat} : (c ∈ lets ("abcdefghijklmnopqrstuvwxyz" : Str) ∨ c ∈ lets (Txt.upper "abcdefghijklmnopqrstuvwxyz")) ↔ isL c := by
  have e1 : lets ("abcdefghijklmnopqrstuvwxyz" : Str) = [97, 98, 99, 100, 101, 102, 103, 104, 105, 106, 107, 108, 109, 110, 111, 112, 113, 114, 115, 116, 117, 118, 119, 120, 121, 122] := rfl
  have e2 : lets (Txt.upper "abcdefghijklmnopqrstuvwxyz") = [65, 66, 67, 68, 69, 70, 71, 72, 73, 74, 75, 76, 77, 78, 79, 80, 81, 82, 83, 84, 85, 86, 87, 88, 89, 90] := by decide +kernel
  rw [e1, e2]
  simp only [List.mem_cons, List.not_mem_nil, or_false, isL]
  omega
theorem ev_upper {F : FmKit} {T : Kx} {G : Gm} {W : Om} {R : D → Om → Prop} {to : TE} (h : Ev F T to G W fun d W1 => ∃ a : Str, d = .str a ∧ a.length ≤ 5592405 ∧ R (.str (Txt.upper a)) W1) :
    Ev F T (tM0 (fun x xs H Q => ∃ a, x = .str a ∧ xs = [] ∧ a.length ≤ 5592405 ∧ Q (.str (Txt.upper a)) H) to) G W R := fun C H O σ w Q q =>
  h C H O σ w _ fun d W1 H1 O1 x ⟨a, ea, hl, r⟩ n1 k1 => by
    subst ea
    have k1 : x = .str a := k1
    exact ⟨⟨a, k1⟩, a, k1, rfl, hl, q _ W1 H1 O1 _ r n1 rfl⟩
theorem take2_eq {x u v : Nat} {r : List Nat} (h : ¬ (x = u ∧ r.head? = some v)) : (⟨((x :: r).take 2).toArray⟩ : Str) ≠ ⟨#[u, v]⟩ := fun e => h (by
  have e : (x :: r).take 2 = [u, v] := congrArg (fun z : Str => z.cps.toList) e
  cases r with
  | nil => simp at e
  | cons y r =>
    simp at e
    exact ⟨e.1, by rw [e.2]; rfl⟩)
theorem sum_le {n : Nat} : ∀ {ys : List Str}, (∀ y ∈ ys, y.length ≤ n) → (ys.map (·.length)).sum ≤ ys.length * n
  | [], _ => by simp
  | y :: ys, h => by
    have h1 := h y List.mem_cons_self
    have h2 := sum_le (ys := ys) fun z hz => h z (List.mem_cons_of_mem _ hz)
    rw [List.map_cons, List.sum_cons, List.length_cons, Nat.add_mul, Nat.one_mul]
    omega
/-! ### promises -/
def S_lread : FS := fun ds W post => ∃ s : Str, ds = [.str s] ∧ W = [] ∧ s.length ≤ 1000000 ∧ post (.int (placeOf s)) []
def S_bent5 : FS := fun ds W post => ∃ (a : Addr) (c : Int) (s : Str) (m k : Nat), ds = [.adr a, .str s] ∧ DkA a c W ∧ c < 2 ^ 59 ∧ txT m k s ∧ m ≤ 10000 ∧ ∀ (r : Str) (W' : Om), txT (2 * m + 40) (max (2 * k + 2) 16) r → DkA a (c + 20) W' → post (.str r) W'
def S_heard5 : FS := fun ds W post => ∃ (v : D) (b : Bool), ds = [v, .bl b] ∧ W = [] ∧ okV5 v ∧ post (heardD v) []
def S_right5 : FS := fun ds W post => ∃ v : D, ds = [v] ∧ W = [] ∧ okV5 v ∧ post (.bl true) []
theorem txT.v5 {n c : Nat} {s : Str} (h : txT n c s) (hn : n ≤ 10000) (hc : c < 128) : okV5 (.str s) := .inl ⟨s, rfl, h.rd (by omega) hc, h.lo, Nat.le_trans h.len hn⟩
theorem txT_mul {x : Str} {n m c : Nat} (h : txT m c x) (hn : 2 ≤ n) (hx : (x.length == 0) = false) : txT (n * m) (n * c) (Txt.mul x ((n : Nat) : Int)) := by
  have e := mul_lets (x := x) hn hx
  have g : ∀ n, ((List.replicate n (lets x)).flatten).length ≤ n * m ∧ cl ((List.replicate n (lets x)).flatten) ≤ n * c := by
    intro n
    induction n with
    | zero => simp [cl]
    | succ n ih =>
      rw [List.replicate_succ, List.flatten_cons, List.length_append, cl_app, Nat.add_mul, Nat.add_mul, Nat.one_mul, Nat.one_mul]
      have h1 := h.len
      have h2 := h.cl
      rw [str_len] at h1
      have h1 : (lets x).length ≤ m := h1
      omega
  refine ⟨fun y hy => ?_, ?_, ?_⟩
  · rw [e] at hy
    obtain ⟨l, hl, hy⟩ := List.mem_flatten.mp hy
    rw [List.eq_of_mem_replicate hl] at hy
    exact h.lo y hy
  · rw [str_len]
    show (lets _).length ≤ _
    rw [e]
    exact (g n).1
  · rw [e]
    exact (g n).2
theorem alls500 : lets (Txt.mul "all " ((500 : Nat) : Int)) = alls4 500 := by
  rw [mul_lets (by omega) rfl]
  have g : ∀ n, (List.replicate n (lets ("all " : Str))).flatten = alls4 n := by
    intro n
    induction n with
    | zero => rfl
    | succ n ih => rw [List.replicate_succ, List.flatten_cons, ih]; rfl
  exact g 500
theorem v5_alls : okV5 (.str (Txt.mul "all " ((500 : Nat) : Int))) := by
  have h := txT_mul (n := 500) (okB_ok (n := 4) (c := 2) (s := "all ") (by decide +kernel)) (by omega) rfl
  exact .inl ⟨_, rfl, ⟨Nat.le_trans h.len (by omega), .inr ⟨500, by omega, alls500⟩⟩, h.lo, Nat.le_trans h.len (by omega)⟩
theorem pools5 : ∀ z ∈ [D.vl (.str "a"), D.vl (.str "anol"), D.vl (.str "nNoOlLaA"), D.vl (.str "abPQ")], ∃ p : Str, z = .str p ∧ letters p ∧ p.length ≠ 0 ∧ p.length ≤ 1000 := fun z hz => by
  simp only [List.mem_cons, List.not_mem_nil, or_false] at hz
  rcases hz with e | e | e | e
  · exact ⟨_, e, by unfold letters; decide +kernel, by decide +kernel, by decide +kernel⟩
  · exact ⟨_, e, by unfold letters; decide +kernel, by decide +kernel, by decide +kernel⟩
  · exact ⟨_, e, by unfold letters; decide +kernel, by decide +kernel, by decide +kernel⟩
  · exact ⟨_, e, by unfold letters; decide +kernel, by decide +kernel, by decide +kernel⟩
/-- the list of the law's own texts, that are heard right -/
def v5L (l : List D) : Prop := ∀ d ∈ l, okV5 d
theorem v5L_app {l m : List D} (h : v5L l) (k : v5L m) : v5L (l ++ m) := fun d hd => (List.mem_append.mp hd).elim (h d) (k d)
theorem v5L_str {L : List Str} (h : L.all (okB 40 20) = true) : v5L (L.map D.str) := fun d hd => by
  obtain ⟨s, hs, rfl⟩ := List.mem_map.mp hd
  exact (okB_mem h s hs).v5 (by omega) (by omega)
theorem v5L_cons {d : D} {l : List D} (h : okV5 d) (k : v5L l) : v5L (d :: l) := fun x hx => by
  rcases List.mem_cons.mp hx with rfl | hx
  · exact h
  · exact k x hx
theorem v5L_nil : v5L [] := fun _ h => by cases h
theorem v5L_not {l : List D} (h : ∀ d ∈ l, notStr d) : v5L l := fun d hd => .inr (h d hd)
section
variable {F : FmKit} {T : Kx} {G : Gm} {W : Om} {R : D → Om → Prop}
theorem bo_cat5 {l m : List D} (h1 : v5L l) (h2 : v5L m) (hl : l.length + m.length ≤ 1000) (r : ∀ L, v5L L → L.length = l.length + m.length → R (.lst L) W) : Bo F T rCat (.lst l) (.lst m) W R :=
  bo_cat (.inl rfl) (.inl rfl) (by have := sizeLine_eq; omega) (r _ (v5L_app h1 h2) List.length_append)
/-- {}, frozen at once -/
theorem ev_dnewF (h : R (.dp []) W) : Ev F T tDNewK G W R := ev_fz (ev_dnew fun p hp => ⟨p, _, W, _, rfl, List.Perm.refl _, .dct _ _, h⟩)
end
theorem v5_str {s : Str} (h : okB 40 20 s = true) : okV5 (.str s) := (okB_ok h).v5 (by omega) (by omega)
theorem v5_mul {x : Str} {n : Nat} (h : okB 1 0 x = true) (hn : 2 ≤ n) (h2 : n ≤ 10000) (hx : (x.length == 0) = false) : okV5 (.str (Txt.mul x ((n : Nat) : Int))) := (txT_mul (okB_ok h) hn hx).v5 (by omega) (by omega)
end N
set_option Elab.async false
set_option linter.all false
set_option maxRecDepth 100000
namespace N
open PySem PySem.Spec PyProof.Rows L2
open C8 (Cal Met Mak InsC pe_c pe_mt pe_mt0 pe_mk)
set_option maxHeartbeats 4000000

local macro_rules | `(tactic| walk_at "vl") => `(tactic| first | exact .inl (.inl rfl) | exact .inr ⟨_, rfl, List.mem_cons_self⟩ | exact .inr ⟨_, rfl, List.mem_cons_of_mem _ List.mem_cons_self⟩ | exact .inr ⟨_, rfl, List.mem_cons_of_mem _ (List.mem_cons_of_mem _ List.mem_cons_self)⟩ | exact .inr ⟨_, rfl, List.mem_cons_of_mem _ (List.mem_cons_of_mem _ (List.mem_cons_of_mem _ List.mem_cons_self))⟩ | exact .inl (.inr ⟨_, rfl, rfl⟩))
local macro_rules | `(tactic| walk_at "vt") => `(tactic| first | exact .inl rfl | exact .inr ⟨_, rfl, List.mem_cons_self⟩ | exact .inr ⟨_, rfl, List.mem_cons_of_mem _ List.mem_cons_self⟩ | exact .inr ⟨_, rfl, List.mem_cons_of_mem _ (List.mem_cons_of_mem _ List.mem_cons_self)⟩ | exact .inr ⟨_, rfl, List.mem_cons_of_mem _ (List.mem_cons_of_mem _ (List.mem_cons_of_mem _ List.mem_cons_self))⟩)
local macro_rules | `(tactic| walk_at "vd") => `(tactic| first | exact .inl rfl | exact .inr ⟨_, rfl, List.mem_cons_self⟩ | exact .inr ⟨_, rfl, List.mem_cons_of_mem _ List.mem_cons_self⟩ | exact .inr ⟨_, rfl, List.mem_cons_of_mem _ (List.mem_cons_of_mem _ List.mem_cons_self)⟩ | exact .inr ⟨_, rfl, List.mem_cons_of_mem _ (List.mem_cons_of_mem _ (List.mem_cons_of_mem _ List.mem_cons_self))⟩)
local macro_rules | `(tactic| walk_at "gg") => `(tactic| first | exact getG_hd _ _ _ | (refine getG_tl (by decide +kernel) ?_; walk_at "gg"))
local macro_rules | `(tactic| walk_at "vs") => `(tactic| first | exact .inr rfl | (refine .inl ?_; walk_at "vl"))
local macro_rules | `(tactic| walk_at "nc") => `(tactic| first | omega | (unfold CMul; omega) | (unfold CDiv; omega) | (unfold CPow; decide) | (show (0 : Int) < _; omega))
local macro_rules | `(tactic| walk_at "sx") => `(tactic| first
  | with_reducible refine swx_seq ?_ | with_reducible refine swx_set ?_ | with_reducible refine swx_if ?_ | with_reducible refine swx_asg ?_ | with_reducible refine swx_ret ?_ | with_reducible refine swx_drop ?_ | with_reducible refine swx_raise ?_ | with_reducible refine swx_next ?_ | with_reducible refine swx_brk ?_ | with_reducible refine swx_cont ?_ | with_reducible refine swx_retN ?_ | with_reducible refine swx_par ?_ | with_reducible refine swx_fld ?_
  | with_reducible refine evx_call ?_ | with_reducible refine evx_cm ?_ | with_reducible refine evx_cmk ?_ | with_reducible refine evx_mk ?_ | with_reducible refine evx_mkk ?_ | with_reducible refine evx_of ?_)
local macro_rules | `(tactic| walk_at "s1") => `(tactic| first
  | with_reducible refine sw_seq ?_ | with_reducible refine sw_set ?_ | (with_reducible refine' ev_var ?h ?_); (case h => rfl) | with_reducible refine ev_c ?_ | with_reducible refine ev_op ?_
  | with_reducible refine bo_I0 ?_ | with_reducible refine ev_tup ?_ | with_reducible refine ev_lstF ?_ | with_reducible refine ev_cb ?_ | with_reducible refine ea_cons ?_ | with_reducible refine ea_nil ?_
  | with_reducible refine bo_eqI ?_ | with_reducible refine bo_neI ?_ | with_reducible refine bo_eqS ?_ | with_reducible refine bo_neS ?_ | with_reducible refine bo_eqB ?_ | with_reducible refine bo_neB ?_
  | with_reducible refine isi_str ?_ | (with_reducible refine' ca_intBt ?h1 ?_); (case h1 => decide +kernel) | (with_reducible refine' ca_intBf ?h1 ?_); (case h1 => decide +kernel) | with_reducible refine ca_intB ?_ | with_reducible refine ca_int ?_ | with_reducible refine ca_max2 ?_ | with_reducible refine ca_min2 ?_
  | with_reducible refine sw_if ?_ | with_reducible refine sw_ret ?_ | with_reducible refine sw_drop ?_ | with_reducible refine sw_setL ?_ | with_reducible refine sw_next ?_ | with_reducible refine sw_par ?_ | with_reducible refine ev_neg ?_ | with_reducible refine ev_mkF ?_ | with_reducible refine ev_inv ?_ | with_reducible refine ev_prpF ?_ | with_reducible refine ta_fld ?_ | with_reducible refine ta_name ?_ | (with_reducible refine' ta_tup ?hl ?_); (case hl => rfl) | with_reducible refine tas_cons ?_ | with_reducible refine tas_nil ?_
  | with_reducible refine et_ifE ?_ | with_reducible refine ev_orV ?_ | with_reducible refine ev_andV ?_ | with_reducible refine ev_notV ?_ | with_reducible refine et_or ?_ | with_reducible refine et_and ?_ | with_reducible refine sw_asgA ?_ | with_reducible refine sw_asg2 ?_ | with_reducible refine sw_asg3 ?_ | with_reducible refine sw_fld ?_ | with_reducible refine et_test ?_ | with_reducible refine et_B ?_ | with_reducible refine ⟨_, rfl, ?_⟩ | with_reducible refine ⟨_, _, rfl, ?_⟩ | with_reducible refine et_not ?_ | with_reducible refine ev_if ?_
  | (with_reducible refine' bo_ixL ?h1 ?h2 ?_); (case h1 => walk_at "vl"); (case h2 => rfl) | (with_reducible refine' bo_ixT ?h2 ?_); (case h2 => rfl) | with_reducible refine ev_call ?_ | ((with_reducible refine' ev_fwF ?hz ?hy ?_); (case hz => assumption); (case hy => assumption)) | (with_reducible refine' ev_fmF ?hz ?_; case hz => assumption) | with_reducible refine ev_fld ?_
  | with_reducible refine .inr ⟨_, _, rfl, FldW.below _, ?_⟩ | with_reducible refine .inr ⟨_, _, rfl, FldW.atoms _, ?_⟩ | with_reducible refine .inr ⟨_, _, rfl, FldW.bens _, ?_⟩ | with_reducible refine .inr ⟨_, _, rfl, FldW.hgts _, ?_⟩
  | with_reducible refine .inl ⟨_, _, rfl, FldF.kind _, ?_⟩ | with_reducible refine .inl ⟨_, _, rfl, FldF.parts _, ?_⟩ | with_reducible refine .inl ⟨_, _, rfl, FldF.many _, ?_⟩ | with_reducible refine .inl ⟨_, _, rfl, FldF.deep _, ?_⟩ | with_reducible refine .inl ⟨_, _, rfl, FldF.atoms _, ?_⟩ | with_reducible refine .inl ⟨_, _, rfl, FldF.bare _, ?_⟩ | with_reducible refine .inl ⟨_, _, rfl, FldF.spell _, ?_⟩ | with_reducible refine .inl ⟨_, _, rfl, FldF.alls _, ?_⟩
  | with_reducible refine ev_meth ?_ | ((with_reducible refine' ⟨_, _, inst_wb _, ?hm, ?_⟩); (case hm => decide +kernel)) | ((with_reducible refine' ⟨_, _, Inst.fm _, ?hm, ?_⟩); (case hm => decide +kernel))
  | with_reducible refine ⟨_, _, rfl, FldF.kind _, ?_⟩ | with_reducible refine ⟨_, _, rfl, FldF.parts _, ?_⟩ | with_reducible refine ⟨_, _, rfl, FldF.many _, ?_⟩ | with_reducible refine ⟨_, _, rfl, FldF.deep _, ?_⟩ | with_reducible refine ⟨_, _, rfl, FldF.atoms _, ?_⟩ | with_reducible refine ⟨_, _, rfl, FldF.bare _, ?_⟩ | with_reducible refine ⟨_, _, rfl, FldF.spell _, ?_⟩ | with_reducible refine ⟨_, _, rfl, FldF.alls _, ?_⟩
  | ((with_reducible refine' ⟨len_ok ?hl, ?_⟩); (case hl => exact Nat.le_of_ble_eq_true rfl))
  | (with_reducible refine' bo_I ?h1 ?_); (case h1 => walk_at "nc")
  | with_reducible refine ev_sl ?_ | with_reducible refine eo_none ?_ | with_reducible refine eo_some ?_ | (with_reducible refine' ca_slF ?h1 ?_); (case h1 => walk_at "vl") | with_reducible refine ev_revF ?_ | with_reducible refine ev_dget ?_ | with_reducible refine sw_dput ?_ | with_reducible refine ev_dispF ?_ | with_reducible refine eps_cons ?_ | with_reducible refine eps_nil ?_ | with_reducible refine exk_str ?_ | with_reducible refine exk_int ?_ | (with_reducible refine' dg_str ?h1 ?h2 ?_); (case h1 => walk_at "vd"); (case h2 => walk_at "gg")
  | with_reducible refine unr_cons ?_ | with_reducible refine unr_nil ?_ | with_reducible refine swu_cons ?_ | with_reducible refine swu_nil ?_ | with_reducible refine et_yes ?_ | with_reducible refine tg_name ?_ | (with_reducible refine' tw_name ?h1 ?_); (case h1 => simp) | ((with_reducible refine' ⟨acc_ok ?h1, ?_⟩); (case h1 => exact Nat.le_of_ble_eq_true rfl)) | with_reducible refine ei_tup ?_ | with_reducible refine ei_list ?_ | with_reducible refine ei_rng1 ?_
  | with_reducible refine ca_strF ?_ | with_reducible refine ca_lenF ?_ | with_reducible refine isi_tup ?_ | with_reducible refine isi_int ?_ | with_reducible refine isi_intB ?_ | with_reducible refine et_chain ?_ | with_reducible refine ev_chain ?_ | (with_reducible refine' isi_fm ?hz ?_; case hz => assumption)
  | (with_reducible refine' ca_len ?h1 ?_); (case h1 => walk_at "vs")
  | (with_reducible refine' if_so ?h1 ?_); (case h1 => first | rfl | decide +kernel) | (with_reducible refine' if_not ?h1 ?_); (case h1 => first | rfl | decide +kernel))
local macro_rules | `(tactic| walk_at "st") => `(tactic| repeat first | walk_at "s1" | walk_at "sx")
abbrev s_law_read : Stmt := top 33
theorem sc_law_read : FnScope ["_law_written", "_law_letters", "_law_at", "_law_waiting", "_law_wanted", "_law_sign"] ["_law_written"] (defScope s_law_read) := ⟨rfl, rfl, rfl, by decide +kernel, rfl, by decide +kernel, by decide +kernel⟩
theorem c_law_read {P : Program} {w : World} {K : PySem.W.Frag} {mg : Str → Option Value} {base : Heap} {cl : Nat → Addr} {f : Addr} {fd : FuncData} (hm : mg "_law_read" = some (.ref f)) (B : Blt mg) (Z : ZZ K w mg cl) (Fn : Fun K "_law_read" "_law_read" s_law_read f fd) : Cal P w K mg base 1 "_law_read" (spN FK ⟨K, cl⟩ S_lread) [] := by
  have fz := Z.z0
  refine calD hm Fn sc_law_read (by intro ds W post h; first | (obtain ⟨rfl, _⟩ := h; rfl) | (obtain ⟨_, rfl, _⟩ := h; rfl) | (obtain ⟨_, _, rfl, _⟩ := h; rfl) | (obtain ⟨_, _, _, rfl, _⟩ := h; rfl) | (obtain ⟨_, _, _, _, rfl, _⟩ := h; rfl) | (obtain ⟨_, _, _, _, _, rfl, _⟩ := h; rfl) | (obtain ⟨_, _, _, _, _, _, rfl, _⟩ := h; rfl) | (obtain ⟨_, _, _, _, _, _, _, rfl, _⟩ := h; rfl) | (obtain ⟨_, _, _, _, _, _, _, _, rfl, _⟩ := h; rfl) | (obtain ⟨_, _, _, _, _, _, _, _, _, rfl, _⟩ := h; rfl) | (obtain ⟨_, _, _, _, _, _, _, _, _, _, rfl, _⟩ := h; rfl) | (obtain ⟨_, _, _, _, _, _, _, _, _, _, _, rfl, _⟩ := h; rfl)) (fun _ _ _ _ _ _ us hl => match us, hl with | [_], _ => rfl) fun cdv A outer s H E hr => ⟨_, pss_cons (ps_set (i := 1) sc_law_read.nd rfl (Or.inl rfl) pe_str)
 (pss_cons (ps_par (i := 2) (j := 3) (by rfl) sc_law_read.nd rfl rfl (by decide) rfl rfl (pa_cons pe_int (pa_cons (pe_lst (pa_cons pe_str pa_nil)) pa_nil)) (by rfl))
 (pss_cons (ps_while PassesOwn.never (pt_cmpR (op_neE hr.units) (pv 3) (pe_lst pa_nil) (nomark _)) (pss_cons (ps_set (i := 4) sc_law_read.nd rfl (Or.inl rfl) (pe_bm0 PySem.F.plainAttrs_list PySem.F.slot_list_pop PySem.F.type_list_pop mt_pop (pv 3)))
 (pss_cons (ps_set (i := 5) sc_law_read.nd rfl (Or.inl rfl) (pe_slice sl_str (pv 0) (po_some (pv 2)) (po_some (pe_op op_add (pv 2) pe_int))))
 (pss_one (ps_if (pt_cmpR op_ne (pv 4) pe_str (nomark _)) (pss_cons (ps_if (pt_cmpR op_ne (pv 5) (pv 4) (nomark _)) (pss_one (ps_ret (pv 2))) (pss_nil))
 (pss_one (ps_set (i := 2) sc_law_read.nd rfl (Or.inl rfl) (pe_op op_add (pv 2) pe_int)))) (pss_one (ps_if (pt_cmpR op_eq (pv 5) pe_str (nomark _)) (pss_cons (ps_expr (pe_bm PySem.F.plainAttrs_list PySem.F.slot_list_extend PySem.F.type_list_extend mt_extend (pv 3) (pa_cons (pe_lst (pa_cons pe_str (pa_cons pe_str (pa_cons pe_str (pa_cons pe_str (pa_cons pe_str (pa_cons pe_str pa_nil))))))) pa_nil)))
 (pss_one (ps_set (i := 2) sc_law_read.nd rfl (Or.inl rfl) (pe_op op_add (pv 2) pe_int)))) (pss_one (ps_if (PW.pt (pw_and (pt_cmpR op_ne (pv 5) pe_str (nomark _)) (pw_and1 (PW.pt (pw_or (pt_cmpR op_in_sign (pv 5) (pv 1) rfl) (pw_or1 (pt_cmpR op_in_sign (pv 5) (pe_upper (pv 1)) rfl))))))) (pss_cons (ps_if (pt_cmpR op_eq (pe_slice sl_str (pv 0) (po_some (pv 2)) (po_some (pe_op op_add (pv 2) pe_int))) pe_str (nomark _)) (pss_one (ps_expr (pe_bm PySem.F.plainAttrs_list PySem.F.slot_list_extend PySem.F.type_list_extend mt_extend (pv 3) (pa_cons (pe_lst (pa_cons pe_str (pa_cons pe_str (pa_cons pe_str (pa_cons pe_str pa_nil))))) pa_nil)))) (pss_nil))
 (pss_one (ps_set (i := 2) sc_law_read.nd rfl (Or.inl rfl) (pe_op op_add (pe_op op_add (pv 2) pe_int) (pe_callTy call_int1 (by rfl) B.int bt_int (pa_cons (pe_cmpR op_eq (pe_slice sl_str (pv 0) (po_some (pv 2)) (po_some (pe_op op_add (pv 2) pe_int))) pe_str (nomark _)) pa_nil)))))) (pss_one (ps_ret (pv 2))))))))))))
 (pss_one (ps_ret (pe_ifExp (pt_cmpR op_eq (pv 2) (pe_callB call_len (by rfl) B.len bt_len (pa_cons (pv 0) pa_nil)) (nomark _)) (pe_un un_neg pe_int) (pv 2)))))), ?_⟩
  rintro ds W post ⟨s, rfl, rfl, hs, k⟩
  try dsimp only [cxOf, Cx.nox, Cx.wish]
  have h16 := sizeLine_eq
  have hln : s.length = (lets s).length := str_len s
  have dl : ∀ a, ((lets s).drop a).length = (lets s).length - a := fun a => List.length_drop
  iterate 4 (walk_at "s1")
  refine sw_par ?_
  refine ea_cons (ev_c ?_)
  refine ea_cons (ev_lst ?_)
  walk_at "st"
  intro p hp
  refine ea_nil ?_
  refine ⟨_, _, rfl, ?_⟩
  refine sw_seq (sw_while (fun m G' W' => ∃ (S : List Tok) (a : Nat) (o4 o5 : Option D), W' = [(p, .lst (wantD S))] ∧ a ≤ s.length ∧ S.length ≤ 1 + 6 * a ∧ m = s.length - a + (if S = [] then 0 else 1) ∧ rdOf s = lr S ((lets s).drop a) ∧
    G' = [some (.str s), some (.str "abcdefghijklmnopqrstuvwxyz"), some (natD a), some (.adr p), o4, o5]) (s.length + 1) ⟨[.form], 0, none, none, rfl, by omega, by simp, by simp, rfl, rfl⟩ ?_)
  rintro m G' W' ⟨S, a, o4, o5, rfl, hal, hSl, rfl, hr, rfl⟩
  have ec : ∀ n : Nat, ((a : Nat) : Int) + ((n : Nat) : Int) = ((a + n : Nat) : Int) := fun n => by omega
  have dla := dl a
  have fin : ∀ r b, rdOf s = (r, b) → (b = false ∨ r ≠ []) → r.length ≤ s.length → placeOf s = ((s.length - r.length : Nat) : Int) := fun r b h1 h2 h3 => by
    rw [place_bad (fun e => by rw [h1] at e; injection e with e1 e2; rcases h2 with h2 | h2; rw [h2] at e2; cases e2; exact h2 e1), h1]
  walk_at "st"
  refine bo_neE (.inr ⟨_, rfl, List.mem_cons_self⟩) (.inl (.inl rfl)) ⟨_, rfl, ?_⟩
  cases S with
  | nil =>
    try refine if_not (by first | rfl | decide +kernel | simp) ?_
    try walk_at "st"
    have hr : rdOf s = ((lets s).drop a, true) := hr.trans (lr_nil _)
    refine ca_drp (ca_lenS (by omega) ⟨[], List.nil_sublist _, ?_⟩)
    walk_at "st"
    by_cases h : a = s.length
    · refine if_so ((decide_eq_true (by omega))) ?_
      try walk_at "st"
      walk_at "st"
      have e0 : (lets s).drop a = [] := List.drop_eq_nil_of_le (by omega)
      rw [e0] at hr
      rw [← place_read.mpr hr]
      exact k
    · refine if_not ((decide_eq_false (by omega))) ?_
      try walk_at "st"
      have e := fin _ _ hr (.inr fun e => by rw [e] at dla; simp only [List.length_nil] at dla; omega) (by omega)
      rw [dl a, show s.length - ((lets s).length - a) = a by omega] at e
      rw [e] at k
      walk_at "st"
      exact k
  | cons t S =>
    have hSl : S.length + 1 ≤ 1 + 6 * a := hSl
    refine if_so ((by rw [wantD_cons]; simp)) ?_
    try walk_at "st"
    refine ev_pop ?_
    walk_at "st"
    refine ⟨p, wantD S, [], [], tokD t, rfl, by rw [wantD_cons]; rfl, ?_⟩
    walk_at "st"
    refine ca_slS (by omega) ?_
    rw [show ((a : Nat) : Int) + 1 = ((a + 1 : Nat) : Int) from ec 1, cutS_sub s a (a + 1) 1 rfl hal]
    obtain ⟨r, hd⟩ : ∃ r, (lets s).drop a = r := ⟨_, rfl⟩
    rw [hd] at hr dla
    have out : ∀ r, rdOf s = (r, false) → r.length = (lets s).length - a → post (natD a) [] := fun r h1 h2 => by
      have e := fin r false h1 (.inl rfl) (by omega)
      rw [show s.length - r.length = a by omega] at e
      rw [e] at k
      exact k
    cases t with
    | sg c =>
      walk_at "st"
      refine bo_neS ⟨_, rfl, ?_⟩
      refine if_so (sg_form) ?_
      try walk_at "st"
      cases r with
      | nil =>
        have e0 : subT s a 1 = "" := by unfold subT; rw [hd]; rfl
        rw [e0]
        refine bo_neS ⟨_, rfl, ?_⟩
        refine if_so nil_sg (sw_drp (List.nil_sublist _) ?_)
        walk_at "st"
        exact out [] hr dla
      | cons x r =>
        rw [sub_cons hd]
        rw [lr_sg] at hr
        refine bo_neS ⟨_, rfl, ?_⟩
        by_cases h : x = c
        · subst h
          rw [if_pos rfl] at hr
          simp only [List.length_cons] at dla
          refine if_not (neself) ?_
          try walk_at "st"
          have e2 := drop_step [x] (show (lets s).drop a = [x] ++ r from hd)
          refine ⟨_, ?_, S, a + 1, _, _, rfl, by omega, by omega, rfl, by rw [show (lets s).drop (a + 1) = r from e2]; exact hr, rfl⟩
          rw [if_neg (show ¬ Tok.sg x :: S = [] by simp)]
          split <;> omega
        · rw [if_neg h] at hr
          refine if_so (by rw [Bool.not_eq_true', decide_eq_false_iff_not]; exact fun e => h (sg_inj e)) (sw_drp (List.nil_sublist _) ?_)
          walk_at "st"
          exact out _ hr dla
    | form =>
      walk_at "st"
      refine bo_neS ⟨_, rfl, ?_⟩
      refine if_not (neself) ?_
      try walk_at "st"
      cases r with
      | nil =>
        have e0 : subT s a 1 = "" := by unfold subT; rw [hd]; rfl
        rw [e0]
        refine if_not rfl (sw_drp (List.nil_sublist _) ?_)
        walk_at "st"
        exact out [] hr dla
      | cons x r =>
        rw [sub_cons hd]
        rw [lr_form] at hr
        have e2 := drop_step [x] (show (lets s).drop a = [x] ++ r from hd)
        have e3 : (lets s).drop (a + 1) = r := e2
        clear e2
        by_cases h40 : x = 40
        · subst h40
          rw [if_pos rfl] at hr
          simp only [List.length_cons] at dla
          try refine if_so (by first | rfl | decide +kernel | simp) ?_
          try walk_at "st"
          refine ev_extend ?_
          walk_at "st"
          refine ⟨p, wantD S, [], [], rfl, rfl, ?_⟩
          walk_at "st"
          refine ⟨wantD S, _, [], [], rfl, rfl, by simp [wantD]; omega, ?_⟩
          walk_at "st"
          refine ⟨_, ?_, .form :: .sg 32 :: .sg 62 :: .sg 32 :: .form :: .sg 41 :: S, a + 1, _, _, ?_, by omega, by simp; omega, rfl, by rw [e3]; exact hr, rfl⟩
          · rw [if_neg (show ¬ Tok.form :: S = [] by simp), if_neg (by simp)]
            omega
          · simp only [wantD_cons, List.append_assoc, List.cons_append, List.nil_append]
            rfl
        rw [if_neg h40] at hr
        refine if_not ((decide_eq_false fun e => h40 (sg_inj (b := 40) e))) ?_
        try walk_at "st"
        refine bo_inSg ⟨_, rfl, ?_⟩
        have hup := isL_up (c := x)
        by_cases h1 : x ∈ lets ("abcdefghijklmnopqrstuvwxyz" : Str)
        · have hl : isL x := hup.mp (.inl h1)
          refine if_so (decide_eq_true h1) ?_
          refine if_so rfl ?_
          walk_at "st"
          rw [if_pos hl] at hr
          have sub2 : subT s a 2 = ⟨((x :: r).take 2).toArray⟩ := by unfold subT; rw [hd]
          have sl2 : cutS s (some ((a : Nat) : Int)) (some (((a : Nat) : Int) + 2)) = ⟨((x :: r).take 2).toArray⟩ := by rw [show ((a : Nat) : Int) + 2 = ((a + 2 : Nat) : Int) from ec 2, cutS_sub s a (a + 2) 2 rfl hal, sub2]
          refine ca_slS (by omega) ?_
          rw [sl2]
          by_cases ha2 : x = 97 ∧ r.head? = some 108
          · obtain ⟨rfl, h108⟩ := ha2
            cases r with
            | nil => cases h108
            | cons y r =>
              have h108 : y = 108 := by simpa using h108
              subst h108
              rw [if_pos ⟨rfl, rfl⟩] at hr
              walk_at "st"
              try refine if_so (by first | rfl | decide +kernel | simp) ?_
              try walk_at "st"
              refine ev_extend ?_
              walk_at "st"
              refine ⟨p, wantD S, [], [], rfl, rfl, ?_⟩
              walk_at "st"
              refine ⟨wantD S, _, [], [], rfl, rfl, by simp [wantD]; omega, ?_⟩
              walk_at "st"
              refine ca_slS (by omega) ?_
              rw [sl2]
              walk_at "st"
              simp only [List.length_cons] at dla
              refine ⟨_, ?_, .sg 108 :: .sg 108 :: .sg 32 :: .form :: S, a + 1, _, _, ?_, by omega, by simp; omega, rfl, by rw [e3]; exact hr, by rw [decide_eq_false (fun e => absurd (show [97, 108] = [110, 111] from congrArg (fun z : Str => z.cps.toList) e) (by decide)), if_neg (by decide), show ((a : Nat) : Int) + 1 + 0 = ((a + 1 : Nat) : Int) by omega]; rfl⟩
              · rw [if_neg (show ¬ Tok.form :: S = [] by simp), if_neg (by simp)]
                omega
              · simp only [wantD_cons, List.append_assoc, List.cons_append, List.nil_append]
                rfl
          · rw [if_neg ha2] at hr
            walk_at "st"
            refine if_not ((decide_eq_false (take2_eq ha2))) ?_
            try walk_at "st"
            refine ca_slS (by omega) ?_
            rw [sl2]
            walk_at "st"
            by_cases hn2 : x = 110 ∧ r.head? = some 111
            · obtain ⟨rfl, h111⟩ := hn2
              cases r with
              | nil => cases h111
              | cons y r =>
                have h111 : y = 111 := by simpa using h111
                subst h111
                rw [if_pos ⟨rfl, rfl⟩, lr_sg, if_pos rfl] at hr
                simp only [List.length_cons] at dla
                have e4 := drop_step [111] (show (lets s).drop (a + 1) = [111] ++ r from e3)
                have e4 : (lets s).drop (a + 2) = r := e4
                refine ⟨_, ?_, S, a + 2, _, _, ?_, by omega, by omega, rfl, by rw [e4]; exact hr, by rw [decide_eq_true (show (⟨(List.take 2 (110 :: 111 :: r)).toArray⟩ : Str) = "no" from rfl), if_pos rfl, show ((a : Nat) : Int) + 1 + 1 = ((a + 2 : Nat) : Int) by omega]; rfl⟩
                · rw [if_neg (show ¬ Tok.form :: S = [] by simp)]
                  split <;> omega
                · rfl
            · rw [if_neg hn2] at hr
              simp only [List.length_cons] at dla
              refine ⟨_, ?_, S, a + 1, _, _, ?_, by omega, by omega, rfl, by rw [e3]; exact hr, by rw [decide_eq_false (show ¬ (⟨(List.take 2 (x :: r)).toArray⟩ : Str) = "no" from take2_eq hn2), if_neg (by decide), show ((a : Nat) : Int) + 1 + 0 = ((a + 1 : Nat) : Int) by omega]; rfl⟩
              · rw [if_neg (show ¬ Tok.form :: S = [] by simp)]
                split <;> omega
              · rfl
        · refine if_not (decide_eq_false h1) ?_
          walk_at "st"
          refine ev_upper ?_
          walk_at "st"
          refine ⟨by decide, bo_inSg ⟨_, rfl, ?_⟩⟩
          by_cases h2 : x ∈ lets (Txt.upper "abcdefghijklmnopqrstuvwxyz")
          · have hl : isL x := hup.mp (.inr h2)
            refine if_so (decide_eq_true h2) ?_
            walk_at "st"
            rw [if_pos hl] at hr
            have sub2 : subT s a 2 = ⟨((x :: r).take 2).toArray⟩ := by unfold subT; rw [hd]
            have sl2 : cutS s (some ((a : Nat) : Int)) (some (((a : Nat) : Int) + 2)) = ⟨((x :: r).take 2).toArray⟩ := by rw [show ((a : Nat) : Int) + 2 = ((a + 2 : Nat) : Int) from ec 2, cutS_sub s a (a + 2) 2 rfl hal, sub2]
            refine ca_slS (by omega) ?_
            rw [sl2]
            by_cases ha2 : x = 97 ∧ r.head? = some 108
            · obtain ⟨rfl, h108⟩ := ha2
              cases r with
              | nil => cases h108
              | cons y r =>
                have h108 : y = 108 := by simpa using h108
                subst h108
                rw [if_pos ⟨rfl, rfl⟩] at hr
                walk_at "st"
                try refine if_so (by first | rfl | decide +kernel | simp) ?_
                try walk_at "st"
                refine ev_extend ?_
                walk_at "st"
                refine ⟨p, wantD S, [], [], rfl, rfl, ?_⟩
                walk_at "st"
                refine ⟨wantD S, _, [], [], rfl, rfl, by simp [wantD]; omega, ?_⟩
                walk_at "st"
                refine ca_slS (by omega) ?_
                rw [sl2]
                walk_at "st"
                simp only [List.length_cons] at dla
                refine ⟨_, ?_, .sg 108 :: .sg 108 :: .sg 32 :: .form :: S, a + 1, _, _, ?_, by omega, by simp; omega, rfl, by rw [e3]; exact hr, by rw [decide_eq_false (fun e => absurd (show [97, 108] = [110, 111] from congrArg (fun z : Str => z.cps.toList) e) (by decide)), if_neg (by decide), show ((a : Nat) : Int) + 1 + 0 = ((a + 1 : Nat) : Int) by omega]; rfl⟩
                · rw [if_neg (show ¬ Tok.form :: S = [] by simp), if_neg (by simp)]
                  omega
                · simp only [wantD_cons, List.append_assoc, List.cons_append, List.nil_append]
                  rfl
            · rw [if_neg ha2] at hr
              walk_at "st"
              refine if_not ((decide_eq_false (take2_eq ha2))) ?_
              try walk_at "st"
              refine ca_slS (by omega) ?_
              rw [sl2]
              walk_at "st"
              by_cases hn2 : x = 110 ∧ r.head? = some 111
              · obtain ⟨rfl, h111⟩ := hn2
                cases r with
                | nil => cases h111
                | cons y r =>
                  have h111 : y = 111 := by simpa using h111
                  subst h111
                  rw [if_pos ⟨rfl, rfl⟩, lr_sg, if_pos rfl] at hr
                  simp only [List.length_cons] at dla
                  have e4 := drop_step [111] (show (lets s).drop (a + 1) = [111] ++ r from e3)
                  have e4 : (lets s).drop (a + 2) = r := e4
                  refine ⟨_, ?_, S, a + 2, _, _, ?_, by omega, by omega, rfl, by rw [e4]; exact hr, by rw [decide_eq_true (show (⟨(List.take 2 (110 :: 111 :: r)).toArray⟩ : Str) = "no" from rfl), if_pos rfl, show ((a : Nat) : Int) + 1 + 1 = ((a + 2 : Nat) : Int) by omega]; rfl⟩
                  · rw [if_neg (show ¬ Tok.form :: S = [] by simp)]
                    split <;> omega
                  · rfl
              · rw [if_neg hn2] at hr
                simp only [List.length_cons] at dla
                refine ⟨_, ?_, S, a + 1, _, _, ?_, by omega, by omega, rfl, by rw [e3]; exact hr, by rw [decide_eq_false (show ¬ (⟨(List.take 2 (x :: r)).toArray⟩ : Str) = "no" from take2_eq hn2), if_neg (by decide), show ((a : Nat) : Int) + 1 + 0 = ((a + 1 : Nat) : Int) by omega]; rfl⟩
                · rw [if_neg (show ¬ Tok.form :: S = [] by simp)]
                  split <;> omega
                · rfl
          · have hl : ¬ isL x := fun h => (hup.mpr h).elim h1 h2
            rw [if_neg hl] at hr
            refine if_not (decide_eq_false h2) (sw_drp (List.nil_sublist _) ?_)
            walk_at "st"
            exact out _ hr dla
abbrev s_law_bent : Stmt := top 34
theorem sc_law_bent : FnScope ["_law_deck_here", "_law_written", "_law_signs", "_law_way", "_law_at", "_law_sign", "_law_k"] ["_law_deck_here", "_law_written"] (defScope s_law_bent) := ⟨rfl, rfl, rfl, by decide +kernel, rfl, by decide +kernel, by decide +kernel⟩
theorem c_law_bent {P : Program} {w : World} {K : PySem.W.Frag} {mg : Str → Option Value} {base : Heap} {cl : Nat → Addr} {f : Addr} {fd : FuncData} (hm : mg "_law_bent" = some (.ref f)) (B : Blt mg) (Z : ZZ K w mg cl) (Fn : Fun K "_law_bent" "_law_bent" s_law_bent f fd)
    (c_law_draw : Cal P w K mg base 1 "_law_draw" (spN FK ⟨K, cl⟩ (S_draw DkA)) [])
    (c_law_pick : Cal P w K mg base 2 "_law_pick" (spN FK ⟨K, cl⟩ (S_pick DkA)) []) : Cal P w K mg base 3 "_law_bent" (spN FK ⟨K, cl⟩ S_bent5) [] := by
  have fz := Z.z0
  refine calD hm Fn sc_law_bent (by intro ds W post h; first | (obtain ⟨rfl, _⟩ := h; rfl) | (obtain ⟨_, rfl, _⟩ := h; rfl) | (obtain ⟨_, _, rfl, _⟩ := h; rfl) | (obtain ⟨_, _, _, rfl, _⟩ := h; rfl) | (obtain ⟨_, _, _, _, rfl, _⟩ := h; rfl) | (obtain ⟨_, _, _, _, _, rfl, _⟩ := h; rfl) | (obtain ⟨_, _, _, _, _, _, rfl, _⟩ := h; rfl) | (obtain ⟨_, _, _, _, _, _, _, rfl, _⟩ := h; rfl) | (obtain ⟨_, _, _, _, _, _, _, _, rfl, _⟩ := h; rfl) | (obtain ⟨_, _, _, _, _, _, _, _, _, rfl, _⟩ := h; rfl) | (obtain ⟨_, _, _, _, _, _, _, _, _, _, rfl, _⟩ := h; rfl) | (obtain ⟨_, _, _, _, _, _, _, _, _, _, _, rfl, _⟩ := h; rfl)) (fun _ _ _ _ _ _ us hl => match us, hl with | [_, _], _ => rfl) fun cdv A outer s H E hr => ⟨_, pss_cons (ps_set (i := 2) sc_law_bent.nd rfl (Or.inl rfl) pe_str)
 (pss_cons (ps_par (i := 3) (j := 4) (by rfl) sc_law_bent.nd rfl rfl (by decide) rfl rfl (pa_cons (pe_c c_law_draw hr (by omega) (by rfl) (pa_cons (pv 0) (pa_cons pe_int pa_nil))) (pa_cons (pe_c c_law_draw hr (by omega) (by rfl) (pa_cons (pv 0) (pa_cons (pe_op op_add (pe_callB call_len_str (by rfl) B.len bt_len (pa_cons (pv 1) pa_nil)) pe_int) pa_nil))) pa_nil)) (by rfl))
 (pss_cons (ps_set (i := 5) sc_law_bent.nd rfl (Or.inl rfl) (pe_c c_law_pick hr (by omega) (by rfl) (pa_cons (pv 0) (pa_cons (pv 2) pa_nil))))
 (pss_cons (ps_if (pt_cmpR op_lt (pv 3) pe_int (nomark _)) (pss_one (ps_ret (pe_op op_add_str (pe_op op_add_str (pe_slice sl_str (pv 1) po_none (po_some (pv 4))) (pv 5)) (pe_slice sl_str (pv 1) (po_some (pv 4)) po_none)))) (pss_nil))
 (pss_cons (ps_if (pt_cmpR op_eq (pv 3) pe_int (nomark _)) (pss_one (ps_ret (pe_op op_add_str (pe_slice sl_str (pv 1) po_none (po_some (pv 4))) (pe_slice sl_str (pv 1) (po_some (pe_op op_add (pv 4) pe_int)) po_none)))) (pss_nil))
 (pss_cons (ps_if (pt_cmpR op_eq (pv 3) pe_int (nomark _)) (pss_one (ps_ret (pe_op op_add_str (pe_op op_add_str (pe_slice sl_str (pv 1) po_none (po_some (pv 4))) (pv 5)) (pe_slice sl_str (pv 1) (po_some (pe_op op_add (pv 4) pe_int)) po_none)))) (pss_nil))
 (pss_cons (ps_if (pt_cmpR op_eq (pv 3) pe_int (nomark _)) (pss_one (ps_ret (pe_slice sl_str (pv 1) po_none (po_some (pv 4))))) (pss_nil))
 (pss_cons (ps_if (pt_cmpR op_eq (pv 3) pe_int (nomark _)) (pss_one (ps_ret (pe_slice sl_str (pv 1) (po_some (pv 4)) po_none))) (pss_nil))
 (pss_cons (ps_if (pt_cmpR op_eq (pv 3) pe_int (nomark _)) (pss_one (ps_ret (pe_op op_add_str (pe_op op_add_str (pv 1) (pe_c c_law_pick hr (by omega) (by rfl) (pa_cons (pv 0) (pa_cons (pe_lst (pa_cons pe_str (pa_cons pe_str (pa_cons pe_str (pa_cons pe_str (pa_cons pe_str pa_nil)))))) pa_nil)))) (pe_slice sl_str (pv 1) (po_some (pv 4)) po_none)))) (pss_nil))
 (pss_cons (ps_if (pt_cmpR op_eq (pv 3) pe_int (nomark _)) (pss_one (ps_ret (pe_op op_add_str (pe_op op_add_str (pe_slice sl_str (pv 1) po_none (po_some (pv 4))) (pe_c c_law_pick hr (by omega) (by rfl) (pa_cons (pv 0) (pa_cons (pe_lst (pa_cons pe_str (pa_cons pe_str (pa_cons pe_str (pa_cons pe_str (pa_cons pe_str (pa_cons pe_str pa_nil))))))) pa_nil)))) (pe_slice sl_str (pv 1) (po_some (pv 4)) po_none)))) (pss_nil))
 (pss_one (ps_ret (pe_join pe_str (pe_lc (own := [("_law_k", 6)]) (by rfl) sc_law_bent.nd (pi_range1 (by rfl) B.range (pa_cons (pe_c c_law_draw hr (by omega) (by rfl) (pa_cons (pv 0) (pa_cons pe_int pa_nil))) pa_nil)) (blkOk_by (own := [("_law_k", 6)]) (N := ["_law_deck_here", "_law_written", "_law_signs", "_law_way", "_law_at", "_law_sign", "_law_k"]) (sc := defScope s_law_bent) (by decide +kernel)) (fun _ _ _ _ _ => (pg_name (i := 6) sc_law_bent.nd rfl (Or.inl rfl))) (fun _ _ _ _ _ => pts_nil) (fun _ _ _ _ _ => (pe_c c_law_pick hr (by omega) (by rfl) (pa_cons (pv 0) (pa_cons (pe_lst (pa_cons pe_str (pa_cons pe_str (pa_cons pe_str (pa_cons pe_str (pa_cons pe_str (pa_cons pe_str (pa_cons pe_str (pa_cons pe_str pa_nil))))))))) pa_nil))))))))))))))))), ?_⟩
  rintro ds W post ⟨a, c, s, m, k, rfl, hd, hc, hs, hm, kk⟩
  try dsimp only [cxOf, Cx.nox, Cx.wish]
  have h16 := sizeLine_eq
  have hlen := hs.len
  walk_at "st"
  refine handA ⟨a, c, 9, rfl, hd, by omega, by omega, by omega, fun w W1 w0 w1 hd1 => ?_⟩
  try walk_at "st"
  refine ca_lenStr (by omega) ?_
  walk_at "st"
  refine handA ⟨a, _, _, rfl, hd1, by omega, by omega, by omega, fun q W2 q0 q1 hd2 => ?_⟩
  try walk_at "st"
  obtain ⟨q, rfl⟩ := Int.eq_ofNat_of_zero_le q0
  refine handA ⟨a, _, _, rfl, hd2, by omega, .inr ⟨_, rfl, by decide, by decide, fun g hg W3 hd3 => ?_⟩⟩
  try walk_at "st"
  have hg : g < 200 := by
    have h : (lets ("aPnolx( )>~&|all no > 10A.-\n_[^" : Str)).all (fun x => decide (x < 200)) = true := by decide +kernel
    exact of_decide_eq_true (List.all_eq_true.mp h g hg)
  have h1 : ∀ lo hi, txT m k (cutS s lo hi) := fun lo hi => hs.cut lo hi
  have hsl : ∀ lo hi, (cutS s lo hi).length ≤ m := fun lo hi => (h1 lo hi).len
  have hg1 := txT.sg hg
  have e1 : ((q : Nat) : Int) + 1 = ((q + 1 : Nat) : Int) := by omega
  have lsg : (sg g).length = 1 := rfl
  refine if_dec (fun hw => ?_) (fun hw => ?_)
  · walk_at "st"
    refine ca_slS (by omega) ?_
    have l1 := hsl none (some ((q : Nat) : Int))
    walk_at "st"
    refine bo_addS (by omega) ?_
    try walk_at "st"
    refine ca_slS (by omega) ?_
    have l2 := hsl (some ((q : Nat) : Int)) none
    refine bo_addS (by rw [str_app_len]; omega) ?_
    try walk_at "st"
    exact kk _ _ ((((h1 _ _).app hg1).app (h1 _ _)).up (by omega) (by omega)) (DkA_mono hd3 (by omega))
  walk_at "st"
  refine if_dec (fun hw2 => ?_) (fun hw2 => ?_)
  · walk_at "st"
    refine ca_slS (by omega) ?_
    walk_at "st"
    refine ca_slS (by omega) ?_
    have l1 := hsl none (some ((q : Nat) : Int))
    have l2 := hsl (some (((q : Nat) : Int) + 1)) none
    refine bo_addS (by omega) ?_
    try walk_at "st"
    exact kk _ _ (((h1 _ _).app (h1 _ _)).up (by omega) (by omega)) (DkA_mono hd3 (by omega))
  walk_at "st"
  refine if_dec (fun hw3 => ?_) (fun hw3 => ?_)
  · walk_at "st"
    refine ca_slS (by omega) ?_
    have l1 := hsl none (some ((q : Nat) : Int))
    walk_at "st"
    refine bo_addS (by omega) ?_
    try walk_at "st"
    refine ca_slS (by omega) ?_
    have l2 := hsl (some (((q : Nat) : Int) + 1)) none
    refine bo_addS (by rw [str_app_len]; omega) ?_
    try walk_at "st"
    exact kk _ _ ((((h1 _ _).app hg1).app (h1 _ _)).up (by omega) (by omega)) (DkA_mono hd3 (by omega))
  walk_at "st"
  refine if_dec (fun hw4 => ?_) (fun hw4 => ?_)
  · walk_at "st"
    refine ca_slS (by omega) ?_
    exact kk _ _ ((h1 _ _).up (by omega) (by omega)) (DkA_mono hd3 (by omega))
  walk_at "st"
  refine if_dec (fun hw5 => ?_) (fun hw5 => ?_)
  · walk_at "st"
    refine ca_slS (by omega) ?_
    exact kk _ _ ((h1 _ _).up (by omega) (by omega)) (DkA_mono hd3 (by omega))
  walk_at "st"
  refine if_dec (fun hw6 => ?_) (fun hw6 => ?_)
  · walk_at "st"
    refine handA ⟨a, _, _, rfl, hd3, by omega, .inl ⟨_, .inl rfl, by simp, by simp, fun z hz W4 hd4 => ?_⟩⟩
    try walk_at "st"
    obtain ⟨y, rfl, hy⟩ : ∃ y : Str, z = .str y ∧ txT 4 2 y := by
      have h := okB_mem (n := 4) (c := 2) (L := ["", " ", ")", " > a", "\n"]) (by decide +kernel)
      have hz : z ∈ (["", " ", ")", " > a", "\n"] : List Str).map D.str := hz
      obtain ⟨y, hy, rfl⟩ := List.mem_map.mp hz
      exact ⟨y, rfl, h y hy⟩
    have ly := hy.len
    refine bo_addS (by omega) ?_
    try walk_at "st"
    refine ca_slS (by omega) ?_
    have l2 := hsl (some ((q : Nat) : Int)) none
    refine bo_addS (by rw [str_app_len]; omega) ?_
    try walk_at "st"
    exact kk _ _ (((hs.app hy).app (h1 _ _)).up (by omega) (by omega)) (DkA_mono hd4 (by omega))
  walk_at "st"
  refine if_dec (fun hw7 => ?_) (fun hw7 => ?_)
  · walk_at "st"
    refine ca_slS (by omega) ?_
    walk_at "st"
    refine handA ⟨a, _, _, rfl, hd3, by omega, .inl ⟨_, .inl rfl, by simp, by simp, fun z hz W4 hd4 => ?_⟩⟩
    try walk_at "st"
    obtain ⟨y, rfl, hy⟩ : ∃ y : Str, z = .str y ∧ txT 7 2 y := by
      have h := okB_mem (n := 7) (c := 2) (L := ["all ", "all", "no", "(a > b)", "al", "no "]) (by decide +kernel)
      have hz : z ∈ (["all ", "all", "no", "(a > b)", "al", "no "] : List Str).map D.str := hz
      obtain ⟨y, hy, rfl⟩ := List.mem_map.mp hz
      exact ⟨y, rfl, h y hy⟩
    have ly := hy.len
    have l1 := hsl none (some ((q : Nat) : Int))
    walk_at "st"
    refine bo_addS (by omega) ?_
    try walk_at "st"
    refine ca_slS (by omega) ?_
    have l2 := hsl (some ((q : Nat) : Int)) none
    refine bo_addS (by rw [str_app_len]; omega) ?_
    try walk_at "st"
    exact kk _ _ ((((h1 _ _).app hy).app (h1 _ _)).up (by omega) (by omega)) (DkA_mono hd4 (by omega))
  walk_at "st"
  refine ev_join ?_
  walk_at "st"
  refine ev_lcF (ei_rng1 ?_)
  walk_at "st"
  refine handA ⟨a, _, 9, rfl, hd3, by omega, by omega, by omega, fun n W4 n0 n1 hd4 => ?_⟩
  try walk_at "st"
  refine ⟨by omega, by omega, fun i acc W' => ∃ ys : List Str, acc = ys.map .str ∧ ys.length = i ∧ (∀ y ∈ ys, txT 4 2 y) ∧ DkA a (c + 5 + (i : Nat)) W', ⟨[], rfl, rfl, by simp, DkA_mono hd4 (by omega)⟩, ?_, ?_⟩
  · rintro i d acc W' hdd ⟨ys, rfl, hy, hyl, hdk⟩
    have hi := (rng_get hdd).1
    refine tw_name (by simp) ?_
    walk_at "st"
    refine handA ⟨a, _, _, rfl, hdk, by omega, .inl ⟨_, .inl rfl, by simp, by simp, fun z hz W5 hd5 => ?_⟩⟩
    try walk_at "st"
    obtain ⟨y, rfl, hy2⟩ : ∃ y : Str, z = .str y ∧ txT 4 2 y := by
      have h := okB_mem (n := 4) (c := 2) (L := ["all ", "no", "(", ")", " > ", "a", " ", "P"]) (by decide +kernel)
      have hz : z ∈ (["all ", "no", "(", ")", " > ", "a", " ", "P"] : List Str).map D.str := hz
      obtain ⟨y, hy, rfl⟩ := List.mem_map.mp hz
      exact ⟨y, rfl, h y hy⟩
    refine ⟨by rw [List.length_map]; omega, ys ++ [y], by simp, by simp [hy], fun x hx => ?_, DkA_mono hd5 (by push_cast; omega)⟩
    rcases List.mem_append.mp hx with h | h
    · exact hyl x h
    · rw [List.mem_singleton] at h
      exact h ▸ hy2
  rintro acc W5 ⟨ys, rfl, hy, hyl, hdk⟩
  rw [rng_len] at hy hdk
  have hj := txT.join hyl
  have hsum : (ys.map (·.length)).sum ≤ ys.length * 4 := sum_le fun y hy => (hyl y hy).len
  refine ⟨ys, .inl (.inl (.inl rfl)), by show _ + _ * 0 ≤ _; omega, ?_⟩
  exact kk _ _ (hj.up (by omega) (by omega)) (DkA_mono hdk (by omega))
abbrev s_law_heard : Stmt := top 35
theorem sc_law_heard : FnScope ["_law_written", "_law_is_named", "_law_found", "e"] ["_law_written", "_law_is_named"] (defScope s_law_heard) := ⟨rfl, rfl, rfl, by decide +kernel, rfl, by decide +kernel, by decide +kernel⟩
theorem c_law_heard {P : Program} {w : World} {K : PySem.W.Frag} {mg : Str → Option Value} {base : Heap} {cl : Nat → Addr} {f : Addr} {fd : FuncData} (hm : mg "_law_heard" = some (.ref f)) (B : Blt mg) (Z : ZZ K w mg cl) (Fn : Fun K "_law_heard" "_law_heard" s_law_heard f fd)
    (cm_Formula_read : CmX P w K mg base 8 (cl 0) "read" ["text"] (fun vs zs => vs ++ zs) (spX FK ⟨K, cl⟩ ((S_readX (cl 0)))))
    (o_str : Opn P w K mg base 1 (cl 0) "__str__" (spN FK ⟨K, cl⟩ S_str)) : Cal P w K mg base 11 "_law_heard" (spN FK ⟨K, cl⟩ S_heard5) [] := by
  have fz := Z.z0
  refine calD hm Fn sc_law_heard (by intro ds W post h; first | (obtain ⟨rfl, _⟩ := h; rfl) | (obtain ⟨_, rfl, _⟩ := h; rfl) | (obtain ⟨_, _, rfl, _⟩ := h; rfl) | (obtain ⟨_, _, _, rfl, _⟩ := h; rfl) | (obtain ⟨_, _, _, _, rfl, _⟩ := h; rfl) | (obtain ⟨_, _, _, _, _, rfl, _⟩ := h; rfl) | (obtain ⟨_, _, _, _, _, _, rfl, _⟩ := h; rfl) | (obtain ⟨_, _, _, _, _, _, _, rfl, _⟩ := h; rfl) | (obtain ⟨_, _, _, _, _, _, _, _, rfl, _⟩ := h; rfl) | (obtain ⟨_, _, _, _, _, _, _, _, _, rfl, _⟩ := h; rfl) | (obtain ⟨_, _, _, _, _, _, _, _, _, _, rfl, _⟩ := h; rfl) | (obtain ⟨_, _, _, _, _, _, _, _, _, _, _, rfl, _⟩ := h; rfl)) (fun _ _ _ _ _ _ us hl => match us, hl with | [_, _], _ => rfl) fun cdv A outer s H E hr => ⟨_, pss_cons (ps_set (i := 2) sc_law_heard.nd rfl (Or.inl rfl) pe_non)
 (pss_cons (ps_try_as (i := 3) rfl rfl sc_law_heard.nd rfl rfl ⟨rfl, by decide, .inl Z.g_BadText⟩ takes0 (fun W pn xe tk po => pss_one (ps_set (i := 2) sc_law_heard.nd rfl (Or.inl rfl) (pe_lst (pa_cons pe_str (pa_cons (pe_callTy (call_str_opn o_str hr (by omega)) (by rfl) B.str bt_str (pa_cons (pe_ifExp (pt_val (pv 1)) (pe_cmkX cm_Formula_read hr (by omega) tk (pe_glob (by rfl) Z.g_Formula (relV_ref _)) (pk_cons (pv 0) (pk_nil))) (pe_cmX cm_Formula_read hr (by omega) tk (pe_glob (by rfl) Z.g_Formula (relV_ref _)) (pa_cons (pv 0) pa_nil))) pa_nil)) pa_nil))))) (fun a oe cls d pn hz hf => pss_one (ps_set (i := 2) sc_law_heard.nd rfl (Or.inl rfl) (pe_lst (pa_cons pe_str (pa_cons (pe_xf Z.x12.xf Z.x12.no hz hf (pv 3)) pa_nil))))))
 (pss_one (ps_ret (pv 2)))), ?_⟩
  rintro ds W post ⟨v, b, rfl, rfl, hv, k⟩
  try dsimp only [cxOf, Cx.nox, Cx.wish]
  have h16 := sizeLine_eq
  have hgood : ∀ (s : Str) (f : Fm), v = .str s → rdOf s = ([], true) → f.spell = s → heardD v = .lst [.str "read", .str f.spell] := fun s f e h1 h2 => by
    subst e
    unfold heardD
    rw [hw_str, if_pos h1, h2]
  have hread : ∀ {G : Gm} {R : D → Om → Prop} {ex : Nat → Addr → Om → Prop}, (∀ f : Fm, heardD v = .lst [.str "read", .str f.spell] → f.okF → R (.fm f) []) → (∀ d W' y, hw v = (("bad" : Str), y) → (d, OD.xd ["place"] [.vl y]) ∈ W' → ex 12 d W') → HandX (S_readX (cl 0)) [.adr (cl 0), v] [] R ex := by
    intro G R ex h1 h2
    refine handX0 ⟨v, rfl, rfl, ?_⟩
    rcases hv with ⟨s, rfl, hok, hlo, hle⟩ | hn
    · refine .inl ⟨s, rfl, hok, fun f e1 e2 e3 => h1 f (hgood s f rfl e1 e3) e2, fun hne d W' hm => h2 d _ _ (by rw [hw_str, if_neg hne]) ?_⟩
      exact List.mem_append_left _ hm
    · exact .inr ⟨hn, fun d W' hm => h2 d _ _ (hw_not hn) (List.mem_append_left _ hm)⟩
  walk_at "st"
  refine sw_ofX (W0 := fun _ _ _ _ => False) ?_
  generalize hwx : wAs K (Value.ref (cl 12)) 3 _ _ = wx
  revert wx
  refine (swx_tryG (T := ⟨K, cl⟩) (cc := 12) (ex1 := fun c d G' W' => c = 12 ∧ G' = [some v, some (.bl b), some .non, none] ∧ ∃ y : V, (d, OD.xd ["place"] [.vl y]) ∈ W' ∧ hw v = (("bad" : Str), y)) (fun _ _ => rfl) (fun W1 => ?_) ?_)
  · refine swx_set (evx_lstF (evax_cons (evx_of (ev_c (evax_cons (evx_cb (evax_cons (evx_if ?_))))))))
    walk_at "st"
    cases b with
    | true =>
      walk_at "st"
      refine ⟨rfl, ?_⟩
      walk_at "st"
      refine ⟨rfl, [.adr (cl 0), v], fun H x zs hx hz => ⟨x, zs, rfl, hx, hz⟩, ?_⟩
      refine hread (G := []) (fun f h1 h2 => ?_) (fun d W' y hy hm => ⟨rfl, rfl, y, hm, hy⟩)
      refine evax_nil ?_
      walk_at "st"
      refine hand0 ⟨f, rfl, rfl, ⟨_, rfl⟩, ?_⟩
      try simp only [List.nil_append]
      try walk_at "st"
      refine evax_nil ?_
      refine ⟨by show 2 ≤ _; omega, ?_⟩
      walk_at "st"
      rw [← h1]
      exact k
    | false =>
      walk_at "st"
      refine ⟨rfl, ?_⟩
      walk_at "st"
      refine hread (G := []) (fun f h1 h2 => ?_) (fun d W' y hy hm => ⟨rfl, rfl, y, hm, hy⟩)
      refine evax_nil ?_
      walk_at "st"
      refine hand0 ⟨f, rfl, rfl, ⟨_, rfl⟩, ?_⟩
      try simp only [List.nil_append]
      try walk_at "st"
      refine evax_nil ?_
      refine ⟨by show 2 ≤ _; omega, ?_⟩
      walk_at "st"
      rw [← h1]
      exact k
  · rintro c d G' W' ⟨rfl, rfl, y, hm, hy⟩
    refine ⟨true, Z.v12_12, fun _ a => ?_, fun h => by cases h⟩
    refine sw_set (ev_lstF (ea_cons (ev_c (ea_cons (ev_xf ?_)))))
    walk_at "st"
    refine ⟨rfl, _, _, _, hm, rfl, ?_⟩
    refine ea_nil ⟨by show 2 ≤ _; omega, ?_⟩
    show Sw _ _ (tRet (tVar 2)) _ _ _
    refine sw_drp (List.nil_sublist _) ?_
    walk_at "st"
    have e : heardD v = .lst [.str "bad", .vl y] := by
      unfold heardD
      rw [hy]
    rw [← e]
    exact k
abbrev s_law_right : Stmt := top 36
theorem sc_law_right : FnScope ["_law_written", "_law_due", "_law_place_due"] ["_law_written"] (defScope s_law_right) := ⟨rfl, rfl, rfl, by decide +kernel, rfl, by decide +kernel, by decide +kernel⟩
theorem c_law_right {P : Program} {w : World} {K : PySem.W.Frag} {mg : Str → Option Value} {base : Heap} {cl : Nat → Addr} {f : Addr} {fd : FuncData} (hm : mg "_law_right" = some (.ref f)) (B : Blt mg) (Z : ZZ K w mg cl) (Fn : Fun K "_law_right" "_law_right" s_law_right f fd)
    (c_law_read : Cal P w K mg base 1 "_law_read" (spN FK ⟨K, cl⟩ S_lread) [])
    (c_law_heard : Cal P w K mg base 11 "_law_heard" (spN FK ⟨K, cl⟩ S_heard5) []) : CalG P w K mg base 12 "_law_right" (spN FK ⟨K, cl⟩ S_right5) := by
  have fz := Z.z0
  refine calG hm Fn sc_law_right (by intro ds W post h; first | (obtain ⟨rfl, _⟩ := h; rfl) | (obtain ⟨_, rfl, _⟩ := h; rfl) | (obtain ⟨_, _, rfl, _⟩ := h; rfl) | (obtain ⟨_, _, _, rfl, _⟩ := h; rfl) | (obtain ⟨_, _, _, _, rfl, _⟩ := h; rfl) | (obtain ⟨_, _, _, _, _, rfl, _⟩ := h; rfl) | (obtain ⟨_, _, _, _, _, _, rfl, _⟩ := h; rfl) | (obtain ⟨_, _, _, _, _, _, _, rfl, _⟩ := h; rfl) | (obtain ⟨_, _, _, _, _, _, _, _, rfl, _⟩ := h; rfl) | (obtain ⟨_, _, _, _, _, _, _, _, _, rfl, _⟩ := h; rfl) | (obtain ⟨_, _, _, _, _, _, _, _, _, _, rfl, _⟩ := h; rfl) | (obtain ⟨_, _, _, _, _, _, _, _, _, _, _, rfl, _⟩ := h; rfl)) (fun _ _ _ _ _ _ us hl => match us, hl with | [_], _ => rfl) fun cdv A outer s H hg hr => ⟨_, pss_cons (ps_set (i := 1) sc_law_right.nd rfl (Or.inl rfl) (pe_lst (pa_cons pe_str (pa_cons (pe_un un_neg pe_int) pa_nil))))
 (pss_cons (ps_if (pt_val (pe_callB call_isi (by rfl) B.isinstance bt_isinstance (pa_cons (pv 0) (pa_cons (pe_bltn (by rfl) B.str bt_str (relV_ty _)) pa_nil)))) (pss_cons (ps_set (i := 2) sc_law_right.nd rfl (Or.inl rfl) (pe_c c_law_read hr (by omega) (by rfl) (pa_cons (pv 0) pa_nil)))
 (pss_one (ps_set (i := 1) sc_law_right.nd rfl (Or.inl rfl) (pe_ifExp (pt_cmpR op_eq (pv 2) (pe_un un_neg pe_int) (nomark _)) (pe_lst (pa_cons pe_str (pa_cons (pv 0) pa_nil))) (pe_lst (pa_cons pe_str (pa_cons (pv 2) pa_nil))))))) (pss_nil))
 (pss_one (ps_ret (pe_cmpR op_eq (pe_callB (call_repr_data hg hr.units) (by rfl) B.repr bt_repr (pa_cons (pe_lst (pa_cons (pe_c c_law_heard hr (by omega) (by rfl) (pa_cons (pv 0) (pa_cons pe_bl pa_nil))) (pa_cons (pe_c c_law_heard hr (by omega) (by rfl) (pa_cons (pv 0) (pa_cons pe_bl pa_nil))) pa_nil))) pa_nil)) (pe_callB (call_repr_data hg hr.units) (by rfl) B.repr bt_repr (pa_cons (pe_lst (pa_cons (pv 1) (pa_cons (pv 1) pa_nil))) pa_nil)) (nomark _))))), ?_⟩
  rintro ds W post ⟨v, rfl, rfl, hv, k⟩
  try dsimp only [cxOf, Cx.nox, Cx.wish]
  have h16 := sizeLine_eq
  rcases id hv with ⟨s, rfl, hok, hlo, hle⟩ | hn
  · walk_at "st"
    refine hand0 ⟨s, rfl, rfl, hok.1, ?_⟩
    try simp only [List.nil_append]
    try walk_at "st"
    by_cases h : rdOf s = ([], true)
    · refine if_so ((decide_eq_true (place_read.mpr h))) ?_
      try walk_at "st"
      have e : heardD (.str s) = .lst [.str "read", .str s] := by unfold heardD; rw [hw_str, if_pos h]
      have e2 : (D.lst [.lst [.str "read", .str s], .lst [.str "read", .str s]]).pd = some (dueP5 (.str s)) := by rw [← e]; exact due5_pd hv
      walk_at "st"
      refine hand0 ⟨_, false, rfl, rfl, hv, ?_⟩
      try simp only [List.nil_append]
      try walk_at "st"
      walk_at "st"
      refine hand0 ⟨_, true, rfl, rfl, hv, ?_⟩
      try simp only [List.nil_append]
      try walk_at "st"
      refine ca_repr (.inl (due5_pd hv)) (due5_shw hv) ?_
      walk_at "st"
      refine ca_repr (p := dueP5 (.str s)) (.inl e2) (due5_shw hv) ?_
      walk_at "st"
      rw [eqself]
      exact k
    · refine if_not ((decide_eq_false fun e => h (place_read.mp e))) ?_
      try walk_at "st"
      have e : heardD (.str s) = .lst [.str "bad", .vl (.int (placeOf s))] := by unfold heardD; rw [hw_str, if_neg h, place_bad h]
      have e2 : (D.lst [.lst [.str "bad", .vl (.int (placeOf s))], .lst [.str "bad", .vl (.int (placeOf s))]]).pd = some (dueP5 (.str s)) := by rw [← e]; exact due5_pd hv
      walk_at "st"
      refine hand0 ⟨_, false, rfl, rfl, hv, ?_⟩
      try simp only [List.nil_append]
      try walk_at "st"
      walk_at "st"
      refine hand0 ⟨_, true, rfl, rfl, hv, ?_⟩
      try simp only [List.nil_append]
      try walk_at "st"
      refine ca_repr (.inl (due5_pd hv)) (due5_shw hv) ?_
      walk_at "st"
      refine ca_repr (p := dueP5 (.str s)) (.inl e2) (due5_shw hv) ?_
      walk_at "st"
      rw [eqself]
      exact k
  · walk_at "st"
    refine isi_notStr hn ?_
    walk_at "st"
    try refine if_not (by first | rfl | decide +kernel | simp) ?_
    try walk_at "st"
    have e : heardD v = .lst [.str "bad", .vl (.int (-1))] := by unfold heardD; rw [hw_not hn]
    have e2 : (D.lst [.lst [.str "bad", .vl (.int (-1))], .lst [.str "bad", .vl (.int (-1))]]).pd = some (dueP5 v) := by rw [← e]; exact due5_pd hv
    walk_at "st"
    refine hand0 ⟨_, false, rfl, rfl, hv, ?_⟩
    try simp only [List.nil_append]
    try walk_at "st"
    walk_at "st"
    refine hand0 ⟨_, true, rfl, rfl, hv, ?_⟩
    try simp only [List.nil_append]
    try walk_at "st"
    refine ca_repr (.inl (due5_pd hv)) (due5_shw hv) ?_
    walk_at "st"
    refine ca_repr (p := dueP5 v) (.inl e2) (due5_shw hv) ?_
    walk_at "st"
    rw [eqself]
    exact k
end N
set_option Elab.async false
set_option linter.all false
set_option maxRecDepth 100000
namespace N
open PySem PySem.Spec PyProof.Rows L2
open C8 (Cal Met Mak InsC pe_c pe_mt pe_mt0 pe_mk)
set_option maxHeartbeats 4000000

local macro_rules | `(tactic| walk_at "vl") => `(tactic| first | exact .inl (.inl rfl) | exact .inr ⟨_, rfl, List.mem_cons_self⟩ | exact .inr ⟨_, rfl, List.mem_cons_of_mem _ List.mem_cons_self⟩ | exact .inr ⟨_, rfl, List.mem_cons_of_mem _ (List.mem_cons_of_mem _ List.mem_cons_self)⟩ | exact .inr ⟨_, rfl, List.mem_cons_of_mem _ (List.mem_cons_of_mem _ (List.mem_cons_of_mem _ List.mem_cons_self))⟩ | exact .inl (.inr ⟨_, rfl, rfl⟩))
local macro_rules | `(tactic| walk_at "vt") => `(tactic| first | exact .inl rfl | exact .inr ⟨_, rfl, List.mem_cons_self⟩ | exact .inr ⟨_, rfl, List.mem_cons_of_mem _ List.mem_cons_self⟩ | exact .inr ⟨_, rfl, List.mem_cons_of_mem _ (List.mem_cons_of_mem _ List.mem_cons_self)⟩ | exact .inr ⟨_, rfl, List.mem_cons_of_mem _ (List.mem_cons_of_mem _ (List.mem_cons_of_mem _ List.mem_cons_self))⟩)
local macro_rules | `(tactic| walk_at "vd") => `(tactic| first | exact .inl rfl | exact .inr ⟨_, rfl, List.mem_cons_self⟩ | exact .inr ⟨_, rfl, List.mem_cons_of_mem _ List.mem_cons_self⟩ | exact .inr ⟨_, rfl, List.mem_cons_of_mem _ (List.mem_cons_of_mem _ List.mem_cons_self)⟩ | exact .inr ⟨_, rfl, List.mem_cons_of_mem _ (List.mem_cons_of_mem _ (List.mem_cons_of_mem _ List.mem_cons_self))⟩)
local macro_rules | `(tactic| walk_at "gg") => `(tactic| first | exact getG_hd _ _ _ | (refine getG_tl (by decide +kernel) ?_; walk_at "gg"))
local macro_rules | `(tactic| walk_at "vs") => `(tactic| first | exact .inr rfl | (refine .inl ?_; walk_at "vl"))
local macro_rules | `(tactic| walk_at "nc") => `(tactic| first | omega | (unfold CMul; omega) | (unfold CDiv; omega) | (unfold CPow; decide) | (show (0 : Int) < _; omega))
local macro_rules | `(tactic| walk_at "sx") => `(tactic| first
  | with_reducible refine swx_seq ?_ | with_reducible refine swx_set ?_ | with_reducible refine swx_if ?_ | with_reducible refine swx_asg ?_ | with_reducible refine swx_ret ?_ | with_reducible refine swx_drop ?_ | with_reducible refine swx_raise ?_ | with_reducible refine swx_next ?_ | with_reducible refine swx_brk ?_ | with_reducible refine swx_cont ?_ | with_reducible refine swx_retN ?_ | with_reducible refine swx_par ?_ | with_reducible refine swx_fld ?_
  | with_reducible refine evx_call ?_ | with_reducible refine evx_cm ?_ | with_reducible refine evx_cmk ?_ | with_reducible refine evx_mk ?_ | with_reducible refine evx_mkk ?_ | with_reducible refine evx_of ?_)
local macro_rules | `(tactic| walk_at "s1") => `(tactic| first
  | with_reducible refine sw_seq ?_ | with_reducible refine sw_set ?_ | (with_reducible refine' ev_var ?h ?_); (case h => rfl) | with_reducible refine ev_c ?_ | with_reducible refine ev_op ?_
  | with_reducible refine bo_I0 ?_ | with_reducible refine ev_tup ?_ | with_reducible refine ev_lstF ?_ | with_reducible refine ev_cb ?_ | with_reducible refine ea_cons ?_ | with_reducible refine ea_nil ?_
  | with_reducible refine bo_eqI ?_ | with_reducible refine bo_neI ?_ | with_reducible refine bo_eqS ?_ | with_reducible refine bo_neS ?_ | with_reducible refine bo_eqB ?_ | with_reducible refine bo_neB ?_
  | with_reducible refine isi_str ?_ | (with_reducible refine' ca_intBt ?h1 ?_); (case h1 => decide +kernel) | (with_reducible refine' ca_intBf ?h1 ?_); (case h1 => decide +kernel) | with_reducible refine ca_intB ?_ | with_reducible refine ca_int ?_ | with_reducible refine ca_max2 ?_ | with_reducible refine ca_min2 ?_
  | with_reducible refine sw_if ?_ | with_reducible refine sw_ret ?_ | with_reducible refine sw_drop ?_ | with_reducible refine sw_setL ?_ | with_reducible refine sw_next ?_ | with_reducible refine sw_par ?_ | with_reducible refine ev_neg ?_ | with_reducible refine ev_mkF ?_ | with_reducible refine ev_inv ?_ | with_reducible refine ev_prpF ?_ | with_reducible refine ta_fld ?_ | with_reducible refine ta_name ?_ | (with_reducible refine' ta_tup ?hl ?_); (case hl => rfl) | with_reducible refine tas_cons ?_ | with_reducible refine tas_nil ?_
  | with_reducible refine et_ifE ?_ | with_reducible refine ev_orV ?_ | with_reducible refine ev_andV ?_ | with_reducible refine ev_notV ?_ | with_reducible refine et_or ?_ | with_reducible refine et_and ?_ | with_reducible refine sw_asgA ?_ | with_reducible refine sw_asg2 ?_ | with_reducible refine sw_asg3 ?_ | with_reducible refine sw_fld ?_ | with_reducible refine et_test ?_ | with_reducible refine et_B ?_ | with_reducible refine ⟨_, rfl, ?_⟩ | with_reducible refine ⟨_, _, rfl, ?_⟩ | with_reducible refine et_not ?_ | with_reducible refine ev_if ?_
  | (with_reducible refine' bo_ixL ?h1 ?h2 ?_); (case h1 => walk_at "vl"); (case h2 => rfl) | (with_reducible refine' bo_ixT ?h2 ?_); (case h2 => rfl) | with_reducible refine ev_call ?_ | ((with_reducible refine' ev_fwF ?hz ?hy ?_); (case hz => assumption); (case hy => assumption)) | (with_reducible refine' ev_fmF ?hz ?_; case hz => assumption) | with_reducible refine ev_fld ?_
  | with_reducible refine .inr ⟨_, _, rfl, FldW.below _, ?_⟩ | with_reducible refine .inr ⟨_, _, rfl, FldW.atoms _, ?_⟩ | with_reducible refine .inr ⟨_, _, rfl, FldW.bens _, ?_⟩ | with_reducible refine .inr ⟨_, _, rfl, FldW.hgts _, ?_⟩
  | with_reducible refine .inl ⟨_, _, rfl, FldF.kind _, ?_⟩ | with_reducible refine .inl ⟨_, _, rfl, FldF.parts _, ?_⟩ | with_reducible refine .inl ⟨_, _, rfl, FldF.many _, ?_⟩ | with_reducible refine .inl ⟨_, _, rfl, FldF.deep _, ?_⟩ | with_reducible refine .inl ⟨_, _, rfl, FldF.atoms _, ?_⟩ | with_reducible refine .inl ⟨_, _, rfl, FldF.bare _, ?_⟩ | with_reducible refine .inl ⟨_, _, rfl, FldF.spell _, ?_⟩ | with_reducible refine .inl ⟨_, _, rfl, FldF.alls _, ?_⟩
  | with_reducible refine ev_meth ?_ | ((with_reducible refine' ⟨_, _, inst_wb _, ?hm, ?_⟩); (case hm => decide +kernel)) | ((with_reducible refine' ⟨_, _, Inst.fm _, ?hm, ?_⟩); (case hm => decide +kernel))
  | with_reducible refine ⟨_, _, rfl, FldF.kind _, ?_⟩ | with_reducible refine ⟨_, _, rfl, FldF.parts _, ?_⟩ | with_reducible refine ⟨_, _, rfl, FldF.many _, ?_⟩ | with_reducible refine ⟨_, _, rfl, FldF.deep _, ?_⟩ | with_reducible refine ⟨_, _, rfl, FldF.atoms _, ?_⟩ | with_reducible refine ⟨_, _, rfl, FldF.bare _, ?_⟩ | with_reducible refine ⟨_, _, rfl, FldF.spell _, ?_⟩ | with_reducible refine ⟨_, _, rfl, FldF.alls _, ?_⟩
  | ((with_reducible refine' ⟨len_ok ?hl, ?_⟩); (case hl => exact Nat.le_of_ble_eq_true rfl))
  | (with_reducible refine' bo_I ?h1 ?_); (case h1 => walk_at "nc")
  | with_reducible refine ev_sl ?_ | with_reducible refine eo_none ?_ | with_reducible refine eo_some ?_ | (with_reducible refine' ca_slF ?h1 ?_); (case h1 => walk_at "vl") | with_reducible refine ev_revF ?_ | with_reducible refine ev_dget ?_ | with_reducible refine sw_dput ?_ | with_reducible refine ev_dispF ?_ | with_reducible refine eps_cons ?_ | with_reducible refine eps_nil ?_ | with_reducible refine exk_str ?_ | with_reducible refine exk_int ?_ | (with_reducible refine' dg_str ?h1 ?h2 ?_); (case h1 => walk_at "vd"); (case h2 => walk_at "gg")
  | with_reducible refine unr_cons ?_ | with_reducible refine unr_nil ?_ | with_reducible refine swu_cons ?_ | with_reducible refine swu_nil ?_ | with_reducible refine et_yes ?_ | with_reducible refine tg_name ?_ | (with_reducible refine' tw_name ?h1 ?_); (case h1 => simp) | ((with_reducible refine' ⟨acc_ok ?h1, ?_⟩); (case h1 => exact Nat.le_of_ble_eq_true rfl)) | with_reducible refine ei_tup ?_ | with_reducible refine ei_list ?_ | with_reducible refine ei_rng1 ?_
  | with_reducible refine ca_strF ?_ | with_reducible refine ca_lenF ?_ | with_reducible refine isi_tup ?_ | with_reducible refine isi_int ?_ | with_reducible refine isi_intB ?_ | with_reducible refine et_chain ?_ | with_reducible refine ev_chain ?_ | (with_reducible refine' isi_fm ?hz ?_; case hz => assumption)
  | (with_reducible refine' ca_len ?h1 ?_); (case h1 => walk_at "vs")
  | (with_reducible refine' if_so ?h1 ?_); (case h1 => first | rfl | decide +kernel) | (with_reducible refine' if_not ?h1 ?_); (case h1 => first | rfl | decide +kernel))
local macro_rules | `(tactic| walk_at "st") => `(tactic| repeat first | walk_at "s1" | walk_at "sx")
abbrev s_law : Stmt := top 37
theorem sc_law : FnScope ["_law_script", "_law_deck_here", "_law_lap", "_law_written", "_law_go", "_law_bent_here", "_law_fixed", "_law_values", "_law_item"] ["_law_script"] (defScope s_law) := ⟨rfl, rfl, rfl, by decide +kernel, rfl, by decide +kernel, by decide +kernel⟩
theorem c_law {P : Program} {w : World} {K : PySem.W.Frag} {mg : Str → Option Value} {base : Heap} {cl : Nat → Addr} {f : Addr} {fd : FuncData} (hm : mg "law" = some (.ref f)) (B : Blt mg) (Z : ZZ K w mg cl) (Fn : Fun K "law" "law" s_law f fd)
    (c_law_deck : Cal P w K mg base 1 "_law_deck" (spN FK ⟨K, cl⟩ (S_deck DkA)) [])
    (c_law_pick : Cal P w K mg base 2 "_law_pick" (spN FK ⟨K, cl⟩ (S_pick DkA)) [])
    (c_law_draw : Cal P w K mg base 1 "_law_draw" (spN FK ⟨K, cl⟩ (S_draw DkA)) [])
    (c_law_form : Cal P w K mg base 23 "_law_form" (spN FK ⟨K, cl⟩ ((S_form DkA) 20)) [])
    (c_law_text : Cal P w K mg base 21 "_law_text" (spN FK ⟨K, cl⟩ (S_text 20)) [])
    (c_law_bent : Cal P w K mg base 3 "_law_bent" (spN FK ⟨K, cl⟩ S_bent5) [])
    (c_law_right : CalG P w K mg base 12 "_law_right" (spN FK ⟨K, cl⟩ S_right5)) : CalG P w K mg base 24 "law" (spN FK ⟨K, cl⟩ S_law) := by
  have fz := Z.z0
  refine calG hm Fn sc_law (by intro ds W post h; first | (obtain ⟨rfl, _⟩ := h; rfl) | (obtain ⟨_, rfl, _⟩ := h; rfl) | (obtain ⟨_, _, rfl, _⟩ := h; rfl) | (obtain ⟨_, _, _, rfl, _⟩ := h; rfl) | (obtain ⟨_, _, _, _, rfl, _⟩ := h; rfl) | (obtain ⟨_, _, _, _, _, rfl, _⟩ := h; rfl) | (obtain ⟨_, _, _, _, _, _, rfl, _⟩ := h; rfl) | (obtain ⟨_, _, _, _, _, _, _, rfl, _⟩ := h; rfl) | (obtain ⟨_, _, _, _, _, _, _, _, rfl, _⟩ := h; rfl) | (obtain ⟨_, _, _, _, _, _, _, _, _, rfl, _⟩ := h; rfl) | (obtain ⟨_, _, _, _, _, _, _, _, _, _, rfl, _⟩ := h; rfl) | (obtain ⟨_, _, _, _, _, _, _, _, _, _, _, rfl, _⟩ := h; rfl)) (fun _ _ _ _ _ _ us hl => match us, hl with | [_], _ => rfl) fun cdv A outer s H hg hr => ⟨_, pss_cons (ps_set (i := 1) sc_law.nd rfl (Or.inl rfl) (pe_c c_law_deck hr (by omega) (by rfl) (pa_cons (pv 0) pa_nil)))
 (pss_cons (ps_for PassesOwn.never rfl (pi_range1 (by rfl) B.range (pa_cons pe_int pa_nil)) (pg_name (i := 2) sc_law.nd rfl (Or.inl rfl)) (pss_cons (ps_set (i := 3) sc_law.nd rfl (Or.inl rfl) (pe_c c_law_text hr (by omega) (by rfl) (pa_cons (pe_c c_law_form hr (by omega) (by rfl) (pa_cons (pv 1) (pa_cons (pe_c c_law_pick hr (by omega) (by rfl) (pa_cons (pv 1) (pa_cons (pe_lst (pa_cons pe_str (pa_cons pe_str (pa_cons pe_str (pa_cons pe_str pa_nil))))) pa_nil))) (pa_cons (pe_c c_law_draw hr (by omega) (by rfl) (pa_cons (pv 1) (pa_cons pe_int pa_nil))) pa_nil)))) pa_nil)))
 (pss_one (ps_for PassesOwn.never rfl (pi_range1 (by rfl) B.range (pa_cons pe_int pa_nil)) (pg_name (i := 4) sc_law.nd rfl (Or.inl rfl)) (pss_cons (ps_set (i := 5) sc_law.nd rfl (Or.inl rfl) (pe_c c_law_bent hr (by omega) (by rfl) (pa_cons (pv 1) (pa_cons (pv 3) pa_nil))))
 (pss_one (ps_if (PW.pt (pw_or (pt_not (pt_val (pe_cg c_law_right hg hr (by omega) (by rfl) (pa_cons (pv 5) pa_nil)))) (pw_or1 (PW.pt (pw_and (pt_cmpR op_eq (pe_c c_law_draw hr (by omega) (by rfl) (pa_cons (pv 1) (pa_cons pe_int pa_nil))) pe_int (nomark _)) (pw_and1 (pt_not (pt_val (pe_cg c_law_right hg hr (by omega) (by rfl) (pa_cons (pe_c c_law_bent hr (by omega) (by rfl) (pa_cons (pv 1) (pa_cons (pv 5) pa_nil))) pa_nil)))))))))) (pss_one (ps_ret pe_bl)) (pss_nil))))))))
 (pss_cons (ps_set (i := 6) sc_law.nd rfl (Or.inl rfl) (pe_lst (pa_cons pe_str (pa_cons pe_str (pa_cons pe_str (pa_cons pe_str (pa_cons pe_str (pa_cons pe_str (pa_cons pe_str (pa_cons pe_str (pa_cons pe_str (pa_cons pe_str (pa_cons pe_str (pa_cons pe_str (pa_cons pe_str (pa_cons pe_str (pa_cons pe_str pa_nil)))))))))))))))))
 (pss_cons (ps_set (i := 6) sc_law.nd rfl (Or.inl rfl) (pe_op op_cat (pv 6) (pe_lst (pa_cons pe_str (pa_cons pe_str (pa_cons pe_str (pa_cons pe_str (pa_cons pe_str (pa_cons pe_str (pa_cons pe_str (pa_cons pe_str (pa_cons pe_str pa_nil))))))))))))
 (pss_cons (ps_set (i := 6) sc_law.nd rfl (Or.inl rfl) (pe_op op_cat (pv 6) (pe_lst (pa_cons pe_str (pa_cons pe_str (pa_cons (pe_op op_add_str (pe_op op_mul_str pe_str pe_int) pe_str) (pa_cons (pe_op op_mul_str pe_str pe_int) (pa_cons (pe_op op_mul_str pe_str pe_int) (pa_cons (pe_op op_mul_str pe_str pe_int) pa_nil)))))))))
 (pss_cons (ps_set (i := 6) sc_law.nd rfl (Or.inl rfl) (pe_op op_cat (pv 6) (pe_lst (pa_cons pe_str (pa_cons pe_str (pa_cons pe_str (pa_cons pe_str (pa_cons pe_str (pa_cons pe_str (pa_cons pe_str pa_nil))))))))))
 (pss_cons (ps_set (i := 6) sc_law.nd rfl (Or.inl rfl) (pe_op op_cat (pv 6) (pe_lst (pa_cons (pe_op op_add_str (pe_op op_add_str (pe_op op_mul_str pe_str pe_int) pe_str) (pe_op op_mul_str pe_str pe_int)) (pa_cons (pe_op op_add_str (pe_op op_add_str (pe_op op_mul_str pe_str pe_int) pe_str) (pe_op op_mul_str pe_str pe_int)) pa_nil)))))
 (pss_cons (ps_set (i := 7) sc_law.nd rfl (Or.inl rfl) (pe_lst (pa_cons pe_non (pa_cons pe_bl (pa_cons pe_int (pa_cons (pe_tup pa_nil) (pa_cons (pe_lst (pa_cons pe_str pa_nil)) (pa_cons pe_dnewK (pa_cons (pe_tup (pa_cons pe_str pa_nil)) (pa_cons (pe_un un_neg pe_int) (pa_cons (pe_lst pa_nil) (pa_cons (pe_disp (pps_cons pe_str pe_int pps_nil) (by rfl) (by rfl) (fun z => by cases z) (by decide)) pa_nil))))))))))))
 (pss_one (ps_ret (pe_cmpR (op_eqE hr.units) (pe_lc (own := [("_law_item", 8)]) (by rfl) sc_law.nd (pi_list (pe_op op_cat (pv 6) (pv 7))) (blkOk_by (own := [("_law_item", 8)]) (N := ["_law_script", "_law_deck_here", "_law_lap", "_law_written", "_law_go", "_law_bent_here", "_law_fixed", "_law_values", "_law_item"]) (sc := defScope s_law) (by decide +kernel)) (fun _ _ _ _ _ => (pg_name (i := 8) sc_law.nd rfl (Or.inl rfl))) (fun _ _ _ _ _ => pts_one (pt_not (pt_val (pe_cg c_law_right hg hr (by omega) (by rfl) (pa_cons (pv 8) pa_nil))))) (fun _ _ _ _ _ => (pv 8))) (pe_lst pa_nil) (nomark _))))))))))), ?_⟩
  rintro ds W post ⟨ns, rfl, rfl, hl, k⟩
  try dsimp only [cxOf, Cx.nox, Cx.wish]
  have h16 := sizeLine_eq
  walk_at "st"
  refine handA ⟨ns, rfl, rfl, hl, fun a W hd => ?_⟩
  try walk_at "st"
  refine sw_for (ei_rng1 ?_)
  walk_at "st"
  refine ⟨by omega, by omega, fun i G W => DkA a (1000 * (i : Nat)) W ∧ ∃ o2 o3 o4 o5, G = [some (.scr (ns.map V.int)), some (.adr a), o2, o3, o4, o5, none, none, none], ⟨DkA_mono hd (by omega), _, _, _, _, rfl⟩, ?_, ?_⟩
  · rintro i d G' W' hdd ⟨hd, o2, o3, o4, o5, rfl⟩
    have hi : i < 5 := (rng_get hdd).1
    walk_at "st"
    refine handA ⟨a, _, _, rfl, hd, by omega, .inl ⟨_, .inl rfl, by simp, by simp, fun z hz W1 hd1 => ?_⟩⟩
    try walk_at "st"
    obtain ⟨p, rfl, hp, hp0, hp1⟩ := pools5 z hz
    walk_at "st"
    refine handA ⟨a, _, 5, rfl, hd1, by omega, by omega, by omega, fun n W2 n0 n1 hd2 => ?_⟩
    try walk_at "st"
    obtain ⟨n, rfl⟩ := Int.eq_ofNat_of_zero_le n0
    have hpw : (2 : Int) ^ n ≤ 16 := by
      have : (2 : Nat) ^ n ≤ 2 ^ 4 := Nat.pow_le_pow_right (by omega) (by omega)
      have e : ((2 ^ n : Nat) : Int) = (2 : Int) ^ n := by rw [Int.natCast_pow]; rfl
      omega
    refine handA ⟨a, _, p, n, rfl, hd2, by omega, by omega, hp, hp0, hp1, by omega, fun f W3 f1 f2 hd3 => ?_⟩
    try walk_at "st"
    have hsz := N.sz_ht f
    have hf4 : 2 ^ f.ht ≤ 2 ^ 4 := Nat.pow_le_pow_right (by omega) (by omega)
    have h4 : (2 : Nat) ^ 4 = 16 := rfl
    refine hand0 ⟨f, rfl, rfl, by omega, by omega, ?_⟩
    try simp only [List.nil_append]
    try walk_at "st"
    have htx := txT_fm f1 (by omega)
    refine sw_for (ei_rng1 ?_)
    walk_at "st"
    refine ⟨by omega, by omega, fun j G W => DkA a (1000 * (i : Nat) + 100 + 100 * (j : Nat)) W ∧ ∃ o4 o5, G = [some (.scr (ns.map V.int)), some (.adr a), some d, some (.str f.spell), o4, o5, none, none, none], ⟨DkA_mono hd3 (by omega), _, _, rfl⟩, ?_, ?_⟩
    · rintro j d2 G' W' hd2 ⟨hd4, o4, o5, rfl⟩
      have hj : j < 6 := (rng_get hd2).1
      walk_at "st"
      refine handA ⟨a, _, f.spell, 107, 24, rfl, hd4, by omega, htx, by omega, fun r W5 hr hd5 => ?_⟩
      try walk_at "st"
      walk_at "st"
      refine hand0 ⟨.str r, rfl, rfl, hr.v5 (by omega) (by omega), ?_⟩
      try simp only [List.nil_append]
      try walk_at "st"
      walk_at "st"
      refine handA ⟨a, _, 2, rfl, hd5, by omega, by omega, by omega, fun y W6 y0 y1 hd6 => ?_⟩
      try walk_at "st"
      refine if_dec (fun hy => ?_) (fun hy => ?_)
      · walk_at "st"
        refine handA ⟨a, _, r, _, _, rfl, hd6, by omega, hr, by omega, fun r2 W7 hr2 hd7 => ?_⟩
        try walk_at "st"
        refine hand0 ⟨.str r2, rfl, rfl, hr2.v5 (by omega) (by omega), ?_⟩
        try simp only [List.nil_append]
        try walk_at "st"
        walk_at "st"
        exact ⟨DkA_mono hd7 (by push_cast; omega), _, _, rfl⟩
      · refine if_not rfl ?_
        walk_at "st"
        exact ⟨DkA_mono hd6 (by push_cast; omega), _, _, rfl⟩
    · rintro G' W' ⟨hd5, o4, o5, rfl⟩
      rw [show (rng 0 (Int.toNat 6)).length = 6 from rfl] at hd5
      exact ⟨DkA_mono hd5 (by push_cast; omega), _, _, _, _, rfl⟩
  rintro G' W' ⟨hd, o2, o3, o4, o5, rfl⟩
  refine sw_drp (List.nil_sublist _) ?_
  walk_at "st"
  refine bo_cat5 (v5L_str (L := ["", "a", "al", "all", "all ", "all a", "alla", "n", "no", "non", "nO", "ll", "(a)", "(a > b)", "(a >b)"]) (by decide +kernel)) (v5L_str (L := ["( a > b)", "a > b", "((a > b)", "(a > b))", "(a > b) ", " a", "all  a", "all all no", "~a"]) (by decide +kernel)) (by decide) fun L1 v1 n1 => ?_
  have n1 : L1.length = 24 := n1
  have t60 := txT_mul (n := 60) (okB_ok (n := 4) (c := 2) (s := "all ") (by decide +kernel)) (by omega) rfl
  have l60 := t60.len
  have t50 := txT_mul (n := 50) (okB_ok (n := 1) (c := 0) (s := "(") (by decide +kernel)) (by omega) rfl
  have t50b := txT_mul (n := 50) (okB_ok (n := 5) (c := 0) (s := " > b)") (by decide +kernel)) (by omega) rfl
  have t49b := txT_mul (n := 49) (okB_ok (n := 5) (c := 0) (s := " > b)") (by decide +kernel)) (by omega) rfl
  have tb := okB_ok (n := 1) (c := 0) (s := "b") (by decide +kernel)
  have ta := okB_ok (n := 1) (c := 0) (s := "a") (by decide +kernel)
  have m1 := (t60.app tb).v5 (by omega) (by omega)
  have m2 := ((t50.app ta).app t50b).v5 (by omega) (by omega)
  have m3 := ((t50.app ta).app t49b).v5 (by omega) (by omega)
  have l50 := t50.len
  have l50a := (t50.app ta).len
  have l50b := t50b.len
  have l49b := t49b.len
  have lb : ("b" : Str).length = 1 := rfl
  have la : ("a" : Str).length = 1 := rfl
  walk_at "st"
  refine bo_mulS (n := 60) (by decide) ?_
  walk_at "st"
  refine bo_addS (by omega) ?_
  walk_at "st"
  refine bo_mulS (n := 500) (by decide) ?_
  walk_at "st"
  refine bo_mulS (n := 300) (by decide) ?_
  walk_at "st"
  refine bo_mulS (n := 2000) (by decide) ?_
  walk_at "st"
  refine bo_cat5 v1 (v5L_cons (v5_str (s := "(no > all)") (by decide +kernel)) (v5L_cons (v5_str (s := "a\n") (by decide +kernel)) (v5L_cons m1 (v5L_cons v5_alls (v5L_cons (v5_mul (x := "(") (n := 300) (by decide +kernel) (by omega) (by omega) rfl) (v5L_cons (v5_mul (x := "(") (n := 2000) (by decide +kernel) (by omega) (by omega) rfl) v5L_nil)))))) (by rw [n1]; decide) fun L2 v2 n2 => ?_
  have n2 : L2.length = L1.length + 6 := n2
  walk_at "st"
  refine bo_cat5 v2 (v5L_str (L := ["_", "[", "^", "`", "(_ > a)", "all \\", "all ]"]) (by decide +kernel)) (by rw [n2, n1]; decide) fun L3 v3 n3 => ?_
  have n3 : L3.length = L2.length + 7 := n3
  walk_at "st"
  refine bo_mulS (n := 50) (by decide) ?_
  walk_at "st"
  refine bo_addS (by omega) ?_
  walk_at "st"
  refine bo_mulS (n := 50) (by decide) ?_
  walk_at "st"
  refine bo_addS (by omega) ?_
  walk_at "st"
  refine bo_mulS (n := 50) (by decide) ?_
  walk_at "st"
  refine bo_addS (by omega) ?_
  walk_at "st"
  refine bo_mulS (n := 49) (by decide) ?_
  walk_at "st"
  refine bo_addS (by omega) ?_
  walk_at "st"
  refine bo_cat5 v3 (v5L_cons m2 (v5L_cons m3 v5L_nil)) (by rw [n3, n2, n1]; decide) fun L4 v4 n4 => ?_
  have n4 : L4.length = L3.length + 2 := n4
  walk_at "st"
  refine ev_dnewF ?_
  walk_at "st"
  refine ⟨by decide, ea_nil ⟨by show 10 ≤ _; omega, ?_⟩⟩
  walk_at "st"
  refine ev_lcP (ei_list ?_)
  walk_at "st"
  refine bo_cat5 v4 (v5L_cons (.inr .non) (v5L_cons (.inr (.bl _)) (v5L_cons (.inr (.int _)) (v5L_cons (.inr (.tup _)) (v5L_cons (.inr (.lst _)) (v5L_cons (.inr (.dct _ _)) (v5L_cons (.inr (.tup _)) (v5L_cons (.inr (.int _)) (v5L_cons (.inr (.lst _)) (v5L_cons (.inr (.dct _ _)) v5L_nil)))))))))) (by rw [n4, n3, n2, n1]; decide) fun L5 v5 n5 => ?_
  have n5 : L5.length = L4.length + 10 := n5
  walk_at "st"
  refine ⟨L5.map fun _ => (false, .non), fun i d e hd he => ?_, by simp, by simp; omega, ?_⟩
  · have hv := v5 d (List.mem_of_getElem? hd)
    obtain ⟨_, _, rfl⟩ := List.mem_map.mp (List.mem_of_getElem? he)
    refine tw_name (by simp) ?_
    walk_at "st"
    refine hand0 ⟨d, rfl, rfl, hv, ?_⟩
    try simp only [List.nil_append]
    try walk_at "st"
    exact ⟨rfl, if_not rfl trivial⟩
  walk_at "st"
  refine bo_eqE (.inl (.inl rfl)) (.inl (.inl rfl)) ?_
  rw [show (List.filter (fun x : Bool × D => x.1) (L5.map fun _ => (false, D.non))) = [] from List.filter_eq_nil_iff.mpr fun x hx => by obtain ⟨_, _, rfl⟩ := List.mem_map.mp hx; simp]
  exact k _

end N
set_option Elab.async false
set_option linter.all false
set_option maxRecDepth 100000
namespace N
open PySem PySem.Spec PyProof.Rows L2
open C8 (Cal Met Mak InsC)
set_option maxHeartbeats 4000000
theorem all_mk {P : Program} {w : World} {K : PySem.W.Frag} {h base : Heap} {mg : Str → Option Value} {fa : Addr} (X : K.In h) (G : h.Ns mainGlobals mg) (hfa : mg "law" = some (.ref fa)) (hw : w = w)
    {C0 : Addr} {C12 : Addr}
    {t0 : PySem.Tok}
    {t1 : PySem.Tok}
    {t2 : PySem.Tok}
    {t3 : PySem.Tok}
    {t4 : PySem.Tok}
    {dd5 : Addr} {es5 : Array DictEntry} {en5 : Nat} {u5_0 : PySem.Tok} {u5_1 : PySem.Tok} {u5_2 : PySem.Tok} {u5_3 : PySem.Tok}
    {t6 : PySem.Tok}
    {t7 : PySem.Tok}
    
    {nme12 qne12 : Str} {NAe12 : Addr} {bse12 : List Value} {sne12 : List Str} {sube12 : List Value} {abe12 : Bool} {coe12 : Option Bool} {dde12 : Option Addr} {x0e12 x1e12 x2e12 x3e12 x5e12 : Option Value}
    {CW : Addr}
    {f1 : Addr} {od1 an1 : Option Addr} {sl1 : Array (Option Value)} {oc1 kV1 dc1 pm1 cd1 ct1 : Value}
    {f2 : Addr} {od2 an2 : Option Addr} {sl2 : Array (Option Value)} {oc2 kV2 dc2 pm2 cd2 ct2 : Value}
    {f3 : Addr} {od3 an3 : Option Addr} {sl3 : Array (Option Value)} {oc3 kV3 dc3 pm3 cd3 ct3 : Value}
    {f4 : Addr} {od4 an4 : Option Addr} {sl4 : Array (Option Value)} {oc4 kV4 dc4 pm4 cd4 ct4 : Value}
    {f5 : Addr} {od5 an5 : Option Addr} {sl5 : Array (Option Value)} {oc5 kV5 dc5 pm5 cd5 ct5 : Value}
    {f6 : Addr} {od6 an6 : Option Addr} {sl6 : Array (Option Value)} {oc6 kV6 dc6 pm6 cd6 ct6 : Value}
    {f7 : Addr} {od7 an7 : Option Addr} {sl7 : Array (Option Value)} {oc7 kV7 dc7 pm7 cd7 ct7 : Value}
    {f8 : Addr} {od8 an8 : Option Addr} {sl8 : Array (Option Value)} {oc8 kV8 dc8 pm8 cd8 ct8 : Value}
    {f9 : Addr} {od9 an9 : Option Addr} {sl9 : Array (Option Value)} {oc9 kV9 dc9 pm9 cd9 ct9 : Value}
    {f10 : Addr} {od10 an10 : Option Addr} {sl10 : Array (Option Value)} {oc10 kV10 dc10 pm10 cd10 ct10 : Value}
    {f11 : Addr} {od11 an11 : Option Addr} {sl11 : Array (Option Value)} {oc11 kV11 dc11 pm11 cd11 ct11 : Value}
    {pA12 : Addr} {pR12 : List Value}
    {f12 : Addr} {od12 an12 : Option Addr} {sl12 : Array (Option Value)} {oc12 kV12 dc12 pm12 cd12 ct12 : Value}
    {f13 : Addr} {od13 an13 : Option Addr} {sl13 : Array (Option Value)} {oc13 kV13 dc13 pm13 cd13 ct13 : Value}
    {f14 : Addr} {od14 an14 : Option Addr} {sl14 : Array (Option Value)} {oc14 kV14 dc14 pm14 cd14 ct14 : Value}
    {f15 : Addr} {od15 an15 : Option Addr} {sl15 : Array (Option Value)} {oc15 kV15 dc15 pm15 cd15 ct15 : Value}
    {f16 : Addr} {od16 an16 : Option Addr} {sl16 : Array (Option Value)} {oc16 kV16 dc16 pm16 cd16 ct16 : Value}
    {f17 : Addr} {od17 an17 : Option Addr} {sl17 : Array (Option Value)} {oc17 kV17 dc17 pm17 cd17 ct17 : Value}
    {f18 : Addr} {od18 an18 : Option Addr} {sl18 : Array (Option Value)} {oc18 kV18 dc18 pm18 cd18 ct18 : Value}
    {f19 : Addr} {od19 an19 : Option Addr} {sl19 : Array (Option Value)} {oc19 kV19 dc19 pm19 cd19 ct19 : Value}
    {f20 : Addr} {od20 an20 : Option Addr} {sl20 : Array (Option Value)} {oc20 kV20 dc20 pm20 cd20 ct20 : Value}
    {f21 : Addr} {od21 an21 : Option Addr} {sl21 : Array (Option Value)} {oc21 kV21 dc21 pm21 cd21 ct21 : Value}
    {f22 : Addr} {od22 an22 : Option Addr} {sl22 : Array (Option Value)} {oc22 kV22 dc22 pm22 cd22 ct22 : Value}
    (z0 : PySem.W.nsIn K mainGlobals "len" = some none)
    (z1 : PySem.W.nsIn K mainGlobals "int" = some none)
    (z2 : PySem.W.nsIn K mainGlobals "str" = some none)
    (z3 : PySem.W.nsIn K mainGlobals "range" = some none)
    (z4 : PySem.W.nsIn K mainGlobals "list" = some none)
    (z5 : PySem.W.nsIn K mainGlobals "tuple" = some none)
    (z6 : PySem.W.nsIn K mainGlobals "dict" = some none)
    (z7 : PySem.W.nsIn K mainGlobals "set" = some none)
    (z8 : PySem.W.nsIn K mainGlobals "sorted" = some none)
    (z9 : PySem.W.nsIn K mainGlobals "isinstance" = some none)
    (z10 : PySem.W.nsIn K mainGlobals "repr" = some none)
    (z11 : PySem.W.nsIn K mainGlobals "max" = some none)
    (z12 : PySem.W.nsIn K mainGlobals "min" = some none)
    (z13 : PySem.W.nsIn K mainGlobals "sum" = some none)
    (z14 : PySem.W.nsIn K mainGlobals "all" = some none)
    (z15 : PySem.W.nsIn K mainGlobals "any" = some none)
    (z16 : PySem.W.nsIn K mainGlobals "zip" = some none)
    (z17 : PySem.W.nsIn K mainGlobals "enumerate" = some none)
    (z18 : PySem.W.nsIn K mainGlobals "bool" = some none)
    (z19 : PySem.W.nsIn K mainGlobals "reversed" = some none)
    (z20 : PySem.W.nsIn K mainGlobals "type" = some none)
    (s0 : PySem.W.nsIn K mainGlobals "LETTERS" = some (some (.str "ABCDEFGHIJKLMNOPQRSTUVWXYZabcdefghijklmnopqrstuvwxyz" t0)))
    (s1 : PySem.W.nsIn K mainGlobals "ATOM" = some (some (.str "atom" t1)))
    (s2 : PySem.W.nsIn K mainGlobals "NO" = some (some (.str "no" t2)))
    (s3 : PySem.W.nsIn K mainGlobals "IF" = some (some (.str "if" t3)))
    (s4 : PySem.W.nsIn K mainGlobals "ALL" = some (some (.str "all" t4)))
    (aP5 : PySem.W.nsIn K mainGlobals "PARTS_OF" = some (some (.ref dd5)))
    (lP5 : K.lookup dd5 = some ⟨.type "dict", none, .dict es5 en5, #[]⟩)
    (lit5 : PySem.W.KeysLit w.params es5.toList)
    (low5 : (dd5 == sysModules) = false)
    (p5_0 : PySem.W.nsIn K dd5 "atom" = some (some (.int 1 u5_0)))
    (p5_1 : PySem.W.nsIn K dd5 "no" = some (some (.int 0 u5_1)))
    (p5_2 : PySem.W.nsIn K dd5 "if" = some (some (.int 2 u5_2)))
    (p5_3 : PySem.W.nsIn K dd5 "all" = some (some (.int 1 u5_3)))
    (s6 : PySem.W.nsIn K mainGlobals "ALL_AHEAD" = some (some (.str "all " t6)))
    (s7 : PySem.W.nsIn K mainGlobals "BETWEEN" = some (some (.str " > " t7)))
    (aC0 : PySem.W.nsIn K mainGlobals "Formula" = some (some (.ref C0)))
    (pg0 : PySem.W.plainGet K C0 Str.empty = true)
    (hd0 : PySem.W.hasDictIn K C0 = true)
    (po0 : PySem.W.plainOver K C0 = true)
    (sa0 : PySem.W.findIn K (.ref C0) "__setattr__" = some (some (.builtin "object.__setattr__")))
    (mk0 : PySem.W.makesIn K C0 = true)
    (kc0 : PySem.W.keepIn K (.ref C0) = true)
    (n0_0 : PySem.W.findIn K (.ref C0) "kind" = some none)
    (n0_1 : PySem.W.findIn K (.ref C0) "parts" = some none)
    (n0_2 : PySem.W.findIn K (.ref C0) "many" = some none)
    (n0_3 : PySem.W.findIn K (.ref C0) "deepest" = some none)
    (n0_4 : PySem.W.findIn K (.ref C0) "atoms" = some none)
    (n0_5 : PySem.W.findIn K (.ref C0) "bare" = some none)
    (n0_6 : PySem.W.findIn K (.ref C0) "spelled" = some none)
    (n0_7 : PySem.W.findIn K (.ref C0) "alls_known" = some none)
    (ha0 : PySem.W.findIn K (.ref C0) "__class__" = some (some (.builtin "object.__class__")))
    (hn0 : PySem.W.specialIn K (.builtin "object.__class__") "__get__" = some (some (.builtin "getset_descriptor.__get__")))
    (htk0 : PySem.W.takesIn K (.builtin "object.__class__") = some true)
    (hmo0 : PySem.W.mroIn K C0 (.type "object") = some true)
    (me0 : PySem.W.kitOne K (.ref C0) (.ref C0) = some true)
    (sf0 : PySem.W.selfFirst K C0 = true)
    (is0 : PySem.W.kitOne K (.type "str") (.ref C0) = some false)
    (aC12 : PySem.W.nsIn K mainGlobals "BadText" = some (some (.ref C12)))
    (xL12 : K.lookup C12 = some (PySem.excClassObj nme12 qne12 C12 NAe12 bse12 [.ref CW, .type "Exception", .type "BaseException", .type "object"] true sne12 sube12 abe12 coe12 dde12 x0e12 x1e12 x2e12 x3e12 x5e12 "Exception.__new__"))
    (sa12 : PySem.W.findIn K (.ref C12) "__setattr__" = some (some (.builtin "object.__setattr__")))
    (eC12 : PySem.W.subIn K (.ref C12) (.type "BaseException") = some true)
    (tC12 : PySem.W.typeIn K (.ref C12) = some (.type "type"))
    (kc12 : PySem.W.keepIn K (.ref C12) = true)
    (ga12 : PySem.W.findIn K (.ref C12) "__getattribute__" = some (some (.builtin "BaseException.__getattribute__")))
    (gg12 : PySem.W.findIn K (.ref C12) "__getattr__" = some none)
    (hd12 : PySem.W.hasDictIn K C12 = true)
    (no12 : PySem.W.findIn K (.ref C12) "place" = some none)
    (xm12_12 : PySem.W.exmOne K (.ref C12) (.ref C12) = some true)
    (aCW : PySem.W.nsIn K mainGlobals "WebError" = some (some (.ref CW)))
    (rdW : PySem.W.readsIn K CW (.type "type") = true)
    (gaW : PySem.W.specialIn K (.ref CW) "__getattribute__" = some (some (.builtin "type.__getattribute__")))
    (inW : PySem.W.findCls K (.ref CW) (.type "type") "__init__" = some (.val (.builtin "Exception.__init__")))
    (a1 : PySem.W.nsIn K mainGlobals "united" = some (some (.ref f1)))
    (l1 : K.lookup f1 = some ⟨oc1, od1, .func (PySem.W.fnOf "united" "united" (defArgs s_united) (defBody s_united) (defScope s_united) .none kV1 dc1 pm1 an1 cd1 ct1), sl1⟩)
    (c1 : PySem.W.codeIn K cd1 "united" = true)
    (k1 : PySem.W.keepIn K (.ref f1) = true)
    (a2 : PySem.W.nsIn K mainGlobals "merged" = some (some (.ref f2)))
    (l2 : K.lookup f2 = some ⟨oc2, od2, .func (PySem.W.fnOf "merged" "merged" (defArgs s_merged) (defBody s_merged) (defScope s_merged) .none kV2 dc2 pm2 an2 cd2 ct2), sl2⟩)
    (c2 : PySem.W.codeIn K cd2 "merged" = true)
    (k2 : PySem.W.keepIn K (.ref f2) = true)
    (a3 : PySem.W.nsIn K mainGlobals "is_atom" = some (some (.ref f3)))
    (l3 : K.lookup f3 = some ⟨oc3, od3, .func (PySem.W.fnOf "is_atom" "is_atom" (defArgs s_is_atom) (defBody s_is_atom) (defScope s_is_atom) .none kV3 dc3 pm3 an3 cd3 ct3), sl3⟩)
    (c3 : PySem.W.codeIn K cd3 "is_atom" = true)
    (k3 : PySem.W.keepIn K (.ref f3) = true)
    (a4 : PySem.W.findIn K (.ref C0) "__init__" = some (some (.ref f4)))
    (i4 : PySem.W.isFn K (.ref f4) = true)
    (l4 : K.lookup f4 = some ⟨oc4, od4, .func (PySem.W.fnOf "__init__" "Formula.__init__" (defArgs s_Formula___init__) (defBody s_Formula___init__) (defScope s_Formula___init__) .none kV4 dc4 pm4 an4 cd4 ct4), sl4⟩)
    (c4 : PySem.W.codeIn K cd4 "Formula.__init__" = true)
    (k4 : PySem.W.keepIn K (.ref f4) = true)
    (a5 : PySem.W.nsIn K mainGlobals "no" = some (some (.ref f5)))
    (l5 : K.lookup f5 = some ⟨oc5, od5, .func (PySem.W.fnOf "no" "no" (defArgs s_no) (defBody s_no) (defScope s_no) .none kV5 dc5 pm5 an5 cd5 ct5), sl5⟩)
    (c5 : PySem.W.codeIn K cd5 "no" = true)
    (k5 : PySem.W.keepIn K (.ref f5) = true)
    (a6 : PySem.W.nsIn K mainGlobals "every" = some (some (.ref f6)))
    (l6 : K.lookup f6 = some ⟨oc6, od6, .func (PySem.W.fnOf "every" "every" (defArgs s_every) (defBody s_every) (defScope s_every) .none kV6 dc6 pm6 an6 cd6 ct6), sl6⟩)
    (c6 : PySem.W.codeIn K cd6 "every" = true)
    (k6 : PySem.W.keepIn K (.ref f6) = true)
    (a7 : PySem.W.findIn K (.ref C0) "__str__" = some (some (.ref f7)))
    (i7 : PySem.W.isFn K (.ref f7) = true)
    (l7 : K.lookup f7 = some ⟨oc7, od7, .func (PySem.W.fnOf "__str__" "Formula.__str__" (defArgs s_Formula___str__) (defBody s_Formula___str__) (defScope s_Formula___str__) .none kV7 dc7 pm7 an7 cd7 ct7), sl7⟩)
    (c7 : PySem.W.codeIn K cd7 "Formula.__str__" = true)
    (k7 : PySem.W.keepIn K (.ref f7) = true)
    (a8 : PySem.W.findIn K (.ref C12) "__init__" = some (some (.ref f8)))
    (i8 : PySem.W.typeIn K (.ref f8) = some (.type "function"))
    (l8 : K.lookup f8 = some ⟨oc8, od8, .func (PySem.W.fnOf "__init__" "BadText.__init__" (defArgs s_BadText___init__) (defBody s_BadText___init__) (defScope s_BadText___init__) .none kV8 dc8 pm8 an8 cd8 ct8), sl8⟩)
    (c8 : PySem.W.codeIn K cd8 "BadText.__init__" = true)
    (k8 : PySem.W.keepIn K (.ref f8) = true)
    (a9 : PySem.W.nsIn K mainGlobals "place_of_end" = some (some (.ref f9)))
    (l9 : K.lookup f9 = some ⟨oc9, od9, .func (PySem.W.fnOf "place_of_end" "place_of_end" (defArgs s_place_of_end) (defBody s_place_of_end) (defScope s_place_of_end) .none kV9 dc9 pm9 an9 cd9 ct9), sl9⟩)
    (c9 : PySem.W.codeIn K cd9 "place_of_end" = true)
    (k9 : PySem.W.keepIn K (.ref f9) = true)
    (a10 : PySem.W.nsIn K mainGlobals "begun_at" = some (some (.ref f10)))
    (l10 : K.lookup f10 = some ⟨oc10, od10, .func (PySem.W.fnOf "begun_at" "begun_at" (defArgs s_begun_at) (defBody s_begun_at) (defScope s_begun_at) .none kV10 dc10 pm10 an10 cd10 ct10), sl10⟩)
    (c10 : PySem.W.codeIn K cd10 "begun_at" = true)
    (k10 : PySem.W.keepIn K (.ref f10) = true)
    (a11 : PySem.W.nsIn K mainGlobals "formula_in" = some (some (.ref f11)))
    (l11 : K.lookup f11 = some ⟨oc11, od11, .func (PySem.W.fnOf "formula_in" "formula_in" (defArgs s_formula_in) (defBody s_formula_in) (defScope s_formula_in) .none kV11 dc11 pm11 an11 cd11 ct11), sl11⟩)
    (c11 : PySem.W.codeIn K cd11 "formula_in" = true)
    (k11 : PySem.W.keepIn K (.ref f11) = true)
    (a12 : PySem.W.findCls K (.ref C0) (.type "type") "read" = some (.get (.builtin "classmethod.__get__") (.ref pA12) .none (.ref C0)))
    (cr_12 : PySem.W.readsIn K C0 (.type "type") = true)
    (cg_12 : PySem.W.specialIn K (.ref C0) "__getattribute__" = some (some (.builtin "type.__getattribute__")))
    (pr_12 : PySem.W.recIn K pA12 "classmethod" = some (.ref f12 :: pR12))
    (pf_12 : PySem.W.fnIn K f12 = true)
    (l12 : K.lookup f12 = some ⟨oc12, od12, .func (PySem.W.fnOf "read" "Formula.read" (defArgs s_Formula_read) (defBody s_Formula_read) (defScope s_Formula_read) .none kV12 dc12 pm12 an12 cd12 ct12), sl12⟩)
    (c12 : PySem.W.codeIn K cd12 "Formula.read" = true)
    (k12 : PySem.W.keepIn K (.ref f12) = true)
    (a13 : PySem.W.nsIn K mainGlobals "_law_deck" = some (some (.ref f13)))
    (l13 : K.lookup f13 = some ⟨oc13, od13, .func (PySem.W.fnOf "_law_deck" "_law_deck" (defArgs s_law_deck) (defBody s_law_deck) (defScope s_law_deck) .none kV13 dc13 pm13 an13 cd13 ct13), sl13⟩)
    (c13 : PySem.W.codeIn K cd13 "_law_deck" = true)
    (k13 : PySem.W.keepIn K (.ref f13) = true)
    (a14 : PySem.W.nsIn K mainGlobals "_law_draw" = some (some (.ref f14)))
    (l14 : K.lookup f14 = some ⟨oc14, od14, .func (PySem.W.fnOf "_law_draw" "_law_draw" (defArgs s_law_draw) (defBody s_law_draw) (defScope s_law_draw) .none kV14 dc14 pm14 an14 cd14 ct14), sl14⟩)
    (c14 : PySem.W.codeIn K cd14 "_law_draw" = true)
    (k14 : PySem.W.keepIn K (.ref f14) = true)
    (a15 : PySem.W.nsIn K mainGlobals "_law_pick" = some (some (.ref f15)))
    (l15 : K.lookup f15 = some ⟨oc15, od15, .func (PySem.W.fnOf "_law_pick" "_law_pick" (defArgs s_law_pick) (defBody s_law_pick) (defScope s_law_pick) .none kV15 dc15 pm15 an15 cd15 ct15), sl15⟩)
    (c15 : PySem.W.codeIn K cd15 "_law_pick" = true)
    (k15 : PySem.W.keepIn K (.ref f15) = true)
    (a16 : PySem.W.nsIn K mainGlobals "_law_form" = some (some (.ref f16)))
    (l16 : K.lookup f16 = some ⟨oc16, od16, .func (PySem.W.fnOf "_law_form" "_law_form" (defArgs s_law_form) (defBody s_law_form) (defScope s_law_form) .none kV16 dc16 pm16 an16 cd16 ct16), sl16⟩)
    (c16 : PySem.W.codeIn K cd16 "_law_form" = true)
    (k16 : PySem.W.keepIn K (.ref f16) = true)
    (a17 : PySem.W.nsIn K mainGlobals "_law_text" = some (some (.ref f17)))
    (l17 : K.lookup f17 = some ⟨oc17, od17, .func (PySem.W.fnOf "_law_text" "_law_text" (defArgs s_law_text) (defBody s_law_text) (defScope s_law_text) .none kV17 dc17 pm17 an17 cd17 ct17), sl17⟩)
    (c17 : PySem.W.codeIn K cd17 "_law_text" = true)
    (k17 : PySem.W.keepIn K (.ref f17) = true)
    (a18 : PySem.W.nsIn K mainGlobals "_law_read" = some (some (.ref f18)))
    (l18 : K.lookup f18 = some ⟨oc18, od18, .func (PySem.W.fnOf "_law_read" "_law_read" (defArgs s_law_read) (defBody s_law_read) (defScope s_law_read) .none kV18 dc18 pm18 an18 cd18 ct18), sl18⟩)
    (c18 : PySem.W.codeIn K cd18 "_law_read" = true)
    (k18 : PySem.W.keepIn K (.ref f18) = true)
    (a19 : PySem.W.nsIn K mainGlobals "_law_bent" = some (some (.ref f19)))
    (l19 : K.lookup f19 = some ⟨oc19, od19, .func (PySem.W.fnOf "_law_bent" "_law_bent" (defArgs s_law_bent) (defBody s_law_bent) (defScope s_law_bent) .none kV19 dc19 pm19 an19 cd19 ct19), sl19⟩)
    (c19 : PySem.W.codeIn K cd19 "_law_bent" = true)
    (k19 : PySem.W.keepIn K (.ref f19) = true)
    (a20 : PySem.W.nsIn K mainGlobals "_law_heard" = some (some (.ref f20)))
    (l20 : K.lookup f20 = some ⟨oc20, od20, .func (PySem.W.fnOf "_law_heard" "_law_heard" (defArgs s_law_heard) (defBody s_law_heard) (defScope s_law_heard) .none kV20 dc20 pm20 an20 cd20 ct20), sl20⟩)
    (c20 : PySem.W.codeIn K cd20 "_law_heard" = true)
    (k20 : PySem.W.keepIn K (.ref f20) = true)
    (a21 : PySem.W.nsIn K mainGlobals "_law_right" = some (some (.ref f21)))
    (l21 : K.lookup f21 = some ⟨oc21, od21, .func (PySem.W.fnOf "_law_right" "_law_right" (defArgs s_law_right) (defBody s_law_right) (defScope s_law_right) .none kV21 dc21 pm21 an21 cd21 ct21), sl21⟩)
    (c21 : PySem.W.codeIn K cd21 "_law_right" = true)
    (k21 : PySem.W.keepIn K (.ref f21) = true)
    (a22 : PySem.W.nsIn K mainGlobals "law" = some (some (.ref f22)))
    (l22 : K.lookup f22 = some ⟨oc22, od22, .func (PySem.W.fnOf "law" "law" (defArgs s_law) (defBody s_law) (defScope s_law) .none kV22 dc22 pm22 an22 cd22 ct22), sl22⟩)
    (c22 : PySem.W.codeIn K cd22 "law" = true)
    (k22 : PySem.W.keepIn K (.ref f22) = true) :
    FnG P w K mg base 24 fa (spTop K) := by
  let cl : Nat → Addr := fun i => if i = 0 then C0 else C12
  have B : Blt mg := ⟨PySem.W.mg_none_of X G z0, PySem.W.mg_none_of X G z1, PySem.W.mg_none_of X G z2, PySem.W.mg_none_of X G z3, PySem.W.mg_none_of X G z4, PySem.W.mg_none_of X G z5, PySem.W.mg_none_of X G z6, PySem.W.mg_none_of X G z7, PySem.W.mg_none_of X G z8, PySem.W.mg_none_of X G z9, PySem.W.mg_none_of X G z10, PySem.W.mg_none_of X G z11, PySem.W.mg_none_of X G z12, PySem.W.mg_none_of X G z13, PySem.W.mg_none_of X G z14, PySem.W.mg_none_of X G z15, PySem.W.mg_none_of X G z16, PySem.W.mg_none_of X G z17, PySem.W.mg_none_of X G z18, PySem.W.mg_none_of X G z19, PySem.W.mg_none_of X G z20⟩
  have cz0 : CZ K C0 fmNames := ⟨⟨pg0, hd0, po0, sa0⟩, fun n hn => by
    simp only [fmNames, List.mem_cons, List.not_mem_nil, or_false] at hn
    rcases hn with e | e | e | e | e | e | e | e
    · rw [e]; exact n0_0
    · rw [e]; exact n0_1
    · rw [e]; exact n0_2
    · rw [e]; exact n0_3
    · rw [e]; exact n0_4
    · rw [e]; exact n0_5
    · rw [e]; exact n0_6
    · rw [e]; exact n0_7, ⟨⟨pg0, hd0, po0, sa0⟩, ha0, hn0, htk0, hmo0, me0⟩, sf0, is0⟩
  have ec12 : ErC K C12 "place" := ⟨⟨⟨_, _, _, _, _, _, _, _, _, _, _, _, _, _, _, xL12, rfl⟩, sa12, eC12, tC12, kc12⟩, ⟨ga12, gg12, eC12, hd12⟩, no12⟩
  have bw : BaseX K CW := ⟨⟨rdW, gaW⟩, inW⟩
  have gw := PySem.W.mg_of X G aCW
  have Z : ZZ K w mg cl := ⟨⟨_, PySem.W.mg_of X G s0, _, rfl⟩, ⟨_, PySem.W.mg_of X G s1, _, rfl⟩, ⟨_, PySem.W.mg_of X G s2, _, rfl⟩, ⟨_, PySem.W.mg_of X G s3, _, rfl⟩, ⟨_, PySem.W.mg_of X G s4, _, rfl⟩, dd5, es5, en5, PySem.W.mg_of X G aP5, ⟨lP5, lit5, low5⟩, ⟨_, p5_0⟩, ⟨_, p5_1⟩, ⟨_, p5_2⟩, ⟨_, p5_3⟩, ⟨_, PySem.W.mg_of X G s6, _, rfl⟩, ⟨_, PySem.W.mg_of X G s7, _, rfl⟩, PySem.W.mg_of X G aC0, cz0, PySem.W.mg_of X G aC12, ec12, xm12_12⟩
  have F1 := fun_mk (st := s_united) l1 c1 k1
  have q_c_united := c_united (P := P) (base := base) (cl := cl) (PySem.W.mg_of X G a1) B Z F1 
  have F2 := fun_mk (st := s_merged) l2 c2 k2
  have q_c_merged := c_merged (P := P) (base := base) (cl := cl) (PySem.W.mg_of X G a2) B Z F2 
  have F3 := fun_mk (st := s_is_atom) l3 c3 k3
  have q_c_is_atom := c_is_atom (P := P) (base := base) (cl := cl) (PySem.W.mg_of X G a3) B Z F3 
  have F4 := fun_mk (st := s_Formula___init__) l4 c4 k4
  have q_m_Formula := m_Formula (P := P) (base := base) (cl := cl) ⟨mk0, a4, i4, kc0⟩ B Z F4 q_c_united q_c_merged q_c_is_atom
  have F5 := fun_mk (st := s_no) l5 c5 k5
  have q_c_no := c_no (P := P) (base := base) (cl := cl) (PySem.W.mg_of X G a5) B Z F5 q_m_Formula
  have F6 := fun_mk (st := s_every) l6 c6 k6
  have q_c_every := c_every (P := P) (base := base) (cl := cl) (PySem.W.mg_of X G a6) B Z F6 q_m_Formula
  have F7 := fun_mk (st := s_Formula___str__) l7 c7 k7
  have q_o_str := o_str (P := P) (base := base) (cl := cl) ⟨a7, i7⟩ B Z F7 
  have F8 := fun_mk (st := s_BadText___init__) l8 c8 k8
  have q_e_BadText := e_BadText (P := P) (base := base) (cl := cl) a8 i8 bw gw Z F8
  have F9 := fun_mk (st := s_place_of_end) l9 c9 k9
  have q_c_place_of_end := c_place_of_end (P := P) (base := base) (cl := cl) (PySem.W.mg_of X G a9) B Z F9 
  have F10 := fun_mk (st := s_begun_at) l10 c10 k10
  have q_c_begun_at := c_begun_at (P := P) (base := base) (cl := cl) (PySem.W.mg_of X G a10) B Z F10 q_c_place_of_end q_c_no q_c_is_atom q_m_Formula q_e_BadText
  have F11 := fun_mk (st := s_formula_in) l11 c11 k11
  have q_c_formula_in := c_formula_in (P := P) (base := base) (cl := cl) (PySem.W.mg_of X G a11) B Z F11 q_c_begun_at q_c_place_of_end q_c_every q_m_Formula q_e_BadText
  have F12 := fun_mk (st := s_Formula_read) l12 c12 k12
  have q_cm_Formula_read := cm_Formula_read (P := P) (base := base) (cl := cl) ⟨cr_12, cg_12⟩ ⟨a12, ⟨_, pr_12⟩, pf_12⟩ B Z F12 q_c_formula_in q_e_BadText
  have F13 := fun_mk (st := s_law_deck) l13 c13 k13
  have q_c_law_deck := c_law_deck (P := P) (base := base) (cl := cl) (PySem.W.mg_of X G a13) B Z F13 
  have F14 := fun_mk (st := s_law_draw) l14 c14 k14
  have q_c_law_draw := c_law_draw (P := P) (base := base) (cl := cl) (PySem.W.mg_of X G a14) B Z F14 
  have F15 := fun_mk (st := s_law_pick) l15 c15 k15
  have q_c_law_pick := c_law_pick (P := P) (base := base) (cl := cl) (PySem.W.mg_of X G a15) B Z F15 q_c_law_draw
  have F16 := fun_mk (st := s_law_form) l16 c16 k16
  have q_c_law_form := c_law_form (P := P) (base := base) (cl := cl) (PySem.W.mg_of X G a16) B Z F16 q_c_law_draw q_c_law_pick
  have F17 := fun_mk (st := s_law_text) l17 c17 k17
  have q_c_law_text := c_law_text (P := P) (base := base) (cl := cl) (PySem.W.mg_of X G a17) B Z F17 
  have F18 := fun_mk (st := s_law_read) l18 c18 k18
  have q_c_law_read := c_law_read (P := P) (base := base) (cl := cl) (PySem.W.mg_of X G a18) B Z F18 
  have F19 := fun_mk (st := s_law_bent) l19 c19 k19
  have q_c_law_bent := c_law_bent (P := P) (base := base) (cl := cl) (PySem.W.mg_of X G a19) B Z F19 q_c_law_draw q_c_law_pick
  have F20 := fun_mk (st := s_law_heard) l20 c20 k20
  have q_c_law_heard := c_law_heard (P := P) (base := base) (cl := cl) (PySem.W.mg_of X G a20) B Z F20 q_cm_Formula_read q_o_str
  have F21 := fun_mk (st := s_law_right) l21 c21 k21
  have q_c_law_right := c_law_right (P := P) (base := base) (cl := cl) (PySem.W.mg_of X G a21) B Z F21 q_c_law_read q_c_law_heard
  have F22 := fun_mk (st := s_law) l22 c22 k22
  have q_c_law := c_law (P := P) (base := base) (cl := cl) (PySem.W.mg_of X G a22) B Z F22 q_c_law_deck q_c_law_pick q_c_law_draw (q_c_law_form 20) (q_c_law_text 20) q_c_law_bent q_c_law_right
  obtain ⟨f, hf, hm, _⟩ := q_c_law.ex
  have e := hfa.symm.trans hm
  cases e
  exact fun A outer s H us vs Q hg hr e0 r hsp => hf A outer s H us vs Q hg hr e0 r (top_sp hsp)
end N
open PySem PySem.W PyProof.Rows
set_option maxRecDepth 100000 in
set_option maxHeartbeats 0 in
theorem PySem.Challenge.cw_allbeneath_k05_texts_bent_holds : PySem.Challenge.rw_allbeneath_k05_texts_bent.Holds := by
  w_on; o_law; k_head; (case hw => w_witness2)
  k_fill
  refine N.walkG (l := PySem.Challenge.rw_allbeneath_k05_texts_bent) (n := 63) (k := 24) (sp := N.spTop) rfl (by decide) rfl ?hr (fun w h Y => PySem.W.kIn_of Y) ?F ?G
  case hr => exact ⟨rfl, by decide, by decide⟩
  case G => exact fun K H a ns hl _ hS => ⟨a, ns, rfl, hS, hl, fun _ => rfl⟩
  case F =>
    intro w mg fa h KX G hmg base KB GB
    refine' N.all_mk KX G hmg (rfl : w = w) ?z0 ?z1 ?z2 ?z3 ?z4 ?z5 ?z6 ?z7 ?z8 ?z9 ?z10 ?z11 ?z12 ?z13 ?z14 ?z15 ?z16 ?z17 ?z18 ?z19 ?z20 ?s0 ?s1 ?s2 ?s3 ?s4 ?aP5 ?lP5 ?lit5 ?low5 ?p5_0 ?p5_1 ?p5_2 ?p5_3 ?s6 ?s7 ?aC0 ?pg0 ?hd0 ?po0 ?sa0 ?mk0 ?kc0 ?n0_0 ?n0_1 ?n0_2 ?n0_3 ?n0_4 ?n0_5 ?n0_6 ?n0_7 ?ha0 ?hn0 ?htk0 ?hmo0 ?me0 ?sf0 ?is0 ?aC12 ?xL12 ?sa12 ?eC12 ?tC12 ?kc12 ?ga12 ?gg12 ?hd12 ?no12 ?xm12_12 ?aCW ?rdW ?gaW ?inW ?a1 ?l1 ?c1 ?k1 ?a2 ?l2 ?c2 ?k2 ?a3 ?l3 ?c3 ?k3 ?a4 ?i4 ?l4 ?c4 ?k4 ?a5 ?l5 ?c5 ?k5 ?a6 ?l6 ?c6 ?k6 ?a7 ?i7 ?l7 ?c7 ?k7 ?a8 ?i8 ?l8 ?c8 ?k8 ?a9 ?l9 ?c9 ?k9 ?a10 ?l10 ?c10 ?k10 ?a11 ?l11 ?c11 ?k11 ?a12 ?cr_12 ?cg_12 ?pr_12 ?pf_12 ?l12 ?c12 ?k12 ?a13 ?l13 ?c13 ?k13 ?a14 ?l14 ?c14 ?k14 ?a15 ?l15 ?c15 ?k15 ?a16 ?l16 ?c16 ?k16 ?a17 ?l17 ?c17 ?k17 ?a18 ?l18 ?c18 ?k18 ?a19 ?l19 ?c19 ?k19 ?a20 ?l20 ?c20 ?k20 ?a21 ?l21 ?c21 ?k21 ?a22 ?l22 ?c22 ?k22
    (case z0 => first | k_is | rfl | decide)
    (case z1 => first | k_is | rfl | decide)
    (case z2 => first | k_is | rfl | decide)
    (case z3 => first | k_is | rfl | decide)
    (case z4 => first | k_is | rfl | decide)
    (case z5 => first | k_is | rfl | decide)
    (case z6 => first | k_is | rfl | decide)
    (case z7 => first | k_is | rfl | decide)
    (case z8 => first | k_is | rfl | decide)
    (case z9 => first | k_is | rfl | decide)
    (case z10 => first | k_is | rfl | decide)
    (case z11 => first | k_is | rfl | decide)
    (case z12 => first | k_is | rfl | decide)
    (case z13 => first | k_is | rfl | decide)
    (case z14 => first | k_is | rfl | decide)
    (case z15 => first | k_is | rfl | decide)
    (case z16 => first | k_is | rfl | decide)
    (case z17 => first | k_is | rfl | decide)
    (case z18 => first | k_is | rfl | decide)
    (case z19 => first | k_is | rfl | decide)
    (case z20 => first | k_is | rfl | decide)
    (case s0 => first | k_is | rfl | decide)
    (case s1 => first | k_is | rfl | decide)
    (case s2 => first | k_is | rfl | decide)
    (case s3 => first | k_is | rfl | decide)
    (case s4 => first | k_is | rfl | decide)
    (case aP5 => first | k_is | rfl | decide)
    (case lP5 => first | k_is | rfl | decide)
    (case lit5 => exact ⟨⟨_, _, rfl, rfl⟩, ⟨_, _, rfl, rfl⟩, ⟨_, _, rfl, rfl⟩, ⟨_, _, rfl, rfl⟩, trivial⟩)
    (case low5 => first | k_is | rfl | decide)
    (case p5_0 => first | k_is | rfl | decide)
    (case p5_1 => first | k_is | rfl | decide)
    (case p5_2 => first | k_is | rfl | decide)
    (case p5_3 => first | k_is | rfl | decide)
    (case s6 => first | k_is | rfl | decide)
    (case s7 => first | k_is | rfl | decide)
    (case aC0 => first | k_is | rfl | decide)
    (case pg0 => first | k_is | rfl | decide)
    (case hd0 => first | k_is | rfl | decide)
    (case po0 => first | k_is | rfl | decide)
    (case sa0 => first | k_is | rfl | decide)
    (case mk0 => first | k_is | rfl | decide)
    (case kc0 => first | k_is | rfl | decide)
    (case n0_0 => first | k_is | rfl | decide)
    (case n0_1 => first | k_is | rfl | decide)
    (case n0_2 => first | k_is | rfl | decide)
    (case n0_3 => first | k_is | rfl | decide)
    (case n0_4 => first | k_is | rfl | decide)
    (case n0_5 => first | k_is | rfl | decide)
    (case n0_6 => first | k_is | rfl | decide)
    (case n0_7 => first | k_is | rfl | decide)
    (case ha0 => first | k_is | rfl | decide)
    (case hn0 => first | k_is | rfl | decide)
    (case htk0 => first | k_is | rfl | decide)
    (case hmo0 => first | k_is | rfl | decide)
    (case me0 => first | k_is | rfl | decide)
    (case sf0 => first | k_is | rfl | decide)
    (case is0 => first | k_is | rfl | decide)
    (case aC12 => first | k_is | rfl | decide)
    (case xL12 => first | k_is | rfl | decide)
    (case sa12 => first | k_is | rfl | decide)
    (case eC12 => first | k_is | rfl | decide)
    (case tC12 => first | k_is | rfl | decide)
    (case kc12 => first | k_is | rfl | decide)
    (case ga12 => first | k_is | rfl | decide)
    (case gg12 => first | k_is | rfl | decide)
    (case hd12 => first | k_is | rfl | decide)
    (case no12 => first | k_is | rfl | decide)
    (case xm12_12 => first | k_is | rfl | decide)
    (case aCW => first | k_is | rfl | decide)
    (case rdW => first | k_is | rfl | decide)
    (case gaW => first | k_is | rfl | decide)
    (case inW => first | k_is | rfl | decide)
    (case a1 => first | k_is | rfl | decide)
    (case l1 => first | k_is | rfl | decide)
    (case c1 => first | k_is | rfl | decide)
    (case k1 => first | k_is | rfl | decide)
    (case a2 => first | k_is | rfl | decide)
    (case l2 => first | k_is | rfl | decide)
    (case c2 => first | k_is | rfl | decide)
    (case k2 => first | k_is | rfl | decide)
    (case a3 => first | k_is | rfl | decide)
    (case l3 => first | k_is | rfl | decide)
    (case c3 => first | k_is | rfl | decide)
    (case k3 => first | k_is | rfl | decide)
    (case a4 => first | k_is | rfl | decide)
    (case i4 => first | k_is | rfl | decide)
    (case l4 => first | k_is | rfl | decide)
    (case c4 => first | k_is | rfl | decide)
    (case k4 => first | k_is | rfl | decide)
    (case a5 => first | k_is | rfl | decide)
    (case l5 => first | k_is | rfl | decide)
    (case c5 => first | k_is | rfl | decide)
    (case k5 => first | k_is | rfl | decide)
    (case a6 => first | k_is | rfl | decide)
    (case l6 => first | k_is | rfl | decide)
    (case c6 => first | k_is | rfl | decide)
    (case k6 => first | k_is | rfl | decide)
    (case a7 => first | k_is | rfl | decide)
    (case i7 => first | k_is | rfl | decide)
    (case l7 => first | k_is | rfl | decide)
    (case c7 => first | k_is | rfl | decide)
    (case k7 => first | k_is | rfl | decide)
    (case a8 => first | k_is | rfl | decide)
    (case i8 => first | k_is | rfl | decide)
    (case l8 => first | k_is | rfl | decide)
    (case c8 => first | k_is | rfl | decide)
    (case k8 => first | k_is | rfl | decide)
    (case a9 => first | k_is | rfl | decide)
    (case l9 => first | k_is | rfl | decide)
    (case c9 => first | k_is | rfl | decide)
    (case k9 => first | k_is | rfl | decide)
    (case a10 => first | k_is | rfl | decide)
    (case l10 => first | k_is | rfl | decide)
    (case c10 => first | k_is | rfl | decide)
    (case k10 => first | k_is | rfl | decide)
    (case a11 => first | k_is | rfl | decide)
    (case l11 => first | k_is | rfl | decide)
    (case c11 => first | k_is | rfl | decide)
    (case k11 => first | k_is | rfl | decide)
    (case a12 => first | k_is | rfl | decide)
    (case cr_12 => first | k_is | rfl | decide)
    (case cg_12 => first | k_is | rfl | decide)
    (case pr_12 => first | k_is | rfl | decide)
    (case pf_12 => first | k_is | rfl | decide)
    (case l12 => first | k_is | rfl | decide)
    (case c12 => first | k_is | rfl | decide)
    (case k12 => first | k_is | rfl | decide)
    (case a13 => first | k_is | rfl | decide)
    (case l13 => first | k_is | rfl | decide)
    (case c13 => first | k_is | rfl | decide)
    (case k13 => first | k_is | rfl | decide)
    (case a14 => first | k_is | rfl | decide)
    (case l14 => first | k_is | rfl | decide)
    (case c14 => first | k_is | rfl | decide)
    (case k14 => first | k_is | rfl | decide)
    (case a15 => first | k_is | rfl | decide)
    (case l15 => first | k_is | rfl | decide)
    (case c15 => first | k_is | rfl | decide)
    (case k15 => first | k_is | rfl | decide)
    (case a16 => first | k_is | rfl | decide)
    (case l16 => first | k_is | rfl | decide)
    (case c16 => first | k_is | rfl | decide)
    (case k16 => first | k_is | rfl | decide)
    (case a17 => first | k_is | rfl | decide)
    (case l17 => first | k_is | rfl | decide)
    (case c17 => first | k_is | rfl | decide)
    (case k17 => first | k_is | rfl | decide)
    (case a18 => first | k_is | rfl | decide)
    (case l18 => first | k_is | rfl | decide)
    (case c18 => first | k_is | rfl | decide)
    (case k18 => first | k_is | rfl | decide)
    (case a19 => first | k_is | rfl | decide)
    (case l19 => first | k_is | rfl | decide)
    (case c19 => first | k_is | rfl | decide)
    (case k19 => first | k_is | rfl | decide)
    (case a20 => first | k_is | rfl | decide)
    (case l20 => first | k_is | rfl | decide)
    (case c20 => first | k_is | rfl | decide)
    (case k20 => first | k_is | rfl | decide)
    (case a21 => first | k_is | rfl | decide)
    (case l21 => first | k_is | rfl | decide)
    (case c21 => first | k_is | rfl | decide)
    (case k21 => first | k_is | rfl | decide)
    (case a22 => first | k_is | rfl | decide)
    (case l22 => first | k_is | rfl | decide)
    (case c22 => first | k_is | rfl | decide)
    (case k22 => first | k_is | rfl | decide)
