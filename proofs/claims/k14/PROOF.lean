import PyProof.Rows.All
import Wide.All
import OpenK.AllK
import Wide.FinOn
import HandS.ForMost
import HandS.DictComp
import HandS.FStr
import HandS.Star
import HandS.Property
import HandS.TupAny
import HandS.Codes
import HandS.More
import HandS.Conv
import HandS.Strs
import HandS.Style
import HandS.IsInst
import HandS.Defaults
import HandS.Flow
import HandS.MakeKwOnly
import HandS.SortKw
import HandS.WrittenGet
import HandS.MethStar
import KE.KOpsOwn
import KE.KCallOwn
import OpenK.KOps
import KE.DatumIndex
import PyProof.ReprRoads
import PyProof.ReprBulk
import HandS.RaiseMore
import KE.KeyNested
import PyProof.Rows.StrMeet
import KE.KEqDict
import HandS.SetFor
import PyProof.StrWalks
import PyProof.Rows.SortShellAny
import HandS.SetTxt0
import PyProof.Rows.StrMul
import HandS.TupMul
import PyProof.NeKinds
import PyProof.EqAt
import KE.GoesZip
import KE.GoesMore
import KE.GoesEnumKw
import HandS.Zip
import KE.GoesEnum
import HandS.SortInts
import HandS.TryOnly
import HandS.SlotsOwn
import PyProof.InstEq
import PyProof.P3Eq
import HandS.ClsMeth
import HandS.Exc
import HandS.ExcInit
import HandS.ExcSuper
import HandS.ExcField
import HandS.ExcIs
import HandS.WordsExc
import HandS.ExcOwn
import PyProof.StrLawsChain
import PySem.Challenge.RW_allbeneath_k14_texts_of_webs_bent
set_option Elab.async false
set_option linter.all false
set_option maxRecDepth 100000
namespace N
open PySem L2
/-- formulas -/
inductive Fm where
  | at (c : Nat) | no | imp (a b : Fm) | all (a : Fm)
  deriving DecidableEq
/-- plain data -/
inductive D where
  | vl (v : V)
  | tup (l : List D)
  | lst (l : List D)
  | dct (ks : List Key) (l : List D)
  | obj (c : Nat) (ns : List Str) (l : List D)
  | fm (f : Fm)
  | scr (l : List V)
@[reducible] def D.int (i : Int) : D := .vl (.int i)
@[reducible] def D.bl (b : Bool) : D := .vl (.bl b)
@[reducible] def D.str (s : Str) : D := .vl (.str s)
@[reducible] def D.non : D := .vl .non
@[reducible] def D.adr (a : Addr) : D := .vl (.ref a)
/-- the module's written part, the classes' places -/
structure Kx where
  K : PySem.W.Frag
  cl : Nat → Addr
/-- what is kept of a formula: filled in by the texts that speak of formulas -/
structure FmKit where
  kind : Fm → Str
  many : Fm → Int
  deep : Fm → Int
  atoms : Fm → Str
  bare : Fm → Str
  spell : Fm → Str
  alls : Fm → List Fm
def AllR (R : Addr → Fm → Prop) : List Addr → List Fm → Prop
  | [], fs => fs = []
  | a :: as, fs => ∃ f r, fs = f :: r ∧ R a f ∧ AllR R as r
theorem AllR.imp {R S : Addr → Fm → Prop} (h : ∀ a f, R a f → S a f) : ∀ {as : List Addr} {fs : List Fm}, AllR R as fs → AllR S as fs
  | [], _, e => e
  | _ :: _, _, ⟨f, r, e, x, t⟩ => ⟨f, r, e, h _ _ x, AllR.imp h t⟩
def PartsR (R : Addr → Fm → Prop) : Fm → List V → Prop
  | .at c, ps => ps = [.str ⟨#[c]⟩]
  | .no, ps => ps = []
  | .imp a b, ps => ∃ p q, ps = [.ref p, .ref q] ∧ R p a ∧ R q b
  | .all a, ps => ∃ p, ps = [.ref p] ∧ R p a
theorem PartsR.imp {R S : Addr → Fm → Prop} (h : ∀ a f, R a f → S a f) : ∀ {f : Fm} {ps : List V}, PartsR R f ps → PartsR S f ps
  | .at _, _, e => e
  | .no, _, e => e
  | .imp _ _, _, ⟨p, q, e, x, y⟩ => ⟨p, q, e, h _ _ x, h _ _ y⟩
  | .all _, _, ⟨p, e, x⟩ => ⟨p, e, h _ _ x⟩
section
variable (F : FmKit) (T : Kx)
def fmNames : List Str := ["kind", "parts", "many", "deepest", "atoms", "bare", "spelled", "alls_known"]
def fmFields (f : Fm) (pa al : Addr) : List (Str × V) :=
  [("kind", .str (F.kind f)), ("parts", .ref pa), ("many", .int (F.many f)), ("deepest", .int (F.deep f)), ("atoms", .str (F.atoms f)), ("bare", .str (F.bare f)), ("spelled", .str (F.spell f)), ("alls_known", .ref al)]
def FStep (H : Hp) (R : Addr → Fm → Prop) (a : Addr) (f : Fm) : Prop :=
  ∃ dx pa ps al as, H a = some (.ins (T.cl 0) dx (fmFields F f pa al)) ∧ SqT T.K H pa ps ∧ PartsR R f ps ∧ SqT T.K H al (as.map V.ref) ∧ AllR R as (F.alls f)
def FormAt (H : Hp) (a : Addr) (f : Fm) : Prop := ∃ R : Addr → Fm → Prop, (∀ b g, R b g → FStep F T H R b g) ∧ R a f
end
theorem Same.sqT {K : PySem.W.Frag} {H H' : Hp} {a : Addr} {xs : List V} (e : Same H H') (h : SqT K H a xs) : SqT K H' a xs := by
  rcases h with (h | ⟨o, h⟩) | h
  · exact .inl (.inl (e _ _ h))
  · exact .inl (.inr ⟨o, e _ _ h⟩)
  · exact .inr h
section
variable {F : FmKit} {T : Kx} {H H' : Hp} {R S : Addr → Fm → Prop} {a : Addr} {f : Fm}
theorem FStep.imp (h : ∀ a f, R a f → S a f) (e : Same H H') (x : FStep F T H R a f) : FStep F T H' S a f := by
  obtain ⟨dx, pa, ps, al, as, h1, h2, h3, h4, h5⟩ := x
  exact ⟨dx, pa, ps, al, as, e _ _ h1, Same.sqT e h2, h3.imp h, Same.sqT e h4, h5.imp h⟩
theorem FormAt.mono (e : Same H H') (x : FormAt F T H a f) : FormAt F T H' a f := by
  obtain ⟨R, h, r⟩ := x
  exact ⟨R, fun b g y => (h b g y).imp (fun _ _ z => z) e, r⟩
theorem FormAt.out (x : FormAt F T H a f) : FStep F T H (FormAt F T H) a f := by
  obtain ⟨R, h, r⟩ := x
  exact (h a f r).imp (fun b g y => ⟨R, h, y⟩) (Same.refl _)
theorem FormAt.mk (x : FStep F T H (fun b g => FormAt F T H b g ∨ (b = a ∧ g = f)) a f) : FormAt F T H a f := by
  refine ⟨fun b g => FormAt F T H b g ∨ (b = a ∧ g = f), fun b g y => ?_, .inr ⟨rfl, rfl⟩⟩
  rcases y with y | ⟨rfl, rfl⟩
  · exact y.out.imp (fun _ _ z => .inl z) (Same.refl _)
  · exact x
end
section
variable (F : FmKit) (T : Kx) (H : Hp)
mutual
def Den : D → V → Prop
  | .vl w, v => v = w
  | .tup l, v => ∃ a xs, v = .ref a ∧ SqT T.K H a xs ∧ DenL l xs
  | .lst l, v => ∃ a xs, v = .ref a ∧ H a = some (.lst xs) ∧ DenL l xs
  | .dct ks l, v => ∃ a kvs, v = .ref a ∧ H a = some (.dK kvs) ∧ kvs.map (·.1) = ks ∧ ks.Nodup ∧ DenL l (kvs.map (·.2))
  | .obj c ns l, v => ∃ a dx fs, v = .ref a ∧ H a = some (.ins (T.cl c) dx fs) ∧ fs.map (·.1) = ns ∧ DenL l (fs.map (·.2))
  | .fm f, v => ∃ a, v = .ref a ∧ FormAt F T H a f
  | .scr l, v => ∃ a, v = .ref a ∧ SqL T.K H a l
def DenL : List D → List V → Prop
  | [], vs => vs = []
  | d :: l, vs => ∃ v r, vs = v :: r ∧ Den d v ∧ DenL l r
end
end
section
variable {F : FmKit} {T : Kx} {H H' : Hp}
mutual
theorem Den.mono (e : Same H H') : ∀ (d : D) (v : V), Den F T H d v → Den F T H' d v
  | .vl _, _, h => h
  | .tup l, _, ⟨a, xs, h1, h2, h3⟩ => ⟨a, xs, h1, Same.sqT e h2, DenL.mono e l xs h3⟩
  | .lst l, _, ⟨a, xs, h1, h2, h3⟩ => ⟨a, xs, h1, e _ _ h2, DenL.mono e l xs h3⟩
  | .dct ks l, _, ⟨a, kvs, h1, h2, h3, h4, h5⟩ => ⟨a, kvs, h1, e _ _ h2, h3, h4, DenL.mono e l _ h5⟩
  | .obj c ns l, _, ⟨a, dx, fs, h1, h2, h3, h4⟩ => ⟨a, dx, fs, h1, e _ _ h2, h3, DenL.mono e l _ h4⟩
  | .fm f, _, ⟨a, h1, h2⟩ => ⟨a, h1, h2.mono e⟩
  | .scr l, _, ⟨a, h1, h2⟩ => ⟨a, h1, e.seq h2⟩
theorem DenL.mono (e : Same H H') : ∀ (l : List D) (vs : List V), DenL F T H l vs → DenL F T H' l vs
  | [], _, h => h
  | d :: l, _, ⟨v, r, h1, h2, h3⟩ => ⟨v, r, h1, Den.mono e d v h2, DenL.mono e l r h3⟩
end
theorem DenL.len : ∀ {l : List D} {vs : List V}, DenL F T H l vs → vs.length = l.length
  | [], _, h => by
    have h : _ = [] := h
    rw [h]
    rfl
  | d :: l, _, ⟨v, r, h1, _, h3⟩ => by
    rw [h1, List.length_cons, List.length_cons, DenL.len h3]
theorem DenL.get : ∀ {l : List D} {vs : List V} {i : Nat} {d : D}, DenL F T H l vs → l[i]? = some d → ∃ v, vs[i]? = some v ∧ Den F T H d v
  | [], _, i, d, _, e => by simp at e
  | x :: l, _, 0, d, ⟨v, r, h1, h2, _⟩, e => by
    subst h1
    have e : x = d := Option.some.inj e
    subst e
    exact ⟨v, rfl, h2⟩
  | x :: l, _, i + 1, d, ⟨v, r, h1, _, h3⟩, e => by
    subst h1
    exact DenL.get (i := i) (d := d) h3 e
theorem DenL.at : ∀ {l : List D} {vs : List V} {i : Nat} {v : V}, DenL F T H l vs → vs[i]? = some v → ∃ d, l[i]? = some d ∧ Den F T H d v
  | [], _, i, v, h, e => by
    have h : _ = [] := h
    rw [h] at e
    simp at e
  | x :: l, _, 0, v, ⟨u, r, h1, h2, _⟩, e => by
    subst h1
    have e : u = v := Option.some.inj e
    subst e
    exact ⟨x, rfl, h2⟩
  | x :: l, _, i + 1, v, ⟨u, r, h1, _, h3⟩, e => by
    subst h1
    exact DenL.at (i := i) (v := v) h3 e
theorem DenL.app : ∀ {l m : List D} {vs us : List V}, DenL F T H l vs → DenL F T H m us → DenL F T H (l ++ m) (vs ++ us)
  | [], m, _, us, h, k => by
    have h : _ = [] := h
    subst h
    exact k
  | d :: l, m, _, us, ⟨v, r, h1, h2, h3⟩, k => by
    subst h1
    exact ⟨v, r ++ us, rfl, h2, DenL.app h3 k⟩
theorem DenL.app_inv : ∀ {l m : List D} {vs : List V}, DenL F T H (l ++ m) vs → ∃ us ws, vs = us ++ ws ∧ DenL F T H l us ∧ DenL F T H m ws
  | [], m, vs, h => ⟨[], vs, rfl, rfl, h⟩
  | d :: l, m, _, ⟨v, r, h1, h2, h3⟩ => by
    obtain ⟨us, ws, e, p, q⟩ := DenL.app_inv (l := l) h3
    exact ⟨v :: us, ws, by rw [h1, e] <;> rfl, ⟨v, us, rfl, h2, p⟩, q⟩
theorem DenL.set : ∀ {l : List D} {vs : List V} {i : Nat} {d : D} {v : V}, DenL F T H l vs → Den F T H d v → DenL F T H (l.set i d) (vs.set i v)
  | [], _, i, d, v, h, _ => by
    have h : _ = [] := h
    subst h
    rfl
  | x :: l, _, 0, d, v, ⟨u, r, h1, _, h3⟩, k => by
    subst h1
    exact ⟨v, r, rfl, k, h3⟩
  | x :: l, _, i + 1, d, v, ⟨u, r, h1, h2, h3⟩, k => by
    subst h1
    exact ⟨u, r.set i v, rfl, h2, DenL.set h3 k⟩
theorem DenL.one {d : D} {v : V} (h : Den F T H d v) : DenL F T H [d] [v] := ⟨v, [], rfl, h, rfl⟩
theorem DenL.vls (vs : List V) : DenL F T H (vs.map D.vl) vs := by
  induction vs with
  | nil => rfl
  | cons v r ih => exact ⟨v, r, rfl, rfl, ih⟩
theorem DenL.vls_inv : ∀ {ws vs : List V}, DenL F T H (ws.map D.vl) vs → vs = ws
  | [], _, h => h
  | w :: ws, _, ⟨v, r, h1, h2, h3⟩ => by
    have h2 : v = w := h2
    rw [h1, h2, DenL.vls_inv (ws := ws) h3]
theorem DenL.reverse : ∀ {l : List D} {vs : List V}, DenL F T H l vs → DenL F T H l.reverse vs.reverse
  | [], _, h => by
    have h : _ = [] := h
    subst h
    rfl
  | d :: l, _, ⟨v, r, h1, h2, h3⟩ => by
    subst h1
    rw [List.reverse_cons, List.reverse_cons]
    exact (DenL.reverse h3).app (DenL.one h2)
theorem DenL.take : ∀ {l : List D} {vs : List V} (n : Nat), DenL F T H l vs → DenL F T H (l.take n) (vs.take n)
  | l, vs, 0, _ => by
    rw [List.take_zero, List.take_zero]
    rfl
  | [], _, n + 1, h => by
    have h : _ = [] := h
    subst h
    rfl
  | d :: l, _, n + 1, ⟨v, r, h1, h2, h3⟩ => by
    subst h1
    exact ⟨v, r.take n, rfl, h2, DenL.take n h3⟩
theorem DenL.drop : ∀ {l : List D} {vs : List V} (n : Nat), DenL F T H l vs → DenL F T H (l.drop n) (vs.drop n)
  | l, vs, 0, h => h
  | [], _, n + 1, h => by
    have h : _ = [] := h
    subst h
    rfl
  | d :: l, _, n + 1, ⟨v, r, h1, h2, h3⟩ => by
    subst h1
    exact DenL.drop n h3
end
def ov (O H : Hp) : Hp := fun b => match O b with | some o => some o | none => H b
def Dis (O H : Hp) : Prop := ∀ b o, O b = some o → H b = none
section
variable {O O' H H' : Hp} {a b : Addr} {o u : HO}
theorem ov_own (h : O b = some o) : ov O H b = some o := by
  unfold ov
  rw [h]
theorem ov_fro (h : O b = none) : ov O H b = H b := by
  unfold ov
  rw [h]
theorem ov_none (h : ov O H b = none) : O b = none ∧ H b = none := by
  unfold ov at h
  cases e : O b with
  | none =>
    rw [e] at h
    exact ⟨rfl, h⟩
  | some o =>
    rw [e] at h
    cases h
theorem Dis.same (d : Dis O H) : Same H (ov O H) := fun b o h => by
  cases e : O b with
  | none => rw [ov_fro e, h]
  | some x =>
    rw [d b x e] at h
    cases h
theorem ov_updH (h : O a = none) : upd (ov O H) a o = ov O (upd H a o) := by
  funext b
  by_cases e : b = a
  · subst e
    rw [upd_same, ov_fro h, upd_same]
  · rw [upd_ne e]
    unfold ov
    rw [upd_ne e]
theorem ov_updO : upd (ov O H) a o = ov (upd O a o) H := by
  funext b
  by_cases e : b = a
  · subst e
    rw [upd_same, ov_own upd_same]
  · rw [upd_ne e]
    unfold ov
    rw [upd_ne e]
theorem Dis.updH (d : Dis O H) (h : O a = none) : Dis O (upd H a o) := fun b x e => by
  have n : b ≠ a := fun q => by
    subst q
    rw [h] at e
    cases e
  rw [upd_ne n]
  exact d b x e
theorem Dis.updO (d : Dis O H) (h : H a = none) : Dis (upd O a o) H := fun b x e => by
  by_cases q : b = a
  · subst q
    exact h
  · rw [upd_ne q] at e
    exact d b x e
theorem same_upd (h : H a = none) : Same H (upd H a o) := fun b x e => by
  rw [upd_ne (ne_of_none e h)]
  exact e
/-- a cell taken out -/
def del (O : Hp) (a : Addr) : Hp := fun b => if b = a then none else O b
theorem del_same : del O a a = none := by
  unfold del
  rw [if_pos rfl]
theorem del_ne (h : b ≠ a) : del O a b = O b := by
  unfold del
  rw [if_neg h]
theorem ov_freeze (h : O a = some o) : ov O H = ov (del O a) (upd H a o) := by
  funext b
  by_cases e : b = a
  · subst e
    rw [ov_own h, ov_fro del_same, upd_same]
  · unfold ov
    rw [del_ne e, upd_ne e]
theorem Dis.freeze (d : Dis O H) : Dis (del O a) (upd H a o) := fun b x e => by
  by_cases q : b = a
  · subst q
    rw [del_same] at e
    cases e
  · rw [del_ne q] at e
    rw [upd_ne q]
    exact d b x e
end
end N
set_option Elab.async false
set_option linter.all false
set_option maxRecDepth 100000
namespace N
open PySem L2
/-- a dict whose keys are nested tuples: its cell alone -/
def NkRaw (w : World) (h : Heap) (p : Addr) (as : List (NestedKey × Addr × V)) : Prop := ∃ (o : Obj) (es : Array DictEntry) (ep : Nat) (us : List (NestedKey × Addr × Value)),
  (p == sysModules) = false ∧ h.get? p = some o ∧ o.ExactDict ∧ o.data = .dict es ep ∧ es.toList = us.map (fun x => (⟨x.1.hash w, .ref x.2.1, x.2.2⟩ : DictEntry)) ∧ Paired (fun (a : NestedKey × Addr × V) (u : NestedKey × Addr × Value) => a.1 = u.1 ∧ a.2.1 = u.2.1 ∧ RelV a.2.2 u.2.2) as us
def NkO (w : World) (p : Addr) (as : List (NestedKey × Addr × V)) : HO := .ext fun h => NkRaw w h p as
mutual
/-- the value is such a key -/
def NkV (K : PySem.W.Frag) (H : Hp) : NestedKey → V → Prop
  | .none, v => v = .non
  | .num i, v => v = .int i
  | .text s, v => v = .str s
  | .tup ks, v => ∃ a xs, v = .ref a ∧ SqT K H a xs ∧ NkL K H ks xs
def NkL (K : PySem.W.Frag) (H : Hp) : List NestedKey → List V → Prop
  | [], vs => vs = []
  | k :: ks, vs => ∃ v r, vs = v :: r ∧ NkV K H k v ∧ NkL K H ks r
end
mutual
theorem NkV.mono {K : PySem.W.Frag} {H H' : Hp} (e : Same H H') : ∀ (k : NestedKey) (v : V), NkV K H k v → NkV K H' k v
  | .none, _, h => h
  | .num _, _, h => h
  | .text _, _, h => h
  | .tup ks, _, ⟨a, xs, h1, h2, h3⟩ => ⟨a, xs, h1, Same.sqT e h2, NkL.mono e ks xs h3⟩
theorem NkL.mono {K : PySem.W.Frag} {H H' : Hp} (e : Same H H') : ∀ (ks : List NestedKey) (vs : List V), NkL K H ks vs → NkL K H' ks vs
  | [], _, h => h
  | k :: ks, _, ⟨v, r, h1, h2, h3⟩ => ⟨v, r, h1, NkV.mono e k v h2, NkL.mono e ks r h3⟩
end
/-- what an owned cell holds -/
inductive OD where
  | lst (l : List D)
  | dct (ks : List Key) (l : List D)
  | ins (c : Nat) (ns : List Str) (l : List D)
  | any (o : HO)
  | lk (z : Obj) (kvs : List (Key × V)) (ks : List Key) (l : List D)
  | nk (w : World) (p : Addr) (ks : List (NestedKey × D))
  | xd (ns : List Str) (l : List D)
abbrev Gm := List (Option D)
abbrev Om := List (Addr × OD)
def akeys (W : Om) : List Addr := W.map (·.1)
section
variable (F : FmKit) (T : Kx)
def OdAt (H : Hp) (x : Option HO) : OD → Prop
  | .lst l => ∃ xs, x = some (.lst xs) ∧ DenL F T H l xs
  | .dct ks l => ∃ kvs, x = some (.dK kvs) ∧ kvs.map (·.1) = ks ∧ ks.Nodup ∧ DenL F T H l (kvs.map (·.2))
  | .ins c ns l => ∃ dx fs, x = some (.ins (T.cl c) dx fs) ∧ fs.map (·.1) = ns ∧ DenL F T H l (fs.map (·.2))
  | .any o => x = some o
  | .lk z kvs ks l => x = some (.frz z (.dK kvs)) ∧ kvs.map (·.1) = ks ∧ ks.Nodup ∧ DenL F T H l (kvs.map (·.2))
  | .nk w p ks => ∃ as, x = some (NkO w p as) ∧ as.map (·.1) = ks.map (·.1) ∧ (ks.map (·.1)).Nodup ∧ (∀ z ∈ as, NkV T.K H z.1 (.ref z.2.1) ∧ z.1.depth ≤ 8) ∧ DenL F T H (ks.map (·.2)) (as.map (·.2.2))
  | .xd ns l => ∃ fs, x = some (.xd fs) ∧ fs.map (·.1) = ns ∧ DenL F T H l (fs.map (·.2))
/-- the slots -/
structure Lo (H : Hp) (G : Gm) (σ : St) : Prop where
  len : σ.length = G.length
  at_ : ∀ (i : Nat) (d : D), G[i]? = some (some d) → ∃ v, σ[i]? = some (some v) ∧ Den F T H d v
structure Ow (H C O : Hp) (W : Om) : Prop where
  nd : (akeys W).Nodup
  at_ : ∀ a od, (a, od) ∈ W → C a = none ∧ OdAt F T H (O a) od
/-- frozen H, owned O (the callers' part C of it), slots, owned cells -/
structure Wd (C : Hp) (G : Gm) (W : Om) (H O : Hp) (σ : St) : Prop where
  dis : Dis O H
  oc : Same C O
  loc : Lo F T H G σ
  own : Ow F T H C O W
/-- behind a step -/
structure Nx (C : Hp) (W : Om) (H H' O' : Hp) : Prop where
  ext : Same H H'
  dis : Dis O' H'
  oc : Same C O'
  own : Ow F T H' C O' W
end
section
variable {F : FmKit} {T : Kx} {H H' H1 C O O' : Hp} {G : Gm} {W W' : Om} {σ : St}
theorem OdAt.mono {x : Option HO} (e : Same H H') : ∀ {od : OD}, OdAt F T H x od → OdAt F T H' x od
  | .lst l, ⟨xs, h, k⟩ => ⟨xs, h, k.mono e⟩
  | .dct ks l, ⟨kvs, h, n, d, k⟩ => ⟨kvs, h, n, d, k.mono e⟩
  | .ins c ns l, ⟨dx, fs, h, n, k⟩ => ⟨dx, fs, h, n, k.mono e⟩
  | .any o, h => h
  | .lk z kvs ks l, ⟨h, n, d, k⟩ => ⟨h, n, d, k.mono e⟩
  | .nk w p ks, ⟨as, h, n, d, k, q⟩ => ⟨as, h, n, d, fun z hz => ⟨NkV.mono e _ _ (k z hz).1, (k z hz).2⟩, q.mono e⟩
  | .xd ns l, ⟨fs, h, n, k⟩ => ⟨fs, h, n, k.mono e⟩
theorem OdAt.some {x : Option HO} : ∀ {od : OD}, OdAt F T H x od → ∃ o, x = some o
  | .lst l, ⟨xs, h, k⟩ => ⟨_, h⟩
  | .dct ks l, ⟨kvs, h, n, d, k⟩ => ⟨_, h⟩
  | .ins c ns l, ⟨dx, fs, h, n, k⟩ => ⟨_, h⟩
  | .any o, h => ⟨_, h⟩
  | .lk z kvs ks l, ⟨h, n, d, k⟩ => ⟨_, h⟩
  | .nk w p ks, ⟨as, h, _⟩ => ⟨_, h⟩
  | .xd ns l, ⟨fs, h, n, k⟩ => ⟨_, h⟩
theorem Lo.mono (e : Same H H') (l : Lo F T H G σ) : Lo F T H' G σ :=
  ⟨l.len, fun i d h => let ⟨v, a, b⟩ := l.at_ i d h; ⟨v, a, b.mono e⟩⟩
theorem Lo.set {i : Nat} {d : D} {v : V} (l : Lo F T H G σ) (h : Den F T H d v) : Lo F T H (G.set i (some d)) (σ.set i (some v)) := by
  refine ⟨by rw [List.length_set, List.length_set]; exact l.len, fun j d' e => ?_⟩
  by_cases q : i = j
  · subst q
    have hi : i < G.length := by
      have := (List.getElem?_eq_some_iff.mp e).1
      rwa [List.length_set] at this
    rw [List.getElem?_set_self hi] at e
    have e : d = d' := Option.some.inj (Option.some.inj e)
    subst e
    exact ⟨v, by rw [List.getElem?_set_self (by rw [l.len]; exact hi)], h⟩
  · rw [List.getElem?_set_ne q] at e
    rw [List.getElem?_set_ne q]
    exact l.at_ j d' e
theorem Lo.forget {i : Nat} (l : Lo F T H G σ) (x : Option V) : Lo F T H (G.set i none) (σ.set i x) := by
  refine ⟨by rw [List.length_set, List.length_set]; exact l.len, fun j d' e => ?_⟩
  by_cases q : i = j
  · subst q
    have hi : i < G.length := by
      have := (List.getElem?_eq_some_iff.mp e).1
      rwa [List.length_set] at this
    rw [List.getElem?_set_self hi] at e
    cases e
  · rw [List.getElem?_set_ne q] at e
    rw [List.getElem?_set_ne q]
    exact l.at_ j d' e
theorem Ow.mono (e : Same H H') (o : Ow F T H C O W) : Ow F T H' C O W := ⟨o.nd, fun a od h => ⟨(o.at_ a od h).1, (o.at_ a od h).2.mono e⟩⟩
theorem Ow.notin {a : Addr} (o : Ow F T H C O W) (h : O a = none) : a ∉ akeys W := fun z => by
  obtain ⟨p, hp, e⟩ := List.mem_map.mp z
  obtain ⟨x, q⟩ := (o.at_ p.1 p.2 hp).2.some
  rw [e, h] at q
  cases q
theorem Nx.refl (d : Dis O H) (oc : Same C O) (o : Ow F T H C O W) : Nx F T C W H H O := ⟨Same.refl _, d, oc, o⟩
theorem Wd.nx (w : Wd F T C G W H O σ) : Nx F T C W H H O := ⟨Same.refl _, w.dis, w.oc, w.own⟩
theorem Nx.trans (a : Nx F T C W H H1 O) (b : Nx F T C W' H1 H' O') : Nx F T C W' H H' O' := ⟨a.ext.trans b.ext, b.dis, b.oc, b.own⟩
theorem Wd.step (w : Wd F T C G W H O σ) (n : Nx F T C W' H H' O') : Wd F T C G W' H' O' σ := ⟨n.dis, n.oc, w.loc.mono n.ext, n.own⟩
end
section
variable (F : FmKit) (T : Kx)
/-- te, at the slots G and the owned cells W, gives a d and leaves owned cells so that R -/
def Ev (te : TE) (G : Gm) (W : Om) (R : D → Om → Prop) : Prop :=
  ∀ (C H O : Hp) (σ : St), Wd F T C G W H O σ → ∀ Q : VK, (∀ d W' H' O' v, R d W' → Nx F T C W' H H' O' → Den F T H' d v → Q v (ov O' H')) → te σ (ov O H) Q
def EvT (t : TT) (G : Gm) (W : Om) (R : Bool → Om → Prop) : Prop :=
  ∀ (C H O : Hp) (σ : St), Wd F T C G W H O σ → ∀ Q : Bool → Hp → Prop, (∀ b W' H' O', R b W' → Nx F T C W' H H' O' → Q b (ov O' H')) → t σ (ov O H) Q
def EvA (ta : TA) (G : Gm) (W : Om) (R : List D → Om → Prop) : Prop :=
  ∀ (C H O : Hp) (σ : St), Wd F T C G W H O σ → ∀ Q : List V → Hp → Prop, (∀ ds W' H' O' vs, R ds W' → Nx F T C W' H H' O' → DenL F T H' ds vs → Q vs (ov O' H')) → ta σ (ov O H) Q
def EvO (to : TO) (G : Gm) (W : Om) (R : Option Int → Om → Prop) : Prop :=
  ∀ (C H O : Hp) (σ : St), Wd F T C G W H O σ → ∀ Q : Option Int → Hp → Prop, (∀ i W' H' O', R i W' → Nx F T C W' H H' O' → Q i (ov O' H')) → to σ (ov O H) Q
/-- an operation on two data -/
def Bo (r : R2) (d1 d2 : D) (W : Om) (R : D → Om → Prop) : Prop :=
  ∀ (C H O : Hp), Dis O H → Same C O → Ow F T H C O W → ∀ x y, Den F T H d1 x → Den F T H d2 y → ∀ Q : VK, (∀ d W' H' O' v, R d W' → Nx F T C W' H H' O' → Den F T H' d v → Q v (ov O' H')) → r x y (ov O H) Q
/-- a call on data -/
def Ca (r : List V → Hp → VK → Prop) (ds : List D) (W : Om) (R : D → Om → Prop) : Prop :=
  ∀ (C H O : Hp), Dis O H → Same C O → Ow F T H C O W → ∀ vs, DenL F T H ds vs → ∀ Q : VK, (∀ d W' H' O' v, R d W' → Nx F T C W' H H' O' → Den F T H' d v → Q v (ov O' H')) → r vs (ov O H) Q
structure En where
  nx : Gm → Om → Prop
  rt : D → Om → Prop
  bk : Gm → Om → Prop := fun _ _ => False
  ct : Gm → Om → Prop := fun _ _ => False
/-- the ends at heaps are met by the ends at data -/
structure EnOk (C H : Hp) (E : En) (B : Ends) : Prop where
  nx : ∀ G W H' O' σ', E.nx G W → Nx F T C W H H' O' → Lo F T H' G σ' → B.nx σ' (ov O' H')
  rt : ∀ d W H' O' v, E.rt d W → Nx F T C W H H' O' → Den F T H' d v → B.rt v (ov O' H')
  bk : ∀ G W H' O' σ', E.bk G W → Nx F T C W H H' O' → Lo F T H' G σ' → B.bk σ' (ov O' H')
  ct : ∀ G W H' O' σ', E.ct G W → Nx F T C W H H' O' → Lo F T H' G σ' → B.ct σ' (ov O' H')
def Sw (ts : TS) (G : Gm) (W : Om) (E : En) : Prop :=
  ∀ (C H O : Hp) (σ : St), Wd F T C G W H O σ → ∀ B : Ends, EnOk F T C H E B → ts B σ (ov O H)
/-- a target of names -/
def Tg (g : TG) (d : D) (G : Gm) (R : Gm → Prop) : Prop :=
  ∀ (H H1 : Hp) (σ : St) (v : V), Lo F T H G σ → Same H H1 → Den F T H d v → ∀ Q : St → Hp → Prop, (∀ G' σ', R G' → Lo F T H G' σ' → Q σ' H1) → g v σ H1 Q
/-- an iterator over data -/
def Wk (J : It) (H0 : Hp) (ds : List D) : Prop :=
  ∀ (i : Nat) (H O : Hp), Same H0 H → Dis O H →
    (∀ d, ds[i]? = some d → J.go i (ov O H) ∧ ∀ x H2, J.yld i (ov O H) x H2 → ∃ H', Same H H' ∧ Dis O H' ∧ H2 = ov O H' ∧ Den F T H' d x) ∧ (i = ds.length → J.stop i (ov O H))
def EvI (wi : TI) (G : Gm) (W : Om) (R : List D → Om → Prop) : Prop :=
  ∀ (C H O : Hp) (σ : St), Wd F T C G W H O σ → ∀ Q : It → Hp → Prop, (∀ J ds W' H' O', R ds W' → Nx F T C W' H H' O' → Wk F T J H' ds → Q J (ov O' H')) → wi σ (ov O H) Q
end
def E_ (post : D → Om → Prop) : En := { nx := fun _ W => post .non W, rt := post }
section
variable {F : FmKit} {T : Kx} {C H H' O O' : Hp} {G : Gm} {W W' : Om} {σ : St} {E E' : En} {B : Ends}
theorem EnOk.up (h : EnOk F T C H E B) (e : Same H H') : EnOk F T C H' E B :=
  ⟨fun G W H2 O' σ' a n l => h.nx G W H2 O' σ' a ⟨e.trans n.ext, n.dis, n.oc, n.own⟩ l, fun d W H2 O' v a n l => h.rt d W H2 O' v a ⟨e.trans n.ext, n.dis, n.oc, n.own⟩ l,
   fun G W H2 O' σ' a n l => h.bk G W H2 O' σ' a ⟨e.trans n.ext, n.dis, n.oc, n.own⟩ l, fun G W H2 O' σ' a n l => h.ct G W H2 O' σ' a ⟨e.trans n.ext, n.dis, n.oc, n.own⟩ l⟩
variable {te ta tb : TE} {t u : TT} {R R' : D → Om → Prop} {S S' : Bool → Om → Prop} {tr : TA} {ts tz : TS}
theorem Ev.imp (h : Ev F T te G W R) (i : ∀ d W', R d W' → R' d W') : Ev F T te G W R' := fun C H O σ w Q q => h C H O σ w Q fun d W' H' O' v r n k => q d W' H' O' v (i d W' r) n k
theorem EvT.imp (h : EvT F T t G W S) (i : ∀ b W', S b W' → S' b W') : EvT F T t G W S' := fun C H O σ w Q q => h C H O σ w Q fun d W' H' O' r n => q d W' H' O' (i d W' r) n
theorem Sw.imp (h : Sw F T ts G W E) (h1 : ∀ G W, E.nx G W → E'.nx G W) (h2 : ∀ d W, E.rt d W → E'.rt d W) (h3 : ∀ G W, E.bk G W → E'.bk G W) (h4 : ∀ G W, E.ct G W → E'.ct G W) : Sw F T ts G W E' :=
  fun C H O σ w B b => h C H O σ w B ⟨fun G W H' O' σ' a => b.nx G W H' O' σ' (h1 G W a), fun d W H' O' v a => b.rt d W H' O' v (h2 d W a), fun G W H' O' σ' a => b.bk G W H' O' σ' (h3 G W a), fun G W H' O' σ' a => b.ct G W H' O' σ' (h4 G W a)⟩
theorem ev_var {i : Nat} {d : D} (h : G[i]? = some (some d)) (r : R d W) : Ev F T (tVar i) G W R := fun C H O σ w Q q =>
  let ⟨v, e, k⟩ := w.loc.at_ i d h
  ⟨v, e, q d W H O v r w.nx k⟩
theorem ev_c {v : V} (r : R (.vl v) W) : Ev F T (tC v) G W R := fun C H O σ w Q q => q (.vl v) W H O v r w.nx rfl
theorem ev_op {r : R2} (h : Ev F T ta G W fun d1 W1 => Ev F T tb G W1 fun d2 W2 => Bo F T r d1 d2 W2 R) : Ev F T (tOp r ta tb) G W R := fun C H O σ w Q q =>
  h C H O σ w _ fun d1 W1 H1 O1 x h1 n1 k1 => h1 C H1 O1 σ (w.step n1) _ fun d2 W2 H2 O2 y h2 n2 k2 =>
    h2 C H2 O2 n2.dis n2.oc n2.own x y (k1.mono n2.ext) k2 Q fun d W' H' O' v rr n k => q d W' H' O' v rr ((n1.trans n2).trans n) k
theorem ev_cb {r : List V → Hp → VK → Prop} (h : EvA F T tr G W fun ds W1 => Ca F T r ds W1 R) : Ev F T (tCB r tr) G W R := fun C H O σ w Q q =>
  h C H O σ w _ fun ds W1 H1 O1 vs h1 n1 k1 => h1 C H1 O1 n1.dis n1.oc n1.own vs k1 Q fun d W' H' O' v rr n k => q d W' H' O' v rr (n1.trans n) k
theorem ea_nil {Z : List D → Om → Prop} (r : Z [] W) : EvA F T tNil G W Z := fun C H O σ w Q q => q [] W H O [] r w.nx rfl
theorem ea_cons {Z : List D → Om → Prop} (h : Ev F T ta G W fun d W1 => EvA F T tr G W1 fun ds W2 => Z (d :: ds) W2) : EvA F T (tCons ta tr) G W Z := fun C H O σ w Q q =>
  h C H O σ w _ fun d W1 H1 O1 x h1 n1 k1 => h1 C H1 O1 σ (w.step n1) _ fun ds W2 H2 O2 vs h2 n2 k2 => q (d :: ds) W2 H2 O2 (x :: vs) h2 (n1.trans n2) ⟨x, vs, rfl, k1.mono n2.ext, k2⟩
theorem et_test (h : Ev F T te G W fun d W1 => ∃ b, d = .bl b ∧ S b W1) : EvT F T (tTest te) G W S := fun C H O σ w Q q =>
  h C H O σ w _ fun d W1 H1 O1 x ⟨b, e, s⟩ n k => by
    subst e
    have k : x = .bl b := k
    exact ⟨b, k, q b W1 H1 O1 s n⟩
theorem et_B (h : Ev F T te G W fun d W1 => ∃ b, d = .bl b ∧ S b W1) : EvT F T (tB te) G W S := et_test h
theorem et_not (h : EvT F T t G W fun b W1 => S (!b) W1) : EvT F T (tNot t) G W S := fun C H O σ w Q q => h C H O σ w _ fun b W1 H1 O1 s n => q (!b) W1 H1 O1 s n
theorem et_and (h : EvT F T t G W fun b W1 => if b = true then EvT F T u G W1 S else S false W1) : EvT F T (tAnd t u) G W S := fun C H O σ w Q q =>
  h C H O σ w _ fun b W1 H1 O1 s n => by
    cases b with
    | true => exact s C H1 O1 σ (w.step n) _ fun b W2 H2 O2 s2 n2 => q b W2 H2 O2 s2 (n.trans n2)
    | false => exact q false W1 H1 O1 s n
theorem et_or (h : EvT F T t G W fun b W1 => if b = true then S true W1 else EvT F T u G W1 S) : EvT F T (tOr t u) G W S := fun C H O σ w Q q =>
  h C H O σ w _ fun b W1 H1 O1 s n => by
    cases b with
    | true => exact q true W1 H1 O1 s n
    | false => exact s C H1 O1 σ (w.step n) _ fun b W2 H2 O2 s2 n2 => q b W2 H2 O2 s2 (n.trans n2)
theorem ev_andV (h : Ev F T ta G W fun d W1 => ∃ b, d = .bl b ∧ if b = true then Ev F T tb G W1 R else R (.bl false) W1) : Ev F T (tAndV ta tb) G W R := fun C H O σ w Q q =>
  h C H O σ w _ fun d W1 H1 O1 x ⟨b, e, s⟩ n k => by
    subst e
    have k : x = .bl b := k
    refine ⟨b, k, ?_⟩
    cases b with
    | true => exact s C H1 O1 σ (w.step n) _ fun d W2 H2 O2 v s2 n2 k2 => q d W2 H2 O2 v s2 (n.trans n2) k2
    | false => exact q _ W1 H1 O1 _ s n rfl
theorem ev_orV (h : Ev F T ta G W fun d W1 => ∃ b, d = .bl b ∧ if b = true then R (.bl true) W1 else Ev F T tb G W1 R) : Ev F T (tOrV ta tb) G W R := fun C H O σ w Q q =>
  h C H O σ w _ fun d W1 H1 O1 x ⟨b, e, s⟩ n k => by
    subst e
    have k : x = .bl b := k
    refine ⟨b, k, ?_⟩
    cases b with
    | true => exact q _ W1 H1 O1 _ s n rfl
    | false => exact s C H1 O1 σ (w.step n) _ fun d W2 H2 O2 v s2 n2 k2 => q d W2 H2 O2 v s2 (n.trans n2) k2
theorem ev_notV (h : Ev F T ta G W fun d W1 => ∃ b, d = .bl b ∧ R (.bl (!b)) W1) : Ev F T (tNotV ta) G W R := fun C H O σ w Q q =>
  h C H O σ w _ fun d W1 H1 O1 x ⟨b, e, s⟩ n k => by
    subst e
    have k : x = .bl b := k
    exact ⟨b, k, q _ W1 H1 O1 _ s n rfl⟩
theorem ev_if (h : EvT F T t G W fun b W1 => if b = true then Ev F T ta G W1 R else Ev F T tb G W1 R) : Ev F T (tIf t ta tb) G W R := fun C H O σ w Q q =>
  h C H O σ w _ fun b W1 H1 O1 s n => by
    cases b with
    | true => exact s C H1 O1 σ (w.step n) _ fun d W2 H2 O2 v s2 n2 k2 => q d W2 H2 O2 v s2 (n.trans n2) k2
    | false => exact s C H1 O1 σ (w.step n) _ fun d W2 H2 O2 v s2 n2 k2 => q d W2 H2 O2 v s2 (n.trans n2) k2
theorem ev_isN (h : Ev F T ta G W fun d W1 => ∃ b, (∀ H v, Den F T H d v → decide (v = .non) = b) ∧ R (.bl b) W1) : Ev F T (tIsN ta) G W R := fun C H O σ w Q q =>
  h C H O σ w _ fun d W1 H1 O1 x ⟨b, e, s⟩ n k => by
    show Q (.bl (decide (x = .non))) _
    rw [e _ _ k]
    exact q _ W1 H1 O1 _ s n rfl
theorem op_sc {r : R2} {x y : V} (h : ∀ (H : Hp) (Q : VK), (∀ z, R (.vl z) W → Q z H) → r x y H Q) : Bo F T r (.vl x) (.vl y) W R := fun C H O dis oc own x' y' hx hy Q q => by
  have hx : x' = x := hx
  have hy : y' = y := hy
  subst hx hy
  exact h _ Q fun z rz => q (.vl z) W H O z rz (.refl dis oc own) rfl
theorem cl_sc {r : List V → Hp → VK → Prop} {xs : List V} (h : ∀ (H : Hp) (Q : VK), (∀ z, R (.vl z) W → Q z H) → r xs H Q) : Ca F T r (xs.map D.vl) W R := fun C H O dis oc own vs hv Q q => by
  have hv := DenL.vls_inv hv
  subst hv
  exact h _ Q fun z rz => q (.vl z) W H O z rz (.refl dis oc own) rfl
theorem sw_next (h : E.nx G W) : Sw F T tNext G W E := fun C H O σ w B b => b.nx G W H O σ h w.nx w.loc
theorem sw_brk (h : E.bk G W) : Sw F T tBreak G W E := fun C H O σ w B b => b.bk G W H O σ h w.nx w.loc
theorem sw_cont (h : E.ct G W) : Sw F T tCont G W E := fun C H O σ w B b => b.ct G W H O σ h w.nx w.loc
theorem sw_seq (h : Sw F T ts G W { E with nx := fun G' W' => Sw F T tz G' W' E }) : Sw F T (tSeq ts tz) G W E := fun C H O σ w B b =>
  h C H O σ w { B with nx := tz B } ⟨fun G' W' H' O' σ' a n l => a C H' O' σ' ⟨n.dis, n.oc, l, n.own⟩ B (b.up n.ext), b.rt, b.bk, b.ct⟩
theorem sw_drop (h : Ev F T te G W fun _ W' => E.nx G W') : Sw F T (tDrop te) G W E := fun C H O σ w B b =>
  h C H O σ w _ fun d W' H' O' v r n k => b.nx G W' H' O' σ r n (w.loc.mono n.ext)
theorem sw_ret (h : Ev F T te G W E.rt) : Sw F T (tRet te) G W E := fun C H O σ w B b =>
  h C H O σ w _ fun d W' H' O' v r n k => b.rt d W' H' O' v r n k
theorem sw_retN (h : E.rt .non W) : Sw F T tRetN G W E := fun C H O σ w B b => b.rt .non W H O .non h w.nx rfl
theorem sw_if (h : EvT F T t G W fun c W' => if c = true then Sw F T ts G W' E else Sw F T tz G W' E) : Sw F T (tIfS t ts tz) G W E := fun C H O σ w B b =>
  h C H O σ w _ fun c W' H' O' r n => by
    cases c with
    | true => exact r C H' O' σ (w.step n) B (b.up n.ext)
    | false => exact r C H' O' σ (w.step n) B (b.up n.ext)
theorem sw_set {i : Nat} (h : Ev F T te G W fun d W' => E.nx (G.set i (some d)) W') : Sw F T (tAsg te (gName i)) G W E := fun C H O σ w B b =>
  h C H O σ w _ fun d W' H' O' v r n k => b.nx _ W' H' O' _ r n ((w.loc.mono n.ext).set k)
theorem sw_par {i j : Nat} {ta : TA} (h : EvA F T ta G W fun ds W' => ∃ d1 d2, ds = [d1, d2] ∧ E.nx ((G.set i (some d1)).set j (some d2)) W') : Sw F T (tPar i j ta) G W E := fun C H O σ w B b =>
  h C H O σ w _ fun ds W' H' O' vs ⟨d1, d2, e, r⟩ n k => by
    subst e
    obtain ⟨v1, r1, e1, k1, v2, r2, e2, k2, e3⟩ := k
    have e3 : r2 = [] := e3
    subst e3 e2 e1
    exact ⟨v1, v2, rfl, b.nx _ W' H' O' _ r n (((w.loc.mono n.ext).set k1).set k2)⟩
theorem tg_name {i : Nat} {d : D} {Z : Gm → Prop} (h : Z (G.set i (some d))) : Tg F T (gName i) d G Z := fun H H1 σ v l _ k Q q => q _ _ h (l.set k)
def Tgs (F : FmKit) (T : Kx) (g : TGs) (ds : List D) (G : Gm) (R : Gm → Prop) : Prop :=
  ∀ (H H1 : Hp) (σ : St) (vs : List V), Lo F T H G σ → Same H H1 → DenL F T H ds vs → ∀ Q : St → Hp → Prop, (∀ G' σ', R G' → Lo F T H G' σ' → Q σ' H1) → g vs σ H1 Q
theorem tgs_nil {Z : Gm → Prop} (h : Z G) : Tgs F T gNil [] G Z := fun H H1 σ v l _ k Q q => ⟨k, q _ _ h l⟩
theorem tgs_cons {g : TG} {gs : TGs} {d : D} {ds : List D} {Z : Gm → Prop} (h : Tg F T g d G fun G' => Tgs F T gs ds G' Z) : Tgs F T (gCons g gs) (d :: ds) G Z := fun H H1 σ vs l e k Q q => by
  obtain ⟨v, r, ev, k1, k2⟩ := k
  exact ⟨v, r, ev, h H H1 σ v l e k1 _ fun G' σ' hh l' => hh H H1 σ' r l' e k2 Q q⟩
theorem tg_tup {n : Nat} {gs : TGs} {ds : List D} {Z : Gm → Prop} (hn : ds.length = n) (h : Tgs F T gs ds G Z) : Tg F T (gTup T.K n gs) (.tup ds) G Z := fun H H1 σ v l e k Q q => by
  obtain ⟨a, xs, ev, hs, kl⟩ := k
  exact ⟨a, xs, ev, Same.sqT e hs, by rw [kl.len, hn], h H H1 σ xs l e kl Q q⟩
theorem sw_for {wi : TI} {g : TG} (h : EvI F T wi G W fun ds W1 => ∃ I : Nat → Gm → Om → Prop, I 0 G W1 ∧
      (∀ i d G' W', ds[i]? = some d → I i G' W' → Tg F T g d G' fun G2 => Sw F T ts G2 W' { E with nx := I (i + 1), ct := I (i + 1), bk := E.nx }) ∧ (∀ G' W', I ds.length G' W' → E.nx G' W')) :
    Sw F T (tFor wi g ts) G W E := fun C H O σ w B b =>
  h C H O σ w _ fun J ds W1 H1 O1 ⟨I, i0, turn, fin⟩ n1 wk => by
    refine ⟨fun i m σ' X => m = ds.length - i ∧ i ≤ ds.length ∧ ∃ G' W' H' O', X = ov O' H' ∧ Nx F T C W' H1 H' O' ∧ Lo F T H' G' σ' ∧ I i G' W', ⟨ds.length, by simp, Nat.zero_le _, G, W1, H1, O1, rfl, ⟨Same.refl _, n1.dis, n1.oc, n1.own⟩, w.loc.mono n1.ext, i0⟩, ?_⟩
    rintro i m σ' X ⟨rfl, hi, G', W', H', O', rfl, n, l, ii⟩
    have k := wk i H' O' n.ext n.dis
    by_cases hlt : i < ds.length
    · obtain ⟨k1, k2⟩ := k.1 ds[i] (by simp [hlt])
      refine .inr ⟨k1, fun σ2 X2 => ∃ G2 W2 H2 O2, X2 = ov O2 H2 ∧ Nx F T C W2 H1 H2 O2 ∧ Lo F T H2 G2 σ2 ∧ I (i + 1) G2 W2, fun σ2 X2 ⟨G2, W2, H2, O2, e, n2, l2, i2⟩ => ⟨ds.length - (i + 1), by omega, rfl, hlt, G2, W2, H2, O2, e, n2, l2, i2⟩, fun x X2 y => ?_⟩
      obtain ⟨H2, s2, d2, rfl, kx⟩ := k2 x X2 y
      refine turn i ds[i] G' W' (by simp [hlt]) ii H2 _ σ' x (l.mono s2) d2.same kx _ fun G3 σ3 sw l3 => ?_
      refine sw C H2 O' σ3 ⟨d2, n.oc, l3, n.own.mono s2⟩ _ ⟨fun G4 W4 H4 O4 σ4 a n4 l4 => ⟨G4, W4, H4, O4, rfl, ⟨(n.ext.trans s2).trans n4.ext, n4.dis, n4.oc, n4.own⟩, l4, a⟩, ?_, ?_, fun G4 W4 H4 O4 σ4 a n4 l4 => ⟨G4, W4, H4, O4, rfl, ⟨(n.ext.trans s2).trans n4.ext, n4.dis, n4.oc, n4.own⟩, l4, a⟩⟩
      · exact fun d W4 H4 O4 v a n4 k4 => b.rt d W4 H4 O4 v a ⟨((n1.ext.trans n.ext).trans s2).trans n4.ext, n4.dis, n4.oc, n4.own⟩ k4
      · exact fun G4 W4 H4 O4 σ4 a n4 l4 => b.nx G4 W4 H4 O4 σ4 a ⟨((n1.ext.trans n.ext).trans s2).trans n4.ext, n4.dis, n4.oc, n4.own⟩ l4
    · have e : i = ds.length := by omega
      subst e
      exact .inl ⟨k.2 rfl, b.nx G' W' H' O' σ' (fin G' W' ii) ⟨n1.ext.trans n.ext, n.dis, n.oc, n.own⟩ l⟩
end
end N
set_option Elab.async false
set_option linter.all false
set_option maxRecDepth 100000
namespace N
open PySem L2
section
variable {F : FmKit} {T : Kx} {C H H' O O' : Hp} {G : Gm} {W W' : Om} {σ : St} {a p : Addr} {od : OD} {d : D} {l : List D}
theorem Ow.sub {W2 : Om} (o : Ow F T H C O W) (h : W2.Sublist W) : Ow F T H C O W2 := ⟨o.nd.sublist (h.map _), fun a od m => o.at_ a od (h.subset m)⟩
theorem Ow.perm {W2 : Om} (o : Ow F T H C O W) (h : W.Perm W2) : Ow F T H C O W2 := ⟨(h.map _).nodup_iff.mp o.nd, fun a od m => o.at_ a od (h.mem_iff.mpr m)⟩
theorem akeys_cons {x : Addr × OD} : akeys (x :: W) = x.1 :: akeys W := rfl
theorem mem_akeys {x : Addr × OD} (h : x ∈ W) : x.1 ∈ akeys W := List.mem_map.mpr ⟨x, h, rfl⟩
/-- a new owned cell -/
theorem Nx.newO {o : HO} (n : Nx F T C W H H' O') (hp : ov O' H' p = none) (h : OdAt F T H' (some o) od) : Nx F T C ((p, od) :: W) H H' (upd O' p o) ∧ upd (ov O' H') p o = ov (upd O' p o) H' ∧ p ∉ akeys W := by
  obtain ⟨h1, h2⟩ := ov_none hp
  have np := n.own.notin h1
  have cp : C p = none := by
    cases e : C p with
    | none => rfl
    | some x =>
      rw [n.oc p x e] at h1
      cases h1
  refine ⟨⟨n.ext, n.dis.updO h2, fun b x e => ?_, ⟨List.nodup_cons.mpr ⟨np, n.own.nd⟩, fun b ob m => ?_⟩⟩, ov_updO, np⟩
  · rw [upd_ne (ne_of_none e cp)]
    exact n.oc b x e
  · rcases List.mem_cons.mp m with e | m
    · obtain ⟨rfl, rfl⟩ := Prod.mk.inj e
      rw [upd_same]
      exact ⟨cp, h⟩
    · have : b ≠ p := fun q => np (q ▸ mem_akeys (x := (b, ob)) m)
      rw [upd_ne this]
      exact n.own.at_ b ob m
/-- a new frozen cell -/
theorem Nx.newF {o : HO} (n : Nx F T C W H H' O') (hp : ov O' H' p = none) : Nx F T C W H (upd H' p o) O' ∧ upd (ov O' H') p o = ov O' (upd H' p o) ∧ Same H' (upd H' p o) := by
  obtain ⟨h1, h2⟩ := ov_none hp
  have e := same_upd (o := o) h2
  exact ⟨⟨n.ext.trans e, n.dis.updH h1, n.oc, n.own.mono e⟩, ov_updH h1, e⟩
/-- an owned cell is written -/
theorem Nx.write {o : HO} {od2 : OD} {W1 W2 : Om} (n : Nx F T C (W1 ++ (p, od) :: W2) H H' O') (h : OdAt F T H' (some o) od2) : Nx F T C (W1 ++ (p, od2) :: W2) H H' (upd O' p o) ∧ upd (ov O' H') p o = ov (upd O' p o) H' := by
  have hm : (p, od) ∈ W1 ++ (p, od) :: W2 := by simp
  obtain ⟨cp, x⟩ := n.own.at_ p od hm
  obtain ⟨u, eu⟩ := x.some
  have nd := n.own.nd
  have ndk : (akeys (W1 ++ (p, od2) :: W2)) = akeys (W1 ++ (p, od) :: W2) := by simp [akeys]
  refine ⟨⟨n.ext, n.dis.updO (n.dis p u eu), fun b x e => ?_, ⟨by rw [ndk]; exact nd, fun b ob m => ?_⟩⟩, ov_updO⟩
  · rw [upd_ne (ne_of_none e cp)]
    exact n.oc b x e
  · by_cases q : b = p
    · subst q
      have : ob = od2 := by
        have nd2 : (akeys (W1 ++ (b, od2) :: W2)).Nodup := by rw [ndk]; exact nd
        have hu : ∀ (W : Om) (x y : OD), (akeys W).Nodup → (b, x) ∈ W → (b, y) ∈ W → x = y := by
          intro W
          induction W with
          | nil => intro x y _ h; simp at h
          | cons z W ih =>
            intro x y hn hx hy
            rw [akeys_cons, List.nodup_cons] at hn
            rcases List.mem_cons.mp hx with ex | hx
            · rcases List.mem_cons.mp hy with ey | hy
              · rw [← ex] at ey
                exact (Prod.mk.inj ey).2.symm
              · exact absurd (by rw [← ex]; exact mem_akeys (x := (b, y)) hy) hn.1
            · rcases List.mem_cons.mp hy with ey | hy
              · exact absurd (by rw [← ey]; exact mem_akeys (x := (b, x)) hx) hn.1
              · exact ih x y hn.2 hx hy
        exact hu _ ob od2 nd2 m (by simp)
      subst this
      rw [upd_same]
      exact ⟨cp, h⟩
    · rw [upd_ne q]
      refine n.own.at_ b ob ?_
      rcases List.mem_append.mp m with m | m
      · exact List.mem_append_left _ m
      · rcases List.mem_cons.mp m with e | m
        · exact absurd (Prod.mk.inj e).1 q
        · exact List.mem_append_right _ (List.mem_cons_of_mem _ m)
def partsD : Fm → List D
  | .at c => [.str ⟨#[c]⟩]
  | .no => []
  | .imp a b => [.fm a, .fm b]
  | .all a => [.fm a]
def AllsD (a : Addr) (f : Fm) : List D → List Fm → Prop
  | [], fs => fs = []
  | d :: ds, fs => ∃ g r, fs = g :: r ∧ (d = .fm g ∨ (d = .adr a ∧ g = f)) ∧ AllsD a f ds r
inductive Fzd (F : FmKit) (a : Addr) : OD → D → Prop
  | lst (l : List D) : Fzd F a (.lst l) (.lst l)
  | dct (ks : List Key) (l : List D) : Fzd F a (.dct ks l) (.dct ks l)
  | obj (c : Nat) (ns : List Str) (l : List D) : Fzd F a (.ins c ns l) (.obj c ns l)
  | fm (f : Fm) (al : List D) : AllsD a f al (F.alls f) → Fzd F a (.ins 0 fmNames [.str (F.kind f), .tup (partsD f), .int (F.many f), .int (F.deep f), .str (F.atoms f), .str (F.bare f), .str (F.spell f), .tup al]) (.fm f)
theorem parts_of {R : Addr → Fm → Prop} (hR : ∀ b g, FormAt F T H b g → R b g) : ∀ {f : Fm} {xs : List V}, DenL F T H (partsD f) xs → PartsR R f xs
  | .at c, xs, h => DenL.vls_inv (ws := [.str ⟨#[c]⟩]) h
  | .no, xs, h => h
  | .imp a b, xs, ⟨v, r, e, ⟨p, e1, h1⟩, u, s, e2, ⟨q, e3, h3⟩, e4⟩ => by
    have e4 : s = [] := e4
    subst e e1 e2 e3 e4
    exact ⟨p, q, rfl, hR _ _ h1, hR _ _ h3⟩
  | .all a, xs, ⟨v, r, e, ⟨p, e1, h1⟩, e2⟩ => by
    have e2 : r = [] := e2
    subst e e1 e2
    exact ⟨p, rfl, hR _ _ h1⟩
theorem alls_of {R : Addr → Fm → Prop} {f : Fm} (hR : ∀ b g, FormAt F T H b g → R b g) (ha : R a f) : ∀ {al : List D} {xs : List V} {fs : List Fm}, AllsD a f al fs → DenL F T H al xs → ∃ as : List Addr, xs = as.map V.ref ∧ AllR R as fs
  | [], xs, fs, h, k => ⟨[], k, h⟩
  | d :: ds, xs, fs, ⟨g, r, e, hd, ht⟩, ⟨v, rv, e1, k1, k2⟩ => by
    obtain ⟨as, e2, h2⟩ := alls_of hR ha ht k2
    subst e e1 e2
    rcases hd with hd | ⟨hd, hg⟩
    · subst hd
      obtain ⟨b, e3, h3⟩ := k1
      subst e3
      exact ⟨b :: as, rfl, g, r, rfl, hR _ _ h3, h2⟩
    · subst hd hg
      have k1 : v = .ref a := k1
      subst k1
      exact ⟨a :: as, rfl, g, r, rfl, ha, h2⟩
theorem lcons {α : Type} {n : α} {ns : List α} : ∀ {fs : List (α × V)}, fs.map (·.1) = n :: ns → ∃ v r, fs = (n, v) :: r ∧ r.map (·.1) = ns
  | [], h => by simp at h
  | (m, v) :: r, h => by
    rw [List.map_cons] at h
    injection h with h1 h2
    exact ⟨v, r, by rw [← h1], h2⟩
theorem Fzd.den (z : Fzd F a od d) (h : OdAt F T H (O a) od) (hn : H a = none) : ∃ o, O a = some o ∧ Den F T (upd H a o) d (.ref a) := by
  cases z with
  | lst l =>
    obtain ⟨xs, e, k⟩ := h
    exact ⟨_, e, a, xs, rfl, upd_same, k.mono (same_upd hn)⟩
  | dct ks l =>
    obtain ⟨kvs, e, h1, h2, k⟩ := h
    exact ⟨_, e, a, kvs, rfl, upd_same, h1, h2, k.mono (same_upd hn)⟩
  | obj c ns l =>
    obtain ⟨dx, fs, e, h1, k⟩ := h
    exact ⟨_, e, a, dx, fs, rfl, upd_same, h1, k.mono (same_upd hn)⟩
  | fm f al hal =>
    obtain ⟨dx, fs, e, h1, k⟩ := h
    refine ⟨_, e, a, rfl, ?_⟩
    obtain ⟨v1, r1, g1, w1⟩ := lcons h1
    subst g1
    obtain ⟨v2, r2, g2, w2⟩ := lcons w1
    subst g2
    obtain ⟨v3, r3, g3, w3⟩ := lcons w2
    subst g3
    obtain ⟨v4, r4, g4, w4⟩ := lcons w3
    subst g4
    obtain ⟨v5, r5, g5, w5⟩ := lcons w4
    subst g5
    obtain ⟨v6, r6, g6, w6⟩ := lcons w5
    subst g6
    obtain ⟨v7, r7, g7, w7⟩ := lcons w6
    subst g7
    obtain ⟨v8, r8, g8, w8⟩ := lcons w7
    subst g8
    have w9 : r8 = [] := List.map_eq_nil_iff.mp w8
    subst w9
    have k := k.mono (same_upd (o := .ins (T.cl 0) dx [("kind", v1), ("parts", v2), ("many", v3), ("deepest", v4), ("atoms", v5), ("bare", v6), ("spelled", v7), ("alls_known", v8)]) hn)
    obtain ⟨_, _, q1, k1, _, _, q2, k2, _, _, q3, k3, _, _, q4, k4, _, _, q5, k5, _, _, q6, k6, _, _, q7, k7, _, _, q8, k8, _⟩ := k
    simp only [List.map_cons, List.map_nil, List.cons.injEq] at q1 q2 q3 q4 q5 q6 q7 q8
    obtain ⟨rfl, rfl⟩ := q1
    obtain ⟨rfl, rfl⟩ := q2
    obtain ⟨rfl, rfl⟩ := q3
    obtain ⟨rfl, rfl⟩ := q4
    obtain ⟨rfl, rfl⟩ := q5
    obtain ⟨rfl, rfl⟩ := q6
    obtain ⟨rfl, rfl⟩ := q7
    obtain ⟨rfl, rfl⟩ := q8
    have k1 : v1 = .str (F.kind f) := k1
    obtain ⟨pa, ps, ep, hp, kp⟩ := k2
    have k3 : v3 = .int (F.many f) := k3
    have k4 : v4 = .int (F.deep f) := k4
    have k5 : v5 = .str (F.atoms f) := k5
    have k6 : v6 = .str (F.bare f) := k6
    have k7 : v7 = .str (F.spell f) := k7
    obtain ⟨aa, as, ea, ha, ka⟩ := k8
    subst k1 ep k3 k4 k5 k6 k7 ea
    obtain ⟨bs, eb, hb⟩ := alls_of (R := fun b g => FormAt F T (upd H a (.ins (T.cl 0) dx (fmFields F f pa aa))) b g ∨ (b = a ∧ g = f)) (fun b g x => .inl x) (.inr ⟨rfl, rfl⟩) hal ka
    subst eb
    exact FormAt.mk ⟨dx, pa, ps, aa, bs, upd_same, hp, parts_of (fun b g x => .inl x) kp, ha, hb⟩
/-- what may be taken in the place of d -/
def Fz (F : FmKit) (R : D → Om → Prop) : D → Om → Prop := fun d W => ∃ a od W2 d', d = .adr a ∧ W.Perm ((a, od) :: W2) ∧ Fzd F a od d' ∧ R d' W2
theorem Nx.freeze {W2 : Om} {d' : D} (n : Nx F T C W H H' O') (hp : W.Perm ((a, od) :: W2)) (z : Fzd F a od d') : ∃ o, O' a = some o ∧ Nx F T C W2 H (upd H' a o) (del O' a) ∧ ov O' H' = ov (del O' a) (upd H' a o) ∧ Den F T (upd H' a o) d' (.ref a) ∧ Same H' (upd H' a o) := by
  have ow := n.own.perm hp
  obtain ⟨ca, oa⟩ := ow.at_ a od (by simp)
  obtain ⟨u, eu⟩ := oa.some
  have hn : H' a = none := n.dis a u eu
  obtain ⟨o, eo, k⟩ := z.den (O := O') oa hn
  have e := same_upd (o := o) hn
  have nd := ow.nd
  rw [akeys_cons, List.nodup_cons] at nd
  refine ⟨o, eo, ⟨n.ext.trans e, n.dis.freeze, fun b x q => ?_, ⟨nd.2, fun b ob m => ?_⟩⟩, ov_freeze eo, k, e⟩
  · rw [del_ne (ne_of_none q ca)]
    exact n.oc b x q
  · have hb : b ≠ a := fun q => nd.1 (q ▸ mem_akeys (x := (b, ob)) m)
    rw [del_ne hb]
    obtain ⟨h1, h2⟩ := ow.at_ b ob (List.mem_cons_of_mem _ m)
    exact ⟨h1, h2.mono e⟩
end
section
variable {F : FmKit} {T : Kx} {C H H' O O' : Hp} {G : Gm} {W W' : Om} {σ : St} {a p : Addr} {od : OD} {d : D} {l : List D}
  {te ta tb : TE} {t u : TT} {R R' : D → Om → Prop} {S S' : Bool → Om → Prop} {tr : TA} {ts tz : TS} {E E' : En}
theorem ev_fz (h : Ev F T te G W (Fz F R)) : Ev F T te G W R := fun C H O σ w Q q => h C H O σ w Q fun d W' H' O' v ⟨a, od, W2, d', e, hp, z, r⟩ n k => by
  subst e
  have k : v = .ref a := k
  subst k
  obtain ⟨o, _, n2, eo, k2, _⟩ := n.freeze hp z
  rw [eo]
  exact q d' W2 _ _ _ r n2 k2
theorem ca_fz {r : List V → Hp → VK → Prop} {ds : List D} (h : Ca F T r ds W (Fz F R)) : Ca F T r ds W R := fun C H O di oc ow xs hx Q q => h C H O di oc ow xs hx Q fun d W' H' O' v ⟨a, od, W2, d', e, hp, z, r⟩ n k => by
  subst e
  have k : v = .ref a := k
  subst k
  obtain ⟨o, _, n2, eo, k2, _⟩ := n.freeze hp z
  rw [eo]
  exact q d' W2 _ _ _ r n2 k2
/-- a slot's owned cell is frozen -/
theorem sw_fz {i : Nat} {d' : D} {W2 : Om} (hi : G[i]? = some (some (.adr a))) (hp : W.Perm ((a, od) :: W2)) (z : Fzd F a od d') (h : Sw F T ts (G.set i (some d')) W2 E) : Sw F T ts G W E := fun C H O σ w B b => by
  obtain ⟨o, _, n2, eo, k2, e2⟩ := w.nx.freeze hp z
  obtain ⟨v, ev, kv⟩ := w.loc.at_ i _ hi
  have kv : v = .ref a := kv
  subst kv
  rw [eo]
  have l2 := (w.loc.mono e2).set (i := i) k2
  have es : σ.set i (some (.ref a)) = σ := by
    apply List.ext_getElem?
    intro j
    by_cases q : i = j
    · subst q
      have hl : i < σ.length := (List.getElem?_eq_some_iff.mp ev).1
      rw [List.getElem?_set_self hl, ev]
    · rw [List.getElem?_set_ne q]
  rw [es] at l2
  exact h C _ _ σ ⟨n2.dis, n2.oc, l2, n2.own⟩ B (b.up n2.ext)
theorem sw_drp {W2 : Om} (hs : W2.Sublist W) (h : Sw F T ts G W2 E) : Sw F T ts G W E := fun C H O σ w B b => h C H O σ ⟨w.dis, w.oc, w.loc, w.own.sub hs⟩ B b
theorem sw_perm {W2 : Om} (hs : W.Perm W2) (h : Sw F T ts G W2 E) : Sw F T ts G W E := fun C H O σ w B b => h C H O σ ⟨w.dis, w.oc, w.loc, w.own.perm hs⟩ B b
theorem ev_tup (h : EvA F T tr G W fun ds W1 => ds.length ≤ sizeLine ∧ R (.tup ds) W1) : Ev F T (tTup tr) G W R := fun C H O σ w Q q =>
  h C H O σ w _ fun ds W1 H1 O1 vs ⟨hl, r⟩ n k => ⟨by rw [k.len]; exact hl, fun p hp => by
    obtain ⟨n2, e, s⟩ := n.newF (o := .tup vs) hp
    rw [e]
    exact q (.tup ds) W1 _ _ _ r n2 ⟨p, vs, rfl, SqT.of upd_same, k.mono s⟩⟩
theorem ev_lst (h : EvA F T tr G W fun ds W1 => ds.length ≤ sizeLine ∧ ∀ p, p ∉ akeys W1 → R (.adr p) ((p, .lst ds) :: W1)) : Ev F T (tLst tr) G W R := fun C H O σ w Q q =>
  h C H O σ w _ fun ds W1 H1 O1 vs ⟨hl, r⟩ n k => ⟨by rw [k.len]; exact hl, fun p hp => by
    obtain ⟨n2, e, np⟩ := n.newO (od := .lst ds) (o := .lst vs) hp ⟨vs, rfl, k⟩
    rw [e]
    exact q (.adr p) _ _ _ _ (r p np) n2 rfl⟩
/-- .. frozen at once -/
theorem ev_lstF (h : EvA F T tr G W fun ds W1 => ds.length ≤ sizeLine ∧ R (.lst ds) W1) : Ev F T (tLst tr) G W R := fun C H O σ w Q q =>
  h C H O σ w _ fun ds W1 H1 O1 vs ⟨hl, r⟩ n k => ⟨by rw [k.len]; exact hl, fun p hp => by
    obtain ⟨n2, e, s⟩ := n.newF (o := .lst vs) hp
    rw [e]
    exact q (.lst ds) W1 _ _ _ r n2 ⟨p, vs, rfl, upd_same, k.mono s⟩⟩
/-- d is a list of l: frozen, or owned -/
def Vl (W : Om) (d : D) (l : List D) : Prop := (d = .lst l ∨ ∃ vs, d = .scr vs ∧ l = vs.map .vl) ∨ ∃ a, d = .adr a ∧ (a, .lst l) ∈ W
def Vs (W : Om) (d : D) (l : List D) : Prop := Vl W d l ∨ d = .tup l
theorem Vl.sq {x : V} (o : Ow F T H C O W) (di : Dis O H) (h : Vl W d l) (k : Den F T H d x) : ∃ a xs, x = .ref a ∧ SqL T.K (ov O H) a xs ∧ DenL F T H l xs := by
  rcases h with (rfl | ⟨vs, rfl, rfl⟩) | ⟨a, rfl, m⟩
  · obtain ⟨a, xs, e, hs, kl⟩ := k
    exact ⟨a, xs, e, SqL.of (di.same _ _ hs), kl⟩
  · obtain ⟨a, e, hs⟩ := k
    exact ⟨a, vs, e, di.same.seq hs, .vls vs⟩
  · obtain ⟨_, xs, e, kl⟩ := o.at_ a _ m
    exact ⟨a, xs, k, SqL.of (ov_own e), kl⟩
/-- a list that the program has made -/
def Vt (W : Om) (d : D) (l : List D) : Prop := d = .lst l ∨ ∃ a, d = .adr a ∧ (a, .lst l) ∈ W
theorem Vt.vl (h : Vt W d l) : Vl W d l := h.elim (fun h => .inl (.inl h)) .inr
theorem Vt.at {x : V} (o : Ow F T H C O W) (di : Dis O H) (h : Vt W d l) (k : Den F T H d x) : ∃ a xs, x = .ref a ∧ ov O H a = some (.lst xs) ∧ DenL F T H l xs := by
  rcases h with rfl | ⟨a, rfl, m⟩
  · obtain ⟨a, xs, e, hs, kl⟩ := k
    exact ⟨a, xs, e, di.same _ _ hs, kl⟩
  · obtain ⟨_, xs, e, kl⟩ := o.at_ a _ m
    exact ⟨a, xs, k, ov_own e, kl⟩
theorem Vs.sq {x : V} (o : Ow F T H C O W) (di : Dis O H) (h : Vs W d l) (k : Den F T H d x) : ∃ a xs, x = .ref a ∧ (SqL T.K (ov O H) a xs ∨ SqT T.K (ov O H) a xs) ∧ DenL F T H l xs := by
  rcases h with h | rfl
  · obtain ⟨a, xs, e, hs, kl⟩ := h.sq o di k
    exact ⟨a, xs, e, .inl hs, kl⟩
  · obtain ⟨a, xs, e, hs, kl⟩ := k
    exact ⟨a, xs, e, .inr (Same.sqT di.same hs), kl⟩
theorem ca_one {r : List V → Hp → VK → Prop} {d : D} (h : ∀ (C H O : Hp), Dis O H → Same C O → Ow F T H C O W → ∀ x, Den F T H d x → ∀ Q : VK, (∀ d W' H' O' v, R d W' → Nx F T C W' H H' O' → Den F T H' d v → Q v (ov O' H')) → r [x] (ov O H) Q) : Ca F T r [d] W R := fun C H O di oc ow vs k Q q => by
  obtain ⟨v, r', e, k1, e2⟩ := k
  have e2 : r' = [] := e2
  subst e e2
  exact h C H O di oc ow v k1 Q q
theorem ca_two {r : List V → Hp → VK → Prop} {d e : D} (h : ∀ (C H O : Hp), Dis O H → Same C O → Ow F T H C O W → ∀ x y, Den F T H d x → Den F T H e y → ∀ Q : VK, (∀ d W' H' O' v, R d W' → Nx F T C W' H H' O' → Den F T H' d v → Q v (ov O' H')) → r [x, y] (ov O H) Q) : Ca F T r [d, e] W R := fun C H O di oc ow vs k Q q => by
  obtain ⟨v, r', e1, k1, u, r2, e2, k2, e3⟩ := k
  have e3 : r2 = [] := e3
  subst e3 e2 e1
  exact h C H O di oc ow v u k1 k2 Q q
/-- len of a list or a tuple -/
theorem ca_len (hv : Vs W d l) (r : R (.int l.length) W) : Ca F T (fun xs H Q => ∃ x n, xs = [x] ∧ LenV T.K x H n ∧ Q (.int (n : Nat)) H) [d] W R := ca_one fun C H O di oc ow x k Q q => by
  obtain ⟨a, xs, e, hs, kl⟩ := hv.sq ow di k
  subst e
  refine ⟨_, xs.length, rfl, ?_, ?_⟩
  · exact hs.elim (fun h => .inl ⟨xs, h, rfl⟩) fun h => .inr ⟨xs, h, rfl⟩
  · rw [kl.len]
    exact q (.int l.length) W H O _ r (.refl di oc ow) rfl
theorem ca_lenS {s : Str} (hl : s.length ≤ sizeLine) (r : R (.int s.length) W) : Ca F T (fun xs H Q => ∃ x n, xs = [x] ∧ LenV T.K x H n ∧ Q (.int (n : Nat)) H) [.str s] W R := ca_one fun C H O di oc ow x k Q q => by
  have k : x = .str s := k
  subst k
  exact ⟨_, s.length, rfl, ⟨hl, rfl⟩, q (.int s.length) W H O _ r (.refl di oc ow) rfl⟩
/-- list(..) -/
theorem ca_list (hv : Vs W d l) (r : ∀ p, p ∉ akeys W → R (.adr p) ((p, .lst l) :: W)) : Ca F T (fun xs H Q => ∃ p ys, xs = [.ref p] ∧ (SqL T.K H p ys ∨ SqT T.K H p ys) ∧ ∀ q, H q = none → Q (.ref q) (upd H q (.lst ys))) [d] W R := ca_one fun C H O di oc ow x k Q q => by
  obtain ⟨a, xs, e, hs, kl⟩ := hv.sq ow di k
  subst e
  refine ⟨a, xs, rfl, hs, fun p hp => ?_⟩
  obtain ⟨n2, e, np⟩ := (Nx.refl di oc ow).newO (od := .lst l) (o := .lst xs) hp ⟨xs, rfl, kl⟩
  rw [e]
  exact q (.adr p) _ _ _ _ (r p np) n2 rfl
/-- tuple(list) -/
theorem ca_tup (hv : Vl W d l) (r : R (.tup l) W) : Ca F T (fun xs H Q => ∃ p ys, xs = [.ref p] ∧ ((SqL T.K H p ys ∧ ∀ q, H q = none → Q (.ref q) (upd H q (.tup ys))) ∨ (SqT T.K H p ys ∧ Q (.ref p) H))) [d] W R := ca_one fun C H O di oc ow x k Q q => by
  obtain ⟨a, xs, e, hs, kl⟩ := hv.sq ow di k
  subst e
  refine ⟨a, xs, rfl, .inl ⟨hs, fun p hp => ?_⟩⟩
  obtain ⟨n2, e, s⟩ := (Nx.refl di oc ow).newF (o := .tup xs) hp
  rw [e]
  exact q (.tup l) W _ _ _ r n2 ⟨p, xs, rfl, SqT.of upd_same, kl.mono s⟩
theorem atI_len {α β : Type} {xs : List α} {ys : List β} {i : Int} {y : β} (hl : xs.length = ys.length) (h : atI ys i = some y) : ∃ j : Nat, ys[j]? = some y ∧ ∀ x, xs[j]? = some x → atI xs i = some x := by
  unfold atI at h ⊢
  rw [hl]
  cases e : ixN ys.length i with
  | none =>
    rw [e] at h
    cases h
  | some j =>
    rw [e] at h
    exact ⟨j, h, fun x hx => hx⟩
theorem DenL.atI {l : List D} {xs : List V} {i : Int} {d : D} (k : DenL F T H l xs) (h : atI l i = some d) : ∃ v, L2.atI xs i = some v ∧ Den F T H d v := by
  obtain ⟨j, hj, f⟩ := atI_len (xs := xs) k.len h
  obtain ⟨v, hv, kv⟩ := k.get hj
  exact ⟨v, f v hv, kv⟩
theorem bo_ixL {i : Int} {z : D} (hv : Vl W d l) (hi : atI l i = some z) (r : R z W) : Bo F T (rIxL T.K) d (.int i) W R := fun C H O di oc ow x y hx hy Q q => by
  obtain ⟨a, xs, e, hs, kl⟩ := hv.sq ow di hx
  have hy : y = .int i := hy
  obtain ⟨v, ev, kv⟩ := kl.atI hi
  subst e hy
  exact ⟨a, xs, i, v, rfl, rfl, hs, ev, q z W H O v r (.refl di oc ow) kv⟩
theorem bo_ixT {i : Int} {z : D} (hi : atI l i = some z) (r : R z W) : Bo F T (rIxT T.K) (.tup l) (.int i) W R := fun C H O di oc ow x y hx hy Q q => by
  obtain ⟨a, xs, e, hs, kl⟩ := hx
  have hy : y = .int i := hy
  obtain ⟨v, ev, kv⟩ := kl.atI hi
  subst e hy
  exact ⟨a, xs, i, v, rfl, rfl, Same.sqT di.same hs, ev, q z W H O v r (.refl di oc ow) kv⟩
theorem ev_bm {Ty : String} {r : V → List V → Hp → VK → Prop} {to : TE}
    (h : Ev F T to G W fun d W1 => (∀ (C H O : Hp), Dis O H → Same C O → Ow F T H C O W1 → ∀ x, Den F T H d x → tyV T.K Ty x (ov O H)) ∧ EvA F T tr G W1 fun ds W2 =>
      ∀ (C H O : Hp), Dis O H → Same C O → Ow F T H C O W2 → ∀ x vs, Den F T H d x → DenL F T H ds vs → ∀ Q : VK, (∀ d W' H' O' v, R d W' → Nx F T C W' H H' O' → Den F T H' d v → Q v (ov O' H')) → r x vs (ov O H) Q) : Ev F T (tBM T.K Ty r to tr) G W R := fun C H O σ w Q q =>
  h C H O σ w _ fun d W1 H1 O1 x ⟨ht, ha⟩ n1 k1 => ⟨ht C H1 O1 n1.dis n1.oc n1.own x k1, ha C H1 O1 σ (w.step n1) _ fun ds W2 H2 O2 vs r2 n2 k2 =>
    r2 C H2 O2 n2.dis n2.oc n2.own x vs (k1.mono n2.ext) k2 Q fun d W' H' O' v rr n k => q d W' H' O' v rr ((n1.trans n2).trans n) k⟩
theorem ev_bm0 {Ty : String} {r : V → List V → Hp → VK → Prop} {to : TE}
    (h : Ev F T to G W fun d W1 => ∀ (C H O : Hp), Dis O H → Same C O → Ow F T H C O W1 → ∀ x, Den F T H d x → tyV T.K Ty x (ov O H) ∧
      ∀ Q : VK, (∀ d W' H' O' v, R d W' → Nx F T C W' H H' O' → Den F T H' d v → Q v (ov O' H')) → r x [] (ov O H) Q) : Ev F T (tBM0 T.K Ty r to) G W R := fun C H O σ w Q q =>
  h C H O σ w _ fun d W1 H1 O1 x r1 n1 k1 => let ⟨ht, r2⟩ := r1 C H1 O1 n1.dis n1.oc n1.own x k1
    ⟨ht, r2 Q fun d W' H' O' v rr n k => q d W' H' O' v rr (n1.trans n) k⟩
theorem own_lst {W1 W2 : Om} (ow : Ow F T H C O (W1 ++ (a, .lst l) :: W2)) : ∃ xs, O a = some (.lst xs) ∧ DenL F T H l xs := (ow.at_ a (.lst l) (by simp)).2
/-- l.append(e) -/
theorem ev_append {to : TE} (h : Ev F T to G W fun d W0 => ∃ a l0 W01 W02, d = .adr a ∧ W0 = W01 ++ (a, .lst l0) :: W02 ∧ EvA F T tr G W0 fun ds W' => ∃ l W1 W2 z, W' = W1 ++ (a, .lst l) :: W2 ∧ ds = [z] ∧ l.length < sizeLine ∧ R .non (W1 ++ (a, .lst (l ++ [z])) :: W2)) :
    Ev F T (tBM T.K "list" rAppend to tr) G W R := ev_bm (h.imp fun d W0 ⟨a, l0, W01, W02, e1, e2, ha⟩ => by
  subst e1
  refine ⟨fun C H O di oc ow x kx => ?_, ?_⟩
  · have kx : x = .ref a := kx
    subst kx e2
    obtain ⟨xs, e, _⟩ := own_lst ow
    exact .inl ⟨rfl, xs, SqL.of (ov_own e)⟩
  · refine fun C H O σ w Q q => ha C H O σ w Q fun ds W' H' O' vs ⟨l, W1, W2, z, e3, e4, hl, r⟩ n k => q ds W' H' O' vs ?_ n k
    subst e3 e4
    intro C H O di oc ow x vs kx kv Q q
    have kx : x = .ref a := kx
    obtain ⟨v, r', ev, k1, er⟩ := kv
    have er : r' = [] := er
    subst kx ev er
    obtain ⟨xs, e, kl⟩ := own_lst ow
    refine ⟨a, xs, v, rfl, rfl, ov_own e, by rw [kl.len]; exact hl, ?_⟩
    obtain ⟨n2, e2⟩ := (Nx.refl di oc ow).write (o := .lst (xs ++ [v])) (od2 := .lst (l ++ [z])) ⟨_, rfl, kl.app (.one k1)⟩
    rw [e2]
    exact q .non _ _ _ _ r n2 rfl)
/-- l.pop() -/
theorem ev_pop {to : TE} (h : Ev F T to G W fun d W0 => ∃ a l W1 W2 z, d = .adr a ∧ W0 = W1 ++ (a, .lst (l ++ [z])) :: W2 ∧ R z (W1 ++ (a, .lst l) :: W2)) : Ev F T (tBM0 T.K "list" rPop to) G W R :=
  ev_bm0 (h.imp fun d W0 ⟨a, l, W1, W2, z, e1, e2, r⟩ => by
    subst e1 e2
    intro C H O di oc ow x kx
    have kx : x = .ref a := kx
    subst kx
    obtain ⟨xs, e, kl⟩ := own_lst ow
    refine ⟨.inl ⟨rfl, xs, SqL.of (ov_own e)⟩, fun Q q => ?_⟩
    obtain ⟨us, ws, e3, k1, k2⟩ := kl.app_inv
    obtain ⟨v, r', ev, kv, er⟩ := k2
    have er : r' = [] := er
    subst er ev e3
    refine ⟨a, _, v, rfl, rfl, ov_own e, by simp, ?_⟩
    rw [List.dropLast_concat]
    obtain ⟨n2, e2⟩ := (Nx.refl di oc ow).write (o := .lst us) (od2 := .lst l) ⟨_, rfl, k1⟩
    rw [e2]
    exact q z _ _ _ _ r n2 kv)
/-- l[i] = e -/
theorem sw_setL {to ti : TE} (h : Ev F T te G W fun z W1 => Ev F T to G W1 fun d W2 => Ev F T ti G W2 fun i W3 => ∃ a l j k Wa Wb, d = .adr a ∧ i = .int k ∧ W3 = Wa ++ (a, .lst l) :: Wb ∧ ixN l.length k = some j ∧ E.nx G (Wa ++ (a, .lst (l.set j z)) :: Wb)) :
    Sw F T (tAsg te (gSub to ti rSetL)) G W E := fun C H O σ w B b =>
  h C H O σ w _ fun z W1 H1 O1 v h1 n1 k1 => h1 C H1 O1 σ (w.step n1) _ fun d W2 H2 O2 x h2 n2 k2 => h2 C H2 O2 σ ((w.step n1).step n2) _ fun i W3 H3 O3 y ⟨a, l, j, k, Wa, Wb, e1, e2, e3, hj, r⟩ n3 k3 => by
    subst e1 e2 e3
    have k2 : x = .ref a := k2
    have k3 : y = .int k := k3
    subst k2 k3
    obtain ⟨xs, e, kl⟩ := own_lst n3.own
    refine ⟨a, xs, k, j, rfl, rfl, ov_own e, by rw [kl.len]; exact hj, ?_⟩
    have nn := (n1.trans n2).trans n3
    obtain ⟨n4, e4⟩ := nn.write (o := .lst (xs.set j v)) (od2 := .lst (l.set j z)) ⟨_, rfl, kl.set ((k1.mono n2.ext).mono n3.ext)⟩
    rw [e4]
    exact b.nx _ _ _ _ _ r n4 (w.loc.mono nn.ext)
theorem ei_list {tl : TE} {Z : List D → Om → Prop} (h : Ev F T tl G W fun d W1 => ∃ l, d = .lst l ∧ Z l W1) : EvI F T (iList T.K tl) G W Z := fun C H O σ w Q q =>
  h C H O σ w _ fun d W1 H1 O1 x ⟨l, e, z⟩ n k => by
    subst e
    obtain ⟨a, xs, ea, hs, kl⟩ := k
    subst ea
    have hs : SqL T.K H1 a xs := SqL.of hs
    refine ⟨a, rfl, ⟨xs, n.dis.same.seq hs⟩, q _ l W1 H1 O1 z n fun i H2 O2 s di => ⟨fun d hd => ?_, fun e => ⟨xs, di.same.seq (s.seq hs), by rw [kl.len, e]; exact Nat.le_refl _⟩⟩⟩
    obtain ⟨v, hv, kv⟩ := kl.get hd
    have hq : SqL T.K (ov O2 H2) a xs := di.same.seq (s.seq hs)
    refine ⟨⟨xs, v, hq, hv⟩, fun x X ⟨e, y⟩ => ⟨H2, Same.refl _, di, e, ?_⟩⟩
    have := y xs hq
    rw [hv] at this
    cases this
    exact kv.mono s
theorem ei_tup {tl : TE} {Z : List D → Om → Prop} (h : Ev F T tl G W fun d W1 => ∃ l, d = .tup l ∧ Z l W1) : EvI F T (iTup T.K tl) G W Z := fun C H O σ w Q q =>
  h C H O σ w _ fun d W1 H1 O1 x ⟨l, e, z⟩ n k => by
    subst e
    obtain ⟨a, xs, ea, hs, kl⟩ := k
    subst ea
    refine ⟨a, rfl, ⟨xs, Same.sqT n.dis.same hs⟩, q _ l W1 H1 O1 z n fun i H2 O2 s di => ⟨fun d hd => ?_, fun e => ⟨xs, Same.sqT di.same (Same.sqT s hs), by rw [kl.len, e]; exact Nat.le_refl _⟩⟩⟩
    obtain ⟨v, hv, kv⟩ := kl.get hd
    have hq : SqT T.K (ov O2 H2) a xs := Same.sqT di.same (Same.sqT s hs)
    refine ⟨⟨xs, v, hq, hv⟩, fun x X ⟨e, y⟩ => ⟨H2, Same.refl _, di, e, ?_⟩⟩
    have := y xs hq
    rw [hv] at this
    cases this
    exact kv.mono s
def rng (lo : Int) (n : Nat) : List D := (List.range n).map fun k => .int (lo + (k : Nat))
theorem rng_len (lo : Int) (n : Nat) : (rng lo n).length = n := by simp [rng]
theorem rng_get {lo : Int} {n i : Nat} {d : D} (h : (rng lo n)[i]? = some d) : i < n ∧ d = .int (lo + (i : Nat)) := by
  have hi : i < (rng lo n).length := (List.getElem?_eq_some_iff.mp h).1
  rw [rng_len] at hi
  refine ⟨hi, ?_⟩
  unfold rng at h
  rw [List.getElem?_map, List.getElem?_range hi] at h
  exact (Option.some.inj h).symm
theorem wk_rng {lo : Int} {n : Nat} : Wk F T (Itr lo n) H (rng lo n) := fun i H2 O2 s di => ⟨fun d hd => by
  obtain ⟨hi, e⟩ := rng_get hd
  subst e
  exact ⟨hi, fun x X ⟨e1, e2⟩ => ⟨H2, Same.refl _, di, e1, e2⟩⟩, fun e => by
  rw [rng_len] at e
  show n ≤ i
  omega⟩
theorem ei_rng1 {Z : List D → Om → Prop} (h : EvA F T tr G W fun ds W1 => ∃ j : Int, ds = [.int j] ∧ -(2 ^ 62) ≤ j ∧ j < 2 ^ 62 ∧ Z (rng 0 j.toNat) W1) : EvI F T (iRng1 tr) G W Z := fun C H O σ w Q q =>
  h C H O σ w _ fun ds W1 H1 O1 vs ⟨j, e, h1, h2, z⟩ n k => by
    subst e
    have k := DenL.vls_inv (ws := [.int j]) k
    subst k
    exact ⟨j, rfl, h1, h2, q _ _ W1 H1 O1 z n wk_rng⟩
end
end N
set_option Elab.async false
set_option linter.all false
set_option maxRecDepth 100000
namespace N
open PySem L2
/-- a promise: data of the arguments, owned cells handed in, what is wanted behind -/
abbrev FS := List D → Om → (D → Om → Prop) → Prop
section
variable (F : FmKit) (T : Kx)
def spN (S : FS) : Sp := fun vs X Q _ => ∃ (ds : List D) (W : Om) (C H O : Hp) (post : D → Om → Prop), X = ov O H ∧ Dis O H ∧ Same C O ∧ Ow F T H C O W ∧ DenL F T H ds vs ∧ S ds W post ∧
  ∀ d W' H' O' v, post d W' → Nx F T C W' H H' O' → Den F T H' d v → Q v (ov O' H')
end
section
variable {F : FmKit} {T : Kx} {C H H' O O' : Hp} {G : Gm} {W W' : Om} {σ : St} {a p : Addr} {od : OD} {d : D} {l : List D}
  {te ta tb : TE} {t u : TT} {R R' : D → Om → Prop} {Z : Bool → Om → Prop} {tr tk : TA} {ts tz : TS} {E : XK} {En1 : En} {S : FS}
/-- a part of what is owned is handed in, the rest stands behind -/
theorem run_sp {ds : List D} {vs : List V} {Wc Wf : Om} {Q : VK} (di : Dis O H) (oc : Same C O) (ow : Ow F T H C O (Wc ++ Wf)) (k : DenL F T H ds vs) (h : S ds Wc fun d W' => R d (W' ++ Wf))
    (q : ∀ d W' H' O' v, R d W' → Nx F T C W' H H' O' → Den F T H' d v → Q v (ov O' H')) : spN F T S vs (ov O H) Q E := by
  have nd := ow.nd
  have nd2 : (akeys Wc ++ akeys Wf).Nodup := by
    have e : akeys (Wc ++ Wf) = akeys Wc ++ akeys Wf := by simp [akeys]
    rw [← e]
    exact nd
  rw [List.nodup_append] at nd2
  obtain ⟨ndc, ndf, dj⟩ := nd2
  have inF : ∀ b, b ∈ akeys Wf → ∃ od, (b, od) ∈ Wf := fun b hb => by
    obtain ⟨x, hx, e⟩ := List.mem_map.mp hb
    exact ⟨x.2, by rw [← e]; exact hx⟩
  have atF : ∀ b od, (b, od) ∈ Wf → C b = none ∧ OdAt F T H (O b) od := fun b od m => ow.at_ b od (List.mem_append_right _ m)
  refine ⟨ds, Wc, fun b => if b ∈ akeys Wf then O b else C b, H, O, _, rfl, di, fun b o e => ?_, ⟨ndc, fun a od m => ?_⟩, k, h, fun d W' H' O' v r n kd => q d (W' ++ Wf) H' O' v r ⟨n.ext, n.dis, fun b o e => ?_, ⟨?_, fun a od m => ?_⟩⟩ kd⟩
  · by_cases hb : b ∈ akeys Wf
    · simp only [if_pos hb] at e
      exact e
    · simp only [if_neg hb] at e
      exact oc b o e
  · have hn : a ∉ akeys Wf := fun z => dj a (mem_akeys m) a z rfl
    rw [if_neg hn]
    exact ow.at_ a od (List.mem_append_left _ m)
  · refine n.oc b o ?_
    by_cases hb : b ∈ akeys Wf
    · obtain ⟨od, m⟩ := inF b hb
      rw [(atF b od m).1] at e
      cases e
    · rw [if_neg hb]
      exact e
  · have e : akeys (W' ++ Wf) = akeys W' ++ akeys Wf := by simp [akeys]
    rw [e, List.nodup_append]
    refine ⟨n.own.nd, ndf, fun x hx y hy exy => ?_⟩
    subst exy
    obtain ⟨z, hz, ez⟩ := List.mem_map.mp hx
    have h1 := (n.own.at_ z.1 z.2 hz).1
    rw [ez, if_pos hy] at h1
    obtain ⟨od, m⟩ := inF _ hy
    obtain ⟨o, eo⟩ := (atF _ od m).2.some
    rw [h1] at eo
    cases eo
  · rcases List.mem_append.mp m with m | m
    · obtain ⟨h1, h2⟩ := n.own.at_ a od m
      refine ⟨?_, h2⟩
      by_cases hb : a ∈ akeys Wf
      · obtain ⟨od', m'⟩ := inF a hb
        exact (atF a od' m').1
      · rw [if_neg hb] at h1
        exact h1
    · obtain ⟨h1, h2⟩ := atF a od m
      obtain ⟨o, eo⟩ := h2.some
      have e2 : O' a = some o := n.oc a o (by rw [if_pos (mem_akeys (x := (a, od)) m)]; exact eo)
      rw [eo] at h2
      rw [e2]
      exact ⟨h1, h2.mono n.ext⟩
/-- what a call asks: the part of the owned cells that is handed in, the promise -/
def Hand (S : FS) (ds : List D) (W : Om) (R : D → Om → Prop) : Prop := ∃ Wc Wf, W.Perm (Wc ++ Wf) ∧ S ds Wc fun d W' => R d (W' ++ Wf)
theorem hand0 {ds : List D} (h : S ds [] fun d W' => R d (W' ++ W)) : Hand S ds W R := ⟨[], W, List.Perm.refl _, h⟩
theorem handA {ds : List D} (h : S ds W R) : Hand S ds W R := ⟨W, [], by rw [List.append_nil], by simpa only [List.append_nil] using h⟩
theorem Hand.run {ds : List D} {vs : List V} {Q : VK} (h : Hand S ds W R) (di : Dis O H) (oc : Same C O) (ow : Ow F T H C O W) (k : DenL F T H ds vs) (q : ∀ d W' H' O' v, R d W' → Nx F T C W' H H' O' → Den F T H' d v → Q v (ov O' H')) :
    spN F T S vs (ov O H) Q E := by
  obtain ⟨Wc, Wf, hp, hs⟩ := h
  exact run_sp di oc (ow.perm hp) k hs q
theorem ev_call {dvs : List V} (h : EvA F T tr G W fun ds W1 => Hand S (ds ++ dvs.map D.vl) W1 R) : Ev F T (tCall (spN F T S) dvs E tr) G W R := fun C H O σ w Q q =>
  h C H O σ w _ fun ds W1 H1 O1 vs h1 n k => h1.run n.dis n.oc n.own (k.app (.vls dvs)) fun d W' H' O' v r n2 kd => q d W' H' O' v r (n.trans n2) kd
def fmVals (F : FmKit) (f : Fm) : List D := [.str (F.kind f), .tup (partsD f), .int (F.many f), .int (F.deep f), .str (F.atoms f), .str (F.bare f), .str (F.spell f), .tup ((F.alls f).map .fm)]
inductive Inst (F : FmKit) (W : Om) : D → Nat → List Str → List D → Prop
  | fm (f : Fm) : Inst F W (.fm f) 0 fmNames (fmVals F f)
  | obj (c : Nat) (ns : List Str) (l : List D) : Inst F W (.obj c ns l) c ns l
  | own (a : Addr) (c : Nat) (ns : List Str) (l : List D) : (a, .ins c ns l) ∈ W → Inst F W (.adr a) c ns l
theorem parts_den : ∀ {f : Fm} {ps : List V}, PartsR (FormAt F T H) f ps → DenL F T H (partsD f) ps
  | .at c, _, h => by
    have h : _ = _ := h
    subst h
    exact .one rfl
  | .no, _, h => h
  | .imp a b, _, ⟨p, q, e, h1, h2⟩ => by
    subst e
    exact ⟨_, _, rfl, ⟨p, rfl, h1⟩, .one ⟨q, rfl, h2⟩⟩
  | .all a, _, ⟨p, e, h1⟩ => by
    subst e
    exact .one ⟨p, rfl, h1⟩
theorem alls_den : ∀ {as : List Addr} {fs : List Fm}, AllR (FormAt F T H) as fs → DenL F T H (fs.map .fm) (as.map V.ref)
  | [], _, h => by
    have h : _ = _ := h
    subst h
    rfl
  | a :: as, _, ⟨f, r, e, h1, h2⟩ => by
    subst e
    exact ⟨_, _, rfl, ⟨a, rfl, h1⟩, alls_den h2⟩
theorem Inst.at {c : Nat} {ns : List Str} {x : V} (i : Inst F W d c ns l) (di : Dis O H) (ow : Ow F T H C O W) (k : Den F T H d x) : ∃ a dx fs, x = .ref a ∧ ov O H a = some (.ins (T.cl c) dx fs) ∧ fs.map (·.1) = ns ∧ DenL F T H l (fs.map (·.2)) := by
  cases i with
  | fm f =>
    obtain ⟨a, e, fa⟩ := k
    obtain ⟨dx, pa, ps, al, as, h1, h2, h3, h4, h5⟩ := fa.out
    exact ⟨a, dx, _, e, di.same _ _ h1, rfl, _, _, rfl, rfl, _, _, rfl, ⟨pa, ps, rfl, h2, parts_den h3⟩, _, _, rfl, rfl, _, _, rfl, rfl, _, _, rfl, rfl, _, _, rfl, rfl, _, _, rfl, rfl, _, _, rfl, ⟨al, _, rfl, h4, alls_den h5⟩, rfl⟩
  | obj c ns l =>
    obtain ⟨a, dx, fs, e, h1, h2, h3⟩ := k
    exact ⟨a, dx, fs, e, di.same _ _ h1, h2, h3⟩
  | own a c ns l m =>
    obtain ⟨_, dx, fs, h1, h2, h3⟩ := ow.at_ a _ m
    exact ⟨a, dx, fs, k, ov_own h1, h2, h3⟩
theorem look_zip : ∀ {fs : List (Str × V)} {l : List D} {n : Str} {z : D}, DenL F T H l (fs.map (·.2)) → ((fs.map (·.1)).zip l).lookup n = some z → ∃ v, fs.lookup n = some v ∧ Den F T H z v
  | [], l, n, z, _, e => by simp at e
  | (m, v) :: fs, [], n, z, k, e => by simp at e
  | (m, v) :: fs, d :: l, n, z, ⟨w, r, e1, k1, k2⟩, e => by
    rw [List.map_cons] at e1
    obtain ⟨rfl, rfl⟩ := List.cons.inj e1
    rw [List.map_cons, List.zip_cons_cons, List.lookup_cons] at e
    rw [List.lookup_cons]
    cases q : n == m with
    | true =>
      rw [q] at e
      have e : d = z := Option.some.inj e
      subst e
      exact ⟨v, rfl, k1⟩
    | false =>
      rw [q] at e
      exact look_zip k2 e
theorem look_none : ∀ {fs : List (Str × V)} {n : Str}, n ∉ fs.map (·.1) → fs.lookup n = none
  | [], _, _ => rfl
  | (m, v) :: fs, n, h => by
    rw [List.map_cons, List.mem_cons, not_or] at h
    rw [List.lookup_cons, beq_eq_false_iff_ne.mpr h.1]
    exact look_none h.2
/-- o.f -/
theorem ev_fld {n : Str} (h : Ev F T ta G W fun d W1 => ∃ c ns l z, Inst F W1 d c ns l ∧ Cls T.K (T.cl c) ∧ NoAttr T.K (T.cl c) n ∧ (ns.zip l).lookup n = some z ∧ R z W1) : Ev F T (tFld T.K ta n) G W R := fun C H O σ w Q q =>
  h C H O σ w _ fun d W1 H1 O1 x ⟨c, ns, l, z, i, hc, hn, hl, r⟩ n1 k => by
    obtain ⟨a, dx, fs, e, h1, h2, h3⟩ := i.at n1.dis n1.own k
    subst h2
    obtain ⟨v, hv, kv⟩ := look_zip h3 hl
    exact ⟨a, _, dx, fs, v, e, h1, hc, hn, hv, q z W1 H1 O1 v r n1 kv⟩
/-- o.m(..) -/
theorem ev_meth {c : Nat} {m : Str} {dvs : List V} (h : Ev F T ta G W fun d W1 => ∃ ns l, Inst F W1 d c ns l ∧ m ∉ ns ∧ EvA F T tr G W1 fun ds W2 => Hand S (d :: (ds ++ dvs.map D.vl)) W2 R) : Ev F T (tMeth (T.cl c) m (spN F T S) dvs E ta tr) G W R := fun C H O σ w Q q =>
  h C H O σ w _ fun d W1 H1 O1 x ⟨ns, l, i, hm, ha⟩ n1 k1 => by
    obtain ⟨a, dx, fs, e, h1, h2, h3⟩ := i.at n1.dis n1.own k1
    refine ⟨a, dx, fs, e, h1, look_none (by rw [h2]; exact hm), ha C H1 O1 σ (w.step n1) _ fun ds W2 H2 O2 vs hh n2 k2 => ?_⟩
    exact hh.run n2.dis n2.oc n2.own ⟨x, _, rfl, k1.mono n2.ext, k2.app (.vls dvs)⟩ fun d W' H' O' v r n3 kd => q d W' H' O' v r ((n1.trans n2).trans n3) kd
theorem ev_prop {c : Nat} {dvs : List V} (h : Ev F T ta G W fun d W1 => ∃ ns l, Inst F W1 d c ns l ∧ Hand S (d :: dvs.map D.vl) W1 R) : Ev F T (tProp (T.cl c) (spN F T S) dvs E ta) G W R := fun C H O σ w Q q =>
  h C H O σ w _ fun d W1 H1 O1 x ⟨ns, l, i, hh⟩ n1 k1 => by
    obtain ⟨a, dx, fs, e, h1, h2, h3⟩ := i.at n1.dis n1.own k1
    subst e
    exact ⟨a, dx, fs, rfl, h1, hh.run n1.dis n1.oc n1.own ⟨_, _, rfl, k1, .vls dvs⟩ fun d W' H' O' v r n3 kd => q d W' H' O' v r (n1.trans n3) kd⟩
/-- C(..) -/
theorem run_make {c : Nat} {ds : List D} {vs : List V} {x dx : Addr} {Q : VK} (n : Nx F T C W H H' O') (k : DenL F T H' ds vs) (h : ∀ x, x ∉ akeys W → Hand S (.adr x :: ds) ((x, .ins c [] []) :: W) fun d W' => d = .non ∧ R (.adr x) W')
    (hx : ov O' H' x = none) (hdx : ov O' H' dx = none) (ne : dx ≠ x) (q : ∀ d W2 H2 O2 v, R d W2 → Nx F T C W2 H H2 O2 → Den F T H2 d v → Q v (ov O2 H2)) :
    spN F T S (.ref x :: vs) (upd (upd (ov O' H') dx (.own x)) x (.ins (T.cl c) dx [])) (fun v H2 => v = .non ∧ Q (.ref x) H2) E := by
  obtain ⟨n2, e2, s2⟩ := n.newF (o := .own x) hdx
  rw [e2]
  have hx2 : ov O' (upd H' dx (.own x)) x = none := by rw [← e2, upd_ne ne.symm]; exact hx
  obtain ⟨n3, e3, np⟩ := n2.newO (od := .ins c [] []) (o := .ins (T.cl c) dx []) hx2 ⟨dx, [], rfl, rfl, rfl⟩
  rw [e3]
  refine (h x np).run n3.dis n3.oc n3.own ⟨_, _, rfl, rfl, k.mono s2⟩ fun d W' H2 O2 v ⟨e, r⟩ n4 kd => ?_
  subst e
  exact ⟨kd, q (.adr x) W' H2 O2 _ r (n3.trans n4) rfl⟩
theorem ev_make {c : Nat} {dvs : List V} (h : EvA F T tr G W fun ds W1 => ∀ x, x ∉ akeys W1 → Hand S (.adr x :: (ds ++ dvs.map D.vl)) ((x, .ins c [] []) :: W1) fun d W' => d = .non ∧ R (.adr x) W') : Ev F T (tMake (T.cl c) (spN F T S) dvs E tr) G W R := fun C H O σ w Q q =>
  h C H O σ w _ fun ds W1 H1 O1 vs h1 n k x dx hx hdx ne => run_make n (k.app (.vls dvs)) h1 hx hdx ne q
theorem ev_makeR {c : Nat} (h : EvA F T tr G W fun ds W1 => ∀ x, x ∉ akeys W1 → Hand S (.adr x :: ds) ((x, .ins c [] []) :: W1) fun d W' => d = .non ∧ R (.adr x) W') : Ev F T (StX.tMakeR (T.cl c) (spN F T S) E tr) G W R := fun C H O σ w Q q =>
  h C H O σ w _ fun ds W1 H1 O1 vs h1 n k x dx hx hdx ne => run_make n k h1 hx hdx ne q
theorem putF_new : ∀ {fs : List (Str × V)} {n : Str} {v : V}, n ∉ fs.map (·.1) → putF n v fs = fs ++ [(n, v)]
  | [], _, _, _ => rfl
  | (m, x) :: fs, n, v, h => by
    rw [List.map_cons, List.mem_cons, not_or] at h
    unfold putF
    rw [if_neg (fun e => h.1 e.symm), putF_new h.2]
    rfl
theorem putF_at : ∀ {fs : List (Str × V)} {n : Str} {v : V} {j : Nat}, (fs.map (·.1)).Nodup → (fs.map (·.1))[j]? = some n → (putF n v fs).map (·.1) = fs.map (·.1) ∧ (putF n v fs).map (·.2) = (fs.map (·.2)).set j v
  | [], _, _, j, _, e => by simp at e
  | (m, x) :: fs, n, v, 0, nd, e => by
    have e : m = n := Option.some.inj e
    unfold putF
    rw [if_pos e]
    exact ⟨rfl, rfl⟩
  | (m, x) :: fs, n, v, j + 1, nd, e => by
    rw [List.map_cons, List.nodup_cons] at nd
    rw [List.map_cons, List.getElem?_cons_succ] at e
    have hne : m ≠ n := fun q => nd.1 (by rw [q]; exact List.mem_of_getElem? e)
    obtain ⟨h1, h2⟩ := putF_at (v := v) nd.2 e
    unfold putF
    rw [if_neg hne]
    refine ⟨?_, ?_⟩
    · rw [List.map_cons, List.map_cons, h1]
    · rw [List.map_cons, List.map_cons, h2]
      rfl
/-- n of an instance set: a new attribute, or the j-th one -/
inductive Put (n : Str) (z : D) : List Str → List D → List Str → List D → Prop
  | new (ns : List Str) (l : List D) : n ∉ ns → Put n z ns l (ns ++ [n]) (l ++ [z])
  | at (ns : List Str) (l : List D) (j : Nat) : ns.Nodup → ns[j]? = some n → Put n z ns l ns (l.set j z)
theorem Put.odat {n : Str} {z : D} {ns ns' : List Str} {l' : List D} {c : Nat} {dx : Addr} {fs : List (Str × V)} {v : V} (h : Put n z ns l ns' l') (e : fs.map (·.1) = ns) (k : DenL F T H l (fs.map (·.2))) (kz : Den F T H z v) : OdAt F T H (some (.ins (T.cl c) dx (putF n v fs))) (.ins c ns' l') := by
  cases h with
  | new hn =>
    refine ⟨dx, _, rfl, ?_, ?_⟩
    · rw [putF_new (by rw [e]; exact hn), List.map_append, e]
      rfl
    · rw [putF_new (by rw [e]; exact hn), List.map_append]
      exact k.app (.one kz)
  | «at» j nd hj =>
    obtain ⟨h1, h2⟩ := putF_at (v := v) (by rw [e]; exact nd) (by rw [e]; exact hj)
    refine ⟨dx, _, rfl, by rw [h1, e], ?_⟩
    rw [h2]
    exact k.set kz
def gFld (K : PySem.W.Frag) (ta : TE) (f : Str) : TG := fun y σ H Q => ta σ H fun x H2 => ∃ a C dx fs, x = .ref a ∧ H2 a = some (.ins C dx fs) ∧ Cls K C ∧ NoAttr K C f ∧ fs.length < 1000 ∧ Q σ (upd H2 a (.ins C dx (putF f y fs)))
/-- the receiver of a store -/
def Rcv (F : FmKit) (T : Kx) (d z : D) (n : Str) (W : Om) (R : Om → Prop) : Prop := ∃ a c ns l W1 W2 ns' l', d = .adr a ∧ W = W1 ++ (a, .ins c ns l) :: W2 ∧ Cls T.K (T.cl c) ∧ NoAttr T.K (T.cl c) n ∧ ns.length < 1000 ∧ Put n z ns l ns' l' ∧ R (W1 ++ (a, .ins c ns' l') :: W2)
theorem Rcv.run {x y : V} {z : D} {n : Str} {RW : Om → Prop} (h : Rcv F T d z n W RW) (nx : Nx F T C W H H' O') (kx : Den F T H' d x) (ky : Den F T H' z y) : ∃ a C' dx fs, x = .ref a ∧ ov O' H' a = some (.ins C' dx fs) ∧ Cls T.K C' ∧ NoAttr T.K C' n ∧ fs.length < 1000 ∧
    ∃ W2 O2, RW W2 ∧ Nx F T C W2 H H' O2 ∧ upd (ov O' H') a (.ins C' dx (putF n y fs)) = ov O2 H' := by
  obtain ⟨a, c, ns, l, W1, W2, ns', l', e1, e2, hc, hn, hl, hp, r⟩ := h
  subst e1 e2
  have kx : x = .ref a := kx
  obtain ⟨_, dx, fs, h1, h2, h3⟩ := nx.own.at_ a _ (List.mem_append_right _ List.mem_cons_self)
  obtain ⟨n2, e⟩ := nx.write (o := .ins (T.cl c) dx (putF n y fs)) (hp.odat h2 h3 ky)
  have hl2 : fs.length = ns.length := by rw [← h2, List.length_map]
  exact ⟨a, _, dx, fs, kx, ov_own h1, hc, hn, by rw [hl2]; exact hl, _, _, r, n2, e⟩
/-- o.f = e -/
theorem sw_fld {n : Str} (h : Ev F T tb G W fun z W1 => Ev F T ta G W1 fun d W2 => Rcv F T d z n W2 (En1.nx G)) : Sw F T (sFld T.K ta tb n) G W En1 := fun C H O σ w B b =>
  h C H O σ w _ fun z W1 H1 O1 y h1 n1 k1 => h1 C H1 O1 σ (w.step n1) _ fun d W2 H2 O2 x hr n2 k2 => by
    obtain ⟨a, C', dx, fs, e, h1, hc, hn, hl, W3, O3, r, n3, e3⟩ := hr.run (n1.trans n2) k2 (k1.mono n2.ext)
    refine ⟨a, C', dx, fs, e, h1, hc, hn, hl, ?_⟩
    rw [e3]
    exact b.nx G W3 _ _ σ r n3 (w.loc.mono (n1.trans n2).ext)
/-- a target of any form: slots and owned cells may change -/
def Ta (F : FmKit) (T : Kx) (g : TG) (d : D) (G : Gm) (W : Om) (R : Gm → Om → Prop) : Prop :=
  ∀ (C H O : Hp) (σ : St), Wd F T C G W H O σ → ∀ v, Den F T H d v → ∀ Q : St → Hp → Prop, (∀ G' W' H' O' σ', R G' W' → Nx F T C W' H H' O' → Lo F T H' G' σ' → Q σ' (ov O' H')) → g v σ (ov O H) Q
def Tas (F : FmKit) (T : Kx) (g : TGs) (ds : List D) (G : Gm) (W : Om) (R : Gm → Om → Prop) : Prop :=
  ∀ (C H O : Hp) (σ : St), Wd F T C G W H O σ → ∀ vs, DenL F T H ds vs → ∀ Q : St → Hp → Prop, (∀ G' W' H' O' σ', R G' W' → Nx F T C W' H H' O' → Lo F T H' G' σ' → Q σ' (ov O' H')) → g vs σ (ov O H) Q
theorem ta_fld {n : Str} {RR : Gm → Om → Prop} (h : Ev F T ta G W fun x W2 => Rcv F T x d n W2 (RR G)) : Ta F T (gFld T.K ta n) d G W RR := fun C H O σ w v k Q q =>
  h C H O σ w _ fun x W2 H2 O2 y hr n2 k2 => by
    obtain ⟨a, C', dx, fs, e, h1, hc, hn, hl, W3, O3, r, n3, e3⟩ := hr.run n2 k2 (k.mono n2.ext)
    refine ⟨a, C', dx, fs, e, h1, hc, hn, hl, ?_⟩
    rw [e3]
    exact q G W3 _ _ σ r n3 (w.loc.mono n2.ext)
theorem ta_tg {g : TG} {RR : Gm → Om → Prop} (h : Tg F T g d G fun G' => RR G' W) : Ta F T g d G W RR := fun C H O σ w v k Q q =>
  h H _ σ v w.loc w.dis.same k _ fun G' σ' r l => q G' W H O σ' r w.nx l
theorem ta_name {i : Nat} {RR : Gm → Om → Prop} (h : RR (G.set i (some d)) W) : Ta F T (gName i) d G W RR := ta_tg (tg_name h)
theorem tas_nil {RR : Gm → Om → Prop} (h : RR G W) : Tas F T gNil [] G W RR := fun C H O σ w v k Q q => ⟨k, q G W H O σ h w.nx w.loc⟩
theorem tas_cons {g : TG} {gs : TGs} {ds : List D} {RR : Gm → Om → Prop} (h : Ta F T g d G W fun G' W' => Tas F T gs ds G' W' RR) : Tas F T (gCons g gs) (d :: ds) G W RR := fun C H O σ w vs k Q q => by
  obtain ⟨v, r, ev, k1, k2⟩ := k
  exact ⟨v, r, ev, h C H O σ w v k1 _ fun G1 W1 H1 O1 σ1 hh n1 l1 => hh C H1 O1 σ1 ⟨n1.dis, n1.oc, l1, n1.own⟩ r (k2.mono n1.ext) Q fun G2 W2 H2 O2 σ2 r2 n2 l2 => q G2 W2 H2 O2 σ2 r2 (n1.trans n2) l2⟩
theorem ta_tup {n : Nat} {gs : TGs} {ds : List D} {RR : Gm → Om → Prop} (hn : ds.length = n) (h : Tas F T gs ds G W RR) : Ta F T (gTup T.K n gs) (.tup ds) G W RR := fun C H O σ w v k Q q => by
  obtain ⟨a, xs, ev, hs, kl⟩ := k
  exact ⟨a, xs, ev, Same.sqT w.dis.same hs, by rw [kl.len, hn], h C H O σ w xs kl Q q⟩
theorem sw_asgA {g : TG} (h : Ev F T te G W fun d W' => Ta F T g d G W' fun G2 W2 => En1.nx G2 W2) : Sw F T (tAsg te g) G W En1 := fun C H O σ w B b =>
  h C H O σ w _ fun d W' H' O' v r n k => r C H' O' σ (w.step n) v k _ fun G2 W2 H2 O2 σ2 r2 n2 l2 => b.nx G2 W2 H2 O2 σ2 r2 (n.trans n2) l2
theorem sw_asg2 {g1 g2 : TG} (h : Ev F T te G W fun d W' => Ta F T g1 d G W' fun G2 W2 => Ta F T g2 d G2 W2 fun G3 W3 => En1.nx G3 W3) : Sw F T (tAsg2 te g1 g2) G W En1 := fun C H O σ w B b =>
  h C H O σ w _ fun d W' H' O' v r n k => r C H' O' σ (w.step n) v k _ fun G2 W2 H2 O2 σ2 r2 n2 l2 => r2 C H2 O2 σ2 ⟨n2.dis, n2.oc, l2, n2.own⟩ v (k.mono n2.ext) _ fun G3 W3 H3 O3 σ3 r3 n3 l3 => b.nx G3 W3 H3 O3 σ3 r3 ((n.trans n2).trans n3) l3
theorem sw_asg3 {g1 g2 g3 : TG} (h : Ev F T te G W fun d W' => Ta F T g1 d G W' fun G2 W2 => Ta F T g2 d G2 W2 fun G3 W3 => Ta F T g3 d G3 W3 fun G4 W4 => En1.nx G4 W4) : Sw F T (tAsg3 te g1 g2 g3) G W En1 := fun C H O σ w B b =>
  h C H O σ w _ fun d W' H' O' v r n k => r C H' O' σ (w.step n) v k _ fun G2 W2 H2 O2 σ2 r2 n2 l2 => r2 C H2 O2 σ2 ⟨n2.dis, n2.oc, l2, n2.own⟩ v (k.mono n2.ext) _ fun G3 W3 H3 O3 σ3 r3 n3 l3 =>
    r3 C H3 O3 σ3 ⟨n3.dis, n3.oc, l3, n3.own⟩ v ((k.mono n2.ext).mono n3.ext) _ fun G4 W4 H4 O4 σ4 r4 n4 l4 => b.nx G4 W4 H4 O4 σ4 r4 (((n.trans n2).trans n3).trans n4) l4
end
end N
set_option Elab.async false
set_option linter.all false
set_option maxRecDepth 100000
namespace N
open PySem L2
def wipeG (G : Gm) : List Nat → Gm
  | [] => G
  | v :: vs => (wipeG G vs).set v none
theorem wipe_at {σ : St} {i : Nat} : ∀ {vs : List Nat}, (wipe σ vs)[i]? = if i ∈ vs then (σ[i]?).map (fun _ => none) else σ[i]?
  | [] => by simp [wipe]
  | v :: vs => by
    unfold wipe
    have ih := wipe_at (σ := σ) (i := i) (vs := vs)
    rw [List.getElem?_set]
    by_cases h : v = i
    · subst h
      rw [if_pos rfl, if_pos (List.mem_cons_self)]
      rw [wipe_length]
      by_cases hl : v < σ.length
      · rw [if_pos hl, List.getElem?_eq_getElem hl]
        rfl
      · rw [if_neg hl, List.getElem?_eq_none (by omega)]
        rfl
    · rw [if_neg h, ih]
      have : (i ∈ v :: vs) ↔ (i ∈ vs) := by
        rw [List.mem_cons]
        exact ⟨fun z => z.elim (fun q => absurd q.symm h) id, .inr⟩
      by_cases hm : i ∈ vs
      · rw [if_pos hm, if_pos (this.mpr hm)]
      · rw [if_neg hm, if_neg (fun z => hm (this.mp z))]
theorem wipe_wipe {σ : St} {vs : List Nat} : wipe (wipe σ vs) vs = wipe σ vs := by
  apply List.ext_getElem?
  intro i
  rw [wipe_at, wipe_at]
  by_cases h : i ∈ vs
  · simp [h]
    rfl
  · simp [h]
theorem wipe_set {σ : St} {vs : List Nat} {i : Nat} {x : Option V} (h : i ∈ vs) : wipe (σ.set i x) vs = wipe σ vs := by
  apply List.ext_getElem?
  intro j
  rw [wipe_at, wipe_at]
  by_cases hj : j ∈ vs
  · rw [if_pos hj, if_pos hj, List.getElem?_set]
    by_cases e : i = j
    · subst e
      rw [if_pos rfl]
      by_cases hl : i < σ.length
      · rw [if_pos hl, List.getElem?_eq_getElem hl]
        rfl
      · rw [if_neg hl, List.getElem?_eq_none (by omega)]
    · rw [if_neg e]
  · rw [if_neg hj, if_neg hj, List.getElem?_set_ne (fun (e : i = j) => hj (e ▸ h))]
section
variable {F : FmKit} {T : Kx} {C H H' O O' : Hp} {G : Gm} {W W' : Om} {σ : St} {a p : Addr} {d : D} {l : List D}
  {te ta tb tv : TE} {t u : TT} {R R' : D → Om → Prop} {Z : Bool → Om → Prop} {tr tk : TA} {ts tz : TS}
theorem Lo.wipe (lo : Lo F T H G σ) : ∀ vs : List Nat, Lo F T H (wipeG G vs) (wipe σ vs)
  | [] => lo
  | v :: vs => (Lo.wipe lo vs).forget none
/-- a target of the comprehension's own names -/
def Tw (F : FmKit) (T : Kx) (vs : List Nat) (g : TG) (d : D) (G : Gm) (R : Gm → Prop) : Prop :=
  ∀ (H H1 : Hp) (σ : St) (v : V), Lo F T H G σ → Same H H1 → Den F T H d v → ∀ Q : St → Hp → Prop, (∀ G' σ', R G' → Lo F T H G' σ' → wipe σ' vs = wipe σ vs → Q σ' H1) → g v σ H1 Q
def Tws (F : FmKit) (T : Kx) (vs : List Nat) (g : TGs) (ds : List D) (G : Gm) (R : Gm → Prop) : Prop :=
  ∀ (H H1 : Hp) (σ : St) (us : List V), Lo F T H G σ → Same H H1 → DenL F T H ds us → ∀ Q : St → Hp → Prop, (∀ G' σ', R G' → Lo F T H G' σ' → wipe σ' vs = wipe σ vs → Q σ' H1) → g us σ H1 Q
variable {vs : List Nat} {Y : Gm → Prop}
theorem tw_name {i : Nat} (hi : i ∈ vs) (h : Y (G.set i (some d))) : Tw F T vs (gName i) d G Y := fun H H1 σ v l _ k Q q => q _ _ h (l.set k) (wipe_set hi)
theorem tws_nil (h : Y G) : Tws F T vs gNil [] G Y := fun H H1 σ v l _ k Q q => ⟨k, q _ _ h l rfl⟩
theorem tws_cons {g : TG} {gs : TGs} {ds : List D} (h : Tw F T vs g d G fun G' => Tws F T vs gs ds G' Y) : Tws F T vs (gCons g gs) (d :: ds) G Y := fun H H1 σ us l e k Q q => by
  obtain ⟨v, r, ev, k1, k2⟩ := k
  exact ⟨v, r, ev, h H H1 σ v l e k1 _ fun G' σ' hh l' w1 => hh H H1 σ' r l' e k2 Q fun G2 σ2 r2 l2 w2 => q G2 σ2 r2 l2 (w2.trans w1)⟩
theorem tw_tup {n : Nat} {gs : TGs} {ds : List D} (hn : ds.length = n) (h : Tws F T vs gs ds G Y) : Tw F T vs (gTup T.K n gs) (.tup ds) G Y := fun H H1 σ v l e k Q q => by
  obtain ⟨a, xs, ev, hs, kl⟩ := k
  exact ⟨a, xs, ev, Same.sqT e hs, by rw [kl.len, hn], h H H1 σ xs l e kl Q q⟩
/-- a hidden cell -/
theorem Nx.hide {o : HO} {Dp : Addr} {W1 : Om} {H1 : Hp} (n : Nx F T C W1 H H1 O') (hD : ov O' H1 Dp = none) : Nx F T (upd C Dp o) W1 H1 H1 (upd O' Dp o) ∧ upd (ov O' H1) Dp o = ov (upd O' Dp o) H1 ∧ C Dp = none := by
  obtain ⟨h1, h2⟩ := ov_none hD
  have cp : C Dp = none := by
    cases e : C Dp with
    | none => rfl
    | some x =>
      rw [n.oc Dp x e] at h1
      cases h1
  refine ⟨⟨Same.refl _, n.dis.updO h2, fun b x e => ?_, ⟨n.own.nd, fun b ob m => ?_⟩⟩, ov_updO, cp⟩
  · by_cases q : b = Dp
    · subst q
      rw [upd_same] at e ⊢
      exact e
    · rw [upd_ne q] at e ⊢
      exact n.oc b x e
  · have : b ≠ Dp := fun q => n.own.notin h1 (q ▸ mem_akeys (x := (b, ob)) m)
    rw [upd_ne this, upd_ne this]
    exact n.own.at_ b ob m
/-- the hidden cell is written -/
theorem Nx.rehide {o o' : HO} {Dp : Addr} {W2 : Om} {H1 H2 O2 : Hp} (n : Nx F T (upd C Dp o) W2 H1 H2 O2) (cp : C Dp = none) : Nx F T (upd C Dp o') W2 H1 H2 (upd O2 Dp o') ∧ upd (ov O2 H2) Dp o' = ov (upd O2 Dp o') H2 := by
  have hO : O2 Dp = some o := n.oc Dp o upd_same
  refine ⟨⟨n.ext, n.dis.updO (n.dis Dp o hO), fun b x e => ?_, ⟨n.own.nd, fun b ob m => ?_⟩⟩, ov_updO⟩
  · by_cases q : b = Dp
    · subst q
      rw [upd_same] at e ⊢
      exact e
    · rw [upd_ne q] at e
      rw [upd_ne q]
      exact n.oc b x (by rw [upd_ne q]; exact e)
  · obtain ⟨c1, c2⟩ := n.own.at_ b ob m
    have hb : b ≠ Dp := fun q => by
      rw [q, upd_same] at c1
      cases c1
    rw [upd_ne hb] at c1
    rw [upd_ne hb, upd_ne hb]
    exact ⟨c1, c2⟩
/-- the hidden cell comes out as an owned one -/
theorem Nx.show {o : HO} {od : OD} {Dp : Addr} {W2 : Om} {H1 H2 O2 : Hp} (n : Nx F T (upd C Dp o) W2 H1 H2 O2) (cp : C Dp = none) (h : OdAt F T H2 (some o) od) : Nx F T C ((Dp, od) :: W2) H1 H2 O2 ∧ Dp ∉ akeys W2 := by
  have hO : O2 Dp = some o := n.oc Dp o upd_same
  have nin : Dp ∉ akeys W2 := fun z => by
    obtain ⟨x, hx, e⟩ := List.mem_map.mp z
    have := (n.own.at_ x.1 x.2 hx).1
    rw [e, upd_same] at this
    cases this
  refine ⟨⟨n.ext, n.dis, fun b x e => n.oc b x (by rw [upd_ne (ne_of_none e cp)]; exact e), ⟨List.nodup_cons.mpr ⟨nin, n.own.nd⟩, fun b ob m => ?_⟩⟩, nin⟩
  rcases List.mem_cons.mp m with e | m
  · obtain ⟨rfl, rfl⟩ := Prod.mk.inj e
    rw [hO]
    exact ⟨cp, h⟩
  · obtain ⟨c1, c2⟩ := n.own.at_ b ob m
    have hb : b ≠ Dp := fun q => by
      rw [q, upd_same] at c1
      cases c1
    rw [upd_ne hb] at c1
    exact ⟨c1, c2⟩
/-- [e for .. in .. if ..] -/
theorem ev_lc {wi : TI} {g : TG} (h : EvI F T wi G W fun ds W1 => ∃ I : Nat → List D → Om → Prop, I 0 [] W1 ∧
      (∀ i d acc W', ds[i]? = some d → I i acc W' → Tw F T vs g d (wipeG G vs) fun G2 => EvT F T t G2 W' fun b W2 => if b = true then Ev F T te G2 W2 (fun z W3 => acc.length < sizeLine ∧ I (i + 1) (acc ++ [z]) W3) else I (i + 1) acc W2) ∧
      (∀ acc W', I ds.length acc W' → ∀ p, p ∉ akeys W' → R (.adr p) ((p, .lst acc) :: W'))) : Ev F T (tLc wi g t te vs) G W R := fun C H O σ w Q q =>
  h C H O σ w _ fun J ds W1 H1 O1 ⟨I, i0, turn, fin⟩ n1 wk Dp hD => by
    obtain ⟨n0, e0, cp⟩ := n1.hide (o := .lst []) hD
    refine ⟨fun i m X => m = ds.length - i ∧ i ≤ ds.length ∧ ∃ acc av W' H' O', X = ov O' H' ∧ Nx F T (upd C Dp (.lst av)) W' H1 H' O' ∧ DenL F T H' acc av ∧ I i acc W', ⟨ds.length, by simp, Nat.zero_le _, [], [], W1, H1, _, e0, n0, rfl, i0⟩, ?_⟩
    rintro i m X ⟨rfl, hi, acc, av, W', H', O', rfl, n, ka, ii⟩
    have k := wk i H' O' n.ext n.dis
    have lo1 := (w.loc.mono n1.ext).mono n.ext
    by_cases hlt : i < ds.length
    · obtain ⟨k1, k2⟩ := k.1 ds[i] (by simp [hlt])
      refine .inr ⟨k1, fun X2 => ∃ acc av W2 H2 O2, X2 = ov O2 H2 ∧ Nx F T (upd C Dp (.lst av)) W2 H1 H2 O2 ∧ DenL F T H2 acc av ∧ I (i + 1) acc W2, fun X2 y => ⟨ds.length - (i + 1), by omega, rfl, hlt, y⟩, fun x X2 y => ?_⟩
      obtain ⟨H2, s2, d2, rfl, kx⟩ := k2 x X2 y
      refine turn i ds[i] acc W' (by simp [hlt]) ii H2 _ _ x ((lo1.mono s2).wipe vs) d2.same kx _ fun G3 σ3 et l3 wz => ⟨wz.trans wipe_wipe, ?_⟩
      refine et (upd C Dp (.lst av)) H2 O' σ3 ⟨d2, n.oc, l3, n.own.mono s2⟩ _ fun b W3 H3 O3 r3 n3 => ?_
      have n03 : Nx F T (upd C Dp (.lst av)) W3 H1 H3 O3 := ⟨(n.ext.trans s2).trans n3.ext, n3.dis, n3.oc, n3.own⟩
      cases b with
      | false => exact ⟨acc, av, W3, H3, O3, rfl, n03, (ka.mono s2).mono n3.ext, r3⟩
      | true =>
        refine r3 (upd C Dp (.lst av)) H3 O3 σ3 ⟨n3.dis, n3.oc, l3.mono n3.ext, n3.own⟩ _ fun z W4 H4 O4 v ⟨hz, i4⟩ n4 k4 => ?_
        have hO : ov O4 H4 Dp = some (.lst av) := ov_own (n4.oc Dp _ upd_same)
        have ka4 := ((ka.mono s2).mono n3.ext).mono n4.ext
        refine ⟨av, hO, by rw [ka.len]; exact hz, ?_⟩
        obtain ⟨n5, e5⟩ := Nx.rehide (o' := .lst (av ++ [v])) (n03.trans n4) cp
        exact ⟨acc ++ [z], av ++ [v], W4, H4, _, e5, n5, ka4.app (.one k4), i4⟩
    · have e : i = ds.length := by omega
      subst e
      refine .inl ⟨k.2 rfl, ?_⟩
      obtain ⟨n6, np⟩ := n.show (od := .lst acc) cp ⟨av, rfl, ka⟩
      exact q (.adr Dp) _ H' O' _ (fin acc W' ii Dp np) (Nx.trans ⟨n1.ext, n1.dis, n1.oc, n1.own⟩ n6) rfl
theorem et_yes (h : Z true W) : EvT F T tYes G W Z := fun C H O σ w Q q => q true W H O h w.nx
def putG {α : Type} (ps : List (Key × α)) (k : Key) (z : α) : List (Key × α) := if (ps.any fun q => decide (q.1 = k)) = true then ps.map (fun q => if q.1 = k then (q.1, z) else q) else ps ++ [(k, z)]
theorem putG_V (kvs : List (Key × V)) (k : Key) (z : V) : putG kvs k z = putK kvs k z := rfl
/-- a dict of pairs -/
@[reducible] def OD.dp (ps : List (Key × D)) : OD := .dct (ps.map (·.1)) (ps.map (·.2))
@[reducible] def D.dp (ps : List (Key × D)) : D := .dct (ps.map (·.1)) (ps.map (·.2))
theorem any_keys {α β : Type} {k : Key} : ∀ {ps : List (Key × α)} {qs : List (Key × β)}, ps.map (·.1) = qs.map (·.1) → (ps.any fun q => decide (q.1 = k)) = qs.any fun q => decide (q.1 = k)
  | [], [], _ => rfl
  | [], q :: qs, h => by simp at h
  | p :: ps, [], h => by simp at h
  | p :: ps, q :: qs, h => by
    rw [List.map_cons, List.map_cons] at h
    obtain ⟨h1, h2⟩ := List.cons.inj h
    rw [List.any_cons, List.any_cons, any_keys h2, h1]
theorem putG_keys {α β : Type} {k : Key} {z : α} {y : β} {ps : List (Key × α)} {qs : List (Key × β)} (h : ps.map (·.1) = qs.map (·.1)) : (putG ps k z).map (·.1) = (putG qs k y).map (·.1) := by
  unfold putG
  rw [any_keys h]
  split
  · rw [List.map_map, List.map_map]
    have e1 : ∀ (α : Type) (z : α) (l : List (Key × α)), l.map ((·.1) ∘ fun q => if q.1 = k then (q.1, z) else q) = l.map (·.1) := fun α z l => List.map_congr_left fun q _ => by
      show (if q.1 = k then (q.1, z) else q).1 = q.1
      split <;> rfl
    rw [e1, e1, h]
  · rw [List.map_append, List.map_append, h]
    rfl
theorem putG_den {k : Key} {z : D} {y : V} (hz : Den F T H z y) : ∀ {ps : List (Key × D)} {kvs : List (Key × V)}, kvs.map (·.1) = ps.map (·.1) → DenL F T H (ps.map (·.2)) (kvs.map (·.2)) → DenL F T H ((putG ps k z).map (·.2)) ((putG kvs k y).map (·.2)) := by
  intro ps kvs h kl
  unfold putG
  rw [any_keys h]
  split
  · rename_i hh
    clear hh
    induction ps generalizing kvs with
    | nil =>
      cases kvs with
      | nil => exact kl
      | cons _ _ => simp at h
    | cons p ps ih =>
      cases kvs with
      | nil => simp at h
      | cons q qs =>
        rw [List.map_cons, List.map_cons] at h
        obtain ⟨h1, h2⟩ := List.cons.inj h
        obtain ⟨v, r, e, k1, k2⟩ := kl
        rw [List.map_cons] at e
        obtain ⟨e1, e2⟩ := List.cons.inj e
        subst e2
        refine ⟨_, _, rfl, ?_, ih h2 k2⟩
        show Den F T H (if p.1 = k then (p.1, z) else p).2 (if q.1 = k then (q.1, y) else q).2
        rw [h1]
        by_cases e : p.1 = k
        · rw [if_pos e, if_pos e]
          exact hz
        · rw [if_neg e, if_neg e, e1]
          exact k1
  · rw [List.map_append, List.map_append]
    exact kl.app (.one hz)
theorem putG_nodup {α : Type} {k : Key} {z : α} {ps : List (Key × α)} (h : (ps.map (·.1)).Nodup) : ((putG ps k z).map (·.1)).Nodup := by
  unfold putG
  split
  · rw [List.map_map]
    have e1 : ps.map ((·.1) ∘ fun q => if q.1 = k then (q.1, z) else q) = ps.map (·.1) := List.map_congr_left fun q _ => by
      show (if q.1 = k then (q.1, z) else q).1 = q.1
      split <;> rfl
    rw [e1]
    exact h
  · rename_i hn
    rw [List.map_append, List.nodup_append]
    refine ⟨h, by simp, fun x hx y hy e => hn ?_⟩
    have hy : y = k := by simpa using hy
    obtain ⟨q, hq, eq⟩ := List.mem_map.mp hx
    rw [List.any_eq_true]
    exact ⟨q, hq, by rw [eq, e, hy]; simp⟩
/-- what a dict gives -/
def getG {α : Type} (ps : List (Key × α)) (k : Key) : Option α := (ps.find? fun q => decide (q.1 = k)).map (·.2)
theorem getG_den {k : Key} : ∀ {ps : List (Key × D)} {kvs : List (Key × V)}, kvs.map (·.1) = ps.map (·.1) → DenL F T H (ps.map (·.2)) (kvs.map (·.2)) → (getG ps k = none ∧ valV kvs k = none) ∨ ∃ z v, getG ps k = some z ∧ valV kvs k = some v ∧ Den F T H z v
  | [], [], _, _ => .inl ⟨rfl, rfl⟩
  | [], q :: qs, h, _ => by simp at h
  | p :: ps, [], h, _ => by simp at h
  | p :: ps, q :: qs, h, kl => by
    rw [List.map_cons, List.map_cons] at h
    obtain ⟨h1, h2⟩ := List.cons.inj h
    obtain ⟨v, r, e, k1, k2⟩ := kl
    rw [List.map_cons] at e
    obtain ⟨e1, e2⟩ := List.cons.inj e
    subst e2
    unfold getG valV
    rw [List.find?_cons, List.find?_cons, h1]
    by_cases e : p.1 = k
    · rw [decide_eq_true e]
      exact .inr ⟨p.2, q.2, rfl, rfl, by rw [e1]; exact k1⟩
    · rw [decide_eq_false e]
      exact getG_den h2 k2
/-- d is a dict of ps: frozen, or owned -/
def Vd (W : Om) (d : D) (ps : List (Key × D)) : Prop := d = .dp ps ∨ ∃ a, d = .adr a ∧ (a, .dp ps) ∈ W
theorem Vd.at {x : V} {ps : List (Key × D)} (h : Vd W d ps) (di : Dis O H) (ow : Ow F T H C O W) (k : Den F T H d x) : ∃ a kvs, x = .ref a ∧ ov O H a = some (.dK kvs) ∧ kvs.map (·.1) = ps.map (·.1) ∧ (ps.map (·.1)).Nodup ∧ DenL F T H (ps.map (·.2)) (kvs.map (·.2)) := by
  rcases h with rfl | ⟨a, rfl, m⟩
  · obtain ⟨a, kvs, e, h1, h2, h3, h4⟩ := k
    exact ⟨a, kvs, e, di.same _ _ h1, h2, h3, h4⟩
  · obtain ⟨_, kvs, h1, h2, h3, h4⟩ := ow.at_ a _ m
    exact ⟨a, kvs, k, ov_own h1, h2, h3, h4⟩
/-- a key as a datum -/
def kD (k : Key) : D := .vl (kV k)
theorem ev_dnew (h : ∀ p, p ∉ akeys W → R (.adr p) ((p, .dp []) :: W)) : Ev F T tDNewK G W R := fun C H O σ w Q q p hp => by
  obtain ⟨n2, e, np⟩ := w.nx.newO (od := .dp []) (o := .dK []) hp ⟨[], rfl, rfl, List.nodup_nil, rfl⟩
  rw [e]
  exact q (.adr p) _ _ _ _ (h p np) n2 rfl
/-- d[k] -/
theorem ev_dget (h : Ev F T ta G W fun d W1 => Ev F T tb G W1 fun y W2 => ∃ ps k z, Vd W2 d ps ∧ y = kD k ∧ getG ps k = some z ∧ R z W2) : Ev F T (tDGet ta tb) G W R := fun C H O σ w Q q =>
  h C H O σ w _ fun d W1 H1 O1 x h1 n1 k1 => h1 C H1 O1 σ (w.step n1) _ fun y W2 H2 O2 yv ⟨ps, k, z, hv, ey, hg, r⟩ n2 k2 => by
    subst ey
    obtain ⟨a, kvs, ex, ha, e1, e2, kl⟩ := hv.at n2.dis n2.own (k1.mono n2.ext)
    have k2 : yv = kV k := k2
    subst ex k2
    rcases getG_den (k := k) e1 kl with ⟨g1, _⟩ | ⟨z', v, g1, g2, kz⟩
    · rw [g1] at hg
      cases hg
    · rw [g1] at hg
      cases hg
      exact ⟨a, v, rfl, .inl ⟨kvs, k, .inl ha, rfl, g2.symm⟩, q z W2 H2 O2 v r (n1.trans n2) kz⟩
/-- d[k] = e -/
theorem sw_dput {td ty tv : TE} {Ed : En} (h : Ev F T tv G W fun z W1 => Ev F T td G W1 fun d W2 => Ev F T ty G W2 fun y W3 => ∃ a ps k Wa Wb, d = .adr a ∧ W3 = Wa ++ (a, .dp ps) :: Wb ∧ y = kD k ∧ ps.length < sizeLine ∧ Ed.nx G (Wa ++ (a, .dp (putG ps k z)) :: Wb)) : Sw F T (sDPut td ty tv) G W Ed := fun C H O σ w B b =>
  h C H O σ w _ fun z W1 H1 O1 zv h1 n1 k1 => h1 C H1 O1 σ (w.step n1) _ fun d W2 H2 O2 x h2 n2 k2 => h2 C H2 O2 σ ((w.step n1).step n2) _ fun y W3 H3 O3 yv ⟨a, ps, k, Wa, Wb, e1, e2, e3, hl, r⟩ n3 k3 => by
    subst e1 e2 e3
    have k2 : x = .ref a := k2
    have k3 : yv = kV k := k3
    subst k2 k3
    obtain ⟨_, kvs, ha, f1, f2, kl⟩ := n3.own.at_ a _ (List.mem_append_right _ List.mem_cons_self)
    have nn := (n1.trans n2).trans n3
    have hl2 : kvs.length = ps.length := by
      have := congrArg List.length f1
      rwa [List.length_map, List.length_map] at this
    refine ⟨a, _, rfl, DPut.k (ov_own ha) (by rw [hl2]; exact hl), ?_⟩
    obtain ⟨n4, e4⟩ := nn.write (o := .dK (putK kvs k zv)) (od2 := .dp (putG ps k z)) ⟨_, rfl, (putG_V kvs k zv) ▸ putG_keys (z := zv) (y := z) f1, putG_nodup f2, (putG_V kvs k zv) ▸ putG_den ((k1.mono n2.ext).mono n3.ext) f1 kl⟩
    rw [e4]
    exact b.nx _ _ _ _ _ r n4 (w.loc.mono nn.ext)
/-- {k: e for .. in .. if ..} -/
theorem ev_dc {wi : TI} {g : TG} (h : EvI F T wi G W fun ds W1 => ∃ I : Nat → List (Key × D) → Om → Prop, I 0 [] W1 ∧
      (∀ i d acc W', ds[i]? = some d → I i acc W' → Tw F T vs g d (wipeG G vs) fun G2 => EvT F T t G2 W' fun b W2 => if b = true then Ev F T te G2 W2 (fun y W3 => Ev F T tv G2 W3 fun z W4 => ∃ k, y = kD k ∧ acc.length < sizeLine ∧ I (i + 1) (putG acc k z) W4) else I (i + 1) acc W2) ∧
      (∀ acc W', I ds.length acc W' → ∀ p, p ∉ akeys W' → R (.adr p) ((p, .dp acc) :: W'))) : Ev F T (tDc wi g t te tv vs) G W R := fun C H O σ w Q q =>
  h C H O σ w _ fun J ds W1 H1 O1 ⟨I, i0, turn, fin⟩ n1 wk Dp hD => by
    obtain ⟨n0, e0, cp⟩ := n1.hide (o := .dK []) hD
    refine ⟨fun i m X => m = ds.length - i ∧ i ≤ ds.length ∧ ∃ acc av W' H' O', X = ov O' H' ∧ Nx F T (upd C Dp (.dK av)) W' H1 H' O' ∧ (av.map (·.1) = acc.map (·.1) ∧ (acc.map (·.1)).Nodup ∧ DenL F T H' (acc.map (·.2)) (av.map (·.2))) ∧ I i acc W', ⟨ds.length, by simp, Nat.zero_le _, [], [], W1, H1, _, e0, n0, ⟨rfl, List.nodup_nil, (show DenL F T H1 (([] : List (Key × D)).map (·.2)) (([] : List (Key × V)).map (·.2)) from rfl)⟩, i0⟩, ?_⟩
    rintro i m X ⟨rfl, hi, acc, av, W', H', O', rfl, n, ⟨ka1, ka2, ka⟩, ii⟩
    have k := wk i H' O' n.ext n.dis
    have lo1 := (w.loc.mono n1.ext).mono n.ext
    by_cases hlt : i < ds.length
    · obtain ⟨k1, k2⟩ := k.1 ds[i] (by simp [hlt])
      refine .inr ⟨k1, fun X2 => ∃ acc av W2 H2 O2, X2 = ov O2 H2 ∧ Nx F T (upd C Dp (.dK av)) W2 H1 H2 O2 ∧ (av.map (·.1) = acc.map (·.1) ∧ (acc.map (·.1)).Nodup ∧ DenL F T H2 (acc.map (·.2)) (av.map (·.2))) ∧ I (i + 1) acc W2, fun X2 y => ⟨ds.length - (i + 1), by omega, rfl, hlt, y⟩, fun x X2 y => ?_⟩
      obtain ⟨H2, s2, d2, rfl, kx⟩ := k2 x X2 y
      refine turn i ds[i] acc W' (by simp [hlt]) ii H2 _ _ x ((lo1.mono s2).wipe vs) d2.same kx _ fun G3 σ3 et l3 wz => ⟨wz.trans wipe_wipe, ?_⟩
      refine et (upd C Dp (.dK av)) H2 O' σ3 ⟨d2, n.oc, l3, n.own.mono s2⟩ _ fun b W3 H3 O3 r3 n3 => ?_
      have n03 : Nx F T (upd C Dp (.dK av)) W3 H1 H3 O3 := ⟨(n.ext.trans s2).trans n3.ext, n3.dis, n3.oc, n3.own⟩
      cases b with
      | false => exact ⟨acc, av, W3, H3, O3, rfl, n03, ⟨ka1, ka2, (ka.mono s2).mono n3.ext⟩, r3⟩
      | true =>
        have w3 : Wd F T (upd C Dp (.dK av)) G3 W3 H3 O3 σ3 := ⟨n3.dis, n3.oc, l3.mono n3.ext, n3.own⟩
        refine r3 (upd C Dp (.dK av)) H3 O3 σ3 w3 _ fun y W4 H4 O4 yv r4 n4 k4 => ?_
        refine r4 (upd C Dp (.dK av)) H4 O4 σ3 (w3.step n4) _ fun z W5 H5 O5 zv ⟨k', ey, hz, i5⟩ n5 k5 => ?_
        subst ey
        have k4 : yv = kV k' := k4
        subst k4
        have hO : ov O5 H5 Dp = some (.dK av) := ov_own (n5.oc Dp _ upd_same)
        have ka5 := (((ka.mono s2).mono n3.ext).mono n4.ext).mono n5.ext
        have hl2 : av.length = acc.length := by
          have := congrArg List.length ka1
          rwa [List.length_map, List.length_map] at this
        refine ⟨av, k', rfl, hO, by rw [hl2]; exact hz, ?_⟩
        obtain ⟨n6, e6⟩ := Nx.rehide (o' := .dK (putK av k' zv)) ((n03.trans n4).trans n5) cp
        exact ⟨putG acc k' z, putK av k' zv, W5, H5, _, e6, n6, ⟨(putG_V av k' zv) ▸ putG_keys (z := zv) (y := z) ka1, putG_nodup ka2, (putG_V av k' zv) ▸ putG_den k5 ka1 ka5⟩, i5⟩
    · have e : i = ds.length := by omega
      subst e
      refine .inl ⟨k.2 rfl, ?_⟩
      obtain ⟨n6, np⟩ := n.show (od := .dp acc) cp ⟨av, rfl, ka1, ka2, ka⟩
      exact q (.adr Dp) _ H' O' _ (fin acc W' ii Dp np) (Nx.trans ⟨n1.ext, n1.dis, n1.oc, n1.own⟩ n6) rfl
def pairsD : Nat → List D → List D
  | _, [] => []
  | n, d :: l => .tup [.int (n : Nat), d] :: pairsD (n + 1) l
theorem pairsD_len : ∀ {l : List D} {n : Nat}, (pairsD n l).length = l.length
  | [], _ => rfl
  | d :: l, n => by
    show (pairsD (n + 1) l).length + 1 = l.length + 1
    rw [pairsD_len]
theorem pairsD_get : ∀ {l : List D} {n i : Nat} {z : D}, (pairsD n l)[i]? = some z → ∃ d, l[i]? = some d ∧ z = .tup [.int ((n + i : Nat) : Int), d]
  | [], _, i, z, h => by simp [pairsD] at h
  | d :: l, n, 0, z, h => ⟨d, rfl, (Option.some.inj h).symm⟩
  | d :: l, n, i + 1, z, h => by
    have h : (pairsD (n + 1) l)[i]? = some z := h
    obtain ⟨e, h1, h2⟩ := pairsD_get h
    refine ⟨e, h1, ?_⟩
    rw [h2]
    have : n + 1 + i = n + (i + 1) := by omega
    rw [this]
theorem ei_str {Y : List D → Om → Prop} (h : Ev F T te G W fun d W1 => ∃ z : Str, d = .str z ∧ Y (z.cps.toList.map fun c => .str ⟨#[c]⟩) W1) : EvI F T (iStr te) G W Y := fun C H O σ w Q q =>
  h C H O σ w _ fun d W1 H1 O1 v ⟨z, e, y⟩ n k => by
    subst e
    have k : v = .str z := k
    refine ⟨z, k, q _ _ W1 H1 O1 y n fun i H2 O2 s di => ⟨fun d hd => ?_, fun e => ?_⟩⟩
    · rw [List.getElem?_map] at hd
      cases hc : z.cps.toList[i]? with
      | none =>
        rw [hc] at hd
        cases hd
      | some c =>
        rw [hc] at hd
        have hd : D.str ⟨#[c]⟩ = d := Option.some.inj hd
        subst hd
        have hc' : z.cps[i]? = some c := by simpa using hc
        refine ⟨(Array.getElem?_eq_some_iff.mp hc').1, fun x X ⟨e1, c2, e2, e3⟩ => ⟨H2, Same.refl _, di, e1, ?_⟩⟩
        rw [hc'] at e2
        cases e2
        exact e3
    · rw [List.length_map, Array.length_toList] at e
      show z.cps.size ≤ i
      omega
end
end N
set_option Elab.async false
set_option linter.all false
set_option maxRecDepth 100000
namespace N
open PySem PySem.Spec PyProof.Rows L2
section
variable {X : Cx} {CX : CXT} {k : Nat} {C f : Addr} {fd : FuncData} {ps ks : List Str} {sp : Sp} {E : XK} {pins : List (Addr × Obj)} {σ : L2.St} {H : Hp} {s : Shared}
/-- a def is called from anywhere within the body -/
theorem run_at {A : Around} {vs : List V} {us : List Value} {Q : VK} (F : FnOk X.prog X.w X.K X.mg X.base CX k f fd ps sp) (hr : Room k A) (fr : A.frames = X.A.frames) (hb : Binds X.K fd ps []) (hx : Passes CX X E) (I : Inv X pins σ H s) (r : Vals vs us) (h : sp vs H Q E) :
    wpAny (model X.prog X.w) A (call (.ref f) us) (EP X pins σ Q) X.xe s := by
  have e := I.env0
  have e0 : Env0 X.prog X.w X.K X.mg X.base A X.stack s H := ⟨by rw [fr]; exact e.frames, e.mod, e.bs, e.bsz, e.funs, e.frf, e.hok, e.bare⟩
  have hl : us.length = ps.length := by rw [← r.length]; exact F.len _ _ _ _ h
  have hb' := hb s us I.kIn (by simpa using hl)
  simp only [List.append_nil] at hb'
  refine wpAny_call (codeAny_mono (F.run A X.stack s H ⟨us, []⟩ us vs Q E hr e0 hb' r h) fun r s' hq => ?_)
  cases r with
  | error e => exact hx pins σ H s e s' I hq
  | ok fl =>
    cases fl with
    | ret u => exact I.after hq
    | next => exact False.elim hq
    | brk => exact False.elim hq
    | cont => exact False.elim hq
/-- an instance's method of the class, by a name between two underscores -/
structure Own2 (K : PySem.W.Frag) (C : Addr) (m : Str) (f : Addr) : Prop where
  at_ : PySem.W.findIn K (.ref C) m = some (some (.ref f))
  fn : PySem.W.isFn K (.ref f) = true
def rOwn1 (C : Addr) (sp : Sp) (E : XK) : V → Hp → VK → Prop := fun x H Q => ∃ a dx fs, x = .ref a ∧ H a = some (.ins C dx fs) ∧ sp [x] H Q E
theorem inst_of {a dx : Addr} {fs : List (Str × V)} (I : Inv X pins σ H s) (e : H a = some (.ins C dx fs)) : ∃ od, PySem.W.InstAt s.heap a (PySem.W.instObj C dx) C (some od) := by
  obtain ⟨mA, J, _⟩ := ins_get I.hok e
  obtain ⟨od, J, _⟩ := J.look
  exact ⟨od, J⟩
/-- str(x) by the own method -/
theorem call_own_str (F : FnOk X.prog X.w X.K X.mg X.base CX k f fd ps sp) (hr : Room (k + 2) X.A) (o : Own2 X.K C "__str__" f) (hb : Binds X.K fd ps []) (hx : Passes CX X E) :
    CallR X (.type "str") (fun xs H Q => ∃ a dx fs, xs = [.ref a] ∧ H a = some (.ins C dx fs) ∧ sp [.ref a] H (fun v H' => (∃ z, v = .str z) ∧ Q v H') E) := by
  intro pins s σ H xs us Q I r hq
  obtain ⟨a, dx, fs, rfl, ha, q⟩ := hq
  obtain ⟨u, rfl, rx⟩ := vals1 r
  cases rx
  obtain ⟨od, J⟩ := inst_of I ha
  have h1 := hr.in1
  have h2 := h1.in1
  refine PySem.W.kso_call h2.units0 I.kIn J o.at_ o.fn (thn (run_at F h2 rfl hb hx I (vs := [V.ref a]) (.cons rfl .nil) q) fun v s' h => ?_)
  obtain ⟨x, H', I', rx, ⟨z, ez⟩, q'⟩ := h
  subst ez
  obtain ⟨t, rfl⟩ := rx
  exact ⟨.str z, H', I', ⟨t, rfl⟩, q'⟩
end
end N
set_option Elab.async false
set_option linter.all false
set_option maxRecDepth 100000
namespace N
open PySem PySem.Spec PyProof.Rows L2
mutual
def D.pd : D → Option PyData
  | .vl .non => some .none
  | .vl (.bl b) => some (.bool b)
  | .vl (.int i) => some (.int i)
  | .vl (.str s) => some (.str s)
  | .vl _ => none
  | .tup l => (pdL l).map .tuple
  | .lst l => (pdL l).map .list
  | .dct _ _ => none
  | .obj _ _ _ => none
  | .fm _ => none
  | .scr _ => none
def pdL : List D → Option (List PyData)
  | [] => some []
  | d :: l => match D.pd d, pdL l with
    | some p, some r => some (p :: r)
    | _, _ => none
end
theorem pdL_cons {d : D} {l : List D} {p : PyData} {r : List PyData} (h1 : d.pd = some p) (h2 : pdL l = some r) : pdL (d :: l) = some (p :: r) := by
  simp only [pdL, h1, h2]
theorem pdL_map {α : Type} (f : α → D) (g : α → PyData) (h : ∀ x, (f x).pd = some (g x)) : ∀ l : List α, pdL (l.map f) = some (l.map g)
  | [] => rfl
  | x :: l => pdL_cons (h x) (pdL_map f g h l)
theorem pd_lst {l : List D} {r : List PyData} (h : pdL l = some r) : (D.lst l).pd = some (.list r) := by simp only [D.pd, h, Option.map_some]
section
variable {F : FmKit} {T : Kx} {C H H' O O' : Hp} {G : Gm} {W W' : Om} {R R' : D → Om → Prop}
mutual
theorem Den.dp : ∀ (d : D) (v : V) (p : PyData), Den F T H d v → d.pd = some p → Dp T.K H v p
  | .vl .non, _, p, h, e => by
    have h : _ = _ := h
    simp only [D.pd, Option.some.injEq] at e
    subst h e
    exact .non
  | .vl (.bl b), _, p, h, e => by
    have h : _ = _ := h
    simp only [D.pd, Option.some.injEq] at e
    subst h e
    exact .bl b
  | .vl (.int i), _, p, h, e => by
    have h : _ = _ := h
    simp only [D.pd, Option.some.injEq] at e
    subst h e
    exact .int i
  | .vl (.str s), _, p, h, e => by
    have h : _ = _ := h
    simp only [D.pd, Option.some.injEq] at e
    subst h e
    exact .str s
  | .vl (.byt _), _, p, _, e => by simp only [D.pd] at e; cases e
  | .vl (.flt _), _, p, _, e => by simp only [D.pd] at e; cases e
  | .vl (.ref _), _, p, _, e => by simp only [D.pd] at e; cases e
  | .vl (.ty _), _, p, _, e => by simp only [D.pd] at e; cases e
  | .tup l, _, p, ⟨a, xs, h1, h2, h3⟩, e => by
    subst h1
    simp only [D.pd] at e
    cases q : pdL l with
    | none =>
      rw [q] at e
      cases e
    | some r =>
      rw [q] at e
      cases e
      exact .tup h2 (DenL.dp l xs r h3 q)
  | .lst l, _, p, ⟨a, xs, h1, h2, h3⟩, e => by
    subst h1
    simp only [D.pd] at e
    cases q : pdL l with
    | none =>
      rw [q] at e
      cases e
    | some r =>
      rw [q] at e
      cases e
      exact .lst (SqL.of h2) (DenL.dp l xs r h3 q)
  | .dct _ _, _, p, _, e => by simp only [D.pd] at e; cases e
  | .obj _ _ _, _, p, _, e => by simp only [D.pd] at e; cases e
  | .fm _, _, p, _, e => by simp only [D.pd] at e; cases e
  | .scr _, _, p, ⟨a, h1, h2⟩, e => by simp only [D.pd] at e; cases e
theorem DenL.dp : ∀ (l : List D) (vs : List V) (ps : List PyData), DenL F T H l vs → pdL l = some ps → DpAll T.K H vs ps
  | [], _, ps, h, e => by
    have h : _ = _ := h
    simp only [pdL, Option.some.injEq] at e
    subst h e
    exact .nil
  | d :: l, _, ps, ⟨v, r, h1, h2, h3⟩, e => by
    subst h1
    simp only [pdL] at e
    cases q : D.pd d with
    | none =>
      rw [q] at e
      cases e
    | some p =>
      cases q2 : pdL l with
      | none =>
        rw [q, q2] at e
        cases e
      | some rs =>
        rw [q, q2] at e
        cases e
        exact .cons (Den.dp d v p h2 q) (DenL.dp l r rs h3 q2)
end
/-- d is the datum p: frozen, or an owned list of such -/
def Vp (W : Om) (d : D) (p : PyData) : Prop := d.pd = some p ∨ ∃ l, Vl W d l ∧ (D.lst l).pd = some p
theorem Vp.at {d : D} {p : PyData} {x : V} (h : Vp W d p) (di : Dis O H) (ow : Ow F T H C O W) (k : Den F T H d x) : Dp T.K (ov O H) x p := by
  rcases h with h | ⟨l, hv, h⟩
  · exact Den.dp d x p (k.mono di.same) h
  · obtain ⟨a, xs, e, hs, kl⟩ := hv.sq ow di k
    simp only [D.pd] at h
    cases q : pdL l with
    | none =>
      rw [q] at h
      cases h
    | some r =>
      rw [q] at h
      cases h
      subst e
      exact .lst hs (DenL.dp l xs r (kl.mono di.same) q)
theorem bo_neD {d1 d2 : D} {p q : PyData} (h1 : Vp W d1 p) (h2 : Vp W d2 q) (s1 : SeqAt.shaped p = true) (s2 : SeqAt.shaped q = true) (r : R (.bl (!PyData.eqv p q)) W) : Bo F T (rNeD T.K) d1 d2 W R := fun C H O di oc ow x y hx hy Q k =>
  ⟨p, q, h1.at di ow hx, h2.at di ow hy, s1, s2, k _ W H O _ r (.refl di oc ow) rfl⟩
end
structure Shw (p : PyData) : Prop where
  sh : p.showable = true
  nd : p.hasDict = false
  dp : p.depth ≤ 30
  sz : p.shown.length ≤ sizeLine
def rRep (K : PySem.W.Frag) : List V → Hp → VK → Prop := fun xs H Q => ∃ x p, xs = [x] ∧ Dp K H x p ∧ Shw p ∧ Q (.str p.shown) H
theorem call_repr_data {X : Cx} (hg : X.A.guards = some []) (hu : X.A.units + 64 < cLine) : CallR X (.builtin "repr") (rRep X.K) := by
  intro pins s σ H xs us Q I r h
  obtain ⟨x, p, rfl, hp, hs, q⟩ := h
  obtain ⟨u, rfl, rx⟩ := vals1 r
  have fin : ∀ t tk, EP X pins σ Q (.str p.shown t) { s with toks := tk } := fun t tk => ⟨.str p.shown, H, I.tok _, ⟨_, rfl⟩, q⟩
  have viaRef : ∀ a, u = .ref a → wpAny (model X.prog X.w) X.A (call (.builtin "repr") [u]) (EP X pins σ Q) X.xe s := fun a e => by
    subst e
    obtain ⟨as, rd⟩ := Dp.reads I p x _ hp rx
    have := hs.dp
    exact repr_of_reads' rd hs.sh (fun z => by rw [hs.nd] at z; cases z) hg (by omega) (fun _ _ e => e) (fun h' u tk hk => ⟨.str p.shown, H, I.kept (t' := tk) hk, ⟨_, rfl⟩, q⟩) hs.sz
  cases hp with
  | non =>
    cases rx
    exact PySem.P.repr_of_none (fin _ _)
  | bl b =>
    cases rx
    refine PySem.P.repr_of_bool ?_
    have e : (if b then "True" else "False" : Str) = (PyData.bool b).shown := by cases b <;> rfl
    exact fin _ _
  | int i =>
    obtain ⟨t, rfl⟩ := rx
    have h1 : i.natAbs.log2 < 1920 := by simpa [PyData.showable] using hs.sh
    exact PySem.P.repr_of_int h1 (fin _ _)
  | str z =>
    obtain ⟨t, rfl⟩ := rx
    exact PySem.P.repr_of_str (fin _ _) (by simpa [PyData.shown] using hs.sz)
  | lst h1 h2 =>
    cases rx
    exact viaRef _ rfl
  | tup h1 h2 =>
    cases rx
    exact viaRef _ rfl
section
variable {F : FmKit} {T : Kx} {W : Om} {R : D → Om → Prop}
theorem ca_repr {d : D} {p : PyData} (h : Vp W d p) (hs : Shw p) (r : R (.str p.shown) W) : Ca F T (rRep T.K) [d] W R := ca_one fun C H O di oc ow x k Q q =>
  ⟨x, p, rfl, h.at di ow k, hs, q _ W H O _ r (.refl di oc ow) rfl⟩
end
def FnG (P : Program) (w : World) (K : PySem.W.Frag) (mg : Str → Option Value) (base : Heap) (k : Nat) (f : Addr) (sp : Sp) : Prop :=
  ∀ (A : Around) (outer : List Env) (s : Shared) (H : Hp) (us : List Value) (vs : List V) (Q : VK), A.guards = some [] → Room k A → Env0 P w K mg base A outer s H → Vals vs us → sp vs H Q E0 → codeAny (model P w) A (.call (.ref f) ⟨us, []⟩) (CR CX0 outer P w H s Q E0) s
section
variable {P : Program} {w : World} {K : PySem.W.Frag} {mg : Str → Option Value} {base : Heap}
theorem Fun.okG {x qual : Str} {st : Stmt} {f : Addr} {fd : FuncData} {N ps : List Str} {k : Nat} {sp : Sp} (Fn : Fun K x qual st f fd) (S : FnScope N ps (defScope st)) (len : ∀ vs H Q E, sp vs H Q E → vs.length = ps.length)
    (hb : ∀ (kV doc pm : Value) (an : Option Addr) (cdv ct : Value) (us : List Value), us.length = ps.length → bindArgs (PySem.W.fnOf x qual (defArgs st) (defBody st) (defScope st) .none kV doc pm an cdv ct) ⟨us, []⟩ = pure (ps.zip us))
    (hbody : ∀ (cdv : Value) (A : Around) (outer : List Env) (s : Shared) (H : Hp) (vs : List V) (Q : VK), (A.deeper (envOfC qual (defScope st) s.heap.objs.size f cdv)).guards = some [] → Room k (A.deeper (envOfC qual (defScope st) s.heap.objs.size f cdv)) → sp vs H Q E0 →
      ∃ t, PSs (cxOf CX0 P w K mg base N qual (defScope st) f cdv A outer s H E0).nox (defBody st) t ∧ t { nx := fun _ H' => Q .non H', rt := Q } (start N vs) H) : FnG P w K mg base (k + 1) f sp := by
  obtain ⟨oc, od, kV, doc, pm, an, cdv, ct, osl, rfl, lk, hcd⟩ := Fn.ex
  intro A outer s H us vs Q hg hr e0 r hsp
  have hl := len _ _ _ _ hsp
  refine StX.run_bnd lk hcd S hr e0 (G := fun xs H2 => xs = vs ∧ H2 = H) (fun A' Ex Q' h => ?_) fun s2 H2 xs ⟨e1, e2⟩ hr' => ?_
  · rw [hb kV doc pm an cdv ct us (by rw [← r.length]; exact hl)]
    exact wpAny_pure (h s H vs us e0 Un.refl rfl (fun _ _ z => z) r hl ⟨rfl, rfl⟩)
  · subst e1 e2
    obtain ⟨t, ht, q⟩ := hbody cdv A outer s2 _ _ Q hg hr' hsp
    exact ⟨t, ht.nox, q⟩
theorem run_fnG {X : Cx} {k : Nat} {f : Addr} {sp : Sp} {pins : List (Addr × Obj)} {σ : L2.St} {H : Hp} {s : Shared} {us : List Value} {vs : List V} {Q : VK} (Fn : FnG X.prog X.w X.K X.mg X.base k f sp) (hg : X.A.guards = some []) (hr : Room k X.A) (I : Inv X pins σ H s) (r : Vals vs us) (h : sp vs H Q E0) :
    wpAny (model X.prog X.w) X.A (call (.ref f) us) (EP X pins σ Q) X.xe s := by
  refine wpAny_call (codeAny_mono (Fn X.A X.stack s H us vs Q hg hr I.env0 r h) fun r s' hq => ?_)
  cases r with
  | error e => exact False.elim hq
  | ok fl =>
    cases fl with
    | ret u => exact I.after hq
    | next => exact False.elim hq
    | brk => exact False.elim hq
    | cont => exact False.elim hq
/-- f(e, ..), f such a def -/
theorem pe_callG {X : Cx} {k : Nat} {f : Addr} {sp : Sp} {x : Str} {p pos : Pos} {e : Expr} {es : List Expr} {t : TA} (Fn : FnG X.prog X.w X.K X.mg X.base k f sp) (hgd : X.A.guards = some []) (hr : Room k X.A) (hg : Gl X x) (hm : X.mg x = some (.ref f)) (hk : PySem.W.keepIn X.K (.ref f) = true)
    (ha : PA X (e :: es) t) (hdb : (x == ("__debug__" : Str)) = false := by decide)
    (he : starEach (e :: es) X.env = (false, eval e X.env) :: starEach es X.env := by rfl) (hpl : (backTo pos (starEach es X.env)).any (·.1) = false := by rfl) : PE X (.Call (.Name x p) (e :: es) [] pos) (tCall sp [] E0 t) := by
  refine ⟨fun pins s σ H Q I h => ?_⟩
  refine wpAny_Call_Name_kw (ld_glob I hg hm ?_ hdb)
  refine PySem.W.callWith_K (h₀ := X.base) I.ok.mod.kin hk (thn (ha.run pos pins s σ H _ I h) fun us s1 ⟨vs, H1, I1, r, q⟩ => ⟨I1.kIn, ?_⟩) he hpl
  have q : sp (vs ++ []) H1 Q E0 := q
  rw [List.append_nil] at q
  exact run_fnG Fn hgd hr I1 r q
end
theorem lawG {P : Program} {w : World} {K : PySem.W.Frag} {mg mb : Str → Option Value} {k : Nat} {fa a : Addr} {sp : Sp} {s1 : Shared} {vs : List Value} {ns : List Int}
    (KX : K.In s1.heap) (hns : s1.heap.Ns mainGlobals mg) (hb : s1.heap.Ns builtinsNs mb) (hbb : ∀ x : Str, x ≠ "__name__" → mb x = bootBuiltins x) (hlim : s1.heap.NoLimit) (hg : s1.gens = #[])
    (ha : s1.heap.get? a = some { cls := .type "list", data := .seq vs.toArray }) (hi : IntsAre vs ns) (hl : ns.length ≤ sizeLine) (hr : Room k callerA)
    (Fn : ∀ base : Heap, K.In base → base.Ns mainGlobals mg → FnG P w K mg base k fa sp)
    (hsp : ∀ H : Hp, Only H → SqL K H a (ns.map V.int) → sp [.ref a] H (fun v _ => v = .bl true) E0) :
    codeAny (model P w) callerA (.call (.ref fa) ⟨[.ref a], []⟩) (fun r s' => r = .ok (.ret (.bool true)) ∧ OldK s1.heap s'.heap ∧ s'.os = s1.os ∧ AllBare s'.gens) s1 := by
  have rv := vals_ints hi
  have lenV := hi.length
  have core : ∀ H : Hp, Only H → SqL K H a (ns.map V.int) → HOk P w H s1.heap → (∀ b, H b ≠ none → b = a) → (H a ≠ none → K.lookup a = none) →
      codeAny (model P w) callerA (.call (.ref fa) ⟨[.ref a], []⟩) (fun r s' => r = .ok (.ret (.bool true)) ∧ OldK s1.heap s'.heap ∧ s'.os = s1.os ∧ AllBare s'.gens) s1 := by
    intro H hO hS hok hA hK
    have one : ∀ {b : Addr}, H b ≠ none → b = a := fun z => hA _ z
    have free : ∀ {b : Addr}, (b = a → False) → H b = none := fun {b} z => by
      cases q : H b with
      | none => rfl
      | some u => exact (z (one (by rw [q]; simp))).elim
    have notA : ∀ {b : Addr} {o : Obj} {es : Array DictEntry} {ep : Nat}, s1.heap.get? b = some o → o.data = .dict es ep → H b = none := fun {b o es ep} e d => free fun z => by
      subst z
      rw [ha] at e
      cases e
      cases (show Data.seq vs.toArray _ = Data.dict es ep from d)
    have nsK : ∀ {b : Addr} {m : Str → Option Value}, s1.heap.Ns b m → (hidT s1.heap H).Ns b m := fun ⟨o, es, ep, e, d, r⟩ => ⟨o, es, ep, hidT_get e (notA e d), d, r⟩
    have hKb : K.In (hidT s1.heap H) := fun b o e => hidT_get (KX b o e) (by
      cases q : H b with
      | none => rfl
      | some u =>
        have eb : b = a := one (by rw [q]; simp)
        subst eb
        rw [hK (by rw [q]; simp)] at e
        cases e)
    have hM : Mod K mg (hidT s1.heap H) := ⟨hKb, nsK hns, ⟨mb, nsK hb, hbb⟩, let ⟨mc, h1, h2⟩ := hlim; ⟨mc, nsK h1, h2⟩⟩
    have e0 : Env0 P w K mg (hidT s1.heap H) callerA [] s1 H := ⟨rfl, hM, fun b o e => of_hidT e, Nat.le_of_eq (hidT_size _ _), trivial, fun b hb => absurd (show b ∈ ([] : List Addr) from hb) (by simp), hok, .of_eq hg⟩
    refine codeAny_mono (Fn _ hKb (nsK hns) callerA [] s1 H [.ref a] [.ref a] _ rfl hr e0 (.cons rfl .nil) (hsp H hO hS)) fun r s' h => ?_
    cases r with
    | error e => exact False.elim h
    | ok fl =>
      cases fl with
      | next => exact False.elim h
      | brk => exact False.elim h
      | cont => exact False.elim h
      | ret u =>
        obtain ⟨v, H', os, bare, un, hok', r', q⟩ := h
        have ev : v = .bl true := q
        subst ev
        obtain rfl : u = Value.bool true := r'
        refine ⟨rfl, OldK.of_keep fun b o e => ?_, os, bare⟩
        cases q : H b with
        | none => exact un.keep b o e q (by intro z; exact absurd (show b ∈ ([] : List Addr) from z) (by simp)) (by simp)
        | some u =>
          rcases hO b with z | ⟨ob, xs, z⟩
          · rw [q] at z
            cases z
          · obtain ⟨e1, _⟩ := hok b _ z
            obtain ⟨e2, _⟩ := hok' b _ (un.frzs b ob _ z)
            rw [e] at e1
            cases e1
            exact e2
  cases hk : K.lookup a with
  | some o =>
    have e := KX a o hk
    rw [ha] at e
    cases e
    exact core (fun _ => none) (fun _ => .inl rfl) (.inr ⟨_, vs.toArray, _, hk, rfl, rfl, rfl, by rw [List.size_toArray, lenV]; exact hl, by simpa using rv⟩) (fun b u z => nomatch (show (none : Option HO) = some u from z)) (fun b z => absurd rfl z) fun z => absurd rfl z
  | none =>
    refine core (fun b => if b = a then some (.frz { cls := .type "list", data := .seq vs.toArray } (.lst (ns.map V.int))) else none) (fun b => ?_) (.inl (.inr ⟨{ cls := .type "list", data := .seq vs.toArray }, if_pos rfl⟩)) (fun b u z => ?_) (fun b z => ?_) fun _ => hk
    · by_cases hb : b = a
      · exact .inr ⟨_, _, if_pos hb⟩
      · exact .inl (if_neg hb)
    · by_cases hb : b = a
      · have e := (if_pos hb).symm.trans z
        cases e
        subst hb
        exact ⟨ha, by rw [List.length_map]; exact hl, vs, _, rv, ha⟩
      · cases (if_neg hb).symm.trans z
    · by_cases hb : b = a
      · exact hb
      · exact absurd (if_neg hb) z
theorem walkG {l : PySem.W.OpenLaw} {n k : Nat} {q : Program} {loose : List Str} {XP : (Str → Option Value) → Heap → Prop} {YP : World → Heap → Prop} {d : DefRec} {K : Params → PySem.W.Frag} {sp : PySem.W.Frag → Sp}
    (hn : l.most = some n) (hn2 : n ≤ sizeLine) (hdf : d.params.defaults = []) (hr : Room k callerA) (hY : ∀ (w : World) (h : Heap), YP w h → (K w.params).In h)
    (Fn : ∀ (w : World) (mg : Str → Option Value) (fa : Addr) (h : Heap), (K w.params).In h → h.Ns mainGlobals mg → mg d.name = some (.ref fa) → ∀ base : Heap, (K w.params).In base → base.Ns mainGlobals mg → FnG l.prog w (K w.params) mg base k fa (sp (K w.params)))
    (hsp : ∀ (K : PySem.W.Frag) (H : Hp) (a : Addr) (ns : List Int), ns.length ≤ n → Only H → SqL K H a (ns.map V.int) → sp K [.ref a] H (fun v _ => v = .bl true) E0) :
    PySem.W.WalkO q loose XP YP l.row.toRowW d [] (fun f vs => PySem.call f vs) := by
  refine Att.attach_call hn hdf fun w s0 s1 mg mb fa o pm cd doc a vs ns G Y ho hd hcd hmg hobj hints hlen hg => ?_
  have KX := hY w _ Y
  exact lawG KX G.T.g G.T.b G.T.builtins G.T.nolimit hg hobj hints (Nat.le_trans hlen hn2) hr (Fn w mg fa _ KX G.T.g hmg) fun H hO hS => hsp (K w.params) H a ns hlen hO hS
end N
set_option Elab.async false
set_option linter.all false
set_option maxRecDepth 100000
namespace N
open PySem PySem.Spec PyProof.Rows L2
def startD (N : List Str) (ds : List D) : Gm := ds.map some ++ List.replicate (N.length - ds.length) none
section
variable {F : FmKit} {T : Kx} {H : Hp}
theorem DenL.lo {N : List Str} {ds : List D} {vs : List V} (k : DenL F T H ds vs) : Lo F T H (startD N ds) (L2.start N vs) := by
  refine ⟨?_, fun i d h => ?_⟩
  · unfold L2.start startD
    simp [k.len]
  · unfold startD at h
    unfold L2.start
    by_cases hi : i < ds.length
    · rw [List.getElem?_append_left (by simpa using hi), List.getElem?_map] at h
      cases e : ds[i]? with
      | none =>
        rw [e] at h
        cases h
      | some d' =>
        rw [e] at h
        cases h
        obtain ⟨v, hv, kv⟩ := k.get e
        refine ⟨v, ?_, kv⟩
        rw [List.getElem?_append_left (by rw [List.length_map, k.len]; exact hi), List.getElem?_map, hv]
        rfl
    · rw [List.getElem?_append_right (by simpa using hi), List.getElem?_replicate] at h
      split at h <;> cases h
end
section
variable {P : Program} {w : World} {K : PySem.W.Frag} {mg : Str → Option Value} {base : Heap} {F : FmKit} {cl : Nat → Addr} {S : FS}
theorem spN_len {n : Nat} (len : ∀ ds W post, S ds W post → ds.length = n) : ∀ vs H Q E, spN F ⟨K, cl⟩ S vs H Q E → vs.length = n := fun vs H Q E ⟨ds, W, C, H1, O, post, _, _, _, _, k, h, _⟩ => by
  rw [k.len]
  exact len ds W post h
/-- the end of a body meets the wish of the call -/
theorem body_run {N : List Str} {t : TS} {vs : List V} {H : Hp} {Q : VK} {E : XK} (h : spN F ⟨K, cl⟩ S vs H Q E) (b : ∀ ds W post, S ds W post → Sw F ⟨K, cl⟩ t (startD N ds) W (E_ post)) : t { nx := fun _ H' => Q .non H', rt := Q } (L2.start N vs) H := by
  obtain ⟨ds, W, C, H1, O, post, e, di, oc, ow, k, hs, q⟩ := h
  subst e
  exact b ds W post hs C H1 O _ ⟨di, oc, k.lo, ow⟩ _ ⟨fun G W' H' O' σ' r n l => q .non W' H' O' .non r n rfl, fun d W' H' O' v r n kd => q d W' H' O' v r n kd, fun _ _ _ _ _ z => z.elim, fun _ _ _ _ _ z => z.elim⟩
theorem okD {x qual : Str} {st : Stmt} {f : Addr} {fd : FuncData} {N ps : List Str} {k : Nat} (Fn : Fun K x qual st f fd) (Sc : FnScope N ps (defScope st)) (len : ∀ ds W post, S ds W post → ds.length = ps.length)
    (body : ∀ (cdv : Value) (A : Around) (outer : List Env) (s : Shared) (H : Hp) (E : XK), Room k (A.deeper (envOfC qual (defScope st) s.heap.objs.size f cdv)) →
      ∃ t, PSs (cxOf CX0 P w K mg base N qual (defScope st) f cdv A outer s H E).nox (defBody st) t ∧ ∀ ds W post, S ds W post → Sw F ⟨K, cl⟩ t (startD N ds) W (E_ post)) : FnOk P w K mg base CX0 (k + 1) f fd ps (spN F ⟨K, cl⟩ S) :=
  Fn.ok Sc (spN_len len) fun cdv A outer s H vs Q E hr h => let ⟨t, ht, b⟩ := body cdv A outer s H E hr; ⟨t, ht, body_run h b⟩
theorem okG {x qual : Str} {st : Stmt} {f : Addr} {fd : FuncData} {N ps : List Str} {k : Nat} (Fn : Fun K x qual st f fd) (Sc : FnScope N ps (defScope st)) (len : ∀ ds W post, S ds W post → ds.length = ps.length)
    (hb : ∀ (kV doc pm : Value) (an : Option Addr) (cdv ct : Value) (us : List Value), us.length = ps.length → bindArgs (PySem.W.fnOf x qual (defArgs st) (defBody st) (defScope st) .none kV doc pm an cdv ct) ⟨us, []⟩ = pure (ps.zip us))
    (body : ∀ (cdv : Value) (A : Around) (outer : List Env) (s : Shared) (H : Hp), (A.deeper (envOfC qual (defScope st) s.heap.objs.size f cdv)).guards = some [] → Room k (A.deeper (envOfC qual (defScope st) s.heap.objs.size f cdv)) →
      ∃ t, PSs (cxOf CX0 P w K mg base N qual (defScope st) f cdv A outer s H E0).nox (defBody st) t ∧ ∀ ds W post, S ds W post → Sw F ⟨K, cl⟩ t (startD N ds) W (E_ post)) : FnG P w K mg base (k + 1) f (spN F ⟨K, cl⟩ S) :=
  Fun.okG Fn Sc (spN_len len) hb fun cdv A outer s H vs Q hg hr h => let ⟨t, ht, b⟩ := body cdv A outer s H hg hr; ⟨t, ht, body_run h b⟩
/-- a def with a star behind n names -/
def starS (n : Nat) (S : FS) : FS := fun ds W post => n ≤ ds.length ∧ ds.length ≤ 1000 ∧ S (ds.take n ++ [.tup (ds.drop n)]) W post
end
end N
set_option Elab.async false
set_option linter.all false
set_option maxRecDepth 100000
namespace N
open PySem PySem.Spec PyProof.Rows L2
open C8 (Cal Met Mak pe_c pe_mt pe_mt0 pe_mk)
/-- the built-in names that a text uses are not hidden -/
structure Blt (mg : Str → Option Value) : Prop where
  len : mg "len" = none
  int : mg "int" = none
  str : mg "str" = none
  range : mg "range" = none
  list : mg "list" = none
  tuple : mg "tuple" = none
  dict : mg "dict" = none
  set : mg "set" = none
  sorted : mg "sorted" = none
  isinstance : mg "isinstance" = none
  repr : mg "repr" = none
  max : mg "max" = none
  min : mg "min" = none
  sum : mg "sum" = none
  all : mg "all" = none
  any : mg "any" = none
  zip : mg "zip" = none
  enumerate : mg "enumerate" = none
  bool : mg "bool" = none
  reversed : mg "reversed" = none
  type : mg "type" = none
theorem bt_int : bootBuiltins "int" = some (.type "int") := by decide +kernel
theorem bt_str : bootBuiltins "str" = some (.type "str") := by decide +kernel
theorem bt_list : bootBuiltins "list" = some (.type "list") := by decide +kernel
theorem bt_tuple : bootBuiltins "tuple" = some (.type "tuple") := by decide +kernel
theorem bt_len : bootBuiltins "len" = some (.builtin "len") := by decide +kernel
theorem bt_sorted : bootBuiltins "sorted" = some (.builtin "sorted") := by decide +kernel
theorem bt_isinstance : bootBuiltins "isinstance" = some (.builtin "isinstance") := by decide +kernel
theorem bt_repr : bootBuiltins "repr" = some (.builtin "repr") := by decide +kernel
theorem bt_max : bootBuiltins "max" = some (.builtin "max") := by decide +kernel
theorem bt_bool : bootBuiltins "bool" = some (.type "bool") := by decide +kernel
theorem bt_all : bootBuiltins "all" = some (.builtin "all") := by decide +kernel
section
variable {P : Program} {w : World} {K : PySem.W.Frag} {mg : Str → Option Value} {base : Heap} {F : FmKit} {cl : Nat → Addr} {S : FS}
/-- a def of the module, by its promise -/
theorem calD {x : Str} {st : Stmt} {f : Addr} {fd : FuncData} {N ps : List Str} {k : Nat} (hm : mg x = some (.ref f)) (Fn : Fun K x x st f fd) (Sc : FnScope N ps (defScope st)) (len : ∀ ds W post, S ds W post → ds.length = ps.length)
    (hb : ∀ (kV doc pm : Value) (an : Option Addr) (cdv ct : Value) (us : List Value), us.length = ps.length → bindArgs (PySem.W.fnOf x x (defArgs st) (defBody st) (defScope st) .none kV doc pm an cdv ct) ⟨us, []⟩ = pure (ps.zip us))
    (body : ∀ (cdv : Value) (A : Around) (outer : List Env) (s : Shared) (H : Hp) (E : XK), Room k (A.deeper (envOfC x (defScope st) s.heap.objs.size f cdv)) →
      ∃ t, PSs (cxOf CX0 P w K mg base N x (defScope st) f cdv A outer s H E).nox (defBody st) t ∧ ∀ ds W post, S ds W post → Sw F ⟨K, cl⟩ t (startD N ds) W (E_ post)) : Cal P w K mg base (k + 1) x (spN F ⟨K, cl⟩ S) [] :=
  ⟨f, fd, ps, [], okD Fn Sc len body, hm, Fn.kp, Fn.binds hb, .nil⟩
/-- .. that knows that no guard runs -/
structure CalG (P : Program) (w : World) (K : PySem.W.Frag) (mg : Str → Option Value) (base : Heap) (k : Nat) (x : Str) (sp : Sp) : Prop where
  ex : ∃ f : Addr, FnG P w K mg base k f sp ∧ mg x = some (.ref f) ∧ PySem.W.keepIn K (.ref f) = true
theorem calG {x : Str} {st : Stmt} {f : Addr} {fd : FuncData} {N ps : List Str} {k : Nat} (hm : mg x = some (.ref f)) (Fn : Fun K x x st f fd) (Sc : FnScope N ps (defScope st)) (len : ∀ ds W post, S ds W post → ds.length = ps.length)
    (hb : ∀ (kV doc pm : Value) (an : Option Addr) (cdv ct : Value) (us : List Value), us.length = ps.length → bindArgs (PySem.W.fnOf x x (defArgs st) (defBody st) (defScope st) .none kV doc pm an cdv ct) ⟨us, []⟩ = pure (ps.zip us))
    (body : ∀ (cdv : Value) (A : Around) (outer : List Env) (s : Shared) (H : Hp), (A.deeper (envOfC x (defScope st) s.heap.objs.size f cdv)).guards = some [] → Room k (A.deeper (envOfC x (defScope st) s.heap.objs.size f cdv)) →
      ∃ t, PSs (cxOf CX0 P w K mg base N x (defScope st) f cdv A outer s H E0).nox (defBody st) t ∧ ∀ ds W post, S ds W post → Sw F ⟨K, cl⟩ t (startD N ds) W (E_ post)) : CalG P w K mg base (k + 1) x (spN F ⟨K, cl⟩ S) :=
  ⟨f, okG Fn Sc len hb body, hm, Fn.kp⟩
/-- an own method by its promise: operators, str, len -/
structure Opn (P : Program) (w : World) (K : PySem.W.Frag) (mg : Str → Option Value) (base : Heap) (k : Nat) (C : Addr) (m : Str) (sp : Sp) : Prop where
  ex : ∃ (f : Addr) (fd : FuncData) (ps : List Str), Own2 K C m f ∧ FnOk P w K mg base CX0 k f fd ps sp ∧ Binds K fd ps []
theorem opnD {m qual : Str} {C : Addr} {st : Stmt} {f : Addr} {fd : FuncData} {N ps : List Str} {k : Nat} (o : Own2 K C m f) (Fn : Fun K m qual st f fd) (Sc : FnScope N ps (defScope st)) (len : ∀ ds W post, S ds W post → ds.length = ps.length)
    (hb : ∀ (kV doc pm : Value) (an : Option Addr) (cdv ct : Value) (us : List Value), us.length = ps.length → bindArgs (PySem.W.fnOf m qual (defArgs st) (defBody st) (defScope st) .none kV doc pm an cdv ct) ⟨us, []⟩ = pure (ps.zip us))
    (body : ∀ (cdv : Value) (A : Around) (outer : List Env) (s : Shared) (H : Hp) (E : XK), Room k (A.deeper (envOfC qual (defScope st) s.heap.objs.size f cdv)) →
      ∃ t, PSs (cxOf CX0 P w K mg base N qual (defScope st) f cdv A outer s H E).nox (defBody st) t ∧ ∀ ds W post, S ds W post → Sw F ⟨K, cl⟩ t (startD N ds) W (E_ post)) : Opn P w K mg base (k + 1) C m (spN F ⟨K, cl⟩ S) :=
  ⟨f, fd, ps, o, okD Fn Sc len body, Fn.binds hb⟩
end
section
variable {X : Cx} {k j : Nat} {x : Str} {C : Addr} {sp : Sp} {e : Expr} {es : List Expr} {t : TA} {p pos : Pos} {F : FmKit} {T : Kx} {S : FS}
theorem pe_cg (c : CalG X.prog X.w X.K X.mg X.base k x sp) (hgd : X.A.guards = some []) (hr : Room j X.A) (hk : k ≤ j) (hg : Gl X x) (ha : PA X (e :: es) t) (hdb : (x == ("__debug__" : Str)) = false := by decide)
    (he : starEach (e :: es) X.env = (false, eval e X.env) :: starEach es X.env := by rfl) (hpl : (backTo pos (starEach es X.env)).any (·.1) = false := by rfl) : PE X (.Call (.Name x p) (e :: es) [] pos) (tCall sp [] E0 t) := by
  obtain ⟨f, h, hm, hk'⟩ := c.ex
  exact pe_callG h hgd (hr.mono hk) hg hm hk' ha hdb he hpl
def rStrO (C : Addr) (sp : Sp) : List V → Hp → VK → Prop := fun xs H Q => ∃ a dx fs, xs = [.ref a] ∧ H a = some (.ins C dx fs) ∧ sp [.ref a] H (fun v H' => (∃ z, v = .str z) ∧ Q v H') E0
theorem call_str_opn (o : Opn X.prog X.w X.K X.mg X.base k C "__str__" sp) (hr : Room j X.A) (hk : k + 2 ≤ j) : CallR X (.type "str") (rStrO C sp) := by
  obtain ⟨f, fd, ps, o2, h, b⟩ := o.ex
  exact call_own_str h (hr.mono hk) o2 b pass0
def rLenO (C : Addr) (sp : Sp) : List V → Hp → VK → Prop := fun xs H Q => ∃ a dx fs, xs = [.ref a] ∧ H a = some (.ins C dx fs) ∧ sp [.ref a] H (fun v H' => (∃ n : Int, v = .int n ∧ 0 ≤ n ∧ n < 2 ^ 63) ∧ Q v H') E0
end
section
variable {F : FmKit} {T : Kx} {C H H' O O' : Hp} {G : Gm} {W W' : Om} {R : D → Om → Prop} {S : FS} {ta : TE} {c : Nat}
theorem ev_un {r : V → Hp → VK → Prop} (h : Ev F T ta G W fun d W1 => Ca F T (fun xs H Q => ∃ x, xs = [x] ∧ r x H Q) [d] W1 R) : Ev F T (tUn r ta) G W R := fun C H O σ w Q q =>
  h C H O σ w _ fun d W1 H1 O1 x h1 n1 k1 => by
    obtain ⟨y, e, hr⟩ := h1 C H1 O1 n1.dis n1.oc n1.own [x] (.one k1) Q fun d W' H' O' v rr n k => q d W' H' O' v rr (n1.trans n) k
    cases e
    exact hr
theorem ca_own1 {d : D} {ns : List Str} {l : List D} (i1 : Inst F W d c ns l) (h : Hand S [d] W R) : Ca F T (fun xs H Q => ∃ x, xs = [x] ∧ rOwn1 (T.cl c) (spN F T S) E0 x H Q) [d] W R := ca_one fun C H O di oc ow x k Q q => by
  obtain ⟨a, dx, fs, ex, ha, _⟩ := i1.at di ow k
  exact ⟨x, rfl, a, dx, fs, ex, ha, h.run di oc ow (.one k) q⟩
theorem ca_strO {d : D} {ns : List Str} {l : List D} (i1 : Inst F W d c ns l) (h : Hand S [d] W fun d' W' => (∃ z, d' = .str z) ∧ R d' W') : Ca F T (rStrO (T.cl c) (spN F T S)) [d] W R := ca_one fun C H O di oc ow x k Q q => by
  obtain ⟨a, dx, fs, ex, ha, _⟩ := i1.at di ow k
  subst ex
  refine ⟨a, dx, fs, rfl, ha, h.run di oc ow (.one k) fun d' W' H' O' v ⟨⟨z, ez⟩, r⟩ n kd => ⟨⟨z, ?_⟩, q d' W' H' O' v r n kd⟩⟩
  subst ez
  exact kd
theorem ca_lenO {d : D} {ns : List Str} {l : List D} (i1 : Inst F W d c ns l) (h : Hand S [d] W fun d' W' => (∃ n : Int, d' = .int n ∧ 0 ≤ n ∧ n < 2 ^ 63) ∧ R d' W') : Ca F T (rLenO (T.cl c) (spN F T S)) [d] W R := ca_one fun C H O di oc ow x k Q q => by
  obtain ⟨a, dx, fs, ex, ha, _⟩ := i1.at di ow k
  subst ex
  refine ⟨a, dx, fs, rfl, ha, h.run di oc ow (.one k) fun d' W' H' O' v ⟨⟨z, ez, h0, h1⟩, r⟩ n kd => ⟨⟨z, ?_, h0, h1⟩, q d' W' H' O' v r n kd⟩⟩
  subst ez
  exact kd
end
end N
set_option Elab.async false
set_option linter.all false
set_option maxRecDepth 100000
namespace N
open PySem PySem.Spec PyProof.Rows L2
section
variable {F : FmKit} {T : Kx} {C H H' O O' : Hp} {G : Gm} {W W' : Om} {R : D → Om → Prop} {S : FS} {ta tb te : TE} {tr : TA} {c : Nat} {t u : TT} {Z : Bool → Om → Prop} {ts tz : TS} {E : En}
theorem bo_I0 {g : Int → Int → V} {i j : Int} (h : R (.vl (g i j)) W) : Bo F T (rI0 g) (.int i) (.int j) W R := op_sc fun H Q k => ⟨i, j, rfl, rfl, k _ h⟩
theorem bo_I {Cc : Int → Int → Prop} {g : Int → Int → V} {i j : Int} (hc : Cc i j) (h : R (.vl (g i j)) W) : Bo F T (rI Cc g) (.int i) (.int j) W R := op_sc fun H Q k => ⟨i, j, rfl, rfl, hc, k _ h⟩
theorem bo_eq {x y : V} (hs : scal x y = true) (h : R (.bl (decide (x = y))) W) : Bo F T rEq (.vl x) (.vl y) W R := op_sc fun H Q k => ⟨hs, k _ h⟩
theorem bo_ne {x y : V} (hs : scal x y = true) (h : R (.bl (!decide (x = y))) W) : Bo F T rNe (.vl x) (.vl y) W R := op_sc fun H Q k => ⟨hs, k _ h⟩
theorem dec_int (i j : Int) : decide (V.int i = V.int j) = decide (i = j) := by
  by_cases h : i = j
  · subst h
    simp
  · rw [decide_eq_false h, decide_eq_false (fun e => h (V.int.inj e))]
theorem dec_str (i j : Str) : decide (V.str i = V.str j) = decide (i = j) := by
  by_cases h : i = j
  · subst h
    simp
  · rw [decide_eq_false h, decide_eq_false (fun e => h (V.str.inj e))]
theorem dec_bl (i j : Bool) : decide (V.bl i = V.bl j) = decide (i = j) := by cases i <;> cases j <;> decide
theorem bo_eqI {i j : Int} (h : R (.bl (decide (i = j))) W) : Bo F T rEq (.int i) (.int j) W R := bo_eq rfl (by rw [dec_int]; exact h)
theorem bo_neI {i j : Int} (h : R (.bl (!decide (i = j))) W) : Bo F T rNe (.int i) (.int j) W R := bo_ne rfl (by rw [dec_int]; exact h)
theorem bo_eqS {i j : Str} (h : R (.bl (decide (i = j))) W) : Bo F T rEq (.str i) (.str j) W R := bo_eq rfl (by rw [dec_str]; exact h)
theorem bo_neS {i j : Str} (h : R (.bl (!decide (i = j))) W) : Bo F T rNe (.str i) (.str j) W R := bo_ne rfl (by rw [dec_str]; exact h)
theorem bo_eqB {i j : Bool} (h : R (.bl (decide (i = j))) W) : Bo F T rEq (.bl i) (.bl j) W R := bo_eq rfl (by rw [dec_bl]; exact h)
theorem bo_neB {i j : Bool} (h : R (.bl (!decide (i = j))) W) : Bo F T rNe (.bl i) (.bl j) W R := bo_ne rfl (by rw [dec_bl]; exact h)
theorem ca_int {i : Int} (h : R (.int i) W) : Ca F T (fun xs H Q => (∃ i, xs = [.int i] ∧ Q (.int i) H) ∨ ∃ k, xs = [.bl k] ∧ Q (.int (if k then 1 else 0)) H) [.int i] W R := cl_sc (xs := [.int i]) fun H Q k => .inl ⟨i, rfl, k _ h⟩
theorem ca_intB {b : Bool} (h : R (.int (if b then 1 else 0)) W) : Ca F T (fun xs H Q => (∃ i, xs = [.int i] ∧ Q (.int i) H) ∨ ∃ k, xs = [.bl k] ∧ Q (.int (if k then 1 else 0)) H) [.bl b] W R := cl_sc (xs := [.bl b]) fun H Q k => .inr ⟨b, rfl, k _ h⟩
theorem ca_max2 {i j : Int} (h : R (.int (if j > i then j else i)) W) : Ca F T (fun xs H Q => ∃ i j, xs = [.int i, .int j] ∧ Q (.int (if j > i then j else i)) H) [.int i, .int j] W R := cl_sc (xs := [.int i, .int j]) fun H Q k => ⟨i, j, rfl, k _ h⟩
theorem ca_min2 {i j : Int} (h : R (.int (if j < i then j else i)) W) : Ca F T (fun xs H Q => ∃ i j, xs = [.int i, .int j] ∧ Q (.int (if j < i then j else i)) H) [.int i, .int j] W R := cl_sc (xs := [.int i, .int j]) fun H Q k => ⟨i, j, rfl, k _ h⟩
/-- a chain of comparisons -/
theorem ev_chain {r r' : R2} {tc : TE} (h : Ev F T ta G W fun d1 W1 => Ev F T tb G W1 fun d2 W2 => Bo F T r d1 d2 W2 fun z W3 => ∃ b, z = .bl b ∧ if b = true then Ev F T tc G W3 fun d3 W4 => Bo F T r' d2 d3 W4 R else R (.bl false) W3) : Ev F T (tChain r r' ta tb tc) G W R := fun C H O σ w Q q =>
  h C H O σ w _ fun d1 W1 H1 O1 x h1 n1 k1 => h1 C H1 O1 σ (w.step n1) _ fun d2 W2 H2 O2 y h2 n2 k2 =>
    h2 C H2 O2 n2.dis n2.oc n2.own x y (k1.mono n2.ext) k2 _ fun z W3 H3 O3 v ⟨b, ez, hb⟩ n3 k3 => by
      subst ez
      have k3 : v = .bl b := k3
      refine ⟨b, k3, ?_⟩
      cases b with
      | true => exact hb C H3 O3 σ (((w.step n1).step n2).step n3) _ fun d3 W4 H4 O4 zv h4 n4 k4 => h4 C H4 O4 n4.dis n4.oc n4.own y zv ((k2.mono n3.ext).mono n4.ext) k4 Q fun d W' H' O' v rr n k => q d W' H' O' v rr ((((n1.trans n2).trans n3).trans n4).trans n) k
      | false => exact q _ W3 H3 O3 _ hb ((n1.trans n2).trans n3) rfl
theorem et_chain {r r' : R2} {tc : TE} (h : Ev F T (tChain r r' ta tb tc) G W fun d W1 => ∃ b, d = .bl b ∧ Z b W1) : EvT F T (tTest (tChain r r' ta tb tc)) G W Z := et_test h
theorem if_so {c : Bool} {A B : Prop} (hc : c = true) (h : A) : if c = true then A else B := by rw [if_pos hc]; exact h
theorem if_not {c : Bool} {A B : Prop} (hc : c = false) (h : B) : if c = true then A else B := by rw [if_neg (by rw [hc]; exact Bool.false_ne_true)]; exact h
theorem if_dec {p A B : Prop} [Decidable p] (h1 : p → A) (h2 : ¬ p → B) : if decide p = true then A else B := by
  by_cases h : p
  · exact if_so (decide_eq_true h) (h1 h)
  · exact if_not (decide_eq_false h) (h2 h)
theorem if_bl {c : Bool} {A B : Prop} (h1 : c = true → A) (h2 : c = false → B) : if c = true then A else B := by
  cases c with
  | true => exact if_so rfl (h1 rfl)
  | false => exact if_not rfl (h2 rfl)
/-- slices of lists, in plain data -/
def cutD (xs : List D) (lo hi : Option Int) : List D := (xs.drop (HT.sIx xs.length 0 lo)).take (HT.sIx xs.length xs.length hi - HT.sIx xs.length 0 lo)
theorem DenL.cut {l : List D} {xs : List V} (k : DenL F T H l xs) (lo hi : Option Int) : DenL F T H (cutD l lo hi) (cutV xs lo hi) := by
  unfold cutD cutV
  rw [k.len]
  exact (k.drop _).take _
theorem eo_none {Y : Option Int → Om → Prop} (h : Y none W) : EvO F T tNoPart G W Y := fun C H O σ w Q q => q none W H O h w.nx
theorem eo_some {Y : Option Int → Om → Prop} (h : Ev F T te G W fun d W1 => ∃ i, d = .int i ∧ Y (some i) W1) : EvO F T (tPart te) G W Y := fun C H O σ w Q q =>
  h C H O σ w _ fun d W1 H1 O1 x ⟨i, e, y⟩ n k => by
    subst e
    exact ⟨i, k, q (some i) W1 H1 O1 y n⟩
theorem ev_sl {r : V → Option Int → Option Int → Hp → VK → Prop} {tl th : TO} (h : Ev F T te G W fun d W1 => EvO F T tl G W1 fun lo W2 => EvO F T th G W2 fun hi W3 => Ca F T (fun xs H Q => ∃ x, xs = [x] ∧ r x lo hi H Q) [d] W3 R) : Ev F T (tSl r te tl th) G W R := fun C H O σ w Q q =>
  h C H O σ w _ fun d W1 H1 O1 x h1 n1 k1 => h1 C H1 O1 σ (w.step n1) _ fun lo W2 H2 O2 h2 n2 => h2 C H2 O2 σ ((w.step n1).step n2) _ fun hi W3 H3 O3 h3 n3 => by
    obtain ⟨y, e, hr⟩ := h3 C H3 O3 n3.dis n3.oc n3.own [x] (.one ((k1.mono n2.ext).mono n3.ext)) Q fun d W' H' O' v rr n k => q d W' H' O' v rr (((n1.trans n2).trans n3).trans n) k
    cases e
    exact hr
theorem ca_slL {d : D} {l : List D} {lo hi : Option Int} (hv : Vl W d l) (r : ∀ p, p ∉ akeys W → R (.adr p) ((p, .lst (cutD l lo hi)) :: W)) : Ca F T (fun xs H Q => ∃ x, xs = [x] ∧ rSlL T.K x lo hi H Q) [d] W R := ca_one fun C H O di oc ow x k Q q => by
  obtain ⟨a, xs, e, hs, kl⟩ := hv.sq ow di k
  subst e
  refine ⟨_, rfl, a, xs, rfl, hs, fun p hp => ?_⟩
  obtain ⟨n2, e, np⟩ := (Nx.refl di oc ow).newO (od := .lst (cutD l lo hi)) (o := .lst (cutV xs lo hi)) hp ⟨_, rfl, kl.cut lo hi⟩
  rw [e]
  exact q (.adr p) _ _ _ _ (r p np) n2 rfl
theorem ev_revL (h : Ev F T te G W fun d W1 => ∃ l, Vl W1 d l ∧ ∀ p, p ∉ akeys W1 → R (.adr p) ((p, .lst l.reverse) :: W1)) : Ev F T (tRevL T.K te) G W R := fun C H O σ w Q q =>
  h C H O σ w _ fun d W1 H1 O1 x ⟨l, hv, r⟩ n k => by
    obtain ⟨a, xs, e, hs, kl⟩ := hv.sq n.own n.dis k
    subst e
    refine ⟨a, xs, rfl, hs, fun p hp => ?_⟩
    obtain ⟨n2, e, np⟩ := n.newO (od := .lst l.reverse) (o := .lst xs.reverse) hp ⟨_, rfl, kl.reverse⟩
    rw [e]
    exact q (.adr p) _ _ _ _ (r p np) n2 rfl
end
theorem canLay_ints : ∀ ns : List Int, PyData.canLayAll0 (ns.map .int) = true
  | [] => rfl
  | n :: ns => by
    rw [List.map_cons, PyData.canLayAll0, canLay_ints ns]
    rfl
theorem depth_ints : ∀ ns : List Int, PyData.depthAll (ns.map .int) = 0
  | [] => rfl
  | n :: ns => by
    rw [List.map_cons, PyData.depthAll, depth_ints ns]
    rfl
theorem shaped_ints (ns : List Int) : SeqAt.shaped (.list (ns.map .int)) = true := by
  unfold SeqAt.shaped
  rw [PyData.canLay0, canLay_ints, PyData.depth, depth_ints]
  decide
theorem eqv_nil {ds : List PyData} : (PyData.list ds).eqv (.list []) = ds.isEmpty := by
  cases ds with
  | nil => simp [PyData.eqv, PyData.eqvAll]
  | cons d ds => simp [PyData.eqv, PyData.eqvAll]
theorem vp_ints {W : Om} {d : D} {ns : List Int} (h : Vl W d (ns.map D.int)) : Vp W d (.list (ns.map .int)) := .inr ⟨_, h, pd_lst (pdL_map D.int .int (fun _ => rfl) ns)⟩
theorem vp_nil {W : Om} : Vp W (.lst []) (.list []) := .inl rfl
end N
set_option Elab.async false
set_option linter.all false
set_option maxRecDepth 100000
namespace N
open PySem PySem.Spec PyProof.Rows L2
theorem str_ext {x y : Str} (h : x.cps.toList = y.cps.toList) : x = y := by
  cases x
  cases y
  congr 1
  exact Array.toList_inj.mp h
theorem str_app (x y : Str) : (x ++ y).cps.toList = x.cps.toList ++ y.cps.toList := by
  show (x.cps ++ y.cps).toList = _
  rw [Array.toList_append]
theorem str_len (x : Str) : x.length = x.cps.toList.length := by
  show x.cps.size = _
  rw [Array.length_toList]
theorem str_app_len (x y : Str) : (x ++ y).length = x.length + y.length := by rw [str_len, str_app, List.length_append, ← str_len, ← str_len]
def ltS (x y : Str) : Bool := ltCps x.cps.toList y.cps.toList
theorem ltCps_irrefl : ∀ a : List Nat, ltCps a a = false
  | [] => rfl
  | a :: r => by simp [ltCps, ltCps_irrefl r]
theorem ltCps_trans : ∀ {a b c : List Nat}, ltCps a b = true → ltCps b c = true → ltCps a c = true
  | [], [], c, h, _ => by simp [ltCps] at h
  | [], _ :: _, [], _, h => by simp [ltCps] at h
  | [], _ :: _, _ :: _, _, _ => rfl
  | _ :: _, [], _, h, _ => by simp [ltCps] at h
  | _ :: _, _ :: _, [], _, h => by simp [ltCps] at h
  | x :: a, y :: b, z :: c, h1, h2 => by
    simp only [ltCps, Bool.or_eq_true, decide_eq_true_eq, Bool.and_eq_true, beq_iff_eq] at h1 h2 ⊢
    rcases h1 with h1 | ⟨h1, h3⟩ <;> rcases h2 with h2 | ⟨h2, h4⟩
    · exact .inl (by omega)
    · exact .inl (by omega)
    · exact .inl (by omega)
    · exact .inr ⟨by omega, ltCps_trans h3 h4⟩
theorem ltCps_total : ∀ {a b : List Nat}, ltCps a b = false → ltCps b a = false → a = b
  | [], [], _, _ => rfl
  | [], _ :: _, h, _ => by simp [ltCps] at h
  | _ :: _, [], _, h => by simp [ltCps] at h
  | x :: a, y :: b, h1, h2 => by
    simp only [ltCps, Bool.or_eq_false_iff, decide_eq_false_iff_not, Bool.and_eq_false_iff, beq_eq_false_iff_ne] at h1 h2
    have e : x = y := by omega
    subst e
    rw [ltCps_total (h1.2.resolve_left (by simp)) (h2.2.resolve_left (by simp))]
theorem ltS_irrefl (x : Str) : ltS x x = false := ltCps_irrefl _
theorem ltS_trans {x y z : Str} (h : ltS x y = true) (k : ltS y z = true) : ltS x z = true := ltCps_trans h k
theorem ltS_total {x y : Str} (h : ltS x y = false) (k : ltS y x = false) : x = y := str_ext (ltCps_total h k)
theorem ltS_of {x y : Str} (h : ltS y x = false) (ne : x ≠ y) : ltS x y = true := by
  cases e : ltS x y with
  | true => rfl
  | false => exact absurd (ltS_total e h) ne
theorem rising_all : ∀ {l : List Str} {p : Str}, risingS p l = true → (p :: l).Nodup → (p :: l).Pairwise (fun a b => ltS a b = true)
  | [], p, _, _ => by simp
  | x :: l, p, h, nd => by
    unfold risingS at h
    rw [Bool.and_eq_true] at h
    have h1 : ltS x p = false := by simpa [ltS] using h.1
    rw [List.nodup_cons] at nd
    have ih := rising_all h.2 nd.2
    have px : ltS p x = true := ltS_of h1 (fun e => nd.1 (by rw [e]; exact List.mem_cons_self))
    rw [List.pairwise_cons]
    refine ⟨fun y hy => ?_, ih⟩
    rcases List.mem_cons.mp hy with e | e
    · subst e
      exact px
    · exact ltS_trans px ((List.pairwise_cons.mp ih).1 y e)
theorem sorted_all : ∀ {l : List Str}, sortedS l = true → l.Nodup → l.Pairwise (fun a b => ltS a b = true)
  | [], _, _ => List.Pairwise.nil
  | _ :: _, h, nd => rising_all h nd
/-- two strictly ascending lists with the same members are one -/
theorem asc_ext {α : Type} {lt : α → α → Prop} (ir : ∀ a, ¬ lt a a) (tr : ∀ a b c, lt a b → lt b c → lt a c) : ∀ {l m : List α}, l.Pairwise lt → m.Pairwise lt → (∀ x, x ∈ l ↔ x ∈ m) → l = m
  | [], [], _, _, _ => rfl
  | [], b :: m, _, _, h => absurd ((h b).mpr List.mem_cons_self) (by simp)
  | a :: l, [], _, _, h => absurd ((h a).mp List.mem_cons_self) (by simp)
  | a :: l, b :: m, hl, hm, h => by
    rw [List.pairwise_cons] at hl hm
    have e : a = b := by
      rcases List.mem_cons.mp ((h a).mp List.mem_cons_self) with e | e
      · exact e
      · rcases List.mem_cons.mp ((h b).mpr List.mem_cons_self) with e2 | e2
        · exact e2.symm
        · exact absurd (tr _ _ _ (hl.1 _ e2) (hm.1 _ e)) (ir a)
    subst e
    congr 1
    refine asc_ext ir tr hl.2 hm.2 fun x => ⟨fun hx => ?_, fun hx => ?_⟩
    · rcases List.mem_cons.mp ((h x).mp (List.mem_cons_of_mem _ hx)) with e | e
      · subst e
        exact absurd (hl.1 _ hx) (ir x)
      · exact e
    · rcases List.mem_cons.mp ((h x).mpr (List.mem_cons_of_mem _ hx)) with e | e
      · subst e
        exact absurd (hm.1 _ hx) (ir x)
      · exact e
theorem perm_map_inv {α β : Type} {f : α → β} : ∀ {l : List α} {ys : List β}, ys.Perm (l.map f) → ∃ l' : List α, l'.Perm l ∧ ys = l'.map f
  | [], ys, h => ⟨[], List.Perm.refl _, by simpa using h⟩
  | a :: l, ys, h => by
    have hm : f a ∈ ys := h.mem_iff.mpr (by simp)
    obtain ⟨s, t, e⟩ := List.append_of_mem hm
    subst e
    have h2 : (s ++ t).Perm (l.map f) := by
      have h3 : (f a :: (s ++ t)).Perm (f a :: l.map f) := List.perm_middle.symm.trans (by simpa using h)
      exact (List.perm_cons _).mp h3
    obtain ⟨l', p, e⟩ := perm_map_inv h2
    obtain ⟨l1, l2, e1, e2, e3⟩ := List.map_eq_append_iff.mp e.symm
    subst e1 e2 e3
    exact ⟨l1 ++ a :: l2, List.perm_middle.trans ((List.perm_cons _).mpr p), by simp⟩
def insN (n : Nat) : List Nat → List Nat
  | [] => [n]
  | m :: r => if n = m then m :: r else if n < m then n :: m :: r else m :: insN n r
def unite (x y : Str) : Str := if x = y then x else ⟨((x.cps.toList ++ y.cps.toList).foldr insN []).toArray⟩
namespace Fm
def kind : Fm → Str
  | .at _ => "atom"
  | .no => "no"
  | .imp _ _ => "if"
  | .all _ => "all"
def many : Fm → Nat
  | .at _ => 1
  | .no => 1
  | .imp a b => 1 + a.many + b.many
  | .all a => 1 + a.many
def deep : Fm → Nat
  | .at _ => 0
  | .no => 0
  | .imp a b => max a.deep b.deep
  | .all a => 1 + a.deep
def atoms : Fm → Str
  | .at c => ⟨#[c]⟩
  | .no => ""
  | .imp a b => unite a.atoms b.atoms
  | .all a => a.atoms
/-- the atoms outside of all all-parts -/
def outer : Fm → Str
  | .at c => ⟨#[c]⟩
  | .no => ""
  | .imp a b => unite a.outer b.outer
  | .all _ => ""
def spell : Fm → Str
  | .at c => ⟨#[c]⟩
  | .no => "no"
  | .imp a b => "(" ++ a.spell ++ " > " ++ b.spell ++ ")"
  | .all a => "all " ++ a.spell
def ins (g : Fm) : List Fm → List Fm
  | [] => [g]
  | h :: r => if g = h then h :: r else if ltS g.spell h.spell then g :: h :: r else h :: ins g r
def merge (xs ys : List Fm) : List Fm := if xs = [] then ys else if ys = [] then xs else (xs ++ ys).foldr ins []
def alls : Fm → List Fm
  | .at _ => []
  | .no => []
  | .imp a b => merge a.alls b.alls
  | .all a => merge a.alls [.all a]
/-- the length of the text -/
def sz : Fm → Nat
  | .at _ => 1
  | .no => 2
  | .imp a b => 5 + a.sz + b.sz
  | .all a => 4 + a.sz
/-- no atom in it -/
def bare : Fm → Prop
  | .at _ => False
  | .no => True
  | .imp a b => a.bare ∧ b.bare
  | .all a => a.bare
def ltF (f g : Fm) : Prop := ltS f.spell g.spell = true
def cs (f : Fm) : List Nat := f.spell.cps.toList
theorem cs_imp (a b : Fm) : cs (.imp a b) = 40 :: (a.cs ++ (32 :: 62 :: 32 :: (b.cs ++ [41]))) := by
  have h1 : ("(" : Str).cps.toList = [40] := rfl
  have h2 : (" > " : Str).cps.toList = [32, 62, 32] := rfl
  have h3 : (")" : Str).cps.toList = [41] := rfl
  simp [cs, spell, str_app, h1, h2, h3]
theorem cs_all (a : Fm) : cs (.all a) = 97 :: 108 :: 108 :: 32 :: a.cs := by
  have h1 : ("all " : Str).cps.toList = [97, 108, 108, 32] := rfl
  simp [cs, spell, str_app, h1]
theorem cs_no : cs .no = [110, 111] := rfl
theorem cs_at (c : Nat) : cs (.at c) = [c] := rfl
/-- behind a formula stands nothing, a blank or a bracket -/
def stop (r : List Nat) : Prop := ∀ c t, r = c :: t → c = 32 ∨ c = 41
/-- letters -/
def okL : Fm → Prop
  | .at c => (65 ≤ c ∧ c ≤ 90) ∨ (97 ≤ c ∧ c ≤ 122)
  | .no => True
  | .imp a b => a.okL ∧ b.okL
  | .all a => a.okL
theorem cs_inj : ∀ (f g : Fm), f.okL → g.okL → ∀ r s : List Nat, stop r → stop s → f.cs ++ r = g.cs ++ s → f = g ∧ r = s
  | .at c, .at d, _, _, r, s, _, _, h => by
    rw [cs_at, cs_at] at h
    injection h with h1 h2
    exact ⟨by rw [h1], h2⟩
  | .at c, .no, _, _, r, s, hr, _, h => by
    rw [cs_at, cs_no] at h
    injection h with h1 h2
    rcases hr 111 s h2 with e | e <;> cases e
  | .at c, .imp a b, hc, _, r, s, hr, _, h => by
    rw [cs_at, cs_imp] at h
    injection h with h1 h2
    simp only [okL] at hc
    omega
  | .at c, .all a, _, _, r, s, hr, _, h => by
    rw [cs_at, cs_all] at h
    injection h with h1 h2
    rcases hr _ _ h2 with e | e <;> cases e
  | .no, .at d, _, _, r, s, _, hs, h => by
    rw [cs_at, cs_no] at h
    injection h with h1 h2
    rcases hs 111 r h2.symm with e | e <;> cases e
  | .no, .no, _, _, r, s, _, _, h => by
    rw [cs_no] at h
    simp at h
    exact ⟨rfl, h⟩
  | .no, .imp a b, _, _, r, s, _, _, h => by
    rw [cs_no, cs_imp] at h
    injection h with h1 h2
    cases h1
  | .no, .all a, _, _, r, s, _, _, h => by
    rw [cs_no, cs_all] at h
    injection h with h1 h2
    cases h1
  | .imp a b, .at d, _, hd, r, s, _, hs, h => by
    rw [cs_at, cs_imp] at h
    injection h with h1 h2
    simp only [okL] at hd
    omega
  | .imp a b, .no, _, _, r, s, _, _, h => by
    rw [cs_no, cs_imp] at h
    injection h with h1 h2
    cases h1
  | .imp a b, .all c, _, _, r, s, _, _, h => by
    rw [cs_all, cs_imp] at h
    injection h with h1 h2
    cases h1
  | .all a, .at d, _, _, r, s, _, hs, h => by
    rw [cs_at, cs_all] at h
    injection h with h1 h2
    rcases hs _ _ h2.symm with e | e <;> cases e
  | .all a, .no, _, _, r, s, _, _, h => by
    rw [cs_no, cs_all] at h
    injection h with h1 h2
    cases h1
  | .all a, .imp b c, _, _, r, s, _, _, h => by
    rw [cs_all, cs_imp] at h
    injection h with h1 h2
    cases h1
  | .all a, .all b, ha, hb, r, s, hr, hs, h => by
    rw [cs_all, cs_all] at h
    simp only [List.cons_append, List.cons.injEq, true_and] at h
    obtain ⟨e, e2⟩ := cs_inj a b ha hb r s hr hs h
    exact ⟨by rw [e], e2⟩
  | .imp a b, .imp c d, ha, hb, r, s, hr, hs, h => by
    rw [cs_imp, cs_imp] at h
    simp only [List.cons_append, List.append_assoc, List.cons.injEq, true_and] at h
    obtain ⟨e, e2⟩ := cs_inj a c ha.1 hb.1 _ _ (by intro c t e; injection e with e; exact .inl e.symm) (by intro c t e; injection e with e; exact .inl e.symm) h
    subst e
    simp only [List.cons.injEq, true_and] at e2
    obtain ⟨e3, e4⟩ := cs_inj b d ha.2 hb.2 _ _ (by intro c t e; injection e with e; exact .inr e.symm) (by intro c t e; injection e with e; exact .inr e.symm) e2
    subst e3
    simp at e4
    exact ⟨rfl, e4⟩
theorem spell_inj {f g : Fm} (hf : f.okL) (hg : g.okL) (h : f.spell = g.spell) : f = g := by
  refine (cs_inj f g hf hg [] [] (by intro c t e; cases e) (by intro c t e; cases e) ?_).1
  simp [cs, h]
def asc (l : List Fm) : Prop := l.Pairwise ltF
theorem ltF_irrefl (f : Fm) : ¬ ltF f f := by
  unfold ltF
  rw [ltS_irrefl]
  exact Bool.false_ne_true
theorem ltF_trans (f g h : Fm) : ltF f g → ltF g h → ltF f h := fun a b => ltS_trans a b
theorem mem_ins {g x : Fm} : ∀ {l : List Fm}, x ∈ ins g l ↔ x = g ∨ x ∈ l
  | [] => by simp [ins]
  | h :: r => by
    unfold ins
    split
    · rename_i e
      subst e
      simp
    · split
      · simp
      · rw [List.mem_cons, mem_ins, List.mem_cons]
        constructor
        · rintro (h | h | h)
          · exact .inr (.inl h)
          · exact .inl h
          · exact .inr (.inr h)
        · rintro (h | h | h)
          · exact .inr (.inl h)
          · exact .inl h
          · exact .inr (.inr h)
theorem asc_ins {g : Fm} (hg : g.okL) : ∀ {l : List Fm}, asc l → (∀ x ∈ l, okL x) → asc (ins g l)
  | [], _, _ => by simp [ins, asc]
  | h :: r, hl, ho => by
    unfold asc at hl
    rw [List.pairwise_cons] at hl
    unfold ins
    split
    · exact List.pairwise_cons.mpr hl
    · rename_i ne
      split
      · rename_i lt
        refine List.pairwise_cons.mpr ⟨fun y hy => ?_, List.pairwise_cons.mpr hl⟩
        rcases List.mem_cons.mp hy with e | e
        · subst e
          exact lt
        · exact ltF_trans _ _ _ lt (hl.1 y e)
      · rename_i nlt
        refine List.pairwise_cons.mpr ⟨fun y hy => ?_, asc_ins hg hl.2 fun x hx => ho x (List.mem_cons_of_mem _ hx)⟩
        rcases mem_ins.mp hy with e | e
        · subst e
          refine ltS_of (by simpa using nlt) fun e => ne ?_
          exact (spell_inj (ho _ List.mem_cons_self) hg e).symm
        · exact hl.1 y e
theorem mem_fold {x : Fm} : ∀ {l : List Fm}, x ∈ l.foldr ins [] ↔ x ∈ l
  | [] => by simp
  | g :: l => by rw [List.foldr_cons, mem_ins, mem_fold, List.mem_cons]
theorem asc_fold : ∀ {l : List Fm}, (∀ x ∈ l, okL x) → asc (l.foldr ins [])
  | [], _ => List.Pairwise.nil
  | g :: l, h => asc_ins (h g List.mem_cons_self) (asc_fold fun x hx => h x (List.mem_cons_of_mem _ hx)) fun x hx => h x (List.mem_cons_of_mem _ (mem_fold.mp hx))
theorem mem_merge {x : Fm} {l m : List Fm} : x ∈ merge l m ↔ x ∈ l ∨ x ∈ m := by
  unfold merge
  split
  · rename_i e
    subst e
    simp
  · split
    · rename_i e
      subst e
      simp
    · rw [mem_fold, List.mem_append]
theorem asc_merge {l m : List Fm} (hl : asc l) (hm : asc m) (ol : ∀ x ∈ l, okL x) (om : ∀ x ∈ m, okL x) : asc (merge l m) := by
  unfold merge
  split
  · exact hm
  · split
    · exact hl
    · refine asc_fold fun x hx => ?_
      rcases List.mem_append.mp hx with h | h
      · exact ol x h
      · exact om x h
theorem alls_sub : ∀ {f : Fm}, f.okL → (∀ x ∈ f.alls, okL x) ∧ asc f.alls
  | .at _, _ => ⟨fun _ h => by simp [alls] at h, List.Pairwise.nil⟩
  | .no, _ => ⟨fun _ h => by simp [alls] at h, List.Pairwise.nil⟩
  | .imp a b, h => by
    obtain ⟨h1, h2⟩ := alls_sub h.1
    obtain ⟨h3, h4⟩ := alls_sub h.2
    exact ⟨fun x hx => (mem_merge.mp hx).elim (h1 x) (h3 x), asc_merge h2 h4 h1 h3⟩
  | .all a, h => by
    obtain ⟨h1, h2⟩ := alls_sub (f := a) h
    have h3 : ∀ x ∈ [Fm.all a], okL x := fun x hx => by
      rw [List.mem_singleton] at hx
      subst hx
      exact h
    exact ⟨fun x hx => (mem_merge.mp hx).elim (h1 x) (h3 x), asc_merge h2 (by simp [asc]) h1 h3⟩
end Fm
/-- the kit of formulas -/
@[reducible] def FK : FmKit where
  kind := Fm.kind
  many f := (f.many : Nat)
  deep f := (f.deep : Nat)
  atoms := Fm.atoms
  bare := Fm.outer
  spell := Fm.spell
  alls := Fm.alls
end N
set_option Elab.async false
set_option linter.all false
set_option maxRecDepth 100000
namespace N
open PySem PySem.Spec PyProof.Rows L2
open C8 (InsC)
theorem len_ok {n : Nat} (h : n ≤ 1000) : n ≤ sizeLine := by
  have := sizeLine_eq
  omega
section
variable {F : FmKit} {T : Kx} {C H H' O O' : Hp} {G : Gm} {W W' : Om} {σ : L2.St} {a p : Addr} {d : D} {l : List D}
  {te ta tb : TE} {t u : TT} {R R' : D → Om → Prop} {Z : Bool → Om → Prop} {tr tk : TA} {ts tz : TS}
/-- an owned cell is let go -/
theorem ev_drp (h : Ev F T te G W fun d W' => ∃ W2, W2.Sublist W' ∧ R d W2) : Ev F T te G W R := fun C H O σ w Q q => h C H O σ w Q fun d W' H' O' v ⟨W2, s, r⟩ n k => q d W2 H' O' v r ⟨n.ext, n.dis, n.oc, n.own.sub s⟩ k
def TyD (F : FmKit) (T : Kx) (W : Om) (d : D) (t : Value) : Prop := ∀ (C H O : Hp), Dis O H → Ow F T H C O W → ∀ x, Den F T H d x → TyX T.K (ov O H) x t
theorem ca_isi {c : V} {t u : Value} {b : Bool} (hc : ClsV c u) (ht : TyD F T W d t) (e : PySem.W.kitOne T.K t u = some b) (r : R (.bl b) W) : Ca F T (rIsi T.K) [d, .vl c] W R := ca_two fun C H O di oc ow x y hx hy Q q => by
  have hy : y = c := hy
  subst hy
  exact ⟨x, y, t, u, b, rfl, hc, ht C H O di ow x hx, e, q _ W H O _ r (.refl di oc ow) rfl⟩
theorem tyd_str {s : Str} : TyD F T W (.str s) (.type "str") := fun C H O di ow x k => by
  have k : x = .str s := k
  subst k
  exact .base (.str s)
theorem tyd_int {i : Int} : TyD F T W (.int i) (.type "int") := fun C H O di ow x k => by
  have k : x = .int i := k
  subst k
  exact .base (.int i)
theorem tyd_bl {i : Bool} : TyD F T W (.bl i) (.type "bool") := fun C H O di ow x k => by
  have k : x = .bl i := k
  subst k
  exact .base (.bl i)
theorem tyd_ins {c : Nat} {ns : List Str} (i : Inst F W d c ns l) (z : InsC T.K (T.cl c)) : TyD F T W d (.ref (T.cl c)) := fun C H O di ow x k => by
  obtain ⟨a, dx, fs, e, h1, h2, h3⟩ := i.at di ow k
  subst e
  exact .base (.ins h1 z.cl z.ha z.hn z.htk z.hm)
theorem isi_str {R : D → Om → Prop} {s : Str} (r : R (.bl true) W) : Ca F T (rIsi T.K) [.str s, .vl (.ty "str")] W R := ca_isi (.ty "str") tyd_str (by unfold PySem.W.kitOne; rfl) r
theorem isi_ins {c : Nat} {ns : List Str} (i : Inst F W d c ns l) (z : InsC T.K (T.cl c)) (r : R (.bl true) W) : Ca F T (rIsi T.K) [d, .adr (T.cl c)] W R := ca_isi (.own _) (tyd_ins i z) z.me r
theorem bo_addS {x y : Str} (hl : x.length + y.length ≤ sizeLine) (r : R (.str (x ++ y)) W) : Bo F T (fun x y H Q => ∃ i j, x = .str i ∧ y = .str j ∧ i.length + j.length ≤ sizeLine ∧ Q (.str (i ++ j)) H) (.str x) (.str y) W R :=
  op_sc fun H Q k => ⟨x, y, rfl, rfl, hl, k _ r⟩
/-- the parts of an f-string -/
def EvJ (F : FmKit) (T : Kx) : List TE → Str → Gm → Om → (Str → Om → Prop) → Prop
  | [], acc, _, W, Y => Y acc W
  | te :: ts, acc, G, W, Y => Ev F T te G W fun d W1 => ∃ y : Str, d = .str y ∧ (acc ++ y).length ≤ sizeLine ∧ EvJ F T ts (acc ++ y) G W1 Y
theorem EvJ.run {Y : Str → Om → Prop} : ∀ {ts : List TE} {acc : Str} {W : Om} {H O : Hp}, EvJ F T ts acc G W Y → Wd F T C G W H O σ → ∀ Q : Str → Hp → Prop, (∀ z W' H' O', Y z W' → Nx F T C W' H H' O' → Q z (ov O' H')) → tJs ts acc σ (ov O H) Q
  | [], acc, W, H, O, h, w, Q, q => q acc W H O h w.nx
  | te :: ts, acc, W, H, O, h, w, Q, q => h C H O σ w _ fun d W1 H1 O1 x ⟨y, e, hl, r⟩ n k => by
    subst e
    have k : x = .str y := k
    exact ⟨y, k, hl, EvJ.run r (w.step n) Q fun z W' H' O' yy n2 => q z W' H' O' yy (n.trans n2)⟩
end
end N
set_option Elab.async false
set_option linter.all false
set_option maxRecDepth 100000
set_option maxHeartbeats 4000000
namespace N
open PySem PySem.Spec PyProof.Rows L2
def txOf (e : Int × Value) : Str := match e.2 with
  | .str k _ => k
  | _ => Str.empty
def GoodT (w : World) (e : Int × Value) : Prop := ∃ k tk, e.2 = Value.str k tk ∧ e.1 = hashStr w k
/-- the set of texts at a -/
def SetT (w : World) (h : Heap) (a : Addr) (M : Str → Bool) (n : Nat) : Prop :=
  ∃ o es ep t, h.get? a = some o ∧ o.ExactSet ∧ o.data = .set es ep t ∧ (∀ e ∈ es.toList, GoodT w e) ∧ (es.toList.map txOf).Nodup ∧ (∀ k, M k = true ↔ k ∈ es.toList.map txOf) ∧
    es.size < scanBound ∧ t.fits es.size = true ∧ es.size = n ∧ Ris t.place.toList ∧ (w.params.followText "set-order" = true ∨ t.led = true)
section
variable {P : Program} {w : World} {h h' : Heap} {a : Addr} {M : Str → Bool} {n : Nat}
theorem SetT.at (R : SetT w h a M n) (k : ∀ o, h.get? a = some o → h'.get? a = some o) : SetT w h' a M n := let ⟨o, es, ep, t, ho, r⟩ := R; ⟨o, es, ep, t, k o ho, r⟩
theorem SetT.lt (R : SetT w h a M n) : a < h.objs.size := let ⟨_, _, _, _, ho, _⟩ := R; Heap.lt_size ho
end
end N
set_option Elab.async false
set_option linter.all false
set_option maxRecDepth 100000
set_option maxHeartbeats 4000000
set_option Elab.async false
set_option linter.all false
set_option maxRecDepth 100000
set_option maxHeartbeats 4000000
namespace N
open PySem PySem.Spec PyProof.Rows L2
section
variable {P : Program} {w : World} {A : Around} {E : Value → Shared → Prop} {s : Shared}
def signs (x : Str) : List Str := x.cps.toList.map fun c => ⟨#[c]⟩
end
end N
set_option Elab.async false
set_option linter.all false
set_option maxRecDepth 100000
set_option maxHeartbeats 4000000
namespace N
open PySem PySem.Spec PyProof.Rows L2
def insS (k : Str) : List Str → List Str
  | [] => [k]
  | m :: r => if k = m then m :: r else if ltS k m then k :: m :: r else m :: insS k r
def ascS (l : List Str) : List Str := l.foldr insS []
theorem mem_insS {k x : Str} : ∀ {l : List Str}, x ∈ insS k l ↔ x = k ∨ x ∈ l
  | [] => by simp [insS]
  | m :: r => by
    unfold insS
    split
    · rename_i e
      subst e
      simp
    · split
      · simp
      · rw [List.mem_cons, mem_insS, List.mem_cons]
        constructor
        · rintro (h | h | h)
          · exact .inr (.inl h)
          · exact .inl h
          · exact .inr (.inr h)
        · rintro (h | h | h)
          · exact .inr (.inl h)
          · exact .inl h
          · exact .inr (.inr h)
theorem mem_ascS {x : Str} : ∀ {l : List Str}, x ∈ ascS l ↔ x ∈ l
  | [] => by simp [ascS]
  | k :: l => by
    show x ∈ insS k (ascS l) ↔ _
    rw [mem_insS, mem_ascS, List.mem_cons]
def AscS (l : List Str) : Prop := l.Pairwise fun a b => ltS a b = true
theorem asc_insS {k : Str} : ∀ {l : List Str}, AscS l → AscS (insS k l)
  | [], _ => by simp [insS, AscS]
  | m :: r, h => by
    obtain ⟨h1, h2⟩ := List.pairwise_cons.mp h
    unfold insS
    split
    · exact h
    · rename_i ne
      split
      · rename_i lt
        refine List.pairwise_cons.mpr ⟨fun y hy => ?_, h⟩
        rcases List.mem_cons.mp hy with e | e
        · rw [e]
          exact lt
        · exact ltS_trans lt (h1 y e)
      · rename_i nl
        refine List.pairwise_cons.mpr ⟨fun y hy => ?_, asc_insS h2⟩
        rcases mem_insS.mp hy with e | e
        · rw [e]
          exact ltS_of (by simpa using nl) (fun q => ne q.symm)
        · exact h1 y e
theorem asc_ascS : ∀ l : List Str, AscS (ascS l)
  | [] => List.Pairwise.nil
  | k :: l => asc_insS (asc_ascS l)
theorem ascS_ext {l m : List Str} (h : AscS l) (k : AscS m) (e : ∀ x, x ∈ l ↔ x ∈ m) : l = m := asc_ext (lt := fun a b => ltS a b = true) (fun a => by rw [ltS_irrefl]; exact Bool.false_ne_true) (fun _ _ _ a b => ltS_trans a b) h k e
theorem ascS_of {l m : List Str} (h : AscS l) (e : ∀ x, x ∈ l ↔ x ∈ m) : l = ascS m := ascS_ext h (asc_ascS m) fun x => by rw [e, mem_ascS]
theorem ascS_sorted {l m : List Str} (hs : sortedS l = true) (nd : l.Nodup) (e : ∀ x, x ∈ l ↔ x ∈ m) : l = ascS m := ascS_of (sorted_all hs nd) e
section
variable {F : FmKit} {T : Kx} {C H H' O O' : Hp} {G : Gm} {W W' : Om} {R : D → Om → Prop} {d : D} {w : World} {te to : TE}
theorem den_strs (ks : List Str) : DenL F T H (ks.map D.str) (ks.map V.str) := by
  have := DenL.vls (F := F) (T := T) (H := H) (ks.map V.str)
  rw [List.map_map] at this
  exact this
theorem den_strs_inv {ks : List Str} {xs : List V} (kl : DenL F T H (ks.map D.str) xs) : xs = ks.map V.str := by
  rw [show ks.map D.str = (ks.map V.str).map D.vl by rw [List.map_map]; rfl] at kl
  exact DenL.vls_inv kl
/-- sep.join(texts) -/
theorem ev_join (h : Ev F T to G W fun d W1 => ∃ a : Str, d = .str a ∧ Ev F T te G W1 fun d2 W2 => ∃ ys : List Str, Vs W2 d2 (ys.map D.str) ∧ (ys.map (·.length)).sum + ys.length * a.length ≤ 16777216 ∧ R (.str (Txt.join a ys)) W2) :
    Ev F T (tM1 (fun x xs H Q => ∃ a p, ∃ ys : List Str, x = .str a ∧ xs = [.ref p] ∧ (SqL T.K H p (ys.map V.str) ∨ SqT T.K H p (ys.map V.str)) ∧ (ys.map (·.length)).sum + ys.length * a.length ≤ 16777216 ∧ Q (.str (Txt.join a ys)) H) to te) G W R := fun C H O σ w Q q =>
  h C H O σ w _ fun d W1 H1 O1 x ⟨a, e, h1⟩ n1 k1 => by
    subst e
    have k1 : x = .str a := k1
    refine ⟨⟨a, k1⟩, h1 C H1 O1 σ (w.step n1) _ fun d2 W2 H2 O2 y ⟨ys, hv, hz, r⟩ n2 k2 => ?_⟩
    obtain ⟨p, xs, e, hs, kl⟩ := hv.sq n2.own n2.dis k2
    rw [den_strs_inv kl] at hs
    exact ⟨a, p, ys, k1, by rw [e], hs, hz, q _ W2 H2 O2 _ r (n1.trans n2) rfl⟩
end
theorem ltS_sign (a b : Nat) : ltS ⟨#[a]⟩ ⟨#[b]⟩ = decide (a < b) := by simp [ltS, ltCps]
def sg (c : Nat) : Str := ⟨#[c]⟩
theorem sg_inj {a b : Nat} (h : sg a = sg b) : a = b := by
  have : [a] = [b] := congrArg (fun z : Str => z.cps.toList) h
  exact (List.cons.inj this).1
theorem insS_sg (c : Nat) : ∀ l : List Nat, insS (sg c) (l.map sg) = (insN c l).map sg
  | [] => rfl
  | m :: r => by
    rw [List.map_cons, insS, insN]
    by_cases e : c = m
    · subst e
      rw [if_pos rfl, if_pos rfl]
      rfl
    · rw [if_neg (fun h => e (sg_inj h)), if_neg e]
      by_cases lt : c < m
      · rw [if_pos (by rw [show ltS (sg c) (sg m) = decide (c < m) from ltS_sign c m]; simpa using lt), if_pos lt]
        rfl
      · rw [if_neg (by rw [show ltS (sg c) (sg m) = decide (c < m) from ltS_sign c m]; simpa using lt), if_neg lt, insS_sg c r]
        rfl
theorem ascS_sg : ∀ l : List Nat, ascS (l.map sg) = (l.foldr insN []).map sg
  | [] => rfl
  | c :: l => by
    show insS (sg c) (ascS (l.map sg)) = _
    rw [ascS_sg l, insS_sg]
    rfl
theorem join_nil_sg : ∀ l : List Nat, Txt.join "" (l.map sg) = ⟨l.toArray⟩ := fun l => by
  rw [show Txt.join "" (l.map sg) = Str.join "" (l.map sg) from PySem.StrLaws.glued_eq_join _ _]
  induction l with
  | nil => rfl
  | cons a l ih =>
    cases l with
    | nil => rfl
    | cons b r =>
      show (sg a ++ ("" : Str) ++ Str.join "" ((b :: r).map sg)) = _
      rw [ih]
      refine str_ext ?_
      rw [str_app, str_app]
      rfl
theorem insN_mem {c x : Nat} : ∀ {l : List Nat}, x ∈ insN c l ↔ x = c ∨ x ∈ l
  | [] => by simp [insN]
  | m :: r => by
    unfold insN
    split
    · rename_i e
      subst e
      simp
    · split
      · simp
      · rw [List.mem_cons, insN_mem, List.mem_cons]
        constructor
        · rintro (h | h | h)
          · exact .inr (.inl h)
          · exact .inl h
          · exact .inr (.inr h)
        · rintro (h | h | h)
          · exact .inr (.inl h)
          · exact .inl h
          · exact .inr (.inr h)
def ascN (l : List Nat) : List Nat := l.foldr insN []
theorem mem_ascN {x : Nat} : ∀ {l : List Nat}, x ∈ ascN l ↔ x ∈ l
  | [] => by simp [ascN]
  | k :: l => by
    show x ∈ insN k (ascN l) ↔ _
    rw [insN_mem, mem_ascN, List.mem_cons]
theorem asc_insN {k : Nat} : ∀ {l : List Nat}, l.Pairwise (· < ·) → (insN k l).Pairwise (· < ·)
  | [], _ => by simp [insN]
  | m :: r, h => by
    obtain ⟨h1, h2⟩ := List.pairwise_cons.mp h
    unfold insN
    split
    · exact h
    · rename_i ne
      split
      · rename_i lt
        refine List.pairwise_cons.mpr ⟨fun y hy => ?_, h⟩
        rcases List.mem_cons.mp hy with e | e
        · rw [e]
          exact lt
        · exact Nat.lt_trans lt (h1 y e)
      · rename_i nl
        refine List.pairwise_cons.mpr ⟨fun y hy => ?_, asc_insN h2⟩
        rcases insN_mem.mp hy with e | e
        · rw [e]
          omega
        · exact h1 y e
theorem asc_ascN : ∀ l : List Nat, (ascN l).Pairwise (· < ·)
  | [] => List.Pairwise.nil
  | k :: l => asc_insN (asc_ascN l)
theorem ascN_ext {l m : List Nat} (h : l.Pairwise (· < ·)) (k : m.Pairwise (· < ·)) (e : ∀ x, x ∈ l ↔ x ∈ m) : l = m := asc_ext (fun a => Nat.lt_irrefl a) (fun _ _ _ a b => Nat.lt_trans a b) h k e
/-- the letters of a text -/
abbrev lets (x : Str) : List Nat := x.cps.toList
end N
set_option Elab.async false
set_option linter.all false
set_option maxRecDepth 100000
namespace N
open PySem PySem.Spec PyProof.Rows L2
open C8 (InsC)
/-- the class Formula as the top has made it -/
structure CZ (K : PySem.W.Frag) (C : Addr) (ns : List Str) : Prop where
  cls : Cls K C
  nos : ∀ n ∈ ns, NoAttr K C n
  ins : InsC K C
  sf : PySem.W.selfFirst K C = true
  ist : PySem.W.kitOne K (.type "str") (.ref C) = some false
abbrev FZ (K : PySem.W.Frag) (C : Addr) : Prop := CZ K C fmNames
inductive FldF : Str → Fm → D → Prop
  | kind (f : Fm) : FldF "kind" f (.str f.kind)
  | parts (f : Fm) : FldF "parts" f (.tup (partsD f))
  | many (f : Fm) : FldF "many" f (.int (f.many : Nat))
  | deep (f : Fm) : FldF "deepest" f (.int (f.deep : Nat))
  | atoms (f : Fm) : FldF "atoms" f (.str f.atoms)
  | bare (f : Fm) : FldF "bare" f (.str f.outer)
  | spell (f : Fm) : FldF "spelled" f (.str f.spell)
  | alls (f : Fm) : FldF "alls_known" f (.tup (f.alls.map .fm))
theorem FldF.look {n : Str} {f : Fm} {z : D} (h : FldF n f z) : n ∈ fmNames ∧ (fmNames.zip (fmVals FK f)).lookup n = some z := by
  cases h <;> exact ⟨by decide +kernel, rfl⟩
section
variable {T : Kx} {C H H' O O' : Hp} {G : Gm} {W W' : Om} {σ : L2.St} {a p : Addr} {d : D} {l : List D} {ta : TE} {R : D → Om → Prop}
theorem ev_fmF {n : Str} (zf : FZ T.K (T.cl 0)) (h : Ev FK T ta G W fun d W1 => ∃ f z, d = .fm f ∧ FldF n f z ∧ R z W1) : Ev FK T (tFld T.K ta n) G W R :=
  ev_fld (h.imp fun d W1 ⟨f, z, e, k, r⟩ => by
    subst e
    exact ⟨0, fmNames, fmVals FK f, z, .fm f, zf.cls, zf.nos n k.look.1, k.look.2, r⟩)
/-- something with a text -/
def Spl (W : Om) (d : D) (g : Fm) : Prop := ∃ ns l, Inst FK W d 0 ns l ∧ (ns.zip l).lookup ("spelled" : Str) = some (.str g.spell)
theorem Spl.up {W2 : Om} {g : Fm} (h : Spl W d g) (s : ∀ x ∈ W, x ∈ W2) : Spl W2 d g := by
  obtain ⟨ns, l, i, e⟩ := h
  refine ⟨ns, l, ?_, e⟩
  cases i with
  | fm f => exact .fm f
  | obj c ns l => exact .obj _ _ _
  | own a c ns l m => exact .own _ _ _ _ (s _ m)
end
namespace Fm
theorem nodup_asc {l : List Fm} (h : asc l) : l.Nodup := h.imp fun {a b} k e => by
  subst e
  exact ltF_irrefl _ k
theorem len_le {l m : List Fm} (h : l.Nodup) (s : ∀ x ∈ l, x ∈ m) : l.length ≤ m.length := by
  induction l generalizing m with
  | nil => exact Nat.zero_le _
  | cons a l ih =>
    rw [List.nodup_cons] at h
    obtain ⟨p, q, e⟩ := List.append_of_mem (s a List.mem_cons_self)
    subst e
    have := ih (m := p ++ q) h.2 fun x hx => by
      have h1 := s x (List.mem_cons_of_mem _ hx)
      rw [List.mem_append, List.mem_cons] at h1
      rw [List.mem_append]
      rcases h1 with h1 | h1 | h1
      · exact .inl h1
      · subst h1
        exact absurd hx h.1
      · exact .inr h1
    simp at this ⊢
    omega
/-- small enough for the walk -/
structure okF (f : Fm) : Prop where
  ok : f.okL
  sz : f.sz ≤ 1000000
  alls : f.alls.length < 64
theorem okF.l {a b : Fm} (h : okF (.imp a b)) : okF a := ⟨h.ok.1, by have := h.sz; unfold Fm.sz at this; omega, Nat.lt_of_le_of_lt (len_le (nodup_asc (alls_sub h.ok.1).2) fun x hx => mem_merge.mpr (.inl hx)) h.alls⟩
theorem okF.r {a b : Fm} (h : okF (.imp a b)) : okF b := ⟨h.ok.2, by have := h.sz; unfold Fm.sz at this; omega, Nat.lt_of_le_of_lt (len_le (nodup_asc (alls_sub h.ok.2).2) fun x hx => mem_merge.mpr (.inr hx)) h.alls⟩
theorem okF.a {a : Fm} (h : okF (.all a)) : okF a := ⟨h.ok, by have := h.sz; unfold Fm.sz at this; omega, Nat.lt_of_le_of_lt (len_le (nodup_asc (alls_sub (f := a) h.ok).2) fun x hx => mem_merge.mpr (.inl hx)) h.alls⟩
end Fm
def isLet (x : Str) : Bool := match lets x with
  | [c] => decide ((65 ≤ c ∧ c ≤ 90) ∨ (97 ≤ c ∧ c ≤ 122))
  | _ => false
theorem isLet_sg (c : Nat) : isLet (sg c) = decide ((65 ≤ c ∧ c ≤ 90) ∨ (97 ≤ c ∧ c ≤ 122)) := rfl
theorem isLet_long {x : Str} (h : x.length ≠ 1) : isLet x = false := by
  unfold isLet
  split
  · rename_i c e
    rw [str_len, show x.cps.toList = [c] from e] at h
    exact absurd rfl h
  · rfl
theorem one_sign {x : Str} (h : x.length = 1) : ∃ c, x = sg c := by
  rw [str_len] at h
  match e : x.cps.toList, h with
  | [c], _ => exact ⟨c, str_ext e⟩
theorem in_letters (c : Nat) : decide (c ∈ ("ABCDEFGHIJKLMNOPQRSTUVWXYZabcdefghijklmnopqrstuvwxyz" : Str).cps.toList) = isLet (sg c) := by
  rw [isLet_sg]
  have e : ("ABCDEFGHIJKLMNOPQRSTUVWXYZabcdefghijklmnopqrstuvwxyz" : Str).cps.toList = List.range' 65 26 ++ List.range' 97 26 := by decide +kernel
  rw [e]
  congr 1
  rw [List.mem_append, List.mem_range'_1, List.mem_range'_1]
  simp only [eq_iff_iff]
  omega
def S_isatom : FS := fun ds W post => ∃ x : Str, ds = [.str x] ∧ W = [] ∧ x.length ≤ 16777216 ∧ post (.bl (isLet x)) []
def S_init : FS := fun ds W post => ∃ (x : Addr) (f : Fm), ds = [.adr x, .str f.kind, .tup (partsD f)] ∧ W = [(x, .ins 0 [] [])] ∧ f.okF ∧
  ∀ al, AllsD x f al f.alls → post .non [(x, .ins 0 fmNames [.str f.kind, .tup (partsD f), .int (f.many : Nat), .int (f.deep : Nat), .str f.atoms, .str f.outer, .str f.spell, .tup al])]
end N
set_option Elab.async false
set_option linter.all false
set_option maxRecDepth 100000
namespace N
open PySem PySem.Spec PyProof.Rows L2
theorem relV_ref (a : Addr) : RelV (.ref a) (.ref a) := rfl
theorem relV_ty (s : String) : RelV (.ty s) (.type s) := rfl
section
variable {X : Cx} {K : PySem.W.Frag}
theorem ix_listK (hK : X.K = K) : IxR X (rIxL K) := hK ▸ ix_list
theorem pg_tupK {pos : Pos} {es : List Expr} {k : Nat} {t : TGs} {n : Nat} (hK : X.K = K) (hc : X.calm = true) (h : PGs X es t) (h1 : (assignEach es X.env).length = n := by rfl) (h2 : List.findIdx? (fun x => x.1) (assignEach es X.env) = none := by rfl) : PG X (Expr.Tuple es k pos) (gTup K n t) := hK ▸ pg_tup hc h h1 h2
end
def tIfT (tc ta tb : TT) : TT := fun σ H Q => tc σ H fun c H1 => if c = true then ta σ H1 Q else tb σ H1 Q
theorem et_ifE {F : FmKit} {T : Kx} {tc ta tb : TT} {G : Gm} {W : Om} {S : Bool → Om → Prop} (h : EvT F T tc G W fun c W1 => if c = true then EvT F T ta G W1 S else EvT F T tb G W1 S) : EvT F T (tIfT tc ta tb) G W S := fun C H O σ w Q q =>
  h C H O σ w _ fun c W1 H1 O1 s n => by
    cases c with
    | true => exact s C H1 O1 σ (w.step n) _ fun b W2 H2 O2 s2 n2 => q b W2 H2 O2 s2 (n.trans n2)
    | false => exact s C H1 O1 σ (w.step n) _ fun b W2 H2 O2 s2 n2 => q b W2 H2 O2 s2 (n.trans n2)
end N
set_option Elab.async false
set_option linter.all false
set_option maxRecDepth 100000
namespace N
open PySem PySem.Spec PyProof.Rows L2
open C8 (InsC Cal)
section
variable {T : Kx} {C H H' O O' : Hp} {G : Gm} {W W' : Om} {σ : L2.St} {a p : Addr} {d : D} {l : List D} {ta : TE} {tr : TA} {R : D → Om → Prop} {S : FS} {E : XK}
/-- Formula(kind, ..) -/
theorem ev_mkF (h : EvA FK T tr G W fun ds W1 => ∃ f : Fm, ds = .str f.kind :: partsD f ∧ f.okF ∧ R (.fm f) W1) : Ev FK T (StX.tMakeR (T.cl 0) (spN FK T (starS 2 S_init)) E tr) G W R :=
  ev_fz (ev_makeR (fun C H O σ w Q q => h C H O σ w Q fun ds W1 H1 O1 vs ⟨f, e, hf, r⟩ n k => q ds W1 H1 O1 vs (fun x hx => by
    subst e
    refine ⟨[(x, .ins 0 [] [])], W1, List.Perm.refl _, by simp, ?_, x, f, rfl, rfl, hf, fun al ha => ⟨rfl, x, _, W1, .fm f, rfl, List.Perm.refl _, .fm f al ha, r⟩⟩
    have : (partsD f).length ≤ 2 := by cases f <;> simp [partsD]
    simp
    omega) n k))
theorem ev_inv (h : Ev FK T ta G W fun d W1 => ∃ f, d = .fm f ∧ Hand S [.fm f] W1 R) : Ev FK T (tUn (rOwn1 (T.cl 0) (spN FK T S) E) ta) G W R :=
  ev_un (h.imp fun d W1 ⟨f, e, hh⟩ => by
    subst e
    exact ca_own1 (.fm f) hh)
theorem ca_strF {f : Fm} (h : Hand S [.fm f] W fun d' W' => (∃ z, d' = .str z) ∧ R d' W') : Ca FK T (rStrO (T.cl 0) (spN FK T S)) [.fm f] W R := ca_strO (.fm f) h
theorem ev_prpF (h : Ev FK T ta G W fun d W1 => ∃ f, d = .fm f ∧ Hand S [.fm f] W1 R) : Ev FK T (tProp (T.cl 0) (spN FK T S) [] E ta) G W R :=
  ev_prop (h.imp fun d W1 ⟨f, e, hh⟩ => by
    subst e
    exact ⟨_, _, .fm f, hh⟩)
end
end N
set_option Elab.async false
set_option linter.all false
set_option maxRecDepth 100000
namespace N
open PySem PySem.Spec PyProof.Rows L2
def rMulS : R2 := fun x y H Q => ∃ (s : Str) (i : Int), x = .str s ∧ y = .int i ∧ s.length ≤ 16 ∧ 0 ≤ i ∧ i ≤ 1048576 ∧ Q (.str (Txt.mul s i)) H
theorem op_mul_str {X : Cx} : OpR X (binaryOp .Mult) rMulS := by
  intro pins s σ H x y v u Q I rx ry h
  obtain ⟨z, i, rfl, rfl, h1, h2, h3, q⟩ := h
  obtain ⟨t, rfl⟩ := rx
  obtain ⟨t2, rfl⟩ := ry
  exact PySem.SB.mul (mulOk_of 16 1048576 (by omega) (by omega) (by omega) (by decide) (by decide)) fun t3 k => ⟨.str (Txt.mul z i), H, I.tok _, ⟨t3, rfl⟩, q⟩
section
variable {F : FmKit} {T : Kx} {C H H' O O' : Hp} {G : Gm} {W W' : Om} {R : D → Om → Prop} {d : D}
theorem bo_mulS {x : Str} {n : Nat} (hl : n ≤ 1048576) (r : R (.str (Txt.mul x (n : Int))) W) (hx : x.length ≤ 16 := by decide) : Bo F T rMulS (.str x) (.int (n : Nat)) W R := op_sc fun H Q k => ⟨x, n, rfl, rfl, hx, by omega, by omega, k _ r⟩
theorem bo_inSg {c : Nat} {z : Str} (r : R (.bl (decide (c ∈ z.cps.toList))) W) : Bo F T (fun x y H Q => ∃ (c : Nat) (z : Str), x = .str ⟨#[c]⟩ ∧ y = .str z ∧ Q (.bl (decide (c ∈ z.cps.toList))) H) (.str (sg c)) (.str z) W R := op_sc fun H Q k => ⟨c, z, rfl, rfl, k _ r⟩
end
end N
set_option Elab.async false
set_option linter.all false
set_option maxRecDepth 100000
namespace N
open PySem PySem.Spec PyProof.Rows L2
open C8 (Cal)
structure Ok1 (k n : Nat) (d : PyData) : Prop where
  lv : PyData.leavesShort 13 d = true
  sh : d.showable = true
  nd : d.hasDict = false
  dp : d.depth ≤ k
  wt : d.weight ≤ n
theorem ok_all {k n : Nat} : ∀ {l : List PyData}, (∀ d ∈ l, Ok1 k n d) → PyData.leavesShortAll 13 l = true ∧ PyData.showableAll l = true ∧ PyData.hasDictAll l = false ∧ PyData.depthAll l ≤ k ∧ PyData.weightAll l ≤ l.length * (n + 1)
  | [], _ => ⟨rfl, rfl, rfl, Nat.zero_le _, by simp [PyData.weightAll]⟩
  | d :: l, h => by
    have h1 := h d List.mem_cons_self
    obtain ⟨h2, h3, h4, h5, h6⟩ := ok_all (l := l) fun x hx => h x (List.mem_cons_of_mem _ hx)
    refine ⟨by simp [PyData.leavesShortAll, h1.lv, h2], by simp [PyData.showableAll, h1.sh, h3], by simp [PyData.hasDictAll, h1.nd, h4], ?_, ?_⟩
    · have := h1.dp
      simp only [PyData.depthAll]
      omega
    · have := h1.wt
      simp only [PyData.weightAll, List.length_cons, Nat.succ_mul]
      omega
theorem ok_lst {k n : Nat} {l : List PyData} (h : ∀ d ∈ l, Ok1 k n d) : Ok1 (k + 1) (l.length * (n + 1) + 1) (.list l) := by
  obtain ⟨h2, h3, h4, h5, h6⟩ := ok_all h
  refine ⟨by simp [PyData.leavesShort, h2], by simp [PyData.showable, h3], by simp [PyData.hasDict, h4], ?_, ?_⟩
  · simp only [PyData.depth]
    omega
  · simp only [PyData.weight]
    omega
theorem Ok1.up {k n k' n' : Nat} {d : PyData} (h : Ok1 k n d) (hk : k ≤ k') (hn : n ≤ n') : Ok1 k' n' d := ⟨h.lv, h.sh, h.nd, Nat.le_trans h.dp hk, Nat.le_trans h.wt hn⟩
theorem Ok1.shwB {k n : Nat} {d : PyData} (h : Ok1 k n d) (hk : k ≤ 30) (hn : n ≤ 1000000) : Shw d := ⟨h.sh, h.nd, Nat.le_trans h.dp hk, by
  have h1 := PyData.shown_le 13 (by decide) d h.lv
  have h2 := h.wt
  have := sizeLine_eq
  omega⟩
/-- data one behind the other -/
structure OkL (k n : Nat) (l : List PyData) : Prop where
  lv : PyData.leavesShortAll 13 l = true
  sh : PyData.showableAll l = true
  nd : PyData.hasDictAll l = false
  dp : PyData.depthAll l ≤ k
  wt : PyData.weightAll l ≤ n
theorem OkL.lst {k n : Nat} {l : List PyData} (h : OkL k n l) : Ok1 (k + 1) n (.list l) := by
  refine ⟨by simp [PyData.leavesShort, h.lv], by simp [PyData.showable, h.sh], by simp [PyData.hasDict, h.nd], ?_, ?_⟩
  · have := h.dp
    simp only [PyData.depth]
    omega
  · have := h.wt
    simp only [PyData.weight]
    omega
theorem OkL.tup {k n : Nat} {l : List PyData} (h : OkL k n l) : Ok1 (k + 1) n (.tuple l) := by
  refine ⟨by simp [PyData.leavesShort, h.lv], by simp [PyData.showable, h.sh], by simp [PyData.hasDict, h.nd], ?_, ?_⟩
  · have := h.dp
    simp only [PyData.depth]
    omega
  · have := h.wt
    simp only [PyData.weight]
    omega
theorem OkL.up {k n k' n' : Nat} {l : List PyData} (h : OkL k n l) (hk : k ≤ k') (hn : n ≤ n') : OkL k' n' l := ⟨h.lv, h.sh, h.nd, Nat.le_trans h.dp hk, Nat.le_trans h.wt hn⟩
theorem ok_intL {i : Int} (h : i.natAbs < 10 ^ 12) : Ok1 0 41 (.int i) := by
  have h2 : i.natAbs.log2 < 40 := by
    rcases Nat.eq_zero_or_pos i.natAbs with e | e
    · rw [e]
      decide
    · rw [Nat.log2_lt (by omega)]
      omega
  refine ⟨?_, ?_, rfl, Nat.le_refl _, ?_⟩
  · simp only [PyData.leavesShort, decide_eq_true_eq]
    have := int_text_length_le10 (a := i) (k := 12) (by omega) h
    show (Str.ofString (toString i)).length ≤ 13
    rw [PySem.ofString_length]
    exact this
  · simp only [PyData.showable, decide_eq_true_eq]
    omega
  · simp only [PyData.weight]
    split <;> omega
theorem ok_str {x : Str} (h : ∀ c ∈ lets x, c < 16 ^ 8) : Ok1 0 x.length (.str x) := by
  refine ⟨?_, rfl, rfl, Nat.le_refl _, Nat.le_refl _⟩
  simp only [PyData.leavesShort, List.all_eq_true, decide_eq_true_eq]
  exact h
section
variable {F : FmKit} {T : Kx} {C H H' O O' : Hp} {G : Gm} {W W' : Om} {R : D → Om → Prop} {d e : D} {l m : List D} {te : TE} {t : TT}
theorem ei_imp {wi : TI} {Y Z : List D → Om → Prop} (h : EvI F T wi G W Y) (i : ∀ l W', Y l W' → Z l W') : EvI F T wi G W Z := fun C H O σ w Q q => h C H O σ w Q fun J ds W' H' O' y => q J ds W' H' O' (i _ _ y)
/-- list, tuple or text by a place -/
theorem bo_ixSq {i : Int} {z : D} (hv : Vs W d l) (hi : atI l i = some z) (r : R z W) : Bo F T (rIx T.K) d (.int i) W R := fun C H O di oc ow x y hx hy Q q => by
  obtain ⟨a, xs, e, hs, kl⟩ := hv.sq ow di hx
  have hy : y = .int i := hy
  obtain ⟨v, ev, kv⟩ := kl.atI hi
  subst e hy
  rcases hs with hs | hs
  · exact .inl ⟨a, xs, i, v, rfl, rfl, hs, ev, q z W H O v r (.refl di oc ow) kv⟩
  · exact .inr (.inl ⟨a, xs, i, v, rfl, rfl, hs, ev, q z W H O v r (.refl di oc ow) kv⟩)
theorem bo_ixSqS {i : Int} {x : Str} {c : Nat} (hl : x.length ≤ sizeLine) (hi : atI (lets x) i = some c) (r : R (.str (sg c)) W) : Bo F T (rIx T.K) (.str x) (.int i) W R := op_sc fun H Q k => .inr (.inr ⟨x, i, c, rfl, rfl, hl, hi, k _ r⟩)
/-- lists joined, frozen -/
theorem bo_cat (h1 : Vt W d l) (h2 : Vt W e m) (hl : l.length + m.length ≤ sizeLine) (r : R (.lst (l ++ m)) W) : Bo F T rCat d e W R := fun C H O di oc ow x y hx hy Q k => by
  obtain ⟨a, us, ea, ha, ku⟩ := h1.at ow di hx
  obtain ⟨b, vs, eb, hb, kv⟩ := h2.at ow di hy
  refine ⟨a, b, us, vs, ea, eb, ha, hb, by rw [ku.len, kv.len]; exact hl, fun z hz => ?_⟩
  obtain ⟨n2, e2, s2⟩ := (Nx.refl (F := F) (T := T) di oc ow).newF (o := .lst (us ++ vs)) hz
  rw [e2]
  exact k _ _ _ _ _ r n2 ⟨z, _, rfl, upd_same, (ku.mono s2).app (kv.mono s2)⟩
/-- a comprehension, frozen -/
theorem ev_lcF {vs : List Nat} {wi : TI} {g : TG} (h : EvI F T wi G W fun ds W1 => ∃ I : Nat → List D → Om → Prop, I 0 [] W1 ∧
      (∀ i d acc W', ds[i]? = some d → I i acc W' → Tw F T vs g d (wipeG G vs) fun G2 => EvT F T t G2 W' fun b W2 => if b = true then Ev F T te G2 W2 (fun z W3 => acc.length < sizeLine ∧ I (i + 1) (acc ++ [z]) W3) else I (i + 1) acc W2) ∧
      (∀ acc W', I ds.length acc W' → R (.lst acc) W')) : Ev F T (tLc wi g t te vs) G W R :=
  ev_fz (ev_lc (ei_imp h fun ds W1 ⟨I, h1, h2, h3⟩ => ⟨I, h1, h2, fun acc W' hi p hp => ⟨p, _, W', _, rfl, List.Perm.refl _, .lst _, h3 acc W' hi⟩⟩))
/-- .. each item by itself -/
theorem ev_lcM {vs : List Nat} {wi : TI} {g : TG} (h : EvI F T wi G W fun ds W1 => ∃ es : List D, (∀ (i : Nat) (d e : D), ds[i]? = some d → es[i]? = some e → Tw F T vs g d (wipeG G vs) fun G2 => EvT F T t G2 W1 fun b W2 => b = true ∧ Ev F T te G2 W2 (fun z W3 => z = e ∧ W3 = W1)) ∧ es.length = ds.length ∧ es.length ≤ sizeLine ∧ R (.lst es) W1) : Ev F T (tLc wi g t te vs) G W R :=
  ev_lcF (ei_imp h fun ds W1 ⟨es, h3, h1, h2, h4⟩ => ⟨fun i acc W' => W' = W1 ∧ acc = es.take i, ⟨rfl, by simp⟩, fun i d acc W' hd ⟨e1, e2⟩ => by
    subst e1 e2
    have hi : i < ds.length := (List.getElem?_eq_some_iff.mp hd).1
    have he : es[i]? = some es[i] := List.getElem?_eq_getElem (by omega)
    refine fun H H1 σ v lo s k Q q => h3 i d es[i] hd he H H1 σ v lo s k Q fun G2 σ2 et l2 w2 => q G2 σ2 (fun C H O σ w Q q => et C H O σ w Q fun b W2 H2 O2 ⟨e, ev⟩ n => q b W2 H2 O2 ?_ n) l2 w2
    subst e
    rw [if_pos rfl]
    refine ev.imp fun z W3 ⟨e1, e2⟩ => ⟨by rw [List.length_take]; omega, e2, ?_⟩
    rw [e1, List.take_add_one, he]
    rfl, fun acc W' ⟨e1, e2⟩ => by
    subst e1 e2
    rw [← h1, List.take_length]
    exact h4⟩)
/-- .. with a test -/
theorem ev_lcP {vs : List Nat} {wi : TI} {g : TG} (h : EvI F T wi G W fun ds W1 => ∃ es : List (Bool × D), (∀ (i : Nat) (d : D) (e : Bool × D), ds[i]? = some d → es[i]? = some e → Tw F T vs g d (wipeG G vs) fun G2 => EvT F T t G2 W1 fun b W2 => b = e.1 ∧ if b = true then Ev F T te G2 W2 (fun z W3 => z = e.2 ∧ W3 = W1) else W2 = W1) ∧ es.length = ds.length ∧ es.length ≤ sizeLine ∧ R (.lst ((es.filter (·.1)).map (·.2))) W1) : Ev F T (tLc wi g t te vs) G W R :=
  ev_lcF (ei_imp h fun ds W1 ⟨es, h3, h1, h2, h4⟩ => ⟨fun i acc W' => W' = W1 ∧ acc = ((es.take i).filter (·.1)).map (·.2), ⟨rfl, by simp⟩, fun i d acc W' hd ⟨e1, e2⟩ => by
    subst e1 e2
    have hi : i < ds.length := (List.getElem?_eq_some_iff.mp hd).1
    have he : es[i]? = some es[i] := List.getElem?_eq_getElem (by omega)
    refine fun H H1 σ v lo s k Q q => h3 i d es[i] hd he H H1 σ v lo s k Q fun G2 σ2 et l2 w2 => q G2 σ2 (fun C H O σ w Q q => et C H O σ w Q fun b W2 H2 O2 ⟨e, ev⟩ n => q b W2 H2 O2 ?_ n) l2 w2
    have hf : ((es.take (i + 1)).filter (·.1)) = (es.take i).filter (·.1) ++ if es[i].1 = true then [es[i]] else [] := by
      rw [List.take_add_one, he, List.filter_append]
      congr 1
      simp only [Option.toList_some, List.filter_cons, List.filter_nil]
    have hl : (((es.take i).filter (·.1)).map (·.2)).length < sizeLine := by
      have := List.length_filter_le (fun z : Bool × D => z.1) (es.take i)
      rw [List.length_take] at this
      rw [List.length_map]
      omega
    cases b with
    | true =>
      rw [if_pos rfl] at ev
      refine if_so rfl ?_
      refine ev.imp fun z W3 ⟨e1, e2⟩ => ⟨hl, e2, ?_⟩
      rw [hf, if_pos e.symm, List.map_append, e1]
      rfl
    | false =>
      rw [if_neg Bool.false_ne_true] at ev
      refine if_not rfl ?_
      refine ⟨ev, ?_⟩
      rw [hf, if_neg (by rw [← e]; exact Bool.false_ne_true), List.append_nil], fun acc W' ⟨e1, e2⟩ => by
    subst e1 e2
    rw [← h1, List.take_length]
    exact h4⟩)
end
theorem cut63 {xs : List D} (h : xs.length ≤ 63) : cutD xs none (some 63) = xs := by
  unfold cutD
  have e1 : HT.sIx xs.length 0 none = 0 := rfl
  have e2 : HT.sIx xs.length xs.length (some 63) = min 63 xs.length := HT.sIx_nat _ _ 63
  rw [e1, e2, List.drop_zero]
  exact List.take_of_length_le (by omega)
/-- a deck at a, c draws done, all that belongs to it in W -/
abbrev Deck := Addr → Int → Om → Prop
abbrev kS (s : Str) : Key := Sum.inr s
@[reducible] def dkA (a l : Addr) (cells : List Int) (s c : Int) : Om := [(a, .dp [(kS "great", .adr l), (kS "mixed", .int s), (kS "lap", .int c)]), (l, .lst (cells.map D.int))]
def DkA : Deck := fun a c W => ∃ (l : Addr) (cells : List Int) (s n : Int), W = dkA a l cells s n ∧ cells.length ≤ 64 ∧ 0 ≤ n ∧ n ≤ c
def S_deck (Dk : Deck) : FS := fun ds W post => ∃ ns : List Int, ds = [.scr (ns.map V.int)] ∧ W = [] ∧ ns.length ≤ 63 ∧ ∀ (a : Addr) (W' : Om), Dk a 0 W' → post (.adr a) W'
def S_draw (Dk : Deck) : FS := fun ds W post => ∃ (a : Addr) (c n : Int), ds = [.adr a, .int n] ∧ Dk a c W ∧ 0 < n ∧ n < 1073741824 ∧ c < 2 ^ 60 ∧
  ∀ (z : Int) (W' : Om), 0 ≤ z → z < n → Dk a (c + 1) W' → post (.int z) W'
def S_pick (Dk : Deck) : FS := fun ds W post => ∃ (a : Addr) (c : Int) (m : D), ds = [.adr a, m] ∧ Dk a c W ∧ c < 2 ^ 60 ∧
  ((∃ l : List D, (m = .lst l ∨ m = .tup l) ∧ l ≠ [] ∧ l.length ≤ 1000000 ∧ ∀ z ∈ l, ∀ W', Dk a (c + 1) W' → post z W') ∨
   ∃ x : Str, m = .str x ∧ x.length ≠ 0 ∧ x.length ≤ 1000000 ∧ ∀ q ∈ lets x, ∀ W', Dk a (c + 1) W' → post (.str (sg q)) W')
theorem at_of_draw {α : Type} {l : List α} {z : Int} (h0 : 0 ≤ z) (h1 : z < l.length) : ∃ y ∈ l, atI l z = some y := by
  have hz : z.toNat < l.length := by omega
  refine ⟨l[z.toNat], List.getElem_mem hz, ?_⟩
  unfold atI ixN
  rw [if_pos h0, if_pos h1]
  simp [hz]
/-- what is asked of law: a list of at most 63 ints in, True out -/
def spTop (K : PySem.W.Frag) : Sp := fun vs H Q _ => ∃ (a : Addr) (ns : List Int), vs = [.ref a] ∧ SqL K H a (ns.map V.int) ∧ ns.length ≤ 63 ∧ ∀ H', Q (.bl true) H'
def S_law : FS := fun ds W post => ∃ ns : List Int, ds = [.scr (ns.map V.int)] ∧ W = [] ∧ ns.length ≤ 63 ∧ ∀ W', post (.bl true) W'
theorem top_sp {K : PySem.W.Frag} {cl : Nat → Addr} {vs : List V} {H : Hp} {Q : VK} {E : XK} (h : spTop K vs H Q E) : spN FK ⟨K, cl⟩ S_law vs H Q E := by
  obtain ⟨a, ns, rfl, hs, hl, q⟩ := h
  refine ⟨[.scr (ns.map V.int)], [], fun _ => none, H, fun _ => none, fun d W' => d = .bl true, ?_, ?_, fun _ _ e => e, ⟨List.nodup_nil, fun _ _ h => by cases h⟩, ⟨_, _, rfl, ⟨a, rfl, hs⟩, rfl⟩, ⟨ns, rfl, rfl, hl, fun W' => rfl⟩, fun d W' H' O' v e n kd => ?_⟩
  · funext b
    rfl
  · intro b o e
    cases e
  · subst e
    have kd : v = .bl true := kd
    subst kd
    exact q _
end N
set_option Elab.async false
set_option linter.all false
set_option maxRecDepth 100000
namespace L2
open PySem PySem.Spec PyProof.Rows
end L2
namespace N
open PySem L2
theorem ev_neg {F : FmKit} {T : Kx} {G : Gm} {W : Om} {R : D → Om → Prop} {ta : TE} {g : Int → V} (h : Ev F T ta G W fun d W1 => ∃ i : Int, d = .int i ∧ R (.vl (g i)) W1) : Ev F T (tUn (rU g) ta) G W R :=
  ev_un (h.imp fun d W1 ⟨i, e, r⟩ => by
    subst e
    exact cl_sc (xs := [.int i]) fun H Q k => ⟨.int i, rfl, i, rfl, k _ r⟩)
end N
set_option Elab.async false
set_option linter.all false
set_option maxRecDepth 100000
namespace N
open PySem PySem.Spec PyProof.Rows L2
section
variable (F : FmKit) (T : Kx)
def EvPs : List (TE × TE) → Gm → Om → List (Key × D) → (List (Key × D) → Om → Prop) → Prop
  | [], _, W, acc, Y => Y acc W
  | (tk, tv) :: r, G, W, acc, Y => Ev F T tk G W fun y W1 => Ev F T tv G W1 fun z W2 => ∃ k, y = kD k ∧ EvPs r G W2 (acc ++ [(k, z)]) Y
end
def mergeG (ps : List (Key × D)) : List (Key × D) := ps.foldl (fun acc kv => putG acc kv.1 kv.2) []
section
variable {F : FmKit} {T : Kx} {C H H' O O' : Hp} {G : Gm} {W W' : Om} {R : D → Om → Prop} {σ : L2.St} {d e : D} {l m : List D} {te : TE} {t : TT}
theorem EvPs.run {Y : List (Key × D) → Om → Prop} : ∀ {trs : List (TE × TE)} {acc : List (Key × D)} {W : Om} {H O : Hp}, EvPs F T trs G W acc Y → Wd F T C G W H O σ → ∀ Q : List (V × V) → Hp → Prop,
    (∀ (ps : List (Key × D)) (kvs : List (Key × V)) W' H' O', Y (acc ++ ps) W' → Nx F T C W' H H' O' → kvs.map (·.1) = ps.map (·.1) → DenL F T H' (ps.map (·.2)) (kvs.map (·.2)) → ps.length = trs.length → Q (kvs.map fun kv => (kV kv.1, kv.2)) (ov O' H')) → tPairs trs σ (ov O H) Q
  | [], acc, W, H, O, h, w, Q, q => q [] [] W H O (by rw [List.append_nil]; exact h) w.nx rfl rfl rfl
  | (tk, tv) :: r, acc, W, H, O, h, w, Q, q => h C H O σ w _ fun y W1 H1 O1 yv h1 n1 k1 => h1 C H1 O1 σ (w.step n1) _ fun z W2 H2 O2 zv ⟨k, ek, h2⟩ n2 k2 => by
    subst ek
    have k1 : yv = kV k := k1
    subst k1
    refine EvPs.run h2 ((w.step n1).step n2) _ fun ps kvs W' H' O' y n3 e1 e2 e3 => ?_
    refine q ((k, z) :: ps) ((k, zv) :: kvs) W' H' O' (by simpa using y) ((n1.trans n2).trans n3) (by simp [e1]) ⟨zv, _, rfl, k2.mono n3.ext, e2⟩ (by simp [e3])
theorem mergeK_keys : ∀ {ps : List (Key × D)} {kvs : List (Key × V)} {acc : List (Key × D)} {av : List (Key × V)}, kvs.map (·.1) = ps.map (·.1) → av.map (·.1) = acc.map (·.1) → (acc.map (·.1)).Nodup → DenL F T H (ps.map (·.2)) (kvs.map (·.2)) → DenL F T H (acc.map (·.2)) (av.map (·.2)) →
    (mergeK av kvs).map (·.1) = (ps.foldl (fun acc kv => putG acc kv.1 kv.2) acc).map (·.1) ∧ ((ps.foldl (fun acc kv => putG acc kv.1 kv.2) acc).map (·.1)).Nodup ∧ DenL F T H ((ps.foldl (fun acc kv => putG acc kv.1 kv.2) acc).map (·.2)) ((mergeK av kvs).map (·.2))
  | [], [], acc, av, _, e, nd, _, k => ⟨e, nd, k⟩
  | [], _ :: _, _, _, h, _, _, _, _ => by simp at h
  | _ :: _, [], _, _, h, _, _, _, _ => by simp at h
  | (k, z) :: ps, (j, v) :: kvs, acc, av, h, e, nd, ⟨w, r, e1, k1, k2⟩, ka => by
    simp only [List.map_cons, List.cons.injEq] at h e1
    obtain ⟨h1, h2⟩ := h
    obtain ⟨e1, e2⟩ := e1
    subst h1 e1 e2
    exact mergeK_keys (ps := ps) (kvs := kvs) (acc := putG acc j z) (av := putK av j v) h2 ((putG_V av j v) ▸ putG_keys (z := v) (y := z) e) (putG_nodup nd) k2 ((putG_V av j v) ▸ putG_den k1 e ka)
/-- {k: e, ..} -/
theorem ev_disp {trs : List (TE × TE)} (h : EvPs F T trs G W [] fun ps W' => ps.length ≤ 15 ∧ ∀ p, p ∉ akeys W' → R (.adr p) ((p, .dp (mergeG ps)) :: W')) : Ev F T (tDisp trs) G W R := fun C H O σ w Q q p hp => by
  obtain ⟨n0, e0, cp⟩ := w.nx.hide (o := .dK []) hp
  rw [e0]
  refine EvPs.run h ⟨n0.dis, n0.oc, w.loc, n0.own⟩ _ fun ps kvs W' H' O' y n e1 e2 e3 => ?_
  have hO : ov O' H' p = some (.dK []) := ov_own (n.oc p _ upd_same)
  have hl : kvs.length = ps.length := by
    have := congrArg List.length e1
    rwa [List.length_map, List.length_map] at this
  obtain ⟨y1, y2⟩ := y
  refine ⟨hO, kvs, rfl, by rw [hl]; exact y1, ?_⟩
  obtain ⟨n6, e6⟩ := Nx.rehide (o' := .dK (mergeK [] kvs)) n cp
  rw [e6]
  obtain ⟨m1, m2, m3⟩ := mergeK_keys (F := F) (T := T) (H := H') (acc := []) (av := []) e1 rfl List.nodup_nil e2 (show DenL F T H' (([] : List (Key × D)).map (·.2)) (([] : List (Key × V)).map (·.2)) from rfl)
  obtain ⟨n7, np⟩ := n6.show (od := .dp (mergeG ps)) cp ⟨mergeK [] kvs, rfl, m1, m2, m3⟩
  exact q (.adr p) _ H' _ _ (y2 p np) n7 rfl
theorem ca_slF {lo hi : Option Int} (hv : Vl W d l) (r : R (.lst (cutD l lo hi)) W) : Ca F T (fun xs H Q => ∃ x, xs = [x] ∧ rSlL T.K x lo hi H Q) [d] W R :=
  ca_fz (ca_slL hv fun p hp => ⟨p, _, W, _, rfl, List.Perm.refl _, .lst _, r⟩)
theorem ev_revF (h : Ev F T te G W fun d W1 => ∃ l, Vl W1 d l ∧ R (.lst l.reverse) W1) : Ev F T (tRevL T.K te) G W R :=
  ev_fz (ev_revL (h.imp fun d W1 ⟨l, hv, r⟩ => ⟨l, hv, fun p hp => ⟨p, _, W1, _, rfl, List.Perm.refl _, .lst _, r⟩⟩))
theorem ev_isV {v : V} {ta : TE} (h : Ev F T ta G W fun d W1 => d = .vl v ∧ R (.bl (decide (v = .non))) W1) : Ev F T (tIsN ta) G W R := ev_isN (h.imp fun d W1 ⟨e, r⟩ => ⟨_, fun H u k => by
  subst e
  have k : u = v := k
  rw [k], r⟩)
end
section
variable {F : FmKit} {T : Kx} {G : Gm} {W : Om} {R : D → Om → Prop}
theorem eps_nil {acc : List (Key × D)} {Y : List (Key × D) → Om → Prop} (h : Y acc W) : EvPs F T [] G W acc Y := h
theorem eps_cons {tk tv : TE} {r : List (TE × TE)} {acc : List (Key × D)} {Y : List (Key × D) → Om → Prop} (h : Ev F T tk G W fun y W1 => Ev F T tv G W1 fun z W2 => ∃ k, y = kD k ∧ EvPs F T r G W2 (acc ++ [(k, z)]) Y) : EvPs F T ((tk, tv) :: r) G W acc Y := h
theorem exk_str {s : Str} {Z : Key → Prop} (h : Z (Sum.inr s)) : ∃ k, D.vl (.str s) = kD k ∧ Z k := ⟨_, rfl, h⟩
theorem exk_int {i : Int} {Z : Key → Prop} (h : Z (Sum.inl i)) : ∃ k, D.vl (.int i) = kD k ∧ Z k := ⟨_, rfl, h⟩
theorem dg_str {d : D} {s : Str} {ps : List (Key × D)} {z : D} {Y : D → Prop} (hv : Vd W d ps) (hg : getG ps (Sum.inr s) = some z) (r : Y z) : ∃ ps k z, Vd W d ps ∧ D.vl (.str s) = kD k ∧ getG ps k = some z ∧ Y z := ⟨ps, _, z, hv, rfl, hg, r⟩
end
theorem putG_new {α : Type} {ps : List (Key × α)} {k : Key} {z : α} (h : k ∉ ps.map (·.1)) : putG ps k z = ps ++ [(k, z)] := by
  unfold putG
  rw [if_neg]
  intro e
  rw [List.any_eq_true] at e
  obtain ⟨q, hq, e⟩ := e
  exact h (List.mem_map.mpr ⟨q, hq, of_decide_eq_true e⟩)
theorem getG_hd {α : Type} (k : Key) (z : α) (ps : List (Key × α)) : getG ((k, z) :: ps) k = some z := by
  unfold getG
  rw [List.find?_cons, decide_eq_true rfl]
  rfl
theorem getG_tl {α : Type} {k j : Key} {y : α} {ps : List (Key × α)} {r : Option α} (h : decide (j = k) = false) (e : getG ps k = r) : getG ((j, y) :: ps) k = r := by
  rw [← e]
  unfold getG
  rw [List.find?_cons, h]
theorem putG_set {α : Type} {k : Key} {z : α} : ∀ {ps : List (Key × α)} {i : Nat}, (ps.map (·.1)).Nodup → (ps.map (·.1))[i]? = some k → putG ps k z = ps.set i (k, z) := fun {ps i} hn hi => by
  have hm : ∀ (ps : List (Key × α)) (i : Nat), (ps.map (·.1)).Nodup → (ps.map (·.1))[i]? = some k → (ps.any fun q => decide (q.1 = k)) = true ∧ ps.map (fun q => if q.1 = k then (q.1, z) else q) = ps.set i (k, z) := fun ps => by
    induction ps with
    | nil => intro i _ h; simp at h
    | cons p ps ih =>
      intro i hn hi
      rw [List.map_cons, List.nodup_cons] at hn
      cases i with
      | zero =>
        have e : p.1 = k := Option.some.inj hi
        refine ⟨by rw [List.any_cons, decide_eq_true e]; rfl, ?_⟩
        rw [List.map_cons, if_pos e, List.set_cons_zero, e]
        congr 1
        have : ∀ q ∈ ps, (if q.1 = k then (q.1, z) else q) = q := fun q hq => by
          rw [if_neg]
          intro e2
          exact hn.1 (List.mem_map.mpr ⟨q, hq, e2.trans e.symm⟩)
        rw [List.map_congr_left this, List.map_id']
      | succ i =>
        rw [List.map_cons, List.getElem?_cons_succ] at hi
        obtain ⟨h1, h2⟩ := ih i hn.2 hi
        refine ⟨by rw [List.any_cons, h1, Bool.or_true], ?_⟩
        have ne : p.1 ≠ k := fun e => hn.1 (by rw [e]; exact List.mem_of_getElem? hi)
        rw [List.map_cons, if_neg ne, List.set_cons_succ, h2]
  obtain ⟨h1, h2⟩ := hm ps i hn hi
  unfold putG
  rw [if_pos h1, h2]
theorem mergeG_acc : ∀ {ps acc : List (Key × D)}, ((acc ++ ps).map (·.1)).Nodup → ps.foldl (fun acc kv => putG acc kv.1 kv.2) acc = acc ++ ps
  | [], acc, _ => by simp
  | p :: ps, acc, h => by
    rw [List.foldl_cons]
    have hn : p.1 ∉ acc.map (·.1) := fun z => by
      rw [List.map_append, List.nodup_append] at h
      exact h.2.2 _ z _ (by simp) rfl
    rw [putG_new hn, mergeG_acc (by simpa using h)]
    simp
theorem mergeG_nd {ps : List (Key × D)} (h : (ps.map (·.1)).Nodup) : mergeG ps = ps := by
  unfold mergeG
  rw [mergeG_acc (by simpa using h)]
  rfl
end N
set_option Elab.async false
set_option linter.all false
set_option maxRecDepth 100000
namespace N
open PySem PySem.Spec PyProof.Rows L2
section
variable {F : FmKit} {T : Kx} {C H H' O O' : Hp} {G : Gm} {W W' : Om} {R : D → Om → Prop} {d e : D} {l m : List D} {te : TE} {t : TT}
theorem den_ints_inv {ns : List Int} {xs : List V} (kl : DenL F T H (ns.map D.int) xs) : xs = ns.map V.int := by
  rw [show ns.map D.int = (ns.map V.int).map D.vl by rw [List.map_map]; rfl] at kl
  exact DenL.vls_inv kl
theorem den_bls_inv {bs : List Bool} {xs : List V} (kl : DenL F T H (bs.map D.bl) xs) : xs = bs.map V.bl := by
  rw [show bs.map D.bl = (bs.map V.bl).map D.vl by rw [List.map_map]; rfl] at kl
  exact DenL.vls_inv kl
theorem ca_max {ns : List Int} {m : Int} (hv : Vl W d (ns.map D.int)) (hm : m ∈ ns) (hy : ∀ y ∈ ns, y ≤ m) (r : R (.int m) W) : Ca F T (rMax T.K) [d] W R := ca_one fun C H O di oc ow x k Q q => by
  obtain ⟨a, xs, e, hs, kl⟩ := hv.sq ow di k
  rw [den_ints_inv kl] at hs
  refine ⟨a, ns, by rw [e], hs, List.length_pos_of_mem hm, fun m' h1 h2 => ?_⟩
  have : m' = m := Int.le_antisymm (hy _ h1) (h2 _ hm)
  subst this
  exact q _ W H O _ r (.refl di oc ow) rfl
theorem ca_all {bs : List Bool} (hv : Vl W d (bs.map D.bl)) (r : R (.bl (bs.all id)) W) : Ca F T (rAll T.K) [d] W R := ca_one fun C H O di oc ow x k Q q => by
  obtain ⟨a, xs, e, hs, kl⟩ := hv.sq ow di k
  rw [den_bls_inv kl] at hs
  exact ⟨a, bs, by rw [e], hs, q _ W H O _ r (.refl di oc ow) rfl⟩
theorem cut_all {α : Type} {xs : List α} {a b : Nat} (h : a = 0 ∧ b = xs.length) : (xs.drop a).take (b - a) = xs := by
  obtain ⟨rfl, rfl⟩ := h
  simp
/-- a slice of a tuple -/
theorem ca_slT {lo hi : Option Int} (r : R (.tup (cutD l lo hi)) W) : Ca F T (fun xs H Q => ∃ x, xs = [x] ∧ rSlA T.K x lo hi H Q) [.tup l] W R := ca_one fun C H O di oc ow x k Q q => by
  obtain ⟨a, xs, e, hs, kl⟩ := id k
  refine ⟨x, rfl, a, xs, e, Same.sqT di.same hs, fun h => ?_, fun h p hp => ?_⟩
  · subst e
    refine q (.tup (cutD l lo hi)) W H O _ r (.refl di oc ow) ?_
    have : cutD l lo hi = l := cut_all (by rw [kl.len] at h; exact h)
    rw [this]
    exact k
  · obtain ⟨n2, e2, s2⟩ := (Nx.refl (F := F) (T := T) di oc ow).newF (o := .tup (cutV xs lo hi)) hp
    rw [e2]
    exact q _ _ _ _ _ r n2 ⟨p, _, rfl, SqT.of upd_same, (kl.cut lo hi).mono s2⟩
/-- a slice of a text -/
theorem ca_slS {lo hi : Option Int} {x : Str} (hl : x.length ≤ sizeLine) (r : R (.str (cutS x lo hi)) W) : Ca F T (fun xs H Q => ∃ x, xs = [x] ∧ rSlS x lo hi H Q) [.str x] W R := cl_sc (xs := [.str x]) fun H Q k => ⟨_, rfl, x, rfl, hl, k _ r⟩
end
section
variable (F : FmKit) (T : Kx)
def Unr (vs : List Nat) (g : TG) (t : TT) (te : TE) (G0 : Gm) (Y : List D → Om → Prop) : List D → List D → Om → Prop
  | [], acc, W => Y acc W
  | d :: ds, acc, W => Tw F T vs g d G0 fun G2 => EvT F T t G2 W fun b W2 => if b = true then Ev F T te G2 W2 (fun z W3 => acc.length < sizeLine ∧ Unr vs g t te G0 Y ds (acc ++ [z]) W3) else Unr vs g t te G0 Y ds acc W2
def Swu (g : TG) (ts : TS) (E : En) : List D → Gm → Om → Prop
  | [], G, W => E.nx G W
  | d :: ds, G, W => Tg F T g d G fun G2 => Sw F T ts G2 W { E with nx := Swu g ts E ds, ct := Swu g ts E ds, bk := E.nx }
end
section
variable {F : FmKit} {T : Kx} {G : Gm} {W : Om} {R : D → Om → Prop} {te : TE} {t : TT} {vs : List Nat} {wi : TI} {g : TG} {ts : TS} {E : En} {d : D} {ds acc : List D} {Y : List D → Om → Prop}
theorem unr_nil (h : Y acc W) : Unr F T vs g t te G Y [] acc W := h
theorem unr_cons (h : Tw F T vs g d G fun G2 => EvT F T t G2 W fun b W2 => if b = true then Ev F T te G2 W2 (fun z W3 => acc.length < sizeLine ∧ Unr F T vs g t te G Y ds (acc ++ [z]) W3) else Unr F T vs g t te G Y ds acc W2) : Unr F T vs g t te G Y (d :: ds) acc W := h
theorem swu_nil (h : E.nx G W) : Swu F T g ts E [] G W := h
theorem swu_cons (h : Tg F T g d G fun G2 => Sw F T ts G2 W { E with nx := Swu F T g ts E ds, ct := Swu F T g ts E ds, bk := E.nx }) : Swu F T g ts E (d :: ds) G W := h
theorem acc_ok (h : acc.length ≤ 1000 := by simp) : acc.length < sizeLine := by
  have := sizeLine_eq
  omega
end
section
variable {F : FmKit} {T : Kx} {W : Om} {R : D → Om → Prop}
theorem ca_intBt {b : Bool} (hb : b = true) (h : R (.int 1) W) : Ca F T (fun xs H Q => (∃ i, xs = [.int i] ∧ Q (.int i) H) ∨ ∃ k, xs = [.bl k] ∧ Q (.int (if k then 1 else 0)) H) [.bl b] W R := ca_intB (by rw [hb]; exact h)
theorem ca_intBf {b : Bool} (hb : b = false) (h : R (.int 0) W) : Ca F T (fun xs H Q => (∃ i, xs = [.int i] ∧ Q (.int i) H) ∨ ∃ k, xs = [.bl k] ∧ Q (.int (if k then 1 else 0)) H) [.bl b] W R := ca_intB (by rw [hb]; exact h)
end
section
variable {F : FmKit} {T : Kx} {C H H' O O' : Hp} {W : Om} {R : D → Om → Prop} {S : FS} {l : List D}
theorem tyd_tup : TyD F T W (.tup l) (.type "tuple") := fun C H O di ow x k => by
  obtain ⟨a, xs, e, hs, kl⟩ := k
  subst e
  rcases Same.sqT di.same hs with (h | ⟨o, h⟩) | ⟨o, its, n, h1, h2, _⟩
  · exact .base (.tup h)
  · exact .fTuple h
  · exact .kTuple h1 h2
theorem isi_tup (r : R (.bl true) W) : Ca F T (rIsi T.K) [.tup l, .vl (.ty "tuple")] W R := ca_isi (.ty "tuple") tyd_tup (by unfold PySem.W.kitOne; rfl) r
theorem isi_fm {f : Fm} {ns : List Str} (z : CZ T.K (T.cl 0) ns) (r : R (.bl true) W) : Ca FK T (rIsi T.K) [.fm f, .adr (T.cl 0)] W R := isi_ins (.fm f) z.ins r
theorem ca_lenF {f : Fm} (h : Hand S [.fm f] W fun d' W' => (∃ n : Int, d' = .int n ∧ 0 ≤ n ∧ n < 2 ^ 63) ∧ R d' W') : Ca FK T (rLenO (T.cl 0) (spN FK T S)) [.fm f] W R := ca_lenO (.fm f) h
end
end N
set_option Elab.async false
set_option linter.all false
set_option maxRecDepth 100000
set_option maxHeartbeats 4000000
set_option Elab.async false
set_option linter.all false
set_option maxRecDepth 100000
namespace N
open PySem PySem.Spec PyProof.Rows L2 PySem.SeqAt
def rNeE (K : PySem.W.Frag) : R2 := fun x y H Q => ∃ (a b : Addr) (xs : List V), x = .ref a ∧ y = .ref b ∧ SqL K H a xs ∧ SqL K H b [] ∧ Q (.bl (!xs.isEmpty)) H
def rEqE (K : PySem.W.Frag) : R2 := fun x y H Q => ∃ (a b : Addr) (xs : List V), x = .ref a ∧ y = .ref b ∧ SqL K H a xs ∧ SqL K H b [] ∧ Q (.bl xs.isEmpty) H
theorem op_neE {X : Cx} (hu' : X.A.units + 64 < cLine) : OpR X (compareOp .NotEq) (rNeE X.K) := by
  have hu : X.A.units < cLine := Nat.lt_of_le_of_lt (Nat.le_add_right _ _) hu'
  intro pins s σ H x y v u Q I rx ry h
  obtain ⟨a, b, xs, rfl, rfl, ha, hb, q⟩ := h
  cases rx
  cases ry
  obtain ⟨its, r1, p1, _⟩ := I.list ha
  obtain ⟨its2, r2, p2, _⟩ := I.list hb
  cases r2
  cases r1 with
  | nil =>
    have := RcNeAt.lists (e := fun _ => true) p1.isList p2.isList rfl hu (fun j h1 _ => absurd h1 (Nat.not_lt_zero _)) X.prog X.w (E := X.xe) (Q := EP X pins σ Q) ⟨.bl false, H, I, rfl, q⟩
    exact this
  | cons h t =>
    exact RcNeAt.lists_lengths p1.isList p2.isList (by simp) hu X.prog X.w (E := X.xe) (Q := EP X pins σ Q) ⟨.bl true, H, I, rfl, q⟩
theorem op_eqE {X : Cx} (hu' : X.A.units + 64 < cLine) : OpR X (compareOp .Eq) (rEqE X.K) := by
  have hu : X.A.units < cLine := Nat.lt_of_le_of_lt (Nat.le_add_right _ _) hu'
  intro pins s σ H x y v u Q I rx ry h
  obtain ⟨a, b, xs, rfl, rfl, ha, hb, q⟩ := h
  cases rx
  cases ry
  obtain ⟨its, r1, p1, _⟩ := I.list ha
  obtain ⟨its2, r2, p2, _⟩ := I.list hb
  cases r2
  cases r1 with
  | nil => exact eq_listAt (e := fun _ => true) p1.isList p2.isList rfl hu (fun j h1 _ => absurd h1 (Nat.not_lt_zero _)) ⟨.bl true, H, I, rfl, q⟩
  | cons h t => exact eq_list_lengthsAt p1.isList p2.isList (by simp) hu ⟨.bl false, H, I, rfl, q⟩
section
variable {F : FmKit} {T : Kx} {C H H' O O' : Hp} {G : Gm} {W W' : Om} {R : D → Om → Prop} {d e : D} {l m : List D} {te : TE} {t : TT} {tr : TA}
theorem den_empty {l : List D} {xs : List V} (kl : DenL F T H l xs) : xs.isEmpty = l.isEmpty := by
  have := kl.len
  cases l <;> cases xs <;> simp at this ⊢
theorem bo_neE (h1 : Vl W d l) (h2 : Vl W e []) (r : R (.bl (!l.isEmpty)) W) : Bo F T (rNeE T.K) d e W R := fun C H O di oc ow x y hx hy Q k => by
  obtain ⟨a, xs, ea, ha, ka⟩ := h1.sq ow di hx
  obtain ⟨b, ys, eb, hb, kb⟩ := h2.sq ow di hy
  have kb : ys = [] := kb
  subst kb
  refine ⟨a, b, xs, ea, eb, ha, hb, ?_⟩
  rw [den_empty ka]
  exact k _ W H O _ r (.refl di oc ow) rfl
theorem bo_eqE (h1 : Vl W d l) (h2 : Vl W e []) (r : R (.bl l.isEmpty) W) : Bo F T (rEqE T.K) d e W R := fun C H O di oc ow x y hx hy Q k => by
  obtain ⟨a, xs, ea, ha, ka⟩ := h1.sq ow di hx
  obtain ⟨b, ys, eb, hb, kb⟩ := h2.sq ow di hy
  have kb : ys = [] := kb
  subst kb
  refine ⟨a, b, xs, ea, eb, ha, hb, ?_⟩
  rw [den_empty ka]
  exact k _ W H O _ r (.refl di oc ow) rfl
end
end N
set_option Elab.async false
set_option linter.all false
set_option maxRecDepth 100000
namespace N
open PySem PySem.Spec PyProof.Rows L2
open C8 (Cal Met Mak InsC pe_c pe_mt pe_mt0 pe_mk)
section
variable {X : Cx} {k j : Nat} {x m : Str} {C : Addr} {sp : Sp} {e o : Expr} {es : List Expr} {t ta : TA} {p pos apos : Pos}
theorem kb1_of {K : PySem.W.Frag} {x qual : Str} {st : Stmt} {f : Addr} {fd : FuncData} {ps ks : List Str} {g : List Value → List Value → List Value} {gV : List V → List V → List V} (Fn : Fun K x qual st f fd)
    (h : ∀ (kV doc pm : Value) (an : Option Addr) (cdv ct u : Value) (ws : List Value), ws.length = ks.length → bindArgs (PySem.W.fnOf x qual (defArgs st) (defBody st) (defScope st) .none kV doc pm an cdv ct) ⟨[u], ks.zip ws⟩ = pure (ps.zip (g [u] ws)))
    (rel : ∀ {vs : List V} {us : List Value} {zs : List V} {ws : List Value}, Vals vs us → Vals zs ws → Vals (gV vs zs) (g us ws)) : KBn K fd ps 1 ks g gV := by
  obtain ⟨oc, od, kV, doc, pm, an, cdv, ct, osl, rfl, lk, hcd⟩ := Fn.ex
  refine ⟨fun s us ws _ h1 h2 => ?_, rel⟩
  obtain ⟨u, rfl⟩ : ∃ u, us = [u] := List.length_eq_one_iff.mp h1
  exact .of_eq (h kV doc pm an cdv ct u ws h2)
end
section
variable {F : FmKit} {T : Kx} {C H H' O O' : Hp} {G : Gm} {W W' : Om} {R : D → Om → Prop} {σ : L2.St} {d e : D} {l m : List D} {te ta tb tx : TE} {t : TT} {tr tk : TA} {S : FS}
/-- *e among the arguments -/
theorem ea_star {R : List D → Om → Prop} (h : Ev F T te G W fun d W1 => ∃ l, (Vl W1 d l ∨ d = .tup l) ∧ EvA F T tr G W1 fun ds W2 => R (l ++ ds) W2) : EvA F T (StX.tStar T.K te tr) G W R := fun C H O σ w Q q =>
  h C H O σ w _ fun d W1 H1 O1 x ⟨l, hv, ha⟩ n1 k1 => by
    have : ∃ p xs, x = V.ref p ∧ (SqT T.K (ov O1 H1) p xs ∨ SqL T.K (ov O1 H1) p xs) ∧ DenL F T H1 l xs := by
      rcases hv with hv | rfl
      · obtain ⟨p, xs, e, hs, kl⟩ := hv.sq n1.own n1.dis k1
        exact ⟨p, xs, e, .inr hs, kl⟩
      · obtain ⟨p, xs, e, hs, kl⟩ := k1
        exact ⟨p, xs, e, .inl (Same.sqT n1.dis.same hs), kl⟩
    obtain ⟨p, xs, e, hs, kl⟩ := this
    refine ⟨p, xs, e, hs, ha C H1 O1 σ (w.step n1) _ fun ds W2 H2 O2 vs r n2 k2 => ?_⟩
    exact q _ W2 H2 O2 _ r (n1.trans n2) ((kl.mono n2.ext).app k2)
theorem sw_par3 {E : En} {i j l : Nat} {ta : TA} (h : EvA F T ta G W fun ds W' => ∃ d1 d2 d3, ds = [d1, d2, d3] ∧ E.nx (((G.set i (some d1)).set j (some d2)).set l (some d3)) W') : Sw F T (tPar3 i j l ta) G W E := fun C H O σ w B b =>
  h C H O σ w _ fun ds W' H' O' vs ⟨d1, d2, d3, e, r⟩ n k => by
    subst e
    obtain ⟨v1, r1, e1, k1, v2, r2, e2, k2, v3, r3, e3, k3, e4⟩ := k
    have e4 : r3 = [] := e4
    subst e4 e3 e2 e1
    exact ⟨v1, v2, v3, rfl, b.nx _ W' H' O' _ r n ((((w.loc.mono n.ext).set k1).set k2).set k3)⟩
end
section
variable {F : FmKit} {T : Kx} {G : Gm} {W : Om} {R : D → Om → Prop}
/-- {k: e, ..}, frozen at once -/
theorem ev_dispF {trs : List (TE × TE)} (h : EvPs F T trs G W [] fun ps W' => ps.length ≤ 15 ∧ R (.dp (mergeG ps)) W') : Ev F T (tDisp trs) G W R := by
  have up : ∀ (trs : List (TE × TE)) (W : Om) (acc : List (Key × D)) (Y Z : List (Key × D) → Om → Prop), (∀ ps W', Y ps W' → Z ps W') → EvPs F T trs G W acc Y → EvPs F T trs G W acc Z := by
    intro trs
    induction trs with
    | nil => exact fun W acc Y Z i h => i _ _ h
    | cons t trs ih => exact fun W acc Y Z i h => Ev.imp h fun y W1 h1 => Ev.imp h1 fun z W2 ⟨k, e, h2⟩ => ⟨k, e, ih _ _ _ _ i h2⟩
  exact ev_fz (ev_disp (up _ _ _ _ _ (fun ps W' ⟨h1, h2⟩ => ⟨h1, fun p hp => ⟨p, _, W', _, rfl, List.Perm.refl _, .dct _ _, h2⟩⟩) h))
end
end N
set_option Elab.async false
set_option linter.all false
set_option maxRecDepth 100000
set_option maxHeartbeats 1000000
namespace PySem
open Sem (wp)
/-- a zip that stands, strict -/
abbrev StrictZip (hp : Heap) (z ins held : Addr) (v : Value) : Prop := hp.get? z = some { cls := .type "zip", data := .fields #[v, .bool false, .bool true, .ref ins, .ref held] }
section
variable {prog : Program} {w : World} {A : Around} {E : Value → Shared → Prop} {s : Shared} {z ins held j1 j2 : Addr} {f1 f2 : List Addr} {n i : Nat} {P1 P2 P : Nat → Value → Prop} {S1 S2 St : Nat → Heap → Prop} {u1 u2 : Value} {it : Addr} {fp : List Addr}
theorem orEnd_more {Q : Option Value → Shared → Prop} (D : Draws prog w A it fp n P St) (hi : i < n) (st : St i s.heap) (q : ∀ x hp tk, P i x → St (i + 1) hp → Heap.SameBut it s.heap hp → Q (some x) { s with heap := hp, toks := tk }) :
    wpAny (model prog w) A (Builtin.SmallTypes.nextOrEnd (.ref it)) Q E s :=
  wpAny_bind (wpAny_attempt (D.item i s _ _ hi st fun x hp tk a b c => wpAny_pure (q x hp tk a b c)))
theorem orEnd_none {Q : Option Value → Shared → Prop} (D : Draws prog w A it fp n P St) (st : St n s.heap) (q : ∀ hp, Heap.ExtBut it s.heap hp → Q none { s with heap := hp }) :
    wpAny (model prog w) A (Builtin.SmallTypes.nextOrEnd (.ref it)) Q E s :=
  wpAny_bind (wpAny_attempt (D.done s _ _ st fun hp e k ⟨o, ho, hc⟩ => wpAny_bind (wpAny_isInstance (T := "StopIteration") (b := true) ⟨o, ho, hc⟩ isSubtype_stop (wpAny_pure (q hp k)))))
theorem strict_more {Q : Value → Shared → Prop} (S : ZipSep2 z ins held j1 j2 f1 f2) (D1 : Draws prog w A j1 f1 n P1 S1) (D2 : Draws prog w A j2 f2 n P2 S2)
    (hz : StrictZip s.heap z ins held .none) (hI : IsTupOf2 s.heap ins (.ref j1) (.ref j2)) (hO : IsTupOf2 s.heap held u1 u2) (k1 : S1 i s.heap) (k2 : S2 i s.heap) (hi : i < n)
    (q : ∀ x y hp tk, P1 i x → P2 i y → StrictZip hp z ins held (rawInt s.heap.objs.size) → IsTupOf2 hp held x y → S1 (i + 1) hp → S2 (i + 1) hp → IsTupOf2 hp s.heap.objs.size x y → hp.objs.size = s.heap.objs.size + 1 →
      (∀ c o, c ∉ [z, held, j1, j2] → s.heap.get? c = some o → hp.get? c = some o) → Q (.ref s.heap.objs.size) { s with heap := hp, toks := tk }) :
    wpAny (model prog w) A (Builtin.«zip.__next__» ⟨[.ref z], []⟩) (fun fin s' => ∃ v, fin = .done (.ret v) ∧ Q v s') E s := by
  obtain ⟨h0, g, d, t0, os⟩ := s
  simp only at hz hI hO k1 k2 q
  have af : ∀ {k : Nat} {x : Value} {Q : Value → Shared → Prop} {E : Value → Shared → Prop}, (#[Value.none, .bool false, .bool true, .ref ins, .ref held] : Array Value)[k]? = some x → Q x ⟨h0, g, d, t0, os⟩ → wpAny (model prog w) A (field (.ref z) k) Q E ⟨h0, g, d, t0, os⟩ := fun e q => wpAny_field hz rfl e q
  have ast : ∀ {Q : Unit → Shared → Prop} {E : Value → Shared → Prop}, (∀ h1, StrictZip h1 z ins held .ellipsis → Heap.SameBut z h0 h1 → Q () ⟨h1, g, d, t0, os⟩) → wpAny (model prog w) A (setField (.ref z) 0 .ellipsis) Q E ⟨h0, g, d, t0, os⟩ := fun q => wpAny_setField_rec hz (by simp) fun h1 a b => q h1 a b
  wp_walk using wpAny_seqItems hI rfl, ast, wpAny_onRaise
  intro h1 z1 b1
  have r1 : ∀ {Q : Option Value → Shared → Prop} {E : Value → Shared → Prop}, (∀ x hp tk, P1 i x → S1 (i + 1) hp → Heap.SameBut j1 h1 hp → Q (some x) ⟨hp, g, d, tk, os⟩) → wpAny (model prog w) A (Builtin.SmallTypes.nextOrEnd (.ref j1)) Q E ⟨h1, g, d, t0, os⟩ := fun q => orEnd_more D1 hi (D1.over k1 b1 S.zf1) q
  wp_walk using wpAny_onRaise, r1
  intro x h2 t2 px k1 b2
  have o2 : IsTupOf2 h2 held u1 u2 := b2.extBut _ _ S.Ti1 (b1.extBut _ _ S.TOz hO)
  have r2 : ∀ {k : Nat} {x : Value} {Q : Unit → Shared → Prop} {E : Value → Shared → Prop}, (∀ hp, hp.get? held = some { cls := .type "tuple", data := .seq ((#[u1, u2] : Array Value).setIfInBounds k x) } → Heap.SameBut held h2 hp → Q () ⟨hp, g, d, t2, os⟩) → wpAny (model prog w) A (updateSeq held (·.setIfInBounds k x)) Q E ⟨h2, g, d, t2, os⟩ := fun q => updateSeq_IsTupOf2 o2 q
  wp_walk using wpAny_seqItems o2 rfl, r2
  intro h3 o3 b3
  replace o3 : IsTupOf2 h3 held x u2 := o3
  have r3 : ∀ {Q : Option Value → Shared → Prop} {E : Value → Shared → Prop}, (∀ x hp tk, P2 i x → S2 (i + 1) hp → Heap.SameBut j2 h3 hp → Q (some x) ⟨hp, g, d, tk, os⟩) → wpAny (model prog w) A (Builtin.SmallTypes.nextOrEnd (.ref j2)) Q E ⟨h3, g, d, t2, os⟩ := fun q => orEnd_more D2 hi (D2.over (D2.over (D2.over k2 b1 S.zf2) b2 S.sep1_2) b3 S.Tf2) q
  wp_walk using wpAny_onRaise, r3
  intro y h4 t4 py k2 b4
  have o4 : IsTupOf2 h4 held x u2 := b4.extBut _ _ S.Ti2 o3
  have r4 : ∀ {k : Nat} {v : Value} {Q : Unit → Shared → Prop} {E : Value → Shared → Prop}, (∀ hp, hp.get? held = some { cls := .type "tuple", data := .seq ((#[x, u2] : Array Value).setIfInBounds k v) } → Heap.SameBut held h4 hp → Q () ⟨hp, g, d, t4, os⟩) → wpAny (model prog w) A (updateSeq held (·.setIfInBounds k v)) Q E ⟨h4, g, d, t4, os⟩ := fun q => updateSeq_IsTupOf2 o4 q
  wp_walk using wpAny_seqItems o4 rfl, r4
  intro h5 o5 b5
  replace o5 : IsTupOf2 h5 held x y := o5
  have sz : h5.objs.size = h0.objs.size := by rw [b5.1, b4.1, b3.1, b2.1, b1.1]
  have z5 : StrictZip h5 z ins held .ellipsis := b5.extBut _ _ S.TOz.symm (b4.extBut _ _ S.zi2 (b3.extBut _ _ S.TOz.symm (b2.extBut _ _ S.zi1 z1)))
  have lt : z < h5.objs.size := Heap.lt_size z5
  have z6 : StrictZip (h5.push { cls := .type "tuple", data := .seq #[x, y] }) z ins held .ellipsis := Heap.get?_push_of_some _ z5
  have r6 : ∀ {hp : Heap} {f : Value} {v : Value} {Q : Unit → Shared → Prop} {E : Value → Shared → Prop}, StrictZip hp z ins held f → (∀ hq, StrictZip hq z ins held v → Heap.SameBut z hp hq → Q () ⟨hq, g, d, t4, os⟩) → wpAny (model prog w) A (setField (.ref z) 0 v) Q E ⟨hp, g, d, t4, os⟩ := fun a q => wpAny_setField_rec a (by simp) fun hq b c => q hq b c
  have r7 : ∀ {hp : Heap} {f : Value} {Q : Unit → Shared → Prop} {E : Value → Shared → Prop}, StrictZip hp z ins held f → (∀ hq, StrictZip hq z ins held f → Heap.SameBut z hp hq → Q () ⟨hq, g, d, t4, os⟩) → wpAny (model prog w) A (setField (.ref z) 1 (.bool false)) Q E ⟨hp, g, d, t4, os⟩ := fun a q => wpAny_setField_rec a (by simp) fun hq b c => q hq b c
  wp_walk using wpAny_seqItems o5 rfl, r6 z6
  intro h7 z7 b7
  refine r7 z7 fun h8 z8 b8 => wpAny_pure ⟨_, rfl, ?_⟩
  have up : ∀ c o, c ≠ z → h5.get? c = some o → h8.get? c = some o := fun c o ne e => b8.extBut _ _ ne (b7.extBut _ _ ne (Heap.get?_push_of_some _ e))
  have new : IsTupOf2 h8 h5.objs.size x y := b8.extBut _ _ (Nat.ne_of_gt lt) (b7.extBut _ _ (Nat.ne_of_gt lt) (Heap.get?_push_size _ rfl))
  have e8 : h8.objs.size = h5.objs.size + 1 := by rw [b8.1, b7.1, Heap.size_push]
  rw [sz] at z8 new e8
  have a1 : S1 (i + 1) h8 := D1.frame _ _ _ (D1.over (D1.over (D1.over k1 b3 S.Tf1) b4 S.sep2_1) b5 S.Tf1) fun b hb o e => up b o (fun q => S.zf1 (q ▸ hb)) e
  have a2 : S2 (i + 1) h8 := D2.frame _ _ _ (D2.over k2 b5 S.Tf2) fun b hb o e => up b o (fun q => S.zf2 (q ▸ hb)) e
  rw [sz]
  refine q x y h8 t4 px py z8 (up _ _ S.TOz o5) a1 a2 new e8 fun c o nc e => ?_
  simp only [List.mem_cons, List.not_mem_nil, or_false, not_or] at nc
  obtain ⟨cz, cT, c1, c2⟩ := nc
  exact up c o cz (b5.extBut _ _ cT (b4.extBut _ _ c2 (b3.extBut _ _ cT (b2.extBut _ _ c1 (b1.extBut _ _ cz e)))))
theorem strict_none {Q : Fin → Shared → Prop} (hh : A.handled = none) (S : ZipSep2 z ins held j1 j2 f1 f2) (D1 : Draws prog w A j1 f1 n P1 S1) (D2 : Draws prog w A j2 f2 n P2 S2)
    (hz : StrictZip s.heap z ins held .none) (hI : IsTupOf2 s.heap ins (.ref j1) (.ref j2)) (k1 : S1 n s.heap) (k2 : S2 n s.heap)
    (q : ∀ hp tk e, (∀ c o, c ∉ [z, held, j1, j2] → s.heap.get? c = some o → hp.get? c = some o) → (∃ o, hp.get? e = some o ∧ o.cls = .type "StopIteration") → E (.ref e) { s with heap := hp, toks := tk }) :
    wpAny (model prog w) A (Builtin.«zip.__next__» ⟨[.ref z], []⟩) Q E s := by
  obtain ⟨h0, g, d, t0, os⟩ := s
  simp only at hz hI k1 k2 q
  have ast : ∀ {hp : Heap} {v f : Value} {Q : Unit → Shared → Prop} {E : Value → Shared → Prop}, StrictZip hp z ins held f → (∀ h1, StrictZip h1 z ins held v → Heap.SameBut z hp h1 → Q () ⟨h1, g, d, t0, os⟩) → wpAny (model prog w) A (setField (.ref z) 0 v) Q E ⟨hp, g, d, t0, os⟩ := fun a q => wpAny_setField_rec a (by simp) fun h1 a b => q h1 a b
  wp_walk using wpAny_seqItems hI rfl, ast hz, wpAny_onRaise
  intro h1 z1 b1
  have r1 : ∀ {Q : Option Value → Shared → Prop} {E : Value → Shared → Prop}, (∀ hp, Heap.ExtBut j1 h1 hp → Q none ⟨hp, g, d, t0, os⟩) → wpAny (model prog w) A (Builtin.SmallTypes.nextOrEnd (.ref j1)) Q E ⟨h1, g, d, t0, os⟩ := fun q => orEnd_none D1 (D1.over k1 b1 S.zf1) q
  wp_walk using wpAny_onRaise, r1
  intro h2 b2
  have z2 : StrictZip h2 z ins held .ellipsis := b2 _ _ S.zi1 z1
  wp_walk using ast z2
  intro h3 z3 b3
  have r2 : ∀ {Q : Option Value → Shared → Prop} {E : Value → Shared → Prop}, (∀ hp, Heap.ExtBut j2 h3 hp → Q none ⟨hp, g, d, t0, os⟩) → wpAny (model prog w) A (Builtin.SmallTypes.nextOrEnd (.ref j2)) Q E ⟨h3, g, d, t0, os⟩ := fun q => orEnd_none D2 (D2.over (D2.frame _ _ _ (D2.over k2 b1 S.zf2) fun b hb o e => b2 b o (fun x => S.sep1_2 (x ▸ hb)) e) b3 S.zf2) q
  wp_walk using r2
  intro h4 b4
  wp_walk
  simp only [raiseNew]
  refine wpAny_bind (wpAny_handled ?_)
  rw [hh]
  refine wpAny_bind (wpAny_pure (wpAny_throw ?_))
  refine q _ _ _ (fun c o nc e => ?_) ⟨_, Heap.get?_push_size _ rfl, rfl⟩
  simp only [List.mem_cons, List.not_mem_nil, or_false, not_or] at nc
  obtain ⟨cz, cT, c1, c2⟩ := nc
  exact Heap.get?_push_of_some _ (Heap.get?_push_of_some _ (b4 _ _ c2 (b3.extBut _ _ cz (b2 _ _ c1 (b1.extBut _ _ cz e)))))
theorem next_more {Q : Option Value → Shared → Prop} (S : ZipSep2 z ins held j1 j2 f1 f2) (D1 : Draws prog w A.in1 j1 f1 n P1 S1) (D2 : Draws prog w A.in1 j2 f2 n P2 S2)
    (hz : StrictZip s.heap z ins held .none) (hI : IsTupOf2 s.heap ins (.ref j1) (.ref j2)) (hO : IsTupOf2 s.heap held u1 u2) (k1 : S1 i s.heap) (k2 : S2 i s.heap) (hi : i < n)
    (q : ∀ x y hp tk, P1 i x → P2 i y → StrictZip hp z ins held (rawInt s.heap.objs.size) → IsTupOf2 hp held x y → S1 (i + 1) hp → S2 (i + 1) hp → IsTupOf2 hp s.heap.objs.size x y → hp.objs.size = s.heap.objs.size + 1 →
      (∀ c o, c ∉ [z, held, j1, j2] → s.heap.get? c = some o → hp.get? c = some o) → Q (some (.ref s.heap.objs.size)) { s with heap := hp, toks := tk }) : wpAny (model prog w) A (pyNext (.ref z)) Q E s :=
  have ty : s.TypeIs (.ref z) "zip" := ⟨_, hz, rfl⟩
  wpAny_bind (wpAny_attempt (wpAny_callSpecial?_slot (name := Str.ofString "__next__") ty F.slot_zip_next (wpAny_call_entry F.slot_zip_next ty F.entry_zip_next
    (strict_more S D1 D2 hz hI hO k1 k2 hi fun x y hp tk a b c d e f g h l => wpAny_pure (q x y hp tk a b c d e f g h l)) (F.args_zip_next_1 _))))
theorem next_none {Q : Option Value → Shared → Prop} (hh : A.handled = none) (S : ZipSep2 z ins held j1 j2 f1 f2) (D1 : Draws prog w A.in1 j1 f1 n P1 S1) (D2 : Draws prog w A.in1 j2 f2 n P2 S2)
    (hz : StrictZip s.heap z ins held .none) (hI : IsTupOf2 s.heap ins (.ref j1) (.ref j2)) (k1 : S1 n s.heap) (k2 : S2 n s.heap)
    (q : ∀ hp tk, (∀ c o, c ∉ [z, held, j1, j2] → s.heap.get? c = some o → hp.get? c = some o) → Q none { s with heap := hp, toks := tk }) : wpAny (model prog w) A (pyNext (.ref z)) Q E s :=
  have ty : s.TypeIs (.ref z) "zip" := ⟨_, hz, rfl⟩
  wpAny_bind (wpAny_attempt (wpAny_callSpecial?_slot (name := Str.ofString "__next__") ty F.slot_zip_next (wpAny_call_entry F.slot_zip_next ty F.entry_zip_next
    (strict_none (show A.in1.handled = none from hh) S D1 D2 hz hI k1 k2 fun hp tk e k ⟨o, ho, hc⟩ => wpAny_bind (wpAny_isInstance (T := "StopIteration") (b := true) ⟨o, ho, hc⟩ isSubtype_stop (wpAny_pure (q _ _ k)))) (F.args_zip_next_1 _))))
theorem go_strict {elts : List Expr} {kk : Nat} {pos : Pos} {T : Addr} {Q : Unit → Shared → Prop} (hz : StrictZip s.heap z ins held (rawInt T)) (q : ∀ hp, StrictZip hp z ins held .none → Heap.SameBut z s.heap hp → Q () { s with heap := hp }) :
    wpAny (model prog w) A (letOwnedTupleGo (.Tuple elts kk pos) (.ref z) (.ref T)) Q E s := by
  unfold letOwnedTupleGo
  refine wpAny_bind (wpAny_load hz ?_)
  refine wpAny_ite_true (by simp) ?_
  exact wpAny_bind (wpAny_rule (wpAny_setField_rec hz (by simp) fun hp a b => q hp a b))
theorem iter_strict {v : Value} {Q : Value → Shared → Prop} (hz : StrictZip s.heap z ins held v) (q : Q (.ref z) s) : wpAny (model prog w) A (pyIter (.ref z)) Q E s :=
  have ty : s.TypeIs (.ref z) "zip" := ⟨_, hz, rfl⟩
  wpAny_pyIter_slot ty F.slot_zip_iter (wpAny_call_entry F.slot_zip_iter ty F.entry_zip_iter (wpAny_pure ⟨_, rfl, "zip", _, ty, F.slot_zip_next.lookup, q⟩) (F.args_zip_iter_1 _))
end
end PySem
set_option Elab.async false
set_option linter.all false
set_option maxRecDepth 100000
set_option maxHeartbeats 1000000
namespace N
open PySem PySem.Spec PyProof.Rows L2
open C8 (Cal Met Mak InsC pe_c pe_mt pe_mt0 pe_mk)
inductive Kd
  | lst (a : Addr)
  | tup (a : Addr)
  | txt (x : Str)
def Kd.v : Kd → V
  | .lst a => .ref a
  | .tup a => .ref a
  | .txt x => .str x
def Kd.src (K : PySem.W.Frag) (H : Hp) : Kd → List V → Prop
  | .lst a, xs => SqL K H a xs
  | .tup a, xs => SqT K H a xs
  | .txt x, xs => xs = x.cps.toList.map fun c => V.str ⟨#[c]⟩
def Kd.at (k : Kd) (t : Tok) (it : Addr) (i : Nat) (h : Heap) : Prop := match k with
  | .lst a => h.IsListIter it a i
  | .tup a => h.IsTupleIter it a i
  | .txt x => h.IsStrIter it (strIterType x) x t i
def Kd.low (k : Kd) (b : Nat) : Prop := match k with
  | .lst a => a < b
  | .tup a => a < b
  | .txt _ => True
theorem Kd.keep {k : Kd} {t : Tok} {it : Addr} {i : Nat} {h h' : Heap} (s : k.at t it i h) (e : ∀ o, h.get? it = some o → h'.get? it = some o) : k.at t it i h' := by
  cases k with
  | lst a => exact Heap.IsListIter.at s e
  | tup a => exact Heap.IsTupleIter.at s e
  | txt x =>
    obtain ⟨o, ho, r⟩ := s
    exact ⟨o, e o ho, r⟩
theorem Kd.obj {k : Kd} {t : Tok} {it : Addr} {i : Nat} {h : Heap} (s : k.at t it i h) : ∃ o, h.get? it = some o ∧ ∀ v, o.data ≠ .cell v := by
  cases k with
  | lst a =>
    obtain ⟨o, e, _, d⟩ := s
    exact ⟨o, e, fun v q => by rw [d] at q; cases q⟩
  | tup a =>
    obtain ⟨o, e, _, d⟩ := s
    exact ⟨o, e, fun v q => by rw [d] at q; cases q⟩
  | txt x =>
    obtain ⟨o, e, _, d⟩ := s
    exact ⟨o, e, fun v q => by rw [d] at q; cases q⟩
section
variable {X : Cx} {pins : List (Addr × Obj)} {σ : L2.St} {H : Hp} {s : Shared}
theorem Kd.inj {k : Kd} {xs ys : List V} (I : Inv X pins σ H s) (h : k.src X.K H xs) (h' : k.src X.K H ys) : xs = ys := by
  cases k with
  | lst a => exact I.list_inj h h'
  | tup a => exact I.tuple_inj h h'
  | txt x => exact Eq.trans h (Eq.symm h')
/-- the iterator over a source, as it stands now -/
theorem Kd.draws {k : Kd} {t : Tok} {it : Addr} {xs : List V} (I : Inv X pins σ H s) (hc : X.calm = true) (hs : k.src X.K H xs) {b : Nat} (hl : k.low b) (hb : b ≤ it) :
    ∃ (fp : List Addr) (P : Nat → Value → Prop) (St : Nat → Heap → Prop), Draws X.prog X.w X.A.in1 it fp xs.length P St ∧ it ∈ fp ∧ (∀ c ∈ fp, c = it ∨ c < b) ∧ (∀ i, k.at t it i s.heap → St i s.heap) ∧ (∀ i h, St i h → k.at t it i h) ∧ ∀ i v, P i v → ∃ x, xs[i]? = some x ∧ RelV x v := by
  have hh : X.A.in1.handled = none := I.ok.hd hc
  cases k with
  | lst a =>
    obtain ⟨its, rv, p, _⟩ := I.list hs
    have ne : a ≠ it := Nat.ne_of_lt (Nat.lt_of_lt_of_le hl hb)
    have D := Draws.list (prog := X.prog) (w := X.w) hh it a ne its.toArray
    have e : its.toArray.size = xs.length := by simp [rv.length]
    rw [e] at D
    refine ⟨_, _, _, D, by simp, fun c hc => ?_, fun i st => ⟨st, p.isList⟩, fun i h st => st.1, fun i v h => ?_⟩
    · simp at hc
      rcases hc with e | e
      · exact .inl e
      · subst e
        exact .inr hl
    · have h : its[i]? = some v := by simpa using h
      have hi : i < xs.length := by
        have := (List.getElem?_eq_some_iff.mp h).1
        rw [rv.length]
        exact this
      obtain ⟨u, hu, ru⟩ := rv.get (List.getElem?_eq_getElem hi)
      rw [h] at hu
      cases hu
      exact ⟨_, List.getElem?_eq_getElem hi, ru⟩
  | tup a =>
    obtain ⟨its, rv, p, _⟩ := I.tuple hs
    have ne : a ≠ it := Nat.ne_of_lt (Nat.lt_of_lt_of_le hl hb)
    have D := Draws.tuple (prog := X.prog) (w := X.w) hh it a ne its.toArray
    have e : its.toArray.size = xs.length := by simp [rv.length]
    rw [e] at D
    refine ⟨_, _, _, D, by simp, fun c hc => ?_, fun i st => ⟨st, p⟩, fun i h st => st.1, fun i v h => ?_⟩
    · simp at hc
      rcases hc with e | e
      · exact .inl e
      · subst e
        exact .inr hl
    · have h : its[i]? = some v := by simpa using h
      have hi : i < xs.length := by
        have := (List.getElem?_eq_some_iff.mp h).1
        rw [rv.length]
        exact this
      obtain ⟨u, hu, ru⟩ := rv.get (List.getElem?_eq_getElem hi)
      rw [h] at hu
      cases hu
      exact ⟨_, List.getElem?_eq_getElem hi, ru⟩
  | txt x =>
    have hs : xs = x.cps.toList.map fun c => V.str ⟨#[c]⟩ := hs
    subst hs
    have D := Draws.text (prog := X.prog) (w := X.w) hh it x t
    have e : (x.cps.toList.map fun c => V.str ⟨#[c]⟩).length = x.cps.size := by simp
    rw [e]
    refine ⟨_, _, _, D, by simp, fun c hc => .inl (by simpa using hc), fun i st => st, fun i h st => st, fun i v ⟨c, u, h1, h2⟩ => ?_⟩
    refine ⟨.str ⟨#[c]⟩, ?_, u, h2⟩
    rw [List.getElem?_map]
    have : x.cps.toList[i]? = some c := by simpa using h1
    rw [this]
    rfl
end
def ZAt (strict : Bool) (h : Heap) (z ins held : Addr) (v : Value) : Prop := if strict then StrictZip h z ins held v else IsZip h z ins held v
def ItzK (K : PySem.W.Frag) (k1 k2 : Kd) (strict : Bool) : It :=
  ⟨fun i H => ∃ xs ys : List V, k1.src K H xs ∧ k2.src K H ys ∧ i < xs.length ∧ i < ys.length ∧ (strict = true → xs.length = ys.length),
    fun i H v H' => ∃ T x y, v = .ref T ∧ H T = none ∧ H' = upd H T (.tup [x, y]) ∧ (∀ xs, k1.src K H xs → xs[i]? = some x) ∧ ∀ ys, k2.src K H ys → ys[i]? = some y,
    fun i H => ∃ xs ys : List V, k1.src K H xs ∧ k2.src K H ys ∧ i ≤ xs.length ∧ i ≤ ys.length ∧ (i = xs.length ∨ i = ys.length) ∧ (strict = true → xs.length = ys.length)⟩
theorem ne_add {b c d : Nat} (h : c ≠ d) : b + c ≠ b + d := by omega
theorem zno {b k : Nat} (h : k ≠ 0) (_ : 0 ≠ k) : ¬ (b + k = b ∨ b + k < b) := by omega
theorem zno2 {b k : Nat} (h : k ≠ 1) : ¬ (b + k = b + 1 ∨ b + k < b) := by omega
theorem zsep {b : Nat} {f1 f2 : List Addr} (m1 : b ∈ f1) (m2 : b + 1 ∈ f2) (h1 : ∀ c ∈ f1, c = b ∨ c < b) (h2 : ∀ c ∈ f2, c = b + 1 ∨ c < b) : ZipSep2 (b + 4) (b + 2) (b + 3) b (b + 1) f1 f2 where
  TIz := ne_add (by decide)
  TOz := ne_add (by decide)
  TITO := ne_add (by decide)
  TIi1 := ne_add (c := 2) (d := 0) (by decide)
  mem1 := m1
  zf1 := fun h => zno (by decide) (by decide) (h1 _ h)
  Tf1 := fun h => zno (by decide) (by decide) (h1 _ h)
  TIi2 := ne_add (by decide)
  mem2 := m2
  zf2 := fun h => zno2 (by decide) (h2 _ h)
  Tf2 := fun h => zno2 (by decide) (h2 _ h)
  sep1_2 := fun h => zno2 (k := 0) (by decide) (h2 _ h)
  sep2_1 := fun h => zno (by decide) (by decide) (h1 _ h)
theorem turn_zipK {P : Program} {w : World} {K : PySem.W.Frag} {elts : List Expr} {kk : Nat} {tpos : Pos} {k1 k2 : Kd} {u1 u2 : Tok} {strict : Bool} {b : Nat} (l1 : k1.low b) (l2 : k2.low b) :
    Turn P w K (.Tuple elts kk tpos) (ItzK K k1 k2 strict) [b + 4, b + 2, b + 3, b, b + 1] (b + 4) (fun i h => ZAt strict h (b + 4) (b + 2) (b + 3) .none ∧ IsTupOf2 h (b + 2) (.ref b) (.ref (b + 1)) ∧ (∃ u v, IsTupOf2 h (b + 3) u v) ∧ k1.at u1 b i h ∧ k2.at u2 (b + 1) i h) where
  mem := by simp
  obj := fun i h st c hc => by
    obtain ⟨hz, hI, ⟨x, y, hO⟩, s1, s2⟩ := st
    simp only [List.mem_cons, List.not_mem_nil, or_false] at hc
    rcases hc with rfl | rfl | rfl | rfl | rfl
    · cases strict
      · exact ⟨_, hz, fun v q => nomatch q⟩
      · exact ⟨_, hz, fun v q => nomatch q⟩
    · exact ⟨_, hI, fun v q => nomatch q⟩
    · exact ⟨_, hO, fun v q => nomatch q⟩
    · exact Kd.obj s1
    · exact Kd.obj s2
  keep := fun i h h' st k => by
    obtain ⟨hz, hI, ⟨x, y, hO⟩, s1, s2⟩ := st
    refine ⟨?_, k _ (by simp) _ hI, ⟨x, y, k _ (by simp) _ hO⟩, Kd.keep s1 fun o e => k _ (by simp) o e, Kd.keep s2 fun o e => k _ (by simp) o e⟩
    cases strict
    · exact k (b + 4) (by simp) _ hz
    · exact k (b + 4) (by simp) _ hz
  item := by
    intro X hP hw hK hc i pins s σ H E I hf st hg
    subst hP hw hK
    obtain ⟨hz, hI, ⟨x0, y0, hO⟩, s1, s2⟩ := st
    obtain ⟨xs, ys, hx, hy, i1, i2, hst⟩ := hg
    obtain ⟨f1, P1, S1, D1, m1, b1, t1, o1, v1⟩ := Kd.draws (t := u1) (it := b) I hc hx l1 (Nat.le_refl _)
    obtain ⟨f2, P2, S2, D2, m2, b2, t2, o2, v2⟩ := Kd.draws (t := u2) (it := b + 1) I hc hy l2 (Nat.le_succ _)
    have S := zsep m1 m2 b1 b2
    have lt : b + 4 < s.heap.objs.size := by cases strict <;> exact Heap.lt_size hz
    have fin : ∀ (x y : Value) (h' h2 : Heap) (tk : Tok), P1 i x → P2 i y → ZAt strict h2 (b + 4) (b + 2) (b + 3) .none → Heap.SameBut (b + 4) h' h2 → IsTupOf2 h' (b + 3) x y → S1 (i + 1) h' → S2 (i + 1) h' → IsTupOf2 h' s.heap.objs.size x y →
        (∀ c o, c ≠ b + 4 → c ≠ b + 3 → c ≠ b → c ≠ b + 1 → s.heap.get? c = some o → h'.get? c = some o) →
        ∃ (v : V) (H' : Hp), Inv X pins σ H' { s with heap := h2, toks := tk } ∧ RelV v (.ref s.heap.objs.size) ∧ (ItzK X.K k1 k2 strict).yld i H v H' ∧
          (ZAt strict h2 (b + 4) (b + 2) (b + 3) .none ∧ IsTupOf2 h2 (b + 2) (.ref b) (.ref (b + 1)) ∧ (∃ u v, IsTupOf2 h2 (b + 3) u v) ∧ k1.at u1 b (i + 1) h2 ∧ k2.at u2 (b + 1) (i + 1) h2) ∧ ∀ c ∈ [b + 4, b + 2, b + 3, b, b + 1], H' c = none := by
      intro x y h' h2 tk px py z2 sb o' a1 a2 new kp
      obtain ⟨u, gu, ru⟩ := v1 i x px
      obtain ⟨v, gv, rv⟩ := v2 i y py
      have up : ∀ c o, c ≠ b + 4 → h'.get? c = some o → h2.get? c = some o := fun c o ne e => (sb.2 c ne).trans e
      have new2 : IsTupOf2 h2 s.heap.objs.size x y := up _ _ (Nat.ne_of_gt lt) new
      have ok : ObjOk X.prog X.w (upd H s.heap.objs.size (.tup [u, v])) h2 s.heap.objs.size (.tup [u, v]) :=
        ⟨by show 2 ≤ sizeLine; decide, [x, y], .cons ru (.cons rv .nil), ⟨_, new2, rfl, _, rfl⟩⟩
      have I1 : Inv X pins σ (upd H s.heap.objs.size (.tup [u, v])) { s with heap := h2, toks := tk } :=
        I.turnedNew (t' := tk) (ch := [b + 4, b + 2, b + 3, b, b + 1]) (fun c o hb q => up c o (fun q' => hb (by simp [q'])) (kp c o (fun q' => hb (by simp [q'])) (fun q' => hb (by simp [q'])) (fun q' => hb (by simp [q'])) (fun q' => hb (by simp [q'])) q)) hf (Nat.le_refl _) ok
      refine ⟨.ref s.heap.objs.size, _, I1, rfl, ⟨_, u, v, rfl, I.hok.fresh (Nat.le_refl _), rfl, fun l hl => by rw [Kd.inj I hl hx]; exact gu, fun l hl => by rw [Kd.inj I hl hy]; exact gv⟩, ⟨z2, ?_, ⟨x, y, up _ _ (ne_add (by decide)) o'⟩, ?_, ?_⟩, fun c hcm => ?_⟩
      · exact up _ _ (ne_add (by decide)) (kp _ _ (ne_add (by decide)) (ne_add (by decide)) (ne_add (c := 2) (d := 0) (by decide)) (ne_add (by decide)) hI)
      · exact Kd.keep (o1 _ _ a1) fun o e => up _ _ (ne_add (c := 0) (d := 4) (by decide)) e
      · exact Kd.keep (o2 _ _ a2) fun o e => up _ _ (ne_add (by decide)) e
      · have hlt : c < s.heap.objs.size := by
          simp only [List.mem_cons, List.not_mem_nil, or_false] at hcm
          have lt : (b : Nat) + 4 < s.heap.objs.size := lt
          rcases hcm with rfl | rfl | rfl | rfl | rfl
          · exact lt
          · exact Nat.lt_trans (Nat.add_lt_add_left (by decide) b) lt
          · exact Nat.lt_trans (Nat.add_lt_add_left (by decide) b) lt
          · exact Nat.lt_of_le_of_lt (Nat.le_add_right _ 4) lt
          · exact Nat.lt_trans (Nat.add_lt_add_left (by decide) b) lt
        rw [upd_ne (Nat.ne_of_lt hlt)]
        exact (hf c hcm).1
    cases strict with
    | false =>
      refine wpAny_pyNext_zipD2_item S D1 D2 hz hI hO (t1 _ s1) (t2 _ s2) i1 i2 fun x y h' tk px py z' o' a1 a2 new _ kp => ?_
      exact ⟨_, rfl, wpAny_letOwnedTupleGo_zip (s := { s with heap := h', toks := tk }) z' fun h2 z2 sb => fin x y h' h2 tk px py z2 sb o' a1 a2 new kp⟩
    | true =>
      have e := hst rfl
      rw [← e] at D2
      refine next_more S D1 D2 hz hI hO (t1 _ s1) (t2 _ s2) i1 fun x y h' tk px py z' o' a1 a2 new _ kp => ?_
      exact ⟨_, rfl, go_strict (s := { s with heap := h', toks := tk }) z' fun h2 z2 sb => fin x y h' h2 tk px py z2 sb o' a1 a2 new fun c o c1 c2 c3 c4 q => kp c o (by simp only [List.mem_cons, List.not_mem_nil, or_false, not_or]; exact ⟨c1, c2, c3, c4⟩) q⟩
  done := by
    intro X hP hw hK hc i pins s σ H E I hf st hg
    subst hP hw hK
    obtain ⟨hz, hI, ⟨x0, y0, hO⟩, s1, s2⟩ := st
    obtain ⟨xs, ys, hx, hy, i1, i2, he, hst⟩ := hg
    obtain ⟨f1, P1, S1, D1, m1, b1, t1, o1, v1⟩ := Kd.draws (t := u1) (it := b) I hc hx l1 (Nat.le_refl _)
    obtain ⟨f2, P2, S2, D2, m2, b2, t2, o2, v2⟩ := Kd.draws (t := u2) (it := b + 1) I hc hy l2 (Nat.le_succ _)
    have S := zsep m1 m2 b1 b2
    cases strict with
    | false => exact wpAny_pyNext_zipD2_end S D1 D2 hz hI hO (t1 _ s1) (t2 _ s2) i1 i2 he fun h' tk k => ⟨rfl, I.turnedL (t' := tk) (ch := [b + 4, b + 2, b + 3, b, b + 1]) (fun c o hb q =>
        k c o (fun q' => hb (by simp [q'])) (fun q' => hb (by simp [q'])) (fun q' => hb (by simp [q'])) (fun q' => hb (by simp [q'])) q) hf⟩
    | true =>
      have e := hst rfl
      have ei : i = xs.length := by omega
      subst ei
      rw [← e] at D2
      exact next_none (I.ok.hd hc) S D1 D2 hz hI (t1 _ s1) (t2 _ s2) fun h' tk k => ⟨rfl, I.turnedL (t' := tk) (ch := [b + 4, b + 2, b + 3, b, b + 1]) (fun c o hb q => k c o (fun q' => hb (by simp only [List.mem_cons, List.not_mem_nil, or_false] at q' ⊢; rcases q' with h | h | h | h <;> simp [h])) q) hf⟩
  self := fun A i s Q E st h => by
    cases strict
    · exact wpAny_pyIter_zip st.1 h
    · exact iter_strict st.1 h
end N
set_option Elab.async false
set_option linter.all false
set_option maxRecDepth 100000
set_option maxHeartbeats 1000000
namespace PySem
open Sem (wp)
theorem tc_strict (a b : Value) : checkTypeCall "zip" ⟨[a, b], [(Str.ofString "strict", .bool true)]⟩ = pure () := by kernel_rfl
theorem nc_strict (a b : Value) : checkBuiltinCall "zip.__new__" ⟨[.type "zip", a, b], [(Str.ofString "strict", .bool true)]⟩ = pure () := by kernel_rfl
theorem ao_strict (obj a b : Value) : argsOk "object.__init__" ⟨[obj, a, b], [(Str.ofString "strict", .bool true)]⟩ := by unfold argsOk; kernel_rfl
def zs1 (h : Heap) (p q : Obj) : Heap := (h.push p).push q
def zs2 (h : Heap) (p q : Obj) : Heap := (zs1 h p q).push { cls := .type "tuple", data := .seq #[.ref h.objs.size, .ref (h.push p).objs.size] }
def zs3 (h : Heap) (p q : Obj) : Heap := (zs2 h p q).push { cls := .type "tuple", data := .seq #[.none, .none] }
def zs4 (h : Heap) (p q : Obj) : Heap := (zs3 h p q).push { cls := .type "zip", data := .fields #[.none, .bool false, .bool true, .ref (zs1 h p q).objs.size, .ref (zs2 h p q).objs.size] }
theorem meets_strict {v1 v2 : Value} {p q : Obj} {H1 H2 : Heap → Prop} (B1 : Begins v1 p H1) (B2 : Begins v2 q H2) :
    Meets (Builtin.«zip.__new__» ⟨[.type "zip", v1, v2], [(Str.ofString "strict", .bool true)]⟩) (fun _ R s => (H1 s.heap ∧ H2 s.heap) ∧ R (.ok (.ret (.ref (zs3 s.heap p q).objs.size))) { s with heap := zs4 s.heap p q }) :=
  .of_wp fun prog w A R s h => by
    obtain ⟨hp, g, d, tk, os⟩ := s
    obtain ⟨⟨a1, a2⟩, h⟩ := h
    have hsub := sub_zip
    have q1 : ∀ {A' : Around} {E : Value → Shared → Prop} {Q : Value → Shared → Prop}, Q (.ref hp.objs.size) ⟨hp.push p, g, d, tk, os⟩ → wpAny (model prog w) A' (pyIter v1) Q E ⟨hp, g, d, tk, os⟩ :=
      fun z => B1.iter prog w _ _ ⟨hp, g, d, tk, os⟩ _ a1 z
    have q2 : ∀ {A' : Around} {E : Value → Shared → Prop} {Q : Value → Shared → Prop}, Q (.ref (hp.push p).objs.size) ⟨(hp.push p).push q, g, d, tk, os⟩ → wpAny (model prog w) A' (pyIter v2) Q E ⟨hp.push p, g, d, tk, os⟩ :=
      fun z => B2.iter prog w _ _ ⟨hp.push p, g, d, tk, os⟩ _ (B2.keeps _ _ a2 fun b o e => Heap.get?_push_of_some _ e) z
    wp_walk using q1, q2
    exact ⟨_, rfl, h⟩
section
variable {prog : Program} {w : World} {A : Around} {E : Value → Shared → Prop} {s : Shared}
theorem strict_begins {v1 v2 : Value} {p q : Obj} {H1 H2 : Heap → Prop} {Q : Value → Shared → Prop} (B1 : Begins v1 p H1) (B2 : Begins v2 q H2) (a1 : H1 s.heap) (a2 : H2 s.heap) {b : Nat} (hb : b = s.heap.objs.size)
    (h : ∀ h', StrictZip h' (b + 4) (b + 2) (b + 3) .none → IsTupOf2 h' (b + 2) (.ref b) (.ref (b + 1)) → IsTupOf2 h' (b + 3) .none .none → h'.get? b = some p → h'.get? (b + 1) = some q →
      (∀ c o, s.heap.get? c = some o → h'.get? c = some o) → Q (.ref (b + 4)) { s with heap := h' }) : wpAny (model prog w) A (call (.type "zip") [v1, v2] [(Str.ofString "strict", .bool true)]) Q E s := by
  subst hb
  refine callType_newKw F.called_zip (by decide) (tc_strict _ _) (nc_strict _ _) (fun obj => ao_strict obj _ _) F.entry_zip_new (meets_strict B1 B2) ⟨⟨a1, a2⟩, ?_⟩
  have e0 : (s.heap.push p).objs.size = s.heap.objs.size + 1 := Heap.size_push ..
  have e1 : (zs1 s.heap p q).objs.size = s.heap.objs.size + 2 := by unfold zs1; rw [Heap.size_push, e0]
  have e2 : (zs2 s.heap p q).objs.size = s.heap.objs.size + 3 := by unfold zs2; rw [Heap.size_push, e1]
  have e3 : (zs3 s.heap p q).objs.size = s.heap.objs.size + 4 := by unfold zs3; rw [Heap.size_push, e2]
  have up0 : ∀ c o, s.heap.get? c = some o → (s.heap.push p).get? c = some o := fun c o e => Heap.get?_push_of_some _ e
  have up1 : ∀ c o, (s.heap.push p).get? c = some o → (zs1 s.heap p q).get? c = some o := fun c o e => Heap.get?_push_of_some _ e
  have up2 : ∀ c o, (zs1 s.heap p q).get? c = some o → (zs2 s.heap p q).get? c = some o := fun c o e => Heap.get?_push_of_some _ e
  have up3 : ∀ c o, (zs2 s.heap p q).get? c = some o → (zs3 s.heap p q).get? c = some o := fun c o e => Heap.get?_push_of_some _ e
  have up4 : ∀ c o, (zs3 s.heap p q).get? c = some o → (zs4 s.heap p q).get? c = some o := fun c o e => Heap.get?_push_of_some _ e
  have gZ : (zs4 s.heap p q).get? (s.heap.objs.size + 4) = some { cls := .type "zip", data := .fields #[.none, .bool false, .bool true, .ref (s.heap.objs.size + 2), .ref (s.heap.objs.size + 3)] } := by
    have := Heap.get?_push_size (zs3 s.heap p q) (o := { cls := .type "zip", data := .fields #[.none, .bool false, .bool true, .ref (zs1 s.heap p q).objs.size, .ref (zs2 s.heap p q).objs.size] }) rfl
    rw [e3, e1, e2] at this
    unfold zs4
    rw [e1, e2]
    exact this
  have gO : (zs3 s.heap p q).get? (s.heap.objs.size + 3) = some { cls := .type "tuple", data := .seq #[.none, .none] } := by
    have := Heap.get?_push_size (zs2 s.heap p q) (o := { cls := .type "tuple", data := .seq #[.none, .none] }) rfl
    rw [e2] at this
    exact this
  have gT : (zs2 s.heap p q).get? (s.heap.objs.size + 2) = some { cls := .type "tuple", data := .seq #[.ref s.heap.objs.size, .ref (s.heap.objs.size + 1)] } := by
    have := Heap.get?_push_size (zs1 s.heap p q) (o := { cls := .type "tuple", data := .seq #[.ref s.heap.objs.size, .ref (s.heap.push p).objs.size] }) rfl
    rw [e1, e0] at this
    unfold zs2
    rw [e0]
    exact this
  have g1 : (s.heap.push p).get? s.heap.objs.size = some p := Heap.get?_push_size _ B1.free
  have g2 : (zs1 s.heap p q).get? (s.heap.objs.size + 1) = some q := by
    have := Heap.get?_push_size (s.heap.push p) (o := q) B2.free
    rw [e0] at this
    exact this
  show _ ∧ _
  rw [e3]
  exact ⟨⟨_, gZ, rfl⟩, h _ gZ (up4 _ _ (up3 _ _ gT)) (up4 _ _ gO) (up4 _ _ (up3 _ _ (up2 _ _ (up1 _ _ g1)))) (up4 _ _ (up3 _ _ (up2 _ _ g2))) fun c o e => up4 _ _ (up3 _ _ (up2 _ _ (up1 _ _ (up0 _ _ e))))⟩
end
end PySem
namespace N
open PySem PySem.Spec PyProof.Rows L2
open C8 (Cal Met Mak InsC pe_c pe_mt pe_mt0 pe_mk)
section
variable {X : Cx} {pins : List (Addr × Obj)} {σ : L2.St} {H : Hp} {s : Shared}
theorem Kd.begins {k : Kd} {xs : List V} {u : Value} (I : Inv X pins σ H s) (hs : k.src X.K H xs) (r : RelV k.v u) :
    k.low s.heap.objs.size ∧ ∃ (t : Tok) (o : Obj) (Hq : Heap → Prop), Begins u o Hq ∧ Hq s.heap ∧ ∀ (h : Heap) (it : Addr), h.get? it = some o → k.at t it 0 h := by
  cases k with
  | lst a =>
    cases r
    obtain ⟨its, rv, p, _⟩ := I.list hs
    exact ⟨p.lt, default, _, _, begins_list a its.toArray, p.isList, fun h it e => ⟨_, e, rfl, rfl⟩⟩
  | tup a =>
    cases r
    obtain ⟨its, rv, p, _⟩ := I.tuple hs
    obtain ⟨o, ho, _⟩ := id p
    exact ⟨Heap.lt_size ho, default, _, _, begins_tuple a its.toArray, p, fun h it e => ⟨_, e, rfl, rfl⟩⟩
  | txt x =>
    obtain ⟨t, rfl⟩ := r
    exact ⟨trivial, t, _, _, begins_text x t, trivial, fun h it e => ⟨_, e, rfl, rfl⟩⟩
end
def iZipK (K : PySem.W.Frag) (strict : Bool) (ta : TA) : TI := fun σ H R => ta σ H fun vs H1 => ∃ (k1 k2 : Kd) (xs ys : List V), vs = [k1.v, k2.v] ∧ k1.src K H1 xs ∧ k2.src K H1 ys ∧ R (ItzK K k1 k2 strict) H1
theorem pi_zipK {X : Cx} {e e2 : Expr} {ta : TA} {p pos tpos : Pos} {elts : List Expr} {kk : Nat} (hg : Gl X "zip") (hm : X.mg "zip" = none) (ha : PA X [e, e2] ta)
    (hs : starEach [e, e2] X.env = (false, eval e X.env) :: starEach [e2] X.env := by rfl) (hpl : (backTo pos (starEach [e2] X.env)).any (·.1) = false := by rfl) :
    PI X (.Tuple elts kk tpos) (.Call (.Name "zip" p) [e, e2] [] pos) (iZipK X.K false ta) := by
  refine ⟨fun pins s σ H R I h => ?_⟩
  refine Call_ (ld_blt I hg hm PyProof.Rows.boot_zip (PyProof.Rows.callWith_type1 (thn (ha.run pos pins s σ H _ I h) fun us s1 ⟨vs, H1, I1, r1, q1⟩ => ?_) hs hpl))
  obtain ⟨k1, k2, xs, ys, ex, hx, hy, q⟩ := q1
  subst ex
  cases r1 with
  | cons r rr =>
    cases rr with
    | cons r' rr =>
      cases rr
      obtain ⟨l1, t1, o1, G1, B1, g1, z1⟩ := Kd.begins I1 hx r
      obtain ⟨l2, t2, o2, G2, B2, g2, z2⟩ := Kd.begins I1 hy r'
      refine zip_begins2 B1 B2 g1 g2 fun h' hz hI hO e1 e2 _ kp => wpAny_pyIter_zip hz ?_
      have I2 : Inv X pins σ H1 { s1 with heap := h' } := I1.kept (t' := s1.toks) kp
      refine ⟨_, _, _, _, H1, rfl, I2, turn_zipK (b := s1.heap.objs.size) (strict := false) (u1 := t1) (u2 := t2) l1 l2, ⟨hz, hI, ⟨_, _, hO⟩, z1 _ _ e1, z2 _ _ e2⟩, fun c hc => ?_, q⟩
      have le : s1.heap.objs.size ≤ c := by
        simp only [List.mem_cons, List.not_mem_nil, or_false] at hc
        rcases hc with rfl | rfl | rfl | rfl | rfl
        · exact Nat.le_add_right _ _
        · exact Nat.le_add_right _ _
        · exact Nat.le_add_right _ _
        · exact Nat.le_refl _
        · exact Nat.le_add_right _ _
      exact I1.fpOk le (I1.hok.fresh le)
theorem pi_zipS {X : Cx} {e e2 : Expr} {ta tk : TA} {p pos tpos : Pos} {elts : List Expr} {kk : Nat} {kws : List Keyword} (hg : Gl X "zip") (hm : X.mg "zip" = none) (ha : PA X [e, e2] ta) (hk : PK X kws tk)
    (hall : (backToKw pos (keywordEach kws X.env)).all (·.1.isSome) = true := by rfl) (hks : (backToKw pos (keywordEach kws X.env)).filterMap (·.1) = [Str.ofString "strict"] := by rfl)
    (hs : starEach [e, e2] X.env = (false, eval e X.env) :: starEach [e2] X.env := by rfl)
    (hpl : ((backTo pos (starEach [e, e2] X.env)).any (·.1) || (backToKw pos (keywordEach kws X.env)).any (·.1.isNone)) = false := by rfl) :
    PI X (.Tuple elts kk tpos) (.Call (.Name "zip" p) [e, e2] kws pos) (fun σ H R => ta σ H fun vs H1 => tk σ H1 fun zs H2 => zs = [.bl true] ∧ ∃ (k1 k2 : Kd) (xs ys : List V), vs = [k1.v, k2.v] ∧ k1.src X.K H2 xs ∧ k2.src X.K H2 ys ∧ R (ItzK X.K k1 k2 true) H2) := by
  refine ⟨fun pins s σ H R I h => ?_⟩
  refine wpAny_Call_Name_kw (ld_blt I hg hm PyProof.Rows.boot_zip ?_)
  refine PySem.W.callWith_of (P := fun _ => True) hpl (fun h _ => ⟨Keeper.machine, .inr (.inl rfl), .of_pure rfl⟩) ?_
  refine evalArgs_kw2 hall (thn (ha.run pos pins s σ H _ I h) fun us s1 ⟨vs, H1, I1, r1, q1⟩ => thn (hk.run pos pins s1 σ H1 _ I1 q1) fun ws s2 ⟨zs, H2, I2, r2, ez, q2⟩ => ⟨trivial, ?_⟩) hs
  obtain ⟨k1, k2, xs, ys, ex, hx, hy, q⟩ := q2
  subst ez ex
  rw [hks]
  obtain ⟨w, rfl, rw'⟩ := vals1 r2
  cases rw'
  cases r1 with
  | cons r rr =>
    cases rr with
    | cons r' rr =>
      cases rr
      obtain ⟨l1, t1, o1, G1, B1, g1, z1⟩ := Kd.begins I2 hx r
      obtain ⟨l2, t2, o2, G2, B2, g2, z2⟩ := Kd.begins I2 hy r'
      refine strict_begins B1 B2 g1 g2 rfl fun h' hz hI hO e1 e2 kp => iter_strict hz ?_
      have I3 : Inv X pins σ H2 { s2 with heap := h' } := I2.kept (t' := s2.toks) kp
      refine ⟨_, _, _, _, H2, rfl, I3, turn_zipK (b := s2.heap.objs.size) (strict := true) (u1 := t1) (u2 := t2) l1 l2, ⟨hz, hI, ⟨_, _, hO⟩, z1 _ _ e1, z2 _ _ e2⟩, fun c hc => ?_, q⟩
      have le : s2.heap.objs.size ≤ c := by
        simp only [List.mem_cons, List.not_mem_nil, or_false] at hc
        rcases hc with rfl | rfl | rfl | rfl | rfl
        · exact Nat.le_add_right _ _
        · exact Nat.le_add_right _ _
        · exact Nat.le_add_right _ _
        · exact Nat.le_refl _
        · exact Nat.le_add_right _ _
      exact I2.fpOk le (I2.hok.fresh le)
def iZipS (K : PySem.W.Frag) (ta tk : TA) : TI := fun σ H R => ta σ H fun vs H1 => tk σ H1 fun zs H2 => zs = [.bl true] ∧ ∃ (k1 k2 : Kd) (xs ys : List V), vs = [k1.v, k2.v] ∧ k1.src K H2 xs ∧ k2.src K H2 ys ∧ R (ItzK K k1 k2 true) H2
section
variable {F : FmKit} {T : Kx} {C H H' O O' : Hp} {G : Gm} {W W' : Om} {R : D → Om → Prop} {d e : D} {l m : List D} {ta tk : TA}
/-- a datum that zip takes: list, tuple, text; nothing that is still written -/
def Zs (d : D) (l : List D) : Prop := d = .lst l ∨ d = .tup l ∨ ∃ x : Str, d = .str x ∧ l = x.cps.toList.map fun c => D.str ⟨#[c]⟩
def pairs2 (l m : List D) : List D := (l.zip m).map fun p => .tup [p.1, p.2]
theorem den_chars (x : Str) : DenL F T H (x.cps.toList.map fun c => D.str ⟨#[c]⟩) (x.cps.toList.map fun c => V.str ⟨#[c]⟩) := by
  induction x.cps.toList with
  | nil => rfl
  | cons c cs ih => exact ⟨_, _, rfl, rfl, ih⟩
/-- the source at the machine; it stands -/
theorem Zs.kd {x : V} (h : Zs d l) (k : Den F T H d x) : ∃ (kd : Kd) (xs : List V), x = kd.v ∧ DenL F T H l xs ∧ ∀ H2 O2, Same H H2 → Dis O2 H2 → kd.src T.K (ov O2 H2) xs := by
  rcases h with rfl | rfl | ⟨z, rfl, rfl⟩
  · obtain ⟨a, xs, e, hs, kl⟩ := k
    exact ⟨.lst a, xs, e, kl, fun H2 O2 s di => di.same.seq (s.seq (SqL.of hs))⟩
  · obtain ⟨a, xs, e, hs, kl⟩ := k
    exact ⟨.tup a, xs, e, kl, fun H2 O2 s di => Same.sqT di.same (Same.sqT s hs)⟩
  · have k : x = .str z := k
    exact ⟨.txt z, _, k, den_chars z, fun _ _ _ _ => rfl⟩
theorem pairs2_len : (pairs2 l m).length = min l.length m.length := by simp [pairs2]
theorem pairs2_get {i : Nat} {z : D} (h : (pairs2 l m)[i]? = some z) : ∃ x y, l[i]? = some x ∧ m[i]? = some y ∧ z = .tup [x, y] := by
  unfold pairs2 at h
  rw [List.getElem?_map] at h
  obtain ⟨p, hp, e⟩ := Option.map_eq_some_iff.mp h
  rw [List.getElem?_zip_eq_some] at hp
  exact ⟨p.1, p.2, hp.1, hp.2, e.symm⟩
/-- the walk over a zip -/
theorem wk_zip {H1 : Hp} {k1 k2 : Kd} {xs ys : List V} {strict : Bool} (a1 : DenL F T H1 l xs) (a2 : DenL F T H1 m ys) (s1 : ∀ H2 O2, Same H1 H2 → Dis O2 H2 → k1.src T.K (ov O2 H2) xs) (s2 : ∀ H2 O2, Same H1 H2 → Dis O2 H2 → k2.src T.K (ov O2 H2) ys) (e : strict = true → l.length = m.length) :
    Wk F T (ItzK T.K k1 k2 strict) H1 (pairs2 l m) := fun i H2 O2 s di => by
  refine ⟨fun d hd => ?_, fun ei => ?_⟩
  · obtain ⟨x, y, hx, hy, rfl⟩ := pairs2_get hd
    obtain ⟨u, hu, ku⟩ := a1.get hx
    obtain ⟨v, hv, kv⟩ := a2.get hy
    have i1 := (List.getElem?_eq_some_iff.mp hu).1
    have i2 := (List.getElem?_eq_some_iff.mp hv).1
    refine ⟨⟨xs, ys, s1 _ _ s di, s2 _ _ s di, i1, i2, fun z => by rw [a1.len, a2.len]; exact e z⟩, fun w X ⟨Tp, u', v', e1, e2, e3, e4, e5⟩ => ?_⟩
    have hu' := e4 xs (s1 _ _ s di)
    have hv' := e5 ys (s2 _ _ s di)
    rw [hu] at hu'
    rw [hv] at hv'
    cases hu'
    cases hv'
    obtain ⟨h1, h2⟩ := ov_none e2
    have sm := same_upd (o := .tup [u, v]) h2
    refine ⟨upd H2 Tp (.tup [u, v]), sm, di.updH h1, by rw [e3, ov_updH h1], Tp, _, e1, SqT.of upd_same, ?_⟩
    exact ⟨u, _, rfl, (ku.mono s).mono sm, v, _, rfl, (kv.mono s).mono sm, rfl⟩
  · rw [pairs2_len] at ei
    have h1 := a1.len
    have h2 := a2.len
    exact ⟨xs, ys, s1 _ _ s di, s2 _ _ s di, by omega, by omega, by omega, fun z => by rw [h1, h2]; exact e z⟩
theorem ei_zipK {Y : List D → Om → Prop} (h : EvA F T ta G W fun ds W1 => ∃ d e l m, ds = [d, e] ∧ Zs d l ∧ Zs e m ∧ Y (pairs2 l m) W1) : EvI F T (iZipK T.K false ta) G W Y := fun C H O σ w Q q =>
  h C H O σ w _ fun ds W1 H1 O1 us ⟨d, e, l, m, ed, z1, z2, y⟩ n k => by
    subst ed
    obtain ⟨x, r, e1, k1, x2, r2, e2, k2, e3⟩ := k
    have e3 : r2 = [] := e3
    subst e3 e2 e1
    obtain ⟨kd1, xs, ex, a1, s1⟩ := z1.kd k1
    obtain ⟨kd2, ys, ey, a2, s2⟩ := z2.kd k2
    subst ex ey
    exact ⟨kd1, kd2, xs, ys, rfl, s1 _ _ (.refl _) n.dis, s2 _ _ (.refl _) n.dis, q _ _ W1 H1 O1 y n (wk_zip a1 a2 s1 s2 fun z => by cases z)⟩
theorem ei_zipS {Y : List D → Om → Prop} (h : EvA F T ta G W fun ds W1 => EvA F T tk G W1 fun zs W2 => zs = [.bl true] ∧ ∃ d e l m, ds = [d, e] ∧ Zs d l ∧ Zs e m ∧ l.length = m.length ∧ Y (pairs2 l m) W2) : EvI F T (iZipS T.K ta tk) G W Y := fun C H O σ w Q q =>
  h C H O σ w _ fun ds W1 H1 O1 us h1 n1 k => h1 C H1 O1 σ (w.step n1) _ fun zs W2 H2 O2 vs ⟨ez, d, e, l, m, ed, z1, z2, el, y⟩ n2 kz => by
    subst ed ez
    obtain ⟨x, r, e1, k1, x2, r2, e2, k2, e3⟩ := k
    obtain ⟨b, r3, e4, k3, e5⟩ := kz
    have e3 : r2 = [] := e3
    have e5 : r3 = [] := e5
    have k3 : b = .bl true := k3
    subst e3 e2 e1 e5 k3 e4
    obtain ⟨kd1, xs, ex, a1, s1⟩ := z1.kd (k1.mono n2.ext)
    obtain ⟨kd2, ys, ey, a2, s2⟩ := z2.kd (k2.mono n2.ext)
    subst ex ey
    exact ⟨rfl, kd1, kd2, xs, ys, rfl, s1 _ _ (.refl _) n2.dis, s2 _ _ (.refl _) n2.dis, q _ _ W2 H2 O2 y (n1.trans n2) (wk_zip a1 a2 s1 s2 fun _ => el)⟩
end
end N
set_option Elab.async false
set_option linter.all false
set_option maxRecDepth 100000
set_option maxHeartbeats 1000000
namespace N
open PySem PySem.Spec PyProof.Rows L2
open C8 (Cal Met Mak InsC pe_c pe_mt pe_mt0 pe_mk)
def rLtS : R2 := fun x y H Q => ∃ a b : Str, x = .str a ∧ y = .str b ∧ Q (.bl (decide (a.cps.toList < b.cps.toList))) H
def r2Or (r r' : R2) : R2 := fun x y H Q => r x y H Q ∨ r' x y H Q
def tDUpd (td ty : TE) : TE := fun σ H Q => td σ H fun x H1 => ∃ a, x = .ref a ∧ IsD H1 a ∧ ty σ H1 fun y H2 => ∃ b kvs more, y = .ref b ∧ H2 a = some (.dK kvs) ∧ Rd H2 b (.dK more) ∧ a ≠ b ∧ kvs.length + more.length ≤ sizeLine ∧ Q .non (upd H2 a (.dK (mergeK kvs more)))
section
variable {X : Cx} {o e : Expr} {apos cpos : Pos} {td ty : TE}
theorem op_lt_str : OpR X (compareOp .Lt) rLtS := by
  intro pins s σ H x y v u Q I rx ry h
  obtain ⟨a, b, rfl, rfl, q⟩ := h
  obtain ⟨t, rfl⟩ := rx
  obtain ⟨t', rfl⟩ := ry
  exact PyProof.Rows.lt_str ⟨.bl (decide (a.cps.toList < b.cps.toList)), H, I, rfl, q⟩
theorem op_or {f : Value → Value → Sem Value} {r r' : R2} (h : OpR X f r) (h' : OpR X f r') : OpR X f (r2Or r r') := fun pins s σ H x y v u Q I rx ry z => z.elim (h pins s σ H x y v u Q I rx ry) (h' pins s σ H x y v u Q I rx ry)
theorem length_mergeKK (kvs more : List (Key × V)) : (mergeK kvs more).length ≤ kvs.length + more.length := by
  have := length_mergeK more kvs
  omega
theorem pe_dupd (ho : PE X o td) (he : PE X e ty) (m : M1 X o "update" apos e cpos) : PE X (.Call (.Attribute o "update" apos) [e] [] cpos) (tDUpd td ty) := by
  refine ⟨fun pins s σ H Q I h => ?_⟩
  refine wpAny_Call_method m.base m.few m.line PySem.F.plainAttrs_dict PySem.F.slot_dict_update PySem.F.type_dict_update (thn (ho.run pins s σ H _ I h) fun u s1 ⟨x, H1, I1, rx, a, ex, d, q1⟩ => ?_)
  subst ex
  obtain rfl : u = Value.ref a := rx
  obtain ⟨t1, t2, _⟩ := isD_at I1 d
  refine ⟨t1, t2, ?_⟩
  rw [m.trees]
  refine Calls.callWith_builtin rfl (Calls.evalArgs_plain (Calls.spliced_cons (thn (he.run pins s1 σ H1 _ I1 q1) fun iv s2 ⟨y, H2, I2, ry, b, kvs, more, ey, ea, eb, ne, hl, q2⟩ => Calls.spliced_nil ?_)))
  subst ey
  obtain rfl : iv = Value.ref b := ry
  obtain ⟨z1, lo1, vs, rel1, dd1⟩ := dk_of I2.hok ea
  obtain ⟨z2, lo2, ws, rel2, dd2⟩ := dk_rd I2.hok eb
  refine call_meetsIn PySem.F.slot_dict_update dd1.typeIs PySem.F.entry_dict_update (PySem.F.args_dict_update_2 _ _) (meets_dict_update (mixKind X.prog X.w) a b ne lo2) ⟨vs, ws, dd1, dd2, by rw [← rel1.length, ← rel2.length]; exact hl, fun h' dd' _ hs => ?_⟩
  have he : ∃ q, h'.get? a = some q := let ⟨q, _, _, hq, _⟩ := dd'; ⟨q, hq⟩
  have I3 := d_write (t' := s2.toks) (ob := .dK (mergeK kvs more)) I2 (by rw [ea]; exact True.intro) hs he (dk_new (Nat.le_trans (length_mergeKK _ _) hl) lo1 (KV.merge rel2 rel1) dd')
  exact ⟨.non, _, I3, rfl, q2⟩
end
def upG (ps qs : List (Key × D)) : List (Key × D) := qs.foldl (fun acc kv => putG acc kv.1 kv.2) ps
section
variable {F : FmKit} {T : Kx} {C H H' O O' : Hp} {G : Gm} {W W' : Om} {R : D → Om → Prop} {d e : D} {l m : List D} {te ta tb : TE}
/-- d.update(e), e a dict that is not written any more -/
theorem ev_dupd (h : Ev F T ta G W fun d W1 => (∃ ps, Vd W1 d ps) ∧ Ev F T tb G W1 fun e W2 => ∃ a ps qs Wa Wb, d = .adr a ∧ W2 = Wa ++ (a, .dp ps) :: Wb ∧ e = .dp qs ∧ ps.length + qs.length ≤ sizeLine ∧ R .non (Wa ++ (a, .dp (upG ps qs)) :: Wb)) : Ev F T (tDUpd ta tb) G W R := fun C H O σ w Q q =>
  h C H O σ w _ fun d W1 H1 O1 x ⟨⟨ps0, hv0⟩, h1⟩ n1 k1 => by
    obtain ⟨a, kvs0, ex, ha0, _⟩ := hv0.at n1.dis n1.own k1
    refine ⟨a, ex, .inl ⟨kvs0, .inl ha0⟩, h1 C H1 O1 σ (w.step n1) _ fun e W2 H2 O2 yv ⟨a', ps, qs, Wa, Wb, ed, ew, ee, hl, r⟩ n2 k2 => ?_⟩
    subst ed ew ee
    have k1 : x = .ref a' := k1
    rw [k1] at ex
    cases ex
    obtain ⟨b, more, ey, hb, e3, e4, kl2⟩ := k2
    obtain ⟨_, kvs, oa, e1, e2, kl⟩ := n2.own.at_ a _ (List.mem_append_right _ List.mem_cons_self)
    have ha : O2 a = some (.dK kvs) := oa
    have ne : a ≠ b := fun e => by
      subst e
      have := n2.dis a _ ha
      rw [hb] at this
      cases this
    have l1 : kvs.length = ps.length := by
      have := congrArg List.length e1
      rwa [List.length_map, List.length_map] at this
    have l2 : more.length = qs.length := by
      have := congrArg List.length e3
      rwa [List.length_map, List.length_map] at this
    refine ⟨b, kvs, more, ey, ov_own ha, .inl (n2.dis.same _ _ hb), ne, by rw [l1, l2]; exact hl, ?_⟩
    obtain ⟨m1, m2, m3⟩ := mergeK_keys (F := F) (T := T) (H := H2) (acc := ps) (av := kvs) e3 e1 e2 kl2 kl
    obtain ⟨n3, e5⟩ := (n1.trans n2).write (o := .dK (mergeK kvs more)) (od2 := .dp (upG ps qs)) ⟨mergeK kvs more, rfl, m1, m2, m3⟩
    rw [e5]
    exact q .non _ _ _ _ r n3 rfl
theorem ca_sortedDI {ps : List (Key × D)} {ks : List Int} (hv : Vd W d ps) (hk : ps.map (·.1) = ks.map Sum.inl) (hl : ks.length < 64) (r : ∀ ys : List Int, ys.Perm ks → ys.Pairwise (· ≤ ·) → R (.lst (ys.map D.int)) W) :
    Ca F T (fun xs H Q => ∃ (a : Addr) (kvs : List (Key × V)) (ks : List Int), xs = [.ref a] ∧ Rd H a (.dK kvs) ∧ kvs.map (·.1) = ks.map Sum.inl ∧ ks.length < 64 ∧
      ∀ (ys : List Int) (p : Addr), ys.Perm ks → ys.Pairwise (· ≤ ·) → H p = none → Q (.ref p) (upd H p (.lst (ys.map V.int)))) [d] W R := ca_one fun C H O di oc ow x k Q q => by
  obtain ⟨a, kvs, e, h1, h2, h3, h4⟩ := hv.at di ow k
  refine ⟨a, kvs, ks, by rw [e], .inl h1, h2.trans hk, hl, fun ys p hp hs hn => ?_⟩
  obtain ⟨n2, e2, s2⟩ := (Nx.refl (F := F) (T := T) di oc ow).newF (o := .lst (ys.map V.int)) hn
  rw [e2]
  refine q _ W _ O _ (r ys hp hs) n2 ⟨p, _, rfl, upd_same, ?_⟩
  have := DenL.vls (F := F) (T := T) (H := upd H p (.lst (ys.map V.int))) (ys.map V.int)
  rw [List.map_map] at this
  exact this
theorem bo_orL {r r' : R2} (h : Bo F T r d e W R) : Bo F T (r2Or r r') d e W R := fun C H O di oc ow x y hx hy Q q => .inl (h C H O di oc ow x y hx hy Q q)
theorem bo_orR {r r' : R2} (h : Bo F T r' d e W R) : Bo F T (r2Or r r') d e W R := fun C H O di oc ow x y hx hy Q q => .inr (h C H O di oc ow x y hx hy Q q)
theorem bo_ltS {a b : Str} (r : R (.bl (decide (a.cps.toList < b.cps.toList))) W) : Bo F T rLtS (.str a) (.str b) W R := op_sc fun H Q k => ⟨a, b, rfl, rfl, k _ r⟩
theorem ca_slOrL {r r' : V → Option Int → Option Int → Hp → VK → Prop} {lo hi : Option Int} (h : Ca F T (fun xs H Q => ∃ x, xs = [x] ∧ r x lo hi H Q) [d] W R) : Ca F T (fun xs H Q => ∃ x, xs = [x] ∧ (r x lo hi H Q ∨ r' x lo hi H Q)) [d] W R := fun C H O di oc ow vs k Q q =>
  let ⟨x, e, z⟩ := h C H O di oc ow vs k Q q; ⟨x, e, .inl z⟩
theorem ca_slOrR {r r' : V → Option Int → Option Int → Hp → VK → Prop} {lo hi : Option Int} (h : Ca F T (fun xs H Q => ∃ x, xs = [x] ∧ r' x lo hi H Q) [d] W R) : Ca F T (fun xs H Q => ∃ x, xs = [x] ∧ (r x lo hi H Q ∨ r' x lo hi H Q)) [d] W R := fun C H O di oc ow vs k Q q =>
  let ⟨x, e, z⟩ := h C H O di oc ow vs k Q q; ⟨x, e, .inr z⟩
end
end N
set_option Elab.async false
set_option linter.all false
set_option maxRecDepth 100000
set_option maxHeartbeats 1000000
namespace PySem
open Sem (wp)
theorem tc_enum (a : Value) : checkTypeCall "enumerate" ⟨[a], []⟩ = pure () := by kernel_rfl
theorem nc_enum (a : Value) : checkBuiltinCall "enumerate.__new__" ⟨[.type "enumerate", a], []⟩ = pure () := by kernel_rfl
theorem ao_enum (obj a : Value) : argsOk "object.__init__" ⟨[obj, a], []⟩ := by unfold argsOk; kernel_rfl
theorem meets_enum {v : Value} {p : Obj} {Hp : Heap → Prop} (B : Begins v p Hp) :
    Meets (Builtin.«enumerate.__new__» ⟨[.type "enumerate", v], []⟩) (fun _ R s => Hp s.heap ∧ R (.ok (.ret (.ref (s.heap.push p).objs.size))) { s with heap := (s.heap.push p).push { cls := .type "enumerate", data := .fields #[.none, .bool false, .ref s.heap.objs.size, rawInt 0, .none, .none] } }) :=
  .of_wp fun prog w A R s h => by
    obtain ⟨hp, g, d, tk, os⟩ := s
    obtain ⟨a1, h⟩ := h
    have hsub := sub_enumerate
    have q1 : ∀ {A' : Around} {E : Value → Shared → Prop} {Q : Value → Shared → Prop}, Q (.ref hp.objs.size) ⟨hp.push p, g, d, tk, os⟩ → wpAny (model prog w) A' (pyIter v) Q E ⟨hp, g, d, tk, os⟩ :=
      fun z => B.iter prog w _ _ ⟨hp, g, d, tk, os⟩ _ a1 z
    wp_walk using q1
    refine wpAny_stack_any fun st => wpAny_pure ?_
    split
    · rename_i c _ _ _ _ _
      cases (c == Value.type "enumerate") <;> (wp_walk using q1; exact ⟨_, rfl, h⟩)
    · wp_walk using q1
      exact ⟨_, rfl, h⟩
section
variable {prog : Program} {w : World} {A : Around} {E : Value → Shared → Prop} {s : Shared}
theorem enum1_begins {v : Value} {p : Obj} {Hq : Heap → Prop} {Q : Value → Shared → Prop} (B : Begins v p Hq) (a1 : Hq s.heap)
    (h : ∀ h', IsEnum h' (s.heap.objs.size + 1) s.heap.objs.size 0 .none → h'.get? s.heap.objs.size = some p → (∀ c o, s.heap.get? c = some o → h'.get? c = some o) → Q (.ref (s.heap.objs.size + 1)) { s with heap := h' }) :
    wpAny (model prog w) A (call (.type "enumerate") [v]) Q E s := by
  refine callType_new F.called_enumerate (by decide) (tc_enum _) (nc_enum _) (fun obj => ao_enum obj _) F.entry_enumerate_new (meets_enum B) ⟨a1, ?_⟩
  have e0 : (s.heap.push p).objs.size = s.heap.objs.size + 1 := Heap.size_push ..
  show _ ∧ _
  have g := Heap.get?_push_size (s.heap.push p) (o := { cls := .type "enumerate", data := .fields #[.none, .bool false, .ref s.heap.objs.size, rawInt 0, .none, .none] }) rfl
  rw [e0] at g ⊢
  exact ⟨⟨_, g, rfl⟩, h _ g (Heap.get?_push_of_some _ (Heap.get?_push_size _ B.free)) fun c o e => Heap.get?_push_of_some _ (Heap.get?_push_of_some _ e)⟩
end
end PySem
namespace N
open PySem PySem.Spec PyProof.Rows L2
open C8 (Cal Met Mak InsC pe_c pe_mt pe_mt0 pe_mk)
def IteK (K : PySem.W.Frag) (k : Kd) (c : Int) : It :=
  ⟨fun i H => ∃ xs : List V, k.src K H xs ∧ i < xs.length,
    fun i H v H' => ∃ T x, v = .ref T ∧ H T = none ∧ H' = upd H T (.tup [.int (c + (i : Nat)), x]) ∧ ∀ xs, k.src K H xs → xs[i]? = some x,
    fun i H => ∃ xs : List V, k.src K H xs ∧ i = xs.length⟩
theorem turn_enumK {P : Program} {w : World} {K : PySem.W.Frag} {elts : List Expr} {kk : Nat} {tpos : Pos} {k : Kd} {c : Int} {u1 : Tok} {b : Nat} (l1 : k.low b) :
    Turn P w K (.Tuple elts kk tpos) (IteK K k c) [b + 1, b] (b + 1) (fun i h => (∃ old, IsEnum h (b + 1) b (c + (i : Nat)) old) ∧ k.at u1 b i h) where
  mem := by simp
  obj := fun i h st d hd => by
    obtain ⟨⟨old, he⟩, s1⟩ := st
    simp only [List.mem_cons, List.not_mem_nil, or_false] at hd
    rcases hd with rfl | rfl
    · exact ⟨_, he, fun v q => nomatch q⟩
    · exact Kd.obj s1
  keep := fun i h h' st z => by
    obtain ⟨⟨old, he⟩, s1⟩ := st
    exact ⟨⟨old, z _ (by simp) _ he⟩, Kd.keep s1 fun o e => z _ (by simp) o e⟩
  item := by
    intro X hP hw hK hc i pins s σ H E I hf st hg
    subst hP hw hK
    obtain ⟨⟨old, he⟩, s1⟩ := st
    obtain ⟨xs, hx, hi⟩ := hg
    obtain ⟨f1, P1, S1, D1, m1, b1, t1, o1, v1⟩ := Kd.draws (t := u1) (it := b) I hc hx l1 (Nat.le_refl _)
    have lt : b + 1 < s.heap.objs.size := Heap.lt_size he
    refine wpAny_pyNext_enum_itemC D1 he (t1 _ s1) hi (ne_add (c := 1) (d := 0) (by decide)) (fun h => zno (by decide) (by decide) (b1 _ h)) fun x h' tk px ho a1 hT _ kp => ?_
    refine ⟨_, rfl, wpAny_letOwnedTupleGo_enum (s := { s with heap := h', toks := tk + 1 }) ho fun h2 he2 sb => ?_⟩
    obtain ⟨u, gu, ru⟩ := v1 i x px
    have up : ∀ d o, d ≠ b + 1 → h'.get? d = some o → h2.get? d = some o := fun d o ne e => (sb.2 d ne).trans e
    have new2 : h2.get? s.heap.objs.size = some { cls := .type "tuple", data := .seq #[.int (c + (i : Nat)) tk, x] } := up _ _ (Nat.ne_of_gt lt) hT
    have ok : ObjOk X.prog X.w (upd H s.heap.objs.size (.tup [.int (c + (i : Nat)), u])) h2 s.heap.objs.size (.tup [.int (c + (i : Nat)), u]) :=
      ⟨by show 2 ≤ sizeLine; decide, [.int (c + (i : Nat)) tk, x], .cons ⟨_, rfl⟩ (.cons ru .nil), ⟨_, new2, rfl, _, rfl⟩⟩
    have I1 : Inv X pins σ (upd H s.heap.objs.size (.tup [.int (c + (i : Nat)), u])) { s with heap := h2, toks := tk + 1 } :=
      I.turnedNew (t' := tk + 1) (ch := [b + 1, b]) (fun d o hb q => up d o (fun q' => hb (by simp [q'])) (kp d o (fun q' => hb (by simp [q'])) (fun q' => hb (by simp [q'])) q)) hf (Nat.le_refl _) ok
    refine ⟨.ref s.heap.objs.size, _, I1, rfl, ⟨_, u, rfl, I.hok.fresh (Nat.le_refl _), rfl, fun l hl => by rw [Kd.inj I hl hx]; exact gu⟩, ⟨⟨x, ?_⟩, ?_⟩, fun d hd => ?_⟩
    · have e1 : c + ((i + 1 : Nat) : Int) = c + (i : Nat) + 1 := by omega
      rw [e1]
      exact he2
    · exact Kd.keep (o1 _ _ a1) fun o e => up _ _ (ne_add (c := 0) (d := 1) (by decide)) e
    · have hlt : d < s.heap.objs.size := by
        simp only [List.mem_cons, List.not_mem_nil, or_false] at hd
        rcases hd with rfl | rfl
        · exact lt
        · exact Nat.lt_of_succ_lt lt
      rw [upd_ne (Nat.ne_of_lt hlt)]
      exact (hf d hd).1
  done := by
    intro X hP hw hK hc i pins s σ H E I hf st hg
    subst hP hw hK
    obtain ⟨⟨old, he⟩, s1⟩ := st
    obtain ⟨xs, hx, rfl⟩ := hg
    obtain ⟨f1, P1, S1, D1, m1, b1, t1, o1, v1⟩ := Kd.draws (t := u1) (it := b) I hc hx l1 (Nat.le_refl _)
    exact wpAny_pyNext_enum_endD D1 he (t1 _ s1) fun h' z => ⟨rfl, I.turnedL (t' := s.toks) (ch := [b + 1, b]) (fun d o hb q => z d o (fun q' => hb (by simp [q'])) q) hf⟩
  self := fun A i s Q E st h => let ⟨⟨_, he⟩, _⟩ := st; wpAny_pyIter_enum he h
def iEnumK (K : PySem.W.Frag) (ta : TA) : TI := fun σ H R => ta σ H fun vs H1 => ∃ (k : Kd) (xs : List V), vs = [k.v] ∧ k.src K H1 xs ∧ R (IteK K k 0) H1
theorem pi_enumK {X : Cx} {e : Expr} {ta : TA} {p pos tpos : Pos} {elts : List Expr} {kk : Nat} (hg : Gl X "enumerate") (hm : X.mg "enumerate" = none) (ha : PA X [e] ta) (hs : starEach [e] X.env = [(false, eval e X.env)] := by rfl) :
    PI X (.Tuple elts kk tpos) (.Call (.Name "enumerate" p) [e] [] pos) (iEnumK X.K ta) := by
  refine ⟨fun pins s σ H R I h => ?_⟩
  refine Call_ (ld_blt I hg hm boot_enumerate (PyProof.Rows.callWith_type1 (thn (ha.run pos pins s σ H _ I h) fun us s1 ⟨vs, H1, I1, r1, q1⟩ => ?_) hs rfl))
  obtain ⟨k, xs, ex, hx, q⟩ := q1
  subst ex
  cases r1 with
  | cons r rr =>
    cases rr
    obtain ⟨l1, t1, o1, G1, B1, g1, z1⟩ := Kd.begins I1 hx r
    refine enum1_begins B1 g1 fun h' he e1 kp => wpAny_pyIter_enum he ?_
    have I2 : Inv X pins σ H1 { s1 with heap := h' } := I1.kept (t' := s1.toks) kp
    refine ⟨_, _, _, _, H1, rfl, I2, turn_enumK (b := s1.heap.objs.size) (c := 0) (u1 := t1) l1, ⟨⟨.none, he⟩, z1 _ _ e1⟩, fun d hd => ?_, q⟩
    have le : s1.heap.objs.size ≤ d := by
      simp only [List.mem_cons, List.not_mem_nil, or_false] at hd
      rcases hd with rfl | rfl
      · exact Nat.le_add_right _ _
      · exact Nat.le_refl _
    exact I1.fpOk le (I1.hok.fresh le)
section
variable {F : FmKit} {T : Kx} {C H H' O O' : Hp} {G : Gm} {W W' : Om} {R : D → Om → Prop} {l : List D} {ta tk : TA}
theorem wk_enum {H1 : Hp} {k : Kd} {xs : List V} {c : Nat} (a1 : DenL F T H1 l xs) (s1 : ∀ H2 O2, Same H1 H2 → Dis O2 H2 → k.src T.K (ov O2 H2) xs) : Wk F T (IteK T.K k (c : Nat)) H1 (pairsD c l) := fun i H2 O2 s di => by
  refine ⟨fun d hd => ?_, fun ei => ?_⟩
  · obtain ⟨x, hx, rfl⟩ := pairsD_get hd
    obtain ⟨u, hu, ku⟩ := a1.get hx
    refine ⟨⟨xs, s1 _ _ s di, (List.getElem?_eq_some_iff.mp hu).1⟩, fun w X ⟨Tp, u', e1, e2, e3, e4⟩ => ?_⟩
    have hu' := e4 xs (s1 _ _ s di)
    rw [hu] at hu'
    cases hu'
    obtain ⟨h1, h2⟩ := ov_none e2
    have ec : ((c + i : Nat) : Int) = (c : Int) + (i : Nat) := by omega
    have sm := same_upd (o := .tup [.int ((c : Nat) + (i : Nat)), u]) h2
    refine ⟨upd H2 Tp (.tup [.int ((c : Nat) + (i : Nat)), u]), sm, di.updH h1, by rw [e3, ov_updH h1], Tp, _, e1, SqT.of upd_same, ?_⟩
    rw [ec]
    exact ⟨_, _, rfl, rfl, u, _, rfl, (ku.mono s).mono sm, rfl⟩
  · rw [pairsD_len] at ei
    exact ⟨xs, s1 _ _ s di, by rw [a1.len]; exact ei⟩
theorem ei_enumK {Y : List D → Om → Prop} (h : EvA F T ta G W fun ds W1 => ∃ d l, ds = [d] ∧ Zs d l ∧ Y (pairsD 0 l) W1) : EvI F T (iEnumK T.K ta) G W Y := fun C H O σ w Q q =>
  h C H O σ w _ fun ds W1 H1 O1 us ⟨d, l, ed, z1, y⟩ n k => by
    subst ed
    obtain ⟨x, r, e1, k1, e2⟩ := k
    have e2 : r = [] := e2
    subst e2 e1
    obtain ⟨kd1, xs, ex, a1, s1⟩ := z1.kd k1
    subst ex
    exact ⟨kd1, xs, rfl, s1 _ _ (.refl _) n.dis, q _ _ W1 H1 O1 y n (wk_enum (c := 0) a1 s1)⟩
end
end N
set_option Elab.async false
set_option linter.all false
set_option maxRecDepth 100000
namespace N
open PySem PySem.Spec PyProof.Rows L2
namespace Fm
def ht : Fm → Nat
  | .at _ => 0
  | .no => 0
  | .imp a b => 1 + max a.ht b.ht
  | .all a => 1 + a.ht
theorem sz_ht : ∀ f : Fm, f.sz + 5 ≤ 7 * 2 ^ f.ht
  | .at _ => by simp [sz, ht]
  | .no => by simp [sz, ht]
  | .imp a b => by
    have h1 := sz_ht a
    have h2 := sz_ht b
    have l1 : 2 ^ a.ht ≤ 2 ^ max a.ht b.ht := Nat.pow_le_pow_right (by omega) (Nat.le_max_left _ _)
    have l2 : 2 ^ b.ht ≤ 2 ^ max a.ht b.ht := Nat.pow_le_pow_right (by omega) (Nat.le_max_right _ _)
    simp only [sz, ht, Nat.pow_add, Nat.pow_one]
    omega
  | .all a => by
    have h1 := sz_ht a
    have : 1 ≤ 2 ^ a.ht := Nat.one_le_two_pow
    simp only [sz, ht, Nat.pow_add, Nat.pow_one]
    omega
/-- few unlike all-parts -/
def few (k : Nat) (f : Fm) : Prop := ∃ L : List Fm, L.length ≤ k ∧ ∀ g ∈ f.alls, g ∈ L
theorem few.len {k : Nat} {f : Fm} (h : few k f) (ok : f.okL) : f.alls.length ≤ k := by
  obtain ⟨L, h1, h2⟩ := h
  exact Nat.le_trans (len_le (nodup_asc (alls_sub ok).2) h2) h1
theorem few.up {k j : Nat} {f : Fm} (h : few k f) (hk : k ≤ j) : few j f := let ⟨L, h1, h2⟩ := h; ⟨L, by omega, h2⟩
theorem few.imp {k j : Nat} {f g : Fm} (h : few k f) (h' : few j g) : few (k + j) (.imp f g) := by
  obtain ⟨L, h1, h2⟩ := h
  obtain ⟨M, h3, h4⟩ := h'
  refine ⟨L ++ M, by rw [List.length_append]; omega, fun x hx => ?_⟩
  rw [List.mem_append]
  exact (mem_merge.mp hx).imp (h2 x) (h4 x)
theorem few.same {k : Nat} {f : Fm} (h : few k f) : few k (.imp f f) := by
  obtain ⟨L, h1, h2⟩ := h
  exact ⟨L, h1, fun x hx => (mem_merge.mp hx).elim (h2 x) (h2 x)⟩
theorem few.all {k : Nat} {f : Fm} (h : few k f) : few (k + 1) (.all f) := by
  obtain ⟨L, h1, h2⟩ := h
  refine ⟨.all f :: L, by rw [List.length_cons]; omega, fun x hx => ?_⟩
  rw [List.mem_cons]
  rcases mem_merge.mp hx with h | h
  · exact .inr (h2 x h)
  · exact .inl (List.mem_singleton.mp h)
theorem few.at (c : Nat) : few 0 (.at c) := ⟨[], Nat.le_refl _, fun x hx => by simp [alls] at hx⟩
theorem few.no : few 0 .no := ⟨[], Nat.le_refl _, fun x hx => by simp [alls] at hx⟩
theorem few_ht : ∀ f : Fm, few (2 ^ f.ht - 1) f
  | .at c => (few.at c).up (by omega)
  | .no => few.no.up (by omega)
  | .imp a b => by
    have l1 : 2 ^ a.ht ≤ 2 ^ max a.ht b.ht := Nat.pow_le_pow_right (by omega) (Nat.le_max_left _ _)
    have l2 : 2 ^ b.ht ≤ 2 ^ max a.ht b.ht := Nat.pow_le_pow_right (by omega) (Nat.le_max_right _ _)
    refine ((few_ht a).imp (few_ht b)).up ?_
    simp only [ht, Nat.pow_add, Nat.pow_one]
    omega
  | .all a => by
    have : 1 ≤ 2 ^ a.ht := Nat.one_le_two_pow
    refine (few_ht a).all.up ?_
    simp only [ht, Nat.pow_add, Nat.pow_one]
    omega
end Fm
theorem DkA_mono {a : Addr} {c c' : Int} {W : Om} (h : DkA a c W) (hc : c ≤ c') : DkA a c' W := let ⟨l, cells, s, n, h1, h2, h3, h4⟩ := h; ⟨l, cells, s, n, h1, h2, h3, by omega⟩
def letters (p : Str) : Prop := ∀ c ∈ lets p, (65 ≤ c ∧ c ≤ 90) ∨ (97 ≤ c ∧ c ≤ 122)
end N
set_option Elab.async false
set_option linter.all false
set_option maxRecDepth 100000
namespace N
open PySem PySem.Spec PyProof.Rows L2
namespace Fm
def inner : Fm → List Fm
  | .imp a b => [a, b]
  | .all a => [a]
  | _ => []
def subs : Fm → List Fm
  | .at c => [.at c]
  | .no => [.no]
  | .imp a b => .imp a b :: (subs a ++ subs b)
  | .all a => .all a :: subs a
theorem subs_self (f : Fm) : f ∈ subs f := by cases f <;> simp [subs]
/-- each one behind those within it -/
inductive Cl : List Fm → Prop
  | nil : Cl []
  | snoc {l : List Fm} {g : Fm} : Cl l → (∀ p ∈ inner g, p ∈ l) → Cl (l ++ [g])
theorem Cl.take {l : List Fm} (h : Cl l) : ∀ i g, l[i]? = some g → ∀ p ∈ inner g, p ∈ l.take i := by
  induction h with
  | nil => intro i g h; simp at h
  | @snoc l g h hp ih =>
    intro i x hx p px
    by_cases hi : i < l.length
    · rw [List.getElem?_append_left hi] at hx
      rw [List.take_append_of_le_length (by omega)]
      exact ih i x hx p px
    · rw [List.getElem?_append_right (by omega)] at hx
      have e : i = l.length := by
        have := (List.getElem?_eq_some_iff.mp hx).1
        simp at this
        omega
      subst e
      simp at hx
      subst hx
      simp
      exact hp p px
structure PW (f : Fm) (K F : List Fm) (L : List (Fm × Bool)) : Prop where
  kn : K.Nodup
  ks : ∀ g ∈ K, g ∈ subs f
  ls : ∀ x ∈ L, x.1 ∈ subs f
  kf : ∀ g, g ∈ K ↔ g ∈ F ∨ (g, true) ∈ L
  fn : F.Nodup
  dj : ∀ g ∈ F, (g, true) ∉ L
  cl : Cl F
  up : ∀ A h B, L = A ++ (h, true) :: B → (∀ x ∈ B, x.1.sz < h.sz) ∧ ∀ p ∈ inner h, p ∈ F ∨ ∃ b, (p, b) ∈ B
  bt : (∃ B, L = (f, true) :: B) ∨ (L = [] ∧ ∃ F', F = F' ++ [f]) ∨ (L = [(f, false)] ∧ K = [])
  ln : L.length ≤ 2 * K.length + 1
theorem PW.start (f : Fm) : PW f [] [] [(f, false)] where
  kn := List.nodup_nil
  ks := by simp
  ls := by simp [subs_self]
  kf := by simp
  fn := List.nodup_nil
  dj := by simp
  cl := .nil
  up := by
    intro A h B e
    have : (h, true) ∈ [(f, false)] := by rw [e]; simp
    simp at this
  bt := .inr (.inr ⟨rfl, rfl⟩)
  ln := by simp
section
variable {f g h : Fm} {K F : List Fm} {L : List (Fm × Bool)}
theorem PW.low (s : PW f K F (L ++ [(h, true)])) : (h, true) ∉ L := fun m => by
  obtain ⟨A, B, e⟩ := List.append_of_mem m
  have := (s.up A h (B ++ [(h, true)]) (by rw [e]; simp)).1 (h, true) (by simp)
  exact Nat.lt_irrefl _ this
end
/-- others in the place of atoms -/
def sub (σ : Nat → Fm) : Fm → Fm
  | .at c => σ c
  | .no => .no
  | .imp a b => .imp (a.sub σ) (b.sub σ)
  | .all a => .all (a.sub σ)
end Fm
end N
set_option Elab.async false
set_option linter.all false
set_option maxRecDepth 100000
namespace N
open PySem PySem.Spec PyProof.Rows L2
open C8 (Cal Met Mak InsC pe_c pe_mt pe_mt0 pe_mk)
theorem makD {P : Program} {w : World} {K : PySem.W.Frag} {mg : Str → Option Value} {base : Heap} {F : FmKit} {cl : Nat → Addr} {S : FS} {x qual : Str} {C : Addr} {st : Stmt} {f : Addr} {fd : FuncData} {N ps : List Str} {k : Nat} (M : Mk K C f) (hm : mg x = some (.ref C)) (Fn : Fun K "__init__" qual st f fd) (Sc : FnScope N ps (defScope st)) (len : ∀ ds W post, S ds W post → ds.length = ps.length)
    (hb : ∀ (kV doc pm : Value) (an : Option Addr) (cdv ct : Value) (us : List Value), us.length = ps.length → bindArgs (PySem.W.fnOf "__init__" qual (defArgs st) (defBody st) (defScope st) .none kV doc pm an cdv ct) ⟨us, []⟩ = pure (ps.zip us))
    (body : ∀ (cdv : Value) (A : Around) (outer : List Env) (s : Shared) (H : Hp) (E : XK), Room k (A.deeper (envOfC qual (defScope st) s.heap.objs.size f cdv)) →
      ∃ t, PSs (cxOf CX0 P w K mg base N qual (defScope st) f cdv A outer s H E).nox (defBody st) t ∧ ∀ ds W post, S ds W post → Sw F ⟨K, cl⟩ t (startD N ds) W (E_ post)) : Mak P w K mg base (k + 1) x C (spN F ⟨K, cl⟩ S) [] :=
  ⟨f, fd, ps, [], M, okD Fn Sc len body, hm, Fn.binds hb, .nil⟩
def wbNames : List Str := ["below", "atoms", "all_beneath", "all_heights"]
structure Wb where
  below : List (List Nat)
  atoms : List Str
abbrev natD (k : Nat) : D := .int (k : Nat)
abbrev rowD (r : List Nat) : D := .tup (r.map natD)
abbrev rowsD (rs : List (List Nat)) : D := .tup (rs.map rowD)
abbrev atomsD (l : List Str) : D := .tup (l.map .str)
/-- the points beneath each one, by the points directly below -/
def bensF (rs : List (List Nat)) : List (List Nat) := rs.foldl (fun acc r => acc ++ [ascN (r ++ (r.map fun k => acc.getD k []).flatten)]) []
def hgtF (rs : List (List Nat)) : List Nat := rs.foldl (fun acc r => acc ++ [((r.map fun k => 1 + acc.getD k 0)).foldl max 0]) []
structure rowsOk (rs : List (List Nat)) : Prop where
  asc : ∀ (i : Nat) (r : List Nat), rs[i]? = some r → r.Pairwise (· < ·) ∧ ∀ k ∈ r, k < i
  few : rs.length ≤ 63
theorem rowsOk.take {rs : List (List Nat)} (h : rowsOk rs) (n : Nat) : rowsOk (rs.take n) where
  asc := fun i r hr => by
    rw [List.getElem?_take] at hr
    split at hr
    · exact h.asc i r hr
    · cases hr
  few := Nat.le_trans (by rw [List.length_take]; exact Nat.min_le_right _ _) h.few
theorem bensF_snoc (rs : List (List Nat)) (r : List Nat) : bensF (rs ++ [r]) = bensF rs ++ [ascN (r ++ (r.map fun k => (bensF rs).getD k []).flatten)] := by
  unfold bensF
  rw [List.foldl_append]
  rfl
theorem hgtF_snoc (rs : List (List Nat)) (r : List Nat) : hgtF (rs ++ [r]) = hgtF rs ++ [((r.map fun k => 1 + (hgtF rs).getD k 0)).foldl max 0] := by
  unfold hgtF
  rw [List.foldl_append]
  rfl
theorem snoc_ind {α : Type} {P : List α → Prop} (h0 : P []) (h1 : ∀ l a, P l → P (l ++ [a])) (l : List α) : P l := by
  rw [← List.reverse_reverse l]
  induction l.reverse with
  | nil => exact h0
  | cons a l ih =>
    rw [List.reverse_cons]
    exact h1 _ a ih
theorem bensF_len (rs : List (List Nat)) : (bensF rs).length = rs.length := by
  induction rs using snoc_ind with
  | h0 => rfl
  | h1 rs r ih => rw [bensF_snoc, List.length_append, List.length_append, ih]; rfl
theorem hgtF_len (rs : List (List Nat)) : (hgtF rs).length = rs.length := by
  induction rs using snoc_ind with
  | h0 => rfl
  | h1 rs r ih => rw [hgtF_snoc, List.length_append, List.length_append, ih]; rfl
structure Wb.ok (w : Wb) : Prop where
  rows : rowsOk w.below
  some_ : w.below ≠ []
  len : w.atoms.length = w.below.length
  lets : ∀ s ∈ w.atoms, letters s ∧ (N.lets s).Pairwise (· < ·)
def Wb.d (w : Wb) : D := .obj 1 wbNames [rowsD w.below, atomsD w.atoms, .lst ((bensF w.below).map rowD), .lst ((hgtF w.below).map natD)]
def S_arebelow : FS := fun ds W post => ∃ rs : List (List Nat), ds = [rowsD rs] ∧ W = [] ∧ rowsOk rs ∧ rs ≠ [] ∧ post (.bl true) []
def S_areletters : FS := fun ds W post => ∃ l : List Str, ds = [.int (l.length : Nat), atomsD l] ∧ W = [] ∧ l.length ≤ 63 ∧ (∀ s ∈ l, letters s ∧ (lets s).Pairwise (· < ·)) ∧ post (.bl true) []
def S_beneathby : FS := fun ds W post => ∃ rs : List (List Nat), ds = [rowsD rs] ∧ W = [] ∧ rowsOk rs ∧ post (.lst ((bensF rs).map rowD)) []
def S_heightsby : FS := fun ds W post => ∃ rs : List (List Nat), ds = [rowsD rs] ∧ W = [] ∧ rowsOk rs ∧ post (.lst ((hgtF rs).map natD)) []
def S_initW : FS := fun ds W post => ∃ (x : Addr) (w : Wb), ds = [.adr x, rowsD w.below, atomsD w.atoms] ∧ W = [(x, .ins 1 [] [])] ∧ w.ok ∧
  post .non [(x, .ins 1 wbNames [rowsD w.below, atomsD w.atoms, .lst ((bensF w.below).map rowD), .lst ((hgtF w.below).map natD)])]
section
variable {F : FmKit} {T : Kx} {G : Gm} {W : Om} {R : D → Om → Prop} {tr : TA} {E : XK} {x : Addr} {z : D} {n : Str} {ns : List Str} {l : List D}
theorem ev_mkW (h : EvA F T tr G W fun ds W1 => ∃ w : Wb, ds = [rowsD w.below, atomsD w.atoms] ∧ w.ok ∧ R w.d W1) : Ev F T (tMake (T.cl 1) (spN F T S_initW) [] E tr) G W R :=
  ev_fz (ev_make (fun C H O σ w Q q => h C H O σ w Q fun ds W1 H1 O1 vs ⟨wb, e, hw, r⟩ n k => q ds W1 H1 O1 vs (fun x hx => by
    subst e
    exact ⟨[(x, .ins 1 [] [])], W1, List.Perm.refl _, x, wb, rfl, rfl, hw, rfl, x, _, W1, wb.d, rfl, List.Perm.refl _, .obj _ _ _, r⟩) n k))
end
theorem cutD_d1 (l : List D) : cutD l (some 1) none = l.drop 1 := by
  unfold cutD
  rw [show HT.sIx l.length 0 (some 1) = min 1 l.length from HT.sIx_nat l.length 0 1, show HT.sIx l.length l.length none = l.length from rfl]
  rw [List.take_of_length_le (by simp)]
  cases l <;> simp
theorem cutD_init (l : List D) : cutD l none (some (-1)) = l.take (l.length - 1) := by
  unfold cutD
  have e : HT.sIx l.length l.length (some (-1)) = l.length - 1 := by
    show (if (-1 : Int) < 0 then (-1 + (l.length : Int)).toNat else min (-1 : Int).toNat l.length) = _
    rw [if_pos (by decide)]
    omega
  rw [e, show HT.sIx l.length 0 none = 0 from rfl]
  simp
theorem cutS_d1 (s : Str) : (cutS s (some 1) none).cps.toList = (lets s).drop 1 := by
  unfold cutS
  rw [show HT.sIx s.length 0 (some 1) = min 1 s.length from HT.sIx_nat s.length 0 1, show HT.sIx s.length s.length none = s.length from rfl]
  have e : s.length = (lets s).length := str_len s
  rw [e]
  show ((lets s).drop _).take _ = _
  rw [List.take_of_length_le (by simp)]
  cases lets s <;> simp
theorem cutS_init (s : Str) : (cutS s none (some (-1))).cps.toList = (lets s).take ((lets s).length - 1) := by
  unfold cutS
  have e : s.length = (lets s).length := str_len s
  have e2 : HT.sIx s.length s.length (some (-1)) = s.length - 1 := by
    show (if (-1 : Int) < 0 then (-1 + (s.length : Int)).toNat else min (-1 : Int).toNat s.length) = _
    rw [if_pos (by decide)]
    omega
  rw [e2, show HT.sIx s.length 0 none = 0 from rfl, e]
  show ((lets s).drop 0).take _ = _
  simp
theorem all_yes (n : Nat) : ((List.replicate n true).all id) = true := by simp
theorem yes_bl (n : Nat) : (List.replicate n true).map D.bl = List.replicate n (D.bl true) := by simp
theorem map_take_sub (l : List Nat) : (l.map natD).take ((l.map natD).length - 1) = (l.take (l.length - 1)).map natD := by rw [List.length_map, List.map_take]
theorem map_drop_1 (l : List Nat) : (l.map natD).drop 1 = (l.drop 1).map natD := by rw [List.map_drop]
section
variable {F : FmKit} {T : Kx} {W : Om} {R : D → Om → Prop}
theorem isi_int {i : Int} (r : R (.bl true) W) : Ca F T (rIsi T.K) [.int i, .vl (.ty "int")] W R := ca_isi (.ty "int") tyd_int (by unfold PySem.W.kitOne; rfl) r
theorem isi_intB {i : Int} (r : R (.bl false) W) : Ca F T (rIsi T.K) [.int i, .vl (.ty "bool")] W R := ca_isi (.ty "bool") tyd_int (by unfold PySem.W.kitOne; first | rfl | decide +kernel) r
end
theorem letters_len {s : Str} (hl : letters s) (hp : (lets s).Pairwise (· < ·)) : s.length ≤ 100 := by
  have h1 := hp.imp (S := (· ≠ ·)) fun h => Nat.ne_of_lt h
  have h2 := List.Nodup.length_le_of_subset (l₁ := (lets s).map (· - 30)) (l₂ := List.range 100) ?_ fun x hx => ?_
  · rw [List.length_range, List.length_map, ← str_len] at h2
    exact h2
  · rw [List.Nodup, List.pairwise_map]
    refine hp.imp_of_mem fun {a b} ha hb h => ?_
    have := hl a ha
    have := hl b hb
    omega
  · obtain ⟨c, hc, rfl⟩ := List.mem_map.mp hx
    have := hl c hc
    rw [List.mem_range]
    omega
/-- ints as the keys of a dict -/
def kni (ks : List Nat) : List (Key × D) := ks.map fun (k : Nat) => ((Sum.inl (k : Int) : Key), D.bl true)
theorem kni_keys (ks : List Nat) (k : Nat) : (Sum.inl (k : Int) : Key) ∈ (kni ks).map (·.1) ↔ k ∈ ks := by
  unfold kni
  rw [List.map_map, List.mem_map]
  constructor
  · rintro ⟨x, hx, e⟩
    have : (x : Int) = k := by simpa using e
    have : x = k := by omega
    exact this ▸ hx
  · exact fun h => ⟨k, h, rfl⟩
theorem kni_map (ks : List Nat) : (kni ks).map (·.1) = (ks.map fun (k : Nat) => (k : Int)).map Sum.inl := by
  unfold kni
  rw [List.map_map, List.map_map]
  rfl
/-- one key more, or none -/
def insK (ks : List Nat) (k : Nat) : List Nat := if k ∈ ks then ks else ks ++ [k]
theorem putG_old {v : D} {ps : List (Key × D)} {k : Key} (hv : ∀ p ∈ ps, p.2 = v) (h : k ∈ ps.map (·.1)) : putG ps k v = ps := by
  unfold putG
  obtain ⟨q, hq, e⟩ := List.mem_map.mp h
  rw [if_pos (List.any_eq_true.mpr ⟨q, hq, by rw [decide_eq_true_eq]; exact e⟩)]
  refine (List.map_congr_left fun p hp => ?_).trans (List.map_id ps)
  split
  · rw [← hv p hp]
    rfl
  · rfl
theorem put_kni (ks : List Nat) (k : Nat) : putG (kni ks) (Sum.inl (k : Int)) (.bl true) = kni (insK ks k) := by
  unfold insK
  split
  · next h =>
    exact putG_old (fun p hp => by
      obtain ⟨x, _, rfl⟩ := List.mem_map.mp hp
      rfl) ((kni_keys ks k).mpr h)
  · next h =>
    rw [putG_new (fun z => h ((kni_keys ks k).mp z))]
    simp [kni]
theorem mem_insK {ks : List Nat} {k x : Nat} : x ∈ insK ks k ↔ x ∈ ks ∨ x = k := by
  unfold insK
  split
  · next h =>
    constructor
    · exact .inl
    · rintro (h1 | rfl)
      · exact h1
      · exact h
  · simp
theorem nodup_insK {ks : List Nat} {k : Nat} (h : ks.Nodup) : (insK ks k).Nodup := by
  unfold insK
  split
  · exact h
  · next hk =>
    rw [List.nodup_append]
    refine ⟨h, by simp, fun a ha b hb e => ?_⟩
    simp at hb
    subst hb e
    exact hk ha
theorem up_kni (ks ms : List Nat) : upG (kni ks) (kni ms) = kni (ms.foldl insK ks) := by
  unfold upG
  induction ms generalizing ks with
  | nil => rfl
  | cons m ms ih =>
    show (kni ms).foldl _ (putG (kni ks) (Sum.inl (m : Int)) (.bl true)) = _
    rw [put_kni]
    exact ih _
theorem mem_fold_ins {ms : List Nat} : ∀ {ks : List Nat} {x : Nat}, x ∈ ms.foldl insK ks ↔ x ∈ ks ∨ x ∈ ms := by
  induction ms with
  | nil => intro ks x; simp
  | cons m ms ih =>
    intro ks x
    show x ∈ ms.foldl insK (insK ks m) ↔ _
    rw [ih, mem_insK, List.mem_cons]
    constructor
    · rintro ((h | h) | h)
      · exact .inl h
      · exact .inr (.inl h)
      · exact .inr (.inr h)
    · rintro (h | h | h)
      · exact .inl (.inl h)
      · exact .inl (.inr h)
      · exact .inr h
theorem nodup_fold_ins {ms : List Nat} : ∀ {ks : List Nat}, ks.Nodup → (ms.foldl insK ks).Nodup := by
  induction ms with
  | nil => intro ks h; exact h
  | cons m ms ih => exact fun h => ih (nodup_insK h)
theorem sorted_kni {ks ms : List Nat} {ys : List Int} (nd : ks.Nodup) (hp : ys.Perm (ks.map fun (k : Nat) => (k : Int))) (hs : ys.Pairwise (· ≤ ·)) (hm : ∀ x, x ∈ ks ↔ x ∈ ms) : ys = (ascN ms).map fun (k : Nat) => (k : Int) := by
  obtain ⟨zs, hz, rfl⟩ := perm_map_inv hp
  congr 1
  refine ascN_ext ?_ (asc_ascN ms) fun x => by rw [hz.mem_iff, hm x, mem_ascN]
  have n2 : zs.Nodup := hz.nodup_iff.mpr nd
  rw [List.pairwise_map] at hs
  exact (hs.and n2).imp fun ⟨a, b⟩ => by omega
theorem bensF_low {rs : List (List Nat)} : rowsOk rs → ∀ (i : Nat) (b : List Nat), (bensF rs)[i]? = some b → ∀ x ∈ b, x < i := by
  induction rs using snoc_ind with
  | h0 => intro _ i b h; simp [bensF] at h
  | h1 rs r ih =>
    intro ok i b h x hx
    have ok2 : rowsOk rs := by
      have := ok.take rs.length
      simpa using this
    rw [bensF_snoc] at h
    by_cases hi : i < (bensF rs).length
    · rw [List.getElem?_append_left hi] at h
      exact ih ok2 i b h x hx
    · rw [List.getElem?_append_right (by omega)] at h
      have e : i = rs.length := by
        have := (List.getElem?_eq_some_iff.mp h).1
        rw [bensF_len] at *
        simp at this
        omega
      subst e
      rw [bensF_len] at h
      simp at h
      subst h
      rw [mem_ascN, List.mem_append] at hx
      have hr := (ok.asc rs.length r (by simp)).2
      rcases hx with h | h
      · exact hr x h
      · obtain ⟨l, hl, hx2⟩ := List.mem_flatten.mp h
        obtain ⟨k, hk, rfl⟩ := List.mem_map.mp hl
        have hk2 := hr k hk
        have hb : (bensF rs)[k]? = some ((bensF rs).getD k []) := by
          rw [List.getD_eq_getElem?_getD, List.getElem?_eq_getElem (by rw [bensF_len]; exact hk2)]
          rfl
        have := ih ok2 k _ hb x hx2
        omega
theorem low_len {ks : List Nat} {j : Nat} (nd : ks.Nodup) (h : ∀ x ∈ ks, x < j) : ks.length ≤ j := by
  have h2 := List.Nodup.length_le_of_subset (l₁ := ks) (l₂ := List.range j) nd fun x hx => List.mem_range.mpr (h x hx)
  rwa [List.length_range] at h2
theorem kni_len (ks : List Nat) : (kni ks).length = ks.length := by simp [kni]
theorem at_row {bs : List (List Nat)} {k : Nat} (h : k < bs.length) : atI (bs.map rowD) ((k : Nat) : Int) = some (rowD (bs.getD k [])) := by
  unfold atI ixN
  rw [if_pos (by omega), if_pos (by rw [List.length_map]; omega)]
  simp [h]
theorem fold_max : ∀ (ls : List Nat) (a : Nat), ls.foldl max a ∈ a :: ls ∧ ∀ y ∈ a :: ls, y ≤ ls.foldl max a
  | [], a => by simp
  | b :: ls, a => by
    obtain ⟨h1, h2⟩ := fold_max ls (max a b)
    show ls.foldl max (max a b) ∈ _ ∧ ∀ y ∈ _, y ≤ ls.foldl max (max a b)
    have h3 := h2 (max a b) List.mem_cons_self
    refine ⟨?_, fun y hy => ?_⟩
    · rcases List.mem_cons.mp h1 with e | e
      · rw [e]
        rcases Nat.le_total a b with h | h
        · rw [Nat.max_eq_right h]
          simp
        · rw [Nat.max_eq_left h]
          simp
      · exact List.mem_cons_of_mem _ (List.mem_cons_of_mem _ e)
    · simp only [List.mem_cons] at hy
      rcases hy with rfl | rfl | hy
      · omega
      · omega
      · exact h2 y (List.mem_cons_of_mem _ hy)
theorem at_nat {hs : List Nat} {k : Nat} (h : k < hs.length) : atI (hs.map natD) ((k : Nat) : Int) = some (natD (hs.getD k 0)) := by
  unfold atI ixN
  rw [if_pos (by omega), if_pos (by rw [List.length_map]; omega)]
  simp [h]
section
variable {F : FmKit} {T : Kx} {RR : Om → Prop} {x : Addr} {z : D} {n : Str} {ns nm : List Str} {l : List D} {c : Nat}
theorem rcv_newC (zf : CZ T.K (T.cl c) nm) (hn : n ∈ nm) (h : n ∉ ns) (hl : ns.length < 1000) (r : RR [(x, .ins c (ns ++ [n]) (l ++ [z]))]) : Rcv F T (.adr x) z n [(x, .ins c ns l)] RR :=
  ⟨x, c, ns, l, [], [], _, _, rfl, rfl, zf.cls, zf.nos n hn, hl, .new ns l h, r⟩
end
inductive FldW : Str → Wb → D → Prop
  | below (w : Wb) : FldW "below" w (rowsD w.below)
  | atoms (w : Wb) : FldW "atoms" w (atomsD w.atoms)
  | bens (w : Wb) : FldW "all_beneath" w (.lst ((bensF w.below).map rowD))
  | hgts (w : Wb) : FldW "all_heights" w (.lst ((hgtF w.below).map natD))
end N
set_option Elab.async false
set_option linter.all false
set_option maxRecDepth 100000
namespace N
open PySem PySem.Spec PyProof.Rows L2
open C8 (Cal Met Mak InsC pe_c pe_mt pe_mt0 pe_mk)
/-- a def of the text with defaults -/
abbrev FunT (K : PySem.W.Frag) (x qual : Str) (st : Stmt) (dvs : List V) (f : Addr) (fd : FuncData) : Prop := FunD K x qual (defArgs st) (defBody st) (defScope st) dvs [] f fd
section
variable {P : Program} {w : World} {K : PySem.W.Frag} {mg : Str → Option Value} {base : Heap} {F : FmKit} {cl : Nat → Addr} {S : FS}
/-- every argument is written -/
theorem FunT.all {x qual : Str} {st : Stmt} {dvs : List V} {f : Addr} {fd : FuncData} {ps : List Str} (Fn : FunT K x qual st dvs f fd) (hd : dvs ≠ [])
    (h : ∀ (T : Addr) (kV doc pm : Value) (an : Option Addr) (cdv ct : Value) (us its : List Value), us.length = ps.length → its.length = dvs.length →
      ∃ k, bindArgs (PySem.W.fnOf x qual (defArgs st) (defBody st) (defScope st) (.ref T) kV doc pm an cdv ct) ⟨us, []⟩ = seqItems? (.ref T) >>= k ∧ k (some its.toArray) = pure (ps.zip us)) : Binds K fd ps [] := by
  obtain ⟨ds, r, b⟩ := FunD.binds1 (ps := ps) Fn ps.length dvs.length hd (by omega) (fun T kV doc pm an cdv ct us its h1 h2 => by
    obtain ⟨k, e1, e2⟩ := h T kV doc pm an cdv ct us its h1 h2
    refine ⟨k, e1, ?_⟩
    rw [e2, List.drop_of_length_le (by omega), List.append_nil])
  rw [List.drop_of_length_le (Nat.le_refl _)] at r
  cases r
  exact b
end
theorem inst_wb {F : FmKit} {W : Om} (w : Wb) : Inst F W w.d 1 wbNames [rowsD w.below, atomsD w.atoms, .lst ((bensF w.below).map rowD), .lst ((hgtF w.below).map natD)] := .obj _ _ _
/-- a field of a formula or of a web -/
theorem ev_fwF {T : Kx} {G : Gm} {W : Om} {R : D → Om → Prop} {ta : TE} {n : Str} (zf : FZ T.K (T.cl 0)) (zw : CZ T.K (T.cl 1) wbNames)
    (h : Ev FK T ta G W fun d W1 => (∃ f z, d = .fm f ∧ FldF n f z ∧ R z W1) ∨ ∃ w z, d = Wb.d w ∧ FldW n w z ∧ R z W1) : Ev FK T (tFld T.K ta n) G W R :=
  ev_fld (h.imp fun d W1 hh => by
    rcases hh with ⟨f, z, e, k, r⟩ | ⟨w, z, e, f, r⟩
    · subst e
      exact ⟨0, fmNames, fmVals FK f, z, .fm f, zf.cls, zf.nos n k.look.1, k.look.2, r⟩
    · subst e
      refine ⟨1, wbNames, _, z, .obj _ _ _, zw.cls, ?_, ?_, r⟩
      · cases f <;> exact zw.nos _ (by decide +kernel)
      · cases f <;> rfl)
end N
set_option Elab.async false
set_option linter.all false
set_option maxRecDepth 100000
set_option maxHeartbeats 4000000
namespace N
open PySem PySem.Spec PyProof.Rows L2
def rSetL (K : PySem.W.Frag) (w : World) : List V → Hp → VK → Prop := fun xs H Q => ∃ (l : Addr) (ns : List Int), xs = [.ref l] ∧ SqL K H l (ns.map V.int) ∧ ns.length < 4000 ∧ ∀ a c, c ≤ ns.length → H a = none → Q (.ref a) (upd H a (SetO w a (fun j => decide (j ∈ ns)) c))
end N
set_option Elab.async false
set_option linter.all false
set_option maxRecDepth 100000
set_option maxHeartbeats 4000000
namespace N
open PySem PySem.Spec PyProof.Rows L2
section
variable {F : FmKit} {T : Kx} {C H H' O O' : Hp} {G : Gm} {W W' : Om} {R : D → Om → Prop} {σ : L2.St} {d e : D} {l m : List D} {te ta tb to ti : TE}
/-- o[i] = e of a list -/
theorem ta_subL {RR : Gm → Om → Prop} (h : Ev F T to G W fun o W1 => Ev F T ti G W1 fun i W2 => ∃ p l k j W3 W4, o = .adr p ∧ i = .int k ∧ W2 = W3 ++ (p, .lst l) :: W4 ∧ L2.ixN l.length k = some j ∧ RR G (W3 ++ (p, .lst (l.set j d)) :: W4)) :
    Ta F T (gSub to ti L2.rSetL) d G W RR := fun C H O σ w v k Q q =>
  h C H O σ w _ fun o W1 H1 O1 ov' h1 n1 k1 => h1 C H1 O1 σ (w.step n1) _ fun i W2 H2 O2 iv ⟨p, l, kk, j, W3, W4, e1, e2, e3, hj, r⟩ n2 k2 => by
    subst e1 e2 e3
    have k1 : ov' = .ref p := k1
    have k2 : iv = .int kk := k2
    subst k1 k2
    have nx := n1.trans n2
    obtain ⟨xs, e, kl⟩ := own_lst n2.own
    have kv := (k.mono n1.ext).mono n2.ext
    obtain ⟨n3, e3⟩ := nx.write (o := .lst (xs.set j v)) (od2 := .lst (l.set j d)) ⟨_, rfl, kl.set kv⟩
    refine ⟨p, xs, kk, j, rfl, rfl, ov_own e, by rw [kl.len]; exact hj, ?_⟩
    rw [e3]
    exact q G _ _ _ σ r n3 (w.loc.mono nx.ext)
end
end N
set_option Elab.async false
set_option linter.all false
set_option maxRecDepth 100000
set_option maxHeartbeats 4000000
namespace N
open PySem PySem.Spec PyProof.Rows L2
theorem sub_str_str : isSubtype (.type "str") (.type "str") = pure true := by rw [isSubtype_type]; kernel_rfl
section
variable {P : Program} {w : World} {A : Around} {E : Value → Shared → Prop} {s : Shared}
theorem strsAre_of_get {us : List Value} {xs : List Str} (hl : us.length = xs.length) (h : ∀ (i : Nat) (v : Value), us[i]? = some v → ∃ k t, xs[i]? = some k ∧ v = .str k t) : StrsAre us xs := by
  induction us generalizing xs with
  | nil =>
    cases xs with
    | nil => exact .nil
    | cons x xs => cases hl
  | cons u us ih =>
    cases xs with
    | nil => cases hl
    | cons x xs =>
      obtain ⟨k, t, e1, rfl⟩ := h 0 u rfl
      have e1 : some x = some k := e1
      cases e1
      exact .cons x t (ih (by simpa using hl) fun i v hv => h (i + 1) v hv)
theorem collect_text {x : Str} {t : Tok} {Q : List Value → Shared → Prop} (hh : A.handled = none) (hb : x.length ≤ sizeLine)
    (hQ : ∀ s' out, (∀ b o, s.heap.get? b = some o → s'.heap.get? b = some o) → s.heap.objs.size ≤ s'.heap.objs.size → s'.gens = s.gens → s'.os = s.os → StrsAre out (signs x) → Q out s') :
    wpAny (model P w) A (collect (.str x t)) Q E s := by
  unfold collect
  refine wpAny_bind (wpAny_runValue (codeAny_builtin F.entry_proto_collect ?_))
  rw [Around.under_plainId F.plain_proto_collect _]
  show wpAny _ A.in1 (newList [] >>= fun l => again (.builtin "list.__iadd__" ⟨[l, .str x t], []⟩)) _ _ s
  refine wpAny_bind (wpAny_newObj_type ?_)
  refine wpAny_pure ⟨plainId_quiet F.plain_list_iadd _, codeAny_builtin F.entry_list_iadd ?_⟩
  rw [Around.under_plainId F.plain_list_iadd _]
  have hS : (s.heap.push { cls := .type "list", data := .seq ([] : List Value).toArray }).get? s.heap.objs.size = some { cls := .type "list", data := .seq ([] : List Value).toArray } := Heap.get?_push_size _ rfl
  have hz1 : (s.heap.push { cls := .type "list", data := .seq ([] : List Value).toArray }).objs.size = s.heap.objs.size + 1 := size_push' _ _
  show wpAny _ A.in1 (Builtin.List.listExtendWith (.ref s.heap.objs.size) (.str x t) (.ref s.heap.objs.size)) _ _ _
  unfold Builtin.List.listExtendWith
  refine wpAny_bind (wpAny_typeOf (T := "str") (typeIs_str _ _ _) ?_)
  have h1 : Builtin.List.listSameRef (.ref s.heap.objs.size) (.str x t) = false := rfl
  have h2 : (Value.type "str" == Value.type "list") = false := by decide
  have h3 : (Value.type "str" == Value.type "tuple") = false := by decide
  simp only [h1, h2, h3, Bool.or_false, Bool.false_eq_true, if_false]
  refine wpAny_bind (wpAny_pyIter_str fun o St W hst => ?_)
  refine wpAny_bind (wpAny_holding ?_)
  unfold Builtin.List.listLengthHint
  refine wpAny_bind (wpAny_specialOf (typeIs_str _ _ _) F.slot_str_len.lookup ?_)
  (generalize hid : ("str.__len__" : String) = id0; (fail_if_success (clear hid id0)); wp_delta; rw [show splitId id0 = some ("str", "__len__") from by subst hid; decide +kernel]; subst hid)
  refine wpAny_bind (wpAny_isInstance (b := true) (typeIs_str _ _ _) sub_str_str ?_)
  show wpAny _ A.in1 (typeOf (.str x t) >>= _) _ _ _
  refine wpAny_bind (wpAny_typeOf (T := "str") (typeIs_str _ _ _) ?_)
  refine wpAny_pure ?_
  refine wpAny_ite_false (by decide +kernel) ?_
  have hI : (s.heap.push { cls := .type "list", data := .seq ([] : List Value).toArray }).objs.size = s.heap.objs.size + 1 := hz1
  have hS2 : ((s.heap.push { cls := .type "list", data := .seq ([] : List Value).toArray }).push o).get? s.heap.objs.size = some { cls := .type "list", data := .seq ([] : List Value).toArray } := Heap.get?_push_of_some _ hS
  have hSf : s.heap.objs.size ∉ [(s.heap.push { cls := .type "list", data := .seq ([] : List Value).toArray }).objs.size] := by
    rw [hz1, List.mem_singleton]
    omega
  refine wpAny_pure ⟨plainId_quiet F.plain_extend_loop _, codeAny_extend_loopS (W A.in1 hh).toS hb _ hSf _ x.cps.size 0 _ _ _ rfl (Nat.zero_le _) hst hS2 (ItemsOf.nil (SignAt x)) fun s' acc' c' hm hS' hacc => ?_⟩
  show wpAny _ A (load s.heap.objs.size >>= _) _ _ s'
  refine wpAny_bind (wpAny_load hS' ?_)
  refine wpAny_pure ?_
  show Q acc'.toList s'
  refine hQ s' _ (fun b u e => ?_) (Nat.le_of_lt (Heap.lt_size hS')) hm.gens hm.os ?_
  · have hbl : b < s.heap.objs.size := Heap.lt_size e
    refine hm.heap b u (fun z => ?_) (Heap.get?_push_of_some _ (Heap.get?_push_of_some _ e))
    rcases List.mem_cons.mp z with z | z
    · exact Nat.ne_of_lt hbl z
    · have z := List.mem_singleton.mp z
      exact Nat.ne_of_lt (Nat.lt_succ_of_lt hbl) (z.trans hz1)
  · refine strsAre_of_get ?_ fun i v hv => ?_
    · unfold signs
      rw [Array.length_toList, hacc.1, List.length_map, Array.length_toList]
    · rw [Array.getElem?_toList] at hv
      obtain ⟨c, u, hc, e⟩ := hacc.2 i v hv
      refine ⟨⟨#[c]⟩, u, ?_, e⟩
      unfold signs
      rw [List.getElem?_map, Array.getElem?_toList, hc]
      rfl
theorem sorted_text {x : Str} {t : Tok} {Q : Value → Shared → Prop} (hh : A.handled = none) (hb : x.length ≤ sizeLine)
    (hQ : ∀ s' p (out : Array Value) (c : Nat) (ks : List Str), (∀ b o, s.heap.get? b = some o → s'.heap.get? b = some o) → s'.gens = s.gens → s'.os = s.os → s.heap.objs.size ≤ p →
      s'.heap.get? p = some (seqObj "list" out c) → StrsAre out.toList ks → sortedS ks = true → ks.Perm (signs x) → Q (.ref p) s') :
    wpAny (model P w) A (call (.builtin "sorted") [.str x t]) Q E s := by
  refine Calls.call_function_entry kind_sorted plain_sorted entry_sorted (args_sorted1 _) ?_
  unfold Builtin.«sorted»
  refine wpAny_bind (m := checkCount "sorted" 1 1 _) (wpAny_pure (wpAny_bind (collect_text (A := A.in1) hh hb fun s1 vs k1 hz g1 o1 hI => ?_)))
  have hvl : vs.length = (signs x).length := hI.length
  have hs : vs.length ≤ sizeLine := by
    rw [hvl]
    unfold signs
    rw [List.length_map, Array.length_toList]
    exact hb
  refine wpAny_bind (wpAny_newList ?_ hs)
  have hoL : (s1.heap.push (seqObj "list" vs.toArray 0)).get? s1.heap.objs.size = some (seqObj "list" vs.toArray 0) := Heap.get?_push_size _ rfl
  refine wpAny_bind (wpAny_holding (wpAny_call_entry slot_list_sort ⟨_, hoL, rfl⟩ entry_list_sort (list_sort_treeKAny strKind_oneLt hoL hI.keysOf (fun v₁ v₂ rest e => keyKind_strs (by rw [← e]; exact hI)) hs fun st' hp ht => ⟨_, rfl, ?_⟩) (args_list_sort _)))
  obtain ⟨ss, h1, h2, h3⟩ := sorted_out_str hI hp ht
  obtain ⟨c, hc⟩ := sortedHeap_at (vs := vs) (out := (arrOf st').map (·.2)) hoL
  refine wpAny_pure ⟨_, rfl, hQ _ s1.heap.objs.size _ c ss (fun b u e => ?_) g1 o1 hz hc h1 h3 h2⟩
  have q := k1 b u e
  have hlt := Heap.lt_size q
  show (sortedHeap (s1.heap.push (seqObj "list" vs.toArray 0)) s1.heap.objs.size vs _).get? b = some u
  rw [sortedHeap_old (Nat.ne_of_lt hlt) (by rw [size_push']; exact Nat.lt_succ_of_lt hlt)]
  exact Heap.get?_push_of_some _ q
end
def rSortedX : List V → Hp → VK → Prop := fun vs H Q => ∃ x : Str, vs = [V.str x] ∧ x.length ≤ 5000 ∧ ∀ (ks : List Str) (p : Addr), sortedS ks = true → ks.Perm (signs x) → H p = none → Q (.ref p) (upd H p (.lst (ks.map V.str)))
theorem cr_sortedX {X : Cx} (hc : X.calm = true) : CallR X (.builtin "sorted") rSortedX := by
  intro pins s σ H vs us Q I r h
  obtain ⟨x, rfl, hx, q⟩ := h
  obtain ⟨u, rfl, t, rfl⟩ := vals1 r
  have h16 := sizeLine_eq
  refine sorted_text (I.ok.hd hc) (by omega) fun s' p out c ks k g o hp hg hi hs hm => ?_
  have hlen : (ks.map V.str).length ≤ sizeLine := by
    rw [List.length_map, hm.length_eq]
    unfold signs
    rw [List.length_map, Array.length_toList]
    show x.length ≤ _
    omega
  have hn : H p = none := I.hok.fresh hp
  have J : Inv X pins σ (upd H p (.lst (ks.map V.str))) { s with heap := s'.heap, gens := s'.gens, drawn := s'.drawn, toks := s'.toks } :=
    I.call (ch := []) (Un.laid k hp hn) (I.hok.laid k hp ⟨hlen, out.toList, c, vals_of_strs hi, hg⟩) (by rw [g]; exact I.bare) (fun _ z => nomatch z)
  have e : s' = { s with heap := s'.heap, gens := s'.gens, drawn := s'.drawn, toks := s'.toks } := by
    cases s'
    cases s
    cases o
    rfl
  rw [e]
  exact ⟨.ref p, _, J, rfl, q ks p hs hm hn⟩
/-- sorted of a text of unlike signs -/
theorem sorted_signs {x : Str} {ks : List Str} (hs : sortedS ks = true) (hp : ks.Perm (signs x)) (nd : (lets x).Nodup) : ks = (ascN (lets x)).map sg := by
  have e1 : signs x = (lets x).map sg := rfl
  have n2 : (signs x).Nodup := by
    rw [e1]
    exact nd.map (f := sg) fun a b e h => e (sg_inj h)
  rw [ascS_sorted (m := signs x) hs (hp.nodup_iff.mpr n2) fun z => hp.mem_iff, e1, ascS_sg]
  rfl
section
variable {F : FmKit} {T : Kx} {G : Gm} {W W' : Om} {R : D → Om → Prop}
theorem ca_sortedX {x : Str} (hx : x.length ≤ 5000) (nd : (lets x).Nodup) (r : R (.lst ((ascN (lets x)).map fun c => .str (sg c))) W) : Ca F T rSortedX [.str x] W R := ca_one fun C H O di oc ow v k Q q => by
  have k : v = .str x := k
  refine ⟨x, by rw [k], hx, fun ys p hs hp hn => ?_⟩
  obtain ⟨n2, e2, s2⟩ := (Nx.refl (F := F) (T := T) di oc ow).newF (o := .lst (ys.map V.str)) hn
  rw [e2]
  refine q _ W _ O _ r n2 ⟨p, _, rfl, upd_same, ?_⟩
  rw [sorted_signs hs hp nd]
  have := den_strs (F := F) (T := T) (H := upd H p (.lst (((ascN (lets x)).map sg).map V.str))) ((ascN (lets x)).map sg)
  rw [show ((ascN (lets x)).map fun c => D.str (sg c)) = ((ascN (lets x)).map sg).map D.str by rw [List.map_map]; rfl]
  exact this
end
end N
set_option Elab.async false
set_option linter.all false
set_option maxRecDepth 100000
namespace N
open PySem PySem.Spec PyProof.Rows L2
theorem getD_snoc_lt {α : Type} {l : List α} {a d : α} {i : Nat} (h : i < l.length) : (l ++ [a]).getD i d = l.getD i d := by
  rw [List.getD_eq_getElem?_getD, List.getD_eq_getElem?_getD, List.getElem?_append_left h]
theorem getD_snoc_eq {α : Type} {l : List α} {a d : α} {i : Nat} (h : i = l.length) : (l ++ [a]).getD i d = a := by
  subst h
  rw [List.getD_eq_getElem?_getD, List.getElem?_append_right (Nat.le_refl _)]
  simp
theorem rowsOk.init {rs : List (List Nat)} {r : List Nat} (h : rowsOk (rs ++ [r])) : rowsOk rs := by
  have := h.take rs.length
  simpa using this
theorem rowsOk.at_ {rs : List (List Nat)} (h : rowsOk rs) {i : Nat} (hi : i < rs.length) : (rs.getD i []).Pairwise (· < ·) ∧ ∀ k ∈ rs.getD i [], k < i :=
  h.asc i _ (by rw [List.getD_eq_getElem?_getD, List.getElem?_eq_getElem hi]; rfl)
theorem bens_at {rs : List (List Nat)} : rowsOk rs → ∀ {i : Nat}, i < rs.length → (bensF rs).getD i [] = ascN (rs.getD i [] ++ ((rs.getD i []).map fun k => (bensF rs).getD k []).flatten) := by
  induction rs using snoc_ind with
  | h0 => intro _ i h; cases h
  | h1 rs r ih =>
    intro ok i hi
    rw [bensF_snoc]
    have hl := bensF_len rs
    rw [List.length_append] at hi
    have hi : i < rs.length + 1 := hi
    rcases Nat.lt_or_eq_of_le (Nat.le_of_lt_succ hi) with h | h
    · rw [getD_snoc_lt (by omega), getD_snoc_lt h, ih ok.init h]
      congr 3
      refine List.map_congr_left fun k hk => ?_
      have := (ok.init.at_ h).2 k hk
      rw [getD_snoc_lt (by omega)]
    · rw [getD_snoc_eq (by omega), getD_snoc_eq h]
      congr 3
      refine List.map_congr_left fun k hk => ?_
      have := (ok.asc rs.length r (by simp)).2 k hk
      rw [getD_snoc_lt (by omega)]
theorem bens_mem {rs : List (List Nat)} (ok : rowsOk rs) {i x : Nat} (hi : i < rs.length) : x ∈ (bensF rs).getD i [] ↔ x ∈ rs.getD i [] ∨ ∃ k ∈ rs.getD i [], x ∈ (bensF rs).getD k [] := by
  rw [bens_at ok hi, mem_ascN, List.mem_append, List.mem_flatten]
  refine or_congr Iff.rfl ⟨fun ⟨l, h1, h2⟩ => ?_, fun ⟨k, h1, h2⟩ => ⟨_, List.mem_map.mpr ⟨k, h1, rfl⟩, h2⟩⟩
  obtain ⟨k, h3, rfl⟩ := List.mem_map.mp h1
  exact ⟨k, h3, h2⟩
theorem bens_lt {rs : List (List Nat)} (ok : rowsOk rs) {i x : Nat} (hi : i < rs.length) (h : x ∈ (bensF rs).getD i []) : x < i :=
  bensF_low ok i _ (by rw [List.getD_eq_getElem?_getD, List.getElem?_eq_getElem (by rw [bensF_len]; exact hi)]; rfl) x h
theorem bens_trans {rs : List (List Nat)} (ok : rowsOk rs) {x k : Nat} : ∀ (i : Nat), i < rs.length → k ∈ (bensF rs).getD i [] → x ∈ (bensF rs).getD k [] → x ∈ (bensF rs).getD i [] := by
  intro i
  induction i using Nat.strongRecOn with
  | ind i ih =>
    intro hi h hx
    rcases (bens_mem ok hi).mp h with h1 | ⟨q, h1, h2⟩
    · exact (bens_mem ok hi).mpr (.inr ⟨k, h1, hx⟩)
    · have hq := (ok.at_ hi).2 q h1
      exact (bens_mem ok hi).mpr (.inr ⟨q, h1, ih q hq (by omega) h2 hx⟩)
theorem bens_row {rs : List (List Nat)} (ok : rowsOk rs) {i x k : Nat} (hi : i < rs.length) (h : k ∈ (bensF rs).getD i []) (hx : x ∈ rs.getD k []) : x ∈ (bensF rs).getD i [] := by
  have := bens_lt ok hi h
  exact bens_trans ok i hi h ((bens_mem ok (by omega)).mpr (.inl hx))
/-- the ways, gone one by one -/
structure WW (rs : List (List Nat)) (i : Nat) (met wait : List Nat) : Prop where
  nd : met.Nodup
  ms : ∀ x ∈ met, x ∈ (bensF rs).getD i []
  ws : ∀ x ∈ wait, x ∈ (bensF rs).getD i []
  top : ∀ k ∈ rs.getD i [], k ∈ met ∨ k ∈ wait
  cl : ∀ m ∈ met, ∀ k ∈ rs.getD m [], k ∈ met ∨ k ∈ wait
theorem WW.start {rs : List (List Nat)} (ok : rowsOk rs) {i : Nat} (hi : i < rs.length) : WW rs i [] (rs.getD i []) :=
  ⟨List.nodup_nil, by simp, fun x hx => (bens_mem ok hi).mpr (.inl hx), fun k hk => .inr hk, by simp⟩
theorem WW.new {rs : List (List Nat)} (ok : rowsOk rs) {i k : Nat} {met wait : List Nat} (hi : i < rs.length) (w : WW rs i met (wait ++ [k])) (h : k ∉ met) : WW rs i (met ++ [k]) (wait ++ rs.getD k []) := by
  have hk := w.ws k (by simp)
  have mv : ∀ x, x ∈ met ∨ x ∈ wait ++ [k] → x ∈ met ++ [k] ∨ x ∈ wait ++ rs.getD k [] := fun x hx => by
    simp only [List.mem_append, List.mem_singleton] at hx ⊢
    rcases hx with h | h | h
    · exact .inl (.inl h)
    · exact .inr (.inl h)
    · exact .inl (.inr h)
  refine ⟨?_, fun x hx => ?_, fun x hx => ?_, fun x hx => mv x (w.top x hx), fun m hm x hx => ?_⟩
  · rw [List.nodup_append]
    refine ⟨w.nd, by simp, fun a ha b hb e => ?_⟩
    rw [List.mem_singleton] at hb
    subst hb e
    exact h ha
  · rcases List.mem_append.mp hx with h1 | h1
    · exact w.ms x h1
    · rw [List.mem_singleton] at h1
      exact h1 ▸ hk
  · rcases List.mem_append.mp hx with h1 | h1
    · exact w.ws x (by simp [h1])
    · exact bens_row ok hi hk h1
  · rcases List.mem_append.mp hm with h1 | h1
    · exact mv x (w.cl m h1 x hx)
    · rw [List.mem_singleton] at h1
      subst h1
      exact .inr (List.mem_append_right _ hx)
theorem WW.few {rs : List (List Nat)} (ok : rowsOk rs) {i : Nat} {met wait : List Nat} (hi : i < rs.length) (w : WW rs i met wait) : met.length ≤ i :=
  low_len w.nd fun x hx => bens_lt ok hi (w.ms x hx)
theorem rowsOk.nil : rowsOk [] := ⟨fun i r h => by simp at h, by simp⟩
theorem rowsOk.snoc {rs : List (List Nat)} {r : List Nat} (h : rowsOk rs) (h1 : r.Pairwise (· < ·)) (h2 : ∀ k ∈ r, k < rs.length) (hl : rs.length < 63) : rowsOk (rs ++ [r]) := by
  refine ⟨fun i q hq => ?_, by simp; omega⟩
  by_cases hi : i < rs.length
  · rw [List.getElem?_append_left hi] at hq
    exact h.asc i q hq
  · rw [List.getElem?_append_right (by omega)] at hq
    have e : i - rs.length = 0 := by
      have := (List.getElem?_eq_some_iff.mp hq).1
      simp at this
      omega
    rw [e] at hq
    have hq : some r = some q := hq
    cases hq
    have e : i = rs.length := by omega
    subst e
    exact ⟨h1, h2⟩
theorem asc_few {p : Str} (hp : letters p) : (ascN (lets p)).length ≤ 100 := by
  have h1 := (asc_ascN (lets p)).imp (S := (· ≠ ·)) fun h => Nat.ne_of_lt h
  have h2 := List.Nodup.length_le_of_subset (l₁ := (ascN (lets p)).map (· - 30)) (l₂ := List.range 100) ?_ fun x hx => ?_
  · rw [List.length_range, List.length_map] at h2
    exact h2
  · rw [List.Nodup, List.pairwise_map]
    refine h1.imp_of_mem fun {a b} ha hb h => ?_
    have := hp a (mem_ascN.mp ha)
    have := hp b (mem_ascN.mp hb)
    omega
  · obtain ⟨c, hc, rfl⟩ := List.mem_map.mp hx
    have := hp c (mem_ascN.mp hc)
    rw [List.mem_range]
    omega
theorem letsN_len {p : Str} (hp : letters p) (nd : (lets p).Nodup) : (lets p).length ≤ 100 := by
  have h2 := List.Nodup.length_le_of_subset nd (l₂ := ascN (lets p)) fun x hx => mem_ascN.mpr hx
  exact Nat.le_trans h2 (asc_few hp)
theorem sg_sum : ∀ m : List Nat, ((m.map sg).map (·.length)).sum = m.length
  | [] => rfl
  | c :: m => by
    have := sg_sum m
    simp only [List.map_cons, List.sum_cons, List.length_cons]
    rw [this]
    show 1 + _ = _
    omega
theorem ixN_nat {n k : Nat} (h : k < n) : L2.ixN n ((k : Nat) : Int) = some k := by
  unfold L2.ixN
  rw [if_pos (by omega), if_pos (by omega)]
  simp
theorem eqself {α : Type} {x : α} {i : Decidable (x = x)} : (@decide (x = x) i) = true := by
  cases i with
  | isTrue h => rfl
  | isFalse h => exact absurd rfl h
theorem neself {α : Type} {x : α} {i : Decidable (x = x)} : (!@decide (x = x) i) = false := by
  cases i with
  | isTrue h => rfl
  | isFalse h => exact absurd rfl h
def S_web (Dk : Deck) : FS := fun ds W post => ∃ (a : Addr) (c : Int) (p : Str) (n : Nat), ds = [.adr a, .str p, natD n] ∧ Dk a c W ∧ 0 < n ∧ n ≤ 40 ∧ letters p ∧ (lets p).Nodup ∧ c + 10000 < 2 ^ 59 ∧
  ∀ (w : Wb) (W' : Om), w.ok → w.below.length ≤ n → (∀ s ∈ w.atoms, ∀ q ∈ lets s, q ∈ lets p) → Dk a (c + 10000) W' → post (.tup [rowsD w.below, atomsD w.atoms]) W'
end N
set_option Elab.async false
set_option linter.all false
set_option maxRecDepth 100000
namespace N
open PySem PySem.Spec PyProof.Rows L2
theorem pi_zipT {X : Cx} {e e2 : Expr} {ta tk : TA} {p pos tpos : Pos} {elts : List Expr} {kk : Nat} {kws : List Keyword} (hg : Gl X "zip") (hm : X.mg "zip" = none) (ha : PA X [e, e2] ta) (hk : PK X kws tk)
    (hall : (backToKw pos (keywordEach kws X.env)).all (·.1.isSome) = true := by rfl) (hks : (backToKw pos (keywordEach kws X.env)).filterMap (·.1) = [Str.ofString "strict"] := by rfl)
    (hs : starEach [e, e2] X.env = (false, eval e X.env) :: starEach [e2] X.env := by rfl)
    (hpl : ((backTo pos (starEach [e, e2] X.env)).any (·.1) || (backToKw pos (keywordEach kws X.env)).any (·.1.isNone)) = false := by rfl) :
    PI X (.Tuple elts kk tpos) (.Call (.Name "zip" p) [e, e2] kws pos) (iZipS X.K ta tk) := pi_zipS hg hm ha hk hall hks hs hpl
end N
set_option Elab.async false
set_option linter.all false
set_option maxRecDepth 100000
set_option maxHeartbeats 4000000
set_option Elab.async false
set_option linter.all false
set_option maxRecDepth 100000
namespace N
open PySem PySem.Spec PyProof.Rows L2
abbrev pairD (w : Wb) : D := .tup [rowsD w.below, atomsD w.atoms]
theorem okF10 {k : Nat} {f : Fm} (h : f.okL) (ht : f.ht ≤ 12) (hf : Fm.few k f) (hk : k ≤ 63) : f.okF := by
  refine ⟨h, ?_, Nat.lt_of_le_of_lt (hf.len h) (by omega)⟩
  have h1 := Fm.sz_ht f
  have h2 : 2 ^ f.ht ≤ 2 ^ 12 := Nat.pow_le_pow_right (by omega) ht
  have e : (2 : Nat) ^ 12 = 4096 := by decide
  omega
/-- drawn formulas -/
structure sm10 (f : Fm) : Prop where
  ok : f.okL
  ht : f.ht ≤ 5
theorem sm10.few {f : Fm} (h : sm10 f) : Fm.few 31 f := (Fm.few_ht f).up (by
  have : (2 : Nat) ^ f.ht ≤ 2 ^ 5 := Nat.pow_le_pow_right (by omega) h.ht
  omega)
theorem sm10.okF {f : Fm} (h : sm10 f) : f.okF := okF10 h.ok (Nat.le_trans h.ht (by decide)) h.few (by decide)
theorem sm10.imp {f g : Fm} (h : sm10 f) (k : sm10 g) : (Fm.imp f g).okF := okF10 ⟨h.ok, k.ok⟩ (by have := h.ht; have := k.ht; simp only [Fm.ht]; omega) (h.few.imp k.few) (by decide)
theorem sm10.all {f g : Fm} (h : sm10 f) (k : sm10 g) : (Fm.all (.imp f g)).okF :=
  okF10 (show (Fm.all (.imp f g)).okL from ⟨h.ok, k.ok⟩) (by have := h.ht; have := k.ht; simp only [Fm.ht]; omega) (h.few.imp k.few).all (by decide)
end N
set_option Elab.async false
set_option linter.all false
set_option maxRecDepth 100000
namespace N
open PySem PySem.Spec PyProof.Rows L2
/-- the place of a number in a list -/
def idxL : List Nat → Nat → Nat
  | [], _ => 0
  | a :: l, x => if a = x then 0 else idxL l x + 1
/-- a point and all beneath it -/
def keptL (w : Wb) (k : Nat) : List Nat := (bensF w.below).getD k [] ++ [k]
def Wb.cut (w : Wb) (k : Nat) : Wb := ⟨(keptL w k).map fun o => (w.below.getD o []).map (idxL (keptL w k)), (keptL w k).map fun o => w.atoms.getD o ""⟩
def Wb.top (w : Wb) (s : Str) (r : List Nat) : Wb := ⟨w.below ++ [r], w.atoms ++ [s]⟩
def Wb.join (w u : Wb) : Wb := ⟨w.below ++ u.below.map fun r => r.map (w.below.length + ·), w.atoms ++ u.atoms⟩
end N
set_option Elab.async false
set_option linter.all false
set_option maxRecDepth 100000
set_option Elab.async false
set_option linter.all false
set_option maxRecDepth 100000
set_option maxHeartbeats 1000000
namespace N
open PySem PySem.Spec PyProof.Rows L2
open C8 (Cal Met Mak InsC pe_c pe_mt pe_mt0 pe_mk)
def iEnumS (K : PySem.W.Frag) (ta tk : TA) : TI := fun σ H R => ta σ H fun vs H1 => tk σ H1 fun zs H2 => ∃ (k : Kd) (xs : List V) (c : Nat), zs = [.int (c : Nat)] ∧ c < 1000 ∧ vs = [k.v] ∧ k.src K H2 xs ∧ R (IteK K k (c : Nat)) H2
theorem pi_enumS {X : Cx} {e : Expr} {ta tk : TA} {p pos tpos : Pos} {elts : List Expr} {kk : Nat} {kws : List Keyword} (hg : Gl X "enumerate") (hm : X.mg "enumerate" = none) (ha : PA X [e] ta) (hk : PK X kws tk)
    (hall : (backToKw pos (keywordEach kws X.env)).all (·.1.isSome) = true := by rfl) (hks : (backToKw pos (keywordEach kws X.env)).filterMap (·.1) = [Str.ofString "start"] := by rfl)
    (hs : starEach [e] X.env = (false, eval e X.env) :: starEach [] X.env := by rfl)
    (hpl : ((backTo pos (starEach [e] X.env)).any (·.1) || (backToKw pos (keywordEach kws X.env)).any (·.1.isNone)) = false := by rfl) :
    PI X (.Tuple elts kk tpos) (.Call (.Name "enumerate" p) [e] kws pos) (iEnumS X.K ta tk) := by
  refine ⟨fun pins s σ H R I h => ?_⟩
  refine wpAny_Call_Name_kw (ld_blt I hg hm boot_enumerate ?_)
  refine PySem.W.callWith_of (P := fun _ => True) hpl (fun h _ => ⟨Keeper.machine, .inr (.inl rfl), .of_pure rfl⟩) ?_
  refine evalArgs_kw2 hall (thn (ha.run pos pins s σ H _ I h) fun us s1 ⟨vs, H1, I1, r1, q1⟩ => thn (hk.run pos pins s1 σ H1 _ I1 q1) fun ws s2 ⟨zs, H2, I2, r2, q2⟩ => ⟨trivial, ?_⟩) hs
  obtain ⟨k, xs, c, ez, hc, ex, hx, q⟩ := q2
  subst ez ex
  rw [hks]
  obtain ⟨w, rfl, rw'⟩ := vals1 r2
  obtain ⟨tw, rfl⟩ := rw'
  cases r1 with
  | cons r rr =>
    cases rr
    obtain ⟨l1, t1, o1, G1, B1, g1, z1⟩ := Kd.begins I2 hx r
    refine enum_begins_start B1 g1 (by omega) (by omega) fun h' he e1 _ kp => wpAny_pyIter_enum he ?_
    have I3 : Inv X pins σ H2 { s2 with heap := h' } := I2.kept (t' := s2.toks) kp
    refine ⟨_, _, _, _, H2, rfl, I3, turn_enumK (b := s2.heap.objs.size) (c := (c : Nat)) (u1 := t1) l1, ⟨⟨.none, he⟩, z1 _ _ e1⟩, fun d hd => ?_, q⟩
    have le : s2.heap.objs.size ≤ d := by
      simp only [List.mem_cons, List.not_mem_nil, or_false] at hd
      rcases hd with rfl | rfl
      · exact Nat.le_add_right _ _
      · exact Nat.le_refl _
    exact I2.fpOk le (I2.hok.fresh le)
section
variable {F : FmKit} {T : Kx} {C H H' O O' : Hp} {G : Gm} {W W' : Om} {R : D → Om → Prop} {l : List D} {ta tk : TA} {te to : TE}
theorem ei_enumS {Y : List D → Om → Prop} (h : EvA F T ta G W fun ds W1 => EvA F T tk G W1 fun es W2 => ∃ d l c, ds = [d] ∧ es = [.int ((c : Nat) : Int)] ∧ c < 1000 ∧ Zs d l ∧ Y (pairsD c l) W2) : EvI F T (iEnumS T.K ta tk) G W Y := fun C H O σ w Q q =>
  h C H O σ w _ fun ds W1 H1 O1 us h1 n k => h1 C H1 O1 σ (w.step n) _ fun es W2 H2 O2 ws ⟨d, l, c, ed, ee, hc, z1, y⟩ n2 k2 => by
    subst ed ee
    obtain ⟨x, r, e1, k1, e2⟩ := k
    have e2 : r = [] := e2
    subst e2 e1
    obtain ⟨x2, r2, e1, k3, e2⟩ := k2
    have e2 : r2 = [] := e2
    have k3 : x2 = .int (c : Nat) := k3
    subst e2 e1 k3
    obtain ⟨kd1, xs, ex, a1, s1⟩ := z1.kd (k1.mono n2.ext)
    subst ex
    exact ⟨kd1, xs, c, rfl, hc, rfl, s1 _ _ (.refl _) n2.dis, q _ _ W2 H2 O2 y (n.trans n2) (wk_enum (c := c) a1 s1)⟩
end
section
variable {X : Cx} {k j : Nat} {x m : Str} {C : Addr} {sp : Sp} {e o : Expr} {es : List Expr} {t ta : TA} {te : TE} {p pos apos : Pos} {ks : List Str} {gV : List V → List V → List V} {kws : List Keyword} {tk : TA}
/-- C(..), C in the i-th slot -/
def tMakeL (i : Nat) (C : Addr) (sp : Sp) (dvs : List V) (E : XK) (t : TA) : TE := fun σ H Q => σ[i]? = some (some (.ref C)) ∧ tMake C sp dvs E t σ H Q
theorem pe_mkL {i : Nat} {y : Str} {dvs : List V} (c : Mak X.prog X.w X.K X.mg X.base k y C sp dvs) (hr : Room j X.A) (hk : k + 1 ≤ j) (hN : X.N[i]? = some x) (hv : Vis X.env.scope x) (ha : PA X (e :: es) t)
    (hdb : (x == ("__debug__" : Str)) = false := by decide) (hcd : (x == ("__classdict__" : Str)) = false := by decide)
    (he : starEach (e :: es) X.env = (false, eval e X.env) :: starEach es X.env := by rfl) (hpl : (backTo pos (starEach es X.env)).any (·.1) = false := by rfl) : PE X (.Call (.Name x p) (e :: es) [] pos) (tMakeL i C sp dvs E0 t) := by
  obtain ⟨f, fd, ps, ds, M, F, hm, b, d⟩ := c.ex
  refine ⟨fun pins s σ H Q I h => ?_⟩
  obtain ⟨hs, ht⟩ := h
  refine wpAny_Call_Name_kw (thn ((pe_var (pos := p) hN hv hdb hcd).run pins s σ H (fun v H1 => v = .ref C ∧ H1 = H) I ⟨.ref C, hs, rfl, rfl⟩) fun u s1 ⟨v, H1, I1, r1, q1⟩ => ?_)
  obtain ⟨rfl, rfl⟩ := q1
  cases r1
  refine PySem.W.callWith_K (h₀ := X.base) I.ok.mod.kin M.kp (thn (ha.run pos pins s1 σ _ _ I1 ht) fun us s2 ⟨vs, H2, I2, r, q⟩ => ⟨I2.kIn, ?_⟩) he hpl
  exact L2.run_make M F (hr.mono hk) b d pass0 I2 r q
end
section
variable {F : FmKit} {T : Kx} {C H H' O O' : Hp} {G : Gm} {W W' : Om} {R : D → Om → Prop} {σ : L2.St} {d e : D} {l m : List D} {te ta tb to : TE} {t : TT} {tr tk : TA} {S : FS}
theorem ev_mkL {i c : Nat} {dvs : List V} (hi : G[i]? = some (some (.adr (T.cl c)))) (h : Ev F T (tMake (T.cl c) (spN F T S) dvs E0 tr) G W R) : Ev F T (tMakeL i (T.cl c) (spN F T S) dvs E0 tr) G W R := fun C H O σ w Q q => by
  obtain ⟨v, hv, kv⟩ := w.loc.at_ i _ hi
  have kv : v = .ref (T.cl c) := kv
  subst kv
  exact ⟨hv, h C H O σ w Q q⟩
/-- x.split(sep) -/
theorem ev_split (h : Ev F T to G W fun d W1 => ∃ a : Str, d = .str a ∧ Ev F T te G W1 fun d2 W2 => ∃ b : Str, d2 = .str b ∧ (b.length == 0) = false ∧ a.length + 2 ≤ sizeLine ∧ R (.lst ((Txt.split a b).map .str)) W2) :
    Ev F T (tM1 (fun x xs H Q => ∃ a b, x = .str a ∧ xs = [.str b] ∧ (b.length == 0) = false ∧ a.length + 2 ≤ sizeLine ∧ rNewStrs (Txt.split a b) H Q) to te) G W R := fun C H O σ w Q q =>
  h C H O σ w _ fun d W1 H1 O1 x ⟨a, ea, h1⟩ n1 k1 => by
    subst ea
    have k1 : x = .str a := k1
    refine ⟨⟨a, k1⟩, h1 C H1 O1 σ (w.step n1) _ fun d2 W2 H2 O2 y ⟨b, eb, hb, hl, r⟩ n2 k2 => ?_⟩
    subst eb
    have k2 : y = .str b := k2
    refine ⟨a, b, k1, by rw [k2], hb, hl, fun p hp => ?_⟩
    obtain ⟨n3, e3, s3⟩ := ((w.step n1).step n2).nx.newF (o := .lst ((Txt.split a b).map V.str)) hp
    rw [e3]
    exact q _ W2 _ _ _ r ((n1.trans n2).trans n3) ⟨p, (Txt.split a b).map V.str, rfl, upd_same, den_strs _⟩
theorem ca_intS {s : Str} {n : Int} (hn : PySem.intText? s = some n) (hl : s.length ≤ 640) (r : R (.int n) W) : Ca F T (fun xs H Q => ∃ a n, xs = [.str a] ∧ PySem.intText? a = some n ∧ a.length ≤ 640 ∧ Q (.int n) H) [.str s] W R := cl_sc (xs := [.str s]) fun H Q k => ⟨s, n, rfl, hn, hl, k _ r⟩
end
end N
set_option Elab.async false
set_option linter.all false
set_option maxRecDepth 100000
set_option maxHeartbeats 1000000
namespace N
open PySem PySem.Spec PyProof.Rows L2
open C8 (Cal Met Mak InsC pe_c pe_mt pe_mt0 pe_mk)
abbrev tx (f : Fm) : List Nat := lets f.spell
inductive ItP where
  | al | l (b : Fm) | r (a : Fm)
def wt : Fm → Nat
  | .at _ => 1
  | .no => 1
  | .imp a b => 3 + wt a + wt b
  | .all a => 2 + wt a
def wk : List ItP → Nat
  | [] => 0
  | .al :: K => 1 + wk K
  | .l b :: K => 2 + wt b + wk K
  | .r _ :: K => 1 + wk K
end N
set_option Elab.async false
set_option linter.all false
set_option maxRecDepth 100000
set_option maxHeartbeats 4000000
namespace XE
open PySem PySem.W PySem.Calls PyProof.Rows
abbrev exTail : List Value := [.type "Exception", .type "BaseException", .type "object"]
/-- own classes, then Exception's mro -/
def refsX : List Value → Bool
  | .ref _ :: r => refsX r
  | l => l == exTail
theorem refsX_cases : ∀ l : List Value, refsX l = true → (∃ c r, l = .ref c :: r ∧ refsX r = true) ∨ l = exTail
  | [], e => .inr (beq_iff_eq.mp e)
  | .ref c :: r, e => .inl ⟨c, r, rfl, e⟩
  | .none :: _, e => .inr (beq_iff_eq.mp e)
  | .ellipsis :: _, e => .inr (beq_iff_eq.mp e)
  | .notImplemented :: _, e => .inr (beq_iff_eq.mp e)
  | .bool _ :: _, e => .inr (beq_iff_eq.mp e)
  | .int _ _ :: _, e => .inr (beq_iff_eq.mp e)
  | .float _ _ :: _, e => .inr (beq_iff_eq.mp e)
  | .str _ _ :: _, e => .inr (beq_iff_eq.mp e)
  | .bytes _ _ :: _, e => .inr (beq_iff_eq.mp e)
  | .type _ :: _, e => .inr (beq_iff_eq.mp e)
  | .builtin _ :: _, e => .inr (beq_iff_eq.mp e)
theorem refsX_pass (self : Value) : ∀ l : List Value, refsX l = true → refuseLoop self "__setattr__" l = pure () := by
  intro l
  induction l with
  | nil => intro e; exact absurd e (by decide)
  | cons a r ih =>
    intro e
    rcases refsX_cases (a :: r) e with ⟨c, r', q, h⟩ | q
    · obtain ⟨rfl, rfl⟩ := List.cons.inj q
      rw [refuseLoop_ref]; exact ih h
    · rw [q]; exact F.store_Exception.passes self
theorem refsX_contains (X : String) : ∀ l : List Value, refsX l = true → l.contains (.type X) = exTail.contains (.type X) := by
  intro l
  induction l with
  | nil => intro e; exact absurd e (by decide)
  | cons a r ih =>
    intro e
    rcases refsX_cases (a :: r) e with ⟨c, r', q, h⟩ | q
    · obtain ⟨rfl, rfl⟩ := List.cons.inj q
      rw [List.contains_cons, ih h]; rfl
    · rw [q]
theorem refsX_ne {l : List Value} (e : refsX l = true) : l.isEmpty = false := by
  cases l with
  | nil => exact absurd e (by decide)
  | cons _ _ => rfl
section
open Builtin Builtin.ObjectAttr
variable {prog : Program} {w : World} {A : Around} {E : Value → Shared → Prop} {R : Result → Shared → Prop} {hp : Heap} {g : Array GenState} {d : Drawn} {t : Nat} {os : OsState}
theorem osa_base {K : W.Frag} {name : Str} {tk : Tok} {v : Value} {x C : Addr} {ox : Obj} {od : Option Obj} {cd : ClassData}
    (X : K.In hp) (I : W.InstAt hp x ox C od) (hcd : W.clsIn K C = some cd) (hm : refsX cd.mro = true) (ha : W.findIn K (.ref C) name = some none)
    (hq : wpAny (model prog w) A.in1 (storeInOwnDict (.ref x) (.ref C) (.str name tk) name v false)
      (fun fin s' => match fin with | .done f => R (.ok f) s' | .again c' => c'.quiet = true ∧ codeAny (model prog w) A c' R s') (fun e s' => R (.error e) s') ⟨hp, g, d, t, os⟩) :
    codeAny (model prog w) A (.call (.builtin "object.__setattr__") ⟨[.ref x, .str name tk, v], []⟩) R ⟨hp, g, d, t, os⟩ := by
  have SF := F.store_object
  have ne := refsX_ne hm
  have hob : cd.mro.contains (.type "object") = true := (refsX_contains "object" _ hm).trans (by decide +kernel)
  have sub : W.Looks (model prog w) hp (isInstance (.ref x) (.type "object")) true := I.type.andThen (W.looks_mroIn X (by unfold W.mroIn; rw [hcd, Option.bind_some, if_neg (by rw [ne]; decide), hob]))
  refine codeAny_call_builtin SF.slot.plain SF.entry (@W.check_slot (model prog w) _ _ ⟨hp, g, d, t, os⟩ "object.__setattr__" "object" "__setattr__" (.ref x) [.str name tk, v] [] _ SF.kind SF.split sub (SF.args (.ref x) (.str name tk) v) ?_)
  have hmr : W.Looks (model prog w) hp (mroOf (.ref C)) cd.mro := (W.looks_clsIn X hcd).andThen .now
  have L3 : W.Looks (model prog w) hp (storeTaker? none) none := .now
  rw [W.osa_eq, refuse_eq]
  refine wpAny_bind (wpAny_bind (I.type.at (wpAny_bind (hmr.at ?_))))
  rw [refsX_pass _ _ hm]
  refine wpAny_pure (wpAny_bind (I.type.at (wpAny_bind ((W.looks_findIn X ha).at (wpAny_bind (L3.at ?_))))))
  exact hq
theorem osa_new {K : W.Frag} {name : Str} {tk : Tok} {v : Value} {x C : Addr} {fv : Array Value} {cd : ClassData}
    (X : K.In hp) (hx : hp.get? x = some { cls := .ref C, data := .fields fv }) (hcd : W.clsIn K C = some cd) (hm : refsX cd.mro = true) (hh : cd.hasDict = true) (ha : W.findIn K (.ref C) name = some none)
    (hq : ∀ h' tk' dx, (∀ b o, b ≠ x → hp.get? b = some o → h'.get? b = some o) → hp.objs.size ≤ dx → dx ≠ x → h'.get? x = some { cls := .ref C, dict := some dx, data := .fields fv } →
      h'.Ns1 dx (fun y => if y = name then some v else none) → R (.ok (.ret .none)) ⟨h', g, d, tk', os⟩) :
    codeAny (model prog w) A (.call (.builtin "object.__setattr__") ⟨[.ref x, .str name tk, v], []⟩) R ⟨hp, g, d, t, os⟩ := by
  have I : W.InstAt hp x { cls := .ref C, data := .fields fv } C none := ⟨hx, rfl, rfl, trivial⟩
  have hxs : x ≠ hp.objs.size := Nat.ne_of_lt (Heap.lt_size hx)
  refine osa_base X I hcd hm ha ?_
  have hcls : W.Looks (model prog w) hp (classData C) cd := W.looks_clsIn X hcd
  obtain ⟨nm, bs, mro, ns, qn, hd, sn, sb, ab, col, del⟩ := cd
  dsimp only at hh
  subst hh
  unfold storeInOwnDict ownDictForStores
  repeat (first | with_reducible refine HandSPX.store_in_new ?_ ?_ | with_reducible refine wpAny_loadPart_at hx ?_ | with_reducible refine hcls.at ?_ | wp_step)
  · exact ⟨_, #[], _, (Heap.get?_update_ne _ _ _ _ hxs.symm).trans (Heap.get?_push_at rfl rfl), rfl, fun e he => absurd he (by simp), fun _ => rfl⟩
  · intro h' tk' hn' hs
    have hx₁ : (hp.push { cls := .type "dict", data := .dict #[] }).get? x = some { cls := .ref C, data := .fields fv } := Heap.get?_push_of_some _ hx
    refine hq h' tk' hp.objs.size (fun b o hb ho => ?_) (Nat.le_refl _) hxs.symm ?_ hn'
    · exact (hs.2 b (Nat.ne_of_lt (Heap.lt_size ho))).trans ((Heap.get?_update_ne _ _ _ _ hb).trans (Heap.get?_push_of_some _ ho))
    · exact (hs.2 x hxs).trans (Heap.get?_update_self _ hx₁ rfl)
end
end XE
namespace L2
open PySem PySem.Spec PyProof.Rows
/-- what the written part says of such a class -/
structure OexX (K : PySem.W.Frag) (C : Addr) : Prop where
  cls : ∃ nm q N bs bm sn sub ab col dd k0 k1 k2 k3 k5, K.lookup C = some (excClassObj nm q C N bs bm true sn sub ab col dd k0 k1 k2 k3 k5 "Exception.__new__") ∧ XE.refsX bm = true
  sa : PySem.W.findIn K (.ref C) "__setattr__" = some (some (.builtin "object.__setattr__"))
  exC : PySem.W.subIn K (.ref C) (.type "BaseException") = some true
  tyC : PySem.W.typeIn K (.ref C) = some (.type "type")
  kC : PySem.W.keepIn K (.ref C) = true
section
variable {X : Cx} {pins : List (Addr × Obj)} {σ : St} {H : Hp} {s : Shared} {a C dx : Addr} {f : Str} {y : V} {u : Value} {fs : List (Str × V)} {Q : Unit → Shared → Prop} {E : Value → Shared → Prop} {A : Around}
/-- self.f = y, the first one -/
theorem ostX_new (T : OexX X.K C) (I : Inv X pins σ H s) (e : H a = some (exo a C none)) (hno : PySem.W.findIn X.K (.ref C) f = some none) (ry : RelV y u)
    (h : ∀ dx s', H dx = none → dx ≠ a → Inv X pins σ (upd (upd H dx (exd dx [(f, y)])) a (exo a C (some dx))) s' → Q () s') : wpAny (model X.prog X.w) A (setAttr (.ref a) f u) Q E s := by
  obtain ⟨nm, q, N, bs, bm, sn, sub, ab, col, dd, k0, k1, k2, k3, k5, hC, hbm⟩ := T.cls
  have hcl : PySem.W.clsIn X.K C = some { name := nm, bases := bs, mro := .ref C :: bm, ns := N, qualname := q, hasDict := true, slotNames := sn, subclasses := sub, abstract := ab, collection := col, hasDel := false } := by unfold PySem.W.clsIn; rw [hC] <;> rfl
  obtain ⟨t1, ho⟩ := exo_at I.hok e
  obtain ⟨hp, g, d, t, os⟩ := s
  refine PySem.W.set_plain I.kIn (ox := { cls := .ref C, dict := none, data := .fields #[.ref t1, .none, .none, .none, .bool false, .none] }) (od := none) ⟨ho, rfl, rfl, trivial⟩ T.sa ?_
  refine XE.osa_new I.kIn ho hcl (show XE.refsX (.ref C :: bm) = true from hbm) rfl hno (fun h' tk' dx k dn dne hx hn => ?_)
  have hnd : H dx = none := I.hok.fresh dn
  have nd : ∀ {b : Addr} {o : Obj}, hp.get? b = some o → b ≠ dx := fun {b o} q => Nat.ne_of_lt (Nat.lt_of_lt_of_le (Heap.lt_size q) dn)
  have na : ∀ {b : Addr}, H b = none → b ≠ a := fun {b} n z => by
    rw [z, e] at n
    cases n
  have Un1 : Un X.fs [] H (upd (upd H dx (exd dx [(f, y)])) a (exo a C (some dx))) hp h' := {
    keep := fun b o q n _ _ => k b o (na n) q
    slot := fun b o q n _ _ => ⟨o.slots, k b o (na n) q⟩
    free := fun b o q n _ => by rw [upd_ne (na n), upd_ne (nd q)]; exact n
    there := fun b o q _ => by
      by_cases hb : b = a
      · exact ⟨_, by rw [hb]; exact hx⟩
      · exact ⟨o, k b o hb q⟩
    tups := fun b xs q => by rw [upd_ne (at_ne e q exo_tup), upd_ne (ne_of_none q hnd)]; exact q
    frzs := fun b o v q => by rw [upd_ne (at_ne e q exo_frz), upd_ne (ne_of_none q hnd)]; exact q
    tbls := fun b ps q => ⟨#[], by rw [upd_ne (at_ne e q exo_tbl), upd_ne (ne_of_none q hnd), q]; simp⟩ }
  refine h dx _ hnd dne (I.un (t' := tk') Un1 fun b o q => ?_)
  by_cases hb : b = a
  · subst hb
    rw [upd_same] at q
    cases q
    exact exo_ok hx
  · rw [upd_ne hb] at q
    by_cases hd : b = dx
    · subst hd
      rw [upd_same] at q
      cases q
      exact exd_ok hn (relO_put (fs := []) ry fun g => True.intro)
    · rw [upd_ne hd] at q
      exact (I.hok b o q).stay (fun c v hc z => k c v (by
          rcases hc with hc | hc
          · rw [hc]
            exact hb
          · exact at_ne e hc exo_own) z)
        (fun c hc => by rw [upd_ne (at_ne e hc exo_own), upd_ne (ne_of_none hc hnd)]; exact hc) (fun c xs hc => by rw [upd_ne (at_ne e hc exo_tup), upd_ne (ne_of_none hc hnd)]; exact hc)
/-- Exception.__init__(self, ..): nothing of it is told -/
theorem oinitX_ok {us : List Value} {Q : Value → Shared → Prop} (T : OexX X.K C) (I : Inv X pins σ H s) (e : H a = some (exo a C none)) (hl : us.length ≤ sizeLine) (h : ∀ s', Inv X pins σ H s' → Q .none s') :
    wpAny (model X.prog X.w) A (call (.builtin "Exception.__init__") (.ref a :: us)) Q E s := by
  obtain ⟨nm, q, N, bs, bm, sn, sub, ab, col, dd, k0, k1, k2, k3, k5, hC, hbm⟩ := T.cls
  obtain ⟨t1, ho⟩ := exo_at I.hok e
  obtain ⟨hp, g, d, t, os⟩ := s
  refine wpAny_call (PySem.HandSPX.init_base F.excBase_Exception (fun Y => XE.refsX_contains Y bm hbm) (I.kIn _ _ hC) ho hl fun h' t2 k hx => ?_)
  have J := I.write (t' := t) (x := a) (e := a) (o := exo a C none) (by rw [e]; exact True.intro) (.inl rfl) k ⟨_, hx⟩ (exo_ok hx)
  have eu : upd H a (exo a C none) = H := by
    funext b
    by_cases hb : b = a
    · rw [hb, upd_same, e]
    · rw [upd_ne hb]
  rw [eu] at J
  exact h _ J
end
/-- B.__init__(self, ..), B an own class that takes Exception's -/
def tExI (K : PySem.W.Frag) (ta : TA) : TE := fun σ H Q => ta σ H fun vs H1 => ∃ (a C : Addr) (ws : List V), vs = .ref a :: ws ∧ ws.length ≤ 1000 ∧ OexX K C ∧ H1 a = some (exo a C none) ∧ Q .non H1
/-- self.f = e, the first field -/
def tOsx (K : PySem.W.Frag) (f : Str) (to te : TE) : TS := fun D σ H => te σ H fun y H1 => to σ H1 fun x H2 => ∃ a C : Addr, x = .ref a ∧ OexX K C ∧ PySem.W.findIn K (.ref C) f = some none ∧
  H2 a = some (exo a C none) ∧ ∀ dx, H2 dx = none → dx ≠ a → D.nx σ (upd (upd H2 dx (exd dx [(f, y)])) a (exo a C (some dx)))
/-- what is asked of the base class whose __init__ is called -/
structure BaseX (K : PySem.W.Frag) (B : Addr) : Prop where
  rd : ClX.CRead K B (.type "type")
  ini : PySem.W.findCls K (.ref B) (.type "type") "__init__" = some (.val (.builtin "Exception.__init__"))
section
variable {X : Cx} {o e : Expr} {es : List Expr} {to te : TE} {ta : TA} {f x : Str} {p p' p1 p2 pos : Pos} {B : Addr}
theorem pe_exinit {pl : Sem Bool} (T : BaseX X.K B) (hg : Gl X x) (hm : X.mg x = some (.ref B)) (ha : PA X (e :: es) ta) (hdb : (x == ("__debug__" : Str)) = false := by decide)
    (hc : eval (.Call (.Attribute (.Name x p1) "__init__" p2) (e :: es) [] pos) X.env = (do
      let ov ← eval (.Name x p1) X.env
      standAt p2.atName
      let (f, first) ← holding [ov] (getMethod ov "__init__" pl)
      callWith pos f first (backTo pos (starEach (e :: es) X.env)) (backToKw pos (keywordEach [] X.env))) := by rfl)
    (he : starEach (e :: es) X.env = (false, eval e X.env) :: starEach es X.env := by rfl) (hpl : (backTo pos (starEach es X.env)).any (·.1) = false := by rfl) :
    PE X (.Call (.Attribute (.Name x p1) "__init__" p2) (e :: es) [] pos) (tExI X.K ta) := by
  refine ⟨fun pins s σ H Q I h => ?_⟩
  refine PySem.W.methodCall_KW (ld_glob I hg hm ?_ hdb) hc
  refine PySem.W.method_cls I.kIn T.rd.ga (PySem.W.cls_value I.kIn T.rd.rd T.ini (by decide +kernel) ?_)
  show wpAny _ _ (callWith pos (Value.builtin "Exception.__init__") [] (backTo pos (starEach (e :: es) X.env)) []) _ _ _
  refine PyProof.Rows.callWith_method1 (thn (ha.run pos pins _ σ H _ (I.tok _) h) fun us s1 ⟨vs, H1, I1, r1, a, C, ws, ev, hl, T, ea, q⟩ => ?_) he hpl
  subst ev
  cases r1 with
  | @cons _ u0 _ ur ra rw' =>
    obtain rfl : u0 = Value.ref a := ra
    have hlen : ur.length ≤ sizeLine := by
      rw [← Paired.length rw', sizeLine_eq]
      omega
    exact oinitX_ok T I1 ea hlen fun s' J => ⟨.non, H1, J, rfl, q⟩
theorem ps_osx (ho : PE X o to) (he : PE X e te) (hs : swapsWith e (some (.Attribute o f p')) pos.line X.env = pure false := by rfl) : PS X (.Assign [.Attribute o f p'] e pos) (tOsx X.K f to te) := by
  refine ⟨fun pins s σ H D I h => ?_⟩
  refine plainObj_wpAny_Assign_Attribute (thn (he.run pins s σ H _ I h) fun v s1 ⟨y, H1, I1, r1, q1⟩ => thn (ho.run pins s1 σ H1 _ I1 q1) fun u s2 ⟨x, H2, I2, r2, a, C, ex, T, hno, ea, q⟩ => ?_) hs
  subst ex
  obtain rfl : u = Value.ref a := r2
  exact ostX_new T I2 ea hno r1 fun dx s' n ne J => ⟨σ, _, J, q dx n ne⟩
theorem pmk_oexX {CX : CXT} {x : Str} {C fI : Addr} {k : Nat} {fd : FuncData} {ps : List Str} {sp : Sp} {ds : List Value} {dvs : List V} (T : OexX X.K C) (iC : PySem.W.findIn X.K (.ref C) "__init__" = some (some (.ref fI))) (tI : PySem.W.typeIn X.K (.ref fI) = some (.type "function"))
    (F1 : FnOk X.prog X.w X.K X.mg X.base CX k fI fd ps sp) (hr : Room (k + 1) X.A) (hb : Binds X.K fd ps ds) (hd : Vals dvs ds) (hx : Passes CX X (fun _ _ _ => False)) (hg : Gl X x) (hm : X.mg x = some (.ref C)) (ha : PA X (e :: es) ta)
    (hdb : (x == ("__debug__" : Str)) = false := by decide) (he : starEach (e :: es) X.env = (false, eval e X.env) :: starEach es X.env := by rfl) (hpl : (backTo pos (starEach es X.env)).any (·.1) = false := by rfl) :
    PMk X (.Call (.Name x p) (e :: es) [] pos) (tMkO C sp dvs ta) := by
  intro pins s σ H Q I h
  obtain ⟨nm, q, N, bs, bm, sn, sub, ab, col, dd, k0, k1, k2, k3, k5, hC, hbm⟩ := T.cls
  refine wpAny_Call_Name_kw (ld_glob I hg hm ?_ hdb)
  refine PySem.W.callWith_K (h₀ := X.base) I.ok.mod.kin T.kC (thn (ha.run pos pins s σ H _ I h) fun us s1 ⟨vs, H1, I1, r1, hz, q1⟩ => ⟨I1.kIn, ?_⟩) he hpl
  show wpAny _ _ (call (.ref C) us) _ _ _
  obtain ⟨hp, g, dr, tk, os⟩ := s1
  have hsz : hp.objs.size ≤ hp.objs.size + 1 := Nat.le_succ _
  have hn : H1 (hp.objs.size + 1) = none := I1.hok.fresh hsz
  have hq := q1 (hp.objs.size + 1) hn
  have kk : ∀ b o, hp.get? b = some o → ((hp.push (PySem.W.kdv_tup us)).push (PySem.HandSPX.excO C hp.objs.size)).get? b = some o := fun b o e => Heap.get?_push_of_some _ (Heap.get?_push_of_some _ e)
  have hget : ((hp.push (PySem.W.kdv_tup us)).push (PySem.HandSPX.excO C hp.objs.size)).get? (hp.objs.size + 1) = some (PySem.HandSPX.excO C hp.objs.size) := by heap_get
  have I2 : Inv X pins σ (upd H1 (hp.objs.size + 1) (exo (hp.objs.size + 1) C none)) ⟨(hp.push (PySem.W.kdv_tup us)).push (PySem.HandSPX.excO C hp.objs.size), g, dr, tk, os⟩ :=
    I1.laid (t' := tk) (a := hp.objs.size + 1) (o := exo (hp.objs.size + 1) C none) (h' := (hp.push (PySem.W.kdv_tup us)).push (PySem.HandSPX.excO C hp.objs.size)) kk hsz (exo_ok hget)
  have r2 : Vals (V.ref (hp.objs.size + 1) :: (vs ++ dvs)) (Value.ref (hp.objs.size + 1) :: (us ++ ds)) := .cons rfl (r1.append hd)
  have hl : (Value.ref (hp.objs.size + 1) :: us ++ ds).length = ps.length := by
    have e := r2.length
    rw [F1.len _ _ _ _ hq] at e
    exact e.symm
  have hus : us.length ≤ sizeLine := by
    rw [← Paired.length r1, sizeLine_eq]
    omega
  refine wpAny_call (PySem.HandSPX.call_own F.excBase_Exception (fun Y => XE.refsX_contains Y bm hbm) (I1.kIn _ _ hC) (PySem.W.looks_findIn I1.kIn iC) (fun self => PySem.W.bind_fn I1.kIn self tI) hus
    (codeAny_mono (F1.run _ X.stack _ _ ⟨Value.ref (hp.objs.size + 1) :: us, []⟩ (Value.ref (hp.objs.size + 1) :: (us ++ ds)) _ _ (fun _ _ _ => False) (hr.make C us []) (I2.env0.make C us []) (hb _ (Value.ref (hp.objs.size + 1) :: us) I2.kIn hl) r2 hq) fun r s' hq' => ?_))
  cases r with
  | error er => exact hx pins σ _ _ er s' I2 hq'
  | ok fl =>
    cases fl with
    | ret u =>
      obtain ⟨v, H2, os2, bare2, un2, hok2, rv, ev, d, fs, ea, ed, hd1, q2⟩ := hq'
      subst ev
      obtain ⟨h2, g2, d2, t2, os'⟩ := s'
      exact ⟨rv, mk_end (raises_own T.exC T.tyC) I1 hsz kk un2 hok2 os2 bare2 ea ed hd1 q2⟩
    | next => exact False.elim hq'
    | brk => exact False.elim hq'
    | cont => exact False.elim hq'
end
end L2
set_option Elab.async false
set_option linter.all false
set_option maxRecDepth 100000
set_option maxHeartbeats 4000000
namespace N
open PySem PySem.Spec PyProof.Rows L2
open C8 (Cal Met Mak pe_c pe_mt pe_mt0 pe_mk)
/-- what __init__ of an error class does -/
def spEr (C : Addr) (f : Str) : Sp := fun vs H Q _ => ∃ a y, vs = [.ref a, y] ∧ H a = some (exo a C none) ∧ ∀ dx, H dx = none → dx ≠ a → Q .non (upd (upd H dx (exd dx [(f, y)])) a (exo a C (some dx)))
structure ErC (K : PySem.W.Frag) (C : Addr) (f : Str) : Prop where
  oex : OexX K C
  xf : XfC K C
  no : PySem.W.findIn K (.ref C) f = some none
structure Err (P : Program) (w : World) (K : PySem.W.Frag) (mg : Str → Option Value) (base : Heap) (k : Nat) (x : Str) (C : Addr) (f : Str) : Prop where
  ex : ∃ (g : Addr) (fd : FuncData) (ps : List Str), ErC K C f ∧ PySem.W.findIn K (.ref C) "__init__" = some (some (.ref g)) ∧ PySem.W.typeIn K (.ref g) = some (.type "function") ∧ FnOk P w K mg base CX0 k g fd ps (spEr C f) ∧ Binds K fd ps [] ∧ mg x = some (.ref C)
/-- the __init__ of an error class, by its body -/
theorem errD {P : Program} {w : World} {K : PySem.W.Frag} {mg : Str → Option Value} {base : Heap} {x qual f : Str} {C g : Addr} {st : Stmt} {fd : FuncData} {N ps : List Str} (er : ErC K C f) (iC : PySem.W.findIn K (.ref C) "__init__" = some (some (.ref g))) (tI : PySem.W.typeIn K (.ref g) = some (.type "function"))
    (hm : mg x = some (.ref C)) (Fn : Fun K "__init__" qual st g fd) (Sc : FnScope N ps (defScope st)) (hN : N = [("self" : Str), f]) (hps : ps = [("self" : Str), f])
    (hb : ∀ (kV doc pm : Value) (an : Option Addr) (cdv ct : Value) (us : List Value), us.length = ps.length → bindArgs (PySem.W.fnOf "__init__" qual (defArgs st) (defBody st) (defScope st) .none kV doc pm an cdv ct) ⟨us, []⟩ = pure (ps.zip us))
    (body : ∀ (cdv : Value) (A : Around) (outer : List Env) (s : Shared) (H : Hp) (E : XK), ∃ m,
      PSs (cxOf CX0 P w K mg base N qual (defScope st) g cdv A outer s H E).nox (defBody st) (tSeq (tDrop (tExI K (tCons (tVar 0) (tCons (tC (.str m)) tNil)))) (tOsx K f (tVar 0) (tVar 1)))) :
    Err P w K mg base 1 x C f := by
  subst hN hps
  refine ⟨g, fd, _, er, iC, tI, Fn.ok Sc (fun vs H Q E ⟨a, y, e, _⟩ => by rw [e]; rfl) fun cdv A outer s H vs Q E hr h => ?_, Fn.binds hb, hm⟩
  obtain ⟨a, y, e, ha, q⟩ := h
  subst e
  obtain ⟨m, b⟩ := body cdv A outer s H E
  refine ⟨_, b, ?_⟩
  refine ⟨_, rfl, ?_⟩
  refine ⟨a, C, [_], rfl, by simp, er.oex, ha, ?_⟩
  exact ⟨_, rfl, _, rfl, a, C, rfl, er.oex, er.no, ha, fun dx h1 h2 => q dx h1 h2⟩
/-- a class method that may raise -/
structure CmX (P : Program) (w : World) (K : PySem.W.Frag) (mg : Str → Option Value) (base : Heap) (k : Nat) (C : Addr) (m : Str) (ks : List Str) (gV : List V → List V → List V) (sp : Sp) : Prop where
  ex : ∃ (mc : Value) (p f : Addr) (fd : FuncData) (ps : List Str) (g : List Value → List Value → List Value), ClX.CRead K C mc ∧ ClX.CMet K C mc m p f ∧ FnOk P w K mg base (L2.CX P w) k f fd ps sp ∧ Binds K fd ps [] ∧ KBn K fd ps 1 ks g gV
def tCmS (C : Addr) (sp : Sp) (E : L2.St → XK) (ta : TE) (t : TA) : TE := fun σ H Q => ta σ H fun x H1 => x = .ref C ∧ t σ H1 fun vs H2 => sp (.ref C :: vs) H2 Q (E σ)
def tCmKS (C : Addr) (n : Nat) (sp : Sp) (gV : List V → List V → List V) (E : L2.St → XK) (ta : TE) (tk : TA) : TE := fun σ H Q => ta σ H fun x H1 => x = .ref C ∧ tk σ H1 fun zs H2 => zs.length = n ∧ sp (gV [.ref C] zs) H2 Q (E σ)
def tMakS (C : Addr) (sp : Sp) (E : L2.St → XK) (t : TA) : TE := fun σ H Q => t σ H fun vs H1 => ∀ x dx, H1 x = none → H1 dx = none → dx ≠ x →
  sp (.ref x :: vs) (upd (upd H1 dx (.own x)) x (.ins C dx [])) (fun v H2 => v = .non ∧ Q (.ref x) H2) (E σ)
def tMakKS (C : Addr) (n : Nat) (sp : Sp) (gV : List V → List V → List V) (E : L2.St → XK) (tk : TA) : TE := fun σ H Q => tk σ H fun zs H2 => zs.length = n ∧ ∀ x dx, H2 x = none → H2 dx = none → dx ≠ x →
  sp (gV [.ref x] zs) (upd (upd H2 dx (.own x)) x (.ins C dx [])) (fun v H3 => v = .non ∧ Q (.ref x) H3) (E σ)
section
variable {X : Cx} {W : WX} {k j n : Nat} {x m f : Str} {C : Addr} {sp : Sp} {e o : Expr} {es : List Expr} {t ta tk : TA} {te : TE} {p pos apos : Pos} {ks : List Str} {gV : List V → List V → List V} {kws : List Keyword}
theorem pmk_err (c : Err X.prog X.w X.K X.mg X.base k x C f) (hr : Room j X.A) (hk : k + 1 ≤ j) (hg : Gl X x) (ha : PA X (e :: es) ta)
    (hdb : (x == ("__debug__" : Str)) = false := by decide) (he : starEach (e :: es) X.env = (false, eval e X.env) :: starEach es X.env := by rfl) (hpl : (backTo pos (starEach es X.env)).any (·.1) = false := by rfl) :
    PMk X (.Call (.Name x p) (e :: es) [] pos) (tMkO C (spEr C f) [] ta) := by
  obtain ⟨g, fd, ps, E, iC, tI, F1, hb, hm⟩ := c.ex
  exact pmk_oexX (sp := spEr C f) (dvs := []) E.oex iC tI F1 (hr.mono hk) hb .nil C8.pass0 hg hm ha hdb he hpl
/-- how a run of a raising def ends, seen from the caller -/
theorem endS {pins : List (Addr × Obj)} {σ : L2.St} {H : Hp} {s : Shared} {Q : VK} (tk : Takes X W) (I : Inv X pins σ H s) {r : Result} {s' : Shared} (hq : CR (L2.CX X.prog X.w) X.stack X.prog X.w H s Q (WE W σ) r s') :
    match r with | .ok (.ret u) => EP X pins σ Q u s' | .ok _ => False | .error e => X.xe e s' := by
  cases r with
  | error e => exact passAt tk σ pins H s e s' I hq
  | ok fl =>
    cases fl with
    | ret u => exact I.after hq
    | next => exact False.elim hq
    | brk => exact False.elim hq
    | cont => exact False.elim hq
theorem pe_cmX {pl : Sem Bool} (c : CmX X.prog X.w X.K X.mg X.base k C m ks gV sp) (hr : Room j X.A) (hk : k ≤ j) (tk : Takes X W) (he : PE X o te) (ha : PA X (e :: es) t)
    (hst : starEach (e :: es) X.env = (false, eval e X.env) :: starEach es X.env := by rfl) (hpl : (backTo pos (starEach es X.env)).any (·.1) = false := by rfl)
    (ht : eval (.Call (.Attribute o m apos) (e :: es) [] pos) X.env = (do
      let ov ← eval o X.env
      standAt apos.atName
      let (f, first) ← holding [ov] (getMethod ov m pl)
      callWith pos f first (backTo pos (starEach (e :: es) X.env)) (backToKw pos (keywordEach [] X.env))) := by rfl) :
    PE X (.Call (.Attribute o m apos) (e :: es) [] pos) (tCmS C sp (WE W) te t) := by
  obtain ⟨mc, p, f, fd, ps, g, r, cm, F, hb, _⟩ := c.ex
  have Fr : FnR X.prog X.w X.K X.mg X.base (L2.CX X.prog X.w) k f sp := by
    have := F.raw hb .nil
    simp only [List.append_nil] at this
    exact this
  refine ⟨fun pins s σ H Q I h => ?_⟩
  refine PySem.W.methodCall_KW (pl := pl) (thn (he.run pins s σ H _ I h) fun u s1 ⟨x, H1, I1, rx, ex, q⟩ => ?_) ht
  subst ex
  obtain rfl : u = Value.ref C := rx
  refine ClX.getmethcm_ok I1 r cm fun s2 I2 => ?_
  refine ClX.callwith_cm I2 (ClX.base_none I1 (Nat.le_refl _)) cm.fi (thn (ha.run pos _ s2 σ H1 _ I2 q) fun us s3 ⟨vs, H2, I3, rv, q2⟩ => ⟨⟨ClX.pin_at I3, I3.kIn⟩, ?_⟩) hst hpl
  have z : wpAny (model X.prog X.w) X.A (call (.ref s1.heap.objs.size) us) (EP X ((s1.heap.objs.size, PySem.W.methodObj (.ref f) (.ref C)) :: pins) σ Q) X.xe s3 := by
    refine wpAny_call (PySem.W.method_call (ClX.pin_at I3) (codeAny_mono (Fr X.A X.stack s3 H2 (.ref C :: us) (.ref C :: vs) Q (WE W σ) (hr.mono hk) I3.env0 (.cons rfl rv) q2) fun r s' hq => ?_))
    have := endS tk I3 hq
    cases r with
    | error e => exact this
    | ok fl =>
      cases fl with
      | ret u => exact this
      | next => exact False.elim this
      | brk => exact False.elim this
      | cont => exact False.elim this
  exact thn z fun _ _ y => ClX.unpinE y
theorem pe_cmkX {pl : Sem Bool} (c : CmX X.prog X.w X.K X.mg X.base k C m ks gV sp) (hr : Room j X.A) (hk : k ≤ j) (tkX : Takes X W) (he : PE X o te) (hkw : PK X kws tk)
    (hall : (backToKw pos (keywordEach kws X.env)).all (·.1.isSome) = true := by rfl) (hks : (backToKw pos (keywordEach kws X.env)).filterMap (·.1) = ks := by rfl)
    (hpl : ((backTo pos (starEach [] X.env)).any (·.1) || (backToKw pos (keywordEach kws X.env)).any (·.1.isNone)) = false := by rfl)
    (ht : eval (.Call (.Attribute o m apos) [] kws pos) X.env = (do
      let ov ← eval o X.env
      standAt apos.atName
      let (f, first) ← holding [ov] (getMethod ov m pl)
      callWith pos f first (backTo pos (starEach [] X.env)) (backToKw pos (keywordEach kws X.env))) := by rfl) :
    PE X (.Call (.Attribute o m apos) [] kws pos) (tCmKS C ks.length sp gV (WE W) te tk) := by
  obtain ⟨mc, p, f, fd, ps, g, r, cm, F, _, hb⟩ := c.ex
  refine ⟨fun pins s σ H Q I h => ?_⟩
  refine PySem.W.methodCall_KW (pl := pl) (thn (he.run pins s σ H _ I h) fun u s1 ⟨x, H1, I1, rx, ex, q⟩ => ?_) ht
  subst ex
  obtain rfl : u = Value.ref C := rx
  refine ClX.getmethcm_ok I1 r cm fun s2 I2 => ?_
  refine PySem.W.callWith_of (P := PySem.W.MethP X.K s1.heap.objs.size f (.ref C)) hpl (PySem.W.keeps_M cm.fi) (evalArgs_kw2_nil hall ?_)
  refine thn (hkw.run pos _ s2 σ H1 _ I2 q) fun ws s3 ⟨zs, H2, I3, rz, l2, q2⟩ => ⟨⟨ClX.pin_at I3, I3.kIn⟩, ?_⟩
  rw [hks]
  have z : wpAny (model X.prog X.w) X.A (call (.ref s1.heap.objs.size) [] (ks.zip ws)) (EP X ((s1.heap.objs.size, PySem.W.methodObj (.ref f) (.ref C)) :: pins) σ Q) X.xe s3 := by
    refine wpAny_call (PySem.W.method_call (ClX.pin_at I3) ?_)
    have r2 := hb.rel (us := [Value.ref C]) (vs := [V.ref C]) (.cons rfl .nil) rz
    refine codeAny_mono (F.run X.A X.stack s3 H2 ⟨[.ref C], ks.zip ws⟩ (g [.ref C] ws) (gV [.ref C] zs) Q (WE W σ) (hr.mono hk) I3.env0 (hb.to s3 [.ref C] ws I3.kIn rfl (rz.length.symm.trans l2)) r2 q2) fun r s' hq => ?_
    have := endS tkX I3 hq
    cases r with
    | error e => exact this
    | ok fl =>
      cases fl with
      | ret u => exact this
      | next => exact False.elim this
      | brk => exact False.elim this
      | cont => exact False.elim this
  exact thn z fun _ _ y => ClX.unpinE y
end
end N
set_option Elab.async false
set_option linter.all false
set_option maxRecDepth 100000
set_option maxHeartbeats 1000000
namespace N
open PySem PySem.Spec PyProof.Rows L2
/-- how an exception leaves: the class, the place of its dict, slots, owned cells (its dict among them) -/
abbrev EX := Nat → Addr → Gm → Om → Prop
abbrev FX := List D → Om → (D → Om → Prop) → (Nat → Addr → Om → Prop) → Prop
section
variable (F : FmKit) (T : Kx)
def XOk (C H : Hp) (ex : EX) (W0 : WX) : Prop := ∀ c d G W H' O' σ, ex c d G W → Nx F T C W H H' O' → Lo F T H' G σ → W0 (.ref (T.cl c)) (some d) σ (ov O' H')
def EvX (W0 : WX) (te : TE) (G : Gm) (W : Om) (R : D → Om → Prop) (ex : EX) : Prop :=
  ∀ (C H O : Hp) (σ : L2.St), Wd F T C G W H O σ → XOk F T C H ex W0 → ∀ Q : VK, (∀ d W' H' O' v, R d W' → Nx F T C W' H H' O' → Den F T H' d v → Q v (ov O' H')) → te σ (ov O H) Q
def EvAX (W0 : WX) (ta : TA) (G : Gm) (W : Om) (R : List D → Om → Prop) (ex : EX) : Prop :=
  ∀ (C H O : Hp) (σ : L2.St), Wd F T C G W H O σ → XOk F T C H ex W0 → ∀ Q : List V → Hp → Prop, (∀ ds W' H' O' vs, R ds W' → Nx F T C W' H H' O' → DenL F T H' ds vs → Q vs (ov O' H')) → ta σ (ov O H) Q
def SwX (W0 : WX) (ts : TS) (G : Gm) (W : Om) (E : En) (ex : EX) : Prop :=
  ∀ (C H O : Hp) (σ : L2.St), Wd F T C G W H O σ → XOk F T C H ex W0 → ∀ B : Ends, EnOk F T C H E B → ts B σ (ov O H)
def spX (S : FX) : Sp := fun vs X Q E => ∃ (ds : List D) (W : Om) (C H O : Hp) (post : D → Om → Prop) (ex : Nat → Addr → Om → Prop), X = ov O H ∧ Dis O H ∧ Same C O ∧ Ow F T H C O W ∧ DenL F T H ds vs ∧ S ds W post ex ∧
  (∀ d W' H' O' v, post d W' → Nx F T C W' H H' O' → Den F T H' d v → Q v (ov O' H')) ∧ ∀ c d W' H' O', ex c d W' → Nx F T C W' H H' O' → E (.ref (T.cl c)) (some d) (ov O' H')
end
section
variable {F : FmKit} {T : Kx} {C H H' O O' : Hp} {G : Gm} {W W' : Om} {σ : L2.St} {a p : Addr} {od : OD} {d : D} {l : List D}
  {te ta tb : TE} {t u : TT} {R R' : D → Om → Prop} {Z : Bool → Om → Prop} {tr tk : TA} {ts tz : TS} {En1 E : En} {ex ex' : EX} {W0 : WX} {S : FX}
theorem XOk.up (h : XOk F T C H ex W0) (e : Same H H') : XOk F T C H' ex W0 := fun c d G W H2 O' σ x n l => h c d G W H2 O' σ x ⟨e.trans n.ext, n.dis, n.oc, n.own⟩ l
theorem evx_of (h : Ev F T te G W R) : EvX F T W0 te G W R ex := fun C H O σ w _ Q q => h C H O σ w Q q
theorem evax_of {Y : List D → Om → Prop} (h : EvA F T tr G W Y) : EvAX F T W0 tr G W Y ex := fun C H O σ w _ Q q => h C H O σ w Q q
theorem swx_of (h : Sw F T ts G W E) : SwX F T W0 ts G W E ex := fun C H O σ w _ B b => h C H O σ w B b
theorem sw_ofX (h : SwX F T W0 ts G W E fun _ _ _ _ => False) : Sw F T ts G W E := fun C H O σ w B b => h C H O σ w (fun _ _ _ _ _ _ _ z => z.elim) B b
theorem XOk.imp (h : XOk F T C H ex' W0) (i : ∀ c d G W, ex c d G W → ex' c d G W) : XOk F T C H ex W0 := fun c d G W H2 O' σ x n l => h c d G W H2 O' σ (i c d G W x) n l
theorem evax_nil {Y : List D → Om → Prop} (r : Y [] W) : EvAX F T W0 tNil G W Y ex := evax_of (ea_nil r)
theorem evax_cons {Y : List D → Om → Prop} (h : EvX F T W0 ta G W (fun d W1 => EvAX F T W0 tr G W1 (fun ds W2 => Y (d :: ds) W2) ex) ex) : EvAX F T W0 (tCons ta tr) G W Y ex := fun C H O σ w x Q q =>
  h C H O σ w x _ fun d W1 H1 O1 v h1 n1 k1 => h1 C H1 O1 σ (w.step n1) (x.up n1.ext) _ fun ds W2 H2 O2 vs h2 n2 k2 => q (d :: ds) W2 H2 O2 (v :: vs) h2 (n1.trans n2) ⟨v, vs, rfl, k1.mono n2.ext, k2⟩
theorem evx_cb {r : List V → Hp → VK → Prop} (h : EvAX F T W0 tr G W (fun ds W1 => Ca F T r ds W1 R) ex) : EvX F T W0 (tCB r tr) G W R ex := fun C H O σ w x Q q =>
  h C H O σ w x _ fun ds W1 H1 O1 vs h1 n1 k1 => h1 C H1 O1 n1.dis n1.oc n1.own vs k1 Q fun d W' H' O' v rr n k => q d W' H' O' v rr (n1.trans n) k
theorem evx_lstF (h : EvAX F T W0 tr G W (fun ds W1 => ds.length ≤ sizeLine ∧ R (.lst ds) W1) ex) : EvX F T W0 (tLst tr) G W R ex := fun C H O σ w x Q q =>
  h C H O σ w x _ fun ds W1 H1 O1 vs ⟨hl, r⟩ n k => ⟨by rw [k.len]; exact hl, fun p hp => by
    obtain ⟨n2, e, s⟩ := n.newF (o := .lst vs) hp
    rw [e]
    exact q (.lst ds) W1 _ _ _ r n2 ⟨p, vs, rfl, upd_same, k.mono s⟩⟩
theorem evx_if (h : EvT F T t G W fun b W1 => if b = true then EvX F T W0 ta G W1 R ex else EvX F T W0 tb G W1 R ex) : EvX F T W0 (tIf t ta tb) G W R ex := fun C H O σ w x Q q =>
  h C H O σ w _ fun b W1 H1 O1 s n => by
    cases b with
    | true => exact s C H1 O1 σ (w.step n) (x.up n.ext) _ fun d W2 H2 O2 v s2 n2 k2 => q d W2 H2 O2 v s2 (n.trans n2) k2
    | false => exact s C H1 O1 σ (w.step n) (x.up n.ext) _ fun d W2 H2 O2 v s2 n2 k2 => q d W2 H2 O2 v s2 (n.trans n2) k2
theorem swx_seq (h : SwX F T W0 ts G W { E with nx := fun G' W' => SwX F T W0 tz G' W' E ex } ex) : SwX F T W0 (tSeq ts tz) G W E ex := fun C H O σ w x B b =>
  h C H O σ w x { B with nx := tz B } ⟨fun G' W' H' O' σ' a n l => a C H' O' σ' ⟨n.dis, n.oc, l, n.own⟩ (x.up n.ext) B (b.up n.ext), b.rt, b.bk, b.ct⟩
theorem swx_if (h : EvT F T t G W fun c W' => if c = true then SwX F T W0 ts G W' E ex else SwX F T W0 tz G W' E ex) : SwX F T W0 (tIfS t ts tz) G W E ex := fun C H O σ w x B b =>
  h C H O σ w _ fun c W' H' O' r n => by
    cases c with
    | true => exact r C H' O' σ (w.step n) (x.up n.ext) B (b.up n.ext)
    | false => exact r C H' O' σ (w.step n) (x.up n.ext) B (b.up n.ext)
theorem swx_set {i : Nat} (h : EvX F T W0 te G W (fun d W' => E.nx (G.set i (some d)) W') ex) : SwX F T W0 (tAsg te (gName i)) G W E ex := fun C H O σ w x B b =>
  h C H O σ w x _ fun d W' H' O' v r n k => b.nx _ W' H' O' _ r n ((w.loc.mono n.ext).set k)
theorem swx_asg {g : TG} (h : EvX F T W0 te G W (fun d W' => Ta F T g d G W' fun G2 W2 => E.nx G2 W2) ex) : SwX F T W0 (tAsg te g) G W E ex := fun C H O σ w x B b =>
  h C H O σ w x _ fun d W' H' O' v r n k => r C H' O' σ (w.step n) v k _ fun G2 W2 H2 O2 σ2 r2 n2 l2 => b.nx G2 W2 H2 O2 σ2 r2 (n.trans n2) l2
theorem swx_ret (h : EvX F T W0 te G W E.rt ex) : SwX F T W0 (tRet te) G W E ex := fun C H O σ w x B b =>
  h C H O σ w x _ fun d W' H' O' v r n k => b.rt d W' H' O' v r n k
theorem swx_drop (h : EvX F T W0 te G W (fun _ W' => E.nx G W') ex) : SwX F T W0 (tDrop te) G W E ex := fun C H O σ w x B b =>
  h C H O σ w x _ fun d W' H' O' v r n k => b.nx G W' H' O' σ r n (w.loc.mono n.ext)
theorem swx_next (h : E.nx G W) : SwX F T W0 tNext G W E ex := swx_of (sw_next h)
theorem swx_brk (h : E.bk G W) : SwX F T W0 tBreak G W E ex := swx_of (sw_brk h)
theorem swx_cont (h : E.ct G W) : SwX F T W0 tCont G W E ex := swx_of (sw_cont h)
theorem swx_retN (h : E.rt .non W) : SwX F T W0 tRetN G W E ex := swx_of (sw_retN h)
theorem swx_par {i j : Nat} (h : EvA F T tr G W fun ds W' => ∃ d1 d2, ds = [d1, d2] ∧ E.nx ((G.set i (some d1)).set j (some d2)) W') : SwX F T W0 (tPar i j tr) G W E ex := swx_of (sw_par h)
theorem swx_fld {n : Str} (h : Ev F T tb G W fun z W1 => Ev F T ta G W1 fun d W2 => Rcv F T d z n W2 (E.nx G)) : SwX F T W0 (sFld T.K ta tb n) G W E ex := swx_of (sw_fld h)
theorem swx_for {wi : TI} {g : TG} (h : EvI F T wi G W fun ds W1 => ∃ I : Nat → Gm → Om → Prop, I 0 G W1 ∧
      (∀ i d G' W', ds[i]? = some d → I i G' W' → Tg F T g d G' fun G2 => SwX F T W0 ts G2 W' { E with nx := I (i + 1), ct := I (i + 1), bk := E.nx } ex) ∧ (∀ G' W', I ds.length G' W' → E.nx G' W')) :
    SwX F T W0 (tFor wi g ts) G W E ex := fun C H O σ w x B b =>
  h C H O σ w _ fun J ds W1 H1 O1 ⟨I, i0, turn, fin⟩ n1 wk => by
    refine ⟨fun i m σ' X => m = ds.length - i ∧ i ≤ ds.length ∧ ∃ G' W' H' O', X = ov O' H' ∧ Nx F T C W' H1 H' O' ∧ Lo F T H' G' σ' ∧ I i G' W', ⟨ds.length, by simp, Nat.zero_le _, G, W1, H1, O1, rfl, ⟨Same.refl _, n1.dis, n1.oc, n1.own⟩, w.loc.mono n1.ext, i0⟩, ?_⟩
    rintro i m σ' X ⟨rfl, hi, G', W', H', O', rfl, n, l, ii⟩
    have k := wk i H' O' n.ext n.dis
    by_cases hlt : i < ds.length
    · obtain ⟨k1, k2⟩ := k.1 ds[i] (by simp [hlt])
      refine .inr ⟨k1, fun σ2 X2 => ∃ G2 W2 H2 O2, X2 = ov O2 H2 ∧ Nx F T C W2 H1 H2 O2 ∧ Lo F T H2 G2 σ2 ∧ I (i + 1) G2 W2, fun σ2 X2 ⟨G2, W2, H2, O2, e, n2, l2, i2⟩ => ⟨ds.length - (i + 1), by omega, rfl, hlt, G2, W2, H2, O2, e, n2, l2, i2⟩, fun x2 X2 y => ?_⟩
      obtain ⟨H2, s2, d2, rfl, kx⟩ := k2 x2 X2 y
      refine turn i ds[i] G' W' (by simp [hlt]) ii H2 _ σ' x2 (l.mono s2) d2.same kx _ fun G3 σ3 sw l3 => ?_
      refine sw C H2 O' σ3 ⟨d2, n.oc, l3, n.own.mono s2⟩ (x.up ((n1.ext.trans n.ext).trans s2)) _ ⟨fun G4 W4 H4 O4 σ4 a n4 l4 => ⟨G4, W4, H4, O4, rfl, ⟨(n.ext.trans s2).trans n4.ext, n4.dis, n4.oc, n4.own⟩, l4, a⟩, ?_, ?_, fun G4 W4 H4 O4 σ4 a n4 l4 => ⟨G4, W4, H4, O4, rfl, ⟨(n.ext.trans s2).trans n4.ext, n4.dis, n4.oc, n4.own⟩, l4, a⟩⟩
      · exact fun d W4 H4 O4 v a n4 k4 => b.rt d W4 H4 O4 v a ⟨((n1.ext.trans n.ext).trans s2).trans n4.ext, n4.dis, n4.oc, n4.own⟩ k4
      · exact fun G4 W4 H4 O4 σ4 a n4 l4 => b.nx G4 W4 H4 O4 σ4 a ⟨((n1.ext.trans n.ext).trans s2).trans n4.ext, n4.dis, n4.oc, n4.own⟩ l4
    · have e : i = ds.length := by omega
      subst e
      exact .inl ⟨k.2 rfl, b.nx G' W' H' O' σ' (fin G' W' ii) ⟨n1.ext.trans n.ext, n.dis, n.oc, n.own⟩ l⟩
theorem frame {Wc Wf : Om} (di : Dis O H) (oc : Same C O) (ow : Ow F T H C O (Wc ++ Wf)) : ∃ C', Same C' O ∧ Ow F T H C' O Wc ∧ ∀ W' H' O', Nx F T C' W' H H' O' → Nx F T C (W' ++ Wf) H H' O' := by
  have nd := ow.nd
  have nd2 : (akeys Wc ++ akeys Wf).Nodup := by
    have e : akeys (Wc ++ Wf) = akeys Wc ++ akeys Wf := by simp [akeys]
    rw [← e]
    exact nd
  rw [List.nodup_append] at nd2
  obtain ⟨ndc, ndf, dj⟩ := nd2
  have inF : ∀ b, b ∈ akeys Wf → ∃ od, (b, od) ∈ Wf := fun b hb => by
    obtain ⟨x, hx, e⟩ := List.mem_map.mp hb
    exact ⟨x.2, by rw [← e]; exact hx⟩
  have atF : ∀ b od, (b, od) ∈ Wf → C b = none ∧ OdAt F T H (O b) od := fun b od m => ow.at_ b od (List.mem_append_right _ m)
  refine ⟨fun b => if b ∈ akeys Wf then O b else C b, fun b o e => ?_, ⟨ndc, fun a od m => ?_⟩, fun W' H' O' n => ⟨n.ext, n.dis, fun b o e => ?_, ⟨?_, fun a od m => ?_⟩⟩⟩
  · by_cases hb : b ∈ akeys Wf
    · simp only [if_pos hb] at e
      exact e
    · simp only [if_neg hb] at e
      exact oc b o e
  · have hn : a ∉ akeys Wf := fun z => dj a (mem_akeys m) a z rfl
    rw [if_neg hn]
    exact ow.at_ a od (List.mem_append_left _ m)
  · refine n.oc b o ?_
    by_cases hb : b ∈ akeys Wf
    · obtain ⟨od, m⟩ := inF b hb
      rw [(atF b od m).1] at e
      cases e
    · rw [if_neg hb]
      exact e
  · have e : akeys (W' ++ Wf) = akeys W' ++ akeys Wf := by simp [akeys]
    rw [e, List.nodup_append]
    refine ⟨n.own.nd, ndf, fun x hx y hy exy => ?_⟩
    subst exy
    obtain ⟨z, hz, ez⟩ := List.mem_map.mp hx
    have h1 := (n.own.at_ z.1 z.2 hz).1
    rw [ez, if_pos hy] at h1
    obtain ⟨od, m⟩ := inF _ hy
    obtain ⟨o, eo⟩ := (atF _ od m).2.some
    rw [h1] at eo
    cases eo
  · rcases List.mem_append.mp m with m | m
    · obtain ⟨h1, h2⟩ := n.own.at_ a od m
      refine ⟨?_, h2⟩
      by_cases hb : a ∈ akeys Wf
      · obtain ⟨od', m'⟩ := inF a hb
        exact (atF a od' m').1
      · rw [if_neg hb] at h1
        exact h1
    · obtain ⟨h1, h2⟩ := atF a od m
      obtain ⟨o, eo⟩ := h2.some
      have e2 : O' a = some o := n.oc a o (by rw [if_pos (mem_akeys (x := (a, od)) m)]; exact eo)
      rw [eo] at h2
      rw [e2]
      exact ⟨h1, h2.mono n.ext⟩
def HandX (S : FX) (ds : List D) (W : Om) (R : D → Om → Prop) (rx : Nat → Addr → Om → Prop) : Prop := ∃ Wc Wf, W.Perm (Wc ++ Wf) ∧ S ds Wc (fun d W' => R d (W' ++ Wf)) fun c d W' => rx c d (W' ++ Wf)
variable {rx : Nat → Addr → Om → Prop}
theorem handX0 {ds : List D} (h : S ds [] (fun d W' => R d (W' ++ W)) fun c d W' => rx c d (W' ++ W)) : HandX S ds W R rx := ⟨[], W, List.Perm.refl _, h⟩
theorem HandX.run {ds : List D} {vs : List V} {Q : VK} {XE : XK} (h : HandX S ds W R rx) (di : Dis O H) (oc : Same C O) (ow : Ow F T H C O W) (k : DenL F T H ds vs) (q : ∀ d W' H' O' v, R d W' → Nx F T C W' H H' O' → Den F T H' d v → Q v (ov O' H'))
    (x : ∀ c d W' H' O', rx c d W' → Nx F T C W' H H' O' → XE (.ref (T.cl c)) (some d) (ov O' H')) : spX F T S vs (ov O H) Q XE := by
  obtain ⟨Wc, Wf, hp, hs⟩ := h
  obtain ⟨C', h1, h2, h3⟩ := frame di oc (ow.perm hp)
  exact ⟨ds, Wc, C', H, O, _, _, rfl, di, h1, h2, k, hs, fun d W' H' O' v r n kd => q d _ H' O' v r (h3 W' H' O' n) kd, fun c d W' H' O' r n => x c d _ H' O' r (h3 W' H' O' n)⟩
theorem evx_call (h : EvA F T tr G W fun ds W1 => HandX S ds W1 R fun c d W' => ex c d G W') : EvX F T W0 (tCallS (spX F T S) (WE W0) tr) G W R ex := fun C H O σ w x Q q =>
  h C H O σ w _ fun ds W1 H1 O1 vs h1 n k => h1.run n.dis n.oc n.own k (fun d W' H' O' v r n2 kd => q d W' H' O' v r (n.trans n2) kd) fun c d W' H' O' r n2 => x c d G W' H' O' σ r (n.trans n2) (w.loc.mono (n.trans n2).ext)
theorem evx_cm {c : Nat} (h : Ev F T te G W fun d W1 => d = .adr (T.cl c) ∧ EvA F T tr G W1 fun ds W2 => HandX S (.adr (T.cl c) :: ds) W2 R fun c d W' => ex c d G W') : EvX F T W0 (tCmS (T.cl c) (spX F T S) (WE W0) te tr) G W R ex := fun C H O σ w x Q q =>
  h C H O σ w _ fun d W1 H1 O1 y ⟨ed, ha⟩ n1 k1 => by
    subst ed
    exact ⟨k1, ha C H1 O1 σ (w.step n1) _ fun ds W2 H2 O2 vs hh n2 k2 => hh.run n2.dis n2.oc n2.own ⟨_, _, rfl, rfl, k2⟩ (fun d W' H' O' v r n3 kd => q d W' H' O' v r ((n1.trans n2).trans n3) kd)
      fun c d W' H' O' r n3 => x c d G W' H' O' σ r ((n1.trans n2).trans n3) (w.loc.mono ((n1.trans n2).trans n3).ext)⟩
theorem evx_cmk {c n : Nat} {gV : List V → List V → List V} (h : Ev F T te G W fun d W1 => d = .adr (T.cl c) ∧ EvA F T tk G W1 fun ds W2 => ds.length = n ∧ ∃ as, (∀ H x zs, Den F T H d x → DenL F T H ds zs → DenL F T H as (gV [x] zs)) ∧ HandX S as W2 R fun c d W' => ex c d G W') :
    EvX F T W0 (tCmKS (T.cl c) n (spX F T S) gV (WE W0) te tk) G W R ex := fun C H O σ w x Q q =>
  h C H O σ w _ fun d W1 H1 O1 y ⟨ed, ha⟩ n1 k1 => by
    subst ed
    refine ⟨k1, ha C H1 O1 σ (w.step n1) _ fun ds W2 H2 O2 vs ⟨hl, as, hg, hh⟩ n2 k2 => ⟨by rw [k2.len]; exact hl, ?_⟩⟩
    exact hh.run n2.dis n2.oc n2.own (hg H2 _ vs rfl k2) (fun d W' H' O' v r n3 kd => q d W' H' O' v r ((n1.trans n2).trans n3) kd)
      fun c d W' H' O' r n3 => x c d G W' H' O' σ r ((n1.trans n2).trans n3) (w.loc.mono ((n1.trans n2).trans n3).ext)
/-- a new instance is handed to a raising __init__ -/
theorem run_makeX {c : Nat} {as : Addr → List D} {vs : Addr → List V} {x dx : Addr} {Q : VK} {XE : XK} (n : Nx F T C W H H' O') (k : ∀ H2 x, Same H' H2 → DenL F T H2 (as x) (vs x)) (h : ∀ x, x ∉ akeys W → HandX S (as x) ((x, .ins c [] []) :: W) (fun d W' => d = .non ∧ R (.adr x) W') rx)
    (hx : ov O' H' x = none) (hdx : ov O' H' dx = none) (ne : dx ≠ x) (q : ∀ d W2 H2 O2 v, R d W2 → Nx F T C W2 H H2 O2 → Den F T H2 d v → Q v (ov O2 H2)) (xq : ∀ c d W2 H2 O2, rx c d W2 → Nx F T C W2 H H2 O2 → XE (.ref (T.cl c)) (some d) (ov O2 H2)) :
    spX F T S (vs x) (upd (upd (ov O' H') dx (.own x)) x (.ins (T.cl c) dx [])) (fun v H2 => v = .non ∧ Q (.ref x) H2) XE := by
  obtain ⟨n2, e2, s2⟩ := n.newF (o := .own x) hdx
  rw [e2]
  have hx2 : ov O' (upd H' dx (.own x)) x = none := by rw [← e2, upd_ne ne.symm]; exact hx
  obtain ⟨n3, e3, np⟩ := n2.newO (od := .ins c [] []) (o := .ins (T.cl c) dx []) hx2 ⟨dx, [], rfl, rfl, rfl⟩
  rw [e3]
  refine (h x np).run n3.dis n3.oc n3.own (k _ x s2) (fun d W' H2 O2 v ⟨e, r⟩ n4 kd => ?_) fun c d W' H2 O2 r n4 => xq c d W' H2 O2 r (n3.trans n4)
  subst e
  exact ⟨kd, q (.adr x) W' H2 O2 _ r (n3.trans n4) rfl⟩
theorem evx_mk {c : Nat} (h : EvA F T tr G W fun ds W1 => ∀ x, x ∉ akeys W1 → HandX S (.adr x :: ds) ((x, .ins c [] []) :: W1) (fun d W' => d = .non ∧ R (.adr x) W') fun c d W' => ex c d G W') : EvX F T W0 (tMakS (T.cl c) (spX F T S) (WE W0) tr) G W R ex := fun C H O σ w xo Q q =>
  h C H O σ w _ fun ds W1 H1 O1 vs h1 n k x dx hx hdx ne => run_makeX (as := fun x => .adr x :: ds) (vs := fun x => .ref x :: vs) n (fun H2 x s => ⟨_, _, rfl, rfl, k.mono s⟩) h1 hx hdx ne q
    fun c d W' H' O' r n2 => xo c d G W' H' O' σ r n2 (w.loc.mono n2.ext)
theorem evx_mkk {c m : Nat} {gV : List V → List V → List V} (h : EvA F T tk G W fun ds W1 => ds.length = m ∧ ∃ as : Addr → List D, (∀ H x zs, DenL F T H ds zs → DenL F T H (as x) (gV [.ref x] zs)) ∧ ∀ x, x ∉ akeys W1 → HandX S (as x) ((x, .ins c [] []) :: W1) (fun d W' => d = .non ∧ R (.adr x) W') fun c d W' => ex c d G W') :
    EvX F T W0 (tMakKS (T.cl c) m (spX F T S) gV (WE W0) tk) G W R ex := fun C H O σ w xo Q q =>
  h C H O σ w _ fun ds W1 H1 O1 vs ⟨hl, as, hg, h1⟩ n k => ⟨by rw [k.len]; exact hl, fun x dx hx hdx ne => run_makeX (as := as) (vs := fun x => gV [.ref x] vs) n (fun H2 x s => hg H2 x vs (k.mono s)) h1 hx hdx ne q
    fun c d W' H' O' r n2 => xo c d G W' H' O' σ r n2 (w.loc.mono n2.ext)⟩
theorem swx_raise {c : Nat} {f : Str} (h : EvA F T tr G W fun ds W1 => ∃ z, ds = [z] ∧ ∀ d, d ∉ akeys W1 → ex c d G ((d, .xd [f] [z]) :: W1)) :
    SwX F T W0 (fun _ σ H => tMkO (T.cl c) (spEr (T.cl c) f) [] tr σ H fun cls d H' => W0 cls d σ H') G W E ex := fun C H O σ w xo B b =>
  h C H O σ w _ fun ds W1 H1 O1 vs ⟨z, e, hz⟩ n k => by
    subst e
    obtain ⟨v, r', e1, k1, e2⟩ := k
    have e2 : r' = [] := e2
    subst e2 e1
    refine ⟨by simp, fun a ha => ⟨a, v, rfl, upd_same, fun dx h1 h2 => ⟨rfl, dx, [(f, v)], upd_same, ?_, ?_, ?_⟩⟩⟩
    · rw [upd_ne h2, upd_same]
    · rwa [upd_ne h2] at h1
    · have h3 : ov O1 H1 dx = none := by rwa [upd_ne h2] at h1
      have e : upd (del (upd (upd (upd (ov O1 H1) a (exo a (T.cl c) none)) dx (exd dx [(f, v)])) a (exo a (T.cl c) (some dx))) a) dx (.xd [(f, v)]) = upd (ov O1 H1) dx (.xd [(f, v)]) := by
        funext y
        by_cases hy : y = dx
        · rw [hy, upd_same, upd_same]
        · rw [upd_ne hy, upd_ne hy]
          unfold del
          by_cases ha2 : y = a
          · rw [if_pos ha2, ha2, ha]
          · rw [if_neg ha2, upd_ne ha2, upd_ne hy, upd_ne ha2]
      show W0 _ _ σ (upd (L2.del _ a) dx _)
      have e' := e
      obtain ⟨n2, e3, np⟩ := n.newO (od := .xd [f] [z]) (o := .xd [(f, v)]) h3 ⟨[(f, v)], rfl, rfl, .one k1⟩
      rw [show upd (L2.del (upd (upd (upd (ov O1 H1) a (exo a (T.cl c) none)) dx (exd dx [(f, v)])) a (exo a (T.cl c) (some dx))) a) dx (.xd [(f, v)]) = upd (ov O1 H1) dx (.xd [(f, v)]) from e', e3]
      exact xo c dx G _ _ _ σ (hz dx np) n2 (w.loc.mono n2.ext)
theorem swx_try {tb : WX → TS} {sx : Addr → Value → Option Addr → TS} {cc i : Nat} {ex1 : EX} (hb : ∀ W1, SwX F T W1 (tb W1) G W E ex1)
    (hs : ∀ c d G' W', ex1 c d G' W' → ∃ b, PySem.W.exmOne T.K (.ref (T.cl c)) (.ref (T.cl cc)) = some b ∧ (b = true → ∀ a, Sw F T (sx a (.ref (T.cl c)) (some d)) (G'.set i (some (.adr a))) W'
      { nx := fun G2 W2 => E.nx (G2.set i none) W2, rt := E.rt, bk := fun G2 W2 => E.bk (G2.set i none) W2, ct := fun G2 W2 => E.ct (G2.set i none) W2 }) ∧ (b = false → ex c d G' W')) :
    SwX F T W0 (fun B σ H => tb (wAs T.K (.ref (T.cl cc)) i sx W0 B) B σ H) G W E ex := fun C H O σ w xo B b => by
  refine hb _ C H O σ w (fun c d G' W' H' O' σ' e n l => ?_) B b
  obtain ⟨bb, h1, h2, h3⟩ := hs c d G' W' e
  refine ⟨bb, h1, fun q a ha => ?_, fun q => xo c d G' W' H' O' σ' (h3 q) n l⟩
  refine h2 q a C H' O' _ ⟨n.dis, n.oc, l.set rfl, n.own⟩ _ ⟨fun G2 W2 H2 O2 σ2 z n2 l2 => b.nx _ W2 H2 O2 _ z (n.trans n2) (l2.forget none), fun d W2 H2 O2 v z n2 k2 => b.rt d W2 H2 O2 v z (n.trans n2) k2,
    fun G2 W2 H2 O2 σ2 z n2 l2 => b.bk _ W2 H2 O2 _ z (n.trans n2) (l2.forget none), fun G2 W2 H2 O2 σ2 z n2 l2 => b.ct _ W2 H2 O2 _ z (n.trans n2) (l2.forget none)⟩
theorem swx_tryG {tb : (Ends → WX) → TS} {sx : Addr → Value → Option Addr → TS} {cc i : Nat} {ex1 : EX} (hp : ∀ w B, tb w B = tb (fun _ => w B) B) (hb : ∀ W1, SwX F T W1 (tb fun _ => W1) G W E ex1)
    (hs : ∀ c d G' W', ex1 c d G' W' → ∃ b, PySem.W.exmOne T.K (.ref (T.cl c)) (.ref (T.cl cc)) = some b ∧ (b = true → ∀ a, Sw F T (sx a (.ref (T.cl c)) (some d)) (G'.set i (some (.adr a))) W'
      { nx := fun G2 W2 => E.nx (G2.set i none) W2, rt := E.rt, bk := fun G2 W2 => E.bk (G2.set i none) W2, ct := fun G2 W2 => E.ct (G2.set i none) W2 }) ∧ (b = false → ex c d G' W')) :
    ∀ wx, wAs T.K (.ref (T.cl cc)) i sx W0 = wx → SwX F T W0 (tb wx) G W E ex := by
  rintro _ rfl
  have h := swx_try (tb := fun W => tb fun _ => W) hb hs (W0 := W0) (ex := ex)
  have e : (fun B σ H => tb (fun _ => wAs T.K (.ref (T.cl cc)) i sx W0 B) B σ H) = tb (wAs T.K (.ref (T.cl cc)) i sx W0) := funext fun B => (hp _ B).symm
  rw [e] at h
  exact h
/-- e.f, e the exception that is held -/
theorem ev_xf {c : Nat} {a dd : Addr} {f : Str} (h : Ev F T te G W fun d W1 => d = .adr a ∧ ∃ ns l z, (dd, OD.xd ns l) ∈ W1 ∧ (ns.zip l).lookup f = some z ∧ R z W1) : Ev F T (tXf a (.ref (T.cl c)) (some dd) (T.cl c) f te) G W R := fun C H O σ w Q q =>
  h C H O σ w _ fun d W1 H1 O1 x ⟨e, ns, l, z, hm, hl, r⟩ n k => by
    subst e
    obtain ⟨_, fs, h1, h2, h3⟩ := n.own.at_ dd _ hm
    subst h2
    obtain ⟨v, hv, kv⟩ := look_zip h3 hl
    exact ⟨k, rfl, dd, fs, v, rfl, ov_own h1, hv, q z W1 H1 O1 v r n kv⟩
end
section
variable {P : Program} {w : World} {K : PySem.W.Frag} {mg : Str → Option Value} {base : Heap} {F : FmKit} {cl : Nat → Addr} {S : FX}
/-- the wish of a def about what it lets out -/
abbrev WD (E : XK) : WX := fun cls d _ H => E cls d H
theorem spX_len {n : Nat} (len : ∀ ds W post ex, S ds W post ex → ds.length = n) : ∀ vs H Q E, spX F ⟨K, cl⟩ S vs H Q E → vs.length = n := fun vs H Q E ⟨ds, W, C, H1, O, post, ex, _, _, _, _, k, h, _⟩ => by
  rw [k.len]
  exact len ds W post ex h
theorem body_runX {N : List Str} {t : TS} {vs : List V} {H : Hp} {Q : VK} {E : XK} (h : spX F ⟨K, cl⟩ S vs H Q E) (b : ∀ ds W post ex, S ds W post ex → SwX F ⟨K, cl⟩ (WD E) t (startD N ds) W (E_ post) fun c d _ W => ex c d W) : t { nx := fun _ H' => Q .non H', rt := Q } (L2.start N vs) H := by
  obtain ⟨ds, W, C, H1, O, post, ex, e, di, oc, ow, k, hs, q, x⟩ := h
  subst e
  exact b ds W post ex hs C H1 O _ ⟨di, oc, k.lo, ow⟩ (fun c d G W' H' O' σ' r n _ => x c d W' H' O' r n) _ ⟨fun G W' H' O' σ' r n l => q .non W' H' O' .non r n rfl, fun d W' H' O' v r n kd => q d W' H' O' v r n kd, fun _ _ _ _ _ z => z.elim, fun _ _ _ _ _ z => z.elim⟩
theorem okX {x qual : Str} {st : Stmt} {f : Addr} {fd : FuncData} {N ps : List Str} {k : Nat} (Fn : Fun K x qual st f fd) (Sc : FnScope N ps (defScope st)) (len : ∀ ds W post ex, S ds W post ex → ds.length = ps.length)
    (body : ∀ (cdv : Value) (A : Around) (outer : List Env) (s : Shared) (H : Hp) (E : XK), Room k (A.deeper (envOfC qual (defScope st) s.heap.objs.size f cdv)) →
      ∃ t, PSs (cxOf (L2.CX P w) P w K mg base N qual (defScope st) f cdv A outer s H E) (defBody st) t ∧ ∀ ds W post ex, S ds W post ex → SwX F ⟨K, cl⟩ (WD E) t (startD N ds) W (E_ post) fun c d _ W => ex c d W) : FnOk P w K mg base (L2.CX P w) (k + 1) f fd ps (spX F ⟨K, cl⟩ S) :=
  Fn.okX Sc (spX_len len) fun cdv A outer s H vs Q E hr h => let ⟨t, ht, b⟩ := body cdv A outer s H E hr; ⟨t, ht, body_runX h b⟩
theorem cmXD {m qual : Str} {C p : Addr} {mc : Value} {st : Stmt} {f : Addr} {fd : FuncData} {N ps ks : List Str} {g : List Value → List Value → List Value} {gV : List V → List V → List V} {k : Nat} (cr : ClX.CRead K C mc) (cm : ClX.CMet K C mc m p f) (Fn : Fun K m qual st f fd) (Sc : FnScope N ps (defScope st)) (len : ∀ ds W post ex, S ds W post ex → ds.length = ps.length)
    (hb : ∀ (kV doc pm : Value) (an : Option Addr) (cdv ct : Value) (us : List Value), us.length = ps.length → bindArgs (PySem.W.fnOf m qual (defArgs st) (defBody st) (defScope st) .none kV doc pm an cdv ct) ⟨us, []⟩ = pure (ps.zip us))
    (kb : KBn K fd ps 1 ks g gV)
    (body : ∀ (cdv : Value) (A : Around) (outer : List Env) (s : Shared) (H : Hp) (E : XK), Room k (A.deeper (envOfC qual (defScope st) s.heap.objs.size f cdv)) →
      ∃ t, PSs (cxOf (L2.CX P w) P w K mg base N qual (defScope st) f cdv A outer s H E) (defBody st) t ∧ ∀ ds W post ex, S ds W post ex → SwX F ⟨K, cl⟩ (WD E) t (startD N ds) W (E_ post) fun c d _ W => ex c d W) :
    CmX P w K mg base (k + 1) C m ks gV (spX F ⟨K, cl⟩ S) :=
  ⟨mc, p, f, fd, ps, g, cr, cm, okX Fn Sc len body, Fn.binds hb, kb⟩
end
end N
set_option Elab.async false
set_option linter.all false
set_option maxRecDepth 100000
set_option maxHeartbeats 1000000
namespace N
open PySem PySem.Spec PyProof.Rows L2
inductive Tok where
  | form | sg (c : Nat)
abbrev isL (c : Nat) : Prop := (65 ≤ c ∧ c ≤ 90) ∨ (97 ≤ c ∧ c ≤ 122)
/-- what is left where a text goes wrong or ends, and whether nothing is wanted any more -/
def lr : List Tok → List Nat → List Nat × Bool
  | [], r => (r, true)
  | .sg _ :: _, [] => ([], false)
  | .sg c :: S, x :: r => if x = c then lr S r else (x :: r, false)
  | .form :: _, [] => ([], false)
  | .form :: S, x :: r =>
    if x = 40 then lr (.form :: .sg 32 :: .sg 62 :: .sg 32 :: .form :: .sg 41 :: S) r
    else if isL x then
      if x = 97 ∧ r.head? = some 108 then lr (.sg 108 :: .sg 108 :: .sg 32 :: .form :: S) r
      else if x = 110 ∧ r.head? = some 111 then lr (.sg 111 :: S) r
      else lr S r
    else (x :: r, false)
def rdOf (s : Str) : List Nat × Bool := lr [.form] (lets s)
def cl (l : List Nat) : Nat := l.count 108
theorem cl_app (x y : List Nat) : cl (x ++ y) = cl x + cl y := List.count_append
section
variable {F : FmKit} {T : Kx} {W : Om} {R : D → Om → Prop} {l : List D} {ks : List Key}
theorem tyd_non : TyD F T W .non (.type "NoneType") := fun C H O di ow x k => by
  have k : x = .non := k
  subst k
  exact .base .non
theorem tyd_lst : TyD F T W (.lst l) (.type "list") := fun C H O di ow x k => by
  obtain ⟨a, xs, e, hs, kl⟩ := k
  subst e
  exact .base (.lst (di.same _ _ hs))
theorem tyd_dct : TyD F T W (.dct ks l) (.type "dict") := fun C H O di ow x k => by
  obtain ⟨a, kvs, e, hs, _⟩ := k
  subst e
  exact .base (.dK (di.same _ _ hs))
/-- a value that is no text -/
inductive notStr : D → Prop
  | non : notStr .non
  | bl (b : Bool) : notStr (.bl b)
  | int (i : Int) : notStr (.int i)
  | tup (l : List D) : notStr (.tup l)
  | lst (l : List D) : notStr (.lst l)
  | dct (ks : List Key) (l : List D) : notStr (.dct ks l)
theorem isi_notStr {d : D} (h : notStr d) (r : R (.bl false) W) : Ca F T (rIsi T.K) [d, .vl (.ty "str")] W R := by
  cases h with
  | non => exact ca_isi (.ty "str") tyd_non (by unfold PySem.W.kitOne; first | rfl | decide +kernel) r
  | bl b => exact ca_isi (.ty "str") tyd_bl (by unfold PySem.W.kitOne; first | rfl | decide +kernel) r
  | int i => exact ca_isi (.ty "str") tyd_int (by unfold PySem.W.kitOne; first | rfl | decide +kernel) r
  | tup l => exact ca_isi (.ty "str") tyd_tup (by unfold PySem.W.kitOne; first | rfl | decide +kernel) r
  | lst l => exact ca_isi (.ty "str") tyd_lst (by unfold PySem.W.kitOne; first | rfl | decide +kernel) r
  | dct ks l => exact ca_isi (.ty "str") tyd_dct (by unfold PySem.W.kitOne; first | rfl | decide +kernel) r
end
def alls4 : Nat → List Nat
  | 0 => []
  | n + 1 => [97, 108, 108, 32] ++ alls4 n
/-- a text that may be read: few alls, or nothing but alls -/
def rdOk (s : Str) : Prop := s.length ≤ 1000000 ∧ (cl (lets s) < 128 ∨ ∃ n, n ≤ 1000 ∧ lets s = alls4 n)
end N
set_option Elab.async false
set_option linter.all false
set_option maxRecDepth 100000
set_option maxHeartbeats 1000000
namespace N
open PySem PySem.Spec PyProof.Rows L2
open C8 (Cal Met Mak InsC pe_c pe_mt pe_mt0 pe_mk)
open TL (numL numL_lt numL_step numL_digits numL_ne int_num split_join joinL tl_join join_eq tl_num)
theorem str_lets (x : Str) : x.length = (lets x).length := str_len x
/-- a number's text -/
def numS (n : Nat) : Str := Str.ofString (toString ((n : Nat) : Int))
theorem numS_lets (n : Nat) : lets (numS n) = numL n := tl_num n
theorem numL_two {n : Nat} (h : 10 ≤ n) (h2 : n < 100) : numL n = [48 + n / 10, 48 + n % 10] := by
  rw [numL_step h, numL_lt (by omega)]
  rfl
theorem numS_len {n : Nat} (h : n < 100) : (numS n).length ≤ 2 ∧ (numS n).length ≠ 0 := by
  rw [str_lets, numS_lets]
  by_cases h2 : n < 10
  · rw [numL_lt h2]
    simp
  · rw [numL_two (by omega) h]
    simp
theorem numS_dig {n c : Nat} (h : c ∈ lets (numS n)) : 48 ≤ c ∧ c ≤ 57 := by
  rw [numS_lets] at h
  exact numL_digits n c h
theorem dig_in {c : Nat} (h1 : 48 ≤ c) (h2 : c ≤ 57) : decide (c ∈ ("0123456789" : Str).cps.toList) = true := by
  have : c = 48 ∨ c = 49 ∨ c = 50 ∨ c = 51 ∨ c = 52 ∨ c = 53 ∨ c = 54 ∨ c = 55 ∨ c = 56 ∨ c = 57 := by omega
  rcases this with rfl | rfl | rfl | rfl | rfl | rfl | rfl | rfl | rfl | rfl <;> decide +kernel
/-- the word of the letters -/
def wordL (s : Str) : Str := if s = "" then "-" else s
def lineL (s : Str) (r : List Nat) : List Str := wordL s :: r.map numS
def lineS (s : Str) (r : List Nat) : Str := Txt.join " " (lineL s r)
def Wb.lines (w : Wb) : List Str := List.zipWith lineS w.atoms w.below
def Wb.text (w : Wb) : Str := Txt.join "\n" w.lines
theorem letter_no {s : Str} (h : letters s) {c : Nat} (h2 : ¬ (65 ≤ c ∧ c ≤ 122)) : c ∉ lets s := fun hc => h2 (by have := h c hc; omega)
theorem word_no {s : Str} (h : letters s) {c : Nat} (h2 : c = 32 ∨ c = 10) : c ∉ lets (wordL s) := by
  unfold wordL
  split
  · intro hc
    have hc : c ∈ [45] := hc
    simp at hc
    omega
  · exact letter_no h (by omega)
theorem num_no {n c : Nat} (h2 : c = 32 ∨ c = 10) : c ∉ lets (numS n) := fun hc => by
  have := numS_dig hc
  omega
theorem joinL_mem {S : List Nat} {c : Nat} : ∀ {ps : List (List Nat)}, c ∈ joinL S ps → c ∈ S ∨ ∃ p ∈ ps, c ∈ p
  | [], h => by cases h
  | [p], h => .inr ⟨p, List.mem_singleton.mpr rfl, h⟩
  | p :: q :: r, h => by
    have h : c ∈ p ++ (S ++ joinL S (q :: r)) := h
    rcases List.mem_append.mp h with h | h
    · exact .inr ⟨p, List.mem_cons_self, h⟩
    · rcases List.mem_append.mp h with h | h
      · exact .inl h
      · rcases joinL_mem h with h | ⟨z, hz, hc⟩
        · exact .inl h
        · exact .inr ⟨z, List.mem_cons_of_mem _ hz, hc⟩
theorem lets_join (y : Str) (ps : List Str) : lets (Txt.join y ps) = joinL (lets y) (ps.map lets) := by
  rw [join_eq]
  exact tl_join y ps
theorem line_no {s : Str} {r : List Nat} (h : letters s) : 10 ∉ lets (lineS s r) := fun hc => by
  unfold lineS at hc
  rw [lets_join] at hc
  rcases joinL_mem hc with hc | ⟨p, hp, hc⟩
  · have hc : 10 ∈ [32] := hc
    simp at hc
  · obtain ⟨q, hq, rfl⟩ := List.mem_map.mp hp
    rcases List.mem_cons.mp hq with rfl | hq
    · exact word_no h (.inr rfl) hc
    · obtain ⟨n, _, rfl⟩ := List.mem_map.mp hq
      exact num_no (.inr rfl) hc
theorem lines_len {w : Wb} (hw : w.ok) : w.lines.length = w.below.length := by
  unfold Wb.lines
  rw [List.length_zipWith, hw.len, Nat.min_self]
theorem lines_get {w : Wb} {i : Nat} {l : Str} (h : w.lines[i]? = some l) : ∃ s r, w.atoms[i]? = some s ∧ w.below[i]? = some r ∧ l = lineS s r := by
  unfold Wb.lines at h
  rw [List.getElem?_zipWith] at h
  cases h1 : w.atoms[i]? with
  | none => rw [h1] at h; cases h
  | some s =>
    cases h2 : w.below[i]? with
    | none => rw [h1, h2] at h; cases h
    | some r =>
      rw [h1, h2] at h
      exact ⟨s, r, rfl, rfl, (Option.some.inj h).symm⟩
/-- lengths -/
theorem joinL_len (S : List Nat) : ∀ (ps : List (List Nat)) (n : Nat), (∀ p ∈ ps, p.length ≤ n) → (joinL S ps).length ≤ ps.length * (n + S.length)
  | [], n, _ => by simp [joinL]
  | [p], n, h => by
    have := h p (List.mem_singleton.mpr rfl)
    show p.length ≤ _
    simp
    omega
  | p :: q :: r, n, h => by
    have h1 := h p List.mem_cons_self
    have h2 := joinL_len S (q :: r) n fun z hz => h z (List.mem_cons_of_mem _ hz)
    show (p ++ (S ++ joinL S (q :: r))).length ≤ _
    rw [List.length_append, List.length_append]
    have e : (p :: q :: r).length * (n + S.length) = (q :: r).length * (n + S.length) + (n + S.length) := by
      rw [List.length_cons, Nat.add_mul, Nat.one_mul]
    rw [e]
    omega
theorem join_len {y : Str} {ps : List Str} {n : Nat} (h : ∀ p ∈ ps, p.length ≤ n) : (Txt.join y ps).length ≤ ps.length * (n + y.length) := by
  rw [str_lets, lets_join, str_lets]
  have := joinL_len (lets y) (ps.map lets) n fun p hp => by
    obtain ⟨q, hq, rfl⟩ := List.mem_map.mp hp
    rw [← str_lets]
    exact h q hq
  rw [List.length_map] at this
  exact this
theorem sum_len {ps : List Str} {n : Nat} (h : ∀ p ∈ ps, p.length ≤ n) : (ps.map (·.length)).sum ≤ ps.length * n := by
  induction ps with
  | nil => simp
  | cons p ps ih =>
    have h1 := h p List.mem_cons_self
    have h2 := ih fun z hz => h z (List.mem_cons_of_mem _ hz)
    rw [List.map_cons, List.sum_cons, List.length_cons, Nat.add_mul, Nat.one_mul]
    omega
theorem word_len {s : Str} (h : s.length ≤ 100) : (wordL s).length ≤ 100 := by
  unfold wordL
  split
  · decide
  · exact h
structure LineOk (s : Str) (r : List Nat) : Prop where
  lets : letters s
  asc : (N.lets s).Pairwise (· < ·)
  few : r.length ≤ 63
  low : ∀ k ∈ r, k < 63
theorem LineOk.len {s : Str} {r : List Nat} (h : LineOk s r) : s.length ≤ 100 := letters_len h.lets h.asc
theorem LineOk.part {s : Str} {r : List Nat} (h : LineOk s r) : ∀ p ∈ lineL s r, p.length ≤ 100 := fun p hp => by
  rcases List.mem_cons.mp hp with rfl | hp
  · exact word_len h.len
  · obtain ⟨n, hn, rfl⟩ := List.mem_map.mp hp
    have := (numS_len (n := n) (by have := h.low n hn; omega)).1
    omega
theorem LineOk.parts {s : Str} {r : List Nat} (h : LineOk s r) : (lineL s r).length ≤ 64 := by
  have := h.few
  simp [lineL]
  omega
theorem LineOk.lenS {s : Str} {r : List Nat} (h : LineOk s r) : (lineS s r).length ≤ 6464 := by
  have h1 := join_len (y := " ") h.part
  have h2 := Nat.mul_le_mul_right (100 + (" " : Str).length) h.parts
  exact Nat.le_trans h1 (Nat.le_trans h2 (by decide))
theorem LineOk.sum {s : Str} {r : List Nat} (h : LineOk s r) : ((lineL s r).map (·.length)).sum + (lineL s r).length * (" " : Str).length ≤ 16777216 := by
  have h1 := sum_len h.part
  have h2 := h.parts
  have h3 : (" " : Str).length = 1 := rfl
  rw [h3]
  have := Nat.mul_le_mul_right 100 h2
  omega
theorem Wb.ok.line {w : Wb} (hw : w.ok) {i : Nat} {s : Str} {r : List Nat} (h1 : w.atoms[i]? = some s) (h2 : w.below[i]? = some r) : LineOk s r where
  lets := (hw.lets s (List.mem_of_getElem? h1)).1
  asc := (hw.lets s (List.mem_of_getElem? h1)).2
  few := by
    obtain ⟨a, b⟩ := hw.rows.asc i r h2
    have h3 := low_len (a.imp fun h => Nat.ne_of_lt h) b
    have := hw.rows.few
    have := (List.getElem?_eq_some_iff.mp h2).1
    omega
  low := fun k hk => by
    have h3 := (hw.rows.asc i r h2).2 k hk
    have := hw.rows.few
    have := (List.getElem?_eq_some_iff.mp h2).1
    omega
theorem lines_each {w : Wb} (hw : w.ok) : ∀ p ∈ w.lines, p.length ≤ 6464 := fun p hp => by
  obtain ⟨i, hi⟩ := List.getElem?_of_mem hp
  obtain ⟨s, r, h1, h2, rfl⟩ := lines_get hi
  exact (hw.line h1 h2).lenS
theorem lines_sum {w : Wb} (hw : w.ok) : (w.lines.map (·.length)).sum + w.lines.length * ("\n" : Str).length ≤ 16777216 := by
  have h1 := sum_len (lines_each hw)
  have h2 : w.lines.length ≤ 63 := by rw [lines_len hw]; exact hw.rows.few
  have h3 : ("\n" : Str).length = 1 := rfl
  rw [h3]
  have := Nat.mul_le_mul_right 6464 h2
  omega
section
variable {F : FmKit} {T : Kx} {W : Om} {R : D → Om → Prop}
theorem ca_strN {n : Nat} (hn : n < 1000) (r : R (.str (numS n)) W) : Ca F T (fun xs H Q => ∃ i : Int, xs = [.int i] ∧ i.natAbs.log2 < 1920 ∧ Q (.str (toString i)) H) [natD n] W R := cl_sc (xs := [.int (n : Nat)]) fun H Q k => ⟨_, rfl, by
  have : ((n : Nat) : Int).natAbs = n := rfl
  rw [this]
  have : n.log2 < 10 := by
    rcases Nat.eq_zero_or_pos n with e | e
    · rw [e]
      decide
    · exact (Nat.log2_lt (by omega)).mpr (by omega)
  omega, k _ r⟩
end
def S_lineof : FS := fun ds W post => ∃ (s : Str) (r : List Nat), ds = [rowD r, .str s] ∧ W = [] ∧ LineOk s r ∧ post (.str (lineS s r)) []
def S_strW : FS := fun ds W post => ∃ w : Wb, ds = [w.d] ∧ W = [] ∧ w.ok ∧ post (.str w.text) []
def S_text13 : FS := fun ds W post => ∃ w : Wb, ds = [pairD w] ∧ W = [] ∧ w.ok ∧ post (.str w.text) []
end N
namespace N
open PySem
theorem word_ways (s : Str) : (s = "" ∧ wordL s = "-") ∨ (s ≠ "" ∧ wordL s = s) := by
  unfold wordL
  by_cases h : s = ""
  · exact .inl ⟨h, if_pos h⟩
  · exact .inr ⟨h, if_neg h⟩
end N
namespace N
open PySem PySem.Spec PyProof.Rows L2
section
variable {F : FmKit} {T : Kx} {G : Gm} {W : Om} {R : D → Om → Prop} {ta : TE}
theorem ev_isT (h : Ev F T ta G W fun d W1 => (∃ l, d = .tup l) ∧ R (.bl false) W1) : Ev F T (tIsN ta) G W R := ev_isN (h.imp fun d W1 ⟨⟨l, e⟩, r⟩ => ⟨false, fun H v k => by
  subst e
  obtain ⟨a, xs, rfl, _⟩ := k
  rfl, r⟩)
end
end N
namespace N
theorem at_hd {α : Type} {d : α} {l : List α} : L2.atI (d :: l) 0 = some d := by
  unfold L2.atI L2.ixN
  rw [if_pos (by omega), if_pos (by simp)]
  rfl
end N
namespace N
open PySem PySem.Spec PyProof.Rows L2
theorem low_line {s : Str} {r : List Nat} (h : LineOk s r) : ∀ c ∈ lets (lineS s r), c < 200 := fun c hc => by
  unfold lineS at hc
  rw [lets_join] at hc
  rcases joinL_mem hc with hc | ⟨p, hp, hc⟩
  · have hc : c ∈ [32] := hc
    simp at hc
    omega
  · obtain ⟨q, hq, rfl⟩ := List.mem_map.mp hp
    rcases List.mem_cons.mp hq with rfl | hq
    · unfold wordL at hc
      split at hc
      · have hc : c ∈ [45] := hc
        simp at hc
        omega
      · have := h.lets c hc
        omega
    · obtain ⟨n, _, rfl⟩ := List.mem_map.mp hq
      have := numS_dig hc
      omega
end N
set_option Elab.async false
set_option linter.all false
set_option maxRecDepth 100000
set_option maxHeartbeats 1000000
namespace N
open PySem PySem.Spec PyProof.Rows L2
theorem fold_app {a : Array Nat} : ∀ (n : Nat) (acc : Array Nat), ((List.replicate n a).foldl (· ++ ·) acc).toList = acc.toList ++ (List.replicate n a.toList).flatten
  | 0, acc => by simp
  | n + 1, acc => by
    rw [List.replicate_succ, List.foldl_cons, fold_app n, List.replicate_succ, List.flatten_cons, Array.toList_append, List.append_assoc]
theorem mul_lets {x : Str} {n : Nat} (h : 2 ≤ n) (hx : (x.length == 0) = false) : lets (Txt.mul x ((n : Nat) : Int)) = (List.replicate n (lets x)).flatten := by
  unfold Txt.mul
  rw [if_neg (by omega), if_neg (by
    rw [hx, Bool.or_false, beq_iff_eq]
    omega)]
  show ((List.replicate ((n : Nat) : Int).toNat x.cps).foldl (· ++ ·) #[]).toList = _
  rw [fold_app, Int.toNat_natCast]
  rfl
end N
set_option Elab.async false
set_option linter.all false
set_option maxRecDepth 100000
set_option maxHeartbeats 1000000
namespace N
open PySem PySem.Spec PyProof.Rows L2
open TL (joinL tl_join join_eq)
/-- a text of small signs, so long, with so many l -/
structure txT (n c : Nat) (s : Str) : Prop where
  lo : ∀ x ∈ lets s, x < 200
  len : s.length ≤ n
  cl : cl (lets s) ≤ c
theorem txT.up {n c m d : Nat} {s : Str} (h : txT n c s) (h1 : n ≤ m) (h2 : c ≤ d) : txT m d s := ⟨h.lo, Nat.le_trans h.len h1, Nat.le_trans h.cl h2⟩
theorem txT.app {n c m d : Nat} {s t : Str} (h : txT n c s) (k : txT m d t) : txT (n + m) (c + d) (s ++ t) := by
  refine ⟨fun x hx => ?_, ?_, ?_⟩
  · rw [show lets (s ++ t) = lets s ++ lets t from TL.tl_append _ _] at hx
    exact (List.mem_append.mp hx).elim (h.lo x) (k.lo x)
  · rw [str_app_len]
    have := h.len
    have := k.len
    omega
  · rw [show lets (s ++ t) = lets s ++ lets t from TL.tl_append _ _, cl_app]
    have := h.cl
    have := k.cl
    omega
theorem cut_sub (s : Str) (lo hi : Option Int) : (lets (cutS s lo hi)).Sublist (lets s) := by
  unfold cutS
  exact (List.take_sublist _ _).trans (List.drop_sublist _ _)
theorem txT.cut {n c : Nat} {s : Str} (h : txT n c s) (lo hi : Option Int) : txT n c (cutS s lo hi) := by
  have hs := cut_sub s lo hi
  refine ⟨fun x hx => h.lo x (hs.subset hx), ?_, Nat.le_trans (hs.count_le _) h.cl⟩
  rw [str_len]
  refine Nat.le_trans hs.length_le ?_
  rw [← str_len]
  exact h.len
theorem txT.sg {c : Nat} (h : c < 200) : txT 1 1 (sg c) := ⟨fun x hx => by
  have hx : x ∈ [c] := hx
  rw [List.mem_singleton] at hx
  omega, Nat.le_refl _, by show [c].count 108 ≤ 1; exact Nat.le_trans (List.count_le_length) (Nat.le_refl 1)⟩
theorem cl_joinL {k : Nat} : ∀ (ps : List (List Nat)), (∀ p ∈ ps, cl p ≤ k) → cl (joinL [] ps) ≤ ps.length * k
  | [], _ => by simp [joinL, cl]
  | [p], h => by
    have := h p (List.mem_singleton.mpr rfl)
    show cl p ≤ _
    simp
    exact this
  | p :: q :: r, h => by
    have h1 := h p List.mem_cons_self
    have h2 := cl_joinL (q :: r) fun z hz => h z (List.mem_cons_of_mem _ hz)
    show cl (p ++ ([] ++ joinL [] (q :: r))) ≤ _
    rw [List.nil_append, cl_app]
    have e : (p :: q :: r).length * k = (q :: r).length * k + k := by
      rw [List.length_cons, Nat.add_mul, Nat.one_mul]
    rw [e]
    omega
theorem txT.join {n c : Nat} {ps : List Str} (h : ∀ p ∈ ps, txT n c p) : txT (ps.length * n) (ps.length * c) (Txt.join "" ps) := by
  refine ⟨fun x hx => ?_, ?_, ?_⟩
  · rw [lets_join] at hx
    rcases joinL_mem hx with hx | ⟨p, hp, hx⟩
    · cases hx
    · obtain ⟨q, hq, rfl⟩ := List.mem_map.mp hp
      exact (h q hq).lo x hx
  · exact join_len (y := "") fun p hp => (h p hp).len
  · rw [lets_join]
    have := cl_joinL (k := c) (ps.map lets) fun p hp => by
      obtain ⟨q, hq, rfl⟩ := List.mem_map.mp hp
      exact (h q hq).cl
    rw [List.length_map] at this
    exact this
theorem txT.rd {n c : Nat} {s : Str} (h : txT n c s) (hn : n ≤ 1000000) (hc : c < 128) : rdOk s := ⟨Nat.le_trans h.len hn, .inl (Nat.lt_of_le_of_lt h.cl hc)⟩
theorem sz_ht : ∀ f : Fm, f.sz + 5 ≤ 7 * 2 ^ f.ht
  | .at c => by show 1 + 5 ≤ 7 * 1; omega
  | .no => by show 2 + 5 ≤ 7 * 1; omega
  | .imp a b => by
    have h1 := sz_ht a
    have h2 := sz_ht b
    have h3 : 2 ^ a.ht ≤ 2 ^ max a.ht b.ht := Nat.pow_le_pow_right (by omega) (Nat.le_max_left _ _)
    have h4 : 2 ^ b.ht ≤ 2 ^ max a.ht b.ht := Nat.pow_le_pow_right (by omega) (Nat.le_max_right _ _)
    have h5 : 2 ^ (Fm.imp a b).ht = 2 * 2 ^ max a.ht b.ht := by
      simp only [Fm.ht]
      rw [Nat.pow_add, Nat.pow_one]
    have e : (Fm.imp a b).sz = 5 + a.sz + b.sz := rfl
    rw [e, h5]
    omega
  | .all a => by
    have h1 := sz_ht a
    have h5 : 2 ^ (Fm.all a).ht = 2 * 2 ^ a.ht := by
      simp only [Fm.ht]
      rw [Nat.pow_add, Nat.pow_one]
    have h6 : 1 ≤ 2 ^ a.ht := Nat.one_le_two_pow
    have e : (Fm.all a).sz = 4 + a.sz := rfl
    rw [e, h5]
    omega
def hw : D → Str × V
  | .vl (.str s) => if rdOf s = ([], true) then ("read", .str s) else ("bad", .int ((s.length - (rdOf s).1.length : Nat) : Int))
  | _ => ("bad", .int (-1))
def vP : V → PyData
  | .str s => .str s
  | .int i => .int i
  | _ => .none
section
variable {F : FmKit} {T : Kx} {G : Gm} {W : Om} {R : D → Om → Prop}
/-- {}, frozen at once -/
theorem ev_dnewF (h : R (.dp []) W) : Ev F T tDNewK G W R := ev_fz (ev_dnew fun p hp => ⟨p, _, W, _, rfl, List.Perm.refl _, .dct _ _, h⟩)
end
end N
set_option Elab.async false
set_option linter.all false
set_option maxRecDepth 100000
set_option maxHeartbeats 1000000
namespace N
open PySem PySem.Spec PyProof.Rows L2
open TL (numL numL_lt numL_step numL_digits numL_ne numL_val numL_len int_num split_join joinL tl_join join_eq tl_num)
def sp1 (c : Nat) : List Nat → List (List Nat)
  | [] => [[]]
  | x :: t => if x = c then [] :: sp1 c t else match sp1 c t with
    | [] => [[x]]
    | p :: r => (x :: p) :: r
theorem sp1_ne (c : Nat) : ∀ l, sp1 c l ≠ []
  | [] => by simp [sp1]
  | x :: t => by
    unfold sp1
    split
    · simp
    · cases sp1 c t <;> simp
theorem sp1_no (c : Nat) : ∀ l, ∀ p ∈ sp1 c l, c ∉ p
  | [], p, h => by
    simp only [sp1, List.mem_singleton] at h
    subst h
    simp
  | x :: t, p, h => by
    have ih := sp1_no c t
    unfold sp1 at h
    split at h
    · rcases List.mem_cons.mp h with rfl | h
      · simp
      · exact ih p h
    · next hx =>
      cases e : sp1 c t with
      | nil => exact absurd e (sp1_ne c t)
      | cons q r =>
        rw [e] at h ih
        rcases List.mem_cons.mp h with rfl | h
        · intro hc
          rcases List.mem_cons.mp hc with e2 | hc
          · exact hx e2.symm
          · exact ih q List.mem_cons_self hc
        · exact ih p (List.mem_cons_of_mem _ h)
theorem sp1_sub (c : Nat) : ∀ l, ∀ p ∈ sp1 c l, ∀ x ∈ p, x ∈ l
  | [], p, h, x, hx => by
    simp only [sp1, List.mem_singleton] at h
    subst h
    exact hx
  | y :: t, p, h, x, hx => by
    have ih := sp1_sub c t
    unfold sp1 at h
    split at h
    · rcases List.mem_cons.mp h with rfl | h
      · cases hx
      · exact List.mem_cons_of_mem _ (ih p h x hx)
    · cases e : sp1 c t with
      | nil => exact absurd e (sp1_ne c t)
      | cons q r =>
        rw [e] at h ih
        rcases List.mem_cons.mp h with rfl | h
        · rcases List.mem_cons.mp hx with rfl | hx
          · exact List.mem_cons_self
          · exact List.mem_cons_of_mem _ (ih q List.mem_cons_self x hx)
        · exact List.mem_cons_of_mem _ (ih p (List.mem_cons_of_mem _ h) x hx)
theorem sp1_glue (c : Nat) : ∀ l, joinL [c] (sp1 c l) = l
  | [] => rfl
  | x :: t => by
    have ih := sp1_glue c t
    unfold sp1
    cases e : sp1 c t with
    | nil => exact absurd e (sp1_ne c t)
    | cons q r =>
      rw [e] at ih
      by_cases hx : x = c
      · rw [if_pos hx, hx]
        show [] ++ ([c] ++ joinL [c] (q :: r)) = _
        rw [ih]
        rfl
      · rw [if_neg hx]
        show joinL [c] ((x :: q) :: r) = _
        cases r with
        | nil =>
          have ih : q = t := ih
          rw [← ih]
          rfl
        | cons z r =>
          have ih : q ++ ([c] ++ joinL [c] (z :: r)) = t := ih
          rw [← ih]
          rfl
theorem sp1_len (c : Nat) : ∀ l, (sp1 c l).length = l.count c + 1
  | [] => rfl
  | x :: t => by
    have ih := sp1_len c t
    unfold sp1
    by_cases hx : x = c
    · rw [if_pos hx, hx, List.count_cons_self, List.length_cons, ih]
    · rw [if_neg hx, List.count_cons_of_ne hx]
      cases e : sp1 c t with
      | nil => exact absurd e (sp1_ne c t)
      | cons q r =>
        rw [e] at ih
        exact ih
theorem sp1_wt (c : Nat) : ∀ l, ((sp1 c l).map (·.length + 1)).sum = l.length + 1
  | [] => rfl
  | x :: t => by
    have ih := sp1_wt c t
    unfold sp1
    cases e : sp1 c t with
    | nil => exact absurd e (sp1_ne c t)
    | cons q r =>
      rw [e] at ih
      rw [List.map_cons, List.sum_cons] at ih
      split
      · rw [List.map_cons, List.sum_cons, List.map_cons, List.sum_cons, List.length_cons]
        show 0 + 1 + _ = _
        omega
      · show ((((x :: q) :: r)).map (·.length + 1)).sum = _
        rw [List.map_cons, List.sum_cons, List.length_cons, List.length_cons]
        omega
def mkS (l : List Nat) : Str := ⟨l.toArray⟩
/-- the parts of a text between a sign -/
def cutAt (c : Nat) (s : Str) : List Str := (sp1 c (lets s)).map mkS
theorem cutAt_ne (c : Nat) (s : Str) : cutAt c s ≠ [] := fun e => sp1_ne c (lets s) (List.map_eq_nil_iff.mp e)
theorem cutAt_no {c : Nat} {s p : Str} (h : p ∈ cutAt c s) : c ∉ lets p := by
  obtain ⟨l, hl, rfl⟩ := List.mem_map.mp h
  exact sp1_no c _ l hl
theorem cutAt_sub {c : Nat} {s p : Str} (h : p ∈ cutAt c s) {x : Nat} (hx : x ∈ lets p) : x ∈ lets s := by
  obtain ⟨l, hl, rfl⟩ := List.mem_map.mp h
  exact sp1_sub c _ l hl x hx
theorem cutAt_len (c : Nat) (s : Str) : (cutAt c s).length = (lets s).count c + 1 := by rw [cutAt, List.length_map, sp1_len]
theorem cutAt_wt (c : Nat) (s : Str) : ((cutAt c s).map (·.length + 1)).sum = s.length + 1 := by
  have e := sp1_wt c (lets s)
  rw [cutAt, List.map_map, str_len s]
  exact e
theorem wt_mem {p : Str} : ∀ {ps : List Str}, p ∈ ps → p.length + 1 ≤ (ps.map (·.length + 1)).sum
  | q :: ps, h => by
    rw [List.map_cons, List.sum_cons]
    rcases List.mem_cons.mp h with rfl | h
    · omega
    · have := wt_mem h
      omega
theorem cutAt_each {c : Nat} {s p : Str} (h : p ∈ cutAt c s) : p.length ≤ s.length := by
  have e := cutAt_wt c s
  have h2 : p.length + 1 ≤ ((cutAt c s).map (·.length + 1)).sum := wt_mem h
  omega
theorem cutAt_join {y : Str} {c : Nat} (hy : lets y = [c]) (s : Str) : Txt.join y (cutAt c s) = s := by
  rw [join_eq]
  refine str_ext ?_
  show lets (Str.join y (cutAt c s)) = _
  rw [show lets (Str.join y (cutAt c s)) = joinL (lets y) ((cutAt c s).map lets) from tl_join y _, hy, cutAt, List.map_map, show (lets ∘ mkS) = id from rfl, List.map_id, sp1_glue]
theorem split_cut {y : Str} {c : Nat} (hy : lets y = [c]) (hk : y.cps.all (· < 256) = true) (s : Str) : Txt.split s y = cutAt c s := by
  have e := split_join (y := y) (s := c) (S := []) hy hk (cutAt_ne c s) fun p hp => cutAt_no hp
  rw [cutAt_join hy] at e
  exact e
theorem split_sp (s : Str) : Txt.split s " " = cutAt 32 s := split_cut rfl (by decide +kernel) s
theorem split_nl (s : Str) : Txt.split s "\n" = cutAt 10 s := split_cut rfl (by decide +kernel) s
def digL (l : List Nat) : Bool := !l.isEmpty && l.all (fun c => decide (48 ≤ c ∧ c ≤ 57)) && !(decide (1 < l.length) && decide (l.head? = some 48))
theorem dig_num : ∀ (n : Nat) (l : List Nat), l.length = n → digL l = true → numL (NumText.digitsVal l) = l := by
  intro n
  induction n with
  | zero =>
    intro l hl h
    rw [List.length_eq_zero_iff.mp hl] at h
    cases h
  | succ n ih =>
    intro l' hl h
    obtain ⟨l, c, rfl⟩ : ∃ l c, l' = l ++ [c] := ⟨l'.dropLast, l'.getLast (fun e => by rw [e] at hl; cases hl), (List.dropLast_concat_getLast _).symm⟩
    rw [List.length_append, List.length_singleton] at hl
    have ih := ih l (by omega)
    unfold digL at h
    simp only [Bool.and_eq_true, Bool.not_eq_true', List.all_append, List.all_cons, List.all_nil, decide_eq_true_eq, Bool.and_true] at h
    obtain ⟨⟨_, h2, hc⟩, h3⟩ := h
    have ev : NumText.digitsVal (l ++ [c]) = NumText.digitsVal l * 10 + (c - 48) := by
      unfold NumText.digitsVal
      rw [List.foldl_append]
      rfl
    rw [ev]
    cases l with
    | nil =>
      show numL (0 * 10 + (c - 48)) = [c]
      rw [numL_lt (by omega)]
      congr 1
      omega
    | cons a t =>
      have ha : a ≠ 48 := fun e => by
        rw [e] at h3
        simp at h3
      have hd : digL (a :: t) = true := by
        unfold digL
        simp only [Bool.and_eq_true, Bool.not_eq_true', decide_eq_true_eq]
        refine ⟨⟨rfl, h2⟩, ?_⟩
        simp [ha]
      have ih := ih hd
      have hpos : 1 ≤ NumText.digitsVal (a :: t) := by
        rcases Nat.eq_zero_or_pos (NumText.digitsVal (a :: t)) with e | e
        · rw [e, numL_lt (by omega)] at ih
          injection ih with e1 e2
          exact absurd e1.symm ha
        · exact e
      rw [numL_step (by omega), show (NumText.digitsVal (a :: t) * 10 + (c - 48)) / 10 = NumText.digitsVal (a :: t) by omega, ih, show (NumText.digitsVal (a :: t) * 10 + (c - 48)) % 10 = c - 48 by omega]
      rw [show 48 + (c - 48) = c by omega]
/-- the number that a word writes -/
def numO (s : Str) : Option Nat := if digL (lets s) = true then some (NumText.digitsVal (lets s)) else none
theorem numO_some {s : Str} {n : Nat} (h : numO s = some n) : s = numS n ∧ digL (lets s) = true := by
  unfold numO at h
  split at h
  · next hd =>
    have h := Option.some.inj h
    refine ⟨str_ext ?_, hd⟩
    show lets s = lets (numS n)
    rw [numS_lets, ← h, dig_num _ _ rfl hd]
  · cases h
theorem numO_int {s : Str} {n : Nat} (h : numO s = some n) (hl : s.length ≤ 640) : PySem.intText? s = some ((n : Nat) : Int) := by
  have e := (numO_some h).1
  rw [e]
  refine int_num ?_
  have : (numS n).length = (numL n).length := by rw [str_lets, numS_lets]
  rw [← e] at this
  omega
theorem numO_long {s : Str} {n : Nat} (h : numO s = some n) (hl : ¬ s.length < 6) : 100000 ≤ n := by
  have e := (numO_some h).1
  have : (numS n).length = (numL n).length := by rw [str_lets, numS_lets]
  rcases Nat.lt_or_ge n (10 ^ 5) with h2 | h2
  · have := numL_len (n := n) (k := 5) (by omega) h2
    rw [← e] at *
    omega
  · exact h2
def optD : Option Nat → D
  | none => .non
  | some n => natD n
/-- ascending -/
def ascB : List Nat → Bool
  | a :: b :: t => decide (a < b) && ascB (b :: t)
  | _ => true
theorem ascB_iff : ∀ l : List Nat, ascB l = true ↔ l.Pairwise (· < ·)
  | [] => by simp [ascB]
  | [a] => by simp [ascB]
  | a :: b :: t => by
    have ih := ascB_iff (b :: t)
    unfold ascB
    rw [Bool.and_eq_true, decide_eq_true_eq, ih]
    constructor
    · rintro ⟨h1, h2⟩
      refine List.pairwise_cons.mpr ⟨fun x hx => ?_, h2⟩
      rcases List.mem_cons.mp hx with rfl | hx
      · exact h1
      · exact Nat.lt_trans h1 ((List.pairwise_cons.mp h2).1 x hx)
    · intro h
      exact ⟨(List.pairwise_cons.mp h).1 b List.mem_cons_self, (List.pairwise_cons.mp h).2⟩
/-- the truth of each neighbour pair -/
def ltL : List Nat → List Nat → List Bool
  | a :: x, b :: y => decide (a < b) :: ltL x y
  | _, _ => []
theorem ltL_all : ∀ l : List Nat, (ltL (l.take (l.length - 1)) (l.drop 1)).all id = ascB l
  | [] => rfl
  | [a] => rfl
  | a :: b :: t => by
    have ih := ltL_all (b :: t)
    show (ltL (a :: (b :: t).take t.length) (b :: t)).all id = _
    have e : (b :: t).length - 1 = t.length := rfl
    rw [e] at ih
    unfold ascB
    rw [← ih]
    rfl
theorem ltL_len : ∀ (x y : List Nat), (ltL x y).length = min x.length y.length
  | [], _ => by simp [ltL]
  | _ :: _, [] => by simp [ltL]
  | a :: x, b :: y => by
    have := ltL_len x y
    simp only [ltL, List.length_cons, this]
    omega
theorem ltL_get : ∀ {x y : List Nat} {i : Nat} {a b : Nat}, x[i]? = some a → y[i]? = some b → (ltL x y)[i]? = some (decide (a < b)) := by
  intro x
  induction x with
  | nil => intro y i a b h1; simp at h1
  | cons c x ih =>
    intro y i a b h1 h2
    cases y with
    | nil => simp at h2
    | cons d y =>
      cases i with
      | zero =>
        simp at h1 h2
        subst h1 h2
        rfl
      | succ i =>
        simp at h1 h2
        exact ih h1 h2
/-- the points that words tell, below a point -/
def allO : List (Option Nat) → Option (List Nat)
  | [] => some []
  | none :: _ => none
  | some n :: t => (allO t).map (n :: ·)
def belowB (i : Nat) (os : List (Option Nat)) : Bool := match allO os with
  | none => false
  | some r => r.all (fun k => decide (k < i)) && ascB r
theorem allO_some : ∀ {os : List (Option Nat)} {r : List Nat}, allO os = some r → os = r.map some
  | [], r, h => by
    cases h
    rfl
  | none :: _, r, h => by cases h
  | some n :: t, r, h => by
    unfold allO at h
    obtain ⟨r', h', rfl⟩ := Option.map_eq_some_iff.mp h
    rw [allO_some h']
    rfl
theorem allO_map (r : List Nat) : allO (r.map some) = some r := by
  induction r with
  | nil => rfl
  | cons a t ih => simp [allO, ih]
def rowO (i : Nat) (ws : List Str) : Option (List Nat) := if belowB i (ws.map numO) = true then allO (ws.map numO) else none
theorem rowO_some {i : Nat} {ws : List Str} {r : List Nat} (h : rowO i ws = some r) : ws.map numO = r.map some ∧ r.Pairwise (· < ·) ∧ (∀ k ∈ r, k < i) ∧ ws = r.map numS := by
  unfold rowO at h
  split at h
  · next hb =>
    unfold belowB at hb
    rw [h] at hb
    simp only [Bool.and_eq_true, List.all_eq_true, decide_eq_true_eq] at hb
    have e := allO_some h
    refine ⟨e, (ascB_iff r).mp hb.2, hb.1, ?_⟩
    clear hb h
    induction ws generalizing r with
    | nil =>
      cases r with
      | nil => rfl
      | cons => cases e
    | cons w ws ih =>
      cases r with
      | nil => cases e
      | cons n r =>
        rw [List.map_cons, List.map_cons] at e
        injection e with e1 e2
        rw [List.map_cons, ← ih e2]
        exact congrArg (· :: ws) (numO_some e1).1
  · cases h
def isLB (c : Nat) : Bool := decide ((65 ≤ c ∧ c ≤ 90) ∨ (97 ≤ c ∧ c ≤ 122))
def letB (s : Str) : Bool := (lets s).all isLB && ascB (lets s)
theorem letB_iff {s : Str} : letB s = true ↔ letters s ∧ (lets s).Pairwise (· < ·) := by
  unfold letB letters isLB
  rw [Bool.and_eq_true, List.all_eq_true, ascB_iff]
  simp only [decide_eq_true_eq]
def headB (s : Str) : Bool := decide (s = "-") || (!decide (s = "") && letB s)
/-- what a line tells -/
def lineO (i : Nat) (l : Str) : Option (Str × List Nat) := match cutAt 32 l with
  | [] => none
  | w :: ws => if headB w = true then (rowO i ws).map (fun r => (if w = "-" then ("" : Str) else w, r)) else none
theorem lineO_some {i : Nat} {l : Str} {x : Str × List Nat} (h : lineO i l = some x) :
    letters x.1 ∧ (lets x.1).Pairwise (· < ·) ∧ x.2.Pairwise (· < ·) ∧ (∀ k ∈ x.2, k < i) ∧ cutAt 32 l = lineL x.1 x.2 ∧ l = lineS x.1 x.2 := by
  unfold lineO at h
  split at h
  · cases h
  · next w ws e =>
    split at h
    · next hw =>
      obtain ⟨r, hr, rfl⟩ := Option.map_eq_some_iff.mp h
      obtain ⟨_, h1, h2, h3⟩ := rowO_some hr
      have hl : letters (if w = "-" then ("" : Str) else w) ∧ (lets (if w = "-" then ("" : Str) else w)).Pairwise (· < ·) ∧ w = wordL (if w = "-" then ("" : Str) else w) := by
        by_cases hm : w = "-"
        · rw [if_pos hm]
          exact ⟨fun c (hc : c ∈ ([] : List Nat)) => absurd hc List.not_mem_nil, List.Pairwise.nil, hm⟩
        · rw [if_neg hm]
          unfold headB at hw
          rw [decide_eq_false hm, Bool.false_or, Bool.and_eq_true, Bool.not_eq_true', decide_eq_false_iff_not] at hw
          obtain ⟨a, b⟩ := letB_iff.mp hw.2
          exact ⟨a, b, (if_neg hw.1).symm⟩
      have e2 : cutAt 32 l = lineL (if w = "-" then ("" : Str) else w) r := by
        rw [e, lineL, ← hl.2.2, ← h3]
      refine ⟨hl.1, hl.2.1, h1, h2, e2, ?_⟩
      rw [lineS, ← e2]
      exact (cutAt_join (y := " ") rfl l).symm
    · cases h
/-- the place of the first line that is not as described, from 1 on; 0: there is none -/
def badAt : Nat → List Str → Nat
  | _, [] => 0
  | i, l :: ls => if (lineO i l).isSome = true then badAt (i + 1) ls else i + 1
def placeW (s : Str) : Nat := badAt 0 (cutAt 10 s)
theorem badAt_lt : ∀ (ls : List Str) (i : Nat), badAt i ls ≤ i + ls.length
  | [], i => by simp [badAt]
  | l :: ls, i => by
    have := badAt_lt ls (i + 1)
    unfold badAt
    rw [List.length_cons]
    split <;> omega
theorem badAt_good : ∀ (ls : List Str) (i : Nat), badAt i ls = 0 ↔ ∀ (j : Nat) (l : Str), ls[j]? = some l → (lineO (i + j) l).isSome = true
  | [], i => by simp [badAt]
  | l :: ls, i => by
    have ih := badAt_good ls (i + 1)
    unfold badAt
    constructor
    · intro h j x hx
      split at h
      · next hl =>
        cases j with
        | zero =>
          simp at hx
          rw [← hx]
          exact hl
        | succ j =>
          simp at hx
          have := ih.mp h j x hx
          rw [show i + (j + 1) = i + 1 + j by omega]
          exact this
      · omega
    · intro h
      rw [if_pos (by have := h 0 l rfl; rwa [Nat.add_zero] at this), ih]
      intro j x hx
      have := h (j + 1) x (by simpa using hx)
      rw [show i + 1 + j = i + (j + 1) by omega]
      exact this
theorem badAt_at : ∀ (ls : List Str) (i k : Nat), (∀ (j : Nat) (l : Str), j < k → ls[j]? = some l → (lineO (i + j) l).isSome = true) → ∀ l, ls[k]? = some l → lineO (i + k) l = none → badAt i ls = i + k + 1
  | [], _, _, _, _, h, _ => by simp at h
  | x :: ls, i, 0, _, l, h, h2 => by
    simp at h
    subst h
    unfold badAt
    rw [Nat.add_zero] at h2
    rw [h2]
    rfl
  | x :: ls, i, k + 1, h, l, h1, h2 => by
    unfold badAt
    rw [if_pos (by have := h 0 x (by omega) rfl; rwa [Nat.add_zero] at this), badAt_at ls (i + 1) k (fun j y hj hy => by
      have := h (j + 1) y (by omega) (by simpa using hy)
      rw [show i + 1 + j = i + (j + 1) by omega]
      exact this) l (by simpa using h1) (by rw [show i + 1 + k = i + (k + 1) by omega]; exact h2)]
    omega
/-- what the lines tell, read so far -/
def Rd (ls : List Str) (i : Nat) (ps : List (Str × List Nat)) : Prop := ps.length = i ∧ ∀ (j : Nat) (p : Str × List Nat), ps[j]? = some p → ∃ l, ls[j]? = some l ∧ lineO j l = some p
theorem Rd.snoc {ls : List Str} {i : Nat} {ps : List (Str × List Nat)} (h : Rd ls i ps) {l : Str} {p : Str × List Nat} (h1 : ls[i]? = some l) (h2 : lineO i l = some p) : Rd ls (i + 1) (ps ++ [p]) := by
  refine ⟨by simp [h.1], fun j q hq => ?_⟩
  rcases Nat.lt_or_ge j ps.length with hj | hj
  · rw [List.getElem?_append_left hj] at hq
    exact h.2 j q hq
  · rw [List.getElem?_append_right hj] at hq
    have : j - ps.length = 0 := by
      have := (List.getElem?_eq_some_iff.mp hq).1
      simp at this
      omega
    rw [this] at hq
    simp at hq
    subst hq
    have e : j = i := by have := h.1; omega
    subst e
    exact ⟨l, h1, h2⟩
theorem Rd.good {ls : List Str} {i : Nat} {ps : List (Str × List Nat)} (h : Rd ls i ps) (j : Nat) (l : Str) (hj : j < i) (hl : ls[j]? = some l) : (lineO (0 + j) l).isSome = true := by
  obtain ⟨l2, h1, h2⟩ := h.2 j _ (List.getElem?_eq_getElem (by have := h.1; omega))
  rw [h1] at hl
  cases hl
  rw [Nat.zero_add, h2]
  rfl
def webP14 (ps : List (Str × List Nat)) : Wb := ⟨ps.map (·.2), ps.map (·.1)⟩
theorem Rd.web {ls : List Str} {ps : List (Str × List Nat)} (h : Rd ls ls.length ps) (hne : ls ≠ []) (hf : ls.length ≤ 63) : (webP14 ps).ok ∧ (webP14 ps).lines = ls := by
  have hl : ps.length = ls.length := h.1
  constructor
  · refine ⟨⟨fun i r hr => ?_, ?_⟩, fun e => hne ?_, ?_, fun s hs => ?_⟩
    · have hr : (ps.map (·.2))[i]? = some r := hr
      rw [List.getElem?_map] at hr
      obtain ⟨p, hp, rfl⟩ := Option.map_eq_some_iff.mp hr
      obtain ⟨l, _, h2⟩ := h.2 i p hp
      have := lineO_some h2
      exact ⟨this.2.2.1, this.2.2.2.1⟩
    · show (ps.map (·.2)).length ≤ 63
      rw [List.length_map]
      omega
    · have e : ps.map (·.2) = [] := e
      rw [List.map_eq_nil_iff] at e
      rw [e] at hl
      exact List.length_eq_zero_iff.mp hl.symm
    · show (ps.map (·.1)).length = (ps.map (·.2)).length
      rw [List.length_map, List.length_map]
    · have hs : s ∈ ps.map (·.1) := hs
      obtain ⟨p, hp, rfl⟩ := List.mem_map.mp hs
      obtain ⟨i, hi⟩ := List.getElem?_of_mem hp
      obtain ⟨l, _, h2⟩ := h.2 i p hi
      have := lineO_some h2
      exact ⟨this.1, this.2.1⟩
  · refine List.ext_getElem? fun i => ?_
    unfold Wb.lines webP14
    rw [List.getElem?_zipWith, List.getElem?_map, List.getElem?_map]
    rcases Nat.lt_or_ge i ps.length with hi | hi
    · obtain ⟨l, h1, h2⟩ := h.2 i _ (List.getElem?_eq_getElem hi)
      rw [List.getElem?_eq_getElem hi, h1, (lineO_some h2).2.2.2.2.2]
      rfl
    · rw [List.getElem?_eq_none hi, List.getElem?_eq_none (by omega)]
      rfl
theorem Rd.text {s : Str} {ps : List (Str × List Nat)} (h : Rd (cutAt 10 s) (cutAt 10 s).length ps) (hf : (cutAt 10 s).length ≤ 63) : (webP14 ps).ok ∧ (webP14 ps).text = s := by
  obtain ⟨h1, h2⟩ := h.web (cutAt_ne 10 s) hf
  refine ⟨h1, ?_⟩
  rw [Wb.text, h2]
  exact cutAt_join (y := "\n") rfl s
def lawNum (s : Str) : Int := match numO s with
  | none => -1
  | some n => if s.length < 6 then (n : Int) else 1000000
def inB (i : Nat) (z : Int) : Bool := decide (0 ≤ z) && decide (z < (i : Int))
/-- the truth of each neighbour pair of integers -/
def ltI : List Int → List Int → List Bool
  | a :: x, b :: y => decide (a < b) :: ltI x y
  | _, _ => []
theorem ltI_map : ∀ (x y : List Nat), ltI (x.map fun n : Nat => ((n : Nat) : Int)) (y.map fun n : Nat => ((n : Nat) : Int)) = ltL x y
  | [], _ => by simp [ltI, ltL]
  | _ :: _, [] => by simp [ltI, ltL]
  | a :: x, b :: y => by
    rw [List.map_cons, List.map_cons, ltI, ltL, ltI_map x y]
    congr 1
    exact decide_eq_decide.mpr (by omega)
def ascI (l : List Int) : Bool := (ltI (l.take (l.length - 1)) (l.drop 1)).all id
theorem ascI_map (l : List Nat) : ascI (l.map fun n : Nat => ((n : Nat) : Int)) = ascB l := by
  unfold ascI
  rw [List.length_map, ← List.map_take, ← List.map_drop, ltI_map, ltL_all]
theorem row_law {i : Nat} (hi : i < 100000) (ws : List Str) : ((ws.map lawNum).all (inB i) && ascI (ws.map lawNum)) = (rowO i ws).isSome := by
  by_cases hall : (ws.map lawNum).all (inB i) = true
  · have : ∃ r : List Nat, ws.map numO = r.map some ∧ ws.map lawNum = r.map (fun n : Nat => ((n : Nat) : Int)) ∧ ∀ k ∈ r, k < i := by
      induction ws with
      | nil => exact ⟨[], rfl, rfl, by simp⟩
      | cons w ws ih =>
        rw [List.map_cons, List.all_cons, Bool.and_eq_true] at hall
        obtain ⟨r, h1, h2, h3⟩ := ih hall.2
        have hw := hall.1
        unfold inB at hw
        rw [Bool.and_eq_true, decide_eq_true_eq, decide_eq_true_eq] at hw
        cases e : numO w with
        | none =>
          have e2 : lawNum w = -1 := by unfold lawNum; rw [e]
          rw [e2] at hw
          omega
        | some n =>
          have e2 : lawNum w = if w.length < 6 then (n : Int) else 1000000 := by unfold lawNum; rw [e]
          split at e2
          · rw [e2] at hw
            refine ⟨n :: r, by rw [List.map_cons, List.map_cons, e, h1], by rw [List.map_cons, List.map_cons, e2, h2], fun k hk => ?_⟩
            rcases List.mem_cons.mp hk with rfl | hk
            · omega
            · exact h3 k hk
          · rw [e2] at hw
            omega
    obtain ⟨r, h1, h2, h3⟩ := this
    rw [hall, Bool.true_and, h2, ascI_map]
    have h4 : r.all (fun k => decide (k < i)) = true := List.all_eq_true.mpr fun k hk => decide_eq_true (h3 k hk)
    have h5 : belowB i (ws.map numO) = ascB r := by
      unfold belowB
      rw [h1, allO_map]
      show (_ && _) = _
      rw [h4, Bool.true_and]
    unfold rowO
    cases e : ascB r with
    | true => rw [if_pos (h5.trans e), h1, allO_map]; rfl
    | false => rw [if_neg (by rw [h5, e]; simp)]; rfl
  · have hall2 : (ws.map lawNum).all (inB i) = false := by simpa using hall
    rw [hall2, Bool.false_and]
    symm
    rw [Option.isSome_eq_false_iff, Option.isNone_iff_eq_none]
    cases e : rowO i ws with
    | none => rfl
    | some r =>
      exfalso
      obtain ⟨h1, _, h3, h4⟩ := rowO_some e
      refine hall (List.all_eq_true.mpr fun z hz => ?_)
      obtain ⟨w, hw, rfl⟩ := List.mem_map.mp hz
      have hw2 : numO w ∈ ws.map numO := List.mem_map_of_mem hw
      rw [h1] at hw2
      obtain ⟨n, hn, e2⟩ := List.mem_map.mp hw2
      have hlt := h3 n hn
      have e3 : lawNum w = if w.length < 6 then (n : Int) else 1000000 := by unfold lawNum; rw [← e2]
      rcases Decidable.em (w.length < 6) with h6 | h6
      · rw [e3, if_pos h6]
        unfold inB
        rw [Bool.and_eq_true, decide_eq_true_eq, decide_eq_true_eq]
        omega
      · have := numO_long e2.symm h6
        omega
def lineB (i : Nat) (l : Str) : Bool := (lineO i l).isSome
theorem line_law {i : Nat} (l w : Str) (ws : List Str) (hc : cutAt 32 l = w :: ws) (hi : i < 100000) : lineB i l = (headB w && ((ws.map lawNum).all (inB i) && ascI (ws.map lawNum))) := by
  rw [row_law hi]
  unfold lineB lineO
  rw [hc]
  dsimp only
  cases headB w
  · rfl
  · rw [if_pos rfl, Option.isSome_map, Bool.true_and]
/-- the places of the lines that are not as described -/
def wrongs : Nat → List Str → List Nat
  | _, [] => []
  | i, l :: ls => if lineB i l = true then wrongs (i + 1) ls else (i + 1) :: wrongs (i + 1) ls
theorem wrongs_bad : ∀ (ls : List Str) (i : Nat), badAt i ls = (wrongs i ls).headD 0
  | [], _ => rfl
  | l :: ls, i => by
    unfold badAt wrongs lineB
    split
    · exact wrongs_bad ls (i + 1)
    · rfl
structure txN (n c : Nat) (s : Str) : Prop where
  lo : ∀ x ∈ lets s, x < 200
  len : s.length ≤ n
  cl : (lets s).count 10 ≤ c
theorem txN.up {n c m d : Nat} {s : Str} (h : txN n c s) (h1 : n ≤ m) (h2 : c ≤ d) : txN m d s := ⟨h.lo, Nat.le_trans h.len h1, Nat.le_trans h.cl h2⟩
theorem lets_app (s t : Str) : lets (s ++ t) = lets s ++ lets t := TL.tl_append _ _
theorem txN.app {n c m d : Nat} {s t : Str} (h : txN n c s) (k : txN m d t) : txN (n + m) (c + d) (s ++ t) := by
  refine ⟨fun x hx => ?_, ?_, ?_⟩
  · rw [lets_app] at hx
    exact (List.mem_append.mp hx).elim (h.lo x) (k.lo x)
  · rw [str_app_len]
    have := h.len
    have := k.len
    omega
  · rw [lets_app, List.count_append]
    have := h.cl
    have := k.cl
    omega
theorem txN.cut {n c : Nat} {s : Str} (h : txN n c s) (lo hi : Option Int) : txN n c (cutS s lo hi) := by
  have hs := cut_sub s lo hi
  refine ⟨fun x hx => h.lo x (hs.subset hx), ?_, Nat.le_trans (hs.count_le _) h.cl⟩
  rw [str_len]
  refine Nat.le_trans hs.length_le ?_
  rw [← str_len]
  exact h.len
/-- lists of texts: what they weigh -/
def wtS (ls : List Str) : Nat := (ls.map (·.length + 1)).sum
theorem wt_nil : wtS [] = 0 := rfl
theorem wt_cons (x : Str) (l : List Str) : wtS (x :: l) = x.length + 1 + wtS l := by simp [wtS]
theorem wt_app (l m : List Str) : wtS (l ++ m) = wtS l + wtS m := by simp [wtS]
theorem wt_set : ∀ {l : List Str} {i : Nat} {a : Str} (b : Str), l[i]? = some a → wtS (l.set i b) + (a.length + 1) = wtS l + (b.length + 1)
  | x :: l, 0, a, b, h => by
    simp at h
    subst h
    rw [List.set_cons_zero, wt_cons, wt_cons]
    omega
  | x :: l, i + 1, a, b, h => by
    simp at h
    have := wt_set b h
    rw [List.set_cons_succ, wt_cons, wt_cons]
    omega
theorem wt_cut {l : List Str} {i : Nat} {a : Str} (h : l[i]? = some a) : wtS (l.take i) + (a.length + 1) + wtS (l.drop (i + 1)) = wtS l := by
  have e : l = l.take i ++ a :: l.drop (i + 1) := by
    obtain ⟨h1, h2⟩ := List.getElem?_eq_some_iff.mp h
    rw [← h2, List.getElem_cons_drop, List.take_append_drop]
  conv => rhs; rw [e]
  rw [wt_app, wt_cons]
  omega
structure lsW (n : Nat) (ls : List Str) : Prop where
  lo : ∀ p ∈ ls, ∀ x ∈ lets p, x < 200
  no : ∀ p ∈ ls, 10 ∉ lets p
  wt : wtS ls ≤ n
theorem lsW.each {n : Nat} {ls : List Str} (h : lsW n ls) {p : Str} (hp : p ∈ ls) : p.length + 1 ≤ n := Nat.le_trans (wt_mem hp) h.wt
theorem lsW.up {n m : Nat} {ls : List Str} (h : lsW n ls) (h1 : n ≤ m) : lsW m ls := ⟨h.lo, h.no, Nat.le_trans h.wt h1⟩
theorem wt_ge (l : List Str) : l.length ≤ wtS l := by
  induction l with
  | nil => simp [wtS]
  | cons x l ih =>
    rw [wt_cons, List.length_cons]
    omega
theorem lsW.few {n : Nat} {ls : List Str} (h : lsW n ls) : ls.length ≤ n := Nat.le_trans (wt_ge ls) h.wt
/-- a word of a menu -/
def okM (p : Str) : Bool := (lets p).all (fun x => decide (x < 200)) && !(lets p).contains 10 && decide (p.length ≤ 20)
theorem okM_ok {p : Str} (h : okM p = true) : (∀ x ∈ lets p, x < 200) ∧ 10 ∉ lets p ∧ p.length ≤ 20 := by
  unfold okM at h
  simp only [Bool.and_eq_true, List.all_eq_true, decide_eq_true_eq, Bool.not_eq_true', List.contains_eq_mem, decide_eq_false_iff_not] at h
  exact ⟨h.1.1, h.1.2, h.2⟩
theorem lsW.erase {n : Nat} {ls : List Str} (h : lsW n ls) (i : Nat) : lsW n (ls.eraseIdx i) := by
  refine ⟨fun p hp => h.lo p (List.mem_of_mem_eraseIdx hp), fun p hp => h.no p (List.mem_of_mem_eraseIdx hp), ?_⟩
  have : ∀ (l : List Str) (i : Nat), wtS (l.eraseIdx i) ≤ wtS l := by
    intro l
    induction l with
    | nil => intro i; simp
    | cons x l ih =>
      intro i
      cases i with
      | zero => rw [List.eraseIdx_cons_zero, wt_cons]; omega
      | succ i =>
        rw [List.eraseIdx_cons_succ, wt_cons, wt_cons]
        have := ih i
        omega
  exact Nat.le_trans (this ls i) h.wt
theorem lsW.ins {n m : Nat} {ls : List Str} (h : lsW n ls) (i : Nat) {x : Str} (h1 : ∀ c ∈ lets x, c < 200) (h2 : 10 ∉ lets x) (h3 : x.length + 1 ≤ m) : lsW (n + m) (ls.take i ++ [x] ++ ls.drop i) := by
  have hm : ∀ {p : Str}, p ∈ ls.take i ++ [x] ++ ls.drop i → p = x ∨ p ∈ ls := fun {p} hp => by
    rcases List.mem_append.mp hp with hp | hp
    · rcases List.mem_append.mp hp with hp | hp
      · exact .inr (List.mem_of_mem_take hp)
      · exact .inl (List.mem_singleton.mp hp)
    · exact .inr (List.mem_of_mem_drop hp)
  refine ⟨fun p hp => (hm hp).elim (fun e => e ▸ h1) (h.lo p), fun p hp => (hm hp).elim (fun e => e ▸ h2) (h.no p), ?_⟩
  have e : N.wtS ls = N.wtS (ls.take i) + N.wtS (ls.drop i) := by rw [← wt_app, List.take_append_drop]
  have := h.wt
  rw [wt_app, wt_app, wt_cons, wt_nil]
  omega
theorem lsW.set {n m : Nat} {ls : List Str} (h : lsW n ls) {i : Nat} (hi : i < ls.length) {x : Str} (h1 : ∀ c ∈ lets x, c < 200) (h2 : 10 ∉ lets x) (h3 : x.length + 1 ≤ m) : lsW (n + m) (ls.set i x) := by
  refine ⟨fun p hp => (List.mem_or_eq_of_mem_set hp).elim (h.lo p) (fun e => e ▸ h1), fun p hp => (List.mem_or_eq_of_mem_set hp).elim (h.no p) (fun e => e ▸ h2), ?_⟩
  have := wt_set x (List.getElem?_eq_getElem hi)
  have := h.wt
  omega
theorem lsW.swap {n : Nat} {ls : List Str} (h : lsW n ls) {i j : Nat} {a b : Str} (hi : ls[i]? = some a) (hj : ls[j]? = some b) : lsW n ((ls.set i b).set j a) := by
  have ha := List.mem_of_getElem? hi
  have hb := List.mem_of_getElem? hj
  refine ⟨fun p hp => ?_, fun p hp => ?_, ?_⟩
  · rcases List.mem_or_eq_of_mem_set hp with hp | e
    · exact (List.mem_or_eq_of_mem_set hp).elim (h.lo p) fun e => e ▸ h.lo b hb
    · exact e ▸ h.lo a ha
  · rcases List.mem_or_eq_of_mem_set hp with hp | e
    · exact (List.mem_or_eq_of_mem_set hp).elim (h.no p) fun e => e ▸ h.no b hb
    · exact e ▸ h.no a ha
  · have e1 := wt_set b hi
    have hb2 : (ls.set i b)[j]? = some b := by
      by_cases e : i = j
      · subst e
        rw [List.getElem?_set_self (List.getElem?_eq_some_iff.mp hi).1]
      · rw [List.getElem?_set_ne e, hj]
    have e2 := wt_set a hb2
    have := h.wt
    omega
theorem joinL_wt (c : Nat) : ∀ (ps : List (List Nat)), ps ≠ [] → (joinL [c] ps).length + 1 = (ps.map (·.length + 1)).sum
  | [], h => absurd rfl h
  | [p], _ => by simp [joinL]
  | p :: q :: r, _ => by
    have ih := joinL_wt c (q :: r) (by simp)
    show (p ++ ([c] ++ joinL [c] (q :: r))).length + 1 = _
    rw [List.map_cons, List.sum_cons, ← ih]
    simp
    omega
theorem joinL_cl (c : Nat) : ∀ (ps : List (List Nat)), (∀ p ∈ ps, 10 ∉ p) → (joinL [c] ps).count 10 ≤ if c = 10 then ps.length - 1 else 0
  | [], _ => by simp [joinL]
  | [p], h => by
    have := List.count_eq_zero.mpr (h p (List.mem_singleton.mpr rfl))
    show p.count 10 ≤ _
    omega
  | p :: q :: r, h => by
    have ih := joinL_cl c (q :: r) fun z hz => h z (List.mem_cons_of_mem _ hz)
    have := List.count_eq_zero.mpr (h p List.mem_cons_self)
    show (p ++ ([c] ++ joinL [c] (q :: r))).count 10 ≤ _
    rw [List.count_append, this, List.count_append]
    split at ih
    · next e =>
      rw [if_pos e]
      have e3 : ([c] : List Nat).count 10 ≤ 1 := List.count_le_length
      simp only [List.length_cons] at ih ⊢
      omega
    · next e =>
      rw [if_neg e]
      have : ([c] : List Nat).count 10 = 0 := List.count_eq_zero.mpr (by simp; exact fun h => e h.symm)
      omega
theorem lsW.join {n : Nat} {ls : List Str} {y : Str} {c : Nat} (h : lsW n ls) (hy : lets y = [c]) (hc : c < 200) (hn : ls ≠ []) : txN (n - 1) (if c = 10 then ls.length - 1 else 0) (Txt.join y ls) := by
  have e : lets (Txt.join y ls) = joinL [c] (ls.map lets) := by rw [lets_join, hy]
  refine ⟨fun x hx => ?_, ?_, ?_⟩
  · rw [e] at hx
    rcases joinL_mem hx with hx | ⟨p, hp, hx⟩
    · rw [List.mem_singleton] at hx
      omega
    · obtain ⟨q, hq, rfl⟩ := List.mem_map.mp hp
      exact h.lo q hq x hx
  · have := joinL_wt c (ls.map lets) (by simpa using hn)
    rw [str_lets, e]
    have e2 : ((ls.map lets).map (·.length + 1)).sum = wtS ls := by
      rw [List.map_map]
      rfl
    have := h.wt
    omega
  · rw [e]
    have := joinL_cl c (ls.map lets) fun p hp => by
      obtain ⟨q, hq, rfl⟩ := List.mem_map.mp hp
      exact h.no q hq
    rw [List.length_map] at this
    exact this
theorem txN.lines {n c : Nat} {s : Str} (h : txN n c s) : lsW (n + 1) (cutAt 10 s) ∧ (cutAt 10 s).length ≤ c + 1 := by
  refine ⟨⟨fun p hp x hx => h.lo x (cutAt_sub hp hx), fun p hp => cutAt_no hp, ?_⟩, ?_⟩
  · show ((cutAt 10 s).map _).sum ≤ _
    rw [cutAt_wt]
    have := h.len
    omega
  · rw [cutAt_len]
    have := h.cl
    omega
theorem lsW.words {n : Nat} {ls : List Str} (h : lsW n ls) {l : Str} (hl : l ∈ ls) : lsW (l.length + 1) (cutAt 32 l) := by
  refine ⟨fun p hp x hx => h.lo l hl x (cutAt_sub hp hx), fun p hp hx => h.no l hl (cutAt_sub hp hx), ?_⟩
  show ((cutAt 32 l).map _).sum ≤ _
  rw [cutAt_wt]
  exact Nat.le_refl _
def okN (n c : Nat) (s : Str) : Bool := (lets s).all (fun x => decide (x < 200)) && decide (s.length ≤ n) && decide ((lets s).count 10 ≤ c)
theorem okN_ok {n c : Nat} {s : Str} (h : okN n c s = true) : txN n c s := by
  unfold okN at h
  simp only [Bool.and_eq_true, List.all_eq_true, decide_eq_true_eq] at h
  exact ⟨h.1.1, h.1.2, h.2⟩
theorem txN.sg {c : Nat} (h : c < 200) : txN 1 1 (sg c) := ⟨fun x hx => by
  have hx : x ∈ [c] := hx
  rw [List.mem_singleton] at hx
  omega, Nat.le_refl _, by show [c].count 10 ≤ 1; exact Nat.le_trans (List.count_le_length) (Nat.le_refl 1)⟩
theorem fltE (es : List (Bool × D)) : ((es.filter (·.1)).map (·.2)).isEmpty = es.all (fun e => !e.1) := by
  induction es with
  | nil => rfl
  | cons e es ih =>
    obtain ⟨b, d⟩ := e
    cases b with
    | true => simp
    | false =>
      rw [List.filter_cons_of_neg (by simp), ih]
      simp
theorem ltI_len : ∀ (x y : List Int), (ltI x y).length = min x.length y.length
  | [], _ => by simp [ltI]
  | _ :: _, [] => by simp [ltI]
  | a :: x, b :: y => by
    have := ltI_len x y
    simp only [ltI, List.length_cons, this]
    omega
theorem ltI_get : ∀ {x y : List Int} {i : Nat} {a b : Int}, x[i]? = some a → y[i]? = some b → (ltI x y)[i]? = some (decide (a < b)) := by
  intro x
  induction x with
  | nil => intro y i a b h1; simp at h1
  | cons c x ih =>
    intro y i a b h1 h2
    cases y with
    | nil => simp at h2
    | cons d y =>
      cases i with
      | zero =>
        simp at h1 h2
        subst h1 h2
        rfl
      | succ i =>
        simp at h1 h2
        exact ih h1 h2
def ltE (bs : List Bool) : List (Bool × D) := bs.map fun b => (!b, D.int 1)
theorem ltE_all (bs : List Bool) : ((((ltE bs).filter (·.1)).map (·.2)).isEmpty) = bs.all id := by
  rw [fltE, ltE, List.all_map]
  congr 1
  funext b
  cases b <;> rfl
def dgE (s : Str) : List (Bool × D) := (lets s).map fun c => (!decide (48 ≤ c ∧ c ≤ 57), D.str ⟨#[c]⟩)
theorem dgE_all (s : Str) : (((dgE s).filter (·.1)).map (·.2)).isEmpty = (lets s).all fun c => decide (48 ≤ c ∧ c ≤ 57) := by
  rw [fltE, dgE, List.all_map]
  congr 1
  funext c
  exact Bool.not_not _
def lsE (s : Str) : List (Bool × D) := (lets s).map fun c => (!isLB c, D.str ⟨#[c]⟩)
theorem lsE_all (s : Str) : (((lsE s).filter (·.1)).map (·.2)).isEmpty = (lets s).all isLB := by
  rw [fltE, lsE, List.all_map]
  congr 1
  funext c
  exact Bool.not_not _
def inE (i : Nat) (zs : List Int) : List (Bool × D) := zs.map fun z => (!inB i z, D.int z)
theorem inE_all (i : Nat) (zs : List Int) : (((inE i zs).filter (·.1)).map (·.2)).isEmpty = zs.all (inB i) := by
  rw [fltE, inE, List.all_map]
  congr 1
  funext c
  exact Bool.not_not _
def wrE (n : Nat) (ls : List Str) : List (Bool × D) := (ls.zipIdx n).map fun x => (!lineB x.2 x.1, natD (x.2 + 1))
theorem wrE_flt : ∀ (ls : List Str) (n : Nat), ((wrE n ls).filter (·.1)).map (·.2) = (wrongs n ls).map natD
  | [], n => rfl
  | l :: ls, n => by
    have ih := wrE_flt ls (n + 1)
    unfold wrE wrongs
    rw [List.zipIdx_cons, List.map_cons]
    cases e : lineB n l with
    | true =>
      rw [List.filter_cons_of_neg (by simp [e]), if_pos rfl]
      exact ih
    | false =>
      rw [List.filter_cons_of_pos (by simp [e]), if_neg (by simp), List.map_cons, List.map_cons]
      exact congrArg _ ih
theorem wrE_get {ls : List Str} {i : Nat} {l : Str} (h : ls[i]? = some l) : (wrE 0 ls)[i]? = some (!lineB i l, natD (i + 1)) := by
  unfold wrE
  rw [List.getElem?_map, List.getElem?_zipIdx, h]
  simp
theorem wrE_len (n : Nat) (ls : List Str) : (wrE n ls).length = ls.length := by
  rw [wrE, List.length_map, List.length_zipIdx]
theorem sig_dec (c : Nat) : decide (c ∈ ("ABCDEFGHIJKLMNOPQRSTUVWXYZabcdefghijklmnopqrstuvwxyz" : Str).cps.toList) = isLB c := by
  unfold isLB
  refine decide_eq_decide.mpr ?_
  have e1 : ("ABCDEFGHIJKLMNOPQRSTUVWXYZabcdefghijklmnopqrstuvwxyz" : Str).cps.toList = [65, 66, 67, 68, 69, 70, 71, 72, 73, 74, 75, 76, 77, 78, 79, 80, 81, 82, 83, 84, 85, 86, 87, 88, 89, 90, 97, 98, 99, 100, 101, 102, 103, 104, 105, 106, 107, 108, 109, 110, 111, 112, 113, 114, 115, 116, 117, 118, 119, 120, 121, 122] := by decide +kernel
  rw [e1]
  simp only [List.mem_cons, List.not_mem_nil, or_false]
  omega
theorem headB_empty : headB "" = false := rfl
theorem lawNum_none {s : Str} (h : numO s = none) : lawNum s = -1 := by
  unfold lawNum
  rw [h]
theorem lawNum_short {s : Str} {n : Nat} (h : numO s = some n) (hl : s.length < 6) : lawNum s = (n : Int) := by
  unfold lawNum
  rw [h]
  exact if_pos hl
theorem lawNum_long {s : Str} {n : Nat} (h : numO s = some n) (hl : ¬ s.length < 6) : lawNum s = 1000000 := by
  unfold lawNum
  rw [h]
  exact if_neg hl
end N
set_option Elab.async false
set_option linter.all false
set_option maxRecDepth 100000
namespace N
open PySem L2
section
variable {F : FmKit} {T : Kx} {C H H' O O' : Hp} {G : Gm} {W W' W1 W2 : Om} {σ : St} {R : D → Om → Prop}
theorem bo_notInSg {c : Nat} {z : Str} (r : R (.bl (!decide (c ∈ z.cps.toList))) W) : Bo F T (fun x y H Q => ∃ (c : Nat) (z : Str), x = .str ⟨#[c]⟩ ∧ y = .str z ∧ Q (.bl (!decide (c ∈ z.cps.toList))) H) (.str (sg c)) (.str z) W R := op_sc fun H Q k => ⟨c, z, rfl, rfl, k _ r⟩
end
end N
set_option Elab.async false
set_option linter.all false
set_option maxRecDepth 100000
set_option maxHeartbeats 1000000
namespace N
open PySem PySem.Spec PyProof.Rows L2
def rInsAt : V → List V → Hp → VK → Prop := fun x vs H Q => ∃ (l : Addr) (xs : List V) (i : Int) (y : V), x = .ref l ∧ vs = [.int i, y] ∧ H l = some (.lst xs) ∧ xs.length < sizeLine ∧ 0 ≤ i ∧ i < 2 ^ 63 ∧
    Q .non (upd H l (.lst (xs.take i.toNat ++ [y] ++ xs.drop i.toNat)))
theorem mt_insAt {X : Cx} : MtR X "list.insert" rInsAt := mt_insert
theorem seqIx_nat {k n : Nat} (h : k < n) : seqIndex? (k : Nat) n = some k := by
  unfold seqIndex?
  first
  | (rw [if_neg (by omega), if_pos (by omega)]; simp; done)
  | (simp; omega)
section
variable {F : FmKit} {T : Kx} {G : Gm} {W : Om} {R : D → Om → Prop} {tr : TA}
theorem ev_popAt {to : TE} (h : Ev F T to G W fun d W0 => ∃ a l0 W01 W02, d = .adr a ∧ W0 = W01 ++ (a, .lst l0) :: W02 ∧ EvA F T tr G W0 fun ds W' => ∃ l W1 W2 k z, W' = W1 ++ (a, .lst l) :: W2 ∧ ds = [natD k] ∧ l.length < 2 ^ 62 ∧ l[k]? = some z ∧ R z (W1 ++ (a, .lst (l.eraseIdx k)) :: W2)) :
    Ev F T (tBM T.K "list" rPopAt to tr) G W R := ev_bm (h.imp fun d W0 ⟨a, l0, W01, W02, e1, e2, ha⟩ => by
  subst e1
  refine ⟨fun C H O di oc ow x kx => ?_, ?_⟩
  · have kx : x = .ref a := kx
    subst kx e2
    obtain ⟨xs, e, _⟩ := own_lst ow
    exact .inl ⟨rfl, xs, SqL.of (ov_own e)⟩
  · refine fun C H O σ w Q q => ha C H O σ w Q fun ds W' H' O' vs ⟨l, W1, W2, k, z, e3, e4, hn, hl, r⟩ n kd => q ds W' H' O' vs ?_ n kd
    subst e3 e4
    intro C H O di oc ow x vs kx kv Q q
    have kx : x = .ref a := kx
    obtain ⟨v, r', ev, k1, er⟩ := kv
    have er : r' = [] := er
    have k1 : v = .int (k : Nat) := k1
    subst kx ev er k1
    obtain ⟨xs, e, kl⟩ := own_lst ow
    obtain ⟨u, hu, ku⟩ := kl.get hl
    have hk := (List.getElem?_eq_some_iff.mp hl).1
    have hlen := kl.len
    refine ⟨a, xs, _, k, u, rfl, rfl, ov_own e, by omega, by omega, seqIx_nat (by omega), hu, ?_⟩
    obtain ⟨n2, e2⟩ := (Nx.refl di oc ow).write (o := .lst (xs.eraseIdx k)) (od2 := .lst (l.eraseIdx k)) ⟨_, rfl, by rw [List.eraseIdx_eq_take_drop_succ, List.eraseIdx_eq_take_drop_succ]; exact (DenL.take k kl).app (DenL.drop (k + 1) kl)⟩
    rw [e2]
    exact q z _ _ _ _ r n2 ku)
theorem ev_insAt {to : TE} (h : Ev F T to G W fun d W0 => ∃ a l0 W01 W02, d = .adr a ∧ W0 = W01 ++ (a, .lst l0) :: W02 ∧ EvA F T tr G W0 fun ds W' => ∃ l W1 W2 k z, W' = W1 ++ (a, .lst l) :: W2 ∧ ds = [natD k, z] ∧ k < 2 ^ 62 ∧ l.length < sizeLine ∧ R .non (W1 ++ (a, .lst (l.take k ++ [z] ++ l.drop k)) :: W2)) :
    Ev F T (tBM T.K "list" rInsAt to tr) G W R := ev_bm (h.imp fun d W0 ⟨a, l0, W01, W02, e1, e2, ha⟩ => by
  subst e1
  refine ⟨fun C H O di oc ow x kx => ?_, ?_⟩
  · have kx : x = .ref a := kx
    subst kx e2
    obtain ⟨xs, e, _⟩ := own_lst ow
    exact .inl ⟨rfl, xs, SqL.of (ov_own e)⟩
  · refine fun C H O σ w Q q => ha C H O σ w Q fun ds W' H' O' vs ⟨l, W1, W2, k, z, e3, e4, hk, hl, r⟩ n kd => q ds W' H' O' vs ?_ n kd
    subst e3 e4
    intro C H O di oc ow x vs kx kv Q q
    have kx : x = .ref a := kx
    obtain ⟨v, r', ev, k1, v2, r2, ev2, k2, er⟩ := kv
    have er : r2 = [] := er
    have k1 : v = .int (k : Nat) := k1
    subst kx er ev2 ev k1
    obtain ⟨xs, e, kl⟩ := own_lst ow
    refine ⟨a, xs, _, v2, rfl, rfl, ov_own e, by rw [kl.len]; exact hl, by omega, by omega, ?_⟩
    rw [Int.toNat_natCast]
    obtain ⟨n2, e2⟩ := (Nx.refl di oc ow).write (o := .lst (xs.take k ++ [v2] ++ xs.drop k)) (od2 := .lst (l.take k ++ [z] ++ l.drop k)) ⟨_, rfl, ((DenL.take k kl).app (.one k2)).app (DenL.drop k kl)⟩
    rw [e2]
    exact q .non _ _ _ _ r n2 rfl)
end
end N
set_option Elab.async false
set_option linter.all false
set_option maxRecDepth 100000
set_option maxHeartbeats 1000000
namespace N
open PySem PySem.Spec PyProof.Rows L2
section
variable {F : FmKit} {T : Kx} {W : Om} {R : D → Om → Prop}
theorem isi_nonI (r : R (.bl false) W) : Ca F T (rIsi T.K) [.non, .vl (.ty "int")] W R := ca_isi (.ty "int") tyd_non (by unfold PySem.W.kitOne; first | rfl | decide +kernel) r
end
theorem dig_dec (c : Nat) : decide (c ∈ ("0123456789" : Str).cps.toList) = decide (48 ≤ c ∧ c ≤ 57) := by
  by_cases h : 48 ≤ c ∧ c ≤ 57
  · rw [dig_in h.1 h.2, decide_eq_true h]
  · rw [decide_eq_false h, decide_eq_false_iff_not]
    intro hc
    have hc : c ∈ [48, 49, 50, 51, 52, 53, 54, 55, 56, 57] := hc
    simp only [List.mem_cons, List.not_mem_nil, or_false] at hc
    omega
def dgL (s : Str) : List Bool := (lets s).map fun c => decide (48 ≤ c ∧ c ≤ 57)
theorem dgL_all (s : Str) : (dgL s).all id = (lets s).all (fun c => decide (48 ≤ c ∧ c ≤ 57)) := by
  unfold dgL
  rw [List.all_map]
  rfl
theorem numO_empty : numO "" = none := rfl
theorem numO_bad {s : Str} (h : (dgL s).all id = false) : numO s = none := by
  rw [dgL_all] at h
  unfold numO digL
  rw [h]
  simp
theorem numO_zero {s : Str} (h1 : 1 < (lets s).length) (h2 : (lets s).head? = some 48) : numO s = none := by
  unfold numO digL
  rw [decide_eq_true h1, decide_eq_true h2]
  simp
theorem numO_ok {s : Str} (h0 : s ≠ "") (h : (dgL s).all id = true) (h2 : ¬ (1 < (lets s).length ∧ (lets s).head? = some 48)) : numO s = some (NumText.digitsVal (lets s)) := by
  rw [dgL_all] at h
  unfold numO
  rw [if_pos]
  unfold digL
  have h3 : (lets s).isEmpty = false := by
    cases e : lets s with
    | nil => exact absurd (str_ext (e.trans rfl)) h0
    | cons => rfl
  rw [h3, h]
  by_cases a : 1 < (lets s).length
  · rw [decide_eq_false (fun b => h2 ⟨a, b⟩)]
    simp
  · rw [decide_eq_false a]
    simp
theorem at_head {l : List Nat} {c : Nat} (h : l.head? = some c) : atI l 0 = some c := by
  cases l with
  | nil => cases h
  | cons a t =>
    cases h
    exact at_hd
theorem belowB_bad {i j : Nat} {os : List (Option Nat)} {o : Option Nat} (h : os[j]? = some o) (h2 : ∀ n, o = some n → ¬ n < i) : belowB i os = false := by
  unfold belowB
  cases e : allO os with
  | none => rfl
  | some r =>
    have e2 := allO_some e
    rw [e2, List.getElem?_map] at h
    obtain ⟨n, hn, rfl⟩ := Option.map_eq_some_iff.mp h
    have : r.all (fun k => decide (k < i)) = false := by
      rw [Bool.eq_false_iff]
      intro h3
      exact h2 n rfl (of_decide_eq_true (List.all_eq_true.mp h3 n (List.mem_of_getElem? hn)))
    dsimp only
    rw [this, Bool.false_and]
/-- all that went by are points below -/
def goodO (i : Nat) (os : List (Option Nat)) : Prop := ∀ o ∈ os, ∃ n, o = some n ∧ n < i
theorem goodO.all {i : Nat} {os : List (Option Nat)} (h : goodO i os) : ∃ r : List Nat, os = r.map some ∧ belowB i os = ascB r := by
  have : ∃ r : List Nat, os = r.map some ∧ ∀ k ∈ r, k < i := by
    induction os with
    | nil => exact ⟨[], rfl, by simp⟩
    | cons o os ih =>
      obtain ⟨r, h1, h2⟩ := ih fun x hx => h x (List.mem_cons_of_mem _ hx)
      obtain ⟨n, rfl, h3⟩ := h o List.mem_cons_self
      refine ⟨n :: r, by rw [List.map_cons, h1], fun k hk => ?_⟩
      rcases List.mem_cons.mp hk with rfl | hk
      · exact h3
      · exact h2 k hk
  obtain ⟨r, h1, h2⟩ := this
  refine ⟨r, h1, ?_⟩
  unfold belowB
  rw [h1, allO_map]
  dsimp only
  rw [show r.all (fun k => decide (k < i)) = true from List.all_eq_true.mpr fun k hk => decide_eq_true (h2 k hk), Bool.true_and]
theorem goodO.take {i j : Nat} {os : List (Option Nat)} {n : Nat} (h : goodO i (os.take j)) (h1 : os[j]? = some (some n)) (h2 : n < i) : goodO i (os.take (j + 1)) := by
  rw [List.take_add_one, h1]
  intro o ho
  rcases List.mem_append.mp ho with ho | ho
  · exact h o ho
  · simp at ho
    exact ⟨n, ho, h2⟩
theorem optD_row (r : List Nat) : (r.map some).map optD = r.map natD := by rw [List.map_map]; rfl
theorem ascB_of {l : List Nat} (h : l.Pairwise (· < ·)) : ascB l = true := (ascB_iff l).mpr h
theorem belowB_row {i : Nat} {r : List Nat} (h : r.Pairwise (· < ·)) (h2 : ∀ k ∈ r, k < i) : belowB i (r.map some) = true := by
  unfold belowB
  rw [allO_map]
  dsimp only
  rw [ascB_of h, Bool.and_true]
  exact List.all_eq_true.mpr fun k hk => decide_eq_true (h2 k hk)
def ptsD (x : Option (List Nat)) : D := match x with
  | some r => rowD r
  | none => .non
theorem rowO_no {i : Nat} {ws : List Str} (h : belowB i (ws.map numO) = false) : rowO i ws = none := by
  unfold rowO
  rw [if_neg (by rw [h]; simp)]
theorem rowO_yes {i : Nat} {ws : List Str} (h : belowB i (ws.map numO) = true) : ∃ r, rowO i ws = some r ∧ (ws.map numO).map optD = r.map natD := by
  cases e : allO (ws.map numO) with
  | none =>
    unfold belowB at h
    rw [e] at h
    cases h
  | some r =>
    refine ⟨r, by unfold rowO; rw [if_pos h, e], ?_⟩
    rw [allO_some e, optD_row]
def isLs (s : Str) : List Bool := (lets s).map isLB
theorem isLs_all (s : Str) : (isLs s).all id = (lets s).all isLB := by
  unfold isLs
  rw [List.all_map]
  rfl
theorem isLB_sg (c : Nat) : isLet (sg c) = isLB c := by
  rw [isLet_sg]
  unfold isLB
  rfl
def S_ascendX : FS := fun ds W post => ∃ d, ds = [d] ∧ W = [] ∧ ((∃ r : List Nat, d = rowD r ∧ r.length ≤ 5000 ∧ post (.bl (ascB r)) []) ∨ ∃ s : Str, d = .str s ∧ s.length ≤ 5000 ∧ post (.bl (ascB (lets s))) [])
def S_isbelowX : FS := fun ds W post => ∃ (i : Nat) (os : List (Option Nat)), ds = [natD i, .tup (os.map optD)] ∧ W = [] ∧ i ≤ 63 ∧ os.length ≤ 5000 ∧ post (.bl (belowB i os)) []
def S_islettersX : FS := fun ds W post => ∃ s : Str, ds = [.str s] ∧ W = [] ∧ s.length ≤ 5000 ∧ post (.bl (letB s)) []
def S_numinX : FS := fun ds W post => ∃ s : Str, ds = [.str s] ∧ W = [] ∧ s.length ≤ 640 ∧ post (optD (numO s)) []
def S_pointsinX : FS := fun ds W post => ∃ (i : Nat) (ws : List Str), ds = [.lst (ws.map .str), natD i] ∧ W = [] ∧ i ≤ 63 ∧ ws.length ≤ 5000 ∧ (∀ w ∈ ws, w.length ≤ 640) ∧ post (ptsD (rowO i ws)) []
def S_iswordX : FS := fun ds W post => ∃ s : Str, ds = [.str s] ∧ W = [] ∧ s.length ≤ 5000 ∧ post (.bl (headB s)) []
def S_readWX (c : Addr) : FX := fun ds W post ex => ∃ v : D, ds = [.adr c, v] ∧ W = [] ∧
  ((∃ s : Str, v = .str s ∧ s.length ≤ 640 ∧ (cutAt 10 s).length ≤ 63 ∧ (∀ w : Wb, w.ok → w.text = s → placeW s = 0 → post w.d []) ∧ (∀ d W', placeW s ≠ 0 → (d, OD.xd ["place"] [natD (placeW s)]) ∈ W' → ex 12 d W')) ∨
   (notStr v ∧ ∀ d W', (d, OD.xd ["place"] [.int 0]) ∈ W' → ex 12 d W'))
def S_rising14 : FS := fun ds W post => ∃ d, ds = [d] ∧ W = [] ∧ ((∃ l : List Int, d = .lst (l.map D.int) ∧ l.length ≤ 5000 ∧ post (.bl (ascI l)) []) ∨ ∃ s : Str, d = .str s ∧ s.length ≤ 5000 ∧ post (.bl (ascB (lets s))) [])
def S_number14 : FS := fun ds W post => ∃ s : Str, ds = [.str s] ∧ W = [] ∧ s.length ≤ 640 ∧ post (.int (lawNum s)) []
def S_isline14 : FS := fun ds W post => ∃ (i : Nat) (l : Str), ds = [.str l, natD i] ∧ W = [] ∧ i ≤ 5000 ∧ l.length ≤ 640 ∧ post (.bl (lineB i l)) []
def S_due14 : FS := fun ds W post => ∃ s : Str, ds = [.str s] ∧ W = [] ∧ s.length ≤ 640 ∧ post (natD (placeW s)) []
def S_bentL14 : FS := fun ds W post => ∃ (a : Addr) (c : Int) (ls m : List Str) (n : Nat), ds = [.adr a, .lst (ls.map .str), .lst (m.map .str)] ∧ DkA a c W ∧ c + 20 < 2 ^ 59 ∧ lsW n ls ∧ n ≤ 5000 ∧ ls ≠ [] ∧ m ≠ [] ∧ m.length ≤ 100 ∧ (∀ x ∈ m, okM x = true) ∧
  ∀ (r : List Str) (W' : Om), lsW (2 * n + 21) r → r ≠ [] → r.length ≤ ls.length + 1 → DkA a (c + 20) W' → post (.lst (r.map .str)) W'
def S_bent14 : FS := fun ds W post => ∃ (a : Addr) (c : Int) (s : Str) (m k : Nat), ds = [.adr a, .str s] ∧ DkA a c W ∧ c + 50 < 2 ^ 59 ∧ txN m k s ∧ m ≤ 640 ∧ ∀ (r : Str) (W' : Om), txN (2 * m + 24) (2 * k + 2) r → DkA a (c + 50) W' → post (.str r) W'
def okV14 (v : D) : Prop := (∃ s : Str, v = .str s ∧ txN 640 62 s) ∨ notStr v
def hw14 : D → Str × V
  | .vl (.str s) => if placeW s = 0 then ("read", .str s) else ("bad", .int ((placeW s : Nat) : Int))
  | _ => ("bad", .int 0)
def heardD14 (v : D) : D := .lst [.str (hw14 v).1, .vl (hw14 v).2]
def heardP14 (v : D) : PyData := .list [.str (hw14 v).1, vP (hw14 v).2]
theorem hw14_not {v : D} (h : notStr v) : hw14 v = (("bad" : Str), V.int 0) := by cases h <;> rfl
theorem hw14_str (s : Str) : hw14 (.str s) = if placeW s = 0 then (("read" : Str), V.str s) else (("bad" : Str), V.int ((placeW s : Nat) : Int)) := rfl
theorem place_few {n c : Nat} {s : Str} (h : txN n c s) : placeW s ≤ c + 1 := by
  have h1 := badAt_lt (cutAt 10 s) 0
  have h2 := h.lines.2
  unfold placeW
  omega
theorem hw14_cases {v : D} (h : okV14 v) : ((hw14 v).1 = "read" ∧ ∃ s : Str, (hw14 v).2 = .str s ∧ (∀ x ∈ lets s, x < 200) ∧ s.length ≤ 640) ∨ ((hw14 v).1 = "bad" ∧ ∃ i : Int, (hw14 v).2 = .int i ∧ i.natAbs ≤ 10000) := by
  rcases h with ⟨s, rfl, h⟩ | h
  · rw [hw14_str]
    by_cases e : placeW s = 0
    · rw [if_pos e]
      exact .inl ⟨rfl, s, rfl, h.lo, h.len⟩
    · rw [if_neg e]
      have := place_few h
      exact .inr ⟨rfl, _, rfl, by omega⟩
  · rw [hw14_not h]
    exact .inr ⟨rfl, _, rfl, by decide⟩
theorem heard14_pd {v : D} (h : okV14 v) : (heardD14 v).pd = some (heardP14 v) := by
  unfold heardD14 heardP14
  rcases hw14_cases h with ⟨e, s, e2, _⟩ | ⟨e, s, e2, _⟩ <;> rw [e, e2] <;> rfl
theorem heard14_ok {v : D} (h : okV14 v) : Ok1 1 20011 (heardP14 v) := by
  unfold heardP14
  rcases hw14_cases h with ⟨e, s, e2, h1, h2⟩ | ⟨e, i, e2, h1⟩
  · rw [e, e2]
    exact (ok_lst (k := 0) (n := 10004) (l := [.str "read", .str s]) fun d hd => by
      simp only [List.mem_cons, List.not_mem_nil, or_false] at hd
      rcases hd with rfl | rfl
      · exact (ok_str (x := "read") (by decide +kernel)).up (Nat.le_refl _) (by decide)
      · exact (ok_str fun c hc => Nat.lt_trans (h1 c hc) (by decide)).up (Nat.le_refl _) (by omega)).up (Nat.le_refl _) (by show 2 * (10004 + 1) + 1 ≤ _; omega)
  · rw [e, e2]
    exact (ok_lst (k := 0) (n := 10004) (l := [.str "bad", .int i]) fun d hd => by
      simp only [List.mem_cons, List.not_mem_nil, or_false] at hd
      rcases hd with rfl | rfl
      · exact (ok_str (x := "bad") (by decide +kernel)).up (Nat.le_refl _) (by decide)
      · exact (ok_intL (by omega)).up (Nat.le_refl _) (by omega)).up (Nat.le_refl _) (by show 2 * (10004 + 1) + 1 ≤ _; omega)
def dueP14 (v : D) : PyData := .list [heardP14 v, heardP14 v]
theorem due14_pd {v : D} (h : okV14 v) : (D.lst [heardD14 v, heardD14 v]).pd = some (dueP14 v) := pd_lst (pdL_cons (heard14_pd h) (pdL_cons (heard14_pd h) rfl))
theorem due14_shw {v : D} (h : okV14 v) : Shw (dueP14 v) := (ok_lst (k := 1) (n := 20011) (l := [heardP14 v, heardP14 v]) fun d hd => by
  simp only [List.mem_cons, List.not_mem_nil, or_false, or_self] at hd
  rw [hd]
  exact heard14_ok h).shwB (by decide) (by show 2 * (20011 + 1) + 1 ≤ _; omega)
def S_heard14 : FS := fun ds W post => ∃ (v : D) (b : Bool), ds = [v, .bl b] ∧ W = [] ∧ okV14 v ∧ post (heardD14 v) []
def S_right14 : FS := fun ds W post => ∃ v : D, ds = [v] ∧ W = [] ∧ okV14 v ∧ post (.bl true) []
def v14L (l : List D) : Prop := ∀ d ∈ l, okV14 d
theorem v14L_app {l m : List D} (h : v14L l) (k : v14L m) : v14L (l ++ m) := fun d hd => (List.mem_append.mp hd).elim (h d) (k d)
theorem v14_str {s : Str} (h : okN 200 60 s = true) : okV14 (.str s) := .inl ⟨s, rfl, (okN_ok h).up (by omega) (by omega)⟩
theorem v14L_str {L : List Str} (h : L.all (okN 200 60) = true) : v14L (L.map D.str) := fun d hd => by
  obtain ⟨s, hs, rfl⟩ := List.mem_map.mp hd
  exact v14_str (List.all_eq_true.mp h s hs)
theorem v14L_cons {d : D} {l : List D} (h : okV14 d) (k : v14L l) : v14L (d :: l) := fun x hx => by
  rcases List.mem_cons.mp hx with rfl | hx
  · exact h
  · exact k x hx
theorem v14L_nil : v14L [] := fun _ h => nomatch h
theorem txN.v14 {n c : Nat} {s : Str} (h : txN n c s) (h1 : n ≤ 640) (h2 : c ≤ 62) : okV14 (.str s) := .inl ⟨s, rfl, h.up h1 h2⟩
section
variable {F : FmKit} {T : Kx} {W : Om} {R : D → Om → Prop}
theorem bo_cat14 {l m : List D} (h1 : v14L l) (h2 : v14L m) (hl : l.length + m.length ≤ 1000) (r : ∀ L, v14L L → L.length = l.length + m.length → R (.lst L) W) : Bo F T rCat (.lst l) (.lst m) W R :=
  bo_cat (.inl rfl) (.inl rfl) (by have := sizeLine_eq; omega) (r _ (v14L_app h1 h2) List.length_append)
end
theorem txN_mul {x : Str} {n m c : Nat} (h : txN m c x) (hn : 2 ≤ n) (hx : (x.length == 0) = false) : txN (n * m) (n * c) (Txt.mul x ((n : Nat) : Int)) := by
  have e := mul_lets (x := x) hn hx
  have g : ∀ n, ((List.replicate n (lets x)).flatten).length ≤ n * m ∧ ((List.replicate n (lets x)).flatten).count 10 ≤ n * c := by
    intro n
    induction n with
    | zero => simp
    | succ n ih =>
      rw [List.replicate_succ, List.flatten_cons, List.length_append, List.count_append, Nat.add_mul, Nat.add_mul, Nat.one_mul, Nat.one_mul]
      have h1 := h.len
      have h2 := h.cl
      rw [str_len] at h1
      have h1 : (lets x).length ≤ m := h1
      omega
  refine ⟨fun y hy => ?_, ?_, ?_⟩
  · rw [e] at hy
    obtain ⟨l, hl, hy⟩ := List.mem_flatten.mp hy
    rw [List.eq_of_mem_replicate hl] at hy
    exact h.lo y hy
  · rw [str_len]
    show (lets _).length ≤ _
    rw [e]
    exact (g n).1
  · rw [e]
    exact (g n).2
/-- the texts of small webs -/
theorem text_small {w : Wb} (hw : w.ok) (h7 : w.below.length ≤ 7) (h3 : ∀ s ∈ w.atoms, s.length ≤ 3) : txN 112 6 w.text := by
  have hll := lines_len hw
  have each : ∀ l ∈ w.lines, (∀ x ∈ lets l, x < 200) ∧ 10 ∉ lets l ∧ l.length + 1 ≤ 16 := fun l hl => by
    obtain ⟨i, hi⟩ := List.getElem?_of_mem hl
    obtain ⟨s, r, h1, h2, rfl⟩ := lines_get hi
    have ho := hw.line h1 h2
    refine ⟨low_line ho, line_no ho.lets, ?_⟩
    have hs := h3 s (List.mem_of_getElem? h1)
    obtain ⟨a1, a2⟩ := hw.rows.asc i r h2
    have hi := (List.getElem?_eq_some_iff.mp h2).1
    have hr := low_len (a1.imp fun h => Nat.ne_of_lt h) a2
    have e := joinL_wt 32 ((lineL s r).map lets) (by simp [lineL])
    have e2 : (lineS s r).length = (TL.joinL [32] ((lineL s r).map lets)).length := by
      rw [str_lets, lineS, lets_join]
      rfl
    rw [e2, e, List.map_map]
    have e3 : ((lineL s r).map ((fun x : List Nat => x.length + 1) ∘ lets)).sum = wtS (lineL s r) := rfl
    rw [e3, lineL, wt_cons]
    have e4 : (wordL s).length ≤ 3 := by
      unfold wordL
      split
      · decide
      · exact hs
    have e5 : ∀ r : List Nat, (∀ k ∈ r, k < 10) → wtS (r.map numS) = 2 * r.length := by
      intro r hr
      induction r with
      | nil => rfl
      | cons a t ih =>
        rw [List.map_cons, wt_cons, ih fun k hk => hr k (List.mem_cons_of_mem _ hk), List.length_cons]
        have : (numS a).length = 1 := by
          rw [str_lets, numS_lets, TL.numL_lt (hr a List.mem_cons_self)]
          rfl
        omega
    rw [e5 r fun k hk => by have := a2 k hk; omega]
    omega
  have hw2 : lsW 112 w.lines := by
    refine ⟨fun p hp => (each p hp).1, fun p hp => (each p hp).2.1, ?_⟩
    have g : ∀ l : List Str, (∀ p ∈ l, p.length + 1 ≤ 16) → wtS l ≤ l.length * 16 := by
      intro l hl
      induction l with
      | nil => simp [wtS]
      | cons x l ih =>
        have h1 := ih fun p hp => hl p (List.mem_cons_of_mem _ hp)
        have h2 := hl x List.mem_cons_self
        rw [wt_cons, List.length_cons, Nat.add_mul, Nat.one_mul]
        omega
    have := g w.lines fun p hp => (each p hp).2.2
    omega
  have hne : w.lines ≠ [] := fun e => hw.some_ (by
    rw [e] at hll
    exact List.length_eq_zero_iff.mp hll.symm)
  refine (hw2.join (y := "\n") (c := 10) rfl (by omega) hne).up (by omega) ?_
  rw [if_pos rfl]
  omega
theorem pools14 : ∀ z ∈ [D.vl (.str "ab"), D.vl (.str "aPz"), D.vl (.str "")], ∃ p : Str, z = .str p ∧ letters p ∧ (lets p).Nodup ∧ (lets p).length ≤ 3 := fun z hz => by
  simp only [List.mem_cons, List.not_mem_nil, or_false] at hz
  rcases hz with e | e | e
  · exact ⟨_, e, by unfold letters; decide +kernel, by decide +kernel, by decide +kernel⟩
  · exact ⟨_, e, by unfold letters; decide +kernel, by decide +kernel, by decide +kernel⟩
  · exact ⟨_, e, by unfold letters; decide +kernel, by decide +kernel, by decide +kernel⟩
theorem many14 : ∀ z ∈ [D.int 2, D.int 4, D.int 7], ∃ n : Nat, z = natD n ∧ 0 < n ∧ n ≤ 7 := fun z hz => by
  simp only [List.mem_cons, List.not_mem_nil, or_false] at hz
  rcases hz with e | e | e
  · exact ⟨2, e, by omega, by omega⟩
  · exact ⟨4, e, by omega, by omega⟩
  · exact ⟨7, e, by omega, by omega⟩
theorem sub_few {s p : Str} (h1 : (lets s).Pairwise (· < ·)) (h2 : ∀ q ∈ lets s, q ∈ lets p) (h3 : (lets p).length ≤ 3) : s.length ≤ 3 := by
  have h := List.Nodup.length_le_of_subset (l₁ := lets s) (l₂ := lets p) (h1.imp fun h => Nat.ne_of_lt h) h2
  rw [str_len]
  have e : s.cps.toList.length = (lets s).length := rfl
  omega
end N
namespace N
open PySem
theorem lt_sg (a b : Nat) : decide ((sg a).cps.toList < (sg b).cps.toList) = decide (a < b) := by
  refine decide_eq_decide.mpr ⟨fun h => ?_, fun h => List.Lex.rel h⟩
  have h : [a] < [b] := h
  cases h with
  | rel h => exact h
  | cons h => cases h
end N
namespace N
open PySem PySem.Spec PyProof.Rows L2
theorem cutD_pre (l : List D) (m : Nat) : cutD l none (some ((m : Nat) : Int)) = l.take m := by
  unfold cutD
  have e : HT.sIx l.length l.length (some ((m : Nat) : Int)) = min m l.length := HT.sIx_nat l.length l.length m
  rw [e, show HT.sIx l.length 0 none = 0 from rfl]
  rcases Nat.le_total m l.length with h | h
  · rw [Nat.min_eq_left h]; simp
  · rw [Nat.min_eq_right h, List.take_of_length_le h]; simp
theorem cutD_suf (l : List D) (m : Nat) : cutD l (some ((m : Nat) : Int)) none = l.drop m := by
  unfold cutD
  rw [show HT.sIx l.length 0 (some ((m : Nat) : Int)) = min m l.length from HT.sIx_nat l.length 0 m, show HT.sIx l.length l.length none = l.length from rfl]
  rw [List.take_of_length_le (by simp)]
  rcases Nat.le_total m l.length with h | h
  · rw [Nat.min_eq_left h]
  · rw [Nat.min_eq_right h, List.drop_length, List.drop_eq_nil_of_le h]
theorem at_nth {α : Type} {l : List α} {k : Nat} {x : α} (h : l[k]? = some x) : atI l ((k : Nat) : Int) = some x := by
  unfold atI
  rw [ixN_nat (List.getElem?_eq_some_iff.mp h).1]
  exact h
theorem erase_map (ls : List Str) (i : Nat) : (ls.map D.str).eraseIdx i = (ls.eraseIdx i).map D.str := by
  induction ls generalizing i with
  | nil => rfl
  | cons x l ih =>
    cases i with
    | zero => rfl
    | succ i =>
      rw [List.map_cons, List.eraseIdx_cons_succ, List.eraseIdx_cons_succ, List.map_cons, ih]
theorem ins_map (ls : List Str) (i : Nat) (x : Str) : (ls.map D.str).take i ++ [D.str x] ++ (ls.map D.str).drop i = (ls.take i ++ [x] ++ ls.drop i).map D.str := by simp
theorem ins_len (ls : List Str) (i : Nat) (x : Str) : (ls.take i ++ [x] ++ ls.drop i).length = ls.length + 1 := by
  simp
  omega
theorem ins_ne (ls : List Str) (i : Nat) (x : Str) : ls.take i ++ [x] ++ ls.drop i ≠ [] := by simp
theorem set_map2 (ls : List Str) (i : Nat) (x : Str) : (ls.map D.str).set i (D.str x) = (ls.set i x).map D.str := by rw [List.map_set]
theorem menu_mem {m : List Str} {z : D} (hm : ∀ x ∈ m, okM x = true) (hz : z ∈ m.map D.str) : ∃ x : Str, z = .str x ∧ (∀ c ∈ lets x, c < 200) ∧ 10 ∉ lets x ∧ x.length + 1 ≤ 21 := by
  obtain ⟨x, hx, rfl⟩ := List.mem_map.mp hz
  have h := okM_ok (hm x hx)
  exact ⟨x, rfl, h.1, h.2.1, by omega⟩
/-- a line otherwise among lines -/
theorem lsW.line {n k : Nat} {ls : List Str} {l x : Str} (h : lsW n ls) (hl : ls[k]? = some l) (h1 : ∀ c ∈ lets x, c < 200) (h2 : 10 ∉ lets x) (h3 : x.length + 1 ≤ 2 * (l.length + 1) + 21) :
    lsW (2 * n + 21) (ls.take k ++ [x] ++ ls.drop (k + 1)) ∧ (ls.take k ++ [x] ++ ls.drop (k + 1)).length = ls.length := by
  have hm : ∀ {p : Str}, p ∈ ls.take k ++ [x] ++ ls.drop (k + 1) → p = x ∨ p ∈ ls := fun {p} hp => by
    rcases List.mem_append.mp hp with hp | hp
    · rcases List.mem_append.mp hp with hp | hp
      · exact .inr (List.mem_of_mem_take hp)
      · exact .inl (List.mem_singleton.mp hp)
    · exact .inr (List.mem_of_mem_drop hp)
  have hk := (List.getElem?_eq_some_iff.mp hl).1
  refine ⟨⟨fun p hp => (hm hp).elim (fun e => e ▸ h1) (h.lo p), fun p hp => (hm hp).elim (fun e => e ▸ h2) (h.no p), ?_⟩, ?_⟩
  · have e := wt_cut hl
    have := h.wt
    rw [wt_app, wt_app, wt_cons, wt_nil]
    omega
  · simp
    omega
theorem signs14 : ∀ y ∈ lets ("-aZ0 1\n,.b9" : Str), y < 200 := by decide +kernel
def menuL : List Str := ["-", "a", "", "ab 0", "- 1", "-  0", "a 0 1"]
theorem menuL_ok : ∀ x ∈ menuL, okM x = true := by decide +kernel
def menuW : List Str := ["-", "a", "", "ba", "aa", "0", "1", "01", "2", "-1", Txt.mul "9" ((20 : Nat) : Int), "a1"]
theorem menuW_ok : ∀ x ∈ menuW, okM x = true := by decide +kernel
theorem count_no {s : Str} (h : (lets s).count 10 ≤ 0) : 10 ∉ lets s := List.count_eq_zero.mp (by omega)
end N
namespace N
open PySem
theorem wt_two (r : List Str) : (r.map (·.length)).sum + r.length = wtS r := by
  induction r with
  | nil => rfl
  | cons x r ih =>
    rw [wt_cons, List.map_cons, List.sum_cons, List.length_cons]
    omega
end N
set_option Elab.async false
set_option linter.all false
set_option maxRecDepth 100000
namespace N
open PySem PySem.Spec PyProof.Rows L2
open C8 (Cal Met Mak InsC pe_c pe_mt pe_mt0 pe_mk)
set_option maxHeartbeats 4000000
local macro_rules | `(tactic| walk_at "vl") => `(tactic| first | exact .inl (.inl rfl) | exact .inr ⟨_, rfl, List.mem_cons_self⟩ | exact .inr ⟨_, rfl, List.mem_cons_of_mem _ List.mem_cons_self⟩ | exact .inr ⟨_, rfl, List.mem_cons_of_mem _ (List.mem_cons_of_mem _ List.mem_cons_self)⟩ | exact .inr ⟨_, rfl, List.mem_cons_of_mem _ (List.mem_cons_of_mem _ (List.mem_cons_of_mem _ List.mem_cons_self))⟩ | exact .inl (.inr ⟨_, rfl, rfl⟩))
local macro_rules | `(tactic| walk_at "vt") => `(tactic| first | exact .inl rfl | exact .inr ⟨_, rfl, List.mem_cons_self⟩ | exact .inr ⟨_, rfl, List.mem_cons_of_mem _ List.mem_cons_self⟩ | exact .inr ⟨_, rfl, List.mem_cons_of_mem _ (List.mem_cons_of_mem _ List.mem_cons_self)⟩ | exact .inr ⟨_, rfl, List.mem_cons_of_mem _ (List.mem_cons_of_mem _ (List.mem_cons_of_mem _ List.mem_cons_self))⟩)
local macro_rules | `(tactic| walk_at "vd") => `(tactic| first | exact .inl rfl | exact .inr ⟨_, rfl, List.mem_cons_self⟩ | exact .inr ⟨_, rfl, List.mem_cons_of_mem _ List.mem_cons_self⟩ | exact .inr ⟨_, rfl, List.mem_cons_of_mem _ (List.mem_cons_of_mem _ List.mem_cons_self)⟩ | exact .inr ⟨_, rfl, List.mem_cons_of_mem _ (List.mem_cons_of_mem _ (List.mem_cons_of_mem _ List.mem_cons_self))⟩)
local macro_rules | `(tactic| walk_at "gg") => `(tactic| first | exact getG_hd _ _ _ | (refine getG_tl (by decide +kernel) ?_; walk_at "gg"))
local macro_rules | `(tactic| walk_at "vs") => `(tactic| first | exact .inr rfl | (refine .inl ?_; walk_at "vl"))
local macro_rules | `(tactic| walk_at "nc") => `(tactic| first | omega | (unfold CMul; omega) | (unfold CDiv; omega) | (unfold CPow; decide) | (show (0 : Int) < _; omega))
local macro_rules | `(tactic| walk_at "sx") => `(tactic| first
  | with_reducible refine swx_seq ?_ | with_reducible refine swx_set ?_ | with_reducible refine swx_if ?_ | with_reducible refine swx_asg ?_ | with_reducible refine swx_ret ?_ | with_reducible refine swx_drop ?_ | with_reducible refine swx_raise ?_ | with_reducible refine swx_next ?_ | with_reducible refine swx_brk ?_ | with_reducible refine swx_cont ?_ | with_reducible refine swx_retN ?_ | with_reducible refine swx_par ?_ | with_reducible refine swx_fld ?_
  | with_reducible refine evx_call ?_ | with_reducible refine evx_cm ?_ | with_reducible refine evx_cmk ?_ | with_reducible refine evx_mk ?_ | with_reducible refine evx_mkk ?_ | with_reducible refine evx_of ?_)
local macro_rules | `(tactic| walk_at "s1") => `(tactic| first
  | with_reducible refine sw_seq ?_ | with_reducible refine sw_set ?_ | (with_reducible refine' ev_var ?h ?_); (case h => rfl) | with_reducible refine ev_c ?_ | with_reducible refine ev_op ?_
  | with_reducible refine bo_I0 ?_ | with_reducible refine ev_tup ?_ | with_reducible refine ev_lstF ?_ | with_reducible refine ev_cb ?_ | with_reducible refine ea_cons ?_ | with_reducible refine ea_nil ?_
  | with_reducible refine bo_eqI ?_ | with_reducible refine bo_neI ?_ | with_reducible refine bo_eqS ?_ | with_reducible refine bo_neS ?_ | with_reducible refine bo_eqB ?_ | with_reducible refine bo_neB ?_
  | with_reducible refine isi_str ?_ | (with_reducible refine' ca_intBt ?h1 ?_); (case h1 => decide +kernel) | (with_reducible refine' ca_intBf ?h1 ?_); (case h1 => decide +kernel) | with_reducible refine ca_intB ?_ | with_reducible refine ca_int ?_ | with_reducible refine ca_max2 ?_ | with_reducible refine ca_min2 ?_
  | with_reducible refine sw_if ?_ | with_reducible refine sw_ret ?_ | with_reducible refine sw_drop ?_ | with_reducible refine sw_setL ?_ | with_reducible refine sw_next ?_ | with_reducible refine sw_par ?_ | with_reducible refine ev_neg ?_ | with_reducible refine ev_mkF ?_ | with_reducible refine ev_inv ?_ | with_reducible refine ev_prpF ?_ | with_reducible refine ta_fld ?_ | with_reducible refine ta_name ?_ | (with_reducible refine' ta_tup ?hl ?_); (case hl => rfl) | with_reducible refine tas_cons ?_ | with_reducible refine tas_nil ?_
  | with_reducible refine et_ifE ?_ | with_reducible refine ev_orV ?_ | with_reducible refine ev_andV ?_ | with_reducible refine ev_notV ?_ | with_reducible refine et_or ?_ | with_reducible refine et_and ?_ | with_reducible refine sw_asgA ?_ | with_reducible refine sw_asg2 ?_ | with_reducible refine sw_asg3 ?_ | with_reducible refine sw_fld ?_ | with_reducible refine et_test ?_ | with_reducible refine et_B ?_ | with_reducible refine ⟨_, rfl, ?_⟩ | with_reducible refine ⟨_, _, rfl, ?_⟩ | with_reducible refine et_not ?_ | with_reducible refine ev_if ?_
  | (with_reducible refine' bo_ixL ?h1 ?h2 ?_); (case h1 => walk_at "vl"); (case h2 => rfl) | (with_reducible refine' bo_ixT ?h2 ?_); (case h2 => rfl) | with_reducible refine ev_call ?_ | ((with_reducible refine' ev_fwF ?hz ?hy ?_); (case hz => assumption); (case hy => assumption)) | (with_reducible refine' ev_fmF ?hz ?_; case hz => assumption) | with_reducible refine ev_fld ?_
  | with_reducible refine .inr ⟨_, _, rfl, FldW.below _, ?_⟩ | with_reducible refine .inr ⟨_, _, rfl, FldW.atoms _, ?_⟩ | with_reducible refine .inr ⟨_, _, rfl, FldW.bens _, ?_⟩ | with_reducible refine .inr ⟨_, _, rfl, FldW.hgts _, ?_⟩
  | with_reducible refine .inl ⟨_, _, rfl, FldF.kind _, ?_⟩ | with_reducible refine .inl ⟨_, _, rfl, FldF.parts _, ?_⟩ | with_reducible refine .inl ⟨_, _, rfl, FldF.many _, ?_⟩ | with_reducible refine .inl ⟨_, _, rfl, FldF.deep _, ?_⟩ | with_reducible refine .inl ⟨_, _, rfl, FldF.atoms _, ?_⟩ | with_reducible refine .inl ⟨_, _, rfl, FldF.bare _, ?_⟩ | with_reducible refine .inl ⟨_, _, rfl, FldF.spell _, ?_⟩ | with_reducible refine .inl ⟨_, _, rfl, FldF.alls _, ?_⟩
  | with_reducible refine ev_meth ?_ | ((with_reducible refine' ⟨_, _, inst_wb _, ?hm, ?_⟩); (case hm => decide +kernel)) | ((with_reducible refine' ⟨_, _, Inst.fm _, ?hm, ?_⟩); (case hm => decide +kernel))
  | with_reducible refine ⟨_, _, rfl, FldF.kind _, ?_⟩ | with_reducible refine ⟨_, _, rfl, FldF.parts _, ?_⟩ | with_reducible refine ⟨_, _, rfl, FldF.many _, ?_⟩ | with_reducible refine ⟨_, _, rfl, FldF.deep _, ?_⟩ | with_reducible refine ⟨_, _, rfl, FldF.atoms _, ?_⟩ | with_reducible refine ⟨_, _, rfl, FldF.bare _, ?_⟩ | with_reducible refine ⟨_, _, rfl, FldF.spell _, ?_⟩ | with_reducible refine ⟨_, _, rfl, FldF.alls _, ?_⟩
  | ((with_reducible refine' ⟨len_ok ?hl, ?_⟩); (case hl => exact Nat.le_of_ble_eq_true rfl))
  | (with_reducible refine' bo_I ?h1 ?_); (case h1 => walk_at "nc")
  | with_reducible refine ev_sl ?_ | with_reducible refine eo_none ?_ | with_reducible refine eo_some ?_ | (with_reducible refine' ca_slF ?h1 ?_); (case h1 => walk_at "vl") | with_reducible refine ev_revF ?_ | with_reducible refine ev_dget ?_ | with_reducible refine sw_dput ?_ | with_reducible refine ev_dispF ?_ | with_reducible refine eps_cons ?_ | with_reducible refine eps_nil ?_ | with_reducible refine exk_str ?_ | with_reducible refine exk_int ?_ | (with_reducible refine' dg_str ?h1 ?h2 ?_); (case h1 => walk_at "vd"); (case h2 => walk_at "gg")
  | with_reducible refine unr_cons ?_ | with_reducible refine unr_nil ?_ | with_reducible refine swu_cons ?_ | with_reducible refine swu_nil ?_ | with_reducible refine et_yes ?_ | with_reducible refine tg_name ?_ | (with_reducible refine' tw_name ?h1 ?_); (case h1 => simp) | ((with_reducible refine' ⟨acc_ok ?h1, ?_⟩); (case h1 => exact Nat.le_of_ble_eq_true rfl)) | with_reducible refine ei_tup ?_ | with_reducible refine ei_list ?_ | with_reducible refine ei_rng1 ?_
  | with_reducible refine ca_strF ?_ | with_reducible refine ca_lenF ?_ | with_reducible refine isi_tup ?_ | with_reducible refine isi_int ?_ | with_reducible refine isi_intB ?_ | with_reducible refine et_chain ?_ | with_reducible refine ev_chain ?_ | (with_reducible refine' isi_fm ?hz ?_; case hz => assumption)
  | (with_reducible refine' ca_len ?h1 ?_); (case h1 => walk_at "vs")
  | (with_reducible refine' if_so ?h1 ?_); (case h1 => first | rfl | decide +kernel) | (with_reducible refine' if_not ?h1 ?_); (case h1 => first | rfl | decide +kernel))
local macro_rules | `(tactic| walk_at "st") => `(tactic| repeat first | walk_at "s1" | walk_at "sx")
section
def top (i : Nat) : Stmt := PySem.Challenge.pw_allbeneath_k14_texts_of_webs_bent.main.body.getD i (.Pass ⟨0, 0, 0, 0⟩)
/-- what the module has written -/
structure ZZ (K : PySem.W.Frag) (w : World) (mg : Str → Option Value) (cl : Nat → Addr) where
  g_LETTERS : ∃ u, mg "LETTERS" = some u ∧ RelV (.str "ABCDEFGHIJKLMNOPQRSTUVWXYZabcdefghijklmnopqrstuvwxyz") u
  g_ATOM : ∃ u, mg "ATOM" = some u ∧ RelV (.str "atom") u
  g_NO : ∃ u, mg "NO" = some u ∧ RelV (.str "no") u
  g_IF : ∃ u, mg "IF" = some u ∧ RelV (.str "if") u
  g_ALL : ∃ u, mg "ALL" = some u ∧ RelV (.str "all") u
  d_PARTS_OF : Addr
  e_PARTS_OF : Array DictEntry
  n_PARTS_OF : Nat
  g_PARTS_OF : mg "PARTS_OF" = some (.ref d_PARTS_OF)
  t_PARTS_OF : KDict K w d_PARTS_OF e_PARTS_OF n_PARTS_OF
  k_PARTS_OF_atom : ∃ t, PySem.W.nsIn K d_PARTS_OF "atom" = some (some (.int 1 t))
  k_PARTS_OF_no : ∃ t, PySem.W.nsIn K d_PARTS_OF "no" = some (some (.int 0 t))
  k_PARTS_OF_if : ∃ t, PySem.W.nsIn K d_PARTS_OF "if" = some (some (.int 2 t))
  k_PARTS_OF_all : ∃ t, PySem.W.nsIn K d_PARTS_OF "all" = some (some (.int 1 t))
  g_ALL_AHEAD : ∃ u, mg "ALL_AHEAD" = some u ∧ RelV (.str "all ") u
  g_BETWEEN : ∃ u, mg "BETWEEN" = some u ∧ RelV (.str " > ") u
  g_DIGITS : ∃ u, mg "DIGITS" = some u ∧ RelV (.str "0123456789") u
  g_BARE : ∃ u, mg "BARE" = some u ∧ RelV (.str "-") u
  g_BLANK : ∃ u, mg "BLANK" = some u ∧ RelV (.str " ") u
  g_BREAK : ∃ u, mg "BREAK" = some u ∧ RelV (.str "\n") u
  g_Formula : mg "Formula" = some (.ref (cl 0))
  z0 : CZ K (cl 0) fmNames
  g_Web : mg "Web" = some (.ref (cl 1))
  z1 : CZ K (cl 1) wbNames
  g_BadText : mg "BadText" = some (.ref (cl 12))
  x12 : ErC K (cl 12) "place"
  v12_12 : PySem.W.exmOne K (.ref (cl 12)) (.ref (cl 12)) = some true
abbrev s_is_atom : Stmt := top 15
theorem sc_is_atom : FnScope ["thing"] ["thing"] (defScope s_is_atom) := ⟨rfl, rfl, rfl, by decide +kernel, rfl, by decide +kernel, by decide +kernel⟩
theorem c_is_atom {P : Program} {w : World} {K : PySem.W.Frag} {mg : Str → Option Value} {base : Heap} {cl : Nat → Addr} {f : Addr} {fd : FuncData} (hm : mg "is_atom" = some (.ref f)) (B : Blt mg) (Z : ZZ K w mg cl) (Fn : Fun K "is_atom" "is_atom" s_is_atom f fd) : Cal P w K mg base 1 "is_atom" (spN FK ⟨K, cl⟩ S_isatom) [] := by
  have fz := Z.z0
  have gz := Z.z1
  refine calD hm Fn sc_is_atom (by intro ds W post h; first | (obtain ⟨rfl, _⟩ := h; rfl) | (obtain ⟨_, rfl, _⟩ := h; rfl) | (obtain ⟨_, _, rfl, _⟩ := h; rfl) | (obtain ⟨_, _, _, rfl, _⟩ := h; rfl) | (obtain ⟨_, _, _, _, rfl, _⟩ := h; rfl) | (obtain ⟨_, _, _, _, _, rfl, _⟩ := h; rfl) | (obtain ⟨_, _, _, _, _, _, rfl, _⟩ := h; rfl) | (obtain ⟨_, _, _, _, _, _, _, rfl, _⟩ := h; rfl) | (obtain ⟨_, _, _, _, _, _, _, _, rfl, _⟩ := h; rfl) | (obtain ⟨_, _, _, _, _, _, _, _, _, rfl, _⟩ := h; rfl) | (obtain ⟨_, _, _, _, _, _, _, _, _, _, rfl, _⟩ := h; rfl) | (obtain ⟨_, _, _, _, _, _, _, _, _, _, _, rfl, _⟩ := h; rfl)) (fun _ _ _ _ _ _ us hl => match us, hl with | [_], _ => rfl) fun cdv A outer s H E hr => ⟨_, pss_one (ps_ret (pe_and (pe_callB call_isi (by rfl) B.isinstance bt_isinstance (pa_cons (pv 0) (pa_cons (pe_bltn (by rfl) B.str bt_str (relV_ty _)) pa_nil))) (pe_and (pe_cmpR op_eq (pe_callB call_len (by rfl) B.len bt_len (pa_cons (pv 0) pa_nil)) pe_int (nomark _)) (pe_one (pe_cmpR op_in_sign (pv 0) (C8.pe_gc (by rfl) Z.g_LETTERS) rfl))))), ?_⟩
  rintro ds W post ⟨x, rfl, rfl, hl, k⟩
  try dsimp only [cxOf, Cx.nox, Cx.wish]
  walk_at "st"
  try refine if_so rfl ?_
  walk_at "st"
  refine ca_lenS (by have := sizeLine_eq; omega) ?_
  walk_at "st"
  refine if_dec (fun e => ?_) (fun e => ?_)
  · have e : x.length = 1 := by omega
    obtain ⟨c, rfl⟩ := one_sign e
    walk_at "st"
    refine bo_inSg ?_
    walk_at "st"
    rw [in_letters]
    exact k
  · rw [isLet_long (show x.length ≠ 1 by omega)] at k
    exact k
end
section
abbrev s_BadText___init__ : Stmt := inClass (top 4) 0
theorem sc_BadText___init__ : FnScope ["self", "place"] ["self", "place"] (defScope s_BadText___init__) := ⟨rfl, rfl, rfl, by decide +kernel, rfl, by decide +kernel, by decide +kernel⟩
theorem e_BadText {P : Program} {w : World} {K : PySem.W.Frag} {mg : Str → Option Value} {base : Heap} {cl : Nat → Addr} {f : Addr} {fd : FuncData} {BW : Addr} (iC : PySem.W.findIn K (.ref (cl 12)) "__init__" = some (some (.ref f))) (tI : PySem.W.typeIn K (.ref f) = some (.type "function")) (bw : BaseX K BW) (gw : mg "WebError" = some (.ref BW)) (Z : ZZ K w mg cl) (Fn : Fun K "__init__" "BadText.__init__" s_BadText___init__ f fd) : Err P w K mg base 1 "BadText" (cl 12) "place" := by
  exact errD Z.x12 iC tI Z.g_BadText Fn sc_BadText___init__ rfl rfl (fun _ _ _ _ _ _ us hl => match us, hl with | [_, _], _ => rfl) fun cdv A outer s H E => ⟨_, pss_cons (ps_expr (pe_exinit bw (by rfl) gw (pa_cons (pv 0) (pa_cons pe_str pa_nil)))) (pss_one (ps_osx (pv 0) (pv 1) rfl))⟩
end
section
abbrev s_is_ascending : Stmt := top 34
theorem sc_is_ascending : FnScope ["some", "one", "other"] ["some"] (defScope s_is_ascending) := ⟨rfl, rfl, rfl, by decide +kernel, rfl, by decide +kernel, by decide +kernel⟩
theorem c_is_ascending {P : Program} {w : World} {K : PySem.W.Frag} {mg : Str → Option Value} {base : Heap} {cl : Nat → Addr} {f : Addr} {fd : FuncData} (hm : mg "is_ascending" = some (.ref f)) (B : Blt mg) (Z : ZZ K w mg cl) (Fn : Fun K "is_ascending" "is_ascending" s_is_ascending f fd) : Cal P w K mg base 1 "is_ascending" (spN FK ⟨K, cl⟩ S_ascendX) [] := by
  have fz := Z.z0
  have gz := Z.z1
  refine calD hm Fn sc_is_ascending (by intro ds W post h; first | (obtain ⟨rfl, _⟩ := h; rfl) | (obtain ⟨_, rfl, _⟩ := h; rfl) | (obtain ⟨_, _, rfl, _⟩ := h; rfl) | (obtain ⟨_, _, _, rfl, _⟩ := h; rfl) | (obtain ⟨_, _, _, _, rfl, _⟩ := h; rfl) | (obtain ⟨_, _, _, _, _, rfl, _⟩ := h; rfl) | (obtain ⟨_, _, _, _, _, _, rfl, _⟩ := h; rfl) | (obtain ⟨_, _, _, _, _, _, _, rfl, _⟩ := h; rfl) | (obtain ⟨_, _, _, _, _, _, _, _, rfl, _⟩ := h; rfl) | (obtain ⟨_, _, _, _, _, _, _, _, _, rfl, _⟩ := h; rfl) | (obtain ⟨_, _, _, _, _, _, _, _, _, _, rfl, _⟩ := h; rfl) | (obtain ⟨_, _, _, _, _, _, _, _, _, _, _, rfl, _⟩ := h; rfl)) (fun _ _ _ _ _ _ us hl => match us, hl with | [_], _ => rfl) fun cdv A outer s H E hr => ⟨_, pss_one (ps_ret (pe_callB (cr_all rfl) (by rfl) B.all bt_all (pa_cons (pe_lc (own := [("one", 1), ("other", 2)]) (by rfl) sc_is_ascending.nd (pi_zipK (by rfl) B.zip (pa_cons (pe_slice (SlR.or sl_tupA sl_str) (pv 0) po_none (po_some (pe_un un_neg pe_int))) (pa_cons (pe_slice (SlR.or sl_tupA sl_str) (pv 0) (po_some pe_int) po_none) pa_nil))) (blkOk_by (own := [("one", 1), ("other", 2)]) (N := ["some", "one", "other"]) (sc := defScope s_is_ascending) (by decide +kernel)) (fun _ _ _ _ _ => (pg_tupK (K := K) rfl (n := 2) rfl (pgs_cons (pg_name (i := 1) sc_is_ascending.nd rfl (Or.inl rfl)) (pgs_cons (pg_name (i := 2) sc_is_ascending.nd rfl (Or.inl rfl)) pgs_nil)))) (fun _ _ _ _ _ => pts_nil) (fun _ _ _ _ _ => (pe_cmpR (op_or op_lt op_lt_str) (pv 1) (pv 2) (nomark _)))) pa_nil))), ?_⟩
  rintro ds W post ⟨d, rfl, rfl, ⟨r, rfl, hl, k⟩ | ⟨s, rfl, hl, k⟩⟩
  try dsimp only [cxOf, Cx.nox, Cx.wish]
  · have h16 := sizeLine_eq
    walk_at "st"
    refine ev_lcM (ei_zipK ?_)
    walk_at "st"
    refine ca_slOrL (ca_slT ?_)
    rw [cutD_init, map_take_sub]
    walk_at "st"
    refine ca_slOrL (ca_slT ?_)
    rw [cutD_d1, map_drop_1]
    walk_at "st"
    refine ⟨_, _, _, _, rfl, .inr (.inl rfl), .inr (.inl rfl), (ltL (r.take (r.length - 1)) (r.drop 1)).map D.bl, fun i d e hd he => ?_, by rw [List.length_map, ltL_len, pairs2_len, List.length_map, List.length_map], by rw [List.length_map, ltL_len, List.length_take]; omega, ?_⟩
    · obtain ⟨x, y, hx, hy, rfl⟩ := pairs2_get hd
      rw [List.getElem?_map] at hx hy he
      obtain ⟨a, ha, rfl⟩ := Option.map_eq_some_iff.mp hx
      obtain ⟨b, hb, rfl⟩ := Option.map_eq_some_iff.mp hy
      rw [ltL_get ha hb] at he
      obtain rfl := Option.some.inj he
      refine tw_tup rfl (tws_cons (tw_name (by simp) (tws_cons (tw_name (by simp) (tws_nil ?_)))))
      walk_at "st"
      refine ⟨rfl, ?_⟩
      walk_at "st"
      refine bo_orL (bo_I0 ?_)
      refine ⟨?_, rfl⟩
      rw [show decide (((a : Nat) : Int) < ((b : Nat) : Int)) = decide (a < b) from decide_eq_decide.mpr (by omega)]
    · refine ea_nil (ca_all (.inl (.inl rfl)) ?_)
      rw [ltL_all]
      exact k
  · have h16 := sizeLine_eq
    have hs : (lets s).length ≤ 5000 := by rw [← str_lets]; exact hl
    walk_at "st"
    refine ev_lcM (ei_zipK ?_)
    walk_at "st"
    refine ca_slOrR (ca_slS (by omega) ?_)
    walk_at "st"
    refine ca_slOrR (ca_slS (by omega) ?_)
    walk_at "st"
    refine ⟨_, _, _, _, rfl, .inr (.inr ⟨_, rfl, rfl⟩), .inr (.inr ⟨_, rfl, rfl⟩), (ltL ((lets s).take ((lets s).length - 1)) ((lets s).drop 1)).map D.bl, fun i d e hd he => ?_, by rw [List.length_map, ltL_len, pairs2_len, List.length_map, List.length_map, cutS_init, cutS_d1], by rw [List.length_map, ltL_len, List.length_take]; omega, ?_⟩
    · obtain ⟨x, y, hx, hy, rfl⟩ := pairs2_get hd
      rw [List.getElem?_map] at hx hy he
      rw [cutS_init] at hx
      rw [cutS_d1] at hy
      obtain ⟨a, ha, rfl⟩ := Option.map_eq_some_iff.mp hx
      obtain ⟨b, hb, rfl⟩ := Option.map_eq_some_iff.mp hy
      rw [ltL_get ha hb] at he
      obtain rfl := Option.some.inj he
      refine tw_tup rfl (tws_cons (tw_name (by simp) (tws_cons (tw_name (by simp) (tws_nil ?_)))))
      walk_at "st"
      refine ⟨rfl, ?_⟩
      walk_at "st"
      refine bo_orR (bo_ltS ?_)
      refine ⟨?_, rfl⟩
      rw [show decide ((⟨#[a]⟩ : Str).cps.toList < (⟨#[b]⟩ : Str).cps.toList) = decide (a < b) from lt_sg a b]
    · refine ea_nil (ca_all (.inl (.inl rfl)) ?_)
      rw [ltL_all]
      exact k
abbrev s_is_below : Stmt := top 35
theorem sc_is_below : FnScope ["point", "thing", "other"] ["point", "thing"] (defScope s_is_below) := ⟨rfl, rfl, rfl, by decide +kernel, rfl, by decide +kernel, by decide +kernel⟩
theorem c_is_below {P : Program} {w : World} {K : PySem.W.Frag} {mg : Str → Option Value} {base : Heap} {cl : Nat → Addr} {f : Addr} {fd : FuncData} (hm : mg "is_below" = some (.ref f)) (B : Blt mg) (Z : ZZ K w mg cl) (Fn : Fun K "is_below" "is_below" s_is_below f fd)
    (c_is_ascending : Cal P w K mg base 1 "is_ascending" (spN FK ⟨K, cl⟩ S_ascendX) []) : Cal P w K mg base 2 "is_below" (spN FK ⟨K, cl⟩ S_isbelowX) [] := by
  have fz := Z.z0
  have gz := Z.z1
  refine calD hm Fn sc_is_below (by intro ds W post h; first | (obtain ⟨rfl, _⟩ := h; rfl) | (obtain ⟨_, rfl, _⟩ := h; rfl) | (obtain ⟨_, _, rfl, _⟩ := h; rfl) | (obtain ⟨_, _, _, rfl, _⟩ := h; rfl) | (obtain ⟨_, _, _, _, rfl, _⟩ := h; rfl) | (obtain ⟨_, _, _, _, _, rfl, _⟩ := h; rfl) | (obtain ⟨_, _, _, _, _, _, rfl, _⟩ := h; rfl) | (obtain ⟨_, _, _, _, _, _, _, rfl, _⟩ := h; rfl) | (obtain ⟨_, _, _, _, _, _, _, _, rfl, _⟩ := h; rfl) | (obtain ⟨_, _, _, _, _, _, _, _, _, rfl, _⟩ := h; rfl) | (obtain ⟨_, _, _, _, _, _, _, _, _, _, rfl, _⟩ := h; rfl) | (obtain ⟨_, _, _, _, _, _, _, _, _, _, _, rfl, _⟩ := h; rfl)) (fun _ _ _ _ _ _ us hl => match us, hl with | [_, _], _ => rfl) fun cdv A outer s H E hr => ⟨_, pss_cons (ps_if (pt_not (pt_val (pe_callB call_isi (by rfl) B.isinstance bt_isinstance (pa_cons (pv 1) (pa_cons (pe_bltn (by rfl) B.tuple bt_tuple (relV_ty _)) pa_nil))))) (pss_one (ps_ret pe_bl)) (pss_nil))
 (pss_cons (ps_for PassesOwn.never rfl (pi_tup (pv 1)) (pg_name (i := 2) sc_is_below.nd rfl (Or.inl rfl)) (pss_one (ps_if (PW.pt (pw_or (pt_not (pt_val (pe_callB call_isi (by rfl) B.isinstance bt_isinstance (pa_cons (pv 2) (pa_cons (pe_bltn (by rfl) B.int bt_int (relV_ty _)) pa_nil))))) (pw_or (pt_val (pe_callB call_isi (by rfl) B.isinstance bt_isinstance (pa_cons (pv 2) (pa_cons (pe_bltn (by rfl) B.bool bt_bool (relV_ty _)) pa_nil)))) (pw_or1 (pt_not (pt_chain op_le op_lt pe_int (pv 2) (pv 0))))))) (pss_one (ps_ret pe_bl)) (pss_nil))))
 (pss_one (ps_ret (pe_c c_is_ascending hr (by omega) (by rfl) (pa_cons (pv 1) pa_nil))))), ?_⟩
  rintro ds W post ⟨i, os, rfl, rfl, hi, hl, k⟩
  try dsimp only [cxOf, Cx.nox, Cx.wish]
  have h16 := sizeLine_eq
  walk_at "st"
  refine sw_for (ei_tup ?_)
  walk_at "st"
  refine ⟨fun j G' W' => W' = [] ∧ goodO i (os.take j) ∧ ∃ o, G' = [some (natD i), some (.tup (os.map optD)), o], ⟨rfl, by simp [goodO], _, rfl⟩, ?_, ?_⟩
  · rintro j d G' W' hd ⟨rfl, hg, o, rfl⟩
    rw [List.getElem?_map] at hd
    obtain ⟨x, hx, rfl⟩ := Option.map_eq_some_iff.mp hd
    refine tg_name ?_
    cases x with
    | none =>
      rw [belowB_bad (i := i) hx (fun n h => by cases h)] at k
      walk_at "st"
      refine isi_nonI ?_
      walk_at "st"
      exact k
    | some n =>
      have e0 : optD (some n) = .int ((n : Nat) : Int) := rfl
      rw [e0]
      walk_at "st"
      by_cases h : n < i
      · refine if_not (by simp; omega) ?_
        walk_at "st"
        exact ⟨rfl, hg.take hx h, _, rfl⟩
      · refine if_so (by simp; omega) ?_
        walk_at "st"
        rw [belowB_bad (i := i) hx (fun m e => by cases e; exact h)] at k
        exact k
  · rintro G' W' ⟨rfl, hg, o, rfl⟩
    rw [List.length_map, List.take_length] at hg
    obtain ⟨r, e, h2⟩ := hg.all
    subst e
    rw [h2] at k
    rw [List.length_map] at hl
    walk_at "st"
    refine hand0 ⟨_, rfl, rfl, .inl ⟨r, by rw [optD_row], hl, k⟩⟩
    try simp only [List.nil_append]
    try walk_at "st"
abbrev s_are_below : Stmt := top 36
theorem sc_are_below : FnScope ["thing", "point", "below"] ["thing"] (defScope s_are_below) := ⟨rfl, rfl, rfl, by decide +kernel, rfl, by decide +kernel, by decide +kernel⟩
theorem c_are_below {P : Program} {w : World} {K : PySem.W.Frag} {mg : Str → Option Value} {base : Heap} {cl : Nat → Addr} {f : Addr} {fd : FuncData} (hm : mg "are_below" = some (.ref f)) (B : Blt mg) (Z : ZZ K w mg cl) (Fn : Fun K "are_below" "are_below" s_are_below f fd)
    (c_is_below : Cal P w K mg base 2 "is_below" (spN FK ⟨K, cl⟩ S_isbelowX) []) : Cal P w K mg base 3 "are_below" (spN FK ⟨K, cl⟩ S_arebelow) [] := by
  have fz := Z.z0
  have gz := Z.z1
  refine calD hm Fn sc_are_below (by intro ds W post h; first | (obtain ⟨rfl, _⟩ := h; rfl) | (obtain ⟨_, rfl, _⟩ := h; rfl) | (obtain ⟨_, _, rfl, _⟩ := h; rfl) | (obtain ⟨_, _, _, rfl, _⟩ := h; rfl) | (obtain ⟨_, _, _, _, rfl, _⟩ := h; rfl) | (obtain ⟨_, _, _, _, _, rfl, _⟩ := h; rfl) | (obtain ⟨_, _, _, _, _, _, rfl, _⟩ := h; rfl) | (obtain ⟨_, _, _, _, _, _, _, rfl, _⟩ := h; rfl) | (obtain ⟨_, _, _, _, _, _, _, _, rfl, _⟩ := h; rfl) | (obtain ⟨_, _, _, _, _, _, _, _, _, rfl, _⟩ := h; rfl) | (obtain ⟨_, _, _, _, _, _, _, _, _, _, rfl, _⟩ := h; rfl) | (obtain ⟨_, _, _, _, _, _, _, _, _, _, _, rfl, _⟩ := h; rfl)) (fun _ _ _ _ _ _ us hl => match us, hl with | [_], _ => rfl) fun cdv A outer s H E hr => ⟨_, pss_cons (ps_if (PW.pt (pw_or (pt_not (pt_val (pe_callB call_isi (by rfl) B.isinstance bt_isinstance (pa_cons (pv 0) (pa_cons (pe_bltn (by rfl) B.tuple bt_tuple (relV_ty _)) pa_nil))))) (pw_or1 (pt_cmpR op_eq (pe_callB call_len (by rfl) B.len bt_len (pa_cons (pv 0) pa_nil)) pe_int (nomark _))))) (pss_one (ps_ret pe_bl)) (pss_nil))
 (pss_one (ps_ret (pe_callB (cr_all rfl) (by rfl) B.all bt_all (pa_cons (pe_lc (own := [("point", 1), ("below", 2)]) (by rfl) sc_are_below.nd (pi_enumK (by rfl) B.enumerate (pa_cons (pv 0) pa_nil)) (blkOk_by (own := [("point", 1), ("below", 2)]) (N := ["thing", "point", "below"]) (sc := defScope s_are_below) (by decide +kernel)) (fun _ _ _ _ _ => (pg_tupK (K := K) rfl (n := 2) rfl (pgs_cons (pg_name (i := 1) sc_are_below.nd rfl (Or.inl rfl)) (pgs_cons (pg_name (i := 2) sc_are_below.nd rfl (Or.inl rfl)) pgs_nil)))) (fun _ _ _ _ _ => pts_nil) (fun _ _ _ _ _ => (pe_c c_is_below hr (by omega) (by rfl) (pa_cons (pv 1) (pa_cons (pv 2) pa_nil))))) pa_nil)))), ?_⟩
  rintro ds W post ⟨rs, rfl, rfl, hr, hn, k⟩
  try dsimp only [cxOf, Cx.nox, Cx.wish]
  have h16 := sizeLine_eq
  have hf := hr.few
  have hne : rs.length ≠ 0 := fun e => hn (List.length_eq_zero_iff.mp e)
  walk_at "st"
  refine if_dec (fun h => ?_) (fun h => ?_)
  · exact absurd (by simpa using h) hn
  walk_at "st"
  refine ev_lcM (ei_enumK ?_)
  walk_at "st"
  refine ⟨_, _, rfl, .inr (.inl rfl), List.replicate _ (.bl true), fun i d e hd he => ?_, List.length_replicate, by rw [List.length_replicate, pairsD_len, List.length_map]; omega, ?_⟩
  · obtain ⟨x, hx, rfl⟩ := pairsD_get hd
    rw [List.getElem?_map] at hx
    obtain ⟨r, hr2, rfl⟩ := Option.map_eq_some_iff.mp hx
    obtain ⟨a1, a2⟩ := hr.asc i r hr2
    have hi := (List.getElem?_eq_some_iff.mp hr2).1
    have ee := List.eq_of_mem_replicate (List.mem_of_getElem? he)
    subst ee
    refine tw_tup rfl (tws_cons (tw_name (by simp) (tws_cons (tw_name (by simp) (tws_nil ?_)))))
    walk_at "st"
    refine ⟨rfl, ?_⟩
    walk_at "st"
    refine hand0 ⟨0 + i, r.map some, by rw [optD_row]; rfl, rfl, by omega, by have := low_len (a1.imp fun h => Nat.ne_of_lt h) a2; rw [List.length_map]; omega, ?_⟩
    try simp only [List.nil_append]
    try walk_at "st"
    rw [belowB_row a1 fun k hk => by have := a2 k hk; omega]
    exact ⟨rfl, trivial⟩
  · rw [← yes_bl]
    refine ea_nil (ca_all (.inl (.inl rfl)) ?_)
    rw [all_yes]
    exact k
abbrev s_is_letters : Stmt := top 37
theorem sc_is_letters : FnScope ["thing", "letter"] ["thing"] (defScope s_is_letters) := ⟨rfl, rfl, rfl, by decide +kernel, rfl, by decide +kernel, by decide +kernel⟩
theorem c_is_letters {P : Program} {w : World} {K : PySem.W.Frag} {mg : Str → Option Value} {base : Heap} {cl : Nat → Addr} {f : Addr} {fd : FuncData} (hm : mg "is_letters" = some (.ref f)) (B : Blt mg) (Z : ZZ K w mg cl) (Fn : Fun K "is_letters" "is_letters" s_is_letters f fd)
    (c_is_atom : Cal P w K mg base 1 "is_atom" (spN FK ⟨K, cl⟩ S_isatom) [])
    (c_is_ascending : Cal P w K mg base 1 "is_ascending" (spN FK ⟨K, cl⟩ S_ascendX) []) : Cal P w K mg base 2 "is_letters" (spN FK ⟨K, cl⟩ S_islettersX) [] := by
  have fz := Z.z0
  have gz := Z.z1
  refine calD hm Fn sc_is_letters (by intro ds W post h; first | (obtain ⟨rfl, _⟩ := h; rfl) | (obtain ⟨_, rfl, _⟩ := h; rfl) | (obtain ⟨_, _, rfl, _⟩ := h; rfl) | (obtain ⟨_, _, _, rfl, _⟩ := h; rfl) | (obtain ⟨_, _, _, _, rfl, _⟩ := h; rfl) | (obtain ⟨_, _, _, _, _, rfl, _⟩ := h; rfl) | (obtain ⟨_, _, _, _, _, _, rfl, _⟩ := h; rfl) | (obtain ⟨_, _, _, _, _, _, _, rfl, _⟩ := h; rfl) | (obtain ⟨_, _, _, _, _, _, _, _, rfl, _⟩ := h; rfl) | (obtain ⟨_, _, _, _, _, _, _, _, _, rfl, _⟩ := h; rfl) | (obtain ⟨_, _, _, _, _, _, _, _, _, _, rfl, _⟩ := h; rfl) | (obtain ⟨_, _, _, _, _, _, _, _, _, _, _, rfl, _⟩ := h; rfl)) (fun _ _ _ _ _ _ us hl => match us, hl with | [_], _ => rfl) fun cdv A outer s H E hr => ⟨_, pss_one (ps_ret (pe_and (pe_callB call_isi (by rfl) B.isinstance bt_isinstance (pa_cons (pv 0) (pa_cons (pe_bltn (by rfl) B.str bt_str (relV_ty _)) pa_nil))) (pe_and (pe_callB (cr_all rfl) (by rfl) B.all bt_all (pa_cons (pe_lc (own := [("letter", 1)]) (by rfl) sc_is_letters.nd (pi_str (pv 0)) (blkOk_by (own := [("letter", 1)]) (N := ["thing", "letter"]) (sc := defScope s_is_letters) (by decide +kernel)) (fun _ _ _ _ _ => (pg_name (i := 1) sc_is_letters.nd rfl (Or.inl rfl))) (fun _ _ _ _ _ => pts_nil) (fun _ _ _ _ _ => (pe_c c_is_atom hr (by omega) (by rfl) (pa_cons (pv 1) pa_nil)))) pa_nil)) (pe_one (pe_c c_is_ascending hr (by omega) (by rfl) (pa_cons (pv 0) pa_nil)))))), ?_⟩
  rintro ds W post ⟨s, rfl, rfl, hl, k⟩
  try dsimp only [cxOf, Cx.nox, Cx.wish]
  have h16 := sizeLine_eq
  have hs2 : (lets s).length ≤ 5000 := by rw [← str_lets]; exact hl
  walk_at "st"
  refine ev_lcM (ei_str ?_)
  walk_at "st"
  refine ⟨(isLs s).map D.bl, fun i d e hd he => ?_, by simp [isLs], by rw [List.length_map, isLs, List.length_map]; omega, ?_⟩
  · rw [List.getElem?_map] at hd
    obtain ⟨c, hc, rfl⟩ := Option.map_eq_some_iff.mp hd
    rw [isLs, List.map_map, List.getElem?_map, hc] at he
    obtain rfl := Option.some.inj he
    refine tw_name (by simp) ?_
    walk_at "st"
    refine ⟨rfl, ?_⟩
    walk_at "st"
    refine hand0 ⟨_, rfl, rfl, Nat.le_of_ble_eq_true rfl, ?_⟩
    try simp only [List.nil_append]
    try walk_at "st"
    rw [show (⟨#[c]⟩ : Str) = sg c from rfl, isLB_sg]
    exact ⟨rfl, trivial⟩
  · refine ea_nil (ca_all (.inl (.inl rfl)) ?_)
    rw [isLs_all]
    refine ⟨_, rfl, ?_⟩
    unfold letB at k
    cases e : (lets s).all isLB with
    | false =>
      rw [e, Bool.false_and] at k
      walk_at "st"
      exact k
    | true =>
      rw [e, Bool.true_and] at k
      walk_at "st"
      refine hand0 ⟨_, rfl, rfl, .inr ⟨s, rfl, hl, k⟩⟩
      try simp only [List.nil_append]
      try walk_at "st"
abbrev s_are_letters : Stmt := top 38
theorem sc_are_letters : FnScope ["many", "thing", "letters"] ["many", "thing"] (defScope s_are_letters) := ⟨rfl, rfl, rfl, by decide +kernel, rfl, by decide +kernel, by decide +kernel⟩
theorem c_are_letters {P : Program} {w : World} {K : PySem.W.Frag} {mg : Str → Option Value} {base : Heap} {cl : Nat → Addr} {f : Addr} {fd : FuncData} (hm : mg "are_letters" = some (.ref f)) (B : Blt mg) (Z : ZZ K w mg cl) (Fn : Fun K "are_letters" "are_letters" s_are_letters f fd)
    (c_is_letters : Cal P w K mg base 2 "is_letters" (spN FK ⟨K, cl⟩ S_islettersX) []) : Cal P w K mg base 3 "are_letters" (spN FK ⟨K, cl⟩ S_areletters) [] := by
  have fz := Z.z0
  have gz := Z.z1
  refine calD hm Fn sc_are_letters (by intro ds W post h; first | (obtain ⟨rfl, _⟩ := h; rfl) | (obtain ⟨_, rfl, _⟩ := h; rfl) | (obtain ⟨_, _, rfl, _⟩ := h; rfl) | (obtain ⟨_, _, _, rfl, _⟩ := h; rfl) | (obtain ⟨_, _, _, _, rfl, _⟩ := h; rfl) | (obtain ⟨_, _, _, _, _, rfl, _⟩ := h; rfl) | (obtain ⟨_, _, _, _, _, _, rfl, _⟩ := h; rfl) | (obtain ⟨_, _, _, _, _, _, _, rfl, _⟩ := h; rfl) | (obtain ⟨_, _, _, _, _, _, _, _, rfl, _⟩ := h; rfl) | (obtain ⟨_, _, _, _, _, _, _, _, _, rfl, _⟩ := h; rfl) | (obtain ⟨_, _, _, _, _, _, _, _, _, _, rfl, _⟩ := h; rfl) | (obtain ⟨_, _, _, _, _, _, _, _, _, _, _, rfl, _⟩ := h; rfl)) (fun _ _ _ _ _ _ us hl => match us, hl with | [_, _], _ => rfl) fun cdv A outer s H E hr => ⟨_, pss_one (ps_ret (pe_and (pe_callB call_isi (by rfl) B.isinstance bt_isinstance (pa_cons (pv 1) (pa_cons (pe_bltn (by rfl) B.tuple bt_tuple (relV_ty _)) pa_nil))) (pe_and (pe_cmpR op_eq (pe_callB call_len (by rfl) B.len bt_len (pa_cons (pv 1) pa_nil)) (pv 0) (nomark _)) (pe_one (pe_callB (cr_all rfl) (by rfl) B.all bt_all (pa_cons (pe_lc (own := [("letters", 2)]) (by rfl) sc_are_letters.nd (pi_tup (pv 1)) (blkOk_by (own := [("letters", 2)]) (N := ["many", "thing", "letters"]) (sc := defScope s_are_letters) (by decide +kernel)) (fun _ _ _ _ _ => (pg_name (i := 2) sc_are_letters.nd rfl (Or.inl rfl))) (fun _ _ _ _ _ => pts_nil) (fun _ _ _ _ _ => (pe_c c_is_letters hr (by omega) (by rfl) (pa_cons (pv 2) pa_nil)))) pa_nil)))))), ?_⟩
  rintro ds W post ⟨l, rfl, rfl, hl, hs, k⟩
  try dsimp only [cxOf, Cx.nox, Cx.wish]
  have h16 := sizeLine_eq
  walk_at "st"
  refine if_dec (fun h => ?_) (fun h => ?_)
  · walk_at "st"
    refine ev_lcM (ei_tup ?_)
    walk_at "st"
    refine ⟨List.replicate l.length (.bl true), fun i d e hd he => ?_, by simp, by rw [List.length_replicate]; omega, ?_⟩
    · rw [List.getElem?_map] at hd
      obtain ⟨s, hs2, rfl⟩ := Option.map_eq_some_iff.mp hd
      obtain ⟨a1, a2⟩ := hs s (List.mem_of_getElem? hs2)
      have ee := List.eq_of_mem_replicate (List.mem_of_getElem? he)
      subst ee
      refine tw_name (by simp) ?_
      walk_at "st"
      refine ⟨rfl, ?_⟩
      walk_at "st"
      refine hand0 ⟨s, rfl, rfl, by have := letters_len a1 a2; omega, ?_⟩
      try simp only [List.nil_append]
      try walk_at "st"
      rw [letB_iff.mpr ⟨a1, a2⟩]
      exact ⟨rfl, trivial⟩
    · rw [← yes_bl]
      refine ea_nil (ca_all (.inl (.inl rfl)) ?_)
      rw [all_yes]
      exact k
  · exact absurd (by simp) h
abbrev s_beneath_by : Stmt := top 39
theorem sc_beneath_by : FnScope ["below", "found", "points", "met", "point", "other"] ["below"] (defScope s_beneath_by) := ⟨rfl, rfl, rfl, by decide +kernel, rfl, by decide +kernel, by decide +kernel⟩
theorem c_beneath_by {P : Program} {w : World} {K : PySem.W.Frag} {mg : Str → Option Value} {base : Heap} {cl : Nat → Addr} {f : Addr} {fd : FuncData} (hm : mg "beneath_by" = some (.ref f)) (B : Blt mg) (Z : ZZ K w mg cl) (Fn : Fun K "beneath_by" "beneath_by" s_beneath_by f fd) : Cal P w K mg base 1 "beneath_by" (spN FK ⟨K, cl⟩ S_beneathby) [] := by
  have fz := Z.z0
  have gz := Z.z1
  refine calD hm Fn sc_beneath_by (by intro ds W post h; first | (obtain ⟨rfl, _⟩ := h; rfl) | (obtain ⟨_, rfl, _⟩ := h; rfl) | (obtain ⟨_, _, rfl, _⟩ := h; rfl) | (obtain ⟨_, _, _, rfl, _⟩ := h; rfl) | (obtain ⟨_, _, _, _, rfl, _⟩ := h; rfl) | (obtain ⟨_, _, _, _, _, rfl, _⟩ := h; rfl) | (obtain ⟨_, _, _, _, _, _, rfl, _⟩ := h; rfl) | (obtain ⟨_, _, _, _, _, _, _, rfl, _⟩ := h; rfl) | (obtain ⟨_, _, _, _, _, _, _, _, rfl, _⟩ := h; rfl) | (obtain ⟨_, _, _, _, _, _, _, _, _, rfl, _⟩ := h; rfl) | (obtain ⟨_, _, _, _, _, _, _, _, _, _, rfl, _⟩ := h; rfl) | (obtain ⟨_, _, _, _, _, _, _, _, _, _, _, rfl, _⟩ := h; rfl)) (fun _ _ _ _ _ _ us hl => match us, hl with | [_], _ => rfl) fun cdv A outer s H E hr => ⟨_, pss_cons (ps_set (i := 1) sc_beneath_by.nd rfl (Or.inl rfl) (pe_lst pa_nil))
 (pss_cons (ps_for PassesOwn.never rfl (pi_tup (pv 0)) (pg_name (i := 2) sc_beneath_by.nd rfl (Or.inl rfl)) (pss_cons (ps_set (i := 3) sc_beneath_by.nd rfl (Or.inl rfl) pe_dnewK)
 (pss_cons (ps_for PassesOwn.never rfl (pi_tup (pv 2)) (pg_name (i := 4) sc_beneath_by.nd rfl (Or.inl rfl)) (pss_cons (ps_dput (by exact hu_of hr) (pv 3) (pv 4) pe_bl rfl)
 (pss_one (ps_expr (pe_dupd (pv 3) (pe_dc (own := [("other", 5)]) (by rfl) sc_beneath_by.nd (pi_tup (pe_ix ix_list (pv 1) (pv 4) (fun _ _ => rfl))) (blkOk_by (own := [("other", 5)]) (N := ["below", "found", "points", "met", "point", "other"]) (sc := defScope s_beneath_by) (by decide +kernel)) (fun _ _ _ _ _ => (pg_name (i := 5) sc_beneath_by.nd rfl (Or.inl rfl))) (fun _ _ _ _ _ => pts_nil) (fun _ _ _ _ _ => (pv 5)) (fun _ _ _ _ _ => pe_bl)) ⟨by rfl, by rfl, by rfl, by rfl⟩)))))
 (pss_one (ps_expr (pe_bm PySem.F.plainAttrs_list PySem.F.slot_list_append PySem.F.type_list_append mt_append (pv 1) (pa_cons (pe_callTy call_tuple_of (by rfl) B.tuple bt_tuple (pa_cons (pe_callB (call_sortedDI rfl) (by rfl) B.sorted bt_sorted (pa_cons (pv 3) pa_nil)) pa_nil)) pa_nil)))))))
 (pss_one (ps_ret (pv 1)))), ?_⟩
  rintro ds W post ⟨rs, rfl, rfl, hr, k⟩
  try dsimp only [cxOf, Cx.nox, Cx.wish]
  have h16 := sizeLine_eq
  refine sw_seq (sw_set (ev_lst ?_))
  walk_at "st"
  intro p1 hp1
  refine sw_seq (sw_for (ei_tup ?_))
  walk_at "st"
  refine ⟨fun j G' W' => W' = [(p1, .lst ((bensF (rs.take j)).map rowD))] ∧ ∃ o2 o3 o4, G' = [some (rowsD rs), some (.adr p1), o2, o3, o4, none], ⟨rfl, _, _, _, rfl⟩, ?_, ?_⟩
  · rintro j d G' W' hd ⟨rfl, o2, o3, o4, rfl⟩
    rw [List.getElem?_map] at hd
    obtain ⟨r, hr2, rfl⟩ := Option.map_eq_some_iff.mp hd
    obtain ⟨a1, a2⟩ := hr.asc j r hr2
    have hj := (List.getElem?_eq_some_iff.mp hr2).1
    have hf := hr.few
    have hlen : (bensF (rs.take j)).length = j := by rw [bensF_len, List.length_take]; omega
    have etk : rs.take (j + 1) = rs.take j ++ [r] := by rw [List.take_add_one, hr2]; rfl
    refine tg_name ?_
    refine sw_seq (sw_set (ev_dnew fun p2 hp2 => ?_))
    refine sw_seq (sw_for (ei_tup ?_))
    walk_at "st"
    refine ⟨fun i G' W' => ∃ ks : List Nat, ks.Nodup ∧ (∀ x, x ∈ ks ↔ x ∈ r.take i ∨ ∃ k ∈ r.take i, x ∈ (bensF (rs.take j)).getD k []) ∧ W' = [(p2, .dp (kni ks)), (p1, .lst ((bensF (rs.take j)).map rowD))] ∧ ∃ o4, G' = [some (rowsD rs), some (.adr p1), some (rowD r), some (.adr p2), o4, none], ⟨[], List.nodup_nil, by simp, rfl, _, rfl⟩, ?_, ?_⟩
    · rintro i d G' W' hd ⟨ks, nd, hm, rfl, o4, rfl⟩
      rw [List.getElem?_map] at hd
      obtain ⟨k, hk, rfl⟩ := Option.map_eq_some_iff.mp hd
      have hkj := a2 k (List.mem_of_getElem? hk)
      have hb : (bensF (rs.take j))[k]? = some ((bensF (rs.take j)).getD k []) := by
        rw [List.getD_eq_getElem?_getD, List.getElem?_eq_getElem (by omega)]
        rfl
      have hbl := bensF_low (hr.take j) k _ hb
      generalize hB : (bensF (rs.take j)).getD k [] = b at hb hbl
      have hks : ks.length ≤ j := low_len nd fun x hx => by
        rcases (hm x).mp hx with h | ⟨q, hq, h⟩
        · exact a2 x (List.mem_of_mem_take h)
        · have hq2 := a2 q (List.mem_of_mem_take hq)
          have hqb : (bensF (rs.take j))[q]? = some ((bensF (rs.take j)).getD q []) := by
            rw [List.getD_eq_getElem?_getD, List.getElem?_eq_getElem (by omega)]
            rfl
          have := bensF_low (hr.take j) q _ hqb x h
          omega
      have hbn : (b.foldl insK []).length ≤ k := low_len (nodup_fold_ins List.nodup_nil) fun x hx => hbl x ((mem_fold_ins.mp hx).resolve_left (by simp))
      walk_at "st"
      refine ⟨p2, kni ks, Sum.inl (k : Int), [], _, rfl, rfl, rfl, by rw [kni_len]; omega, ?_⟩
      rw [put_kni]
      refine sw_drop (ev_dupd ?_)
      walk_at "st"
      refine ⟨⟨_, .inr ⟨_, rfl, List.mem_cons_self⟩⟩, ?_⟩
      refine ev_fz (ev_dc (ei_tup ?_))
      walk_at "st"
      refine bo_ixL (.inr ⟨_, rfl, List.mem_cons_of_mem _ List.mem_cons_self⟩) (at_row (by omega)) ?_
      rw [hB]
      walk_at "st"
      refine ⟨fun t acc W' => W' = [(p2, .dp (kni (insK ks k))), (p1, .lst ((bensF (rs.take j)).map rowD))] ∧ acc = kni ((b.take t).foldl insK []), ⟨rfl, rfl⟩, ?_, ?_⟩
      · rintro t d acc W' hd ⟨rfl, rfl⟩
        rw [List.getElem?_map] at hd
        obtain ⟨x, hx, rfl⟩ := Option.map_eq_some_iff.mp hd
        have ht : ((b.take t).foldl insK []).length ≤ k := low_len (nodup_fold_ins List.nodup_nil) fun x hx => hbl x (List.mem_of_mem_take ((mem_fold_ins.mp hx).resolve_left (by simp)))
        refine tw_name (by simp) ?_
        walk_at "st"
        refine ⟨by rw [kni_len]; omega, rfl, ?_⟩
        rw [put_kni, List.take_add_one, hx, Option.toList_some, List.foldl_append]
        rfl
      · rintro acc W' ⟨rfl, rfl⟩ p3 hp3
        rw [List.length_map, List.take_length]
        refine ⟨p3, _, _, _, rfl, List.Perm.refl _, .dct _ _, ?_⟩
        refine ⟨p2, kni (insK ks k), kni (b.foldl insK []), [], _, rfl, rfl, rfl, ?_, ?_⟩
        · have : (insK ks k).length ≤ ks.length + 1 := by unfold insK; split <;> simp
          rw [kni_len, kni_len]
          omega
        rw [up_kni]
        refine ⟨_, nodup_fold_ins (nodup_insK nd), fun x => ?_, rfl, _, rfl⟩
        rw [mem_fold_ins, mem_insK, mem_fold_ins, hm x, List.take_add_one, hk, Option.toList_some]
        simp only [List.not_mem_nil, false_or, List.mem_append, List.mem_singleton]
        constructor
        · rintro (((h | ⟨q, h1, h2⟩) | h) | h)
          · exact .inl (.inl h)
          · exact .inr ⟨q, .inl h1, h2⟩
          · exact .inl (.inr h)
          · exact .inr ⟨k, .inr rfl, by rw [hB]; exact h⟩
        · rintro ((h | h) | ⟨q, h1 | h1, h2⟩)
          · exact .inl (.inl (.inl h))
          · exact .inl (.inr h)
          · exact .inl (.inl (.inr ⟨q, h1, h2⟩))
          · subst h1
            rw [hB] at h2
            exact .inr h2
    · rintro G' W' ⟨ks, nd, hm, rfl, o4, rfl⟩
      rw [List.length_map, List.take_length] at hm
      have hks : ks.length ≤ j := low_len nd fun x hx => by
        rcases (hm x).mp hx with h | ⟨q, hq, h⟩
        · exact a2 x h
        · have hq2 := a2 q hq
          have hqb : (bensF (rs.take j))[q]? = some ((bensF (rs.take j)).getD q []) := by
            rw [List.getD_eq_getElem?_getD, List.getElem?_eq_getElem (by omega)]
            rfl
          have := bensF_low (hr.take j) q _ hqb x h
          omega
      refine sw_drop (ev_drp (ev_append ?_))
      walk_at "st"
      refine ⟨p1, (bensF (rs.take j)).map rowD, [(p2, .dp (kni ks))], [], rfl, rfl, ?_⟩
      walk_at "st"
      refine ca_sortedDI (ks := ks.map fun (k : Nat) => (k : Int)) (.inr ⟨_, rfl, List.mem_cons_self⟩) (kni_map ks) (by rw [List.length_map]; omega) fun ys hp hs => ?_
      have e := sorted_kni (ms := r ++ (r.map fun k => (bensF (rs.take j)).getD k []).flatten) nd hp hs (fun x => by
        rw [hm x, List.mem_append, List.mem_flatten]
        refine or_congr Iff.rfl ⟨fun ⟨q, h1, h2⟩ => ⟨_, List.mem_map.mpr ⟨q, h1, rfl⟩, h2⟩, fun ⟨l, h1, h2⟩ => ?_⟩
        obtain ⟨q, h3, rfl⟩ := List.mem_map.mp h1
        exact ⟨q, h3, h2⟩)
      subst e
      walk_at "st"
      refine ca_tup (.inl (.inl rfl)) ?_
      walk_at "st"
      refine ⟨(bensF (rs.take j)).map rowD, [(p2, .dp (kni ks))], [], _, rfl, rfl, by rw [List.length_map]; omega, ?_⟩
      refine ⟨[(p1, .lst ((bensF (rs.take j)).map rowD ++ [rowD (ascN (r ++ (r.map fun k => (bensF (rs.take j)).getD k []).flatten))]))], by rw [List.map_map]; exact List.sublist_cons_self _ _, ?_⟩
      refine ⟨?_, _, _, _, rfl⟩
      rw [etk, bensF_snoc, List.map_append]
      rfl
  · rintro G' W' ⟨rfl, o2, o3, o4, rfl⟩
    rw [List.length_map, List.take_length]
    refine sw_fz (i := 1) rfl (List.Perm.refl _) (.lst _) ?_
    walk_at "st"
    exact k
abbrev s_heights_by : Stmt := top 40
theorem sc_heights_by : FnScope ["below", "found", "points", "point"] ["below"] (defScope s_heights_by) := ⟨rfl, rfl, rfl, by decide +kernel, rfl, by decide +kernel, by decide +kernel⟩
theorem c_heights_by {P : Program} {w : World} {K : PySem.W.Frag} {mg : Str → Option Value} {base : Heap} {cl : Nat → Addr} {f : Addr} {fd : FuncData} (hm : mg "heights_by" = some (.ref f)) (B : Blt mg) (Z : ZZ K w mg cl) (Fn : Fun K "heights_by" "heights_by" s_heights_by f fd) : Cal P w K mg base 1 "heights_by" (spN FK ⟨K, cl⟩ S_heightsby) [] := by
  have fz := Z.z0
  have gz := Z.z1
  refine calD hm Fn sc_heights_by (by intro ds W post h; first | (obtain ⟨rfl, _⟩ := h; rfl) | (obtain ⟨_, rfl, _⟩ := h; rfl) | (obtain ⟨_, _, rfl, _⟩ := h; rfl) | (obtain ⟨_, _, _, rfl, _⟩ := h; rfl) | (obtain ⟨_, _, _, _, rfl, _⟩ := h; rfl) | (obtain ⟨_, _, _, _, _, rfl, _⟩ := h; rfl) | (obtain ⟨_, _, _, _, _, _, rfl, _⟩ := h; rfl) | (obtain ⟨_, _, _, _, _, _, _, rfl, _⟩ := h; rfl) | (obtain ⟨_, _, _, _, _, _, _, _, rfl, _⟩ := h; rfl) | (obtain ⟨_, _, _, _, _, _, _, _, _, rfl, _⟩ := h; rfl) | (obtain ⟨_, _, _, _, _, _, _, _, _, _, rfl, _⟩ := h; rfl) | (obtain ⟨_, _, _, _, _, _, _, _, _, _, _, rfl, _⟩ := h; rfl)) (fun _ _ _ _ _ _ us hl => match us, hl with | [_], _ => rfl) fun cdv A outer s H E hr => ⟨_, pss_cons (ps_set (i := 1) sc_heights_by.nd rfl (Or.inr rfl) (pe_lst pa_nil))
 (pss_cons (ps_for PassesOwn.never rfl (pi_tup (pv 0)) (pg_name (i := 2) sc_heights_by.nd rfl (Or.inl rfl)) (pss_one (ps_expr (pe_bm PySem.F.plainAttrs_list PySem.F.slot_list_append PySem.F.type_list_append mt_append (pv 1) (pa_cons (pe_callB (cr_max rfl) (by rfl) B.max bt_max (pa_cons (pe_lst (pa_cons pe_int (StX.pa_star (pe_lc (own := [("point", 3)]) (by rfl) sc_heights_by.nd (pi_tup (pv 2)) (blkOk_by (own := [("point", 3)]) (N := ["below", "found", "points", "point"]) (sc := defScope s_heights_by) (by decide +kernel)) (fun _ _ _ _ _ => (pg_name (i := 3) sc_heights_by.nd rfl (Or.inl rfl))) (fun _ _ _ _ _ => pts_nil) (fun _ _ _ _ _ => (pe_op op_add pe_int (pe_ix (ix_listK (K := K) rfl) (pv 1) (pv 3) (fun _ _ => rfl))))) pa_nil))) pa_nil)) pa_nil)))))
 (pss_one (ps_ret (pv 1)))), ?_⟩
  rintro ds W post ⟨rs, rfl, rfl, hr, k⟩
  try dsimp only [cxOf, Cx.nox, Cx.wish]
  have h16 := sizeLine_eq
  refine sw_seq (sw_set (ev_lst ?_))
  walk_at "st"
  intro p1 hp1
  refine sw_seq (sw_for (ei_tup ?_))
  walk_at "st"
  refine ⟨fun j G' W' => W' = [(p1, .lst ((hgtF (rs.take j)).map natD))] ∧ ∃ o2, G' = [some (rowsD rs), some (.adr p1), o2, none], ⟨rfl, _, rfl⟩, ?_, ?_⟩
  · rintro j d G' W' hd ⟨rfl, o2, rfl⟩
    rw [List.getElem?_map] at hd
    obtain ⟨r, hr2, rfl⟩ := Option.map_eq_some_iff.mp hd
    obtain ⟨a1, a2⟩ := hr.asc j r hr2
    have hj := (List.getElem?_eq_some_iff.mp hr2).1
    have hf := hr.few
    have hlen : (hgtF (rs.take j)).length = j := by rw [hgtF_len, List.length_take]; omega
    have hrl : r.length ≤ j := low_len (a1.imp fun h => Nat.ne_of_lt h) a2
    have etk : rs.take (j + 1) = rs.take j ++ [r] := by rw [List.take_add_one, hr2]; rfl
    refine tg_name ?_
    refine sw_drop (ev_append ?_)
    walk_at "st"
    refine ⟨p1, (hgtF (rs.take j)).map natD, [], [], rfl, rfl, ?_⟩
    walk_at "st"
    refine ea_star (ev_lcM (ei_tup ?_))
    walk_at "st"
    refine ⟨(r.map fun k => 1 + (hgtF (rs.take j)).getD k 0).map natD, fun i d e hd he => ?_, by simp, by simp; omega, ?_⟩
    · rw [List.getElem?_map] at hd
      obtain ⟨k, hk, rfl⟩ := Option.map_eq_some_iff.mp hd
      rw [List.getElem?_map, List.getElem?_map, hk] at he
      have he : some (natD (1 + (hgtF (rs.take j)).getD k 0)) = some e := he
      have hkj := a2 k (List.mem_of_getElem? hk)
      cases he
      refine tw_name (by simp) ?_
      walk_at "st"
      refine ⟨rfl, ?_⟩
      walk_at "st"
      refine bo_ixL (.inr ⟨_, rfl, List.mem_cons_self⟩) (at_nat (by omega)) ?_
      walk_at "st"
      refine ⟨?_, rfl⟩
      show D.int _ = D.int _
      congr 1
    · refine ⟨_, .inl (.inl (.inl rfl)), ?_⟩
      walk_at "st"
      obtain ⟨m1, m2⟩ := fold_max (r.map fun k => 1 + (hgtF (rs.take j)).getD k 0) 0
      refine ⟨by simp; omega, ?_⟩
      refine ea_nil (ca_max (ns := (0 :: r.map fun k => 1 + (hgtF (rs.take j)).getD k 0).map fun (k : Nat) => (k : Int)) (m := (((r.map fun k => 1 + (hgtF (rs.take j)).getD k 0).foldl max 0 : Nat) : Int)) (.inl (.inl (by simp))) (List.mem_map.mpr ⟨_, m1, rfl⟩) (fun y hy => by
        obtain ⟨x, hx, rfl⟩ := List.mem_map.mp hy
        have := m2 x hx
        omega) ?_)
      walk_at "st"
      refine ⟨(hgtF (rs.take j)).map natD, [], [], _, rfl, rfl, by rw [List.length_map]; omega, ?_⟩
      refine ⟨?_, _, rfl⟩
      rw [etk, hgtF_snoc, List.map_append]
      rfl
  · rintro G' W' ⟨rfl, o2, rfl⟩
    rw [List.length_map, List.take_length]
    refine sw_fz (i := 1) rfl (List.Perm.refl _) (.lst _) ?_
    walk_at "st"
    exact k
end
section
abbrev s_Web___init__ : Stmt := inClass (top 41) 0
theorem sc_Web___init__ : FnScope ["self", "below", "atoms"] ["self", "below", "atoms"] (defScope s_Web___init__) := ⟨rfl, rfl, rfl, by decide +kernel, rfl, by decide +kernel, by decide +kernel⟩
theorem m_Web {P : Program} {w : World} {K : PySem.W.Frag} {mg : Str → Option Value} {base : Heap} {cl : Nat → Addr} {f : Addr} {fd : FuncData} (mk : Mk K (cl 1) f) (B : Blt mg) (Z : ZZ K w mg cl) (Fn : Fun K "__init__" "Web.__init__" s_Web___init__ f fd)
    (c_are_below : Cal P w K mg base 3 "are_below" (spN FK ⟨K, cl⟩ S_arebelow) [])
    (c_are_letters : Cal P w K mg base 3 "are_letters" (spN FK ⟨K, cl⟩ S_areletters) [])
    (c_beneath_by : Cal P w K mg base 1 "beneath_by" (spN FK ⟨K, cl⟩ S_beneathby) [])
    (c_heights_by : Cal P w K mg base 1 "heights_by" (spN FK ⟨K, cl⟩ S_heightsby) []) : Mak P w K mg base 4 "Web" (cl 1) (spN FK ⟨K, cl⟩ S_initW) [] := by
  have fz := Z.z0
  have gz := Z.z1
  refine makD mk Z.g_Web Fn sc_Web___init__ (by intro ds W post h; first | (obtain ⟨rfl, _⟩ := h; rfl) | (obtain ⟨_, rfl, _⟩ := h; rfl) | (obtain ⟨_, _, rfl, _⟩ := h; rfl) | (obtain ⟨_, _, _, rfl, _⟩ := h; rfl) | (obtain ⟨_, _, _, _, rfl, _⟩ := h; rfl) | (obtain ⟨_, _, _, _, _, rfl, _⟩ := h; rfl) | (obtain ⟨_, _, _, _, _, _, rfl, _⟩ := h; rfl) | (obtain ⟨_, _, _, _, _, _, _, rfl, _⟩ := h; rfl) | (obtain ⟨_, _, _, _, _, _, _, _, rfl, _⟩ := h; rfl) | (obtain ⟨_, _, _, _, _, _, _, _, _, rfl, _⟩ := h; rfl) | (obtain ⟨_, _, _, _, _, _, _, _, _, _, rfl, _⟩ := h; rfl) | (obtain ⟨_, _, _, _, _, _, _, _, _, _, _, rfl, _⟩ := h; rfl)) (fun _ _ _ _ _ _ us hl => match us, hl with | [_, _, _], _ => rfl) fun cdv A outer s H E hr => ⟨_, pss_cons (ps_if (pt_not (pt_val (pe_c c_are_below hr (by omega) (by rfl) (pa_cons (pv 1) pa_nil)))) (pss_one (ps_never)) (pss_nil))
 (pss_cons (ps_if (pt_not (pt_val (pe_c c_are_letters hr (by omega) (by rfl) (pa_cons (pe_callB call_len (by rfl) B.len bt_len (pa_cons (pv 1) pa_nil)) (pa_cons (pv 2) pa_nil))))) (pss_one (ps_never)) (pss_nil))
 (pss_cons (ps_fld (pv 0) (pv 1) rfl)
 (pss_cons (ps_fld (pv 0) (pv 2) rfl)
 (pss_cons (ps_fld (pv 0) (pe_c c_beneath_by hr (by omega) (by rfl) (pa_cons (pv 1) pa_nil)) rfl)
 (pss_one (ps_fld (pv 0) (pe_c c_heights_by hr (by omega) (by rfl) (pa_cons (pv 1) pa_nil)) rfl)))))), ?_⟩
  rintro ds W post ⟨x, w, rfl, rfl, hw, k⟩
  try dsimp only [cxOf, Cx.nox, Cx.wish]
  have hlen := hw.len
  have hf := hw.rows.few
  walk_at "st"
  refine hand0 ⟨w.below, rfl, rfl, hw.rows, hw.some_, ?_⟩
  try simp only [List.nil_append]
  try walk_at "st"
  refine hand0 ⟨w.atoms, by rw [List.length_map, hlen]; rfl, rfl, by omega, hw.lets, ?_⟩
  try simp only [List.nil_append]
  try walk_at "st"
  refine rcv_newC (c := 1) (nm := wbNames) Z.z1 (by decide +kernel) (by decide +kernel) (by decide) ?_
  walk_at "st"
  refine rcv_newC (c := 1) (nm := wbNames) Z.z1 (by decide +kernel) (by decide +kernel) (by decide) ?_
  walk_at "st"
  refine hand0 ⟨w.below, rfl, rfl, hw.rows, ?_⟩
  try simp only [List.nil_append]
  try walk_at "st"
  refine rcv_newC (c := 1) (nm := wbNames) Z.z1 (by decide +kernel) (by decide +kernel) (by decide) ?_
  walk_at "st"
  refine hand0 ⟨w.below, rfl, rfl, hw.rows, ?_⟩
  try simp only [List.nil_append]
  try walk_at "st"
  refine rcv_newC (c := 1) (nm := wbNames) Z.z1 (by decide +kernel) (by decide +kernel) (by decide) ?_
  exact k
end
section
abbrev s_line_of : Stmt := top 42
theorem sc_line_of : FnScope ["points", "letters", "point"] ["points", "letters"] (defScope s_line_of) := ⟨rfl, rfl, rfl, by decide +kernel, rfl, by decide +kernel, by decide +kernel⟩
theorem c_line_of {P : Program} {w : World} {K : PySem.W.Frag} {mg : Str → Option Value} {base : Heap} {cl : Nat → Addr} {f : Addr} {fd : FuncData} (hm : mg "line_of" = some (.ref f)) (B : Blt mg) (Z : ZZ K w mg cl) (Fn : Fun K "line_of" "line_of" s_line_of f fd) : Cal P w K mg base 1 "line_of" (spN FK ⟨K, cl⟩ S_lineof) [] := by
  have fz := Z.z0
  have gz := Z.z1
  refine calD hm Fn sc_line_of (by intro ds W post h; first | (obtain ⟨rfl, _⟩ := h; rfl) | (obtain ⟨_, rfl, _⟩ := h; rfl) | (obtain ⟨_, _, rfl, _⟩ := h; rfl) | (obtain ⟨_, _, _, rfl, _⟩ := h; rfl) | (obtain ⟨_, _, _, _, rfl, _⟩ := h; rfl) | (obtain ⟨_, _, _, _, _, rfl, _⟩ := h; rfl) | (obtain ⟨_, _, _, _, _, _, rfl, _⟩ := h; rfl) | (obtain ⟨_, _, _, _, _, _, _, rfl, _⟩ := h; rfl) | (obtain ⟨_, _, _, _, _, _, _, _, rfl, _⟩ := h; rfl) | (obtain ⟨_, _, _, _, _, _, _, _, _, rfl, _⟩ := h; rfl) | (obtain ⟨_, _, _, _, _, _, _, _, _, _, rfl, _⟩ := h; rfl) | (obtain ⟨_, _, _, _, _, _, _, _, _, _, _, rfl, _⟩ := h; rfl)) (fun _ _ _ _ _ _ us hl => match us, hl with | [_, _], _ => rfl) fun cdv A outer s H E hr => ⟨_, pss_one (ps_ret (pe_join (C8.pe_gc (by rfl) Z.g_BLANK) (pe_lst (pa_cons (pe_ifExp (pt_cmpR op_ne (pv 1) pe_str (nomark _)) (pv 1) (C8.pe_gc (by rfl) Z.g_BARE)) (StX.pa_star (pe_lc (own := [("point", 2)]) (by rfl) sc_line_of.nd (pi_tup (pv 0)) (blkOk_by (own := [("point", 2)]) (N := ["points", "letters", "point"]) (sc := defScope s_line_of) (by decide +kernel)) (fun _ _ _ _ _ => (pg_name (i := 2) sc_line_of.nd rfl (Or.inl rfl))) (fun _ _ _ _ _ => pts_nil) (fun _ _ _ _ _ => (pe_callTy call_str_int (by rfl) B.str bt_str (pa_cons (pv 2) pa_nil)))) pa_nil))))), ?_⟩
  rintro ds W post ⟨s, r, rfl, rfl, ho, k⟩
  try dsimp only [cxOf, Cx.nox, Cx.wish]
  have h16 := sizeLine_eq
  have hf := ho.few
  have hs := ho.sum
  walk_at "st"
  refine ev_join ?_
  walk_at "st"
  rcases word_ways s with ⟨h, e⟩ | ⟨h, e⟩
  all_goals
    simp only [lineS, lineL, e] at k hs
  all_goals first | ((refine' if_not ?hc ?_); (case hc => simp [h]; done)) | ((refine' if_so ?hc ?_); (case hc => simp [h]; done))
  all_goals
    walk_at "st"
    refine ea_star ?_
    walk_at "st"
    refine ev_lcM (ei_tup ?_)
    walk_at "st"
    refine ⟨(r.map numS).map .str, fun i d e hd he => ?_, by simp, by simp only [List.length_map]; omega, ?_⟩
    · rw [List.getElem?_map] at hd
      obtain ⟨n, hn, rfl⟩ := Option.map_eq_some_iff.mp hd
      rw [List.map_map, List.getElem?_map, hn] at he
      obtain rfl := Option.some.inj he
      have hl := ho.low n (List.mem_of_getElem? hn)
      refine tw_name (by simp) ?_
      walk_at "st"
      refine ⟨rfl, ?_⟩
      walk_at "st"
      exact ca_strN (by omega) ⟨rfl, rfl⟩
    · refine ⟨_, .inl (.inl (.inl rfl)), ?_⟩
      walk_at "st"
      refine ⟨by simp; omega, _ :: r.map numS, .inl (.inl (.inl (by simp))), hs, k⟩
abbrev s_number_in : Stmt := top 44
theorem sc_number_in : FnScope ["word", "sign"] ["word"] (defScope s_number_in) := ⟨rfl, rfl, rfl, by decide +kernel, rfl, by decide +kernel, by decide +kernel⟩
theorem c_number_in {P : Program} {w : World} {K : PySem.W.Frag} {mg : Str → Option Value} {base : Heap} {cl : Nat → Addr} {f : Addr} {fd : FuncData} (hm : mg "number_in" = some (.ref f)) (B : Blt mg) (Z : ZZ K w mg cl) (Fn : Fun K "number_in" "number_in" s_number_in f fd) : Cal P w K mg base 1 "number_in" (spN FK ⟨K, cl⟩ S_numinX) [] := by
  have fz := Z.z0
  have gz := Z.z1
  refine calD hm Fn sc_number_in (by intro ds W post h; first | (obtain ⟨rfl, _⟩ := h; rfl) | (obtain ⟨_, rfl, _⟩ := h; rfl) | (obtain ⟨_, _, rfl, _⟩ := h; rfl) | (obtain ⟨_, _, _, rfl, _⟩ := h; rfl) | (obtain ⟨_, _, _, _, rfl, _⟩ := h; rfl) | (obtain ⟨_, _, _, _, _, rfl, _⟩ := h; rfl) | (obtain ⟨_, _, _, _, _, _, rfl, _⟩ := h; rfl) | (obtain ⟨_, _, _, _, _, _, _, rfl, _⟩ := h; rfl) | (obtain ⟨_, _, _, _, _, _, _, _, rfl, _⟩ := h; rfl) | (obtain ⟨_, _, _, _, _, _, _, _, _, rfl, _⟩ := h; rfl) | (obtain ⟨_, _, _, _, _, _, _, _, _, _, rfl, _⟩ := h; rfl) | (obtain ⟨_, _, _, _, _, _, _, _, _, _, _, rfl, _⟩ := h; rfl)) (fun _ _ _ _ _ _ us hl => match us, hl with | [_], _ => rfl) fun cdv A outer s H E hr => ⟨_, pss_cons (ps_if (PW.pt (pw_or (pt_cmpR op_eq (pv 0) pe_str (nomark _)) (pw_or (pt_not (pt_val (pe_callB (cr_all rfl) (by rfl) B.all bt_all (pa_cons (pe_lc (own := [("sign", 1)]) (by rfl) sc_number_in.nd (pi_str (pv 0)) (blkOk_by (own := [("sign", 1)]) (N := ["word", "sign"]) (sc := defScope s_number_in) (by decide +kernel)) (fun _ _ _ _ _ => (pg_name (i := 1) sc_number_in.nd rfl (Or.inl rfl))) (fun _ _ _ _ _ => pts_nil) (fun _ _ _ _ _ => (pe_cmpR op_in_sign (pv 1) (C8.pe_gc (by rfl) Z.g_DIGITS) rfl))) pa_nil)))) (pw_or1 (PW.pt (pw_and (pt_cmpR op_gt (pe_callB call_len (by rfl) B.len bt_len (pa_cons (pv 0) pa_nil)) pe_int (nomark _)) (pw_and1 (pt_cmpR op_eq (pe_ix ix_seq (pv 0) pe_int (fun _ _ => rfl)) pe_str (nomark _))))))))) (pss_one (ps_ret pe_non)) (pss_nil))
 (pss_one (ps_ret (pe_callTy call_int_str (by rfl) B.int bt_int (pa_cons (pv 0) pa_nil)))), ?_⟩
  rintro ds W post ⟨s, rfl, rfl, hs, k⟩
  try dsimp only [cxOf, Cx.nox, Cx.wish]
  have h16 := sizeLine_eq
  have hs2 : (lets s).length ≤ 640 := by rw [← str_lets]; exact hs
  walk_at "st"
  by_cases h0 : s = ""
  · subst h0
    refine if_so (eqself) ?_
    try walk_at "st"
    rw [numO_empty] at k
    exact k
  refine if_not ((decide_eq_false h0)) ?_
  try walk_at "st"
  walk_at "st"
  refine ev_lcM (ei_str ?_)
  walk_at "st"
  refine ⟨(dgL s).map D.bl, fun i d e hd he => ?_, by simp [dgL], by rw [List.length_map, dgL, List.length_map]; omega, ?_⟩
  · rw [List.getElem?_map] at hd
    obtain ⟨c, hc, rfl⟩ := Option.map_eq_some_iff.mp hd
    rw [dgL, List.map_map, List.getElem?_map, hc] at he
    obtain rfl := Option.some.inj he
    refine tw_name (by simp) ?_
    walk_at "st"
    refine ⟨rfl, ?_⟩
    walk_at "st"
    refine bo_inSg ?_
    rw [dig_dec]
    exact ⟨rfl, rfl⟩
  refine ea_nil (ca_all (.inl (.inl rfl)) ?_)
  cases e : (dgL s).all id with
  | false =>
    walk_at "st"
    rw [numO_bad e] at k
    exact k
  | true =>
    walk_at "st"
    refine ca_lenS (by omega) ?_
    walk_at "st"
    refine if_dec (fun h => ?_) (fun h => ?_)
    · obtain ⟨c, t, hct⟩ : ∃ c t, lets s = c :: t := by
        cases e2 : lets s with
        | nil => exact absurd (str_ext (e2.trans rfl)) h0
        | cons c t => exact ⟨c, t, rfl⟩
      have hc : (lets s).head? = some c := by rw [hct]; rfl
      walk_at "st"
      refine bo_ixSqS (by omega) (at_head hc) ?_
      walk_at "st"
      have hl1 : 1 < (lets s).length := by rw [← str_lets]; omega
      by_cases h48 : c = 48
      · subst h48
        refine if_so (eqself) ?_
        try walk_at "st"
        rw [numO_zero hl1 hc] at k
        exact k
      · refine if_not ((decide_eq_false fun e => h48 (sg_inj (b := 48) e))) ?_
        try walk_at "st"
        have hn := numO_ok h0 e fun h => h48 (by rw [hc] at h; exact Option.some.inj h.2)
        rw [hn] at k
        walk_at "st"
        exact ca_intS (numO_int hn hs) hs k
    · have hn := numO_ok h0 e fun h2 => h (by have := h2.1; rw [← str_lets] at this; omega)
      rw [hn] at k
      walk_at "st"
      exact ca_intS (numO_int hn hs) hs k
abbrev s_points_in : Stmt := top 45
theorem sc_points_in : FnScope ["words", "point", "word", "found"] ["words", "point"] (defScope s_points_in) := ⟨rfl, rfl, rfl, by decide +kernel, rfl, by decide +kernel, by decide +kernel⟩
theorem c_points_in {P : Program} {w : World} {K : PySem.W.Frag} {mg : Str → Option Value} {base : Heap} {cl : Nat → Addr} {f : Addr} {fd : FuncData} (hm : mg "points_in" = some (.ref f)) (B : Blt mg) (Z : ZZ K w mg cl) (Fn : Fun K "points_in" "points_in" s_points_in f fd)
    (c_number_in : Cal P w K mg base 1 "number_in" (spN FK ⟨K, cl⟩ S_numinX) [])
    (c_is_below : Cal P w K mg base 2 "is_below" (spN FK ⟨K, cl⟩ S_isbelowX) []) : Cal P w K mg base 3 "points_in" (spN FK ⟨K, cl⟩ S_pointsinX) [] := by
  have fz := Z.z0
  have gz := Z.z1
  refine calD hm Fn sc_points_in (by intro ds W post h; first | (obtain ⟨rfl, _⟩ := h; rfl) | (obtain ⟨_, rfl, _⟩ := h; rfl) | (obtain ⟨_, _, rfl, _⟩ := h; rfl) | (obtain ⟨_, _, _, rfl, _⟩ := h; rfl) | (obtain ⟨_, _, _, _, rfl, _⟩ := h; rfl) | (obtain ⟨_, _, _, _, _, rfl, _⟩ := h; rfl) | (obtain ⟨_, _, _, _, _, _, rfl, _⟩ := h; rfl) | (obtain ⟨_, _, _, _, _, _, _, rfl, _⟩ := h; rfl) | (obtain ⟨_, _, _, _, _, _, _, _, rfl, _⟩ := h; rfl) | (obtain ⟨_, _, _, _, _, _, _, _, _, rfl, _⟩ := h; rfl) | (obtain ⟨_, _, _, _, _, _, _, _, _, _, rfl, _⟩ := h; rfl) | (obtain ⟨_, _, _, _, _, _, _, _, _, _, _, rfl, _⟩ := h; rfl)) (fun _ _ _ _ _ _ us hl => match us, hl with | [_, _], _ => rfl) fun cdv A outer s H E hr => ⟨_, pss_cons (ps_set (i := 3) sc_points_in.nd rfl (Or.inl rfl) (pe_callTy call_tuple_of (by rfl) B.tuple bt_tuple (pa_cons (pe_lc (own := [("word", 2)]) (by rfl) sc_points_in.nd (pi_list (pv 0)) (blkOk_by (own := [("word", 2)]) (N := ["words", "point", "word", "found"]) (sc := defScope s_points_in) (by decide +kernel)) (fun _ _ _ _ _ => (pg_name (i := 2) sc_points_in.nd rfl (Or.inl rfl))) (fun _ _ _ _ _ => pts_nil) (fun _ _ _ _ _ => (pe_c c_number_in hr (by omega) (by rfl) (pa_cons (pv 2) pa_nil)))) pa_nil)))
 (pss_one (ps_ret (pe_ifExp (pt_val (pe_c c_is_below hr (by omega) (by rfl) (pa_cons (pv 1) (pa_cons (pv 3) pa_nil)))) (pv 3) pe_non))), ?_⟩
  rintro ds W post ⟨i, ws, rfl, rfl, hi, hl, hw, k⟩
  try dsimp only [cxOf, Cx.nox, Cx.wish]
  have h16 := sizeLine_eq
  walk_at "st"
  refine ev_lcM (ei_list ?_)
  walk_at "st"
  refine ⟨(ws.map numO).map optD, fun j d e hd he => ?_, by simp, by simp only [List.length_map]; omega, ?_⟩
  · rw [List.getElem?_map] at hd
    obtain ⟨n, hn, rfl⟩ := Option.map_eq_some_iff.mp hd
    rw [List.map_map, List.getElem?_map, hn] at he
    obtain rfl := Option.some.inj he
    refine tw_name (by simp) ?_
    walk_at "st"
    refine ⟨rfl, ?_⟩
    walk_at "st"
    refine hand0 ⟨n, rfl, rfl, hw n (List.mem_of_getElem? hn), rfl, rfl⟩
    try simp only [List.nil_append]
    try walk_at "st"
  walk_at "st"
  refine ca_tup (.inl (.inl rfl)) ?_
  walk_at "st"
  refine hand0 ⟨i, ws.map numO, rfl, rfl, hi, by rw [List.length_map]; exact hl, ?_⟩
  try simp only [List.nil_append]
  try walk_at "st"
  cases e : belowB i (ws.map numO) with
  | false =>
    try refine if_not (by first | rfl | decide +kernel | simp) ?_
    try walk_at "st"
    walk_at "st"
    rw [rowO_no e] at k
    exact k
  | true =>
    try refine if_so (by first | rfl | decide +kernel | simp) ?_
    try walk_at "st"
    obtain ⟨r, e1, e2⟩ := rowO_yes e
    rw [e1] at k
    walk_at "st"
    rw [e2]
    exact k
abbrev s_is_word_of_letters : Stmt := top 43
theorem sc_is_word_of_letters : FnScope ["word"] ["word"] (defScope s_is_word_of_letters) := ⟨rfl, rfl, rfl, by decide +kernel, rfl, by decide +kernel, by decide +kernel⟩
theorem c_is_word_of_letters {P : Program} {w : World} {K : PySem.W.Frag} {mg : Str → Option Value} {base : Heap} {cl : Nat → Addr} {f : Addr} {fd : FuncData} (hm : mg "is_word_of_letters" = some (.ref f)) (B : Blt mg) (Z : ZZ K w mg cl) (Fn : Fun K "is_word_of_letters" "is_word_of_letters" s_is_word_of_letters f fd)
    (c_is_letters : Cal P w K mg base 2 "is_letters" (spN FK ⟨K, cl⟩ S_islettersX) []) : Cal P w K mg base 3 "is_word_of_letters" (spN FK ⟨K, cl⟩ S_iswordX) [] := by
  have fz := Z.z0
  have gz := Z.z1
  refine calD hm Fn sc_is_word_of_letters (by intro ds W post h; first | (obtain ⟨rfl, _⟩ := h; rfl) | (obtain ⟨_, rfl, _⟩ := h; rfl) | (obtain ⟨_, _, rfl, _⟩ := h; rfl) | (obtain ⟨_, _, _, rfl, _⟩ := h; rfl) | (obtain ⟨_, _, _, _, rfl, _⟩ := h; rfl) | (obtain ⟨_, _, _, _, _, rfl, _⟩ := h; rfl) | (obtain ⟨_, _, _, _, _, _, rfl, _⟩ := h; rfl) | (obtain ⟨_, _, _, _, _, _, _, rfl, _⟩ := h; rfl) | (obtain ⟨_, _, _, _, _, _, _, _, rfl, _⟩ := h; rfl) | (obtain ⟨_, _, _, _, _, _, _, _, _, rfl, _⟩ := h; rfl) | (obtain ⟨_, _, _, _, _, _, _, _, _, _, rfl, _⟩ := h; rfl) | (obtain ⟨_, _, _, _, _, _, _, _, _, _, _, rfl, _⟩ := h; rfl)) (fun _ _ _ _ _ _ us hl => match us, hl with | [_], _ => rfl) fun cdv A outer s H E hr => ⟨_, pss_one (ps_ret (pe_or (pe_cmpR op_eq (pv 0) (C8.pe_gc (by rfl) Z.g_BARE) (nomark _)) (pe_one (pe_and (pe_cmpR op_ne (pv 0) pe_str (nomark _)) (pe_one (pe_c c_is_letters hr (by omega) (by rfl) (pa_cons (pv 0) pa_nil))))))), ?_⟩
  rintro ds W post ⟨s, rfl, rfl, hl, k⟩
  try dsimp only [cxOf, Cx.nox, Cx.wish]
  walk_at "st"
  by_cases h : s = "-"
  · subst h
    rw [show headB "-" = true from rfl] at k
    refine if_so (eqself) ?_
    try walk_at "st"
    walk_at "st"
    exact k
  · have e1 : headB s = (!decide (s = "") && letB s) := by
      unfold headB
      rw [decide_eq_false h]
      rfl
    rw [e1] at k
    rw [decide_eq_false h]
    walk_at "st"
    by_cases h2 : s = ""
    · subst h2
      rw [neself] at k ⊢
      walk_at "st"
      exact k
    · rw [decide_eq_false h2] at k ⊢
      walk_at "st"
      refine hand0 ⟨s, rfl, rfl, hl, k⟩
      try simp only [List.nil_append]
      try walk_at "st"
abbrev s_Web___str__ : Stmt := inClass (top 41) 16
theorem sc_Web___str__ : FnScope ["self", "points", "letters"] ["self"] (defScope s_Web___str__) := ⟨rfl, rfl, rfl, by decide +kernel, rfl, by decide +kernel, by decide +kernel⟩
theorem o_str1 {P : Program} {w : World} {K : PySem.W.Frag} {mg : Str → Option Value} {base : Heap} {cl : Nat → Addr} {f : Addr} {fd : FuncData} (o : Own2 K (cl 1) "__str__" f) (B : Blt mg) (Z : ZZ K w mg cl) (Fn : Fun K "__str__" "Web.__str__" s_Web___str__ f fd)
    (c_line_of : Cal P w K mg base 1 "line_of" (spN FK ⟨K, cl⟩ S_lineof) []) : Opn P w K mg base 2 (cl 1) "__str__" (spN FK ⟨K, cl⟩ S_strW) := by
  have fz := Z.z0
  have gz := Z.z1
  refine opnD o Fn sc_Web___str__ (by intro ds W post h; first | (obtain ⟨rfl, _⟩ := h; rfl) | (obtain ⟨_, rfl, _⟩ := h; rfl) | (obtain ⟨_, _, rfl, _⟩ := h; rfl) | (obtain ⟨_, _, _, rfl, _⟩ := h; rfl) | (obtain ⟨_, _, _, _, rfl, _⟩ := h; rfl) | (obtain ⟨_, _, _, _, _, rfl, _⟩ := h; rfl) | (obtain ⟨_, _, _, _, _, _, rfl, _⟩ := h; rfl) | (obtain ⟨_, _, _, _, _, _, _, rfl, _⟩ := h; rfl) | (obtain ⟨_, _, _, _, _, _, _, _, rfl, _⟩ := h; rfl) | (obtain ⟨_, _, _, _, _, _, _, _, _, rfl, _⟩ := h; rfl) | (obtain ⟨_, _, _, _, _, _, _, _, _, _, rfl, _⟩ := h; rfl) | (obtain ⟨_, _, _, _, _, _, _, _, _, _, _, rfl, _⟩ := h; rfl)) (fun _ _ _ _ _ _ us hl => match us, hl with | [_], _ => rfl) fun cdv A outer s H E hr => ⟨_, pss_one (ps_ret (pe_join pe_str (pe_lc (own := [("points", 1), ("letters", 2)]) (by rfl) sc_Web___str__.nd (pi_zipT (by rfl) B.zip (pa_cons (pe_fld (pv 0) rfl) (pa_cons (pe_fld (pv 0) rfl) pa_nil)) (pk_cons pe_bl pk_nil)) (blkOk_by (own := [("points", 1), ("letters", 2)]) (N := ["self", "points", "letters"]) (sc := defScope s_Web___str__) (by decide +kernel)) (fun _ _ _ _ _ => (pg_tupK (K := K) rfl (n := 2) rfl (pgs_cons (pg_name (i := 1) sc_Web___str__.nd rfl (Or.inl rfl)) (pgs_cons (pg_name (i := 2) sc_Web___str__.nd rfl (Or.inl rfl)) pgs_nil)))) (fun _ _ _ _ _ => pts_nil) (fun _ _ _ _ _ => (pe_c c_line_of hr (by omega) (by rfl) (pa_cons (pv 1) (pa_cons (pv 2) pa_nil))))))), ?_⟩
  rintro ds W post ⟨w, rfl, rfl, hw, k⟩
  try dsimp only [cxOf, Cx.nox, Cx.wish]
  have h16 := sizeLine_eq
  have hf := hw.rows.few
  have hlen := hw.len
  walk_at "st"
  refine ev_join ?_
  walk_at "st"
  refine ev_lcM (ei_zipS ?_)
  walk_at "st"
  refine ⟨rfl, _, _, _, _, rfl, .inr (.inl rfl), .inr (.inl rfl), by rw [List.length_map, List.length_map, hlen], w.lines.map .str, fun i d e hd he => ?_, by rw [pairs2_len, List.length_map, List.length_map, List.length_map, lines_len hw]; omega, by rw [List.length_map, lines_len hw]; omega, ?_⟩
  · obtain ⟨x, y, hx, hy, rfl⟩ := pairs2_get hd
    rw [List.getElem?_map] at hx hy he
    obtain ⟨r, hr, rfl⟩ := Option.map_eq_some_iff.mp hx
    obtain ⟨s, hs, rfl⟩ := Option.map_eq_some_iff.mp hy
    obtain ⟨l, hl, rfl⟩ := Option.map_eq_some_iff.mp he
    obtain ⟨s2, r2, g1, g2, rfl⟩ := lines_get hl
    rw [hs] at g1
    rw [hr] at g2
    cases g1
    cases g2
    refine tw_tup rfl (tws_cons (tw_name (by simp) (tws_cons (tw_name (by simp) (tws_nil ?_)))))
    walk_at "st"
    refine ⟨rfl, ?_⟩
    walk_at "st"
    refine hand0 ⟨s, r, rfl, rfl, hw.line hs hr, rfl, rfl⟩
    try simp only [List.nil_append]
    try walk_at "st"
  refine ⟨w.lines, .inl (.inl (.inl rfl)), lines_sum hw, k⟩
abbrev s_Web_read : Stmt := inClass (top 41) 1
theorem sc_Web_read : FnScope ["cls", "text", "below", "atoms", "number", "line", "words", "points"] ["cls", "text"] (defScope s_Web_read) := ⟨rfl, rfl, rfl, by decide +kernel, rfl, by decide +kernel, by decide +kernel⟩
theorem cm_Web_read {P : Program} {w : World} {K : PySem.W.Frag} {mg : Str → Option Value} {base : Heap} {cl : Nat → Addr} {f : Addr} {fd : FuncData} {mc : Value} {p : Addr} (cr : ClX.CRead K (cl 1) mc) (cm : ClX.CMet K (cl 1) mc "read" p f) (B : Blt mg) (Z : ZZ K w mg cl) (Fn : Fun K "read" "Web.read" s_Web_read f fd)
    (c_points_in : Cal P w K mg base 3 "points_in" (spN FK ⟨K, cl⟩ S_pointsinX) [])
    (c_is_word_of_letters : Cal P w K mg base 3 "is_word_of_letters" (spN FK ⟨K, cl⟩ S_iswordX) [])
    (m_Web : Mak P w K mg base 4 "Web" (cl 1) (spN FK ⟨K, cl⟩ S_initW) [])
    (e_BadText : Err P w K mg base 1 "BadText" (cl 12) "place") : CmX P w K mg base 7 (cl 1) "read" ["text"] (fun vs zs => vs ++ zs) (spX FK ⟨K, cl⟩ ((S_readWX (cl 1)))) := by
  have fz := Z.z0
  have gz := Z.z1
  refine cmXD cr cm Fn sc_Web_read (by intro ds W post ex h; first | (obtain ⟨rfl, _⟩ := h; rfl) | (obtain ⟨_, rfl, _⟩ := h; rfl) | (obtain ⟨_, _, rfl, _⟩ := h; rfl) | (obtain ⟨_, _, _, rfl, _⟩ := h; rfl) | (obtain ⟨_, _, _, _, rfl, _⟩ := h; rfl) | (obtain ⟨_, _, _, _, _, rfl, _⟩ := h; rfl) | (obtain ⟨_, _, _, _, _, _, rfl, _⟩ := h; rfl) | (obtain ⟨_, _, _, _, _, _, _, rfl, _⟩ := h; rfl) | (obtain ⟨_, _, _, _, _, _, _, _, rfl, _⟩ := h; rfl) | (obtain ⟨_, _, _, _, _, _, _, _, _, rfl, _⟩ := h; rfl) | (obtain ⟨_, _, _, _, _, _, _, _, _, _, rfl, _⟩ := h; rfl) | (obtain ⟨_, _, _, _, _, _, _, _, _, _, _, rfl, _⟩ := h; rfl)) (fun _ _ _ _ _ _ us hl => match us, hl with | [_, _], _ => rfl) (kb1_of (g := fun us ws => us ++ ws) Fn (fun _ _ _ _ _ _ u ws hl => match ws, hl with | [_], _ => rfl) (fun h1 h2 => by first | exact h1.append h2 | exact h1.append h2.reverse)) fun cdv A outer s H E hr => ⟨_, pss_cons (ps_if (pt_not (pt_val (pe_callB call_isi (by rfl) B.isinstance bt_isinstance (pa_cons (pv 1) (pa_cons (pe_bltn (by rfl) B.str bt_str (relV_ty _)) pa_nil))))) (pss_one (ps_raise rfl (takes_of rfl rfl rfl rfl) (pmk_err e_BadText hr (by omega) (by rfl) (pa_cons pe_int pa_nil)))) (pss_nil))
 (pss_cons (ps_par (i := 2) (j := 3) (by rfl) sc_Web_read.nd rfl rfl (by decide) rfl rfl (pa_cons (pe_lst pa_nil) (pa_cons (pe_lst pa_nil) pa_nil)) (by rfl))
 (pss_cons (ps_for (passes_of rfl) rfl (pi_enumS (by rfl) B.enumerate (pa_cons (pe_split (pv 1) (C8.pe_gc (by rfl) Z.g_BREAK)) pa_nil) (pk_cons pe_int pk_nil)) (pg_tup (n := 2) rfl (pgs_cons (pg_name (i := 4) sc_Web_read.nd rfl (Or.inl rfl)) (pgs_cons (pg_name (i := 5) sc_Web_read.nd rfl (Or.inl rfl)) pgs_nil))) (pss_cons (ps_set (i := 6) sc_Web_read.nd rfl (Or.inl rfl) (pe_split (pv 5) (C8.pe_gc (by rfl) Z.g_BLANK)))
 (pss_cons (ps_set (i := 7) sc_Web_read.nd rfl (Or.inl rfl) (pe_c c_points_in hr (by omega) (by rfl) (pa_cons (pe_slice sl_list (pv 6) (po_some pe_int) po_none) (pa_cons (pe_op op_sub (pv 4) pe_int) pa_nil))))
 (pss_cons (ps_if (PW.pt (pw_or (pt_cmp (pc_isN (pv 7))) (pw_or1 (pt_not (pt_val (pe_c c_is_word_of_letters hr (by omega) (by rfl) (pa_cons (pe_ix ix_list (pv 6) pe_int (fun _ _ => rfl)) pa_nil))))))) (pss_one (ps_raise rfl (takes_of rfl rfl rfl rfl) (pmk_err e_BadText hr (by omega) (by rfl) (pa_cons (pv 4) pa_nil)))) (pss_nil))
 (pss_cons (ps_expr (pe_bm PySem.F.plainAttrs_list PySem.F.slot_list_append PySem.F.type_list_append mt_append (pv 2) (pa_cons (pv 7) pa_nil)))
 (pss_one (ps_expr (pe_bm PySem.F.plainAttrs_list PySem.F.slot_list_append PySem.F.type_list_append mt_append (pv 3) (pa_cons (pe_ifExp (pt_cmpR op_eq (pe_ix ix_list (pv 6) pe_int (fun _ _ => rfl)) (C8.pe_gc (by rfl) Z.g_BARE) (nomark _)) pe_str (pe_ix ix_list (pv 6) pe_int (fun _ _ => rfl))) pa_nil)))))))))
 (pss_one (ps_ret (pe_mkL (i := 0) m_Web hr (by omega) rfl (by first | exact Or.inl rfl | exact Or.inr (Or.inl rfl) | exact Or.inr (Or.inr rfl)) (pa_cons (pe_callTy call_tuple_of (by rfl) B.tuple bt_tuple (pa_cons (pv 2) pa_nil)) (pa_cons (pe_callTy call_tuple_of (by rfl) B.tuple bt_tuple (pa_cons (pv 3) pa_nil)) pa_nil))))))), ?_⟩
  rintro ds W post ex ⟨v, rfl, rfl, ⟨s, rfl, hs, hf, kg, kx⟩ | ⟨hv, kx⟩⟩
  try dsimp only [cxOf, Cx.nox, Cx.wish]
  · have h16 := sizeLine_eq
    refine swx_seq (swx_if ?_)
    iterate 11 walk_at "s1"
    refine swx_next ?_
    refine swx_seq (swx_par ?_)
    refine ea_cons (ev_lst ?_)
    walk_at "st"
    intro p1 hp1
    refine ea_cons (ev_lst ?_)
    walk_at "st"
    intro p2 hp2
    refine ea_nil ?_
    refine ⟨_, _, rfl, ?_⟩
    refine swx_seq (swx_for (ei_enumS ?_))
    walk_at "st"
    refine ev_split ?_
    walk_at "st"
    refine ⟨rfl, by omega, ?_⟩
    rw [split_nl]
    walk_at "st"
    refine ⟨_, _, 1, rfl, rfl, by omega, .inl rfl, ?_⟩
    refine ⟨fun i G' W' => ∃ ps, Rd (cutAt 10 s) i ps ∧ W' = [(p2, .lst ((ps.map (·.1)).map .str)), (p1, .lst ((ps.map (·.2)).map rowD))] ∧ ∃ o4 o5 o6 o7, G' = [some (.adr (cl 1)), some (.str s), some (.adr p1), some (.adr p2), o4, o5, o6, o7], ⟨[], ⟨rfl, by simp⟩, rfl, _, _, _, _, rfl⟩, ?_, ?_⟩
    · rintro i d G' W' hd ⟨ps, hr, rfl, o4, o5, o6, o7, rfl⟩
      obtain ⟨x, hx, rfl⟩ := pairsD_get hd
      rw [List.getElem?_map] at hx
      obtain ⟨l, hl, rfl⟩ := Option.map_eq_some_iff.mp hx
      have hi := (List.getElem?_eq_some_iff.mp hl).1
      have hls := cutAt_each (List.mem_of_getElem? hl)
      have hpl := hr.1
      obtain ⟨w, ws, hc⟩ : ∃ w ws, cutAt 32 l = w :: ws := by
        cases e : cutAt 32 l with
        | nil => exact absurd e (cutAt_ne 32 l)
        | cons w ws => exact ⟨w, ws, rfl⟩
      have hwl : ∀ z ∈ w :: ws, z.length ≤ 640 := fun z hz => by
        rw [← hc] at hz
        have := cutAt_each hz
        omega
      have hwn : (w :: ws).length ≤ 641 := by
        rw [← hc, cutAt_len]
        have := List.count_le_length (a := 32) (l := lets l)
        rw [← str_lets] at this
        omega
      rw [List.length_cons] at hwn
      have bad : lineO i l = none → placeW s = 1 + i := fun h => by
        have := badAt_at (cutAt 10 s) 0 i (fun j y hj hy => hr.good j y hj hy) l hl (by rw [Nat.zero_add]; exact h)
        unfold placeW
        omega
      refine tg_tup rfl (tgs_cons (tg_name (tgs_cons (tg_name (tgs_nil ?_)))))
      walk_at "st"
      refine ev_split ?_
      walk_at "st"
      refine ⟨rfl, by omega, ?_⟩
      rw [split_sp, hc]
      walk_at "st"
      rw [cutD_d1]
      have e : ((1 + i : Nat) : Int) - 1 = (i : Nat) := by omega
      rw [e]
      refine hand0 ⟨i, ws, rfl, rfl, by omega, by omega, fun z hz => hwl z (List.mem_cons_of_mem _ hz), ?_⟩
      try simp only [List.nil_append]
      try walk_at "st"
      cases hro : rowO i ws with
      | none =>
        have hb := bad (by unfold lineO; rw [hc]; dsimp only; rw [hro]; split <;> rfl)
        refine ev_isV (v := .non) ?_
        walk_at "st"
        refine ⟨rfl, ?_⟩
        walk_at "st"
        try refine if_so (by first | rfl | decide +kernel | simp) ?_
        try walk_at "st"
        intro d hd
        refine kx d _ (by rw [hb]; omega) ?_
        rw [hb]
        exact List.mem_cons_self
      | some r =>
        refine ev_isT ?_
        walk_at "st"
        refine ⟨⟨_, rfl⟩, ?_⟩
        walk_at "st"
        refine bo_ixL (.inl (.inl rfl)) (z := .str w) at_hd ?_
        walk_at "st"
        refine hand0 ⟨w, rfl, rfl, by have := hwl w List.mem_cons_self; omega, ?_⟩
        try simp only [List.nil_append]
        try walk_at "st"
        cases hw : headB w with
        | false =>
          have hb := bad (by unfold lineO; rw [hc]; dsimp only; rw [hw]; rfl)
          try refine if_so (by first | rfl | decide +kernel | simp) ?_
          try walk_at "st"
          intro d hd
          refine kx d _ (by rw [hb]; omega) ?_
          rw [hb]
          exact List.mem_cons_self
        | true =>
          have hlo : lineO i l = some (if w = "-" then ("" : Str) else w, r) := by
            unfold lineO
            rw [hc]
            dsimp only
            rw [hw, hro]
            rfl
          have hr2 := hr.snoc hl hlo
          try refine if_not (by first | rfl | decide +kernel | simp) ?_
          try walk_at "st"
          refine ev_append ?_
          walk_at "st"
          refine ⟨p1, _, [(p2, _)], [], rfl, rfl, ?_⟩
          walk_at "st"
          refine ⟨_, [(p2, _)], [], _, rfl, rfl, by rw [List.length_map, List.length_map]; omega, ?_⟩
          walk_at "st"
          refine ev_append ?_
          walk_at "st"
          refine ⟨p2, _, [], [_], rfl, rfl, ?_⟩
          walk_at "st"
          refine bo_ixL (.inl (.inl rfl)) (z := .str w) at_hd ?_
          by_cases h9 : w = "-"
          · rw [if_pos h9] at hr2
            subst h9
            walk_at "st"
            refine ⟨_, [], [_], _, rfl, rfl, by rw [List.length_map, List.length_map]; omega, _, hr2, by rw [List.map_append, List.map_append, List.map_append, List.map_append]; rfl, _, _, _, _, rfl⟩
          · rw [if_neg h9] at hr2
            walk_at "st"
            refine if_not ((decide_eq_false h9)) ?_
            try walk_at "st"
            refine bo_ixL (.inl (.inl rfl)) (z := .str w) at_hd ?_
            walk_at "st"
            refine ⟨_, [], [_], _, rfl, rfl, by rw [List.length_map, List.length_map]; omega, _, hr2, by rw [List.map_append, List.map_append, List.map_append, List.map_append]; rfl, _, _, _, _, rfl⟩
    rintro G' W' ⟨ps, hr, rfl, o4, o5, o6, o7, rfl⟩
    rw [pairsD_len, List.length_map] at hr
    obtain ⟨hok, htx⟩ := hr.text hf
    have hp0 : placeW s = 0 := (badAt_good (cutAt 10 s) 0).mpr fun j l hl => hr.good j l (List.getElem?_eq_some_iff.mp hl).1 hl
    refine swx_of (sw_ret (ev_drp (ev_mkL rfl (ev_mkW ?_))))
    walk_at "st"
    refine ca_tup (.inr ⟨_, rfl, List.mem_cons_of_mem _ List.mem_cons_self⟩) ?_
    walk_at "st"
    refine ca_tup (.inr ⟨_, rfl, List.mem_cons_self⟩) ?_
    refine ea_nil ⟨webP14 ps, rfl, hok, [], List.nil_sublist _, kg _ hok htx hp0⟩
  · walk_at "st"
    refine isi_notStr hv ?_
    walk_at "st"
    exact fun d hd => kx d _ List.mem_cons_self
end
section
abbrev s_law_deck : Stmt := top 47
theorem sc_law_deck : FnScope ["_law_script", "_law_mixed", "_law_cell"] ["_law_script"] (defScope s_law_deck) := ⟨rfl, rfl, rfl, by decide +kernel, rfl, by decide +kernel, by decide +kernel⟩
theorem c_law_deck {P : Program} {w : World} {K : PySem.W.Frag} {mg : Str → Option Value} {base : Heap} {cl : Nat → Addr} {f : Addr} {fd : FuncData} (hm : mg "_law_deck" = some (.ref f)) (B : Blt mg) (Z : ZZ K w mg cl) (Fn : Fun K "_law_deck" "_law_deck" s_law_deck f fd) : Cal P w K mg base 1 "_law_deck" (spN FK ⟨K, cl⟩ (S_deck DkA)) [] := by
  have fz := Z.z0
  have gz := Z.z1
  refine calD hm Fn sc_law_deck (by intro ds W post h; first | (obtain ⟨rfl, _⟩ := h; rfl) | (obtain ⟨_, rfl, _⟩ := h; rfl) | (obtain ⟨_, _, rfl, _⟩ := h; rfl) | (obtain ⟨_, _, _, rfl, _⟩ := h; rfl) | (obtain ⟨_, _, _, _, rfl, _⟩ := h; rfl) | (obtain ⟨_, _, _, _, _, rfl, _⟩ := h; rfl) | (obtain ⟨_, _, _, _, _, _, rfl, _⟩ := h; rfl) | (obtain ⟨_, _, _, _, _, _, _, rfl, _⟩ := h; rfl) | (obtain ⟨_, _, _, _, _, _, _, _, rfl, _⟩ := h; rfl) | (obtain ⟨_, _, _, _, _, _, _, _, _, rfl, _⟩ := h; rfl) | (obtain ⟨_, _, _, _, _, _, _, _, _, _, rfl, _⟩ := h; rfl) | (obtain ⟨_, _, _, _, _, _, _, _, _, _, _, rfl, _⟩ := h; rfl)) (fun _ _ _ _ _ _ us hl => match us, hl with | [_], _ => rfl) fun cdv A outer s H E hr => ⟨_, pss_cons (ps_set (i := 1) sc_law_deck.nd rfl (Or.inl rfl) pe_int)
 (pss_cons (ps_for PassesOwn.never rfl (pi_list (pe_slice sl_list (pv 0) po_none (po_some pe_int))) (pg_name (i := 2) sc_law_deck.nd rfl (Or.inl rfl)) (pss_one (ps_set (i := 1) sc_law_deck.nd rfl (Or.inl rfl) (pe_op op_mod (pe_callTy call_int1 (by rfl) B.int bt_int (pa_cons (pe_op op_add (pe_op op_add (pe_op op_mul (pv 1) pe_int) (pe_op op_mod (pe_callTy call_int1 (by rfl) B.int bt_int (pa_cons (pv 2) pa_nil)) pe_int)) pe_int) pa_nil)) pe_int))))
 (pss_one (ps_ret (pe_disp (pps_cons pe_str (pe_revL (pe_lc (own := [("_law_cell", 2)]) (by rfl) sc_law_deck.nd (pi_list (pe_slice sl_list (pv 0) po_none (po_some pe_int))) (blkOk_by (own := [("_law_cell", 2)]) (N := ["_law_script", "_law_mixed", "_law_cell"]) (sc := defScope s_law_deck) (by decide +kernel)) (fun _ _ _ _ _ => (pg_name (i := 2) sc_law_deck.nd rfl (Or.inl rfl))) (fun _ _ _ _ _ => pts_one (pt_cmpR op_ge (pv 2) (pe_op op_pow pe_int pe_int) (nomark _))) (fun _ _ _ _ _ => (pv 2)))) (pps_cons pe_str (pv 1) (pps_cons pe_str pe_int pps_nil))) (by rfl) (by rfl) (fun z => by cases z) (by decide))))), ?_⟩
  rintro ds W post ⟨ns, rfl, rfl, hl, k⟩
  try dsimp only [cxOf, Cx.nox, Cx.wish]
  have hc : cutD ((ns.map V.int).map D.vl) none (some 63) = ns.map D.int := (cut63 (by simpa using hl)).trans (by rw [List.map_map]; rfl)
  walk_at "st"
  refine sw_for (ei_list ?_)
  walk_at "st"
  rw [hc]
  refine ⟨fun i G W => W = [] ∧ ∃ (st : Int) (o : Option D), 0 ≤ st ∧ st < 2147483648 ∧ G = [some (.scr (ns.map V.int)), some (.int st), o], ⟨rfl, _, _, by omega, by omega, rfl⟩, ?_, ?_⟩
  · rintro i d G' W' hd ⟨rfl, st, o, h0, h1, rfl⟩
    rw [List.getElem?_map] at hd
    obtain ⟨z, hz, e⟩ := Option.map_eq_some_iff.mp hd
    subst e
    refine tg_name ?_
    walk_at "st"
    exact ⟨rfl, _, _, Int.emod_nonneg _ (by omega), Int.lt_of_lt_of_le (Int.emod_lt_of_pos _ (by omega)) (by omega), rfl⟩
  · rintro G' W' ⟨rfl, st, o, h0, h1, rfl⟩
    refine sw_ret (ev_disp (eps_cons (ev_c (ev_revL (ev_lcF (ei_list ?_))))))
    walk_at "st"
    rw [hc]
    refine ⟨fun i acc W => W = [] ∧ ∃ cells : List Int, acc = cells.map D.int ∧ cells.length ≤ i, ⟨rfl, [], rfl, Nat.le_refl _⟩, ?_, ?_⟩
    · rintro i d acc W' hd ⟨rfl, cells, rfl, hz⟩
      have hi : i < (ns.map D.int).length := (List.getElem?_eq_some_iff.mp hd).1
      rw [List.getElem?_map] at hd
      obtain ⟨z, hz2, e⟩ := Option.map_eq_some_iff.mp hd
      subst e
      refine tw_name (by simp) ?_
      walk_at "st"
      refine if_bl (fun e => ?_) (fun e => ?_)
      · walk_at "st"
        refine ⟨by have := sizeLine_eq; simp at hi ⊢; omega, rfl, cells ++ [z], by simp, by simp; omega⟩
      · exact ⟨rfl, cells, rfl, by omega⟩
    · rintro acc W' ⟨rfl, cells, rfl, hz⟩
      refine ⟨_, .inl (.inl rfl), fun p hp => ?_⟩
      walk_at "st"
      refine ⟨by simp, fun p2 hp2 => ?_⟩
      rw [mergeG_nd (by simp only [List.map_cons, List.map_nil, List.nil_append, List.cons_append]; decide +kernel)]
      refine k p2 _ ⟨p, cells.reverse, st, 0, ?_, ?_, by omega, by omega⟩
      · unfold dkA
        rw [List.map_reverse]
        rfl
      · simp at hz ⊢
        omega
abbrev s_law_draw : Stmt := top 48
theorem sc_law_draw : FnScope ["_law_deck_here", "_law_many", "_law_cell", "_law_lap", "_law_mixed"] ["_law_deck_here", "_law_many"] (defScope s_law_draw) := ⟨rfl, rfl, rfl, by decide +kernel, rfl, by decide +kernel, by decide +kernel⟩
theorem c_law_draw {P : Program} {w : World} {K : PySem.W.Frag} {mg : Str → Option Value} {base : Heap} {cl : Nat → Addr} {f : Addr} {fd : FuncData} (hm : mg "_law_draw" = some (.ref f)) (B : Blt mg) (Z : ZZ K w mg cl) (Fn : Fun K "_law_draw" "_law_draw" s_law_draw f fd) : Cal P w K mg base 1 "_law_draw" (spN FK ⟨K, cl⟩ (S_draw DkA)) [] := by
  have fz := Z.z0
  have gz := Z.z1
  refine calD hm Fn sc_law_draw (by intro ds W post h; first | (obtain ⟨rfl, _⟩ := h; rfl) | (obtain ⟨_, rfl, _⟩ := h; rfl) | (obtain ⟨_, _, rfl, _⟩ := h; rfl) | (obtain ⟨_, _, _, rfl, _⟩ := h; rfl) | (obtain ⟨_, _, _, _, rfl, _⟩ := h; rfl) | (obtain ⟨_, _, _, _, _, rfl, _⟩ := h; rfl) | (obtain ⟨_, _, _, _, _, _, rfl, _⟩ := h; rfl) | (obtain ⟨_, _, _, _, _, _, _, rfl, _⟩ := h; rfl) | (obtain ⟨_, _, _, _, _, _, _, _, rfl, _⟩ := h; rfl) | (obtain ⟨_, _, _, _, _, _, _, _, _, rfl, _⟩ := h; rfl) | (obtain ⟨_, _, _, _, _, _, _, _, _, _, rfl, _⟩ := h; rfl) | (obtain ⟨_, _, _, _, _, _, _, _, _, _, _, rfl, _⟩ := h; rfl)) (fun _ _ _ _ _ _ us hl => match us, hl with | [_, _], _ => rfl) fun cdv A outer s H E hr => ⟨_, pss_cons (ps_if (pt_cmpR (op_neD hr.units) (pe_dget (by exact hu_of hr) (pv 0) pe_str (fun _ _ => rfl)) (pe_lst pa_nil) (nomark _)) (pss_cons (ps_set (i := 2) sc_law_draw.nd rfl (Or.inl rfl) (pe_callTy call_int1 (by rfl) B.int bt_int (pa_cons (pe_bm0 PySem.F.plainAttrs_list PySem.F.slot_list_pop PySem.F.type_list_pop mt_pop (pe_dget (by exact hu_of hr) (pv 0) pe_str (fun _ _ => rfl))) pa_nil)))
 (pss_cons (ps_if (pt_cmpR op_ge (pv 2) (pv 1) (nomark _)) (pss_one (ps_expr (pe_bm PySem.F.plainAttrs_list PySem.F.slot_list_append PySem.F.type_list_append mt_append (pe_dget (by exact hu_of hr) (pv 0) pe_str (fun _ _ => rfl)) (pa_cons (pe_op op_fdiv (pv 2) (pv 1)) pa_nil)))) (pss_nil))
 (pss_one (ps_ret (pe_op op_mod (pv 2) (pv 1)))))) (pss_nil))
 (pss_cons (ps_set (i := 3) sc_law_draw.nd rfl (Or.inl rfl) (pe_op op_add (pe_dget (by exact hu_of hr) (pv 0) pe_str (fun _ _ => rfl)) pe_int))
 (pss_cons (ps_dput (by exact hu_of hr) (pv 0) pe_str (pv 3) rfl)
 (pss_cons (ps_set (i := 4) sc_law_draw.nd rfl (Or.inl rfl) (pe_op op_mod (pe_callTy call_int1 (by rfl) B.int bt_int (pa_cons (pe_op op_mul (pe_callTy call_int1 (by rfl) B.int bt_int (pa_cons (pe_op op_add (pe_op op_add (pe_dget (by exact hu_of hr) (pv 0) pe_str (fun _ _ => rfl)) (pe_op op_mul (pe_op op_mul pe_int (pv 3)) (pv 3))) pe_int) pa_nil)) pe_int) pa_nil)) pe_int))
 (pss_cons (ps_set (i := 4) sc_law_draw.nd rfl (Or.inl rfl) (pe_op op_mod (pe_callTy call_int1 (by rfl) B.int bt_int (pa_cons (pe_op op_add (pe_op op_mul (pv 4) (pv 4)) (pe_op op_mul pe_int (pv 3))) pa_nil)) pe_int))
 (pss_one (ps_ret (pe_op op_mod (pe_op op_fdiv (pe_op op_mod (pe_callTy call_int1 (by rfl) B.int bt_int (pa_cons (pe_op op_mul (pv 4) pe_int) pa_nil)) pe_int) pe_int) (pv 1)))))))), ?_⟩
  rintro ds W post ⟨a, c, n, rfl, ⟨l, cells, s, m, rfl, hl, c0, c2⟩, n0, n1, c1, k⟩
  try dsimp only [cxOf, Cx.nox, Cx.wish]
  walk_at "st"
  refine bo_neD (vp_ints (.inr ⟨_, rfl, List.mem_cons_of_mem _ List.mem_cons_self⟩)) vp_nil (shaped_ints cells) rfl ⟨_, rfl, ?_⟩
  rw [eqv_nil]
  have h16 := sizeLine_eq
  rcases List.eq_nil_or_concat cells with e | ⟨init, x, e⟩
  · subst e
    refine if_not rfl ?_
    walk_at "st"
    refine ⟨a, _, Sum.inr _, [], _, rfl, rfl, rfl, by simp; omega, ?_⟩
    rw [putG_set (i := 2) (by simp only [List.map_cons, List.map_nil]; decide +kernel) rfl]
    walk_at "st"
    refine k _ _ (Int.emod_nonneg _ (by omega)) (Int.emod_lt_of_pos _ n0) ⟨l, [], s, m + 1, rfl, by simp, by omega, by omega⟩
  · subst e
    refine if_so (by simp) ?_
    refine sw_seq (sw_set (ev_cb (ea_cons (ev_pop ?_))))
    walk_at "st"
    refine ⟨l, init.map D.int, [(a, .dp [(kS "great", .adr l), (kS "mixed", .int s), (kS "lap", .int m)])], [], .int x, rfl, by simp, ?_⟩
    walk_at "st"
    refine if_dec (fun hx => ?_) (fun hx => ?_)
    · refine sw_drop (ev_append ?_)
      walk_at "st"
      refine ⟨l, init.map D.int, [_], [], rfl, rfl, ?_⟩
      walk_at "st"
      refine ⟨init.map D.int, [_], [], _, rfl, rfl, ?_, ?_⟩
      · simp at hl ⊢
        omega
      walk_at "st"
      have := k (x % n) (dkA a l (init ++ [x / n]) s m) (Int.emod_nonneg _ (by omega)) (Int.emod_lt_of_pos _ n0) ⟨l, init ++ [x / n], s, m, rfl, by simp at hl ⊢; omega, c0, by omega⟩
      rw [dkA, List.map_append] at this
      exact this
    · walk_at "st"
      exact k (x % n) (dkA a l init s m) (Int.emod_nonneg _ (by omega)) (Int.emod_lt_of_pos _ n0) ⟨l, init, s, m, rfl, by simp at hl ⊢; omega, c0, by omega⟩
abbrev s_law_pick : Stmt := top 49
theorem sc_law_pick : FnScope ["_law_deck_here", "_law_menu"] ["_law_deck_here", "_law_menu"] (defScope s_law_pick) := ⟨rfl, rfl, rfl, by decide +kernel, rfl, by decide +kernel, by decide +kernel⟩
theorem c_law_pick {P : Program} {w : World} {K : PySem.W.Frag} {mg : Str → Option Value} {base : Heap} {cl : Nat → Addr} {f : Addr} {fd : FuncData} (hm : mg "_law_pick" = some (.ref f)) (B : Blt mg) (Z : ZZ K w mg cl) (Fn : Fun K "_law_pick" "_law_pick" s_law_pick f fd)
    (c_law_draw : Cal P w K mg base 1 "_law_draw" (spN FK ⟨K, cl⟩ (S_draw DkA)) []) : Cal P w K mg base 2 "_law_pick" (spN FK ⟨K, cl⟩ (S_pick DkA)) [] := by
  have fz := Z.z0
  have gz := Z.z1
  refine calD hm Fn sc_law_pick (by intro ds W post h; first | (obtain ⟨rfl, _⟩ := h; rfl) | (obtain ⟨_, rfl, _⟩ := h; rfl) | (obtain ⟨_, _, rfl, _⟩ := h; rfl) | (obtain ⟨_, _, _, rfl, _⟩ := h; rfl) | (obtain ⟨_, _, _, _, rfl, _⟩ := h; rfl) | (obtain ⟨_, _, _, _, _, rfl, _⟩ := h; rfl) | (obtain ⟨_, _, _, _, _, _, rfl, _⟩ := h; rfl) | (obtain ⟨_, _, _, _, _, _, _, rfl, _⟩ := h; rfl) | (obtain ⟨_, _, _, _, _, _, _, _, rfl, _⟩ := h; rfl) | (obtain ⟨_, _, _, _, _, _, _, _, _, rfl, _⟩ := h; rfl) | (obtain ⟨_, _, _, _, _, _, _, _, _, _, rfl, _⟩ := h; rfl) | (obtain ⟨_, _, _, _, _, _, _, _, _, _, _, rfl, _⟩ := h; rfl)) (fun _ _ _ _ _ _ us hl => match us, hl with | [_, _], _ => rfl) fun cdv A outer s H E hr => ⟨_, pss_one (ps_ret (pe_ix ix_seq (pv 1) (pe_c c_law_draw hr (by omega) (by rfl) (pa_cons (pv 0) (pa_cons (pe_callB call_len (by rfl) B.len bt_len (pa_cons (pv 1) pa_nil)) pa_nil))) (fun _ _ => rfl))), ?_⟩
  rintro ds W post ⟨a, c, m, rfl, hd, hc, h⟩
  try dsimp only [cxOf, Cx.nox, Cx.wish]
  rcases h with ⟨l, hm, hne, hl, h⟩ | ⟨x, rfl, hne, hl, h⟩
  · have hv : Vs W m l := hm.elim (fun e => .inl (.inl (.inl e))) .inr
    walk_at "st"
    refine ca_len hv ?_
    have : 0 < l.length := List.length_pos_iff.mpr hne
    walk_at "st"
    refine handA ⟨a, c, _, rfl, hd, by omega, by omega, hc, fun z W' h0 h1 hd' => ?_⟩
    try walk_at "st"
    obtain ⟨y, hy, e⟩ := at_of_draw (l := l) h0 h1
    have hv' : Vs W' m l := hm.elim (fun e => .inl (.inl (.inl e))) .inr
    exact bo_ixSq hv' e (h y hy W' hd')
  · have h16 := sizeLine_eq
    walk_at "st"
    refine ca_lenS (by omega) ?_
    walk_at "st"
    refine handA ⟨a, c, _, rfl, hd, by omega, by omega, hc, fun z W' h0 h1 hd' => ?_⟩
    try walk_at "st"
    obtain ⟨y, hy, e⟩ := at_of_draw (l := lets x) h0 (by rw [← str_len]; exact h1)
    exact bo_ixSqS (by omega) e (h y hy W' hd')
end
section
abbrev s_law_web : Stmt := top 50
theorem sc_law_web : FnScope ["_law_deck_here", "_law_pool", "_law_most", "_law_rows", "_law_signs", "_law_k", "_law_j", "_law_one"] ["_law_deck_here", "_law_pool", "_law_most"] (defScope s_law_web) := ⟨rfl, rfl, rfl, by decide +kernel, rfl, by decide +kernel, by decide +kernel⟩
theorem c_law_web {P : Program} {w : World} {K : PySem.W.Frag} {mg : Str → Option Value} {base : Heap} {cl : Nat → Addr} {f : Addr} {fd : FuncData} (hm : mg "_law_web" = some (.ref f)) (B : Blt mg) (Z : ZZ K w mg cl) (Fn : Fun K "_law_web" "_law_web" s_law_web f fd)
    (c_law_draw : Cal P w K mg base 1 "_law_draw" (spN FK ⟨K, cl⟩ (S_draw DkA)) []) : Cal P w K mg base 2 "_law_web" (spN FK ⟨K, cl⟩ (S_web DkA)) [] := by
  have fz := Z.z0
  have gz := Z.z1
  refine calD hm Fn sc_law_web (by intro ds W post h; first | (obtain ⟨rfl, _⟩ := h; rfl) | (obtain ⟨_, rfl, _⟩ := h; rfl) | (obtain ⟨_, _, rfl, _⟩ := h; rfl) | (obtain ⟨_, _, _, rfl, _⟩ := h; rfl) | (obtain ⟨_, _, _, _, rfl, _⟩ := h; rfl) | (obtain ⟨_, _, _, _, _, rfl, _⟩ := h; rfl) | (obtain ⟨_, _, _, _, _, _, rfl, _⟩ := h; rfl) | (obtain ⟨_, _, _, _, _, _, _, rfl, _⟩ := h; rfl) | (obtain ⟨_, _, _, _, _, _, _, _, rfl, _⟩ := h; rfl) | (obtain ⟨_, _, _, _, _, _, _, _, _, rfl, _⟩ := h; rfl) | (obtain ⟨_, _, _, _, _, _, _, _, _, _, rfl, _⟩ := h; rfl) | (obtain ⟨_, _, _, _, _, _, _, _, _, _, _, rfl, _⟩ := h; rfl)) (fun _ _ _ _ _ _ us hl => match us, hl with | [_, _, _], _ => rfl) fun cdv A outer s H E hr => ⟨_, pss_cons (ps_par (i := 3) (j := 4) (by rfl) sc_law_web.nd rfl rfl (by decide) rfl rfl (pa_cons (pe_lst pa_nil) (pa_cons (pe_lst pa_nil) pa_nil)) (by rfl))
 (pss_cons (ps_for PassesOwn.never rfl (pi_range1 (by rfl) B.range (pa_cons (pe_op op_add pe_int (pe_c c_law_draw hr (by omega) (by rfl) (pa_cons (pv 0) (pa_cons (pv 2) pa_nil)))) pa_nil)) (pg_name (i := 5) sc_law_web.nd rfl (Or.inl rfl)) (pss_cons (ps_expr (pe_bm PySem.F.plainAttrs_list PySem.F.slot_list_append PySem.F.type_list_append mt_append (pv 3) (pa_cons (pe_callTy call_tuple_of (by rfl) B.tuple bt_tuple (pa_cons (pe_lc (own := [("_law_j", 6)]) (by rfl) sc_law_web.nd (pi_range1 (by rfl) B.range (pa_cons (pv 5) pa_nil)) (blkOk_by (own := [("_law_j", 6)]) (N := ["_law_deck_here", "_law_pool", "_law_most", "_law_rows", "_law_signs", "_law_k", "_law_j", "_law_one"]) (sc := defScope s_law_web) (by decide +kernel)) (fun _ _ _ _ _ => (pg_name (i := 6) sc_law_web.nd rfl (Or.inl rfl))) (fun _ _ _ _ _ => pts_one (pt_cmpR op_eq (pe_c c_law_draw hr (by omega) (by rfl) (pa_cons (pv 0) (pa_cons pe_int pa_nil))) pe_int (nomark _))) (fun _ _ _ _ _ => (pv 6))) pa_nil)) pa_nil)))
 (pss_one (ps_expr (pe_bm PySem.F.plainAttrs_list PySem.F.slot_list_append PySem.F.type_list_append mt_append (pv 4) (pa_cons (pe_join pe_str (pe_lc (own := [("_law_one", 7)]) (by rfl) sc_law_web.nd (pi_list (pe_callB (cr_sortedX rfl) (by rfl) B.sorted bt_sorted (pa_cons (pv 1) pa_nil))) (blkOk_by (own := [("_law_one", 7)]) (N := ["_law_deck_here", "_law_pool", "_law_most", "_law_rows", "_law_signs", "_law_k", "_law_j", "_law_one"]) (sc := defScope s_law_web) (by decide +kernel)) (fun _ _ _ _ _ => (pg_name (i := 7) sc_law_web.nd rfl (Or.inl rfl))) (fun _ _ _ _ _ => pts_one (pt_cmpR op_eq (pe_c c_law_draw hr (by omega) (by rfl) (pa_cons (pv 0) (pa_cons pe_int pa_nil))) pe_int (nomark _))) (fun _ _ _ _ _ => (pv 7)))) pa_nil))))))
 (pss_one (ps_ret (pe_tup (pa_cons (pe_callTy call_tuple_of (by rfl) B.tuple bt_tuple (pa_cons (pv 3) pa_nil)) (pa_cons (pe_callTy call_tuple_of (by rfl) B.tuple bt_tuple (pa_cons (pv 4) pa_nil)) pa_nil)))))), ?_⟩
  rintro ds W post ⟨a, c, p, n, rfl, hd, n0, n40, hp, nd, hc, k⟩
  try dsimp only [cxOf, Cx.nox, Cx.wish]
  have h16 := sizeLine_eq
  have hpl : (ascN (lets p)).length ≤ 100 := asc_few hp
  refine sw_seq (sw_par ?_)
  refine ea_cons (ev_lst ?_)
  walk_at "st"
  intro p1 hp1
  refine ea_cons (ev_lst ?_)
  walk_at "st"
  intro p2 hp2
  refine ea_nil ?_
  refine ⟨_, _, rfl, ?_⟩
  refine sw_seq (sw_for (ei_rng1 ?_))
  walk_at "st"
  refine ⟨W, [(p2, .lst []), (p1, .lst [])], List.perm_append_comm (l₁ := [_, _]), a, c, (n : Int), rfl, hd, by omega, by omega, by omega, fun z W1 z0 z1 hd1 => ?_⟩
  walk_at "st"
  refine ⟨by omega, by omega, fun i G' W' => ∃ (rs : List (List Nat)) (as : List Str) (Wd : Om), rs.length = i ∧ as.length = i ∧ rowsOk rs ∧ (∀ s ∈ as, letters s ∧ (lets s).Pairwise (· < ·) ∧ ∀ q ∈ lets s, q ∈ lets p) ∧ DkA a (c + 1 + 200 * (i : Nat)) Wd ∧ W' = Wd ++ [(p2, .lst (as.map .str)), (p1, .lst (rs.map rowD))] ∧ ∃ o, G' = [some (.adr a), some (.str p), some (natD n), some (.adr p1), some (.adr p2), o, none, none], ⟨[], [], W1, rfl, rfl, rowsOk.nil, by simp, DkA_mono hd1 (by omega), rfl, _, rfl⟩, ?_, ?_⟩
  · rintro i d G' W' hdd ⟨rs, as, Wd, hrs, has, hr, hs, hdk, rfl, o, rfl⟩
    obtain ⟨hi, rfl⟩ := rng_get hdd
    have hi40 : i < 41 := by omega
    refine tg_name ?_
    refine sw_seq (sw_drop (ev_append ?_))
    walk_at "st"
    refine ⟨p1, rs.map rowD, Wd ++ [(p2, .lst (as.map .str))], [], rfl, by simp, ?_⟩
    walk_at "st"
    refine ev_lcF (ei_rng1 ?_)
    walk_at "st"
    refine ⟨by omega, by omega, fun t acc W' => ∃ (l : List Nat) (Wd : Om), acc = l.map natD ∧ l.Sublist (List.range t) ∧ DkA a (c + 1 + 200 * (i : Nat) + (t : Nat)) Wd ∧ W' = Wd ++ [(p2, .lst (as.map .str)), (p1, .lst (rs.map rowD))], ⟨[], Wd, rfl, by simp, DkA_mono hdk (by omega), rfl⟩, ?_, ?_⟩
    · rintro t d acc W' hdd ⟨l, Wd, rfl, hl, hdk, rfl⟩
      obtain ⟨ht, rfl⟩ := rng_get hdd
      have hll := hl.length_le
      rw [List.length_range] at hll
      refine tw_name (by simp) ?_
      walk_at "st"
      refine ⟨Wd, _, List.Perm.refl _, a, _, 3, rfl, hdk, by omega, by omega, by omega, fun z W2 z0 z1 hd2 => ?_⟩
      walk_at "st"
      refine if_dec (fun h => ?_) (fun h => ?_)
      · walk_at "st"
        refine ⟨by rw [List.length_map]; omega, l ++ [t], W2, ?_, ?_, DkA_mono hd2 (by omega), rfl⟩
        · rw [List.map_append]
          congr 1
          show [D.int _] = [D.int _]
          congr 2
          omega
        · rw [List.range_succ]
          exact hl.append (List.Sublist.refl _)
      · refine ⟨l, W2, rfl, ?_, DkA_mono hd2 (by omega), rfl⟩
        rw [List.range_succ]
        exact hl.trans (List.sublist_append_left _ _)
    rintro acc W' ⟨l, Wd, rfl, hl, hdk, rfl⟩
    rw [rng_len] at hl hdk
    have e0 : ((0 : Int) + (i : Nat)).toNat = i := by omega
    rw [e0] at hl hdk
    have hll := hl.length_le
    rw [List.length_range] at hll
    walk_at "st"
    refine ca_tup (.inl (.inl rfl)) ?_
    walk_at "st"
    refine ⟨rs.map rowD, Wd ++ [(p2, .lst (as.map .str))], [], _, by simp, rfl, by rw [List.length_map]; omega, ?_⟩
    walk_at "st"
    refine ev_append ?_
    walk_at "st"
    refine ⟨p2, as.map .str, Wd, [(p1, .lst (rs.map rowD ++ [rowD l]))], rfl, by simp, ?_⟩
    walk_at "st"
    refine ev_join ?_
    walk_at "st"
    refine ev_lcF (ei_list ?_)
    walk_at "st"
    refine ca_sortedX (by rw [str_len]; exact Nat.le_trans (letsN_len hp nd) (by decide)) nd ?_
    walk_at "st"
    refine ⟨fun t acc W' => ∃ (m : List Nat) (Wd : Om), acc = (m.map fun c => D.str (sg c)) ∧ m.Sublist ((ascN (lets p)).take t) ∧ DkA a (c + 1 + 200 * (i : Nat) + 41 + (t : Nat)) Wd ∧ W' = Wd ++ [(p2, .lst (as.map .str)), (p1, .lst (rs.map rowD ++ [rowD l]))], ⟨[], Wd, rfl, by simp, DkA_mono hdk (by omega), by simp⟩, ?_, ?_⟩
    · rintro t d acc W' hd ⟨m, Wd, rfl, hm, hdk, rfl⟩
      rw [List.getElem?_map] at hd
      obtain ⟨q, hq, rfl⟩ := Option.map_eq_some_iff.mp hd
      have hml := hm.length_le
      rw [List.length_take] at hml
      have ht := (List.getElem?_eq_some_iff.mp hq).1
      refine tw_name (by simp) ?_
      walk_at "st"
      refine ⟨Wd, _, List.Perm.refl _, a, _, 2, rfl, hdk, by omega, by omega, by omega, fun z W2 z0 z1 hd2 => ?_⟩
      walk_at "st"
      have etk : (ascN (lets p)).take (t + 1) = (ascN (lets p)).take t ++ [q] := by rw [List.take_add_one, hq]; rfl
      refine if_dec (fun h => ?_) (fun h => ?_)
      · walk_at "st"
        refine ⟨by rw [List.length_map]; omega, m ++ [q], W2, by simp, ?_, DkA_mono hd2 (by omega), rfl⟩
        rw [etk]
        exact hm.append (List.Sublist.refl _)
      · refine ⟨m, W2, rfl, ?_, DkA_mono hd2 (by omega), rfl⟩
        rw [etk]
        exact hm.trans (List.sublist_append_left _ _)
    rintro acc W' ⟨m, Wd, rfl, hm, hdk, rfl⟩
    rw [List.length_map, List.take_length] at hm
    rw [List.length_map] at hdk
    have hml := hm.length_le
    refine ⟨m.map sg, .inl (.inl (.inl (by rw [List.map_map]; rfl))), ?_, ?_⟩
    · rw [sg_sum, List.length_map]
      show m.length + m.length * 0 ≤ _
      omega
    · rw [join_nil_sg]
      walk_at "st"
      refine ⟨as.map .str, Wd, [_], _, rfl, rfl, by rw [List.length_map]; omega, ?_⟩
      refine ⟨rs ++ [l], as ++ [⟨m.toArray⟩], Wd, by simp [hrs], by simp [has], hr.snoc (List.pairwise_lt_range.sublist hl) (fun k hk => by rw [hrs]; exact List.mem_range.mp (hl.subset hk)) (by omega), fun s hs2 => ?_, DkA_mono hdk (by push_cast; omega), by simp, _, rfl⟩
      rcases List.mem_append.mp hs2 with h | h
      · exact hs s h
      · rw [List.mem_singleton] at h
        subst h
        exact ⟨fun q hq => hp q (mem_ascN.mp (hm.subset hq)), (asc_ascN _).sublist hm, fun q hq => mem_ascN.mp (hm.subset hq)⟩
  · rintro G' W' ⟨rs, as, Wd, hrs, has, hr, hs, hdk, rfl, o, rfl⟩
    rw [rng_len] at hrs has hdk
    refine sw_ret (ev_drp ?_)
    walk_at "st"
    refine ca_tup (.inr ⟨_, rfl, List.mem_append_right _ (List.mem_cons_of_mem _ List.mem_cons_self)⟩) ?_
    walk_at "st"
    refine ca_tup (.inr ⟨_, rfl, List.mem_append_right _ List.mem_cons_self⟩) ?_
    walk_at "st"
    refine ⟨Wd, List.sublist_append_left _ _, k ⟨rs, as⟩ Wd ⟨hr, fun e => ?_, by show as.length = rs.length; omega, fun s h => ⟨(hs s h).1, (hs s h).2.1⟩⟩ (by show rs.length ≤ n; omega) (fun s h => (hs s h).2.2) (DkA_mono hdk (by omega))⟩
    have e : rs = [] := e
    subst e
    have : (0 : Nat) = _ := hrs
    omega
end
section
abbrev s_law_text : Stmt := top 52
theorem sc_law_text : FnScope ["_law_pair", "_law_lines", "_law_row", "_law_signs", "_law_k"] ["_law_pair"] (defScope s_law_text) := ⟨rfl, rfl, rfl, by decide +kernel, rfl, by decide +kernel, by decide +kernel⟩
theorem c_law_text {P : Program} {w : World} {K : PySem.W.Frag} {mg : Str → Option Value} {base : Heap} {cl : Nat → Addr} {f : Addr} {fd : FuncData} (hm : mg "_law_text" = some (.ref f)) (B : Blt mg) (Z : ZZ K w mg cl) (Fn : Fun K "_law_text" "_law_text" s_law_text f fd) : Cal P w K mg base 1 "_law_text" (spN FK ⟨K, cl⟩ S_text13) [] := by
  have fz := Z.z0
  have gz := Z.z1
  refine calD hm Fn sc_law_text (by intro ds W post h; first | (obtain ⟨rfl, _⟩ := h; rfl) | (obtain ⟨_, rfl, _⟩ := h; rfl) | (obtain ⟨_, _, rfl, _⟩ := h; rfl) | (obtain ⟨_, _, _, rfl, _⟩ := h; rfl) | (obtain ⟨_, _, _, _, rfl, _⟩ := h; rfl) | (obtain ⟨_, _, _, _, _, rfl, _⟩ := h; rfl) | (obtain ⟨_, _, _, _, _, _, rfl, _⟩ := h; rfl) | (obtain ⟨_, _, _, _, _, _, _, rfl, _⟩ := h; rfl) | (obtain ⟨_, _, _, _, _, _, _, _, rfl, _⟩ := h; rfl) | (obtain ⟨_, _, _, _, _, _, _, _, _, rfl, _⟩ := h; rfl) | (obtain ⟨_, _, _, _, _, _, _, _, _, _, rfl, _⟩ := h; rfl) | (obtain ⟨_, _, _, _, _, _, _, _, _, _, _, rfl, _⟩ := h; rfl)) (fun _ _ _ _ _ _ us hl => match us, hl with | [_], _ => rfl) fun cdv A outer s H E hr => ⟨_, pss_cons (ps_set (i := 1) sc_law_text.nd rfl (Or.inl rfl) (pe_lst pa_nil))
 (pss_cons (ps_for PassesOwn.never rfl (pi_zipK (by rfl) B.zip (pa_cons (pe_ix ix_tup (pv 0) pe_int (fun _ _ => rfl)) (pa_cons (pe_ix ix_tup (pv 0) pe_int (fun _ _ => rfl)) pa_nil))) (pg_tup (n := 2) rfl (pgs_cons (pg_name (i := 2) sc_law_text.nd rfl (Or.inl rfl)) (pgs_cons (pg_name (i := 3) sc_law_text.nd rfl (Or.inl rfl)) pgs_nil))) (pss_one (ps_expr (pe_bm PySem.F.plainAttrs_list PySem.F.slot_list_append PySem.F.type_list_append mt_append (pv 1) (pa_cons (pe_join pe_str (pe_op op_cat (pe_lst (pa_cons (pe_ifExp (pt_cmpR op_ne (pv 3) pe_str (nomark _)) (pv 3) pe_str) pa_nil)) (pe_lc (own := [("_law_k", 4)]) (by rfl) sc_law_text.nd (pi_tup (pv 2)) (blkOk_by (own := [("_law_k", 4)]) (N := ["_law_pair", "_law_lines", "_law_row", "_law_signs", "_law_k"]) (sc := defScope s_law_text) (by decide +kernel)) (fun _ _ _ _ _ => (pg_name (i := 4) sc_law_text.nd rfl (Or.inl rfl))) (fun _ _ _ _ _ => pts_nil) (fun _ _ _ _ _ => (pe_callTy call_str_int (by rfl) B.str bt_str (pa_cons (pv 4) pa_nil)))))) pa_nil)))))
 (pss_one (ps_ret (pe_join pe_str (pv 1))))), ?_⟩
  rintro ds W post ⟨w, rfl, rfl, hw, k⟩
  try dsimp only [cxOf, Cx.nox, Cx.wish]
  have h16 := sizeLine_eq
  have hf := hw.rows.few
  have hlen := hw.len
  refine sw_seq (sw_set (ev_lst ?_))
  walk_at "st"
  intro p1 hp1
  refine sw_seq (sw_for (ei_zipK ?_))
  walk_at "st"
  refine ⟨_, _, _, _, rfl, .inr (.inl rfl), .inr (.inl rfl), ?_⟩
  refine ⟨fun i G' W' => W' = [(p1, .lst ((w.lines.take i).map .str))] ∧ ∃ o2 o3 o4, G' = [some (pairD w), some (.adr p1), o2, o3, o4], ⟨rfl, _, _, _, rfl⟩, ?_, ?_⟩
  · rintro i d G' W' hd ⟨rfl, o2, o3, o4, rfl⟩
    obtain ⟨x, y, hx, hy, rfl⟩ := pairs2_get hd
    rw [List.getElem?_map] at hx hy
    obtain ⟨r, hr, rfl⟩ := Option.map_eq_some_iff.mp hx
    obtain ⟨s, hs, rfl⟩ := Option.map_eq_some_iff.mp hy
    have ho := hw.line hs hr
    have hrf := ho.few
    have hsum := ho.sum
    have hl : w.lines[i]? = some (lineS s r) := by
      unfold Wb.lines
      rw [List.getElem?_zipWith, hs, hr]
    have htl : w.lines.take (i + 1) = w.lines.take i ++ [lineS s r] := by rw [List.take_add_one, hl]; rfl
    have hll := lines_len hw
    refine tg_tup rfl (tgs_cons (tg_name (tgs_cons (tg_name (tgs_nil ?_)))))
    walk_at "st"
    refine ev_append ?_
    walk_at "st"
    refine ⟨p1, _, [], [], rfl, rfl, ?_⟩
    walk_at "st"
    refine ev_join ?_
    walk_at "st"
    rcases word_ways s with ⟨h, e⟩ | ⟨h, e⟩
    all_goals
      simp only [lineS, lineL, e] at hsum htl
    all_goals first | ((refine' if_not ?hc ?_); (case hc => simp [h]; done)) | ((refine' if_so ?hc ?_); (case hc => simp [h]; done))
    all_goals
      walk_at "st"
      refine ev_lcM (ei_tup ?_)
      walk_at "st"
      refine ⟨(r.map numS).map .str, fun i d e hd he => ?_, by simp, by simp only [List.length_map]; omega, ?_⟩
      · rw [List.getElem?_map] at hd
        obtain ⟨n, hn, rfl⟩ := Option.map_eq_some_iff.mp hd
        rw [List.map_map, List.getElem?_map, hn] at he
        obtain rfl := Option.some.inj he
        have hl := ho.low n (List.mem_of_getElem? hn)
        refine tw_name (by simp) ?_
        walk_at "st"
        refine ⟨rfl, ?_⟩
        walk_at "st"
        exact ca_strN (by omega) ⟨rfl, rfl⟩
      · refine bo_cat (.inl rfl) (.inl rfl) (by simp; omega) ?_
        refine ⟨_ :: r.map numS, .inl (.inl (.inl rfl)), hsum, ?_⟩
        walk_at "st"
        refine ⟨_, [], [], _, rfl, rfl, by rw [List.length_map, List.length_take]; omega, ?_⟩
        refine ⟨?_, _, _, _, rfl⟩
        rw [htl, List.map_append]
        rfl
  rintro G' W' ⟨rfl, o2, o3, o4, rfl⟩
  rw [pairs2_len, List.length_map, List.length_map, hlen, Nat.min_self]
  refine sw_ret (ev_drp ?_)
  refine ev_join ?_
  walk_at "st"
  have hll := lines_len hw
  rw [← hll, List.take_length]
  refine ⟨_, .inl (.inr ⟨_, rfl, List.mem_cons_self⟩), lines_sum hw, [], List.nil_sublist _, k⟩
abbrev s_law_is_rising : Stmt := top 53
theorem sc_law_is_rising : FnScope ["_law_items", "_law_x", "_law_y"] ["_law_items"] (defScope s_law_is_rising) := ⟨rfl, rfl, rfl, by decide +kernel, rfl, by decide +kernel, by decide +kernel⟩
theorem c_law_is_rising {P : Program} {w : World} {K : PySem.W.Frag} {mg : Str → Option Value} {base : Heap} {cl : Nat → Addr} {f : Addr} {fd : FuncData} (hm : mg "_law_is_rising" = some (.ref f)) (B : Blt mg) (Z : ZZ K w mg cl) (Fn : Fun K "_law_is_rising" "_law_is_rising" s_law_is_rising f fd) : Cal P w K mg base 1 "_law_is_rising" (spN FK ⟨K, cl⟩ S_rising14) [] := by
  have fz := Z.z0
  have gz := Z.z1
  refine calD hm Fn sc_law_is_rising (by intro ds W post h; first | (obtain ⟨rfl, _⟩ := h; rfl) | (obtain ⟨_, rfl, _⟩ := h; rfl) | (obtain ⟨_, _, rfl, _⟩ := h; rfl) | (obtain ⟨_, _, _, rfl, _⟩ := h; rfl) | (obtain ⟨_, _, _, _, rfl, _⟩ := h; rfl) | (obtain ⟨_, _, _, _, _, rfl, _⟩ := h; rfl) | (obtain ⟨_, _, _, _, _, _, rfl, _⟩ := h; rfl) | (obtain ⟨_, _, _, _, _, _, _, rfl, _⟩ := h; rfl) | (obtain ⟨_, _, _, _, _, _, _, _, rfl, _⟩ := h; rfl) | (obtain ⟨_, _, _, _, _, _, _, _, _, rfl, _⟩ := h; rfl) | (obtain ⟨_, _, _, _, _, _, _, _, _, _, rfl, _⟩ := h; rfl) | (obtain ⟨_, _, _, _, _, _, _, _, _, _, _, rfl, _⟩ := h; rfl)) (fun _ _ _ _ _ _ us hl => match us, hl with | [_], _ => rfl) fun cdv A outer s H E hr => ⟨_, pss_one (ps_ret (pe_cmpR (op_eqE hr.units) (pe_lc (own := [("_law_x", 1), ("_law_y", 2)]) (by rfl) sc_law_is_rising.nd (pi_zipK (by rfl) B.zip (pa_cons (pe_slice (SlR.or sl_list sl_str) (pv 0) po_none (po_some (pe_un un_neg pe_int))) (pa_cons (pe_slice (SlR.or sl_list sl_str) (pv 0) (po_some pe_int) po_none) pa_nil))) (blkOk_by (own := [("_law_x", 1), ("_law_y", 2)]) (N := ["_law_items", "_law_x", "_law_y"]) (sc := defScope s_law_is_rising) (by decide +kernel)) (fun _ _ _ _ _ => (pg_tupK (K := K) rfl (n := 2) rfl (pgs_cons (pg_name (i := 1) sc_law_is_rising.nd rfl (Or.inl rfl)) (pgs_cons (pg_name (i := 2) sc_law_is_rising.nd rfl (Or.inl rfl)) pgs_nil)))) (fun _ _ _ _ _ => pts_one (pt_not (pt_cmpR (op_or op_lt op_lt_str) (pv 1) (pv 2) (nomark _)))) (fun _ _ _ _ _ => pe_int)) (pe_lst pa_nil) (nomark _))), ?_⟩
  rintro ds W post ⟨d, rfl, rfl, ⟨l, rfl, hl, k⟩ | ⟨s, rfl, hl, k⟩⟩
  try dsimp only [cxOf, Cx.nox, Cx.wish]
  · have h16 := sizeLine_eq
    walk_at "st"
    refine ev_lcP (ei_zipK ?_)
    walk_at "st"
    refine ca_slOrL (ca_slF (.inl (.inl rfl)) ?_)
    rw [cutD_init, List.length_map, ← List.map_take]
    walk_at "st"
    refine ca_slOrL (ca_slF (.inl (.inl rfl)) ?_)
    rw [cutD_d1, ← List.map_drop]
    walk_at "st"
    refine ⟨_, _, _, _, rfl, .inl rfl, .inl rfl, ltE (ltI (l.take (l.length - 1)) (l.drop 1)), fun i d e hd he => ?_, by rw [ltE, List.length_map, ltI_len, pairs2_len, List.length_map, List.length_map], by rw [ltE, List.length_map, ltI_len, List.length_take]; omega, ?_⟩
    · obtain ⟨x, y, hx, hy, rfl⟩ := pairs2_get hd
      rw [List.getElem?_map] at hx hy
      obtain ⟨a, ha, rfl⟩ := Option.map_eq_some_iff.mp hx
      obtain ⟨b, hb, rfl⟩ := Option.map_eq_some_iff.mp hy
      rw [ltE, List.getElem?_map, ltI_get ha hb] at he
      obtain rfl := Option.some.inj he
      refine tw_tup rfl (tws_cons (tw_name (by simp) (tws_cons (tw_name (by simp) (tws_nil ?_)))))
      walk_at "st"
      refine bo_orL (bo_I0 ?_)
      refine ⟨_, rfl, rfl, ?_⟩
      cases hab : decide (a < b)
      · refine if_so rfl ?_
        walk_at "st"
        exact ⟨rfl, rfl⟩
      · exact if_not rfl rfl
    walk_at "st"
    refine bo_eqE (.inl (.inl rfl)) (.inl (.inl rfl)) ?_
    rw [ltE_all]
    exact k
  · have h16 := sizeLine_eq
    have hs : (lets s).length ≤ 5000 := by rw [← str_lets]; exact hl
    walk_at "st"
    refine ev_lcP (ei_zipK ?_)
    walk_at "st"
    refine ca_slOrR (ca_slS (by omega) ?_)
    walk_at "st"
    refine ca_slOrR (ca_slS (by omega) ?_)
    walk_at "st"
    refine ⟨_, _, _, _, rfl, .inr (.inr ⟨_, rfl, rfl⟩), .inr (.inr ⟨_, rfl, rfl⟩), ltE (ltL ((lets s).take ((lets s).length - 1)) ((lets s).drop 1)), fun i d e hd he => ?_, by rw [ltE, List.length_map, ltL_len, pairs2_len, List.length_map, List.length_map, cutS_init, cutS_d1], by rw [ltE, List.length_map, ltL_len, List.length_take]; omega, ?_⟩
    · obtain ⟨x, y, hx, hy, rfl⟩ := pairs2_get hd
      rw [List.getElem?_map] at hx hy
      rw [cutS_init] at hx
      rw [cutS_d1] at hy
      obtain ⟨a, ha, rfl⟩ := Option.map_eq_some_iff.mp hx
      obtain ⟨b, hb, rfl⟩ := Option.map_eq_some_iff.mp hy
      rw [ltE, List.getElem?_map, ltL_get ha hb] at he
      obtain rfl := Option.some.inj he
      refine tw_tup rfl (tws_cons (tw_name (by simp) (tws_cons (tw_name (by simp) (tws_nil ?_)))))
      walk_at "st"
      refine bo_orR (bo_ltS ?_)
      rw [show decide ((⟨#[a]⟩ : Str).cps.toList < (⟨#[b]⟩ : Str).cps.toList) = decide (a < b) from lt_sg a b]
      refine ⟨_, rfl, rfl, ?_⟩
      cases hab : decide (a < b)
      · refine if_so rfl ?_
        walk_at "st"
        exact ⟨rfl, rfl⟩
      · exact if_not rfl rfl
    walk_at "st"
    refine bo_eqE (.inl (.inl rfl)) (.inl (.inl rfl)) ?_
    rw [ltE_all, ltL_all]
    exact k
abbrev s_law_number : Stmt := top 54
theorem sc_law_number : FnScope ["_law_word", "_law_sign"] ["_law_word"] (defScope s_law_number) := ⟨rfl, rfl, rfl, by decide +kernel, rfl, by decide +kernel, by decide +kernel⟩
theorem c_law_number {P : Program} {w : World} {K : PySem.W.Frag} {mg : Str → Option Value} {base : Heap} {cl : Nat → Addr} {f : Addr} {fd : FuncData} (hm : mg "_law_number" = some (.ref f)) (B : Blt mg) (Z : ZZ K w mg cl) (Fn : Fun K "_law_number" "_law_number" s_law_number f fd) : Cal P w K mg base 1 "_law_number" (spN FK ⟨K, cl⟩ S_number14) [] := by
  have fz := Z.z0
  have gz := Z.z1
  refine calD hm Fn sc_law_number (by intro ds W post h; first | (obtain ⟨rfl, _⟩ := h; rfl) | (obtain ⟨_, rfl, _⟩ := h; rfl) | (obtain ⟨_, _, rfl, _⟩ := h; rfl) | (obtain ⟨_, _, _, rfl, _⟩ := h; rfl) | (obtain ⟨_, _, _, _, rfl, _⟩ := h; rfl) | (obtain ⟨_, _, _, _, _, rfl, _⟩ := h; rfl) | (obtain ⟨_, _, _, _, _, _, rfl, _⟩ := h; rfl) | (obtain ⟨_, _, _, _, _, _, _, rfl, _⟩ := h; rfl) | (obtain ⟨_, _, _, _, _, _, _, _, rfl, _⟩ := h; rfl) | (obtain ⟨_, _, _, _, _, _, _, _, _, rfl, _⟩ := h; rfl) | (obtain ⟨_, _, _, _, _, _, _, _, _, _, rfl, _⟩ := h; rfl) | (obtain ⟨_, _, _, _, _, _, _, _, _, _, _, rfl, _⟩ := h; rfl)) (fun _ _ _ _ _ _ us hl => match us, hl with | [_], _ => rfl) fun cdv A outer s H E hr => ⟨_, pss_cons (ps_if (PW.pt (pw_or (pt_cmpR op_eq (pv 0) pe_str (nomark _)) (pw_or (pt_cmpR (op_neE hr.units) (pe_lc (own := [("_law_sign", 1)]) (by rfl) sc_law_number.nd (pi_str (pv 0)) (blkOk_by (own := [("_law_sign", 1)]) (N := ["_law_word", "_law_sign"]) (sc := defScope s_law_number) (by decide +kernel)) (fun _ _ _ _ _ => (pg_name (i := 1) sc_law_number.nd rfl (Or.inl rfl))) (fun _ _ _ _ _ => pts_one (pt_cmpR op_notIn_sign (pv 1) pe_str rfl)) (fun _ _ _ _ _ => (pv 1))) (pe_lst pa_nil) (nomark _)) (pw_or1 (PW.pt (pw_and (pt_cmpR op_gt (pe_callB call_len (by rfl) B.len bt_len (pa_cons (pv 0) pa_nil)) pe_int (nomark _)) (pw_and1 (pt_cmpR op_eq (pe_ix ix_seq (pv 0) pe_int (fun _ _ => rfl)) pe_str (nomark _))))))))) (pss_one (ps_ret (pe_un un_neg pe_int))) (pss_nil))
 (pss_one (ps_ret (pe_ifExp (pt_cmpR op_lt (pe_callB call_len (by rfl) B.len bt_len (pa_cons (pv 0) pa_nil)) pe_int (nomark _)) (pe_callTy call_int_str (by rfl) B.int bt_int (pa_cons (pv 0) pa_nil)) (pe_op op_pow pe_int pe_int)))), ?_⟩
  rintro ds W post ⟨s, rfl, rfl, hl, k⟩
  try dsimp only [cxOf, Cx.nox, Cx.wish]
  have h16 := sizeLine_eq
  have hs2 : (lets s).length ≤ 640 := by rw [← str_lets]; exact hl
  walk_at "st"
  by_cases h0 : s = ""
  · subst h0
    refine if_so (eqself) ?_
    try walk_at "st"
    rw [lawNum_none numO_empty] at k
    try refine if_so (by first | rfl | decide +kernel | simp) ?_
    try walk_at "st"
    exact k
  refine if_not ((decide_eq_false h0)) ?_
  try walk_at "st"
  walk_at "st"
  refine ev_lcP (ei_str ?_)
  walk_at "st"
  refine ⟨dgE s, fun i d e hd he => ?_, by rw [dgE, List.length_map, List.length_map], by rw [dgE, List.length_map]; omega, ?_⟩
  · rw [List.getElem?_map] at hd
    obtain ⟨c, hc, rfl⟩ := Option.map_eq_some_iff.mp hd
    have hc : (lets s)[i]? = some c := hc
    rw [dgE, List.getElem?_map, hc] at he
    obtain rfl := Option.some.inj he
    refine tw_name (by simp) ?_
    walk_at "st"
    refine bo_notInSg ?_
    rw [dig_dec]
    refine ⟨_, rfl, rfl, ?_⟩
    cases hab : decide (48 ≤ c ∧ c ≤ 57)
    · refine if_so rfl ?_
      walk_at "st"
      exact ⟨rfl, rfl⟩
    · exact if_not rfl rfl
  walk_at "st"
  refine bo_neE (.inl (.inl rfl)) (.inl (.inl rfl)) ?_
  rw [dgE_all]
  refine ⟨_, rfl, ?_⟩
  cases e : (lets s).all (fun c => decide (48 ≤ c ∧ c ≤ 57)) with
  | false =>
    try refine if_so (by first | rfl | decide +kernel | simp) ?_
    try walk_at "st"
    rw [lawNum_none (numO_bad (by rw [dgL_all]; exact e))] at k
    try refine if_so (by first | rfl | decide +kernel | simp) ?_
    try walk_at "st"
    exact k
  | true =>
    have e' : (dgL s).all id = true := by rw [dgL_all]; exact e
    try refine if_not (by first | rfl | decide +kernel | simp) ?_
    try walk_at "st"
    refine ca_lenS (by omega) ?_
    walk_at "st"
    refine if_dec (fun h => ?_) (fun h => ?_)
    · obtain ⟨c, t, hct⟩ : ∃ c t, lets s = c :: t := by
        cases e2 : lets s with
        | nil => exact absurd (str_ext (e2.trans rfl)) h0
        | cons c t => exact ⟨c, t, rfl⟩
      have hc : (lets s).head? = some c := by rw [hct]; rfl
      walk_at "st"
      refine bo_ixSqS (by omega) (at_head hc) ?_
      walk_at "st"
      have hl1 : 1 < (lets s).length := by rw [← str_lets]; omega
      by_cases h48 : c = 48
      · subst h48
        refine if_so (eqself) ?_
        try walk_at "st"
        rw [lawNum_none (numO_zero hl1 hc)] at k
        exact k
      · refine if_not ((decide_eq_false fun e => h48 (sg_inj (b := 48) e))) ?_
        try walk_at "st"
        have hn := numO_ok h0 e' fun h => h48 (by rw [hc] at h; exact Option.some.inj h.2)
        walk_at "st"
        refine ca_lenS (by omega) ?_
        walk_at "st"
        refine if_dec (fun h6 => ?_) (fun h6 => ?_)
        · rw [lawNum_short hn (by omega)] at k
          walk_at "st"
          exact ca_intS (numO_int hn hl) hl k
        · rw [lawNum_long hn (by omega)] at k
          walk_at "st"
          exact k
    · have hn := numO_ok h0 e' fun h2 => h (by have := h2.1; rw [← str_lets] at this; omega)
      walk_at "st"
      refine ca_lenS (by omega) ?_
      walk_at "st"
      refine if_dec (fun h6 => ?_) (fun h6 => ?_)
      · rw [lawNum_short hn (by omega)] at k
        walk_at "st"
        exact ca_intS (numO_int hn hl) hl k
      · rw [lawNum_long hn (by omega)] at k
        walk_at "st"
        exact k
abbrev s_law_is_line : Stmt := top 55
theorem sc_law_is_line : FnScope ["_law_line", "_law_at", "_law_words", "_law_signs", "_law_sign", "_law_word", "_law_numbers", "_law_k"] ["_law_line", "_law_at"] (defScope s_law_is_line) := ⟨rfl, rfl, rfl, by decide +kernel, rfl, by decide +kernel, by decide +kernel⟩
theorem c_law_is_line {P : Program} {w : World} {K : PySem.W.Frag} {mg : Str → Option Value} {base : Heap} {cl : Nat → Addr} {f : Addr} {fd : FuncData} (hm : mg "_law_is_line" = some (.ref f)) (B : Blt mg) (Z : ZZ K w mg cl) (Fn : Fun K "_law_is_line" "_law_is_line" s_law_is_line f fd)
    (c_law_is_rising : Cal P w K mg base 1 "_law_is_rising" (spN FK ⟨K, cl⟩ S_rising14) [])
    (c_law_number : Cal P w K mg base 1 "_law_number" (spN FK ⟨K, cl⟩ S_number14) []) : Cal P w K mg base 2 "_law_is_line" (spN FK ⟨K, cl⟩ S_isline14) [] := by
  have fz := Z.z0
  have gz := Z.z1
  refine calD hm Fn sc_law_is_line (by intro ds W post h; first | (obtain ⟨rfl, _⟩ := h; rfl) | (obtain ⟨_, rfl, _⟩ := h; rfl) | (obtain ⟨_, _, rfl, _⟩ := h; rfl) | (obtain ⟨_, _, _, rfl, _⟩ := h; rfl) | (obtain ⟨_, _, _, _, rfl, _⟩ := h; rfl) | (obtain ⟨_, _, _, _, _, rfl, _⟩ := h; rfl) | (obtain ⟨_, _, _, _, _, _, rfl, _⟩ := h; rfl) | (obtain ⟨_, _, _, _, _, _, _, rfl, _⟩ := h; rfl) | (obtain ⟨_, _, _, _, _, _, _, _, rfl, _⟩ := h; rfl) | (obtain ⟨_, _, _, _, _, _, _, _, _, rfl, _⟩ := h; rfl) | (obtain ⟨_, _, _, _, _, _, _, _, _, _, rfl, _⟩ := h; rfl) | (obtain ⟨_, _, _, _, _, _, _, _, _, _, _, rfl, _⟩ := h; rfl)) (fun _ _ _ _ _ _ us hl => match us, hl with | [_, _], _ => rfl) fun cdv A outer s H E hr => ⟨_, pss_cons (ps_set (i := 2) sc_law_is_line.nd rfl (Or.inl rfl) (pe_split (pv 0) pe_str))
 (pss_cons (ps_set (i := 3) sc_law_is_line.nd rfl (Or.inr rfl) pe_str)
 (pss_cons (ps_if (pt_cmpR op_ne (pe_ix ix_list (pv 2) pe_int (fun _ _ => rfl)) pe_str (nomark _)) (pss_one (ps_if (PW.pt (pw_or (pt_cmpR op_eq (pe_ix ix_list (pv 2) pe_int (fun _ _ => rfl)) pe_str (nomark _)) (pw_or (pt_cmpR (op_neE hr.units) (pe_lc (own := [("_law_sign", 4)]) (by rfl) sc_law_is_line.nd (pi_str (pe_ix ix_list (pv 2) pe_int (fun _ _ => rfl))) (blkOk_by (own := [("_law_sign", 4)]) (N := ["_law_line", "_law_at", "_law_words", "_law_signs", "_law_sign", "_law_word", "_law_numbers", "_law_k"]) (sc := defScope s_law_is_line) (by decide +kernel)) (fun _ _ _ _ _ => (pg_name (i := 4) sc_law_is_line.nd rfl (Or.inl rfl))) (fun _ _ _ _ _ => pts_one (pt_cmpR op_notIn_sign (pv 4) (pv 3) rfl)) (fun _ _ _ _ _ => (pv 4))) (pe_lst pa_nil) (nomark _)) (pw_or1 (pt_not (pt_val (pe_c c_law_is_rising hr (by omega) (by rfl) (pa_cons (pe_ix ix_list (pv 2) pe_int (fun _ _ => rfl)) pa_nil)))))))) (pss_one (ps_ret pe_bl)) (pss_nil))) (pss_nil))
 (pss_cons (ps_setLc (i := 6) (own := [("_law_word", 5)]) (by rfl) sc_law_is_line.nd rfl rfl (sw_true rfl rfl rfl (by decide +kernel)) (pi_list (pe_slice sl_list (pv 2) (po_some pe_int) po_none)) (blkOk_by (own := [("_law_word", 5)]) (N := ["_law_line", "_law_at", "_law_words", "_law_signs", "_law_sign", "_law_word", "_law_numbers", "_law_k"]) (sc := defScope s_law_is_line) (by decide +kernel)) (fun _ _ _ _ _ => (pg_name (i := 5) sc_law_is_line.nd rfl (Or.inl rfl))) (fun _ _ _ _ _ => pts_nil) (fun _ _ _ _ _ => (pe_c c_law_number hr (by omega) (by rfl) (pa_cons (pv 5) pa_nil))))
 (pss_one (ps_ret (pe_and (pe_cmpR (op_eqE hr.units) (pe_lc (own := [("_law_k", 7)]) (by rfl) sc_law_is_line.nd (pi_list (pv 6)) (blkOk_by (own := [("_law_k", 7)]) (N := ["_law_line", "_law_at", "_law_words", "_law_signs", "_law_sign", "_law_word", "_law_numbers", "_law_k"]) (sc := defScope s_law_is_line) (by decide +kernel)) (fun _ _ _ _ _ => (pg_name (i := 7) sc_law_is_line.nd rfl (Or.inl rfl))) (fun _ _ _ _ _ => pts_one (pt_not (pt_chain op_le op_lt pe_int (pv 7) (pv 1)))) (fun _ _ _ _ _ => (pv 7))) (pe_lst pa_nil) (nomark _)) (pe_one (pe_c c_law_is_rising hr (by omega) (by rfl) (pa_cons (pv 6) pa_nil))))))))), ?_⟩
  rintro ds W post ⟨i, l, rfl, rfl, hi, hl, k⟩
  try dsimp only [cxOf, Cx.nox, Cx.wish]
  have h16 := sizeLine_eq
  obtain ⟨w, ws, hc⟩ : ∃ w ws, cutAt 32 l = w :: ws := by
    cases e : cutAt 32 l with
    | nil => exact absurd e (cutAt_ne 32 l)
    | cons w ws => exact ⟨w, ws, rfl⟩
  have hwl : ∀ z ∈ w :: ws, z.length ≤ 640 := fun z hz => by
    rw [← hc] at hz
    have := cutAt_each hz
    omega
  have hw1 := hwl w List.mem_cons_self
  have hw2 : (lets w).length ≤ 640 := by rw [← str_lets]; exact hw1
  have hwn : (w :: ws).length ≤ 641 := by
    rw [← hc, cutAt_len]
    have := List.count_le_length (a := 32) (l := lets l)
    rw [← str_lets] at this
    omega
  rw [List.length_cons] at hwn
  rw [line_law l w ws hc (by omega)] at k
  walk_at "st"
  refine ev_split ?_
  walk_at "st"
  refine ⟨rfl, by omega, ?_⟩
  rw [split_sp, hc]
  walk_at "st"
  refine bo_ixL (.inl (.inl rfl)) (z := .str w) at_hd ?_
  walk_at "st"
  by_cases h9 : w = "-"
  case' pos =>
    subst h9
    have hbw : headB "-" = true := rfl
    refine if_not (neself) ?_
    try walk_at "st"
  case' neg =>
    refine if_so ((by rw [decide_eq_false h9]; rfl)) ?_
    try walk_at "st"
    refine bo_ixL (.inl (.inl rfl)) (z := .str w) at_hd ?_
    walk_at "st"
    by_cases h8 : w = ""
    case' pos =>
      subst h8
      rw [headB_empty, Bool.false_and] at k
      refine if_so (eqself) ?_
      try walk_at "st"
      exact k
    have hbl : headB w = letB w := by
      unfold headB
      rw [decide_eq_false h9, decide_eq_false h8]
      rfl
    refine if_not ((decide_eq_false h8)) ?_
    try walk_at "st"
    refine ev_lcP (ei_str ?_)
    walk_at "st"
    refine bo_ixL (.inl (.inl rfl)) (z := .str w) at_hd ?_
    refine ⟨_, rfl, ?_⟩
    refine ⟨lsE w, fun j d e hd he => ?refine_1, by rw [lsE, List.length_map, List.length_map], by rw [lsE, List.length_map]; omega, ?_⟩
    case' refine_1 =>
      rw [List.getElem?_map] at hd
      obtain ⟨c, hc, rfl⟩ := Option.map_eq_some_iff.mp hd
      have hc : (lets w)[j]? = some c := hc
      rw [lsE, List.getElem?_map, hc] at he
      obtain rfl := Option.some.inj he
      refine tw_name (by simp) ?_
      walk_at "st"
      refine bo_notInSg ?_
      rw [sig_dec]
      refine ⟨_, rfl, rfl, ?_⟩
      cases hab : isLB c
      · refine if_so rfl ?_
        walk_at "st"
        exact ⟨rfl, rfl⟩
      · exact if_not rfl rfl
    walk_at "st"
    refine bo_neE (.inl (.inl rfl)) (.inl (.inl rfl)) ?_
    rw [lsE_all]
    refine ⟨_, rfl, ?_⟩
    rw [hbl] at k
    unfold letB at k
    cases e1 : (lets w).all isLB
    case' false =>
      rw [e1, Bool.false_and, Bool.false_and] at k
      try refine if_so (by first | rfl | decide +kernel | simp) ?_
      try walk_at "st"
      try refine if_so (by first | rfl | decide +kernel | simp) ?_
      try walk_at "st"
      exact k
    rw [e1, Bool.true_and] at k
    try refine if_not (by first | rfl | decide +kernel | simp) ?_
    try walk_at "st"
    refine bo_ixL (.inl (.inl rfl)) (z := .str w) at_hd ?_
    walk_at "st"
    refine hand0 ⟨_, rfl, rfl, .inr ⟨w, rfl, by omega, ?_⟩⟩
    try simp only [List.nil_append]
    try walk_at "st"
    cases e2 : ascB (lets w)
    case' false =>
      rw [e2, Bool.false_and] at k
      try refine if_so (by first | rfl | decide +kernel | simp) ?_
      try walk_at "st"
      exact k
    have hbw : headB w = true := by rw [hbl]; unfold letB; rw [e1, e2]; rfl
    rw [e2, ← hbw] at k
    try refine if_not (by first | rfl | decide +kernel | simp) ?_
    try walk_at "st"
  all_goals rw [hbw, Bool.true_and] at k
  all_goals
    refine ev_lcM (ei_list ?_)
    walk_at "st"
    rw [List.map_cons, cutD_d1]
    refine ⟨(ws.map lawNum).map D.int, fun j d e hd he => ?_, by show _ = (ws.map D.str).length; rw [List.length_map, List.length_map, List.length_map], by simp only [List.length_map]; omega, ?_⟩
    · have hd : (ws.map D.str)[j]? = some d := hd
      rw [List.getElem?_map] at hd
      obtain ⟨n, hn, rfl⟩ := Option.map_eq_some_iff.mp hd
      rw [List.map_map, List.getElem?_map, hn] at he
      obtain rfl := Option.some.inj he
      refine tw_name (by simp) ?_
      walk_at "st"
      refine ⟨rfl, ?_⟩
      walk_at "st"
      refine hand0 ⟨n, rfl, rfl, hwl n (List.mem_cons_of_mem _ (List.mem_of_getElem? hn)), rfl, rfl⟩
      try simp only [List.nil_append]
      try walk_at "st"
    walk_at "st"
    refine ev_lcP (ei_list ?_)
    walk_at "st"
    refine ⟨inE i (ws.map lawNum), fun j d e hd he => ?_, by rw [inE]; simp only [List.length_map], by rw [inE, List.length_map, List.length_map]; omega, ?_⟩
    · rw [List.getElem?_map] at hd
      obtain ⟨z, hz, rfl⟩ := Option.map_eq_some_iff.mp hd
      rw [inE, List.getElem?_map, hz] at he
      obtain rfl := Option.some.inj he
      refine tw_name (by simp) ?_
      walk_at "st"
      refine if_dec (fun h1 => ?_) (fun h1 => ?_)
      · have e : inB i z = decide (z < ((i : Nat) : Int)) := by
          unfold inB
          rw [decide_eq_true h1, Bool.true_and]
        walk_at "st"
        refine ⟨by show (!_) = (!_); rw [e], ?_⟩
        cases hab : decide (z < ((i : Nat) : Int))
        · refine if_so rfl ?_
          walk_at "st"
          exact ⟨rfl, rfl⟩
        · exact if_not rfl rfl
      · have e : inB i z = false := by
          unfold inB
          rw [decide_eq_false h1, Bool.false_and]
        refine ⟨_, rfl, by show (!false) = (!inB i z); rw [e], ?_⟩
        refine if_so rfl ?_
        walk_at "st"
        exact ⟨rfl, rfl⟩
    walk_at "st"
    refine bo_eqE (.inl (.inl rfl)) (.inl (.inl rfl)) ?_
    rw [inE_all]
    refine ⟨_, rfl, ?_⟩
    cases e5 : (ws.map lawNum).all (inB i)
    · rw [e5, Bool.false_and] at k
      walk_at "st"
      exact k
    · rw [e5, Bool.true_and] at k
      walk_at "st"
      refine hand0 ⟨_, rfl, rfl, .inl ⟨ws.map lawNum, rfl, by rw [List.length_map]; omega, k⟩⟩
      try simp only [List.nil_append]
      try walk_at "st"
abbrev s_law_due : Stmt := top 56
theorem sc_law_due : FnScope ["_law_written", "_law_k", "_law_line", "_law_wrong"] ["_law_written"] (defScope s_law_due) := ⟨rfl, rfl, rfl, by decide +kernel, rfl, by decide +kernel, by decide +kernel⟩
theorem c_law_due {P : Program} {w : World} {K : PySem.W.Frag} {mg : Str → Option Value} {base : Heap} {cl : Nat → Addr} {f : Addr} {fd : FuncData} (hm : mg "_law_due" = some (.ref f)) (B : Blt mg) (Z : ZZ K w mg cl) (Fn : Fun K "_law_due" "_law_due" s_law_due f fd)
    (c_law_is_line : Cal P w K mg base 2 "_law_is_line" (spN FK ⟨K, cl⟩ S_isline14) []) : Cal P w K mg base 3 "_law_due" (spN FK ⟨K, cl⟩ S_due14) [] := by
  have fz := Z.z0
  have gz := Z.z1
  refine calD hm Fn sc_law_due (by intro ds W post h; first | (obtain ⟨rfl, _⟩ := h; rfl) | (obtain ⟨_, rfl, _⟩ := h; rfl) | (obtain ⟨_, _, rfl, _⟩ := h; rfl) | (obtain ⟨_, _, _, rfl, _⟩ := h; rfl) | (obtain ⟨_, _, _, _, rfl, _⟩ := h; rfl) | (obtain ⟨_, _, _, _, _, rfl, _⟩ := h; rfl) | (obtain ⟨_, _, _, _, _, _, rfl, _⟩ := h; rfl) | (obtain ⟨_, _, _, _, _, _, _, rfl, _⟩ := h; rfl) | (obtain ⟨_, _, _, _, _, _, _, _, rfl, _⟩ := h; rfl) | (obtain ⟨_, _, _, _, _, _, _, _, _, rfl, _⟩ := h; rfl) | (obtain ⟨_, _, _, _, _, _, _, _, _, _, rfl, _⟩ := h; rfl) | (obtain ⟨_, _, _, _, _, _, _, _, _, _, _, rfl, _⟩ := h; rfl)) (fun _ _ _ _ _ _ us hl => match us, hl with | [_], _ => rfl) fun cdv A outer s H E hr => ⟨_, pss_cons (ps_setLc (i := 3) (own := [("_law_k", 1), ("_law_line", 2)]) (by rfl) sc_law_due.nd rfl rfl (sw_true rfl rfl rfl (by decide +kernel)) (pi_enumK (by rfl) B.enumerate (pa_cons (pe_split (pv 0) pe_str) pa_nil)) (blkOk_by (own := [("_law_k", 1), ("_law_line", 2)]) (N := ["_law_written", "_law_k", "_law_line", "_law_wrong"]) (sc := defScope s_law_due) (by decide +kernel)) (fun _ _ _ _ _ => (pg_tupK (K := K) rfl (n := 2) rfl (pgs_cons (pg_name (i := 1) sc_law_due.nd rfl (Or.inl rfl)) (pgs_cons (pg_name (i := 2) sc_law_due.nd rfl (Or.inl rfl)) pgs_nil)))) (fun _ _ _ _ _ => pts_one (pt_not (pt_val (pe_c c_law_is_line hr (by omega) (by rfl) (pa_cons (pv 2) (pa_cons (pv 1) pa_nil)))))) (fun _ _ _ _ _ => (pe_op op_add (pv 1) pe_int)))
 (pss_one (ps_ret (pe_ifExp (pt_cmpR (op_neE hr.units) (pv 3) (pe_lst pa_nil) (nomark _)) (pe_ix ix_list (pv 3) pe_int (fun _ _ => rfl)) pe_int))), ?_⟩
  rintro ds W post ⟨s, rfl, rfl, hl, k⟩
  try dsimp only [cxOf, Cx.nox, Cx.wish]
  have h16 := sizeLine_eq
  have hpl : placeW s = (wrongs 0 (cutAt 10 s)).headD 0 := wrongs_bad _ 0
  have hn : (cutAt 10 s).length ≤ 641 := by
    rw [cutAt_len]
    have := List.count_le_length (a := 10) (l := lets s)
    rw [← str_lets] at this
    omega
  walk_at "st"
  refine ev_lcP (ei_enumK ?_)
  walk_at "st"
  refine ev_split ?_
  walk_at "st"
  refine ⟨rfl, by omega, ?_⟩
  rw [split_nl]
  refine ea_nil ?_
  refine ⟨_, _, rfl, .inl rfl, wrE 0 (cutAt 10 s), fun i d e hd he => ?_, by rw [wrE_len, pairsD_len, List.length_map], by rw [wrE_len]; omega, ?_⟩
  · obtain ⟨x, hx, rfl⟩ := pairsD_get hd
    rw [List.getElem?_map] at hx
    obtain ⟨l, hx2, rfl⟩ := Option.map_eq_some_iff.mp hx
    have hi := (List.getElem?_eq_some_iff.mp hx2).1
    have hll := cutAt_each (List.mem_of_getElem? hx2)
    rw [wrE_get hx2] at he
    obtain rfl := Option.some.inj he
    have ez : ((0 + i : Nat) : Int) = ((i : Nat) : Int) := by omega
    refine tw_tup rfl (tws_cons (tw_name (by simp) (tws_cons (tw_name (by simp) (tws_nil ?_)))))
    rw [ez]
    walk_at "st"
    refine hand0 ⟨i, l, rfl, rfl, by omega, by omega, ?_⟩
    try simp only [List.nil_append]
    try walk_at "st"
    refine ⟨rfl, ?_⟩
    cases hab : lineB i l
    · refine if_so rfl ?_
      walk_at "st"
      exact ⟨rfl, rfl⟩
    · exact if_not rfl trivial
  rw [wrE_flt]
  walk_at "st"
  refine bo_neE (.inl (.inl rfl)) (.inl (.inl rfl)) ?_
  rw [hpl] at k
  cases e : wrongs 0 (cutAt 10 s) with
  | nil =>
    rw [e] at k
    walk_at "st"
    exact k
  | cons a t =>
    rw [e] at k
    walk_at "st"
    exact bo_ixL (.inl (.inl rfl)) (z := natD a) at_hd k
end
section
abbrev s_law_bent_list : Stmt := top 57
theorem sc_law_bent_list : FnScope ["_law_deck_here", "_law_items", "_law_menu", "_law_at", "_law_to", "_law_found", "_law_way"] ["_law_deck_here", "_law_items", "_law_menu"] (defScope s_law_bent_list) := ⟨rfl, rfl, rfl, by decide +kernel, rfl, by decide +kernel, by decide +kernel⟩
theorem c_law_bent_list {P : Program} {w : World} {K : PySem.W.Frag} {mg : Str → Option Value} {base : Heap} {cl : Nat → Addr} {f : Addr} {fd : FuncData} (hm : mg "_law_bent_list" = some (.ref f)) (B : Blt mg) (Z : ZZ K w mg cl) (Fn : Fun K "_law_bent_list" "_law_bent_list" s_law_bent_list f fd)
    (c_law_draw : Cal P w K mg base 1 "_law_draw" (spN FK ⟨K, cl⟩ (S_draw DkA)) [])
    (c_law_pick : Cal P w K mg base 2 "_law_pick" (spN FK ⟨K, cl⟩ (S_pick DkA)) []) : Cal P w K mg base 3 "_law_bent_list" (spN FK ⟨K, cl⟩ S_bentL14) [] := by
  have fz := Z.z0
  have gz := Z.z1
  refine calD hm Fn sc_law_bent_list (by intro ds W post h; first | (obtain ⟨rfl, _⟩ := h; rfl) | (obtain ⟨_, rfl, _⟩ := h; rfl) | (obtain ⟨_, _, rfl, _⟩ := h; rfl) | (obtain ⟨_, _, _, rfl, _⟩ := h; rfl) | (obtain ⟨_, _, _, _, rfl, _⟩ := h; rfl) | (obtain ⟨_, _, _, _, _, rfl, _⟩ := h; rfl) | (obtain ⟨_, _, _, _, _, _, rfl, _⟩ := h; rfl) | (obtain ⟨_, _, _, _, _, _, _, rfl, _⟩ := h; rfl) | (obtain ⟨_, _, _, _, _, _, _, _, rfl, _⟩ := h; rfl) | (obtain ⟨_, _, _, _, _, _, _, _, _, rfl, _⟩ := h; rfl) | (obtain ⟨_, _, _, _, _, _, _, _, _, _, rfl, _⟩ := h; rfl) | (obtain ⟨_, _, _, _, _, _, _, _, _, _, _, rfl, _⟩ := h; rfl)) (fun _ _ _ _ _ _ us hl => match us, hl with | [_, _, _], _ => rfl) fun cdv A outer s H E hr => ⟨_, pss_cons (ps_par3 (i := 3) (j := 4) (l := 5) (by rfl) sc_law_bent_list.nd rfl rfl rfl (by decide) (by decide) (by decide) rfl rfl rfl (pa_cons (pe_c c_law_draw hr (by omega) (by rfl) (pa_cons (pv 0) (pa_cons (pe_callB call_len (by rfl) B.len bt_len (pa_cons (pv 1) pa_nil)) pa_nil))) (pa_cons (pe_c c_law_draw hr (by omega) (by rfl) (pa_cons (pv 0) (pa_cons (pe_callB call_len (by rfl) B.len bt_len (pa_cons (pv 1) pa_nil)) pa_nil))) (pa_cons (pe_callTy call_list_of (by rfl) B.list bt_list (pa_cons (pv 1) pa_nil)) pa_nil))) (by rfl))
 (pss_cons (ps_set (i := 6) sc_law_bent_list.nd rfl (Or.inl rfl) (pe_c c_law_draw hr (by omega) (by rfl) (pa_cons (pv 0) (pa_cons pe_int pa_nil))))
 (pss_cons (ps_if (PW.pt (pw_and (pt_cmpR op_eq (pv 6) pe_int (nomark _)) (pw_and1 (pt_cmpR op_gt (pe_callB call_len (by rfl) B.len bt_len (pa_cons (pv 5) pa_nil)) pe_int (nomark _))))) (pss_one (ps_expr (pe_bm PySem.F.plainAttrs_list PySem.F.slot_list_pop PySem.F.type_list_pop mt_popAt (pv 5) (pa_cons (pv 3) pa_nil)))) (pss_one (ps_if (pt_cmpR op_eq (pv 6) pe_int (nomark _)) (pss_one (ps_expr (pe_bm PySem.F.plainAttrs_list PySem.F.slot_list_insert PySem.F.type_list_insert mt_insAt (pv 5) (pa_cons (pv 3) (pa_cons (pe_ix ix_list (pv 5) (pv 3) (fun _ _ => rfl)) pa_nil))))) (pss_one (ps_if (pt_cmpR op_eq (pv 6) pe_int (nomark _)) (pss_one (ps_asg (pe_tup (pa_cons (pe_ix ix_list (pv 5) (pv 4) (fun _ _ => rfl)) (pa_cons (pe_ix ix_list (pv 5) (pv 3) (fun _ _ => rfl)) pa_nil))) (pg_tup (n := 2) rfl (pgs_cons (pg_sub (pv 5) (pv 3) set_list) (pgs_cons (pg_sub (pv 5) (pv 4) set_list) pgs_nil))))) (pss_one (ps_if (pt_cmpR op_eq (pv 6) pe_int (nomark _)) (pss_one (ps_expr (pe_bm PySem.F.plainAttrs_list PySem.F.slot_list_insert PySem.F.type_list_insert mt_insAt (pv 5) (pa_cons (pv 4) (pa_cons (pe_c c_law_pick hr (by omega) (by rfl) (pa_cons (pv 0) (pa_cons (pv 2) pa_nil))) pa_nil))))) (pss_one (ps_asg (pe_c c_law_pick hr (by omega) (by rfl) (pa_cons (pv 0) (pa_cons (pv 2) pa_nil))) (pg_sub (pv 5) (pv 3) set_list))))))))))
 (pss_one (ps_ret (pv 5))))), ?_⟩
  rintro ds W post ⟨a, c, ls, m, n, rfl, hd, hc, hls, hn, hne, hmn, hml, hm, k⟩
  try dsimp only [cxOf, Cx.nox, Cx.wish]
  have h16 := sizeLine_eq
  have hf := hls.few
  have hpos : 0 < ls.length := List.length_pos_iff.mpr hne
  have hml2 : (ls.map D.str).length = ls.length := List.length_map _
  refine sw_seq (sw_par3 ?_)
  walk_at "st"
  refine handA ⟨a, c, _, rfl, hd, by omega, by omega, by omega, fun z1 W1 z10 z11 hd1 => ?_⟩
  try walk_at "st"
  obtain ⟨i, rfl⟩ := Int.eq_ofNat_of_zero_le z10
  refine handA ⟨a, _, _, rfl, hd1, by omega, by omega, by omega, fun z2 W2 z20 z21 hd2 => ?_⟩
  try walk_at "st"
  obtain ⟨j, rfl⟩ := Int.eq_ofNat_of_zero_le z20
  have hi : i < ls.length := by omega
  have hj : j < ls.length := by omega
  obtain ⟨x, hx⟩ : ∃ x, ls[i]? = some x := ⟨_, List.getElem?_eq_getElem hi⟩
  obtain ⟨y, hy⟩ : ∃ y, ls[j]? = some y := ⟨_, List.getElem?_eq_getElem hj⟩
  have hxm := List.mem_of_getElem? hx
  have hxd : (ls.map D.str)[i]? = some (.str x) := by rw [List.getElem?_map, hx]; rfl
  have hyd : (ls.map D.str)[j]? = some (.str y) := by rw [List.getElem?_map, hy]; rfl
  have hxe := hls.each hxm
  refine ca_list (.inl (.inl (.inl rfl))) fun p hp => ?_
  refine ea_nil ⟨_, _, _, rfl, ?_⟩
  walk_at "st"
  refine ⟨W2, [(p, _)], List.perm_append_comm (l₁ := [_]), a, _, 5, rfl, hd2, by omega, by omega, by omega, fun z3 W3 z30 z31 hd3 => ?_⟩
  refine sw_perm (List.perm_append_comm (l₂ := [_])) ?_
  walk_at "st"
  have stop : ∀ (r : List Str) (W4 : Om), lsW (2 * n + 21) r → r ≠ [] → r.length ≤ ls.length + 1 → DkA a (c + 20) W4 → post (.lst (r.map .str)) W4 := k
  by_cases h0 : z3 = 0 ∧ 1 < ls.length
  · obtain ⟨h0, h1⟩ := h0
    refine if_so ((decide_eq_true h0)) ?_
    try walk_at "st"
    refine if_so ((decide_eq_true (by omega))) ?_
    try walk_at "st"
    refine ev_popAt ?_
    walk_at "st"
    refine ⟨p, _, [], W3, rfl, rfl, ?_⟩
    walk_at "st"
    refine ⟨_, [], W3, i, _, rfl, rfl, by omega, hxd, ?_⟩
    refine sw_fz (i := 5) rfl (List.Perm.refl _) (.lst _) ?_
    walk_at "st"
    rw [erase_map]
    have e1 : (ls.eraseIdx i).length = ls.length - 1 := List.length_eraseIdx_of_lt hi
    exact stop _ _ ((hls.erase i).up (by omega)) (fun e => by rw [e] at e1; simp at e1; omega) (by omega) (DkA_mono hd3 (by omega))
  have g0 : ∀ {A B C : Prop}, C → (A → B → C) → C := fun h _ => h
  by_cases h00 : z3 = 0
  case' pos =>
    refine if_so ((decide_eq_true h00)) ?_
    try walk_at "st"
    refine if_not ((decide_eq_false (by omega))) ?_
    try walk_at "st"
    refine if_not ((decide_eq_false (by omega))) ?_
    try walk_at "st"
    refine if_not ((decide_eq_false (by omega))) ?_
    try walk_at "st"
    refine if_not ((decide_eq_false (by omega))) ?_
    try walk_at "st"
    refine ⟨W3, [(p, _)], List.perm_append_comm (l₁ := [_]), a, _, _, rfl, hd3, by omega, .inl ⟨_, .inl rfl, by simpa using hmn, by simp; omega, fun z hz W5 hd5 => ?_⟩⟩
    obtain ⟨v, rfl, v1, v2, v3⟩ := menu_mem hm hz
    walk_at "st"
    refine ⟨p, _, i, (i : Nat), W5, [], rfl, rfl, rfl, ixN_nat (by omega), ?_⟩
    refine sw_fz (i := 5) rfl (List.perm_append_comm (l₂ := [_])) (.lst _) ?_
    walk_at "st"
    rw [set_map2]
    exact stop _ _ ((hls.set hi v1 v2 v3).up (by omega)) (fun e => hne (List.length_eq_zero_iff.mp (by have := congrArg List.length e; simpa using this))) (by simp) (DkA_mono hd5 (by omega))
  refine if_not ((decide_eq_false h00)) ?_
  try walk_at "st"
  by_cases h01 : z3 = 1
  · refine if_so ((decide_eq_true h01)) ?_
    try walk_at "st"
    refine ev_insAt ?_
    walk_at "st"
    refine ⟨p, _, [], W3, rfl, rfl, ?_⟩
    walk_at "st"
    refine bo_ixL (.inr ⟨_, rfl, List.mem_cons_self⟩) (at_nth hxd) ?_
    refine ea_nil ?_
    refine ⟨_, [], W3, i, _, rfl, rfl, by omega, by omega, ?_⟩
    refine sw_fz (i := 5) rfl (List.Perm.refl _) (.lst _) ?_
    walk_at "st"
    rw [ins_map]
    exact stop _ _ ((hls.ins i (hls.lo x hxm) (hls.no x hxm) hxe).up (by omega)) (ins_ne ls i x) (by rw [ins_len]; omega) (DkA_mono hd3 (by omega))
  refine if_not ((decide_eq_false h01)) ?_
  try walk_at "st"
  by_cases h02 : z3 = 2
  · refine if_so ((decide_eq_true h02)) ?_
    try walk_at "st"
    refine bo_ixL (.inr ⟨_, rfl, List.mem_cons_self⟩) (at_nth hyd) ?_
    walk_at "st"
    refine bo_ixL (.inr ⟨_, rfl, List.mem_cons_self⟩) (at_nth hxd) ?_
    walk_at "st"
    refine ta_subL ?_
    walk_at "st"
    refine ⟨p, _, (i : Nat), i, [], W3, rfl, rfl, rfl, ixN_nat (by omega), ?_⟩
    refine tas_cons (ta_subL ?_)
    walk_at "st"
    refine ⟨p, _, (j : Nat), j, [], W3, rfl, rfl, rfl, ixN_nat (by rw [List.length_set]; omega), ?_⟩
    refine tas_nil ?_
    refine sw_fz (i := 5) rfl (List.Perm.refl _) (.lst _) ?_
    walk_at "st"
    rw [set_map2, set_map2]
    exact stop _ _ ((hls.swap hx hy).up (by omega)) (fun e => hne (List.length_eq_zero_iff.mp (by have := congrArg List.length e; simpa using this))) (by simp) (DkA_mono hd3 (by omega))
  refine if_not ((decide_eq_false h02)) ?_
  try walk_at "st"
  by_cases h03 : z3 = 3
  · refine if_so ((decide_eq_true h03)) ?_
    try walk_at "st"
    refine ev_insAt ?_
    walk_at "st"
    refine ⟨p, _, [], W3, rfl, rfl, ?_⟩
    walk_at "st"
    refine ⟨W3, [(p, _)], List.perm_append_comm (l₁ := [_]), a, _, _, rfl, hd3, by omega, .inl ⟨_, .inl rfl, by simpa using hmn, by simp; omega, fun z hz W5 hd5 => ?_⟩⟩
    obtain ⟨v, rfl, v1, v2, v3⟩ := menu_mem hm hz
    refine ea_nil ?_
    refine ⟨_, W5, [], j, _, rfl, rfl, by omega, by omega, ?_⟩
    refine sw_fz (i := 5) rfl (List.perm_append_comm (l₂ := [_])) (.lst _) ?_
    walk_at "st"
    rw [ins_map]
    exact stop _ _ ((hls.ins j v1 v2 v3).up (by omega)) (ins_ne ls j v) (by rw [ins_len]; omega) (DkA_mono hd5 (by omega))
  refine if_not ((decide_eq_false h03)) ?_
  try walk_at "st"
  refine ⟨W3, [(p, _)], List.perm_append_comm (l₁ := [_]), a, _, _, rfl, hd3, by omega, .inl ⟨_, .inl rfl, by simpa using hmn, by simp; omega, fun z hz W5 hd5 => ?_⟩⟩
  obtain ⟨v, rfl, v1, v2, v3⟩ := menu_mem hm hz
  walk_at "st"
  refine ⟨p, _, i, (i : Nat), W5, [], rfl, rfl, rfl, ixN_nat (by omega), ?_⟩
  refine sw_fz (i := 5) rfl (List.perm_append_comm (l₂ := [_])) (.lst _) ?_
  walk_at "st"
  rw [set_map2]
  exact stop _ _ ((hls.set hi v1 v2 v3).up (by omega)) (fun e => hne (List.length_eq_zero_iff.mp (by have := congrArg List.length e; simpa using this))) (by simp) (DkA_mono hd5 (by omega))
abbrev s_law_bent : Stmt := top 58
theorem sc_law_bent : FnScope ["_law_deck_here", "_law_written", "_law_way", "_law_at", "_law_lines", "_law_k", "_law_menu", "_law_words"] ["_law_deck_here", "_law_written"] (defScope s_law_bent) := ⟨rfl, rfl, rfl, by decide +kernel, rfl, by decide +kernel, by decide +kernel⟩
theorem c_law_bent {P : Program} {w : World} {K : PySem.W.Frag} {mg : Str → Option Value} {base : Heap} {cl : Nat → Addr} {f : Addr} {fd : FuncData} (hm : mg "_law_bent" = some (.ref f)) (B : Blt mg) (Z : ZZ K w mg cl) (Fn : Fun K "_law_bent" "_law_bent" s_law_bent f fd)
    (c_law_draw : Cal P w K mg base 1 "_law_draw" (spN FK ⟨K, cl⟩ (S_draw DkA)) [])
    (c_law_pick : Cal P w K mg base 2 "_law_pick" (spN FK ⟨K, cl⟩ (S_pick DkA)) [])
    (c_law_bent_list : Cal P w K mg base 3 "_law_bent_list" (spN FK ⟨K, cl⟩ S_bentL14) []) : Cal P w K mg base 4 "_law_bent" (spN FK ⟨K, cl⟩ S_bent14) [] := by
  have fz := Z.z0
  have gz := Z.z1
  refine calD hm Fn sc_law_bent (by intro ds W post h; first | (obtain ⟨rfl, _⟩ := h; rfl) | (obtain ⟨_, rfl, _⟩ := h; rfl) | (obtain ⟨_, _, rfl, _⟩ := h; rfl) | (obtain ⟨_, _, _, rfl, _⟩ := h; rfl) | (obtain ⟨_, _, _, _, rfl, _⟩ := h; rfl) | (obtain ⟨_, _, _, _, _, rfl, _⟩ := h; rfl) | (obtain ⟨_, _, _, _, _, _, rfl, _⟩ := h; rfl) | (obtain ⟨_, _, _, _, _, _, _, rfl, _⟩ := h; rfl) | (obtain ⟨_, _, _, _, _, _, _, _, rfl, _⟩ := h; rfl) | (obtain ⟨_, _, _, _, _, _, _, _, _, rfl, _⟩ := h; rfl) | (obtain ⟨_, _, _, _, _, _, _, _, _, _, rfl, _⟩ := h; rfl) | (obtain ⟨_, _, _, _, _, _, _, _, _, _, _, rfl, _⟩ := h; rfl)) (fun _ _ _ _ _ _ us hl => match us, hl with | [_, _], _ => rfl) fun cdv A outer s H E hr => ⟨_, pss_cons (ps_par3 (i := 2) (j := 3) (l := 4) (by rfl) sc_law_bent.nd rfl rfl rfl (by decide) (by decide) (by decide) rfl rfl rfl (pa_cons (pe_c c_law_draw hr (by omega) (by rfl) (pa_cons (pv 0) (pa_cons pe_int pa_nil))) (pa_cons (pe_c c_law_draw hr (by omega) (by rfl) (pa_cons (pv 0) (pa_cons (pe_op op_add (pe_callB call_len (by rfl) B.len bt_len (pa_cons (pv 1) pa_nil)) pe_int) pa_nil))) (pa_cons (pe_split (pv 1) pe_str) pa_nil))) (by rfl))
 (pss_cons (ps_if (pt_cmpR op_eq (pv 2) pe_int (nomark _)) (pss_one (ps_ret (pe_op op_add_str (pe_op op_add_str (pe_slice sl_str (pv 1) po_none (po_some (pv 3))) (pe_c c_law_pick hr (by omega) (by rfl) (pa_cons (pv 0) (pa_cons pe_str pa_nil)))) (pe_slice sl_str (pv 1) (po_some (pv 3)) po_none)))) (pss_nil))
 (pss_cons (ps_if (pt_cmpR op_eq (pv 2) pe_int (nomark _)) (pss_one (ps_ret (pe_op op_add_str (pe_slice sl_str (pv 1) po_none (po_some (pv 3))) (pe_slice sl_str (pv 1) (po_some (pe_op op_add (pv 3) pe_int)) po_none)))) (pss_nil))
 (pss_cons (ps_if (pt_cmpR op_eq (pv 2) pe_int (nomark _)) (pss_one (ps_ret (pe_slice sl_str (pv 1) po_none (po_some (pv 3))))) (pss_nil))
 (pss_cons (ps_if (pt_cmpR op_eq (pv 2) pe_int (nomark _)) (pss_one (ps_ret (pe_join pe_str (pe_c c_law_bent_list hr (by omega) (by rfl) (pa_cons (pv 0) (pa_cons (pv 4) (pa_cons (pe_lst (pa_cons pe_str (pa_cons pe_str (pa_cons pe_str (pa_cons pe_str (pa_cons pe_str (pa_cons pe_str (pa_cons pe_str pa_nil)))))))) pa_nil))))))) (pss_nil))
 (pss_cons (ps_set (i := 5) sc_law_bent.nd rfl (Or.inl rfl) (pe_c c_law_draw hr (by omega) (by rfl) (pa_cons (pv 0) (pa_cons (pe_callB call_len (by rfl) B.len bt_len (pa_cons (pv 4) pa_nil)) pa_nil))))
 (pss_cons (ps_set (i := 6) sc_law_bent.nd rfl (Or.inl rfl) (pe_lst (pa_cons pe_str (pa_cons pe_str (pa_cons pe_str (pa_cons pe_str (pa_cons pe_str (pa_cons pe_str (pa_cons pe_str (pa_cons pe_str (pa_cons pe_str (pa_cons pe_str (pa_cons (pe_op op_mul_str pe_str pe_int) (pa_cons pe_str pa_nil))))))))))))))
 (pss_cons (ps_set (i := 7) sc_law_bent.nd rfl (Or.inl rfl) (pe_c c_law_bent_list hr (by omega) (by rfl) (pa_cons (pv 0) (pa_cons (pe_split (pe_ix ix_list (pv 4) (pv 5) (fun _ _ => rfl)) pe_str) (pa_cons (pv 6) pa_nil)))))
 (pss_one (ps_ret (pe_join pe_str (pe_op op_cat (pe_op op_cat (pe_slice sl_list (pv 4) po_none (po_some (pv 5))) (pe_lst (pa_cons (pe_join pe_str (pv 7)) pa_nil))) (pe_slice sl_list (pv 4) (po_some (pe_op op_add (pv 5) pe_int)) po_none)))))))))))), ?_⟩
  rintro ds W post ⟨a, c, s, m, q, rfl, hd, hc, hs, hm, k⟩
  try dsimp only [cxOf, Cx.nox, Cx.wish]
  have h16 := sizeLine_eq
  have hlen := hs.len
  obtain ⟨hl1, hl2⟩ := hs.lines
  have hlf := hl1.few
  have hln := List.length_pos_iff.mpr (cutAt_ne 10 s)
  have hsl : ∀ lo hi, (cutS s lo hi).length ≤ m := fun lo hi => (hs.cut lo hi).len
  refine sw_seq (sw_par3 ?_)
  walk_at "st"
  refine handA ⟨a, c, 6, rfl, hd, by omega, by omega, by omega, fun way W1 w0 w1 hd1 => ?_⟩
  try walk_at "st"
  refine ca_lenS (by omega) ?_
  walk_at "st"
  refine handA ⟨a, _, _, rfl, hd1, by omega, by omega, by omega, fun z W2 z0 z1 hd2 => ?_⟩
  try walk_at "st"
  obtain ⟨p, rfl⟩ := Int.eq_ofNat_of_zero_le z0
  refine ev_split ?_
  walk_at "st"
  refine ⟨rfl, by omega, ?_⟩
  rw [split_nl]
  refine ea_nil ⟨_, _, _, rfl, ?_⟩
  walk_at "st"
  by_cases h0 : way = 0
  · refine if_so ((decide_eq_true h0)) ?_
    try walk_at "st"
    refine ca_slS (by omega) ?_
    walk_at "st"
    refine handA ⟨a, _, _, rfl, hd2, by omega, .inr ⟨"-aZ0 1\n,.b9", rfl, by decide, by decide, fun y hy W3 hd3 => ?_⟩⟩
    try walk_at "st"
    have ty := txN.sg (signs14 y hy)
    have ly := ty.len
    have l1 := hsl none (some ((p : Nat) : Int))
    have l2 := hsl (some ((p : Nat) : Int)) none
    refine bo_addS (by omega) ?_
    try walk_at "st"
    refine ca_slS (by omega) ?_
    refine bo_addS (by rw [str_app_len]; omega) ?_
    try walk_at "st"
    exact k _ _ ((((hs.cut _ _).app ty).app (hs.cut _ _)).up (by omega) (by omega)) (DkA_mono hd3 (by omega))
  refine if_not ((decide_eq_false h0)) ?_
  try walk_at "st"
  by_cases h1 : way = 1
  · refine if_so ((decide_eq_true h1)) ?_
    try walk_at "st"
    have l1 := hsl none (some ((p : Nat) : Int))
    have l2 := hsl (some (((p : Nat) : Int) + 1)) none
    refine ca_slS (by omega) ?_
    walk_at "st"
    refine ca_slS (by omega) ?_
    refine bo_addS (by omega) ?_
    try walk_at "st"
    exact k _ _ (((hs.cut _ _).app (hs.cut _ _)).up (by omega) (by omega)) (DkA_mono hd2 (by omega))
  refine if_not ((decide_eq_false h1)) ?_
  try walk_at "st"
  by_cases h2 : way = 2
  · refine if_so ((decide_eq_true h2)) ?_
    try walk_at "st"
    refine ca_slS (by omega) ?_
    walk_at "st"
    exact k _ _ ((hs.cut _ _).up (by omega) (by omega)) (DkA_mono hd2 (by omega))
  refine if_not ((decide_eq_false h2)) ?_
  try walk_at "st"
  by_cases h3 : way = 3
  · refine if_so ((decide_eq_true h3)) ?_
    try walk_at "st"
    refine ev_join ?_
    walk_at "st"
    refine handA ⟨a, _, cutAt 10 s, menuL, m + 1, rfl, hd2, by omega, hl1, by omega, cutAt_ne 10 s, by decide, by decide, menuL_ok, fun r W3 r1 r2 r3 hd3 => ?_⟩
    try walk_at "st"
    have hj := r1.join (y := "\n") (c := 10) rfl (by omega) r2
    rw [if_pos rfl] at hj
    have hsum : (r.map (·.length)).sum + r.length * ("\n" : Str).length ≤ 16777216 := by
      have e : (r.map (·.length)).sum + r.length = wtS r := wt_two r
      have := r1.wt
      show _ + _ * 1 ≤ _
      omega
    refine ⟨r, .inl (.inl (.inl rfl)), hsum, ?_⟩
    exact k _ _ (hj.up (by omega) (by omega)) (DkA_mono hd3 (by omega))
  refine if_not ((decide_eq_false h3)) ?_
  try walk_at "st"
  have hmap : ((cutAt 10 s).map D.str).length = (cutAt 10 s).length := List.length_map _
  refine handA ⟨a, _, _, rfl, hd2, by omega, by omega, by omega, fun z3 W3 z30 z31 hd3 => ?_⟩
  try walk_at "st"
  obtain ⟨t, rfl⟩ := Int.eq_ofNat_of_zero_le z30
  have ht : t < (cutAt 10 s).length := by omega
  obtain ⟨l, hl⟩ : ∃ l, (cutAt 10 s)[t]? = some l := ⟨_, List.getElem?_eq_getElem ht⟩
  have hle := hl1.each (List.mem_of_getElem? hl)
  have hwd := hl1.words (List.mem_of_getElem? hl)
  walk_at "st"
  refine bo_mulS (n := 20) (by decide) ?_
  walk_at "st"
  refine ev_split ?_
  walk_at "st"
  refine bo_ixL (.inl (.inl rfl)) (at_nth (by rw [List.getElem?_map, hl]; rfl : ((cutAt 10 s).map D.str)[t]? = some (.str l))) ?_
  refine ⟨_, rfl, ?_⟩
  walk_at "st"
  refine ⟨rfl, by omega, ?_⟩
  rw [split_sp]
  walk_at "st"
  refine handA ⟨a, _, cutAt 32 l, menuW, l.length + 1, rfl, hd3, by omega, hwd, by omega, cutAt_ne 32 l, by decide +kernel, by decide +kernel, menuW_ok, fun r W4 r1 r2 r3 hd4 => ?_⟩
  try walk_at "st"
  have hj := r1.join (y := " ") (c := 32) rfl (by omega) r2
  rw [if_neg (by decide)] at hj
  have hjl := hj.len
  obtain ⟨n1, n2⟩ := hl1.line hl hj.lo (count_no hj.cl) (by omega : (Txt.join " " r).length + 1 ≤ 2 * (l.length + 1) + 21)
  refine ev_join ?_
  walk_at "st"
  rw [cutD_pre, ← List.map_take]
  refine ev_join ?_
  walk_at "st"
  have hsum : (r.map (·.length)).sum + r.length * (" " : Str).length ≤ 16777216 := by
    have e : (r.map (·.length)).sum + r.length = wtS r := wt_two r
    have := r1.wt
    show _ + _ * 1 ≤ _
    omega
  refine ⟨r, .inl (.inl (.inl rfl)), hsum, ?_⟩
  walk_at "st"
  refine bo_cat (.inl rfl) (.inl rfl) (by simp; omega) ?_
  walk_at "st"
  rw [show ((t : Nat) : Int) + 1 = ((t + 1 : Nat) : Int) by omega, cutD_suf, ← List.map_drop]
  refine bo_cat (.inl rfl) (.inl rfl) (by simp; omega) ?_
  have hj2 := n1.join (y := "\n") (c := 10) rfl (by omega) (by simp)
  rw [if_pos rfl, n2] at hj2
  have hsum2 : (((cutAt 10 s).take t ++ [Txt.join " " r] ++ (cutAt 10 s).drop (t + 1)).map (·.length)).sum + ((cutAt 10 s).take t ++ [Txt.join " " r] ++ (cutAt 10 s).drop (t + 1)).length * ("\n" : Str).length ≤ 16777216 := by
    have e := wt_two ((cutAt 10 s).take t ++ [Txt.join " " r] ++ (cutAt 10 s).drop (t + 1))
    have := n1.wt
    show _ + _ * 1 ≤ _
    omega
  refine ⟨(cutAt 10 s).take t ++ [Txt.join " " r] ++ (cutAt 10 s).drop (t + 1), .inl (.inl (.inl (by simp))), hsum2, ?_⟩
  exact k _ _ (hj2.up (by omega) (by omega)) (DkA_mono hd4 (by omega))
end
section
abbrev s_law_heard : Stmt := top 59
theorem sc_law_heard : FnScope ["_law_written", "_law_is_named", "_law_found", "e"] ["_law_written", "_law_is_named"] (defScope s_law_heard) := ⟨rfl, rfl, rfl, by decide +kernel, rfl, by decide +kernel, by decide +kernel⟩
theorem c_law_heard {P : Program} {w : World} {K : PySem.W.Frag} {mg : Str → Option Value} {base : Heap} {cl : Nat → Addr} {f : Addr} {fd : FuncData} (hm : mg "_law_heard" = some (.ref f)) (B : Blt mg) (Z : ZZ K w mg cl) (Fn : Fun K "_law_heard" "_law_heard" s_law_heard f fd)
    (cm_Web_read : CmX P w K mg base 7 (cl 1) "read" ["text"] (fun vs zs => vs ++ zs) (spX FK ⟨K, cl⟩ ((S_readWX (cl 1)))))
    (o_str1 : Opn P w K mg base 2 (cl 1) "__str__" (spN FK ⟨K, cl⟩ S_strW)) : Cal P w K mg base 10 "_law_heard" (spN FK ⟨K, cl⟩ S_heard14) [] := by
  have fz := Z.z0
  have gz := Z.z1
  refine calD hm Fn sc_law_heard (by intro ds W post h; first | (obtain ⟨rfl, _⟩ := h; rfl) | (obtain ⟨_, rfl, _⟩ := h; rfl) | (obtain ⟨_, _, rfl, _⟩ := h; rfl) | (obtain ⟨_, _, _, rfl, _⟩ := h; rfl) | (obtain ⟨_, _, _, _, rfl, _⟩ := h; rfl) | (obtain ⟨_, _, _, _, _, rfl, _⟩ := h; rfl) | (obtain ⟨_, _, _, _, _, _, rfl, _⟩ := h; rfl) | (obtain ⟨_, _, _, _, _, _, _, rfl, _⟩ := h; rfl) | (obtain ⟨_, _, _, _, _, _, _, _, rfl, _⟩ := h; rfl) | (obtain ⟨_, _, _, _, _, _, _, _, _, rfl, _⟩ := h; rfl) | (obtain ⟨_, _, _, _, _, _, _, _, _, _, rfl, _⟩ := h; rfl) | (obtain ⟨_, _, _, _, _, _, _, _, _, _, _, rfl, _⟩ := h; rfl)) (fun _ _ _ _ _ _ us hl => match us, hl with | [_, _], _ => rfl) fun cdv A outer s H E hr => ⟨_, pss_cons (ps_set (i := 2) sc_law_heard.nd rfl (Or.inl rfl) pe_non)
 (pss_cons (ps_try_as (i := 3) rfl rfl sc_law_heard.nd rfl rfl ⟨rfl, by decide, .inl Z.g_BadText⟩ takes0 (fun W pn xe tk po => pss_one (ps_set (i := 2) sc_law_heard.nd rfl (Or.inl rfl) (pe_lst (pa_cons pe_str (pa_cons (pe_callTy (call_str_opn o_str1 hr (by omega)) (by rfl) B.str bt_str (pa_cons (pe_ifExp (pt_val (pv 1)) (pe_cmkX cm_Web_read hr (by omega) tk (pe_glob (by rfl) Z.g_Web (relV_ref _)) (pk_cons (pv 0) (pk_nil))) (pe_cmX cm_Web_read hr (by omega) tk (pe_glob (by rfl) Z.g_Web (relV_ref _)) (pa_cons (pv 0) pa_nil))) pa_nil)) pa_nil))))) (fun a oe cls d pn hz hf => pss_one (ps_set (i := 2) sc_law_heard.nd rfl (Or.inl rfl) (pe_lst (pa_cons pe_str (pa_cons (pe_xf Z.x12.xf Z.x12.no hz hf (pv 3)) pa_nil))))))
 (pss_one (ps_ret (pv 2)))), ?_⟩
  rintro ds W post ⟨v, b, rfl, rfl, hv, k⟩
  try dsimp only [cxOf, Cx.nox, Cx.wish]
  have h16 := sizeLine_eq
  have hgood : ∀ (s : Str) (w : Wb), v = .str s → placeW s = 0 → w.text = s → heardD14 v = .lst [.str "read", .str w.text] := fun s f e h1 h2 => by
    subst e
    unfold heardD14
    rw [hw14_str, if_pos h1, h2]
  have hread : ∀ {G : Gm} {R : D → Om → Prop} {ex : Nat → Addr → Om → Prop}, (∀ w : Wb, heardD14 v = .lst [.str "read", .str w.text] → w.ok → R w.d []) → (∀ d W' y, hw14 v = (("bad" : Str), y) → (d, OD.xd ["place"] [.vl y]) ∈ W' → ex 12 d W') → HandX (S_readWX (cl 1)) [.adr (cl 1), v] [] R ex := by
    intro G R ex h1 h2
    refine handX0 ⟨v, rfl, rfl, ?_⟩
    rcases hv with ⟨s, rfl, hok⟩ | hn
    · refine .inl ⟨s, rfl, hok.len, by have := hok.lines.2; omega, fun w e1 e2 e3 => h1 w (hgood s w rfl e3 e2) e1, fun d W' hne hm => h2 d _ _ (by rw [hw14_str, if_neg hne]) (List.mem_append_left _ hm)⟩
    · exact .inr ⟨hn, fun d W' hm => h2 d _ _ (hw14_not hn) (List.mem_append_left _ hm)⟩
  walk_at "st"
  refine sw_ofX (W0 := fun _ _ _ _ => False) ?_
  generalize hwx : wAs K (Value.ref (cl 12)) 3 _ _ = wx
  revert wx
  refine (swx_tryG (T := ⟨K, cl⟩) (cc := 12) (ex1 := fun c d G' W' => c = 12 ∧ G' = [some v, some (.bl b), some .non, none] ∧ ∃ y : V, (d, OD.xd ["place"] [.vl y]) ∈ W' ∧ hw14 v = (("bad" : Str), y)) (fun _ _ => rfl) (fun W1 => ?_) ?_)
  · refine swx_set (evx_lstF (evax_cons (evx_of (ev_c (evax_cons (evx_cb (evax_cons (evx_if ?_))))))))
    walk_at "st"
    cases b with
    | true =>
      walk_at "st"
      refine ⟨rfl, ?_⟩
      walk_at "st"
      refine ⟨rfl, [.adr (cl 1), v], fun H x zs hx hz => ⟨x, zs, rfl, hx, hz⟩, ?_⟩
      refine hread (G := []) (fun w h1 h2 => ?_) (fun d W' y hy hm => ⟨rfl, rfl, y, hm, hy⟩)
      refine evax_nil ?_
      walk_at "st"
      refine ca_strO (inst_wb w) (hand0 ⟨w, rfl, rfl, h2, ⟨_, rfl⟩, ?_⟩)
      refine evax_nil ?_
      refine ⟨by show 2 ≤ _; omega, ?_⟩
      walk_at "st"
      rw [← h1]
      exact k
    | false =>
      walk_at "st"
      refine ⟨rfl, ?_⟩
      walk_at "st"
      refine hread (G := []) (fun w h1 h2 => ?_) (fun d W' y hy hm => ⟨rfl, rfl, y, hm, hy⟩)
      refine evax_nil ?_
      walk_at "st"
      refine ca_strO (inst_wb w) (hand0 ⟨w, rfl, rfl, h2, ⟨_, rfl⟩, ?_⟩)
      refine evax_nil ?_
      refine ⟨by show 2 ≤ _; omega, ?_⟩
      walk_at "st"
      rw [← h1]
      exact k
  · rintro c d G' W' ⟨rfl, rfl, y, hm, hy⟩
    refine ⟨true, Z.v12_12, fun _ a => ?_, fun h => by cases h⟩
    refine sw_set (ev_lstF (ea_cons (ev_c (ea_cons (ev_xf ?_)))))
    walk_at "st"
    refine ⟨rfl, _, _, _, hm, rfl, ?_⟩
    refine ea_nil ⟨by show 2 ≤ _; omega, ?_⟩
    show Sw _ _ (tRet (tVar 2)) _ _ _
    refine sw_drp (List.nil_sublist _) ?_
    walk_at "st"
    have e : heardD14 v = .lst [.str "bad", .vl y] := by
      unfold heardD14
      rw [hy]
    rw [← e]
    exact k
abbrev s_law_right : Stmt := top 60
theorem sc_law_right : FnScope ["_law_written", "_law_due_here"] ["_law_written"] (defScope s_law_right) := ⟨rfl, rfl, rfl, by decide +kernel, rfl, by decide +kernel, by decide +kernel⟩
theorem c_law_right {P : Program} {w : World} {K : PySem.W.Frag} {mg : Str → Option Value} {base : Heap} {cl : Nat → Addr} {f : Addr} {fd : FuncData} (hm : mg "_law_right" = some (.ref f)) (B : Blt mg) (Z : ZZ K w mg cl) (Fn : Fun K "_law_right" "_law_right" s_law_right f fd)
    (c_law_due : Cal P w K mg base 3 "_law_due" (spN FK ⟨K, cl⟩ S_due14) [])
    (c_law_heard : Cal P w K mg base 10 "_law_heard" (spN FK ⟨K, cl⟩ S_heard14) []) : CalG P w K mg base 11 "_law_right" (spN FK ⟨K, cl⟩ S_right14) := by
  have fz := Z.z0
  have gz := Z.z1
  refine calG hm Fn sc_law_right (by intro ds W post h; first | (obtain ⟨rfl, _⟩ := h; rfl) | (obtain ⟨_, rfl, _⟩ := h; rfl) | (obtain ⟨_, _, rfl, _⟩ := h; rfl) | (obtain ⟨_, _, _, rfl, _⟩ := h; rfl) | (obtain ⟨_, _, _, _, rfl, _⟩ := h; rfl) | (obtain ⟨_, _, _, _, _, rfl, _⟩ := h; rfl) | (obtain ⟨_, _, _, _, _, _, rfl, _⟩ := h; rfl) | (obtain ⟨_, _, _, _, _, _, _, rfl, _⟩ := h; rfl) | (obtain ⟨_, _, _, _, _, _, _, _, rfl, _⟩ := h; rfl) | (obtain ⟨_, _, _, _, _, _, _, _, _, rfl, _⟩ := h; rfl) | (obtain ⟨_, _, _, _, _, _, _, _, _, _, rfl, _⟩ := h; rfl) | (obtain ⟨_, _, _, _, _, _, _, _, _, _, _, rfl, _⟩ := h; rfl)) (fun _ _ _ _ _ _ us hl => match us, hl with | [_], _ => rfl) fun cdv A outer s H hg hr => ⟨_, pss_cons (ps_set (i := 1) sc_law_right.nd rfl (Or.inl rfl) (pe_lst (pa_cons pe_str (pa_cons pe_int pa_nil))))
 (pss_cons (ps_if (pt_val (pe_callB call_isi (by rfl) B.isinstance bt_isinstance (pa_cons (pv 0) (pa_cons (pe_bltn (by rfl) B.str bt_str (relV_ty _)) pa_nil)))) (pss_one (ps_set (i := 1) sc_law_right.nd rfl (Or.inl rfl) (pe_ifExp (pt_cmpR op_eq (pe_c c_law_due hr (by omega) (by rfl) (pa_cons (pv 0) pa_nil)) pe_int (nomark _)) (pe_lst (pa_cons pe_str (pa_cons (pv 0) pa_nil))) (pe_lst (pa_cons pe_str (pa_cons (pe_c c_law_due hr (by omega) (by rfl) (pa_cons (pv 0) pa_nil)) pa_nil)))))) (pss_nil))
 (pss_one (ps_ret (pe_cmpR op_eq (pe_callB (call_repr_data hg hr.units) (by rfl) B.repr bt_repr (pa_cons (pe_lst (pa_cons (pe_c c_law_heard hr (by omega) (by rfl) (pa_cons (pv 0) (pa_cons pe_bl pa_nil))) (pa_cons (pe_c c_law_heard hr (by omega) (by rfl) (pa_cons (pv 0) (pa_cons pe_bl pa_nil))) pa_nil))) pa_nil)) (pe_callB (call_repr_data hg hr.units) (by rfl) B.repr bt_repr (pa_cons (pe_lst (pa_cons (pv 1) (pa_cons (pv 1) pa_nil))) pa_nil)) (nomark _))))), ?_⟩
  rintro ds W post ⟨v, rfl, rfl, hv, k⟩
  try dsimp only [cxOf, Cx.nox, Cx.wish]
  have h16 := sizeLine_eq
  rcases id hv with ⟨s, rfl, hok⟩ | hn
  · walk_at "st"
    refine hand0 ⟨s, rfl, rfl, hok.len, ?_⟩
    try simp only [List.nil_append]
    try walk_at "st"
    by_cases h : placeW s = 0
    · refine if_so ((decide_eq_true (by omega))) ?_
      try walk_at "st"
      have e : heardD14 (.str s) = .lst [.str "read", .str s] := by unfold heardD14; rw [hw14_str, if_pos h]
      have e2 : (D.lst [.lst [.str "read", .str s], .lst [.str "read", .str s]]).pd = some (dueP14 (.str s)) := by rw [← e]; exact due14_pd hv
      walk_at "st"
      refine hand0 ⟨_, false, rfl, rfl, hv, ?_⟩
      try simp only [List.nil_append]
      try walk_at "st"
      walk_at "st"
      refine hand0 ⟨_, true, rfl, rfl, hv, ?_⟩
      try simp only [List.nil_append]
      try walk_at "st"
      refine ca_repr (.inl (due14_pd hv)) (due14_shw hv) ?_
      walk_at "st"
      refine ca_repr (p := dueP14 (.str s)) (.inl e2) (due14_shw hv) ?_
      walk_at "st"
      rw [eqself]
      exact k
    · refine if_not ((decide_eq_false (by omega))) ?_
      try walk_at "st"
      have e : heardD14 (.str s) = .lst [.str "bad", .vl (.int ((placeW s : Nat) : Int))] := by unfold heardD14; rw [hw14_str, if_neg h]
      have e2 : (D.lst [.lst [.str "bad", .vl (.int ((placeW s : Nat) : Int))], .lst [.str "bad", .vl (.int ((placeW s : Nat) : Int))]]).pd = some (dueP14 (.str s)) := by rw [← e]; exact due14_pd hv
      refine hand0 ⟨s, rfl, rfl, hok.len, ?_⟩
      try simp only [List.nil_append]
      try walk_at "st"
      walk_at "st"
      refine hand0 ⟨_, false, rfl, rfl, hv, ?_⟩
      try simp only [List.nil_append]
      try walk_at "st"
      walk_at "st"
      refine hand0 ⟨_, true, rfl, rfl, hv, ?_⟩
      try simp only [List.nil_append]
      try walk_at "st"
      refine ca_repr (.inl (due14_pd hv)) (due14_shw hv) ?_
      walk_at "st"
      refine ca_repr (p := dueP14 (.str s)) (.inl e2) (due14_shw hv) ?_
      walk_at "st"
      rw [eqself]
      exact k
  · walk_at "st"
    refine isi_notStr hn ?_
    walk_at "st"
    try refine if_not (by first | rfl | decide +kernel | simp) ?_
    try walk_at "st"
    have e : heardD14 v = .lst [.str "bad", .vl (.int 0)] := by unfold heardD14; rw [hw14_not hn]
    have e2 : (D.lst [.lst [.str "bad", .vl (.int 0)], .lst [.str "bad", .vl (.int 0)]]).pd = some (dueP14 v) := by rw [← e]; exact due14_pd hv
    walk_at "st"
    refine hand0 ⟨_, false, rfl, rfl, hv, ?_⟩
    try simp only [List.nil_append]
    try walk_at "st"
    walk_at "st"
    refine hand0 ⟨_, true, rfl, rfl, hv, ?_⟩
    try simp only [List.nil_append]
    try walk_at "st"
    refine ca_repr (.inl (due14_pd hv)) (due14_shw hv) ?_
    walk_at "st"
    refine ca_repr (p := dueP14 v) (.inl e2) (due14_shw hv) ?_
    walk_at "st"
    rw [eqself]
    exact k
end
section
abbrev s_law : Stmt := top 61
theorem sc_law : FnScope ["_law_script", "_law_deck_here", "_law_lap", "_law_written", "_law_go", "_law_bent_here", "_law_fixed", "_law_values", "_law_item"] ["_law_script"] (defScope s_law) := ⟨rfl, rfl, rfl, by decide +kernel, rfl, by decide +kernel, by decide +kernel⟩
theorem c_law {P : Program} {w : World} {K : PySem.W.Frag} {mg : Str → Option Value} {base : Heap} {cl : Nat → Addr} {f : Addr} {fd : FuncData} (hm : mg "law" = some (.ref f)) (B : Blt mg) (Z : ZZ K w mg cl) (Fn : Fun K "law" "law" s_law f fd)
    (c_law_deck : Cal P w K mg base 1 "_law_deck" (spN FK ⟨K, cl⟩ (S_deck DkA)) [])
    (c_law_pick : Cal P w K mg base 2 "_law_pick" (spN FK ⟨K, cl⟩ (S_pick DkA)) [])
    (c_law_draw : Cal P w K mg base 1 "_law_draw" (spN FK ⟨K, cl⟩ (S_draw DkA)) [])
    (c_law_web : Cal P w K mg base 2 "_law_web" (spN FK ⟨K, cl⟩ (S_web DkA)) [])
    (c_law_text : Cal P w K mg base 1 "_law_text" (spN FK ⟨K, cl⟩ S_text13) [])
    (c_law_bent : Cal P w K mg base 4 "_law_bent" (spN FK ⟨K, cl⟩ S_bent14) [])
    (c_law_right : CalG P w K mg base 11 "_law_right" (spN FK ⟨K, cl⟩ S_right14)) : CalG P w K mg base 12 "law" (spN FK ⟨K, cl⟩ S_law) := by
  have fz := Z.z0
  have gz := Z.z1
  refine calG hm Fn sc_law (by intro ds W post h; first | (obtain ⟨rfl, _⟩ := h; rfl) | (obtain ⟨_, rfl, _⟩ := h; rfl) | (obtain ⟨_, _, rfl, _⟩ := h; rfl) | (obtain ⟨_, _, _, rfl, _⟩ := h; rfl) | (obtain ⟨_, _, _, _, rfl, _⟩ := h; rfl) | (obtain ⟨_, _, _, _, _, rfl, _⟩ := h; rfl) | (obtain ⟨_, _, _, _, _, _, rfl, _⟩ := h; rfl) | (obtain ⟨_, _, _, _, _, _, _, rfl, _⟩ := h; rfl) | (obtain ⟨_, _, _, _, _, _, _, _, rfl, _⟩ := h; rfl) | (obtain ⟨_, _, _, _, _, _, _, _, _, rfl, _⟩ := h; rfl) | (obtain ⟨_, _, _, _, _, _, _, _, _, _, rfl, _⟩ := h; rfl) | (obtain ⟨_, _, _, _, _, _, _, _, _, _, _, rfl, _⟩ := h; rfl)) (fun _ _ _ _ _ _ us hl => match us, hl with | [_], _ => rfl) fun cdv A outer s H hg hr => ⟨_, pss_cons (ps_set (i := 1) sc_law.nd rfl (Or.inl rfl) (pe_c c_law_deck hr (by omega) (by rfl) (pa_cons (pv 0) pa_nil)))
 (pss_cons (ps_for PassesOwn.never rfl (pi_range1 (by rfl) B.range (pa_cons pe_int pa_nil)) (pg_name (i := 2) sc_law.nd rfl (Or.inl rfl)) (pss_cons (ps_set (i := 3) sc_law.nd rfl (Or.inl rfl) (pe_c c_law_text hr (by omega) (by rfl) (pa_cons (pe_c c_law_web hr (by omega) (by rfl) (pa_cons (pv 1) (pa_cons (pe_c c_law_pick hr (by omega) (by rfl) (pa_cons (pv 1) (pa_cons (pe_lst (pa_cons pe_str (pa_cons pe_str (pa_cons pe_str pa_nil)))) pa_nil))) (pa_cons (pe_c c_law_pick hr (by omega) (by rfl) (pa_cons (pv 1) (pa_cons (pe_lst (pa_cons pe_int (pa_cons pe_int (pa_cons pe_int pa_nil)))) pa_nil))) pa_nil)))) pa_nil)))
 (pss_one (ps_for PassesOwn.never rfl (pi_range1 (by rfl) B.range (pa_cons pe_int pa_nil)) (pg_name (i := 4) sc_law.nd rfl (Or.inl rfl)) (pss_cons (ps_set (i := 5) sc_law.nd rfl (Or.inl rfl) (pe_c c_law_bent hr (by omega) (by rfl) (pa_cons (pv 1) (pa_cons (pv 3) pa_nil))))
 (pss_one (ps_if (PW.pt (pw_or (pt_not (pt_val (pe_cg c_law_right hg hr (by omega) (by rfl) (pa_cons (pv 5) pa_nil)))) (pw_or1 (PW.pt (pw_and (pt_cmpR op_eq (pe_c c_law_draw hr (by omega) (by rfl) (pa_cons (pv 1) (pa_cons pe_int pa_nil))) pe_int (nomark _)) (pw_and1 (pt_not (pt_val (pe_cg c_law_right hg hr (by omega) (by rfl) (pa_cons (pe_c c_law_bent hr (by omega) (by rfl) (pa_cons (pv 1) (pa_cons (pv 5) pa_nil))) pa_nil)))))))))) (pss_one (ps_ret pe_bl)) (pss_nil))))))))
 (pss_cons (ps_set (i := 6) sc_law.nd rfl (Or.inl rfl) (pe_lst (pa_cons pe_str (pa_cons pe_str (pa_cons pe_str (pa_cons pe_str (pa_cons pe_str (pa_cons pe_str (pa_cons pe_str (pa_cons pe_str (pa_cons pe_str (pa_cons pe_str (pa_cons pe_str pa_nil)))))))))))))
 (pss_cons (ps_set (i := 6) sc_law.nd rfl (Or.inl rfl) (pe_op op_cat (pv 6) (pe_lst (pa_cons pe_str (pa_cons pe_str (pa_cons pe_str (pa_cons pe_str (pa_cons pe_str (pa_cons pe_str (pa_cons pe_str (pa_cons pe_str pa_nil)))))))))))
 (pss_cons (ps_set (i := 6) sc_law.nd rfl (Or.inl rfl) (pe_op op_cat (pv 6) (pe_lst (pa_cons (pe_op op_add_str (pe_op op_mul_str pe_str pe_int) pe_str) (pa_cons pe_str (pa_cons pe_str (pa_cons pe_str (pa_cons pe_str (pa_cons pe_str pa_nil)))))))))
 (pss_cons (ps_set (i := 6) sc_law.nd rfl (Or.inl rfl) (pe_op op_cat (pv 6) (pe_lst (pa_cons pe_str (pa_cons pe_str (pa_cons pe_str (pa_cons pe_str pa_nil)))))))
 (pss_cons (ps_set (i := 7) sc_law.nd rfl (Or.inl rfl) (pe_lst (pa_cons pe_non (pa_cons pe_bl (pa_cons pe_int (pa_cons (pe_tup pa_nil) (pa_cons (pe_lst (pa_cons pe_str pa_nil)) (pa_cons pe_dnewK (pa_cons (pe_tup (pa_cons pe_str pa_nil)) (pa_cons (pe_un un_neg pe_int) (pa_cons (pe_lst pa_nil) (pa_cons (pe_disp (pps_cons pe_str pe_int pps_nil) (by rfl) (by rfl) (fun z => by cases z) (by decide)) pa_nil))))))))))))
 (pss_one (ps_ret (pe_cmpR (op_eqE hr.units) (pe_lc (own := [("_law_item", 8)]) (by rfl) sc_law.nd (pi_list (pe_op op_cat (pv 6) (pv 7))) (blkOk_by (own := [("_law_item", 8)]) (N := ["_law_script", "_law_deck_here", "_law_lap", "_law_written", "_law_go", "_law_bent_here", "_law_fixed", "_law_values", "_law_item"]) (sc := defScope s_law) (by decide +kernel)) (fun _ _ _ _ _ => (pg_name (i := 8) sc_law.nd rfl (Or.inl rfl))) (fun _ _ _ _ _ => pts_one (pt_not (pt_val (pe_cg c_law_right hg hr (by omega) (by rfl) (pa_cons (pv 8) pa_nil))))) (fun _ _ _ _ _ => (pv 8))) (pe_lst pa_nil) (nomark _)))))))))), ?_⟩
  rintro ds W post ⟨ns, rfl, rfl, hl, k⟩
  try dsimp only [cxOf, Cx.nox, Cx.wish]
  have h16 := sizeLine_eq
  walk_at "st"
  refine handA ⟨ns, rfl, rfl, hl, fun a W hd => ?_⟩
  try walk_at "st"
  refine sw_for (ei_rng1 ?_)
  walk_at "st"
  refine ⟨by omega, by omega, fun i G W => DkA a (20000 * (i : Nat)) W ∧ ∃ o2 o3 o4 o5, G = [some (.scr (ns.map V.int)), some (.adr a), o2, o3, o4, o5, none, none, none], ⟨DkA_mono hd (by omega), _, _, _, _, rfl⟩, ?_, ?_⟩
  · rintro i d G' W' hdd ⟨hd, o2, o3, o4, o5, rfl⟩
    have hi : i < 5 := (rng_get hdd).1
    walk_at "st"
    refine handA ⟨a, _, _, rfl, hd, by omega, .inl ⟨_, .inl rfl, by simp, by simp, fun z hz W1 hd1 => ?_⟩⟩
    try walk_at "st"
    obtain ⟨p, rfl, hp, hpn, hp3⟩ := pools14 z hz
    walk_at "st"
    refine handA ⟨a, _, _, rfl, hd1, by omega, .inl ⟨_, .inl rfl, by simp, by simp, fun z hz W2 hd2 => ?_⟩⟩
    try walk_at "st"
    obtain ⟨n, rfl, n0, n7⟩ := many14 z hz
    refine handA ⟨a, _, p, n, rfl, hd2, n0, by omega, hp, hpn, by omega, fun w W3 hw hwn hws hd3 => ?_⟩
    try walk_at "st"
    refine hand0 ⟨w, rfl, rfl, hw, ?_⟩
    try simp only [List.nil_append]
    try walk_at "st"
    have htx := text_small hw (by omega) fun s hs => sub_few (hw.lets s hs).2 (hws s hs) hp3
    refine sw_for (ei_rng1 ?_)
    walk_at "st"
    refine ⟨by omega, by omega, fun j G W => DkA a (20000 * (i : Nat) + 11000 + 200 * (j : Nat)) W ∧ ∃ o4 o5, G = [some (.scr (ns.map V.int)), some (.adr a), some d, some (.str w.text), o4, o5, none, none, none], ⟨DkA_mono hd3 (by omega), _, _, rfl⟩, ?_, ?_⟩
    · rintro j d2 G' W' hd2 ⟨hd4, o4, o5, rfl⟩
      have hj : j < 6 := (rng_get hd2).1
      walk_at "st"
      refine handA ⟨a, _, w.text, 112, 6, rfl, hd4, by omega, htx, by omega, fun r W5 hr hd5 => ?_⟩
      try walk_at "st"
      walk_at "st"
      refine hand0 ⟨.str r, rfl, rfl, hr.v14 (by omega) (by omega), ?_⟩
      try simp only [List.nil_append]
      try walk_at "st"
      walk_at "st"
      refine handA ⟨a, _, 2, rfl, hd5, by omega, by omega, by omega, fun y W6 y0 y1 hd6 => ?_⟩
      try walk_at "st"
      refine if_dec (fun hy => ?_) (fun hy => ?_)
      · walk_at "st"
        refine handA ⟨a, _, r, _, _, rfl, hd6, by omega, hr, by omega, fun r2 W7 hr2 hd7 => ?_⟩
        try walk_at "st"
        refine hand0 ⟨.str r2, rfl, rfl, hr2.v14 (by omega) (by omega), ?_⟩
        try simp only [List.nil_append]
        try walk_at "st"
        walk_at "st"
        exact ⟨DkA_mono hd7 (by push_cast; omega), _, _, rfl⟩
      · refine if_not rfl ?_
        walk_at "st"
        exact ⟨DkA_mono hd6 (by push_cast; omega), _, _, rfl⟩
    · rintro G' W' ⟨hd5, o4, o5, rfl⟩
      rw [show (rng 0 (Int.toNat 6)).length = 6 from rfl] at hd5
      exact ⟨DkA_mono hd5 (by push_cast; omega), _, _, _, _, rfl⟩
  rintro G' W' ⟨hd, o2, o3, o4, o5, rfl⟩
  refine sw_drp (List.nil_sublist _) ?_
  walk_at "st"
  refine bo_cat14 (v14L_str (L := ["", "-", "a", "--", "- ", " -", "-\n", "\n-", "- 0", "-\n- 0\n- 1 0", "-\n- 0\n- 0 0"]) (by decide +kernel)) (v14L_str (L := ["ba", "aa", "a-", "no", "-\n- 00", "-\n- +0", "-\n- 0 ", "-\n-, 0"]) (by decide +kernel)) (by decide) fun L1 v1 n1 => ?_
  have n1 : L1.length = 19 := n1
  have t11 := txN_mul (n := 11) (okN_ok (n := 2) (c := 1) (s := "-\n") (by decide +kernel)) (by omega) rfl
  have l11 := t11.len
  have tb := okN_ok (n := 5) (c := 0) (s := "- 1_0") (by decide +kernel)
  have lb : ("- 1_0" : Str).length = 5 := rfl
  have m1 := (t11.app tb).v14 (by omega) (by omega)
  walk_at "st"
  refine bo_mulS (n := 11) (by decide) ?_
  walk_at "st"
  refine bo_addS (by omega) ?_
  walk_at "st"
  refine bo_cat14 v1 (v14L_cons m1 (v14L_str (L := ["_", "Z_a", "[", "-\na_", "-\n- 0_"]) (by decide +kernel))) (by rw [n1]; decide) fun L2 v2 n2 => ?_
  have n2 : L2.length = L1.length + 6 := n2
  walk_at "st"
  refine bo_cat14 v2 (v14L_str (L := ["-\n- 1", "a b", "-\n- 0\n- 0 1", "A\nZa 0"]) (by decide +kernel)) (by rw [n2, n1]; decide) fun L3 v3 n3 => ?_
  have n3 : L3.length = L2.length + 4 := n3
  walk_at "st"
  refine ev_dnewF ?_
  walk_at "st"
  refine ⟨by decide, ea_nil ⟨by show 10 ≤ _; omega, ?_⟩⟩
  walk_at "st"
  refine ev_lcP (ei_list ?_)
  walk_at "st"
  refine bo_cat14 v3 (v14L_cons (.inr .non) (v14L_cons (.inr (.bl _)) (v14L_cons (.inr (.int _)) (v14L_cons (.inr (.tup _)) (v14L_cons (.inr (.lst _)) (v14L_cons (.inr (.dct _ _)) (v14L_cons (.inr (.tup _)) (v14L_cons (.inr (.int _)) (v14L_cons (.inr (.lst _)) (v14L_cons (.inr (.dct _ _)) v14L_nil)))))))))) (by rw [n3, n2, n1]; decide) fun L5 v5 n5 => ?_
  have n5 : L5.length = L3.length + 10 := n5
  walk_at "st"
  refine ⟨L5.map fun _ => (false, .non), fun i d e hd he => ?_, by simp, by simp; omega, ?_⟩
  · have hv := v5 d (List.mem_of_getElem? hd)
    obtain ⟨_, _, rfl⟩ := List.mem_map.mp (List.mem_of_getElem? he)
    refine tw_name (by simp) ?_
    walk_at "st"
    refine hand0 ⟨d, rfl, rfl, hv, ?_⟩
    try simp only [List.nil_append]
    try walk_at "st"
    exact ⟨rfl, if_not rfl trivial⟩
  walk_at "st"
  refine bo_eqE (.inl (.inl rfl)) (.inl (.inl rfl)) ?_
  rw [show (List.filter (fun x : Bool × D => x.1) (L5.map fun _ => (false, D.non))) = [] from List.filter_eq_nil_iff.mpr fun x hx => by obtain ⟨_, _, rfl⟩ := List.mem_map.mp hx; simp]
  exact k _
end
end N
set_option Elab.async false
set_option linter.all false
set_option maxRecDepth 100000
namespace N
open PySem PySem.Spec PyProof.Rows L2
open C8 (Cal Met Mak InsC)
set_option maxHeartbeats 4000000
theorem all_mk {P : Program} {w : World} {K : PySem.W.Frag} {h base : Heap} {mg : Str → Option Value} {fa : Addr} (X : K.In h) (G : h.Ns mainGlobals mg) (hfa : mg "law" = some (.ref fa)) (hw : w = w)
    {C0 : Addr} {C1 : Addr} {C12 : Addr}
    {t0 : PySem.Tok}
    {t1 : PySem.Tok}
    {t2 : PySem.Tok}
    {t3 : PySem.Tok}
    {t4 : PySem.Tok}
    {dd5 : Addr} {es5 : Array DictEntry} {en5 : Nat} {u5_0 : PySem.Tok} {u5_1 : PySem.Tok} {u5_2 : PySem.Tok} {u5_3 : PySem.Tok}
    {t6 : PySem.Tok}
    {t7 : PySem.Tok}
    {t8 : PySem.Tok}
    {t9 : PySem.Tok}
    {t10 : PySem.Tok}
    {t11 : PySem.Tok}
    
    {nme12 qne12 : Str} {NAe12 : Addr} {bse12 : List Value} {sne12 : List Str} {sube12 : List Value} {abe12 : Bool} {coe12 : Option Bool} {dde12 : Option Addr} {x0e12 x1e12 x2e12 x3e12 x5e12 : Option Value}
    {CW : Addr}
    {f1 : Addr} {od1 an1 : Option Addr} {sl1 : Array (Option Value)} {oc1 kV1 dc1 pm1 cd1 ct1 : Value}
    {f2 : Addr} {od2 an2 : Option Addr} {sl2 : Array (Option Value)} {oc2 kV2 dc2 pm2 cd2 ct2 : Value}
    {f3 : Addr} {od3 an3 : Option Addr} {sl3 : Array (Option Value)} {oc3 kV3 dc3 pm3 cd3 ct3 : Value}
    {f4 : Addr} {od4 an4 : Option Addr} {sl4 : Array (Option Value)} {oc4 kV4 dc4 pm4 cd4 ct4 : Value}
    {f5 : Addr} {od5 an5 : Option Addr} {sl5 : Array (Option Value)} {oc5 kV5 dc5 pm5 cd5 ct5 : Value}
    {f6 : Addr} {od6 an6 : Option Addr} {sl6 : Array (Option Value)} {oc6 kV6 dc6 pm6 cd6 ct6 : Value}
    {f7 : Addr} {od7 an7 : Option Addr} {sl7 : Array (Option Value)} {oc7 kV7 dc7 pm7 cd7 ct7 : Value}
    {f8 : Addr} {od8 an8 : Option Addr} {sl8 : Array (Option Value)} {oc8 kV8 dc8 pm8 cd8 ct8 : Value}
    {f9 : Addr} {od9 an9 : Option Addr} {sl9 : Array (Option Value)} {oc9 kV9 dc9 pm9 cd9 ct9 : Value}
    {f10 : Addr} {od10 an10 : Option Addr} {sl10 : Array (Option Value)} {oc10 kV10 dc10 pm10 cd10 ct10 : Value}
    {f11 : Addr} {od11 an11 : Option Addr} {sl11 : Array (Option Value)} {oc11 kV11 dc11 pm11 cd11 ct11 : Value}
    {f12 : Addr} {od12 an12 : Option Addr} {sl12 : Array (Option Value)} {oc12 kV12 dc12 pm12 cd12 ct12 : Value}
    {f13 : Addr} {od13 an13 : Option Addr} {sl13 : Array (Option Value)} {oc13 kV13 dc13 pm13 cd13 ct13 : Value}
    {f14 : Addr} {od14 an14 : Option Addr} {sl14 : Array (Option Value)} {oc14 kV14 dc14 pm14 cd14 ct14 : Value}
    {f15 : Addr} {od15 an15 : Option Addr} {sl15 : Array (Option Value)} {oc15 kV15 dc15 pm15 cd15 ct15 : Value}
    {pA16 : Addr} {pR16 : List Value}
    {f16 : Addr} {od16 an16 : Option Addr} {sl16 : Array (Option Value)} {oc16 kV16 dc16 pm16 cd16 ct16 : Value}
    {f17 : Addr} {od17 an17 : Option Addr} {sl17 : Array (Option Value)} {oc17 kV17 dc17 pm17 cd17 ct17 : Value}
    {f18 : Addr} {od18 an18 : Option Addr} {sl18 : Array (Option Value)} {oc18 kV18 dc18 pm18 cd18 ct18 : Value}
    {f19 : Addr} {od19 an19 : Option Addr} {sl19 : Array (Option Value)} {oc19 kV19 dc19 pm19 cd19 ct19 : Value}
    {f20 : Addr} {od20 an20 : Option Addr} {sl20 : Array (Option Value)} {oc20 kV20 dc20 pm20 cd20 ct20 : Value}
    {f21 : Addr} {od21 an21 : Option Addr} {sl21 : Array (Option Value)} {oc21 kV21 dc21 pm21 cd21 ct21 : Value}
    {f22 : Addr} {od22 an22 : Option Addr} {sl22 : Array (Option Value)} {oc22 kV22 dc22 pm22 cd22 ct22 : Value}
    {f23 : Addr} {od23 an23 : Option Addr} {sl23 : Array (Option Value)} {oc23 kV23 dc23 pm23 cd23 ct23 : Value}
    {f24 : Addr} {od24 an24 : Option Addr} {sl24 : Array (Option Value)} {oc24 kV24 dc24 pm24 cd24 ct24 : Value}
    {f25 : Addr} {od25 an25 : Option Addr} {sl25 : Array (Option Value)} {oc25 kV25 dc25 pm25 cd25 ct25 : Value}
    {f26 : Addr} {od26 an26 : Option Addr} {sl26 : Array (Option Value)} {oc26 kV26 dc26 pm26 cd26 ct26 : Value}
    {f27 : Addr} {od27 an27 : Option Addr} {sl27 : Array (Option Value)} {oc27 kV27 dc27 pm27 cd27 ct27 : Value}
    {f28 : Addr} {od28 an28 : Option Addr} {sl28 : Array (Option Value)} {oc28 kV28 dc28 pm28 cd28 ct28 : Value}
    {f29 : Addr} {od29 an29 : Option Addr} {sl29 : Array (Option Value)} {oc29 kV29 dc29 pm29 cd29 ct29 : Value}
    {f30 : Addr} {od30 an30 : Option Addr} {sl30 : Array (Option Value)} {oc30 kV30 dc30 pm30 cd30 ct30 : Value}
    (z0 : PySem.W.nsIn K mainGlobals "len" = some none)
    (z1 : PySem.W.nsIn K mainGlobals "int" = some none)
    (z2 : PySem.W.nsIn K mainGlobals "str" = some none)
    (z3 : PySem.W.nsIn K mainGlobals "range" = some none)
    (z4 : PySem.W.nsIn K mainGlobals "list" = some none)
    (z5 : PySem.W.nsIn K mainGlobals "tuple" = some none)
    (z6 : PySem.W.nsIn K mainGlobals "dict" = some none)
    (z7 : PySem.W.nsIn K mainGlobals "set" = some none)
    (z8 : PySem.W.nsIn K mainGlobals "sorted" = some none)
    (z9 : PySem.W.nsIn K mainGlobals "isinstance" = some none)
    (z10 : PySem.W.nsIn K mainGlobals "repr" = some none)
    (z11 : PySem.W.nsIn K mainGlobals "max" = some none)
    (z12 : PySem.W.nsIn K mainGlobals "min" = some none)
    (z13 : PySem.W.nsIn K mainGlobals "sum" = some none)
    (z14 : PySem.W.nsIn K mainGlobals "all" = some none)
    (z15 : PySem.W.nsIn K mainGlobals "any" = some none)
    (z16 : PySem.W.nsIn K mainGlobals "zip" = some none)
    (z17 : PySem.W.nsIn K mainGlobals "enumerate" = some none)
    (z18 : PySem.W.nsIn K mainGlobals "bool" = some none)
    (z19 : PySem.W.nsIn K mainGlobals "reversed" = some none)
    (z20 : PySem.W.nsIn K mainGlobals "type" = some none)
    (s0 : PySem.W.nsIn K mainGlobals "LETTERS" = some (some (.str "ABCDEFGHIJKLMNOPQRSTUVWXYZabcdefghijklmnopqrstuvwxyz" t0)))
    (s1 : PySem.W.nsIn K mainGlobals "ATOM" = some (some (.str "atom" t1)))
    (s2 : PySem.W.nsIn K mainGlobals "NO" = some (some (.str "no" t2)))
    (s3 : PySem.W.nsIn K mainGlobals "IF" = some (some (.str "if" t3)))
    (s4 : PySem.W.nsIn K mainGlobals "ALL" = some (some (.str "all" t4)))
    (aP5 : PySem.W.nsIn K mainGlobals "PARTS_OF" = some (some (.ref dd5)))
    (lP5 : K.lookup dd5 = some ⟨.type "dict", none, .dict es5 en5, #[]⟩)
    (lit5 : PySem.W.KeysLit w.params es5.toList)
    (low5 : (dd5 == sysModules) = false)
    (p5_0 : PySem.W.nsIn K dd5 "atom" = some (some (.int 1 u5_0)))
    (p5_1 : PySem.W.nsIn K dd5 "no" = some (some (.int 0 u5_1)))
    (p5_2 : PySem.W.nsIn K dd5 "if" = some (some (.int 2 u5_2)))
    (p5_3 : PySem.W.nsIn K dd5 "all" = some (some (.int 1 u5_3)))
    (s6 : PySem.W.nsIn K mainGlobals "ALL_AHEAD" = some (some (.str "all " t6)))
    (s7 : PySem.W.nsIn K mainGlobals "BETWEEN" = some (some (.str " > " t7)))
    (s8 : PySem.W.nsIn K mainGlobals "DIGITS" = some (some (.str "0123456789" t8)))
    (s9 : PySem.W.nsIn K mainGlobals "BARE" = some (some (.str "-" t9)))
    (s10 : PySem.W.nsIn K mainGlobals "BLANK" = some (some (.str " " t10)))
    (s11 : PySem.W.nsIn K mainGlobals "BREAK" = some (some (.str "\n" t11)))
    (aC0 : PySem.W.nsIn K mainGlobals "Formula" = some (some (.ref C0)))
    (pg0 : PySem.W.plainGet K C0 Str.empty = true)
    (hd0 : PySem.W.hasDictIn K C0 = true)
    (po0 : PySem.W.plainOver K C0 = true)
    (sa0 : PySem.W.findIn K (.ref C0) "__setattr__" = some (some (.builtin "object.__setattr__")))
    (mk0 : PySem.W.makesIn K C0 = true)
    (kc0 : PySem.W.keepIn K (.ref C0) = true)
    (n0_0 : PySem.W.findIn K (.ref C0) "kind" = some none)
    (n0_1 : PySem.W.findIn K (.ref C0) "parts" = some none)
    (n0_2 : PySem.W.findIn K (.ref C0) "many" = some none)
    (n0_3 : PySem.W.findIn K (.ref C0) "deepest" = some none)
    (n0_4 : PySem.W.findIn K (.ref C0) "atoms" = some none)
    (n0_5 : PySem.W.findIn K (.ref C0) "bare" = some none)
    (n0_6 : PySem.W.findIn K (.ref C0) "spelled" = some none)
    (n0_7 : PySem.W.findIn K (.ref C0) "alls_known" = some none)
    (ha0 : PySem.W.findIn K (.ref C0) "__class__" = some (some (.builtin "object.__class__")))
    (hn0 : PySem.W.specialIn K (.builtin "object.__class__") "__get__" = some (some (.builtin "getset_descriptor.__get__")))
    (htk0 : PySem.W.takesIn K (.builtin "object.__class__") = some true)
    (hmo0 : PySem.W.mroIn K C0 (.type "object") = some true)
    (me0 : PySem.W.kitOne K (.ref C0) (.ref C0) = some true)
    (sf0 : PySem.W.selfFirst K C0 = true)
    (is0 : PySem.W.kitOne K (.type "str") (.ref C0) = some false)
    (aC1 : PySem.W.nsIn K mainGlobals "Web" = some (some (.ref C1)))
    (pg1 : PySem.W.plainGet K C1 Str.empty = true)
    (hd1 : PySem.W.hasDictIn K C1 = true)
    (po1 : PySem.W.plainOver K C1 = true)
    (sa1 : PySem.W.findIn K (.ref C1) "__setattr__" = some (some (.builtin "object.__setattr__")))
    (mk1 : PySem.W.makesIn K C1 = true)
    (kc1 : PySem.W.keepIn K (.ref C1) = true)
    (n1_0 : PySem.W.findIn K (.ref C1) "below" = some none)
    (n1_1 : PySem.W.findIn K (.ref C1) "atoms" = some none)
    (n1_2 : PySem.W.findIn K (.ref C1) "all_beneath" = some none)
    (n1_3 : PySem.W.findIn K (.ref C1) "all_heights" = some none)
    (ha1 : PySem.W.findIn K (.ref C1) "__class__" = some (some (.builtin "object.__class__")))
    (hn1 : PySem.W.specialIn K (.builtin "object.__class__") "__get__" = some (some (.builtin "getset_descriptor.__get__")))
    (htk1 : PySem.W.takesIn K (.builtin "object.__class__") = some true)
    (hmo1 : PySem.W.mroIn K C1 (.type "object") = some true)
    (me1 : PySem.W.kitOne K (.ref C1) (.ref C1) = some true)
    (sf1 : PySem.W.selfFirst K C1 = true)
    (is1 : PySem.W.kitOne K (.type "str") (.ref C1) = some false)
    (aC12 : PySem.W.nsIn K mainGlobals "BadText" = some (some (.ref C12)))
    (xL12 : K.lookup C12 = some (PySem.excClassObj nme12 qne12 C12 NAe12 bse12 [.ref CW, .type "Exception", .type "BaseException", .type "object"] true sne12 sube12 abe12 coe12 dde12 x0e12 x1e12 x2e12 x3e12 x5e12 "Exception.__new__"))
    (sa12 : PySem.W.findIn K (.ref C12) "__setattr__" = some (some (.builtin "object.__setattr__")))
    (eC12 : PySem.W.subIn K (.ref C12) (.type "BaseException") = some true)
    (tC12 : PySem.W.typeIn K (.ref C12) = some (.type "type"))
    (kc12 : PySem.W.keepIn K (.ref C12) = true)
    (ga12 : PySem.W.findIn K (.ref C12) "__getattribute__" = some (some (.builtin "BaseException.__getattribute__")))
    (gg12 : PySem.W.findIn K (.ref C12) "__getattr__" = some none)
    (hd12 : PySem.W.hasDictIn K C12 = true)
    (no12 : PySem.W.findIn K (.ref C12) "place" = some none)
    (xm12_12 : PySem.W.exmOne K (.ref C12) (.ref C12) = some true)
    (aCW : PySem.W.nsIn K mainGlobals "WebError" = some (some (.ref CW)))
    (rdW : PySem.W.readsIn K CW (.type "type") = true)
    (gaW : PySem.W.specialIn K (.ref CW) "__getattribute__" = some (some (.builtin "type.__getattribute__")))
    (inW : PySem.W.findCls K (.ref CW) (.type "type") "__init__" = some (.val (.builtin "Exception.__init__")))
    (a1 : PySem.W.nsIn K mainGlobals "is_atom" = some (some (.ref f1)))
    (l1 : K.lookup f1 = some ⟨oc1, od1, .func (PySem.W.fnOf "is_atom" "is_atom" (defArgs s_is_atom) (defBody s_is_atom) (defScope s_is_atom) .none kV1 dc1 pm1 an1 cd1 ct1), sl1⟩)
    (c1 : PySem.W.codeIn K cd1 "is_atom" = true)
    (k1 : PySem.W.keepIn K (.ref f1) = true)
    (a2 : PySem.W.findIn K (.ref C12) "__init__" = some (some (.ref f2)))
    (i2 : PySem.W.typeIn K (.ref f2) = some (.type "function"))
    (l2 : K.lookup f2 = some ⟨oc2, od2, .func (PySem.W.fnOf "__init__" "BadText.__init__" (defArgs s_BadText___init__) (defBody s_BadText___init__) (defScope s_BadText___init__) .none kV2 dc2 pm2 an2 cd2 ct2), sl2⟩)
    (c2 : PySem.W.codeIn K cd2 "BadText.__init__" = true)
    (k2 : PySem.W.keepIn K (.ref f2) = true)
    (a3 : PySem.W.nsIn K mainGlobals "is_ascending" = some (some (.ref f3)))
    (l3 : K.lookup f3 = some ⟨oc3, od3, .func (PySem.W.fnOf "is_ascending" "is_ascending" (defArgs s_is_ascending) (defBody s_is_ascending) (defScope s_is_ascending) .none kV3 dc3 pm3 an3 cd3 ct3), sl3⟩)
    (c3 : PySem.W.codeIn K cd3 "is_ascending" = true)
    (k3 : PySem.W.keepIn K (.ref f3) = true)
    (a4 : PySem.W.nsIn K mainGlobals "is_below" = some (some (.ref f4)))
    (l4 : K.lookup f4 = some ⟨oc4, od4, .func (PySem.W.fnOf "is_below" "is_below" (defArgs s_is_below) (defBody s_is_below) (defScope s_is_below) .none kV4 dc4 pm4 an4 cd4 ct4), sl4⟩)
    (c4 : PySem.W.codeIn K cd4 "is_below" = true)
    (k4 : PySem.W.keepIn K (.ref f4) = true)
    (a5 : PySem.W.nsIn K mainGlobals "are_below" = some (some (.ref f5)))
    (l5 : K.lookup f5 = some ⟨oc5, od5, .func (PySem.W.fnOf "are_below" "are_below" (defArgs s_are_below) (defBody s_are_below) (defScope s_are_below) .none kV5 dc5 pm5 an5 cd5 ct5), sl5⟩)
    (c5 : PySem.W.codeIn K cd5 "are_below" = true)
    (k5 : PySem.W.keepIn K (.ref f5) = true)
    (a6 : PySem.W.nsIn K mainGlobals "is_letters" = some (some (.ref f6)))
    (l6 : K.lookup f6 = some ⟨oc6, od6, .func (PySem.W.fnOf "is_letters" "is_letters" (defArgs s_is_letters) (defBody s_is_letters) (defScope s_is_letters) .none kV6 dc6 pm6 an6 cd6 ct6), sl6⟩)
    (c6 : PySem.W.codeIn K cd6 "is_letters" = true)
    (k6 : PySem.W.keepIn K (.ref f6) = true)
    (a7 : PySem.W.nsIn K mainGlobals "are_letters" = some (some (.ref f7)))
    (l7 : K.lookup f7 = some ⟨oc7, od7, .func (PySem.W.fnOf "are_letters" "are_letters" (defArgs s_are_letters) (defBody s_are_letters) (defScope s_are_letters) .none kV7 dc7 pm7 an7 cd7 ct7), sl7⟩)
    (c7 : PySem.W.codeIn K cd7 "are_letters" = true)
    (k7 : PySem.W.keepIn K (.ref f7) = true)
    (a8 : PySem.W.nsIn K mainGlobals "beneath_by" = some (some (.ref f8)))
    (l8 : K.lookup f8 = some ⟨oc8, od8, .func (PySem.W.fnOf "beneath_by" "beneath_by" (defArgs s_beneath_by) (defBody s_beneath_by) (defScope s_beneath_by) .none kV8 dc8 pm8 an8 cd8 ct8), sl8⟩)
    (c8 : PySem.W.codeIn K cd8 "beneath_by" = true)
    (k8 : PySem.W.keepIn K (.ref f8) = true)
    (a9 : PySem.W.nsIn K mainGlobals "heights_by" = some (some (.ref f9)))
    (l9 : K.lookup f9 = some ⟨oc9, od9, .func (PySem.W.fnOf "heights_by" "heights_by" (defArgs s_heights_by) (defBody s_heights_by) (defScope s_heights_by) .none kV9 dc9 pm9 an9 cd9 ct9), sl9⟩)
    (c9 : PySem.W.codeIn K cd9 "heights_by" = true)
    (k9 : PySem.W.keepIn K (.ref f9) = true)
    (a10 : PySem.W.findIn K (.ref C1) "__init__" = some (some (.ref f10)))
    (i10 : PySem.W.isFn K (.ref f10) = true)
    (l10 : K.lookup f10 = some ⟨oc10, od10, .func (PySem.W.fnOf "__init__" "Web.__init__" (defArgs s_Web___init__) (defBody s_Web___init__) (defScope s_Web___init__) .none kV10 dc10 pm10 an10 cd10 ct10), sl10⟩)
    (c10 : PySem.W.codeIn K cd10 "Web.__init__" = true)
    (k10 : PySem.W.keepIn K (.ref f10) = true)
    (a11 : PySem.W.nsIn K mainGlobals "line_of" = some (some (.ref f11)))
    (l11 : K.lookup f11 = some ⟨oc11, od11, .func (PySem.W.fnOf "line_of" "line_of" (defArgs s_line_of) (defBody s_line_of) (defScope s_line_of) .none kV11 dc11 pm11 an11 cd11 ct11), sl11⟩)
    (c11 : PySem.W.codeIn K cd11 "line_of" = true)
    (k11 : PySem.W.keepIn K (.ref f11) = true)
    (a12 : PySem.W.nsIn K mainGlobals "number_in" = some (some (.ref f12)))
    (l12 : K.lookup f12 = some ⟨oc12, od12, .func (PySem.W.fnOf "number_in" "number_in" (defArgs s_number_in) (defBody s_number_in) (defScope s_number_in) .none kV12 dc12 pm12 an12 cd12 ct12), sl12⟩)
    (c12 : PySem.W.codeIn K cd12 "number_in" = true)
    (k12 : PySem.W.keepIn K (.ref f12) = true)
    (a13 : PySem.W.nsIn K mainGlobals "points_in" = some (some (.ref f13)))
    (l13 : K.lookup f13 = some ⟨oc13, od13, .func (PySem.W.fnOf "points_in" "points_in" (defArgs s_points_in) (defBody s_points_in) (defScope s_points_in) .none kV13 dc13 pm13 an13 cd13 ct13), sl13⟩)
    (c13 : PySem.W.codeIn K cd13 "points_in" = true)
    (k13 : PySem.W.keepIn K (.ref f13) = true)
    (a14 : PySem.W.nsIn K mainGlobals "is_word_of_letters" = some (some (.ref f14)))
    (l14 : K.lookup f14 = some ⟨oc14, od14, .func (PySem.W.fnOf "is_word_of_letters" "is_word_of_letters" (defArgs s_is_word_of_letters) (defBody s_is_word_of_letters) (defScope s_is_word_of_letters) .none kV14 dc14 pm14 an14 cd14 ct14), sl14⟩)
    (c14 : PySem.W.codeIn K cd14 "is_word_of_letters" = true)
    (k14 : PySem.W.keepIn K (.ref f14) = true)
    (a15 : PySem.W.findIn K (.ref C1) "__str__" = some (some (.ref f15)))
    (i15 : PySem.W.isFn K (.ref f15) = true)
    (l15 : K.lookup f15 = some ⟨oc15, od15, .func (PySem.W.fnOf "__str__" "Web.__str__" (defArgs s_Web___str__) (defBody s_Web___str__) (defScope s_Web___str__) .none kV15 dc15 pm15 an15 cd15 ct15), sl15⟩)
    (c15 : PySem.W.codeIn K cd15 "Web.__str__" = true)
    (k15 : PySem.W.keepIn K (.ref f15) = true)
    (a16 : PySem.W.findCls K (.ref C1) (.type "type") "read" = some (.get (.builtin "classmethod.__get__") (.ref pA16) .none (.ref C1)))
    (cr_16 : PySem.W.readsIn K C1 (.type "type") = true)
    (cg_16 : PySem.W.specialIn K (.ref C1) "__getattribute__" = some (some (.builtin "type.__getattribute__")))
    (pr_16 : PySem.W.recIn K pA16 "classmethod" = some (.ref f16 :: pR16))
    (pf_16 : PySem.W.fnIn K f16 = true)
    (l16 : K.lookup f16 = some ⟨oc16, od16, .func (PySem.W.fnOf "read" "Web.read" (defArgs s_Web_read) (defBody s_Web_read) (defScope s_Web_read) .none kV16 dc16 pm16 an16 cd16 ct16), sl16⟩)
    (c16 : PySem.W.codeIn K cd16 "Web.read" = true)
    (k16 : PySem.W.keepIn K (.ref f16) = true)
    (a17 : PySem.W.nsIn K mainGlobals "_law_deck" = some (some (.ref f17)))
    (l17 : K.lookup f17 = some ⟨oc17, od17, .func (PySem.W.fnOf "_law_deck" "_law_deck" (defArgs s_law_deck) (defBody s_law_deck) (defScope s_law_deck) .none kV17 dc17 pm17 an17 cd17 ct17), sl17⟩)
    (c17 : PySem.W.codeIn K cd17 "_law_deck" = true)
    (k17 : PySem.W.keepIn K (.ref f17) = true)
    (a18 : PySem.W.nsIn K mainGlobals "_law_draw" = some (some (.ref f18)))
    (l18 : K.lookup f18 = some ⟨oc18, od18, .func (PySem.W.fnOf "_law_draw" "_law_draw" (defArgs s_law_draw) (defBody s_law_draw) (defScope s_law_draw) .none kV18 dc18 pm18 an18 cd18 ct18), sl18⟩)
    (c18 : PySem.W.codeIn K cd18 "_law_draw" = true)
    (k18 : PySem.W.keepIn K (.ref f18) = true)
    (a19 : PySem.W.nsIn K mainGlobals "_law_pick" = some (some (.ref f19)))
    (l19 : K.lookup f19 = some ⟨oc19, od19, .func (PySem.W.fnOf "_law_pick" "_law_pick" (defArgs s_law_pick) (defBody s_law_pick) (defScope s_law_pick) .none kV19 dc19 pm19 an19 cd19 ct19), sl19⟩)
    (c19 : PySem.W.codeIn K cd19 "_law_pick" = true)
    (k19 : PySem.W.keepIn K (.ref f19) = true)
    (a20 : PySem.W.nsIn K mainGlobals "_law_web" = some (some (.ref f20)))
    (l20 : K.lookup f20 = some ⟨oc20, od20, .func (PySem.W.fnOf "_law_web" "_law_web" (defArgs s_law_web) (defBody s_law_web) (defScope s_law_web) .none kV20 dc20 pm20 an20 cd20 ct20), sl20⟩)
    (c20 : PySem.W.codeIn K cd20 "_law_web" = true)
    (k20 : PySem.W.keepIn K (.ref f20) = true)
    (a21 : PySem.W.nsIn K mainGlobals "_law_text" = some (some (.ref f21)))
    (l21 : K.lookup f21 = some ⟨oc21, od21, .func (PySem.W.fnOf "_law_text" "_law_text" (defArgs s_law_text) (defBody s_law_text) (defScope s_law_text) .none kV21 dc21 pm21 an21 cd21 ct21), sl21⟩)
    (c21 : PySem.W.codeIn K cd21 "_law_text" = true)
    (k21 : PySem.W.keepIn K (.ref f21) = true)
    (a22 : PySem.W.nsIn K mainGlobals "_law_is_rising" = some (some (.ref f22)))
    (l22 : K.lookup f22 = some ⟨oc22, od22, .func (PySem.W.fnOf "_law_is_rising" "_law_is_rising" (defArgs s_law_is_rising) (defBody s_law_is_rising) (defScope s_law_is_rising) .none kV22 dc22 pm22 an22 cd22 ct22), sl22⟩)
    (c22 : PySem.W.codeIn K cd22 "_law_is_rising" = true)
    (k22 : PySem.W.keepIn K (.ref f22) = true)
    (a23 : PySem.W.nsIn K mainGlobals "_law_number" = some (some (.ref f23)))
    (l23 : K.lookup f23 = some ⟨oc23, od23, .func (PySem.W.fnOf "_law_number" "_law_number" (defArgs s_law_number) (defBody s_law_number) (defScope s_law_number) .none kV23 dc23 pm23 an23 cd23 ct23), sl23⟩)
    (c23 : PySem.W.codeIn K cd23 "_law_number" = true)
    (k23 : PySem.W.keepIn K (.ref f23) = true)
    (a24 : PySem.W.nsIn K mainGlobals "_law_is_line" = some (some (.ref f24)))
    (l24 : K.lookup f24 = some ⟨oc24, od24, .func (PySem.W.fnOf "_law_is_line" "_law_is_line" (defArgs s_law_is_line) (defBody s_law_is_line) (defScope s_law_is_line) .none kV24 dc24 pm24 an24 cd24 ct24), sl24⟩)
    (c24 : PySem.W.codeIn K cd24 "_law_is_line" = true)
    (k24 : PySem.W.keepIn K (.ref f24) = true)
    (a25 : PySem.W.nsIn K mainGlobals "_law_due" = some (some (.ref f25)))
    (l25 : K.lookup f25 = some ⟨oc25, od25, .func (PySem.W.fnOf "_law_due" "_law_due" (defArgs s_law_due) (defBody s_law_due) (defScope s_law_due) .none kV25 dc25 pm25 an25 cd25 ct25), sl25⟩)
    (c25 : PySem.W.codeIn K cd25 "_law_due" = true)
    (k25 : PySem.W.keepIn K (.ref f25) = true)
    (a26 : PySem.W.nsIn K mainGlobals "_law_bent_list" = some (some (.ref f26)))
    (l26 : K.lookup f26 = some ⟨oc26, od26, .func (PySem.W.fnOf "_law_bent_list" "_law_bent_list" (defArgs s_law_bent_list) (defBody s_law_bent_list) (defScope s_law_bent_list) .none kV26 dc26 pm26 an26 cd26 ct26), sl26⟩)
    (c26 : PySem.W.codeIn K cd26 "_law_bent_list" = true)
    (k26 : PySem.W.keepIn K (.ref f26) = true)
    (a27 : PySem.W.nsIn K mainGlobals "_law_bent" = some (some (.ref f27)))
    (l27 : K.lookup f27 = some ⟨oc27, od27, .func (PySem.W.fnOf "_law_bent" "_law_bent" (defArgs s_law_bent) (defBody s_law_bent) (defScope s_law_bent) .none kV27 dc27 pm27 an27 cd27 ct27), sl27⟩)
    (c27 : PySem.W.codeIn K cd27 "_law_bent" = true)
    (k27 : PySem.W.keepIn K (.ref f27) = true)
    (a28 : PySem.W.nsIn K mainGlobals "_law_heard" = some (some (.ref f28)))
    (l28 : K.lookup f28 = some ⟨oc28, od28, .func (PySem.W.fnOf "_law_heard" "_law_heard" (defArgs s_law_heard) (defBody s_law_heard) (defScope s_law_heard) .none kV28 dc28 pm28 an28 cd28 ct28), sl28⟩)
    (c28 : PySem.W.codeIn K cd28 "_law_heard" = true)
    (k28 : PySem.W.keepIn K (.ref f28) = true)
    (a29 : PySem.W.nsIn K mainGlobals "_law_right" = some (some (.ref f29)))
    (l29 : K.lookup f29 = some ⟨oc29, od29, .func (PySem.W.fnOf "_law_right" "_law_right" (defArgs s_law_right) (defBody s_law_right) (defScope s_law_right) .none kV29 dc29 pm29 an29 cd29 ct29), sl29⟩)
    (c29 : PySem.W.codeIn K cd29 "_law_right" = true)
    (k29 : PySem.W.keepIn K (.ref f29) = true)
    (a30 : PySem.W.nsIn K mainGlobals "law" = some (some (.ref f30)))
    (l30 : K.lookup f30 = some ⟨oc30, od30, .func (PySem.W.fnOf "law" "law" (defArgs s_law) (defBody s_law) (defScope s_law) .none kV30 dc30 pm30 an30 cd30 ct30), sl30⟩)
    (c30 : PySem.W.codeIn K cd30 "law" = true)
    (k30 : PySem.W.keepIn K (.ref f30) = true) :
    FnG P w K mg base 12 fa (spTop K) := by
  let cl : Nat → Addr := fun i => if i = 0 then C0 else if i = 1 then C1 else C12
  have B : Blt mg := ⟨PySem.W.mg_none_of X G z0, PySem.W.mg_none_of X G z1, PySem.W.mg_none_of X G z2, PySem.W.mg_none_of X G z3, PySem.W.mg_none_of X G z4, PySem.W.mg_none_of X G z5, PySem.W.mg_none_of X G z6, PySem.W.mg_none_of X G z7, PySem.W.mg_none_of X G z8, PySem.W.mg_none_of X G z9, PySem.W.mg_none_of X G z10, PySem.W.mg_none_of X G z11, PySem.W.mg_none_of X G z12, PySem.W.mg_none_of X G z13, PySem.W.mg_none_of X G z14, PySem.W.mg_none_of X G z15, PySem.W.mg_none_of X G z16, PySem.W.mg_none_of X G z17, PySem.W.mg_none_of X G z18, PySem.W.mg_none_of X G z19, PySem.W.mg_none_of X G z20⟩
  have cz0 : CZ K C0 fmNames := ⟨⟨pg0, hd0, po0, sa0⟩, fun n hn => by
    simp only [fmNames, List.mem_cons, List.not_mem_nil, or_false] at hn
    rcases hn with e | e | e | e | e | e | e | e
    · rw [e]; exact n0_0
    · rw [e]; exact n0_1
    · rw [e]; exact n0_2
    · rw [e]; exact n0_3
    · rw [e]; exact n0_4
    · rw [e]; exact n0_5
    · rw [e]; exact n0_6
    · rw [e]; exact n0_7, ⟨⟨pg0, hd0, po0, sa0⟩, ha0, hn0, htk0, hmo0, me0⟩, sf0, is0⟩
  have cz1 : CZ K C1 wbNames := ⟨⟨pg1, hd1, po1, sa1⟩, fun n hn => by
    simp only [wbNames, List.mem_cons, List.not_mem_nil, or_false] at hn
    rcases hn with e | e | e | e
    · rw [e]; exact n1_0
    · rw [e]; exact n1_1
    · rw [e]; exact n1_2
    · rw [e]; exact n1_3, ⟨⟨pg1, hd1, po1, sa1⟩, ha1, hn1, htk1, hmo1, me1⟩, sf1, is1⟩
  have ec12 : ErC K C12 "place" := ⟨⟨⟨_, _, _, _, _, _, _, _, _, _, _, _, _, _, _, xL12, rfl⟩, sa12, eC12, tC12, kc12⟩, ⟨ga12, gg12, eC12, hd12⟩, no12⟩
  have bw : BaseX K CW := ⟨⟨rdW, gaW⟩, inW⟩
  have gw := PySem.W.mg_of X G aCW
  have Z : ZZ K w mg cl := ⟨⟨_, PySem.W.mg_of X G s0, _, rfl⟩, ⟨_, PySem.W.mg_of X G s1, _, rfl⟩, ⟨_, PySem.W.mg_of X G s2, _, rfl⟩, ⟨_, PySem.W.mg_of X G s3, _, rfl⟩, ⟨_, PySem.W.mg_of X G s4, _, rfl⟩, dd5, es5, en5, PySem.W.mg_of X G aP5, ⟨lP5, lit5, low5⟩, ⟨_, p5_0⟩, ⟨_, p5_1⟩, ⟨_, p5_2⟩, ⟨_, p5_3⟩, ⟨_, PySem.W.mg_of X G s6, _, rfl⟩, ⟨_, PySem.W.mg_of X G s7, _, rfl⟩, ⟨_, PySem.W.mg_of X G s8, _, rfl⟩, ⟨_, PySem.W.mg_of X G s9, _, rfl⟩, ⟨_, PySem.W.mg_of X G s10, _, rfl⟩, ⟨_, PySem.W.mg_of X G s11, _, rfl⟩, PySem.W.mg_of X G aC0, cz0, PySem.W.mg_of X G aC1, cz1, PySem.W.mg_of X G aC12, ec12, xm12_12⟩
  have F1 := fun_mk (st := s_is_atom) l1 c1 k1
  have q_c_is_atom := c_is_atom (P := P) (base := base) (cl := cl) (PySem.W.mg_of X G a1) B Z F1 
  have F2 := fun_mk (st := s_BadText___init__) l2 c2 k2
  have q_e_BadText := e_BadText (P := P) (base := base) (cl := cl) a2 i2 bw gw Z F2
  have F3 := fun_mk (st := s_is_ascending) l3 c3 k3
  have q_c_is_ascending := c_is_ascending (P := P) (base := base) (cl := cl) (PySem.W.mg_of X G a3) B Z F3 
  have F4 := fun_mk (st := s_is_below) l4 c4 k4
  have q_c_is_below := c_is_below (P := P) (base := base) (cl := cl) (PySem.W.mg_of X G a4) B Z F4 q_c_is_ascending
  have F5 := fun_mk (st := s_are_below) l5 c5 k5
  have q_c_are_below := c_are_below (P := P) (base := base) (cl := cl) (PySem.W.mg_of X G a5) B Z F5 q_c_is_below
  have F6 := fun_mk (st := s_is_letters) l6 c6 k6
  have q_c_is_letters := c_is_letters (P := P) (base := base) (cl := cl) (PySem.W.mg_of X G a6) B Z F6 q_c_is_atom q_c_is_ascending
  have F7 := fun_mk (st := s_are_letters) l7 c7 k7
  have q_c_are_letters := c_are_letters (P := P) (base := base) (cl := cl) (PySem.W.mg_of X G a7) B Z F7 q_c_is_letters
  have F8 := fun_mk (st := s_beneath_by) l8 c8 k8
  have q_c_beneath_by := c_beneath_by (P := P) (base := base) (cl := cl) (PySem.W.mg_of X G a8) B Z F8 
  have F9 := fun_mk (st := s_heights_by) l9 c9 k9
  have q_c_heights_by := c_heights_by (P := P) (base := base) (cl := cl) (PySem.W.mg_of X G a9) B Z F9 
  have F10 := fun_mk (st := s_Web___init__) l10 c10 k10
  have q_m_Web := m_Web (P := P) (base := base) (cl := cl) ⟨mk1, a10, i10, kc1⟩ B Z F10 q_c_are_below q_c_are_letters q_c_beneath_by q_c_heights_by
  have F11 := fun_mk (st := s_line_of) l11 c11 k11
  have q_c_line_of := c_line_of (P := P) (base := base) (cl := cl) (PySem.W.mg_of X G a11) B Z F11 
  have F12 := fun_mk (st := s_number_in) l12 c12 k12
  have q_c_number_in := c_number_in (P := P) (base := base) (cl := cl) (PySem.W.mg_of X G a12) B Z F12 
  have F13 := fun_mk (st := s_points_in) l13 c13 k13
  have q_c_points_in := c_points_in (P := P) (base := base) (cl := cl) (PySem.W.mg_of X G a13) B Z F13 q_c_number_in q_c_is_below
  have F14 := fun_mk (st := s_is_word_of_letters) l14 c14 k14
  have q_c_is_word_of_letters := c_is_word_of_letters (P := P) (base := base) (cl := cl) (PySem.W.mg_of X G a14) B Z F14 q_c_is_letters
  have F15 := fun_mk (st := s_Web___str__) l15 c15 k15
  have q_o_str1 := o_str1 (P := P) (base := base) (cl := cl) ⟨a15, i15⟩ B Z F15 q_c_line_of
  have F16 := fun_mk (st := s_Web_read) l16 c16 k16
  have q_cm_Web_read := cm_Web_read (P := P) (base := base) (cl := cl) ⟨cr_16, cg_16⟩ ⟨a16, ⟨_, pr_16⟩, pf_16⟩ B Z F16 q_c_points_in q_c_is_word_of_letters q_m_Web q_e_BadText
  have F17 := fun_mk (st := s_law_deck) l17 c17 k17
  have q_c_law_deck := c_law_deck (P := P) (base := base) (cl := cl) (PySem.W.mg_of X G a17) B Z F17 
  have F18 := fun_mk (st := s_law_draw) l18 c18 k18
  have q_c_law_draw := c_law_draw (P := P) (base := base) (cl := cl) (PySem.W.mg_of X G a18) B Z F18 
  have F19 := fun_mk (st := s_law_pick) l19 c19 k19
  have q_c_law_pick := c_law_pick (P := P) (base := base) (cl := cl) (PySem.W.mg_of X G a19) B Z F19 q_c_law_draw
  have F20 := fun_mk (st := s_law_web) l20 c20 k20
  have q_c_law_web := c_law_web (P := P) (base := base) (cl := cl) (PySem.W.mg_of X G a20) B Z F20 q_c_law_draw
  have F21 := fun_mk (st := s_law_text) l21 c21 k21
  have q_c_law_text := c_law_text (P := P) (base := base) (cl := cl) (PySem.W.mg_of X G a21) B Z F21 
  have F22 := fun_mk (st := s_law_is_rising) l22 c22 k22
  have q_c_law_is_rising := c_law_is_rising (P := P) (base := base) (cl := cl) (PySem.W.mg_of X G a22) B Z F22 
  have F23 := fun_mk (st := s_law_number) l23 c23 k23
  have q_c_law_number := c_law_number (P := P) (base := base) (cl := cl) (PySem.W.mg_of X G a23) B Z F23 
  have F24 := fun_mk (st := s_law_is_line) l24 c24 k24
  have q_c_law_is_line := c_law_is_line (P := P) (base := base) (cl := cl) (PySem.W.mg_of X G a24) B Z F24 q_c_law_is_rising q_c_law_number
  have F25 := fun_mk (st := s_law_due) l25 c25 k25
  have q_c_law_due := c_law_due (P := P) (base := base) (cl := cl) (PySem.W.mg_of X G a25) B Z F25 q_c_law_is_line
  have F26 := fun_mk (st := s_law_bent_list) l26 c26 k26
  have q_c_law_bent_list := c_law_bent_list (P := P) (base := base) (cl := cl) (PySem.W.mg_of X G a26) B Z F26 q_c_law_draw q_c_law_pick
  have F27 := fun_mk (st := s_law_bent) l27 c27 k27
  have q_c_law_bent := c_law_bent (P := P) (base := base) (cl := cl) (PySem.W.mg_of X G a27) B Z F27 q_c_law_draw q_c_law_pick q_c_law_bent_list
  have F28 := fun_mk (st := s_law_heard) l28 c28 k28
  have q_c_law_heard := c_law_heard (P := P) (base := base) (cl := cl) (PySem.W.mg_of X G a28) B Z F28 q_cm_Web_read q_o_str1
  have F29 := fun_mk (st := s_law_right) l29 c29 k29
  have q_c_law_right := c_law_right (P := P) (base := base) (cl := cl) (PySem.W.mg_of X G a29) B Z F29 q_c_law_due q_c_law_heard
  have F30 := fun_mk (st := s_law) l30 c30 k30
  have q_c_law := c_law (P := P) (base := base) (cl := cl) (PySem.W.mg_of X G a30) B Z F30 q_c_law_deck q_c_law_pick q_c_law_draw q_c_law_web q_c_law_text q_c_law_bent q_c_law_right
  obtain ⟨f, hf, hm, _⟩ := q_c_law.ex
  have e := hfa.symm.trans hm
  cases e
  exact fun A outer s H us vs Q hg hr e0 r hsp => hf A outer s H us vs Q hg hr e0 r (top_sp hsp)
end N
open PySem PySem.W PyProof.Rows
set_option maxRecDepth 100000 in
set_option maxHeartbeats 0 in
theorem PySem.Challenge.cw_allbeneath_k14_texts_of_webs_bent_holds : PySem.Challenge.rw_allbeneath_k14_texts_of_webs_bent.Holds := by
  w_on; o_law; k_head; (case hw => w_witness2)
  k_fill
  refine N.walkG (l := PySem.Challenge.rw_allbeneath_k14_texts_of_webs_bent) (n := 63) (k := 12) (sp := N.spTop) rfl (by decide) rfl ?hr (fun w h Y => PySem.W.kIn_of Y) ?F ?G
  case hr => exact ⟨rfl, by decide, by decide⟩
  case G => exact fun K H a ns hl _ hS => ⟨a, ns, rfl, hS, hl, fun _ => rfl⟩
  case F =>
    intro w mg fa h KX G hmg base KB GB
    refine' N.all_mk KX G hmg (rfl : w = w) ?z0 ?z1 ?z2 ?z3 ?z4 ?z5 ?z6 ?z7 ?z8 ?z9 ?z10 ?z11 ?z12 ?z13 ?z14 ?z15 ?z16 ?z17 ?z18 ?z19 ?z20 ?s0 ?s1 ?s2 ?s3 ?s4 ?aP5 ?lP5 ?lit5 ?low5 ?p5_0 ?p5_1 ?p5_2 ?p5_3 ?s6 ?s7 ?s8 ?s9 ?s10 ?s11 ?aC0 ?pg0 ?hd0 ?po0 ?sa0 ?mk0 ?kc0 ?n0_0 ?n0_1 ?n0_2 ?n0_3 ?n0_4 ?n0_5 ?n0_6 ?n0_7 ?ha0 ?hn0 ?htk0 ?hmo0 ?me0 ?sf0 ?is0 ?aC1 ?pg1 ?hd1 ?po1 ?sa1 ?mk1 ?kc1 ?n1_0 ?n1_1 ?n1_2 ?n1_3 ?ha1 ?hn1 ?htk1 ?hmo1 ?me1 ?sf1 ?is1 ?aC12 ?xL12 ?sa12 ?eC12 ?tC12 ?kc12 ?ga12 ?gg12 ?hd12 ?no12 ?xm12_12 ?aCW ?rdW ?gaW ?inW ?a1 ?l1 ?c1 ?k1 ?a2 ?i2 ?l2 ?c2 ?k2 ?a3 ?l3 ?c3 ?k3 ?a4 ?l4 ?c4 ?k4 ?a5 ?l5 ?c5 ?k5 ?a6 ?l6 ?c6 ?k6 ?a7 ?l7 ?c7 ?k7 ?a8 ?l8 ?c8 ?k8 ?a9 ?l9 ?c9 ?k9 ?a10 ?i10 ?l10 ?c10 ?k10 ?a11 ?l11 ?c11 ?k11 ?a12 ?l12 ?c12 ?k12 ?a13 ?l13 ?c13 ?k13 ?a14 ?l14 ?c14 ?k14 ?a15 ?i15 ?l15 ?c15 ?k15 ?a16 ?cr_16 ?cg_16 ?pr_16 ?pf_16 ?l16 ?c16 ?k16 ?a17 ?l17 ?c17 ?k17 ?a18 ?l18 ?c18 ?k18 ?a19 ?l19 ?c19 ?k19 ?a20 ?l20 ?c20 ?k20 ?a21 ?l21 ?c21 ?k21 ?a22 ?l22 ?c22 ?k22 ?a23 ?l23 ?c23 ?k23 ?a24 ?l24 ?c24 ?k24 ?a25 ?l25 ?c25 ?k25 ?a26 ?l26 ?c26 ?k26 ?a27 ?l27 ?c27 ?k27 ?a28 ?l28 ?c28 ?k28 ?a29 ?l29 ?c29 ?k29 ?a30 ?l30 ?c30 ?k30
    (case z0 => first | k_is | rfl | decide)
    (case z1 => first | k_is | rfl | decide)
    (case z2 => first | k_is | rfl | decide)
    (case z3 => first | k_is | rfl | decide)
    (case z4 => first | k_is | rfl | decide)
    (case z5 => first | k_is | rfl | decide)
    (case z6 => first | k_is | rfl | decide)
    (case z7 => first | k_is | rfl | decide)
    (case z8 => first | k_is | rfl | decide)
    (case z9 => first | k_is | rfl | decide)
    (case z10 => first | k_is | rfl | decide)
    (case z11 => first | k_is | rfl | decide)
    (case z12 => first | k_is | rfl | decide)
    (case z13 => first | k_is | rfl | decide)
    (case z14 => first | k_is | rfl | decide)
    (case z15 => first | k_is | rfl | decide)
    (case z16 => first | k_is | rfl | decide)
    (case z17 => first | k_is | rfl | decide)
    (case z18 => first | k_is | rfl | decide)
    (case z19 => first | k_is | rfl | decide)
    (case z20 => first | k_is | rfl | decide)
    (case s0 => first | k_is | rfl | decide)
    (case s1 => first | k_is | rfl | decide)
    (case s2 => first | k_is | rfl | decide)
    (case s3 => first | k_is | rfl | decide)
    (case s4 => first | k_is | rfl | decide)
    (case aP5 => first | k_is | rfl | decide)
    (case lP5 => first | k_is | rfl | decide)
    (case lit5 => exact ⟨⟨_, _, rfl, rfl⟩, ⟨_, _, rfl, rfl⟩, ⟨_, _, rfl, rfl⟩, ⟨_, _, rfl, rfl⟩, trivial⟩)
    (case low5 => first | k_is | rfl | decide)
    (case p5_0 => first | k_is | rfl | decide)
    (case p5_1 => first | k_is | rfl | decide)
    (case p5_2 => first | k_is | rfl | decide)
    (case p5_3 => first | k_is | rfl | decide)
    (case s6 => first | k_is | rfl | decide)
    (case s7 => first | k_is | rfl | decide)
    (case s8 => first | k_is | rfl | decide)
    (case s9 => first | k_is | rfl | decide)
    (case s10 => first | k_is | rfl | decide)
    (case s11 => first | k_is | rfl | decide)
    (case aC0 => first | k_is | rfl | decide)
    (case pg0 => first | k_is | rfl | decide)
    (case hd0 => first | k_is | rfl | decide)
    (case po0 => first | k_is | rfl | decide)
    (case sa0 => first | k_is | rfl | decide)
    (case mk0 => first | k_is | rfl | decide)
    (case kc0 => first | k_is | rfl | decide)
    (case n0_0 => first | k_is | rfl | decide)
    (case n0_1 => first | k_is | rfl | decide)
    (case n0_2 => first | k_is | rfl | decide)
    (case n0_3 => first | k_is | rfl | decide)
    (case n0_4 => first | k_is | rfl | decide)
    (case n0_5 => first | k_is | rfl | decide)
    (case n0_6 => first | k_is | rfl | decide)
    (case n0_7 => first | k_is | rfl | decide)
    (case ha0 => first | k_is | rfl | decide)
    (case hn0 => first | k_is | rfl | decide)
    (case htk0 => first | k_is | rfl | decide)
    (case hmo0 => first | k_is | rfl | decide)
    (case me0 => first | k_is | rfl | decide)
    (case sf0 => first | k_is | rfl | decide)
    (case is0 => first | k_is | rfl | decide)
    (case aC1 => first | k_is | rfl | decide)
    (case pg1 => first | k_is | rfl | decide)
    (case hd1 => first | k_is | rfl | decide)
    (case po1 => first | k_is | rfl | decide)
    (case sa1 => first | k_is | rfl | decide)
    (case mk1 => first | k_is | rfl | decide)
    (case kc1 => first | k_is | rfl | decide)
    (case n1_0 => first | k_is | rfl | decide)
    (case n1_1 => first | k_is | rfl | decide)
    (case n1_2 => first | k_is | rfl | decide)
    (case n1_3 => first | k_is | rfl | decide)
    (case ha1 => first | k_is | rfl | decide)
    (case hn1 => first | k_is | rfl | decide)
    (case htk1 => first | k_is | rfl | decide)
    (case hmo1 => first | k_is | rfl | decide)
    (case me1 => first | k_is | rfl | decide)
    (case sf1 => first | k_is | rfl | decide)
    (case is1 => first | k_is | rfl | decide)
    (case aC12 => first | k_is | rfl | decide)
    (case xL12 => first | k_is | rfl | decide)
    (case sa12 => first | k_is | rfl | decide)
    (case eC12 => first | k_is | rfl | decide)
    (case tC12 => first | k_is | rfl | decide)
    (case kc12 => first | k_is | rfl | decide)
    (case ga12 => first | k_is | rfl | decide)
    (case gg12 => first | k_is | rfl | decide)
    (case hd12 => first | k_is | rfl | decide)
    (case no12 => first | k_is | rfl | decide)
    (case xm12_12 => first | k_is | rfl | decide)
    (case aCW => first | k_is | rfl | decide)
    (case rdW => first | k_is | rfl | decide)
    (case gaW => first | k_is | rfl | decide)
    (case inW => first | k_is | rfl | decide)
    (case a1 => first | k_is | rfl | decide)
    (case l1 => first | k_is | rfl | decide)
    (case c1 => first | k_is | rfl | decide)
    (case k1 => first | k_is | rfl | decide)
    (case a2 => first | k_is | rfl | decide)
    (case i2 => first | k_is | rfl | decide)
    (case l2 => first | k_is | rfl | decide)
    (case c2 => first | k_is | rfl | decide)
    (case k2 => first | k_is | rfl | decide)
    (case a3 => first | k_is | rfl | decide)
    (case l3 => first | k_is | rfl | decide)
    (case c3 => first | k_is | rfl | decide)
    (case k3 => first | k_is | rfl | decide)
    (case a4 => first | k_is | rfl | decide)
    (case l4 => first | k_is | rfl | decide)
    (case c4 => first | k_is | rfl | decide)
    (case k4 => first | k_is | rfl | decide)
    (case a5 => first | k_is | rfl | decide)
    (case l5 => first | k_is | rfl | decide)
    (case c5 => first | k_is | rfl | decide)
    (case k5 => first | k_is | rfl | decide)
    (case a6 => first | k_is | rfl | decide)
    (case l6 => first | k_is | rfl | decide)
    (case c6 => first | k_is | rfl | decide)
    (case k6 => first | k_is | rfl | decide)
    (case a7 => first | k_is | rfl | decide)
    (case l7 => first | k_is | rfl | decide)
    (case c7 => first | k_is | rfl | decide)
    (case k7 => first | k_is | rfl | decide)
    (case a8 => first | k_is | rfl | decide)
    (case l8 => first | k_is | rfl | decide)
    (case c8 => first | k_is | rfl | decide)
    (case k8 => first | k_is | rfl | decide)
    (case a9 => first | k_is | rfl | decide)
    (case l9 => first | k_is | rfl | decide)
    (case c9 => first | k_is | rfl | decide)
    (case k9 => first | k_is | rfl | decide)
    (case a10 => first | k_is | rfl | decide)
    (case i10 => first | k_is | rfl | decide)
    (case l10 => first | k_is | rfl | decide)
    (case c10 => first | k_is | rfl | decide)
    (case k10 => first | k_is | rfl | decide)
    (case a11 => first | k_is | rfl | decide)
    (case l11 => first | k_is | rfl | decide)
    (case c11 => first | k_is | rfl | decide)
    (case k11 => first | k_is | rfl | decide)
    (case a12 => first | k_is | rfl | decide)
    (case l12 => first | k_is | rfl | decide)
    (case c12 => first | k_is | rfl | decide)
    (case k12 => first | k_is | rfl | decide)
    (case a13 => first | k_is | rfl | decide)
    (case l13 => first | k_is | rfl | decide)
    (case c13 => first | k_is | rfl | decide)
    (case k13 => first | k_is | rfl | decide)
    (case a14 => first | k_is | rfl | decide)
    (case l14 => first | k_is | rfl | decide)
    (case c14 => first | k_is | rfl | decide)
    (case k14 => first | k_is | rfl | decide)
    (case a15 => first | k_is | rfl | decide)
    (case i15 => first | k_is | rfl | decide)
    (case l15 => first | k_is | rfl | decide)
    (case c15 => first | k_is | rfl | decide)
    (case k15 => first | k_is | rfl | decide)
    (case a16 => first | k_is | rfl | decide)
    (case cr_16 => first | k_is | rfl | decide)
    (case cg_16 => first | k_is | rfl | decide)
    (case pr_16 => first | k_is | rfl | decide)
    (case pf_16 => first | k_is | rfl | decide)
    (case l16 => first | k_is | rfl | decide)
    (case c16 => first | k_is | rfl | decide)
    (case k16 => first | k_is | rfl | decide)
    (case a17 => first | k_is | rfl | decide)
    (case l17 => first | k_is | rfl | decide)
    (case c17 => first | k_is | rfl | decide)
    (case k17 => first | k_is | rfl | decide)
    (case a18 => first | k_is | rfl | decide)
    (case l18 => first | k_is | rfl | decide)
    (case c18 => first | k_is | rfl | decide)
    (case k18 => first | k_is | rfl | decide)
    (case a19 => first | k_is | rfl | decide)
    (case l19 => first | k_is | rfl | decide)
    (case c19 => first | k_is | rfl | decide)
    (case k19 => first | k_is | rfl | decide)
    (case a20 => first | k_is | rfl | decide)
    (case l20 => first | k_is | rfl | decide)
    (case c20 => first | k_is | rfl | decide)
    (case k20 => first | k_is | rfl | decide)
    (case a21 => first | k_is | rfl | decide)
    (case l21 => first | k_is | rfl | decide)
    (case c21 => first | k_is | rfl | decide)
    (case k21 => first | k_is | rfl | decide)
    (case a22 => first | k_is | rfl | decide)
    (case l22 => first | k_is | rfl | decide)
    (case c22 => first | k_is | rfl | decide)
    (case k22 => first | k_is | rfl | decide)
    (case a23 => first | k_is | rfl | decide)
    (case l23 => first | k_is | rfl | decide)
    (case c23 => first | k_is | rfl | decide)
    (case k23 => first | k_is | rfl | decide)
    (case a24 => first | k_is | rfl | decide)
    (case l24 => first | k_is | rfl | decide)
    (case c24 => first | k_is | rfl | decide)
    (case k24 => first | k_is | rfl | decide)
    (case a25 => first | k_is | rfl | decide)
    (case l25 => first | k_is | rfl | decide)
    (case c25 => first | k_is | rfl | decide)
    (case k25 => first | k_is | rfl | decide)
    (case a26 => first | k_is | rfl | decide)
    (case l26 => first | k_is | rfl | decide)
    (case c26 => first | k_is | rfl | decide)
    (case k26 => first | k_is | rfl | decide)
    (case a27 => first | k_is | rfl | decide)
    (case l27 => first | k_is | rfl | decide)
    (case c27 => first | k_is | rfl | decide)
    (case k27 => first | k_is | rfl | decide)
    (case a28 => first | k_is | rfl | decide)
    (case l28 => first | k_is | rfl | decide)
    (case c28 => first | k_is | rfl | decide)
    (case k28 => first | k_is | rfl | decide)
    (case a29 => first | k_is | rfl | decide)
    (case l29 => first | k_is | rfl | decide)
    (case c29 => first | k_is | rfl | decide)
    (case k29 => first | k_is | rfl | decide)
    (case a30 => first | k_is | rfl | decide)
    (case l30 => first | k_is | rfl | decide)
    (case c30 => first | k_is | rfl | decide)
    (case k30 => first | k_is | rfl | decide)
