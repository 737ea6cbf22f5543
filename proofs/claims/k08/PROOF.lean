import PyProof.Rows.All
import Wide.All
import OpenK.AllK
import Wide.FinOn
import HandS.ForMost
import HandS.DictComp
import HandS.FStr
import HandS.Star
import HandS.Property
import HandS.TupAny
import HandS.Codes
import HandS.More
import HandS.Conv
import HandS.Strs
import HandS.Style
import HandS.IsInst
import HandS.Defaults
import HandS.Flow
import HandS.MakeKwOnly
import HandS.SortKw
import HandS.WrittenGet
import HandS.MethStar
import KE.KOpsOwn
import KE.KCallOwn
import OpenK.KOps
import KE.DatumIndex
import PyProof.ReprRoads
import PyProof.ReprBulk
import HandS.RaiseMore
import KE.KeyNested
import PyProof.Rows.StrMeet
import KE.KEqDict
import HandS.SetFor
import PyProof.StrWalks
import PyProof.Rows.SortShellAny
import HandS.SetTxt0
import PyProof.Rows.StrMul
import HandS.TupMul
import PyProof.NeKinds
import PyProof.EqAt
import KE.GoesZip
import KE.GoesMore
import KE.GoesEnumKw
import HandS.Zip
import KE.GoesEnum
import HandS.SortInts
import HandS.TryOnly
import HandS.SlotsOwn
import PyProof.InstEq
import PyProof.P3Eq
import HandS.ClsMeth
import HandS.Exc
import HandS.ExcInit
import HandS.ExcSuper
import HandS.ExcField
import HandS.ExcIs
import HandS.WordsExc
import HandS.ExcOwn
import PyProof.StrLawsChain
import PySem.Challenge.RW_allbeneath_k08_webs_of_any_values
set_option Elab.async false
set_option linter.all false
set_option maxRecDepth 100000
namespace N
open PySem L2
/-- formulas -/
inductive Fm where
  | at (c : Nat) | no | imp (a b : Fm) | all (a : Fm)
  deriving DecidableEq
/-- plain data -/
inductive D where
  | vl (v : V)
  | tup (l : List D)
  | lst (l : List D)
  | dct (ks : List Key) (l : List D)
  | obj (c : Nat) (ns : List Str) (l : List D)
  | fm (f : Fm)
  | scr (l : List V)
@[reducible] def D.int (i : Int) : D := .vl (.int i)
@[reducible] def D.bl (b : Bool) : D := .vl (.bl b)
@[reducible] def D.str (s : Str) : D := .vl (.str s)
@[reducible] def D.non : D := .vl .non
@[reducible] def D.adr (a : Addr) : D := .vl (.ref a)
/-- the module's written part, the classes' places -/
structure Kx where
  K : PySem.W.Frag
  cl : Nat → Addr
/-- what is kept of a formula: filled in by the texts that speak of formulas -/
structure FmKit where
  kind : Fm → Str
  many : Fm → Int
  deep : Fm → Int
  atoms : Fm → Str
  bare : Fm → Str
  spell : Fm → Str
  alls : Fm → List Fm
def AllR (R : Addr → Fm → Prop) : List Addr → List Fm → Prop
  | [], fs => fs = []
  | a :: as, fs => ∃ f r, fs = f :: r ∧ R a f ∧ AllR R as r
theorem AllR.imp {R S : Addr → Fm → Prop} (h : ∀ a f, R a f → S a f) : ∀ {as : List Addr} {fs : List Fm}, AllR R as fs → AllR S as fs
  | [], _, e => e
  | _ :: _, _, ⟨f, r, e, x, t⟩ => ⟨f, r, e, h _ _ x, AllR.imp h t⟩
def PartsR (R : Addr → Fm → Prop) : Fm → List V → Prop
  | .at c, ps => ps = [.str ⟨#[c]⟩]
  | .no, ps => ps = []
  | .imp a b, ps => ∃ p q, ps = [.ref p, .ref q] ∧ R p a ∧ R q b
  | .all a, ps => ∃ p, ps = [.ref p] ∧ R p a
theorem PartsR.imp {R S : Addr → Fm → Prop} (h : ∀ a f, R a f → S a f) : ∀ {f : Fm} {ps : List V}, PartsR R f ps → PartsR S f ps
  | .at _, _, e => e
  | .no, _, e => e
  | .imp _ _, _, ⟨p, q, e, x, y⟩ => ⟨p, q, e, h _ _ x, h _ _ y⟩
  | .all _, _, ⟨p, e, x⟩ => ⟨p, e, h _ _ x⟩
section
variable (F : FmKit) (T : Kx)
def fmNames : List Str := ["kind", "parts", "many", "deepest", "atoms", "bare", "spelled", "alls_known"]
def fmFields (f : Fm) (pa al : Addr) : List (Str × V) :=
  [("kind", .str (F.kind f)), ("parts", .ref pa), ("many", .int (F.many f)), ("deepest", .int (F.deep f)), ("atoms", .str (F.atoms f)), ("bare", .str (F.bare f)), ("spelled", .str (F.spell f)), ("alls_known", .ref al)]
def FStep (H : Hp) (R : Addr → Fm → Prop) (a : Addr) (f : Fm) : Prop :=
  ∃ dx pa ps al as, H a = some (.ins (T.cl 0) dx (fmFields F f pa al)) ∧ SqT T.K H pa ps ∧ PartsR R f ps ∧ SqT T.K H al (as.map V.ref) ∧ AllR R as (F.alls f)
def FormAt (H : Hp) (a : Addr) (f : Fm) : Prop := ∃ R : Addr → Fm → Prop, (∀ b g, R b g → FStep F T H R b g) ∧ R a f
end
theorem Same.sqT {K : PySem.W.Frag} {H H' : Hp} {a : Addr} {xs : List V} (e : Same H H') (h : SqT K H a xs) : SqT K H' a xs := by
  rcases h with (h | ⟨o, h⟩) | h
  · exact .inl (.inl (e _ _ h))
  · exact .inl (.inr ⟨o, e _ _ h⟩)
  · exact .inr h
section
variable {F : FmKit} {T : Kx} {H H' : Hp} {R S : Addr → Fm → Prop} {a : Addr} {f : Fm}
theorem FStep.imp (h : ∀ a f, R a f → S a f) (e : Same H H') (x : FStep F T H R a f) : FStep F T H' S a f := by
  obtain ⟨dx, pa, ps, al, as, h1, h2, h3, h4, h5⟩ := x
  exact ⟨dx, pa, ps, al, as, e _ _ h1, Same.sqT e h2, h3.imp h, Same.sqT e h4, h5.imp h⟩
theorem FormAt.mono (e : Same H H') (x : FormAt F T H a f) : FormAt F T H' a f := by
  obtain ⟨R, h, r⟩ := x
  exact ⟨R, fun b g y => (h b g y).imp (fun _ _ z => z) e, r⟩
theorem FormAt.out (x : FormAt F T H a f) : FStep F T H (FormAt F T H) a f := by
  obtain ⟨R, h, r⟩ := x
  exact (h a f r).imp (fun b g y => ⟨R, h, y⟩) (Same.refl _)
theorem FormAt.mk (x : FStep F T H (fun b g => FormAt F T H b g ∨ (b = a ∧ g = f)) a f) : FormAt F T H a f := by
  refine ⟨fun b g => FormAt F T H b g ∨ (b = a ∧ g = f), fun b g y => ?_, .inr ⟨rfl, rfl⟩⟩
  rcases y with y | ⟨rfl, rfl⟩
  · exact y.out.imp (fun _ _ z => .inl z) (Same.refl _)
  · exact x
end
section
variable (F : FmKit) (T : Kx) (H : Hp)
mutual
def Den : D → V → Prop
  | .vl w, v => v = w
  | .tup l, v => ∃ a xs, v = .ref a ∧ SqT T.K H a xs ∧ DenL l xs
  | .lst l, v => ∃ a xs, v = .ref a ∧ H a = some (.lst xs) ∧ DenL l xs
  | .dct ks l, v => ∃ a kvs, v = .ref a ∧ H a = some (.dK kvs) ∧ kvs.map (·.1) = ks ∧ ks.Nodup ∧ DenL l (kvs.map (·.2))
  | .obj c ns l, v => ∃ a dx fs, v = .ref a ∧ H a = some (.ins (T.cl c) dx fs) ∧ fs.map (·.1) = ns ∧ DenL l (fs.map (·.2))
  | .fm f, v => ∃ a, v = .ref a ∧ FormAt F T H a f
  | .scr l, v => ∃ a, v = .ref a ∧ SqL T.K H a l
def DenL : List D → List V → Prop
  | [], vs => vs = []
  | d :: l, vs => ∃ v r, vs = v :: r ∧ Den d v ∧ DenL l r
end
end
section
variable {F : FmKit} {T : Kx} {H H' : Hp}
mutual
theorem Den.mono (e : Same H H') : ∀ (d : D) (v : V), Den F T H d v → Den F T H' d v
  | .vl _, _, h => h
  | .tup l, _, ⟨a, xs, h1, h2, h3⟩ => ⟨a, xs, h1, Same.sqT e h2, DenL.mono e l xs h3⟩
  | .lst l, _, ⟨a, xs, h1, h2, h3⟩ => ⟨a, xs, h1, e _ _ h2, DenL.mono e l xs h3⟩
  | .dct ks l, _, ⟨a, kvs, h1, h2, h3, h4, h5⟩ => ⟨a, kvs, h1, e _ _ h2, h3, h4, DenL.mono e l _ h5⟩
  | .obj c ns l, _, ⟨a, dx, fs, h1, h2, h3, h4⟩ => ⟨a, dx, fs, h1, e _ _ h2, h3, DenL.mono e l _ h4⟩
  | .fm f, _, ⟨a, h1, h2⟩ => ⟨a, h1, h2.mono e⟩
  | .scr l, _, ⟨a, h1, h2⟩ => ⟨a, h1, e.seq h2⟩
theorem DenL.mono (e : Same H H') : ∀ (l : List D) (vs : List V), DenL F T H l vs → DenL F T H' l vs
  | [], _, h => h
  | d :: l, _, ⟨v, r, h1, h2, h3⟩ => ⟨v, r, h1, Den.mono e d v h2, DenL.mono e l r h3⟩
end
theorem DenL.len : ∀ {l : List D} {vs : List V}, DenL F T H l vs → vs.length = l.length
  | [], _, h => by
    have h : _ = [] := h
    rw [h]
    rfl
  | d :: l, _, ⟨v, r, h1, _, h3⟩ => by
    rw [h1, List.length_cons, List.length_cons, DenL.len h3]
theorem DenL.get : ∀ {l : List D} {vs : List V} {i : Nat} {d : D}, DenL F T H l vs → l[i]? = some d → ∃ v, vs[i]? = some v ∧ Den F T H d v
  | [], _, i, d, _, e => by simp at e
  | x :: l, _, 0, d, ⟨v, r, h1, h2, _⟩, e => by
    subst h1
    have e : x = d := Option.some.inj e
    subst e
    exact ⟨v, rfl, h2⟩
  | x :: l, _, i + 1, d, ⟨v, r, h1, _, h3⟩, e => by
    subst h1
    exact DenL.get (i := i) (d := d) h3 e
theorem DenL.at : ∀ {l : List D} {vs : List V} {i : Nat} {v : V}, DenL F T H l vs → vs[i]? = some v → ∃ d, l[i]? = some d ∧ Den F T H d v
  | [], _, i, v, h, e => by
    have h : _ = [] := h
    rw [h] at e
    simp at e
  | x :: l, _, 0, v, ⟨u, r, h1, h2, _⟩, e => by
    subst h1
    have e : u = v := Option.some.inj e
    subst e
    exact ⟨x, rfl, h2⟩
  | x :: l, _, i + 1, v, ⟨u, r, h1, _, h3⟩, e => by
    subst h1
    exact DenL.at (i := i) (v := v) h3 e
theorem DenL.app : ∀ {l m : List D} {vs us : List V}, DenL F T H l vs → DenL F T H m us → DenL F T H (l ++ m) (vs ++ us)
  | [], m, _, us, h, k => by
    have h : _ = [] := h
    subst h
    exact k
  | d :: l, m, _, us, ⟨v, r, h1, h2, h3⟩, k => by
    subst h1
    exact ⟨v, r ++ us, rfl, h2, DenL.app h3 k⟩
theorem DenL.app_inv : ∀ {l m : List D} {vs : List V}, DenL F T H (l ++ m) vs → ∃ us ws, vs = us ++ ws ∧ DenL F T H l us ∧ DenL F T H m ws
  | [], m, vs, h => ⟨[], vs, rfl, rfl, h⟩
  | d :: l, m, _, ⟨v, r, h1, h2, h3⟩ => by
    obtain ⟨us, ws, e, p, q⟩ := DenL.app_inv (l := l) h3
    exact ⟨v :: us, ws, by rw [h1, e] <;> rfl, ⟨v, us, rfl, h2, p⟩, q⟩
theorem DenL.set : ∀ {l : List D} {vs : List V} {i : Nat} {d : D} {v : V}, DenL F T H l vs → Den F T H d v → DenL F T H (l.set i d) (vs.set i v)
  | [], _, i, d, v, h, _ => by
    have h : _ = [] := h
    subst h
    rfl
  | x :: l, _, 0, d, v, ⟨u, r, h1, _, h3⟩, k => by
    subst h1
    exact ⟨v, r, rfl, k, h3⟩
  | x :: l, _, i + 1, d, v, ⟨u, r, h1, h2, h3⟩, k => by
    subst h1
    exact ⟨u, r.set i v, rfl, h2, DenL.set h3 k⟩
theorem DenL.one {d : D} {v : V} (h : Den F T H d v) : DenL F T H [d] [v] := ⟨v, [], rfl, h, rfl⟩
theorem DenL.vls (vs : List V) : DenL F T H (vs.map D.vl) vs := by
  induction vs with
  | nil => rfl
  | cons v r ih => exact ⟨v, r, rfl, rfl, ih⟩
theorem DenL.vls_inv : ∀ {ws vs : List V}, DenL F T H (ws.map D.vl) vs → vs = ws
  | [], _, h => h
  | w :: ws, _, ⟨v, r, h1, h2, h3⟩ => by
    have h2 : v = w := h2
    rw [h1, h2, DenL.vls_inv (ws := ws) h3]
theorem DenL.reverse : ∀ {l : List D} {vs : List V}, DenL F T H l vs → DenL F T H l.reverse vs.reverse
  | [], _, h => by
    have h : _ = [] := h
    subst h
    rfl
  | d :: l, _, ⟨v, r, h1, h2, h3⟩ => by
    subst h1
    rw [List.reverse_cons, List.reverse_cons]
    exact (DenL.reverse h3).app (DenL.one h2)
theorem DenL.take : ∀ {l : List D} {vs : List V} (n : Nat), DenL F T H l vs → DenL F T H (l.take n) (vs.take n)
  | l, vs, 0, _ => by
    rw [List.take_zero, List.take_zero]
    rfl
  | [], _, n + 1, h => by
    have h : _ = [] := h
    subst h
    rfl
  | d :: l, _, n + 1, ⟨v, r, h1, h2, h3⟩ => by
    subst h1
    exact ⟨v, r.take n, rfl, h2, DenL.take n h3⟩
theorem DenL.drop : ∀ {l : List D} {vs : List V} (n : Nat), DenL F T H l vs → DenL F T H (l.drop n) (vs.drop n)
  | l, vs, 0, h => h
  | [], _, n + 1, h => by
    have h : _ = [] := h
    subst h
    rfl
  | d :: l, _, n + 1, ⟨v, r, h1, h2, h3⟩ => by
    subst h1
    exact DenL.drop n h3
end
def ov (O H : Hp) : Hp := fun b => match O b with | some o => some o | none => H b
def Dis (O H : Hp) : Prop := ∀ b o, O b = some o → H b = none
section
variable {O O' H H' : Hp} {a b : Addr} {o u : HO}
theorem ov_own (h : O b = some o) : ov O H b = some o := by
  unfold ov
  rw [h]
theorem ov_fro (h : O b = none) : ov O H b = H b := by
  unfold ov
  rw [h]
theorem ov_none (h : ov O H b = none) : O b = none ∧ H b = none := by
  unfold ov at h
  cases e : O b with
  | none =>
    rw [e] at h
    exact ⟨rfl, h⟩
  | some o =>
    rw [e] at h
    cases h
theorem Dis.same (d : Dis O H) : Same H (ov O H) := fun b o h => by
  cases e : O b with
  | none => rw [ov_fro e, h]
  | some x =>
    rw [d b x e] at h
    cases h
theorem ov_updH (h : O a = none) : upd (ov O H) a o = ov O (upd H a o) := by
  funext b
  by_cases e : b = a
  · subst e
    rw [upd_same, ov_fro h, upd_same]
  · rw [upd_ne e]
    unfold ov
    rw [upd_ne e]
theorem ov_updO : upd (ov O H) a o = ov (upd O a o) H := by
  funext b
  by_cases e : b = a
  · subst e
    rw [upd_same, ov_own upd_same]
  · rw [upd_ne e]
    unfold ov
    rw [upd_ne e]
theorem Dis.updH (d : Dis O H) (h : O a = none) : Dis O (upd H a o) := fun b x e => by
  have n : b ≠ a := fun q => by
    subst q
    rw [h] at e
    cases e
  rw [upd_ne n]
  exact d b x e
theorem Dis.updO (d : Dis O H) (h : H a = none) : Dis (upd O a o) H := fun b x e => by
  by_cases q : b = a
  · subst q
    exact h
  · rw [upd_ne q] at e
    exact d b x e
theorem same_upd (h : H a = none) : Same H (upd H a o) := fun b x e => by
  rw [upd_ne (ne_of_none e h)]
  exact e
/-- a cell taken out -/
def del (O : Hp) (a : Addr) : Hp := fun b => if b = a then none else O b
theorem del_same : del O a a = none := by
  unfold del
  rw [if_pos rfl]
theorem del_ne (h : b ≠ a) : del O a b = O b := by
  unfold del
  rw [if_neg h]
theorem ov_freeze (h : O a = some o) : ov O H = ov (del O a) (upd H a o) := by
  funext b
  by_cases e : b = a
  · subst e
    rw [ov_own h, ov_fro del_same, upd_same]
  · unfold ov
    rw [del_ne e, upd_ne e]
theorem Dis.freeze (d : Dis O H) : Dis (del O a) (upd H a o) := fun b x e => by
  by_cases q : b = a
  · subst q
    rw [del_same] at e
    cases e
  · rw [del_ne q] at e
    rw [upd_ne q]
    exact d b x e
end
end N
set_option Elab.async false
set_option linter.all false
set_option maxRecDepth 100000
namespace N
open PySem L2
/-- a dict whose keys are nested tuples: its cell alone -/
def NkRaw (w : World) (h : Heap) (p : Addr) (as : List (NestedKey × Addr × V)) : Prop := ∃ (o : Obj) (es : Array DictEntry) (ep : Nat) (us : List (NestedKey × Addr × Value)),
  (p == sysModules) = false ∧ h.get? p = some o ∧ o.ExactDict ∧ o.data = .dict es ep ∧ es.toList = us.map (fun x => (⟨x.1.hash w, .ref x.2.1, x.2.2⟩ : DictEntry)) ∧ Paired (fun (a : NestedKey × Addr × V) (u : NestedKey × Addr × Value) => a.1 = u.1 ∧ a.2.1 = u.2.1 ∧ RelV a.2.2 u.2.2) as us
def NkO (w : World) (p : Addr) (as : List (NestedKey × Addr × V)) : HO := .ext fun h => NkRaw w h p as
mutual
/-- the value is such a key -/
def NkV (K : PySem.W.Frag) (H : Hp) : NestedKey → V → Prop
  | .none, v => v = .non
  | .num i, v => v = .int i
  | .text s, v => v = .str s
  | .tup ks, v => ∃ a xs, v = .ref a ∧ SqT K H a xs ∧ NkL K H ks xs
def NkL (K : PySem.W.Frag) (H : Hp) : List NestedKey → List V → Prop
  | [], vs => vs = []
  | k :: ks, vs => ∃ v r, vs = v :: r ∧ NkV K H k v ∧ NkL K H ks r
end
mutual
theorem NkV.mono {K : PySem.W.Frag} {H H' : Hp} (e : Same H H') : ∀ (k : NestedKey) (v : V), NkV K H k v → NkV K H' k v
  | .none, _, h => h
  | .num _, _, h => h
  | .text _, _, h => h
  | .tup ks, _, ⟨a, xs, h1, h2, h3⟩ => ⟨a, xs, h1, Same.sqT e h2, NkL.mono e ks xs h3⟩
theorem NkL.mono {K : PySem.W.Frag} {H H' : Hp} (e : Same H H') : ∀ (ks : List NestedKey) (vs : List V), NkL K H ks vs → NkL K H' ks vs
  | [], _, h => h
  | k :: ks, _, ⟨v, r, h1, h2, h3⟩ => ⟨v, r, h1, NkV.mono e k v h2, NkL.mono e ks r h3⟩
end
/-- what an owned cell holds -/
inductive OD where
  | lst (l : List D)
  | dct (ks : List Key) (l : List D)
  | ins (c : Nat) (ns : List Str) (l : List D)
  | any (o : HO)
  | lk (z : Obj) (kvs : List (Key × V)) (ks : List Key) (l : List D)
  | nk (w : World) (p : Addr) (ks : List (NestedKey × D))
  | xd (ns : List Str) (l : List D)
abbrev Gm := List (Option D)
abbrev Om := List (Addr × OD)
def akeys (W : Om) : List Addr := W.map (·.1)
section
variable (F : FmKit) (T : Kx)
def OdAt (H : Hp) (x : Option HO) : OD → Prop
  | .lst l => ∃ xs, x = some (.lst xs) ∧ DenL F T H l xs
  | .dct ks l => ∃ kvs, x = some (.dK kvs) ∧ kvs.map (·.1) = ks ∧ ks.Nodup ∧ DenL F T H l (kvs.map (·.2))
  | .ins c ns l => ∃ dx fs, x = some (.ins (T.cl c) dx fs) ∧ fs.map (·.1) = ns ∧ DenL F T H l (fs.map (·.2))
  | .any o => x = some o
  | .lk z kvs ks l => x = some (.frz z (.dK kvs)) ∧ kvs.map (·.1) = ks ∧ ks.Nodup ∧ DenL F T H l (kvs.map (·.2))
  | .nk w p ks => ∃ as, x = some (NkO w p as) ∧ as.map (·.1) = ks.map (·.1) ∧ (ks.map (·.1)).Nodup ∧ (∀ z ∈ as, NkV T.K H z.1 (.ref z.2.1) ∧ z.1.depth ≤ 8) ∧ DenL F T H (ks.map (·.2)) (as.map (·.2.2))
  | .xd ns l => ∃ fs, x = some (.xd fs) ∧ fs.map (·.1) = ns ∧ DenL F T H l (fs.map (·.2))
/-- the slots -/
structure Lo (H : Hp) (G : Gm) (σ : St) : Prop where
  len : σ.length = G.length
  at_ : ∀ (i : Nat) (d : D), G[i]? = some (some d) → ∃ v, σ[i]? = some (some v) ∧ Den F T H d v
structure Ow (H C O : Hp) (W : Om) : Prop where
  nd : (akeys W).Nodup
  at_ : ∀ a od, (a, od) ∈ W → C a = none ∧ OdAt F T H (O a) od
/-- frozen H, owned O (the callers' part C of it), slots, owned cells -/
structure Wd (C : Hp) (G : Gm) (W : Om) (H O : Hp) (σ : St) : Prop where
  dis : Dis O H
  oc : Same C O
  loc : Lo F T H G σ
  own : Ow F T H C O W
/-- behind a step -/
structure Nx (C : Hp) (W : Om) (H H' O' : Hp) : Prop where
  ext : Same H H'
  dis : Dis O' H'
  oc : Same C O'
  own : Ow F T H' C O' W
end
section
variable {F : FmKit} {T : Kx} {H H' H1 C O O' : Hp} {G : Gm} {W W' : Om} {σ : St}
theorem OdAt.mono {x : Option HO} (e : Same H H') : ∀ {od : OD}, OdAt F T H x od → OdAt F T H' x od
  | .lst l, ⟨xs, h, k⟩ => ⟨xs, h, k.mono e⟩
  | .dct ks l, ⟨kvs, h, n, d, k⟩ => ⟨kvs, h, n, d, k.mono e⟩
  | .ins c ns l, ⟨dx, fs, h, n, k⟩ => ⟨dx, fs, h, n, k.mono e⟩
  | .any o, h => h
  | .lk z kvs ks l, ⟨h, n, d, k⟩ => ⟨h, n, d, k.mono e⟩
  | .nk w p ks, ⟨as, h, n, d, k, q⟩ => ⟨as, h, n, d, fun z hz => ⟨NkV.mono e _ _ (k z hz).1, (k z hz).2⟩, q.mono e⟩
  | .xd ns l, ⟨fs, h, n, k⟩ => ⟨fs, h, n, k.mono e⟩
theorem OdAt.some {x : Option HO} : ∀ {od : OD}, OdAt F T H x od → ∃ o, x = some o
  | .lst l, ⟨xs, h, k⟩ => ⟨_, h⟩
  | .dct ks l, ⟨kvs, h, n, d, k⟩ => ⟨_, h⟩
  | .ins c ns l, ⟨dx, fs, h, n, k⟩ => ⟨_, h⟩
  | .any o, h => ⟨_, h⟩
  | .lk z kvs ks l, ⟨h, n, d, k⟩ => ⟨_, h⟩
  | .nk w p ks, ⟨as, h, _⟩ => ⟨_, h⟩
  | .xd ns l, ⟨fs, h, n, k⟩ => ⟨_, h⟩
theorem Lo.mono (e : Same H H') (l : Lo F T H G σ) : Lo F T H' G σ :=
  ⟨l.len, fun i d h => let ⟨v, a, b⟩ := l.at_ i d h; ⟨v, a, b.mono e⟩⟩
theorem Lo.set {i : Nat} {d : D} {v : V} (l : Lo F T H G σ) (h : Den F T H d v) : Lo F T H (G.set i (some d)) (σ.set i (some v)) := by
  refine ⟨by rw [List.length_set, List.length_set]; exact l.len, fun j d' e => ?_⟩
  by_cases q : i = j
  · subst q
    have hi : i < G.length := by
      have := (List.getElem?_eq_some_iff.mp e).1
      rwa [List.length_set] at this
    rw [List.getElem?_set_self hi] at e
    have e : d = d' := Option.some.inj (Option.some.inj e)
    subst e
    exact ⟨v, by rw [List.getElem?_set_self (by rw [l.len]; exact hi)], h⟩
  · rw [List.getElem?_set_ne q] at e
    rw [List.getElem?_set_ne q]
    exact l.at_ j d' e
theorem Lo.forget {i : Nat} (l : Lo F T H G σ) (x : Option V) : Lo F T H (G.set i none) (σ.set i x) := by
  refine ⟨by rw [List.length_set, List.length_set]; exact l.len, fun j d' e => ?_⟩
  by_cases q : i = j
  · subst q
    have hi : i < G.length := by
      have := (List.getElem?_eq_some_iff.mp e).1
      rwa [List.length_set] at this
    rw [List.getElem?_set_self hi] at e
    cases e
  · rw [List.getElem?_set_ne q] at e
    rw [List.getElem?_set_ne q]
    exact l.at_ j d' e
theorem Ow.mono (e : Same H H') (o : Ow F T H C O W) : Ow F T H' C O W := ⟨o.nd, fun a od h => ⟨(o.at_ a od h).1, (o.at_ a od h).2.mono e⟩⟩
theorem Ow.notin {a : Addr} (o : Ow F T H C O W) (h : O a = none) : a ∉ akeys W := fun z => by
  obtain ⟨p, hp, e⟩ := List.mem_map.mp z
  obtain ⟨x, q⟩ := (o.at_ p.1 p.2 hp).2.some
  rw [e, h] at q
  cases q
theorem Nx.refl (d : Dis O H) (oc : Same C O) (o : Ow F T H C O W) : Nx F T C W H H O := ⟨Same.refl _, d, oc, o⟩
theorem Wd.nx (w : Wd F T C G W H O σ) : Nx F T C W H H O := ⟨Same.refl _, w.dis, w.oc, w.own⟩
theorem Nx.trans (a : Nx F T C W H H1 O) (b : Nx F T C W' H1 H' O') : Nx F T C W' H H' O' := ⟨a.ext.trans b.ext, b.dis, b.oc, b.own⟩
theorem Wd.step (w : Wd F T C G W H O σ) (n : Nx F T C W' H H' O') : Wd F T C G W' H' O' σ := ⟨n.dis, n.oc, w.loc.mono n.ext, n.own⟩
end
section
variable (F : FmKit) (T : Kx)
/-- te, at the slots G and the owned cells W, gives a d and leaves owned cells so that R -/
def Ev (te : TE) (G : Gm) (W : Om) (R : D → Om → Prop) : Prop :=
  ∀ (C H O : Hp) (σ : St), Wd F T C G W H O σ → ∀ Q : VK, (∀ d W' H' O' v, R d W' → Nx F T C W' H H' O' → Den F T H' d v → Q v (ov O' H')) → te σ (ov O H) Q
def EvT (t : TT) (G : Gm) (W : Om) (R : Bool → Om → Prop) : Prop :=
  ∀ (C H O : Hp) (σ : St), Wd F T C G W H O σ → ∀ Q : Bool → Hp → Prop, (∀ b W' H' O', R b W' → Nx F T C W' H H' O' → Q b (ov O' H')) → t σ (ov O H) Q
def EvA (ta : TA) (G : Gm) (W : Om) (R : List D → Om → Prop) : Prop :=
  ∀ (C H O : Hp) (σ : St), Wd F T C G W H O σ → ∀ Q : List V → Hp → Prop, (∀ ds W' H' O' vs, R ds W' → Nx F T C W' H H' O' → DenL F T H' ds vs → Q vs (ov O' H')) → ta σ (ov O H) Q
def EvO (to : TO) (G : Gm) (W : Om) (R : Option Int → Om → Prop) : Prop :=
  ∀ (C H O : Hp) (σ : St), Wd F T C G W H O σ → ∀ Q : Option Int → Hp → Prop, (∀ i W' H' O', R i W' → Nx F T C W' H H' O' → Q i (ov O' H')) → to σ (ov O H) Q
/-- an operation on two data -/
def Bo (r : R2) (d1 d2 : D) (W : Om) (R : D → Om → Prop) : Prop :=
  ∀ (C H O : Hp), Dis O H → Same C O → Ow F T H C O W → ∀ x y, Den F T H d1 x → Den F T H d2 y → ∀ Q : VK, (∀ d W' H' O' v, R d W' → Nx F T C W' H H' O' → Den F T H' d v → Q v (ov O' H')) → r x y (ov O H) Q
/-- a call on data -/
def Ca (r : List V → Hp → VK → Prop) (ds : List D) (W : Om) (R : D → Om → Prop) : Prop :=
  ∀ (C H O : Hp), Dis O H → Same C O → Ow F T H C O W → ∀ vs, DenL F T H ds vs → ∀ Q : VK, (∀ d W' H' O' v, R d W' → Nx F T C W' H H' O' → Den F T H' d v → Q v (ov O' H')) → r vs (ov O H) Q
structure En where
  nx : Gm → Om → Prop
  rt : D → Om → Prop
  bk : Gm → Om → Prop := fun _ _ => False
  ct : Gm → Om → Prop := fun _ _ => False
/-- the ends at heaps are met by the ends at data -/
structure EnOk (C H : Hp) (E : En) (B : Ends) : Prop where
  nx : ∀ G W H' O' σ', E.nx G W → Nx F T C W H H' O' → Lo F T H' G σ' → B.nx σ' (ov O' H')
  rt : ∀ d W H' O' v, E.rt d W → Nx F T C W H H' O' → Den F T H' d v → B.rt v (ov O' H')
  bk : ∀ G W H' O' σ', E.bk G W → Nx F T C W H H' O' → Lo F T H' G σ' → B.bk σ' (ov O' H')
  ct : ∀ G W H' O' σ', E.ct G W → Nx F T C W H H' O' → Lo F T H' G σ' → B.ct σ' (ov O' H')
def Sw (ts : TS) (G : Gm) (W : Om) (E : En) : Prop :=
  ∀ (C H O : Hp) (σ : St), Wd F T C G W H O σ → ∀ B : Ends, EnOk F T C H E B → ts B σ (ov O H)
/-- a target of names -/
def Tg (g : TG) (d : D) (G : Gm) (R : Gm → Prop) : Prop :=
  ∀ (H H1 : Hp) (σ : St) (v : V), Lo F T H G σ → Same H H1 → Den F T H d v → ∀ Q : St → Hp → Prop, (∀ G' σ', R G' → Lo F T H G' σ' → Q σ' H1) → g v σ H1 Q
/-- an iterator over data -/
def Wk (J : It) (H0 : Hp) (ds : List D) : Prop :=
  ∀ (i : Nat) (H O : Hp), Same H0 H → Dis O H →
    (∀ d, ds[i]? = some d → J.go i (ov O H) ∧ ∀ x H2, J.yld i (ov O H) x H2 → ∃ H', Same H H' ∧ Dis O H' ∧ H2 = ov O H' ∧ Den F T H' d x) ∧ (i = ds.length → J.stop i (ov O H))
def EvI (wi : TI) (G : Gm) (W : Om) (R : List D → Om → Prop) : Prop :=
  ∀ (C H O : Hp) (σ : St), Wd F T C G W H O σ → ∀ Q : It → Hp → Prop, (∀ J ds W' H' O', R ds W' → Nx F T C W' H H' O' → Wk F T J H' ds → Q J (ov O' H')) → wi σ (ov O H) Q
end
def E_ (post : D → Om → Prop) : En := { nx := fun _ W => post .non W, rt := post }
section
variable {F : FmKit} {T : Kx} {C H H' O O' : Hp} {G : Gm} {W W' : Om} {σ : St} {E E' : En} {B : Ends}
theorem EnOk.up (h : EnOk F T C H E B) (e : Same H H') : EnOk F T C H' E B :=
  ⟨fun G W H2 O' σ' a n l => h.nx G W H2 O' σ' a ⟨e.trans n.ext, n.dis, n.oc, n.own⟩ l, fun d W H2 O' v a n l => h.rt d W H2 O' v a ⟨e.trans n.ext, n.dis, n.oc, n.own⟩ l,
   fun G W H2 O' σ' a n l => h.bk G W H2 O' σ' a ⟨e.trans n.ext, n.dis, n.oc, n.own⟩ l, fun G W H2 O' σ' a n l => h.ct G W H2 O' σ' a ⟨e.trans n.ext, n.dis, n.oc, n.own⟩ l⟩
variable {te ta tb : TE} {t u : TT} {R R' : D → Om → Prop} {S S' : Bool → Om → Prop} {tr : TA} {ts tz : TS}
theorem Ev.imp (h : Ev F T te G W R) (i : ∀ d W', R d W' → R' d W') : Ev F T te G W R' := fun C H O σ w Q q => h C H O σ w Q fun d W' H' O' v r n k => q d W' H' O' v (i d W' r) n k
theorem EvT.imp (h : EvT F T t G W S) (i : ∀ b W', S b W' → S' b W') : EvT F T t G W S' := fun C H O σ w Q q => h C H O σ w Q fun d W' H' O' r n => q d W' H' O' (i d W' r) n
theorem Sw.imp (h : Sw F T ts G W E) (h1 : ∀ G W, E.nx G W → E'.nx G W) (h2 : ∀ d W, E.rt d W → E'.rt d W) (h3 : ∀ G W, E.bk G W → E'.bk G W) (h4 : ∀ G W, E.ct G W → E'.ct G W) : Sw F T ts G W E' :=
  fun C H O σ w B b => h C H O σ w B ⟨fun G W H' O' σ' a => b.nx G W H' O' σ' (h1 G W a), fun d W H' O' v a => b.rt d W H' O' v (h2 d W a), fun G W H' O' σ' a => b.bk G W H' O' σ' (h3 G W a), fun G W H' O' σ' a => b.ct G W H' O' σ' (h4 G W a)⟩
theorem ev_var {i : Nat} {d : D} (h : G[i]? = some (some d)) (r : R d W) : Ev F T (tVar i) G W R := fun C H O σ w Q q =>
  let ⟨v, e, k⟩ := w.loc.at_ i d h
  ⟨v, e, q d W H O v r w.nx k⟩
theorem ev_c {v : V} (r : R (.vl v) W) : Ev F T (tC v) G W R := fun C H O σ w Q q => q (.vl v) W H O v r w.nx rfl
theorem ev_op {r : R2} (h : Ev F T ta G W fun d1 W1 => Ev F T tb G W1 fun d2 W2 => Bo F T r d1 d2 W2 R) : Ev F T (tOp r ta tb) G W R := fun C H O σ w Q q =>
  h C H O σ w _ fun d1 W1 H1 O1 x h1 n1 k1 => h1 C H1 O1 σ (w.step n1) _ fun d2 W2 H2 O2 y h2 n2 k2 =>
    h2 C H2 O2 n2.dis n2.oc n2.own x y (k1.mono n2.ext) k2 Q fun d W' H' O' v rr n k => q d W' H' O' v rr ((n1.trans n2).trans n) k
theorem ev_cb {r : List V → Hp → VK → Prop} (h : EvA F T tr G W fun ds W1 => Ca F T r ds W1 R) : Ev F T (tCB r tr) G W R := fun C H O σ w Q q =>
  h C H O σ w _ fun ds W1 H1 O1 vs h1 n1 k1 => h1 C H1 O1 n1.dis n1.oc n1.own vs k1 Q fun d W' H' O' v rr n k => q d W' H' O' v rr (n1.trans n) k
theorem ea_nil {Z : List D → Om → Prop} (r : Z [] W) : EvA F T tNil G W Z := fun C H O σ w Q q => q [] W H O [] r w.nx rfl
theorem ea_cons {Z : List D → Om → Prop} (h : Ev F T ta G W fun d W1 => EvA F T tr G W1 fun ds W2 => Z (d :: ds) W2) : EvA F T (tCons ta tr) G W Z := fun C H O σ w Q q =>
  h C H O σ w _ fun d W1 H1 O1 x h1 n1 k1 => h1 C H1 O1 σ (w.step n1) _ fun ds W2 H2 O2 vs h2 n2 k2 => q (d :: ds) W2 H2 O2 (x :: vs) h2 (n1.trans n2) ⟨x, vs, rfl, k1.mono n2.ext, k2⟩
theorem et_test (h : Ev F T te G W fun d W1 => ∃ b, d = .bl b ∧ S b W1) : EvT F T (tTest te) G W S := fun C H O σ w Q q =>
  h C H O σ w _ fun d W1 H1 O1 x ⟨b, e, s⟩ n k => by
    subst e
    have k : x = .bl b := k
    exact ⟨b, k, q b W1 H1 O1 s n⟩
theorem et_B (h : Ev F T te G W fun d W1 => ∃ b, d = .bl b ∧ S b W1) : EvT F T (tB te) G W S := et_test h
theorem et_not (h : EvT F T t G W fun b W1 => S (!b) W1) : EvT F T (tNot t) G W S := fun C H O σ w Q q => h C H O σ w _ fun b W1 H1 O1 s n => q (!b) W1 H1 O1 s n
theorem et_and (h : EvT F T t G W fun b W1 => if b = true then EvT F T u G W1 S else S false W1) : EvT F T (tAnd t u) G W S := fun C H O σ w Q q =>
  h C H O σ w _ fun b W1 H1 O1 s n => by
    cases b with
    | true => exact s C H1 O1 σ (w.step n) _ fun b W2 H2 O2 s2 n2 => q b W2 H2 O2 s2 (n.trans n2)
    | false => exact q false W1 H1 O1 s n
theorem et_or (h : EvT F T t G W fun b W1 => if b = true then S true W1 else EvT F T u G W1 S) : EvT F T (tOr t u) G W S := fun C H O σ w Q q =>
  h C H O σ w _ fun b W1 H1 O1 s n => by
    cases b with
    | true => exact q true W1 H1 O1 s n
    | false => exact s C H1 O1 σ (w.step n) _ fun b W2 H2 O2 s2 n2 => q b W2 H2 O2 s2 (n.trans n2)
theorem ev_andV (h : Ev F T ta G W fun d W1 => ∃ b, d = .bl b ∧ if b = true then Ev F T tb G W1 R else R (.bl false) W1) : Ev F T (tAndV ta tb) G W R := fun C H O σ w Q q =>
  h C H O σ w _ fun d W1 H1 O1 x ⟨b, e, s⟩ n k => by
    subst e
    have k : x = .bl b := k
    refine ⟨b, k, ?_⟩
    cases b with
    | true => exact s C H1 O1 σ (w.step n) _ fun d W2 H2 O2 v s2 n2 k2 => q d W2 H2 O2 v s2 (n.trans n2) k2
    | false => exact q _ W1 H1 O1 _ s n rfl
theorem ev_orV (h : Ev F T ta G W fun d W1 => ∃ b, d = .bl b ∧ if b = true then R (.bl true) W1 else Ev F T tb G W1 R) : Ev F T (tOrV ta tb) G W R := fun C H O σ w Q q =>
  h C H O σ w _ fun d W1 H1 O1 x ⟨b, e, s⟩ n k => by
    subst e
    have k : x = .bl b := k
    refine ⟨b, k, ?_⟩
    cases b with
    | true => exact q _ W1 H1 O1 _ s n rfl
    | false => exact s C H1 O1 σ (w.step n) _ fun d W2 H2 O2 v s2 n2 k2 => q d W2 H2 O2 v s2 (n.trans n2) k2
theorem ev_notV (h : Ev F T ta G W fun d W1 => ∃ b, d = .bl b ∧ R (.bl (!b)) W1) : Ev F T (tNotV ta) G W R := fun C H O σ w Q q =>
  h C H O σ w _ fun d W1 H1 O1 x ⟨b, e, s⟩ n k => by
    subst e
    have k : x = .bl b := k
    exact ⟨b, k, q _ W1 H1 O1 _ s n rfl⟩
theorem ev_if (h : EvT F T t G W fun b W1 => if b = true then Ev F T ta G W1 R else Ev F T tb G W1 R) : Ev F T (tIf t ta tb) G W R := fun C H O σ w Q q =>
  h C H O σ w _ fun b W1 H1 O1 s n => by
    cases b with
    | true => exact s C H1 O1 σ (w.step n) _ fun d W2 H2 O2 v s2 n2 k2 => q d W2 H2 O2 v s2 (n.trans n2) k2
    | false => exact s C H1 O1 σ (w.step n) _ fun d W2 H2 O2 v s2 n2 k2 => q d W2 H2 O2 v s2 (n.trans n2) k2
theorem ev_isN (h : Ev F T ta G W fun d W1 => ∃ b, (∀ H v, Den F T H d v → decide (v = .non) = b) ∧ R (.bl b) W1) : Ev F T (tIsN ta) G W R := fun C H O σ w Q q =>
  h C H O σ w _ fun d W1 H1 O1 x ⟨b, e, s⟩ n k => by
    show Q (.bl (decide (x = .non))) _
    rw [e _ _ k]
    exact q _ W1 H1 O1 _ s n rfl
theorem op_sc {r : R2} {x y : V} (h : ∀ (H : Hp) (Q : VK), (∀ z, R (.vl z) W → Q z H) → r x y H Q) : Bo F T r (.vl x) (.vl y) W R := fun C H O dis oc own x' y' hx hy Q q => by
  have hx : x' = x := hx
  have hy : y' = y := hy
  subst hx hy
  exact h _ Q fun z rz => q (.vl z) W H O z rz (.refl dis oc own) rfl
theorem cl_sc {r : List V → Hp → VK → Prop} {xs : List V} (h : ∀ (H : Hp) (Q : VK), (∀ z, R (.vl z) W → Q z H) → r xs H Q) : Ca F T r (xs.map D.vl) W R := fun C H O dis oc own vs hv Q q => by
  have hv := DenL.vls_inv hv
  subst hv
  exact h _ Q fun z rz => q (.vl z) W H O z rz (.refl dis oc own) rfl
theorem sw_next (h : E.nx G W) : Sw F T tNext G W E := fun C H O σ w B b => b.nx G W H O σ h w.nx w.loc
theorem sw_brk (h : E.bk G W) : Sw F T tBreak G W E := fun C H O σ w B b => b.bk G W H O σ h w.nx w.loc
theorem sw_cont (h : E.ct G W) : Sw F T tCont G W E := fun C H O σ w B b => b.ct G W H O σ h w.nx w.loc
theorem sw_seq (h : Sw F T ts G W { E with nx := fun G' W' => Sw F T tz G' W' E }) : Sw F T (tSeq ts tz) G W E := fun C H O σ w B b =>
  h C H O σ w { B with nx := tz B } ⟨fun G' W' H' O' σ' a n l => a C H' O' σ' ⟨n.dis, n.oc, l, n.own⟩ B (b.up n.ext), b.rt, b.bk, b.ct⟩
theorem sw_drop (h : Ev F T te G W fun _ W' => E.nx G W') : Sw F T (tDrop te) G W E := fun C H O σ w B b =>
  h C H O σ w _ fun d W' H' O' v r n k => b.nx G W' H' O' σ r n (w.loc.mono n.ext)
theorem sw_ret (h : Ev F T te G W E.rt) : Sw F T (tRet te) G W E := fun C H O σ w B b =>
  h C H O σ w _ fun d W' H' O' v r n k => b.rt d W' H' O' v r n k
theorem sw_retN (h : E.rt .non W) : Sw F T tRetN G W E := fun C H O σ w B b => b.rt .non W H O .non h w.nx rfl
theorem sw_if (h : EvT F T t G W fun c W' => if c = true then Sw F T ts G W' E else Sw F T tz G W' E) : Sw F T (tIfS t ts tz) G W E := fun C H O σ w B b =>
  h C H O σ w _ fun c W' H' O' r n => by
    cases c with
    | true => exact r C H' O' σ (w.step n) B (b.up n.ext)
    | false => exact r C H' O' σ (w.step n) B (b.up n.ext)
theorem sw_set {i : Nat} (h : Ev F T te G W fun d W' => E.nx (G.set i (some d)) W') : Sw F T (tAsg te (gName i)) G W E := fun C H O σ w B b =>
  h C H O σ w _ fun d W' H' O' v r n k => b.nx _ W' H' O' _ r n ((w.loc.mono n.ext).set k)
theorem sw_par {i j : Nat} {ta : TA} (h : EvA F T ta G W fun ds W' => ∃ d1 d2, ds = [d1, d2] ∧ E.nx ((G.set i (some d1)).set j (some d2)) W') : Sw F T (tPar i j ta) G W E := fun C H O σ w B b =>
  h C H O σ w _ fun ds W' H' O' vs ⟨d1, d2, e, r⟩ n k => by
    subst e
    obtain ⟨v1, r1, e1, k1, v2, r2, e2, k2, e3⟩ := k
    have e3 : r2 = [] := e3
    subst e3 e2 e1
    exact ⟨v1, v2, rfl, b.nx _ W' H' O' _ r n (((w.loc.mono n.ext).set k1).set k2)⟩
theorem tg_name {i : Nat} {d : D} {Z : Gm → Prop} (h : Z (G.set i (some d))) : Tg F T (gName i) d G Z := fun H H1 σ v l _ k Q q => q _ _ h (l.set k)
theorem sw_for {wi : TI} {g : TG} (h : EvI F T wi G W fun ds W1 => ∃ I : Nat → Gm → Om → Prop, I 0 G W1 ∧
      (∀ i d G' W', ds[i]? = some d → I i G' W' → Tg F T g d G' fun G2 => Sw F T ts G2 W' { E with nx := I (i + 1), ct := I (i + 1), bk := E.nx }) ∧ (∀ G' W', I ds.length G' W' → E.nx G' W')) :
    Sw F T (tFor wi g ts) G W E := fun C H O σ w B b =>
  h C H O σ w _ fun J ds W1 H1 O1 ⟨I, i0, turn, fin⟩ n1 wk => by
    refine ⟨fun i m σ' X => m = ds.length - i ∧ i ≤ ds.length ∧ ∃ G' W' H' O', X = ov O' H' ∧ Nx F T C W' H1 H' O' ∧ Lo F T H' G' σ' ∧ I i G' W', ⟨ds.length, by simp, Nat.zero_le _, G, W1, H1, O1, rfl, ⟨Same.refl _, n1.dis, n1.oc, n1.own⟩, w.loc.mono n1.ext, i0⟩, ?_⟩
    rintro i m σ' X ⟨rfl, hi, G', W', H', O', rfl, n, l, ii⟩
    have k := wk i H' O' n.ext n.dis
    by_cases hlt : i < ds.length
    · obtain ⟨k1, k2⟩ := k.1 ds[i] (by simp [hlt])
      refine .inr ⟨k1, fun σ2 X2 => ∃ G2 W2 H2 O2, X2 = ov O2 H2 ∧ Nx F T C W2 H1 H2 O2 ∧ Lo F T H2 G2 σ2 ∧ I (i + 1) G2 W2, fun σ2 X2 ⟨G2, W2, H2, O2, e, n2, l2, i2⟩ => ⟨ds.length - (i + 1), by omega, rfl, hlt, G2, W2, H2, O2, e, n2, l2, i2⟩, fun x X2 y => ?_⟩
      obtain ⟨H2, s2, d2, rfl, kx⟩ := k2 x X2 y
      refine turn i ds[i] G' W' (by simp [hlt]) ii H2 _ σ' x (l.mono s2) d2.same kx _ fun G3 σ3 sw l3 => ?_
      refine sw C H2 O' σ3 ⟨d2, n.oc, l3, n.own.mono s2⟩ _ ⟨fun G4 W4 H4 O4 σ4 a n4 l4 => ⟨G4, W4, H4, O4, rfl, ⟨(n.ext.trans s2).trans n4.ext, n4.dis, n4.oc, n4.own⟩, l4, a⟩, ?_, ?_, fun G4 W4 H4 O4 σ4 a n4 l4 => ⟨G4, W4, H4, O4, rfl, ⟨(n.ext.trans s2).trans n4.ext, n4.dis, n4.oc, n4.own⟩, l4, a⟩⟩
      · exact fun d W4 H4 O4 v a n4 k4 => b.rt d W4 H4 O4 v a ⟨((n1.ext.trans n.ext).trans s2).trans n4.ext, n4.dis, n4.oc, n4.own⟩ k4
      · exact fun G4 W4 H4 O4 σ4 a n4 l4 => b.nx G4 W4 H4 O4 σ4 a ⟨((n1.ext.trans n.ext).trans s2).trans n4.ext, n4.dis, n4.oc, n4.own⟩ l4
    · have e : i = ds.length := by omega
      subst e
      exact .inl ⟨k.2 rfl, b.nx G' W' H' O' σ' (fin G' W' ii) ⟨n1.ext.trans n.ext, n.dis, n.oc, n.own⟩ l⟩
end
end N
set_option Elab.async false
set_option linter.all false
set_option maxRecDepth 100000
namespace N
open PySem L2
section
variable {F : FmKit} {T : Kx} {C H H' O O' : Hp} {G : Gm} {W W' : Om} {σ : St} {a p : Addr} {od : OD} {d : D} {l : List D}
theorem Ow.sub {W2 : Om} (o : Ow F T H C O W) (h : W2.Sublist W) : Ow F T H C O W2 := ⟨o.nd.sublist (h.map _), fun a od m => o.at_ a od (h.subset m)⟩
theorem Ow.perm {W2 : Om} (o : Ow F T H C O W) (h : W.Perm W2) : Ow F T H C O W2 := ⟨(h.map _).nodup_iff.mp o.nd, fun a od m => o.at_ a od (h.mem_iff.mpr m)⟩
theorem akeys_cons {x : Addr × OD} : akeys (x :: W) = x.1 :: akeys W := rfl
theorem mem_akeys {x : Addr × OD} (h : x ∈ W) : x.1 ∈ akeys W := List.mem_map.mpr ⟨x, h, rfl⟩
/-- a new owned cell -/
theorem Nx.newO {o : HO} (n : Nx F T C W H H' O') (hp : ov O' H' p = none) (h : OdAt F T H' (some o) od) : Nx F T C ((p, od) :: W) H H' (upd O' p o) ∧ upd (ov O' H') p o = ov (upd O' p o) H' ∧ p ∉ akeys W := by
  obtain ⟨h1, h2⟩ := ov_none hp
  have np := n.own.notin h1
  have cp : C p = none := by
    cases e : C p with
    | none => rfl
    | some x =>
      rw [n.oc p x e] at h1
      cases h1
  refine ⟨⟨n.ext, n.dis.updO h2, fun b x e => ?_, ⟨List.nodup_cons.mpr ⟨np, n.own.nd⟩, fun b ob m => ?_⟩⟩, ov_updO, np⟩
  · rw [upd_ne (ne_of_none e cp)]
    exact n.oc b x e
  · rcases List.mem_cons.mp m with e | m
    · obtain ⟨rfl, rfl⟩ := Prod.mk.inj e
      rw [upd_same]
      exact ⟨cp, h⟩
    · have : b ≠ p := fun q => np (q ▸ mem_akeys (x := (b, ob)) m)
      rw [upd_ne this]
      exact n.own.at_ b ob m
/-- a new frozen cell -/
theorem Nx.newF {o : HO} (n : Nx F T C W H H' O') (hp : ov O' H' p = none) : Nx F T C W H (upd H' p o) O' ∧ upd (ov O' H') p o = ov O' (upd H' p o) ∧ Same H' (upd H' p o) := by
  obtain ⟨h1, h2⟩ := ov_none hp
  have e := same_upd (o := o) h2
  exact ⟨⟨n.ext.trans e, n.dis.updH h1, n.oc, n.own.mono e⟩, ov_updH h1, e⟩
/-- an owned cell is written -/
theorem Nx.write {o : HO} {od2 : OD} {W1 W2 : Om} (n : Nx F T C (W1 ++ (p, od) :: W2) H H' O') (h : OdAt F T H' (some o) od2) : Nx F T C (W1 ++ (p, od2) :: W2) H H' (upd O' p o) ∧ upd (ov O' H') p o = ov (upd O' p o) H' := by
  have hm : (p, od) ∈ W1 ++ (p, od) :: W2 := by simp
  obtain ⟨cp, x⟩ := n.own.at_ p od hm
  obtain ⟨u, eu⟩ := x.some
  have nd := n.own.nd
  have ndk : (akeys (W1 ++ (p, od2) :: W2)) = akeys (W1 ++ (p, od) :: W2) := by simp [akeys]
  refine ⟨⟨n.ext, n.dis.updO (n.dis p u eu), fun b x e => ?_, ⟨by rw [ndk]; exact nd, fun b ob m => ?_⟩⟩, ov_updO⟩
  · rw [upd_ne (ne_of_none e cp)]
    exact n.oc b x e
  · by_cases q : b = p
    · subst q
      have : ob = od2 := by
        have nd2 : (akeys (W1 ++ (b, od2) :: W2)).Nodup := by rw [ndk]; exact nd
        have hu : ∀ (W : Om) (x y : OD), (akeys W).Nodup → (b, x) ∈ W → (b, y) ∈ W → x = y := by
          intro W
          induction W with
          | nil => intro x y _ h; simp at h
          | cons z W ih =>
            intro x y hn hx hy
            rw [akeys_cons, List.nodup_cons] at hn
            rcases List.mem_cons.mp hx with ex | hx
            · rcases List.mem_cons.mp hy with ey | hy
              · rw [← ex] at ey
                exact (Prod.mk.inj ey).2.symm
              · exact absurd (by rw [← ex]; exact mem_akeys (x := (b, y)) hy) hn.1
            · rcases List.mem_cons.mp hy with ey | hy
              · exact absurd (by rw [← ey]; exact mem_akeys (x := (b, x)) hx) hn.1
              · exact ih x y hn.2 hx hy
        exact hu _ ob od2 nd2 m (by simp)
      subst this
      rw [upd_same]
      exact ⟨cp, h⟩
    · rw [upd_ne q]
      refine n.own.at_ b ob ?_
      rcases List.mem_append.mp m with m | m
      · exact List.mem_append_left _ m
      · rcases List.mem_cons.mp m with e | m
        · exact absurd (Prod.mk.inj e).1 q
        · exact List.mem_append_right _ (List.mem_cons_of_mem _ m)
def partsD : Fm → List D
  | .at c => [.str ⟨#[c]⟩]
  | .no => []
  | .imp a b => [.fm a, .fm b]
  | .all a => [.fm a]
def AllsD (a : Addr) (f : Fm) : List D → List Fm → Prop
  | [], fs => fs = []
  | d :: ds, fs => ∃ g r, fs = g :: r ∧ (d = .fm g ∨ (d = .adr a ∧ g = f)) ∧ AllsD a f ds r
inductive Fzd (F : FmKit) (a : Addr) : OD → D → Prop
  | lst (l : List D) : Fzd F a (.lst l) (.lst l)
  | dct (ks : List Key) (l : List D) : Fzd F a (.dct ks l) (.dct ks l)
  | obj (c : Nat) (ns : List Str) (l : List D) : Fzd F a (.ins c ns l) (.obj c ns l)
  | fm (f : Fm) (al : List D) : AllsD a f al (F.alls f) → Fzd F a (.ins 0 fmNames [.str (F.kind f), .tup (partsD f), .int (F.many f), .int (F.deep f), .str (F.atoms f), .str (F.bare f), .str (F.spell f), .tup al]) (.fm f)
theorem parts_of {R : Addr → Fm → Prop} (hR : ∀ b g, FormAt F T H b g → R b g) : ∀ {f : Fm} {xs : List V}, DenL F T H (partsD f) xs → PartsR R f xs
  | .at c, xs, h => DenL.vls_inv (ws := [.str ⟨#[c]⟩]) h
  | .no, xs, h => h
  | .imp a b, xs, ⟨v, r, e, ⟨p, e1, h1⟩, u, s, e2, ⟨q, e3, h3⟩, e4⟩ => by
    have e4 : s = [] := e4
    subst e e1 e2 e3 e4
    exact ⟨p, q, rfl, hR _ _ h1, hR _ _ h3⟩
  | .all a, xs, ⟨v, r, e, ⟨p, e1, h1⟩, e2⟩ => by
    have e2 : r = [] := e2
    subst e e1 e2
    exact ⟨p, rfl, hR _ _ h1⟩
theorem alls_of {R : Addr → Fm → Prop} {f : Fm} (hR : ∀ b g, FormAt F T H b g → R b g) (ha : R a f) : ∀ {al : List D} {xs : List V} {fs : List Fm}, AllsD a f al fs → DenL F T H al xs → ∃ as : List Addr, xs = as.map V.ref ∧ AllR R as fs
  | [], xs, fs, h, k => ⟨[], k, h⟩
  | d :: ds, xs, fs, ⟨g, r, e, hd, ht⟩, ⟨v, rv, e1, k1, k2⟩ => by
    obtain ⟨as, e2, h2⟩ := alls_of hR ha ht k2
    subst e e1 e2
    rcases hd with hd | ⟨hd, hg⟩
    · subst hd
      obtain ⟨b, e3, h3⟩ := k1
      subst e3
      exact ⟨b :: as, rfl, g, r, rfl, hR _ _ h3, h2⟩
    · subst hd hg
      have k1 : v = .ref a := k1
      subst k1
      exact ⟨a :: as, rfl, g, r, rfl, ha, h2⟩
theorem lcons {α : Type} {n : α} {ns : List α} : ∀ {fs : List (α × V)}, fs.map (·.1) = n :: ns → ∃ v r, fs = (n, v) :: r ∧ r.map (·.1) = ns
  | [], h => by simp at h
  | (m, v) :: r, h => by
    rw [List.map_cons] at h
    injection h with h1 h2
    exact ⟨v, r, by rw [← h1], h2⟩
theorem Fzd.den (z : Fzd F a od d) (h : OdAt F T H (O a) od) (hn : H a = none) : ∃ o, O a = some o ∧ Den F T (upd H a o) d (.ref a) := by
  cases z with
  | lst l =>
    obtain ⟨xs, e, k⟩ := h
    exact ⟨_, e, a, xs, rfl, upd_same, k.mono (same_upd hn)⟩
  | dct ks l =>
    obtain ⟨kvs, e, h1, h2, k⟩ := h
    exact ⟨_, e, a, kvs, rfl, upd_same, h1, h2, k.mono (same_upd hn)⟩
  | obj c ns l =>
    obtain ⟨dx, fs, e, h1, k⟩ := h
    exact ⟨_, e, a, dx, fs, rfl, upd_same, h1, k.mono (same_upd hn)⟩
  | fm f al hal =>
    obtain ⟨dx, fs, e, h1, k⟩ := h
    refine ⟨_, e, a, rfl, ?_⟩
    obtain ⟨v1, r1, g1, w1⟩ := lcons h1
    subst g1
    obtain ⟨v2, r2, g2, w2⟩ := lcons w1
    subst g2
    obtain ⟨v3, r3, g3, w3⟩ := lcons w2
    subst g3
    obtain ⟨v4, r4, g4, w4⟩ := lcons w3
    subst g4
    obtain ⟨v5, r5, g5, w5⟩ := lcons w4
    subst g5
    obtain ⟨v6, r6, g6, w6⟩ := lcons w5
    subst g6
    obtain ⟨v7, r7, g7, w7⟩ := lcons w6
    subst g7
    obtain ⟨v8, r8, g8, w8⟩ := lcons w7
    subst g8
    have w9 : r8 = [] := List.map_eq_nil_iff.mp w8
    subst w9
    have k := k.mono (same_upd (o := .ins (T.cl 0) dx [("kind", v1), ("parts", v2), ("many", v3), ("deepest", v4), ("atoms", v5), ("bare", v6), ("spelled", v7), ("alls_known", v8)]) hn)
    obtain ⟨_, _, q1, k1, _, _, q2, k2, _, _, q3, k3, _, _, q4, k4, _, _, q5, k5, _, _, q6, k6, _, _, q7, k7, _, _, q8, k8, _⟩ := k
    simp only [List.map_cons, List.map_nil, List.cons.injEq] at q1 q2 q3 q4 q5 q6 q7 q8
    obtain ⟨rfl, rfl⟩ := q1
    obtain ⟨rfl, rfl⟩ := q2
    obtain ⟨rfl, rfl⟩ := q3
    obtain ⟨rfl, rfl⟩ := q4
    obtain ⟨rfl, rfl⟩ := q5
    obtain ⟨rfl, rfl⟩ := q6
    obtain ⟨rfl, rfl⟩ := q7
    obtain ⟨rfl, rfl⟩ := q8
    have k1 : v1 = .str (F.kind f) := k1
    obtain ⟨pa, ps, ep, hp, kp⟩ := k2
    have k3 : v3 = .int (F.many f) := k3
    have k4 : v4 = .int (F.deep f) := k4
    have k5 : v5 = .str (F.atoms f) := k5
    have k6 : v6 = .str (F.bare f) := k6
    have k7 : v7 = .str (F.spell f) := k7
    obtain ⟨aa, as, ea, ha, ka⟩ := k8
    subst k1 ep k3 k4 k5 k6 k7 ea
    obtain ⟨bs, eb, hb⟩ := alls_of (R := fun b g => FormAt F T (upd H a (.ins (T.cl 0) dx (fmFields F f pa aa))) b g ∨ (b = a ∧ g = f)) (fun b g x => .inl x) (.inr ⟨rfl, rfl⟩) hal ka
    subst eb
    exact FormAt.mk ⟨dx, pa, ps, aa, bs, upd_same, hp, parts_of (fun b g x => .inl x) kp, ha, hb⟩
/-- what may be taken in the place of d -/
def Fz (F : FmKit) (R : D → Om → Prop) : D → Om → Prop := fun d W => ∃ a od W2 d', d = .adr a ∧ W.Perm ((a, od) :: W2) ∧ Fzd F a od d' ∧ R d' W2
theorem Nx.freeze {W2 : Om} {d' : D} (n : Nx F T C W H H' O') (hp : W.Perm ((a, od) :: W2)) (z : Fzd F a od d') : ∃ o, O' a = some o ∧ Nx F T C W2 H (upd H' a o) (del O' a) ∧ ov O' H' = ov (del O' a) (upd H' a o) ∧ Den F T (upd H' a o) d' (.ref a) ∧ Same H' (upd H' a o) := by
  have ow := n.own.perm hp
  obtain ⟨ca, oa⟩ := ow.at_ a od (by simp)
  obtain ⟨u, eu⟩ := oa.some
  have hn : H' a = none := n.dis a u eu
  obtain ⟨o, eo, k⟩ := z.den (O := O') oa hn
  have e := same_upd (o := o) hn
  have nd := ow.nd
  rw [akeys_cons, List.nodup_cons] at nd
  refine ⟨o, eo, ⟨n.ext.trans e, n.dis.freeze, fun b x q => ?_, ⟨nd.2, fun b ob m => ?_⟩⟩, ov_freeze eo, k, e⟩
  · rw [del_ne (ne_of_none q ca)]
    exact n.oc b x q
  · have hb : b ≠ a := fun q => nd.1 (q ▸ mem_akeys (x := (b, ob)) m)
    rw [del_ne hb]
    obtain ⟨h1, h2⟩ := ow.at_ b ob (List.mem_cons_of_mem _ m)
    exact ⟨h1, h2.mono e⟩
end
section
variable {F : FmKit} {T : Kx} {C H H' O O' : Hp} {G : Gm} {W W' : Om} {σ : St} {a p : Addr} {od : OD} {d : D} {l : List D}
  {te ta tb : TE} {t u : TT} {R R' : D → Om → Prop} {S S' : Bool → Om → Prop} {tr : TA} {ts tz : TS} {E E' : En}
theorem ev_fz (h : Ev F T te G W (Fz F R)) : Ev F T te G W R := fun C H O σ w Q q => h C H O σ w Q fun d W' H' O' v ⟨a, od, W2, d', e, hp, z, r⟩ n k => by
  subst e
  have k : v = .ref a := k
  subst k
  obtain ⟨o, _, n2, eo, k2, _⟩ := n.freeze hp z
  rw [eo]
  exact q d' W2 _ _ _ r n2 k2
theorem ca_fz {r : List V → Hp → VK → Prop} {ds : List D} (h : Ca F T r ds W (Fz F R)) : Ca F T r ds W R := fun C H O di oc ow xs hx Q q => h C H O di oc ow xs hx Q fun d W' H' O' v ⟨a, od, W2, d', e, hp, z, r⟩ n k => by
  subst e
  have k : v = .ref a := k
  subst k
  obtain ⟨o, _, n2, eo, k2, _⟩ := n.freeze hp z
  rw [eo]
  exact q d' W2 _ _ _ r n2 k2
/-- a slot's owned cell is frozen -/
theorem sw_fz {i : Nat} {d' : D} {W2 : Om} (hi : G[i]? = some (some (.adr a))) (hp : W.Perm ((a, od) :: W2)) (z : Fzd F a od d') (h : Sw F T ts (G.set i (some d')) W2 E) : Sw F T ts G W E := fun C H O σ w B b => by
  obtain ⟨o, _, n2, eo, k2, e2⟩ := w.nx.freeze hp z
  obtain ⟨v, ev, kv⟩ := w.loc.at_ i _ hi
  have kv : v = .ref a := kv
  subst kv
  rw [eo]
  have l2 := (w.loc.mono e2).set (i := i) k2
  have es : σ.set i (some (.ref a)) = σ := by
    apply List.ext_getElem?
    intro j
    by_cases q : i = j
    · subst q
      have hl : i < σ.length := (List.getElem?_eq_some_iff.mp ev).1
      rw [List.getElem?_set_self hl, ev]
    · rw [List.getElem?_set_ne q]
  rw [es] at l2
  exact h C _ _ σ ⟨n2.dis, n2.oc, l2, n2.own⟩ B (b.up n2.ext)
theorem sw_drp {W2 : Om} (hs : W2.Sublist W) (h : Sw F T ts G W2 E) : Sw F T ts G W E := fun C H O σ w B b => h C H O σ ⟨w.dis, w.oc, w.loc, w.own.sub hs⟩ B b
theorem sw_perm {W2 : Om} (hs : W.Perm W2) (h : Sw F T ts G W2 E) : Sw F T ts G W E := fun C H O σ w B b => h C H O σ ⟨w.dis, w.oc, w.loc, w.own.perm hs⟩ B b
theorem ev_tup (h : EvA F T tr G W fun ds W1 => ds.length ≤ sizeLine ∧ R (.tup ds) W1) : Ev F T (tTup tr) G W R := fun C H O σ w Q q =>
  h C H O σ w _ fun ds W1 H1 O1 vs ⟨hl, r⟩ n k => ⟨by rw [k.len]; exact hl, fun p hp => by
    obtain ⟨n2, e, s⟩ := n.newF (o := .tup vs) hp
    rw [e]
    exact q (.tup ds) W1 _ _ _ r n2 ⟨p, vs, rfl, SqT.of upd_same, k.mono s⟩⟩
theorem ev_lst (h : EvA F T tr G W fun ds W1 => ds.length ≤ sizeLine ∧ ∀ p, p ∉ akeys W1 → R (.adr p) ((p, .lst ds) :: W1)) : Ev F T (tLst tr) G W R := fun C H O σ w Q q =>
  h C H O σ w _ fun ds W1 H1 O1 vs ⟨hl, r⟩ n k => ⟨by rw [k.len]; exact hl, fun p hp => by
    obtain ⟨n2, e, np⟩ := n.newO (od := .lst ds) (o := .lst vs) hp ⟨vs, rfl, k⟩
    rw [e]
    exact q (.adr p) _ _ _ _ (r p np) n2 rfl⟩
/-- .. frozen at once -/
theorem ev_lstF (h : EvA F T tr G W fun ds W1 => ds.length ≤ sizeLine ∧ R (.lst ds) W1) : Ev F T (tLst tr) G W R := fun C H O σ w Q q =>
  h C H O σ w _ fun ds W1 H1 O1 vs ⟨hl, r⟩ n k => ⟨by rw [k.len]; exact hl, fun p hp => by
    obtain ⟨n2, e, s⟩ := n.newF (o := .lst vs) hp
    rw [e]
    exact q (.lst ds) W1 _ _ _ r n2 ⟨p, vs, rfl, upd_same, k.mono s⟩⟩
/-- d is a list of l: frozen, or owned -/
def Vl (W : Om) (d : D) (l : List D) : Prop := (d = .lst l ∨ ∃ vs, d = .scr vs ∧ l = vs.map .vl) ∨ ∃ a, d = .adr a ∧ (a, .lst l) ∈ W
def Vs (W : Om) (d : D) (l : List D) : Prop := Vl W d l ∨ d = .tup l
theorem Vl.sq {x : V} (o : Ow F T H C O W) (di : Dis O H) (h : Vl W d l) (k : Den F T H d x) : ∃ a xs, x = .ref a ∧ SqL T.K (ov O H) a xs ∧ DenL F T H l xs := by
  rcases h with (rfl | ⟨vs, rfl, rfl⟩) | ⟨a, rfl, m⟩
  · obtain ⟨a, xs, e, hs, kl⟩ := k
    exact ⟨a, xs, e, SqL.of (di.same _ _ hs), kl⟩
  · obtain ⟨a, e, hs⟩ := k
    exact ⟨a, vs, e, di.same.seq hs, .vls vs⟩
  · obtain ⟨_, xs, e, kl⟩ := o.at_ a _ m
    exact ⟨a, xs, k, SqL.of (ov_own e), kl⟩
/-- a list that the program has made -/
def Vt (W : Om) (d : D) (l : List D) : Prop := d = .lst l ∨ ∃ a, d = .adr a ∧ (a, .lst l) ∈ W
theorem Vt.vl (h : Vt W d l) : Vl W d l := h.elim (fun h => .inl (.inl h)) .inr
theorem Vt.at {x : V} (o : Ow F T H C O W) (di : Dis O H) (h : Vt W d l) (k : Den F T H d x) : ∃ a xs, x = .ref a ∧ ov O H a = some (.lst xs) ∧ DenL F T H l xs := by
  rcases h with rfl | ⟨a, rfl, m⟩
  · obtain ⟨a, xs, e, hs, kl⟩ := k
    exact ⟨a, xs, e, di.same _ _ hs, kl⟩
  · obtain ⟨_, xs, e, kl⟩ := o.at_ a _ m
    exact ⟨a, xs, k, ov_own e, kl⟩
theorem Vs.sq {x : V} (o : Ow F T H C O W) (di : Dis O H) (h : Vs W d l) (k : Den F T H d x) : ∃ a xs, x = .ref a ∧ (SqL T.K (ov O H) a xs ∨ SqT T.K (ov O H) a xs) ∧ DenL F T H l xs := by
  rcases h with h | rfl
  · obtain ⟨a, xs, e, hs, kl⟩ := h.sq o di k
    exact ⟨a, xs, e, .inl hs, kl⟩
  · obtain ⟨a, xs, e, hs, kl⟩ := k
    exact ⟨a, xs, e, .inr (Same.sqT di.same hs), kl⟩
theorem ca_one {r : List V → Hp → VK → Prop} {d : D} (h : ∀ (C H O : Hp), Dis O H → Same C O → Ow F T H C O W → ∀ x, Den F T H d x → ∀ Q : VK, (∀ d W' H' O' v, R d W' → Nx F T C W' H H' O' → Den F T H' d v → Q v (ov O' H')) → r [x] (ov O H) Q) : Ca F T r [d] W R := fun C H O di oc ow vs k Q q => by
  obtain ⟨v, r', e, k1, e2⟩ := k
  have e2 : r' = [] := e2
  subst e e2
  exact h C H O di oc ow v k1 Q q
theorem ca_two {r : List V → Hp → VK → Prop} {d e : D} (h : ∀ (C H O : Hp), Dis O H → Same C O → Ow F T H C O W → ∀ x y, Den F T H d x → Den F T H e y → ∀ Q : VK, (∀ d W' H' O' v, R d W' → Nx F T C W' H H' O' → Den F T H' d v → Q v (ov O' H')) → r [x, y] (ov O H) Q) : Ca F T r [d, e] W R := fun C H O di oc ow vs k Q q => by
  obtain ⟨v, r', e1, k1, u, r2, e2, k2, e3⟩ := k
  have e3 : r2 = [] := e3
  subst e3 e2 e1
  exact h C H O di oc ow v u k1 k2 Q q
/-- len of a list or a tuple -/
theorem ca_len (hv : Vs W d l) (r : R (.int l.length) W) : Ca F T (fun xs H Q => ∃ x n, xs = [x] ∧ LenV T.K x H n ∧ Q (.int (n : Nat)) H) [d] W R := ca_one fun C H O di oc ow x k Q q => by
  obtain ⟨a, xs, e, hs, kl⟩ := hv.sq ow di k
  subst e
  refine ⟨_, xs.length, rfl, ?_, ?_⟩
  · exact hs.elim (fun h => .inl ⟨xs, h, rfl⟩) fun h => .inr ⟨xs, h, rfl⟩
  · rw [kl.len]
    exact q (.int l.length) W H O _ r (.refl di oc ow) rfl
theorem ca_lenS {s : Str} (hl : s.length ≤ sizeLine) (r : R (.int s.length) W) : Ca F T (fun xs H Q => ∃ x n, xs = [x] ∧ LenV T.K x H n ∧ Q (.int (n : Nat)) H) [.str s] W R := ca_one fun C H O di oc ow x k Q q => by
  have k : x = .str s := k
  subst k
  exact ⟨_, s.length, rfl, ⟨hl, rfl⟩, q (.int s.length) W H O _ r (.refl di oc ow) rfl⟩
/-- list(..) -/
theorem ca_list (hv : Vs W d l) (r : ∀ p, p ∉ akeys W → R (.adr p) ((p, .lst l) :: W)) : Ca F T (fun xs H Q => ∃ p ys, xs = [.ref p] ∧ (SqL T.K H p ys ∨ SqT T.K H p ys) ∧ ∀ q, H q = none → Q (.ref q) (upd H q (.lst ys))) [d] W R := ca_one fun C H O di oc ow x k Q q => by
  obtain ⟨a, xs, e, hs, kl⟩ := hv.sq ow di k
  subst e
  refine ⟨a, xs, rfl, hs, fun p hp => ?_⟩
  obtain ⟨n2, e, np⟩ := (Nx.refl di oc ow).newO (od := .lst l) (o := .lst xs) hp ⟨xs, rfl, kl⟩
  rw [e]
  exact q (.adr p) _ _ _ _ (r p np) n2 rfl
/-- tuple(list) -/
theorem ca_tup (hv : Vl W d l) (r : R (.tup l) W) : Ca F T (fun xs H Q => ∃ p ys, xs = [.ref p] ∧ ((SqL T.K H p ys ∧ ∀ q, H q = none → Q (.ref q) (upd H q (.tup ys))) ∨ (SqT T.K H p ys ∧ Q (.ref p) H))) [d] W R := ca_one fun C H O di oc ow x k Q q => by
  obtain ⟨a, xs, e, hs, kl⟩ := hv.sq ow di k
  subst e
  refine ⟨a, xs, rfl, .inl ⟨hs, fun p hp => ?_⟩⟩
  obtain ⟨n2, e, s⟩ := (Nx.refl di oc ow).newF (o := .tup xs) hp
  rw [e]
  exact q (.tup l) W _ _ _ r n2 ⟨p, xs, rfl, SqT.of upd_same, kl.mono s⟩
theorem atI_len {α β : Type} {xs : List α} {ys : List β} {i : Int} {y : β} (hl : xs.length = ys.length) (h : atI ys i = some y) : ∃ j : Nat, ys[j]? = some y ∧ ∀ x, xs[j]? = some x → atI xs i = some x := by
  unfold atI at h ⊢
  rw [hl]
  cases e : ixN ys.length i with
  | none =>
    rw [e] at h
    cases h
  | some j =>
    rw [e] at h
    exact ⟨j, h, fun x hx => hx⟩
theorem DenL.atI {l : List D} {xs : List V} {i : Int} {d : D} (k : DenL F T H l xs) (h : atI l i = some d) : ∃ v, L2.atI xs i = some v ∧ Den F T H d v := by
  obtain ⟨j, hj, f⟩ := atI_len (xs := xs) k.len h
  obtain ⟨v, hv, kv⟩ := k.get hj
  exact ⟨v, f v hv, kv⟩
theorem bo_ixL {i : Int} {z : D} (hv : Vl W d l) (hi : atI l i = some z) (r : R z W) : Bo F T (rIxL T.K) d (.int i) W R := fun C H O di oc ow x y hx hy Q q => by
  obtain ⟨a, xs, e, hs, kl⟩ := hv.sq ow di hx
  have hy : y = .int i := hy
  obtain ⟨v, ev, kv⟩ := kl.atI hi
  subst e hy
  exact ⟨a, xs, i, v, rfl, rfl, hs, ev, q z W H O v r (.refl di oc ow) kv⟩
theorem bo_ixT {i : Int} {z : D} (hi : atI l i = some z) (r : R z W) : Bo F T (rIxT T.K) (.tup l) (.int i) W R := fun C H O di oc ow x y hx hy Q q => by
  obtain ⟨a, xs, e, hs, kl⟩ := hx
  have hy : y = .int i := hy
  obtain ⟨v, ev, kv⟩ := kl.atI hi
  subst e hy
  exact ⟨a, xs, i, v, rfl, rfl, Same.sqT di.same hs, ev, q z W H O v r (.refl di oc ow) kv⟩
theorem ev_bm {Ty : String} {r : V → List V → Hp → VK → Prop} {to : TE}
    (h : Ev F T to G W fun d W1 => (∀ (C H O : Hp), Dis O H → Same C O → Ow F T H C O W1 → ∀ x, Den F T H d x → tyV T.K Ty x (ov O H)) ∧ EvA F T tr G W1 fun ds W2 =>
      ∀ (C H O : Hp), Dis O H → Same C O → Ow F T H C O W2 → ∀ x vs, Den F T H d x → DenL F T H ds vs → ∀ Q : VK, (∀ d W' H' O' v, R d W' → Nx F T C W' H H' O' → Den F T H' d v → Q v (ov O' H')) → r x vs (ov O H) Q) : Ev F T (tBM T.K Ty r to tr) G W R := fun C H O σ w Q q =>
  h C H O σ w _ fun d W1 H1 O1 x ⟨ht, ha⟩ n1 k1 => ⟨ht C H1 O1 n1.dis n1.oc n1.own x k1, ha C H1 O1 σ (w.step n1) _ fun ds W2 H2 O2 vs r2 n2 k2 =>
    r2 C H2 O2 n2.dis n2.oc n2.own x vs (k1.mono n2.ext) k2 Q fun d W' H' O' v rr n k => q d W' H' O' v rr ((n1.trans n2).trans n) k⟩
theorem ev_bm0 {Ty : String} {r : V → List V → Hp → VK → Prop} {to : TE}
    (h : Ev F T to G W fun d W1 => ∀ (C H O : Hp), Dis O H → Same C O → Ow F T H C O W1 → ∀ x, Den F T H d x → tyV T.K Ty x (ov O H) ∧
      ∀ Q : VK, (∀ d W' H' O' v, R d W' → Nx F T C W' H H' O' → Den F T H' d v → Q v (ov O' H')) → r x [] (ov O H) Q) : Ev F T (tBM0 T.K Ty r to) G W R := fun C H O σ w Q q =>
  h C H O σ w _ fun d W1 H1 O1 x r1 n1 k1 => let ⟨ht, r2⟩ := r1 C H1 O1 n1.dis n1.oc n1.own x k1
    ⟨ht, r2 Q fun d W' H' O' v rr n k => q d W' H' O' v rr (n1.trans n) k⟩
theorem own_lst {W1 W2 : Om} (ow : Ow F T H C O (W1 ++ (a, .lst l) :: W2)) : ∃ xs, O a = some (.lst xs) ∧ DenL F T H l xs := (ow.at_ a (.lst l) (by simp)).2
/-- l.append(e) -/
theorem ev_append {to : TE} (h : Ev F T to G W fun d W0 => ∃ a l0 W01 W02, d = .adr a ∧ W0 = W01 ++ (a, .lst l0) :: W02 ∧ EvA F T tr G W0 fun ds W' => ∃ l W1 W2 z, W' = W1 ++ (a, .lst l) :: W2 ∧ ds = [z] ∧ l.length < sizeLine ∧ R .non (W1 ++ (a, .lst (l ++ [z])) :: W2)) :
    Ev F T (tBM T.K "list" rAppend to tr) G W R := ev_bm (h.imp fun d W0 ⟨a, l0, W01, W02, e1, e2, ha⟩ => by
  subst e1
  refine ⟨fun C H O di oc ow x kx => ?_, ?_⟩
  · have kx : x = .ref a := kx
    subst kx e2
    obtain ⟨xs, e, _⟩ := own_lst ow
    exact .inl ⟨rfl, xs, SqL.of (ov_own e)⟩
  · refine fun C H O σ w Q q => ha C H O σ w Q fun ds W' H' O' vs ⟨l, W1, W2, z, e3, e4, hl, r⟩ n k => q ds W' H' O' vs ?_ n k
    subst e3 e4
    intro C H O di oc ow x vs kx kv Q q
    have kx : x = .ref a := kx
    obtain ⟨v, r', ev, k1, er⟩ := kv
    have er : r' = [] := er
    subst kx ev er
    obtain ⟨xs, e, kl⟩ := own_lst ow
    refine ⟨a, xs, v, rfl, rfl, ov_own e, by rw [kl.len]; exact hl, ?_⟩
    obtain ⟨n2, e2⟩ := (Nx.refl di oc ow).write (o := .lst (xs ++ [v])) (od2 := .lst (l ++ [z])) ⟨_, rfl, kl.app (.one k1)⟩
    rw [e2]
    exact q .non _ _ _ _ r n2 rfl)
/-- l.pop() -/
theorem ev_pop {to : TE} (h : Ev F T to G W fun d W0 => ∃ a l W1 W2 z, d = .adr a ∧ W0 = W1 ++ (a, .lst (l ++ [z])) :: W2 ∧ R z (W1 ++ (a, .lst l) :: W2)) : Ev F T (tBM0 T.K "list" rPop to) G W R :=
  ev_bm0 (h.imp fun d W0 ⟨a, l, W1, W2, z, e1, e2, r⟩ => by
    subst e1 e2
    intro C H O di oc ow x kx
    have kx : x = .ref a := kx
    subst kx
    obtain ⟨xs, e, kl⟩ := own_lst ow
    refine ⟨.inl ⟨rfl, xs, SqL.of (ov_own e)⟩, fun Q q => ?_⟩
    obtain ⟨us, ws, e3, k1, k2⟩ := kl.app_inv
    obtain ⟨v, r', ev, kv, er⟩ := k2
    have er : r' = [] := er
    subst er ev e3
    refine ⟨a, _, v, rfl, rfl, ov_own e, by simp, ?_⟩
    rw [List.dropLast_concat]
    obtain ⟨n2, e2⟩ := (Nx.refl di oc ow).write (o := .lst us) (od2 := .lst l) ⟨_, rfl, k1⟩
    rw [e2]
    exact q z _ _ _ _ r n2 kv)
/-- l[i] = e -/
theorem sw_setL {to ti : TE} (h : Ev F T te G W fun z W1 => Ev F T to G W1 fun d W2 => Ev F T ti G W2 fun i W3 => ∃ a l j k Wa Wb, d = .adr a ∧ i = .int k ∧ W3 = Wa ++ (a, .lst l) :: Wb ∧ ixN l.length k = some j ∧ E.nx G (Wa ++ (a, .lst (l.set j z)) :: Wb)) :
    Sw F T (tAsg te (gSub to ti rSetL)) G W E := fun C H O σ w B b =>
  h C H O σ w _ fun z W1 H1 O1 v h1 n1 k1 => h1 C H1 O1 σ (w.step n1) _ fun d W2 H2 O2 x h2 n2 k2 => h2 C H2 O2 σ ((w.step n1).step n2) _ fun i W3 H3 O3 y ⟨a, l, j, k, Wa, Wb, e1, e2, e3, hj, r⟩ n3 k3 => by
    subst e1 e2 e3
    have k2 : x = .ref a := k2
    have k3 : y = .int k := k3
    subst k2 k3
    obtain ⟨xs, e, kl⟩ := own_lst n3.own
    refine ⟨a, xs, k, j, rfl, rfl, ov_own e, by rw [kl.len]; exact hj, ?_⟩
    have nn := (n1.trans n2).trans n3
    obtain ⟨n4, e4⟩ := nn.write (o := .lst (xs.set j v)) (od2 := .lst (l.set j z)) ⟨_, rfl, kl.set ((k1.mono n2.ext).mono n3.ext)⟩
    rw [e4]
    exact b.nx _ _ _ _ _ r n4 (w.loc.mono nn.ext)
theorem ei_list {tl : TE} {Z : List D → Om → Prop} (h : Ev F T tl G W fun d W1 => ∃ l, d = .lst l ∧ Z l W1) : EvI F T (iList T.K tl) G W Z := fun C H O σ w Q q =>
  h C H O σ w _ fun d W1 H1 O1 x ⟨l, e, z⟩ n k => by
    subst e
    obtain ⟨a, xs, ea, hs, kl⟩ := k
    subst ea
    have hs : SqL T.K H1 a xs := SqL.of hs
    refine ⟨a, rfl, ⟨xs, n.dis.same.seq hs⟩, q _ l W1 H1 O1 z n fun i H2 O2 s di => ⟨fun d hd => ?_, fun e => ⟨xs, di.same.seq (s.seq hs), by rw [kl.len, e]; exact Nat.le_refl _⟩⟩⟩
    obtain ⟨v, hv, kv⟩ := kl.get hd
    have hq : SqL T.K (ov O2 H2) a xs := di.same.seq (s.seq hs)
    refine ⟨⟨xs, v, hq, hv⟩, fun x X ⟨e, y⟩ => ⟨H2, Same.refl _, di, e, ?_⟩⟩
    have := y xs hq
    rw [hv] at this
    cases this
    exact kv.mono s
theorem ei_tup {tl : TE} {Z : List D → Om → Prop} (h : Ev F T tl G W fun d W1 => ∃ l, d = .tup l ∧ Z l W1) : EvI F T (iTup T.K tl) G W Z := fun C H O σ w Q q =>
  h C H O σ w _ fun d W1 H1 O1 x ⟨l, e, z⟩ n k => by
    subst e
    obtain ⟨a, xs, ea, hs, kl⟩ := k
    subst ea
    refine ⟨a, rfl, ⟨xs, Same.sqT n.dis.same hs⟩, q _ l W1 H1 O1 z n fun i H2 O2 s di => ⟨fun d hd => ?_, fun e => ⟨xs, Same.sqT di.same (Same.sqT s hs), by rw [kl.len, e]; exact Nat.le_refl _⟩⟩⟩
    obtain ⟨v, hv, kv⟩ := kl.get hd
    have hq : SqT T.K (ov O2 H2) a xs := Same.sqT di.same (Same.sqT s hs)
    refine ⟨⟨xs, v, hq, hv⟩, fun x X ⟨e, y⟩ => ⟨H2, Same.refl _, di, e, ?_⟩⟩
    have := y xs hq
    rw [hv] at this
    cases this
    exact kv.mono s
def rng (lo : Int) (n : Nat) : List D := (List.range n).map fun k => .int (lo + (k : Nat))
theorem rng_len (lo : Int) (n : Nat) : (rng lo n).length = n := by simp [rng]
theorem rng_get {lo : Int} {n i : Nat} {d : D} (h : (rng lo n)[i]? = some d) : i < n ∧ d = .int (lo + (i : Nat)) := by
  have hi : i < (rng lo n).length := (List.getElem?_eq_some_iff.mp h).1
  rw [rng_len] at hi
  refine ⟨hi, ?_⟩
  unfold rng at h
  rw [List.getElem?_map, List.getElem?_range hi] at h
  exact (Option.some.inj h).symm
theorem wk_rng {lo : Int} {n : Nat} : Wk F T (Itr lo n) H (rng lo n) := fun i H2 O2 s di => ⟨fun d hd => by
  obtain ⟨hi, e⟩ := rng_get hd
  subst e
  exact ⟨hi, fun x X ⟨e1, e2⟩ => ⟨H2, Same.refl _, di, e1, e2⟩⟩, fun e => by
  rw [rng_len] at e
  show n ≤ i
  omega⟩
theorem ei_rng1 {Z : List D → Om → Prop} (h : EvA F T tr G W fun ds W1 => ∃ j : Int, ds = [.int j] ∧ -(2 ^ 62) ≤ j ∧ j < 2 ^ 62 ∧ Z (rng 0 j.toNat) W1) : EvI F T (iRng1 tr) G W Z := fun C H O σ w Q q =>
  h C H O σ w _ fun ds W1 H1 O1 vs ⟨j, e, h1, h2, z⟩ n k => by
    subst e
    have k := DenL.vls_inv (ws := [.int j]) k
    subst k
    exact ⟨j, rfl, h1, h2, q _ _ W1 H1 O1 z n wk_rng⟩
end
end N
set_option Elab.async false
set_option linter.all false
set_option maxRecDepth 100000
namespace N
open PySem L2
/-- a promise: data of the arguments, owned cells handed in, what is wanted behind -/
abbrev FS := List D → Om → (D → Om → Prop) → Prop
section
variable (F : FmKit) (T : Kx)
def spN (S : FS) : Sp := fun vs X Q _ => ∃ (ds : List D) (W : Om) (C H O : Hp) (post : D → Om → Prop), X = ov O H ∧ Dis O H ∧ Same C O ∧ Ow F T H C O W ∧ DenL F T H ds vs ∧ S ds W post ∧
  ∀ d W' H' O' v, post d W' → Nx F T C W' H H' O' → Den F T H' d v → Q v (ov O' H')
end
section
variable {F : FmKit} {T : Kx} {C H H' O O' : Hp} {G : Gm} {W W' : Om} {σ : St} {a p : Addr} {od : OD} {d : D} {l : List D}
  {te ta tb : TE} {t u : TT} {R R' : D → Om → Prop} {Z : Bool → Om → Prop} {tr tk : TA} {ts tz : TS} {E : XK} {En1 : En} {S : FS}
/-- a part of what is owned is handed in, the rest stands behind -/
theorem run_sp {ds : List D} {vs : List V} {Wc Wf : Om} {Q : VK} (di : Dis O H) (oc : Same C O) (ow : Ow F T H C O (Wc ++ Wf)) (k : DenL F T H ds vs) (h : S ds Wc fun d W' => R d (W' ++ Wf))
    (q : ∀ d W' H' O' v, R d W' → Nx F T C W' H H' O' → Den F T H' d v → Q v (ov O' H')) : spN F T S vs (ov O H) Q E := by
  have nd := ow.nd
  have nd2 : (akeys Wc ++ akeys Wf).Nodup := by
    have e : akeys (Wc ++ Wf) = akeys Wc ++ akeys Wf := by simp [akeys]
    rw [← e]
    exact nd
  rw [List.nodup_append] at nd2
  obtain ⟨ndc, ndf, dj⟩ := nd2
  have inF : ∀ b, b ∈ akeys Wf → ∃ od, (b, od) ∈ Wf := fun b hb => by
    obtain ⟨x, hx, e⟩ := List.mem_map.mp hb
    exact ⟨x.2, by rw [← e]; exact hx⟩
  have atF : ∀ b od, (b, od) ∈ Wf → C b = none ∧ OdAt F T H (O b) od := fun b od m => ow.at_ b od (List.mem_append_right _ m)
  refine ⟨ds, Wc, fun b => if b ∈ akeys Wf then O b else C b, H, O, _, rfl, di, fun b o e => ?_, ⟨ndc, fun a od m => ?_⟩, k, h, fun d W' H' O' v r n kd => q d (W' ++ Wf) H' O' v r ⟨n.ext, n.dis, fun b o e => ?_, ⟨?_, fun a od m => ?_⟩⟩ kd⟩
  · by_cases hb : b ∈ akeys Wf
    · simp only [if_pos hb] at e
      exact e
    · simp only [if_neg hb] at e
      exact oc b o e
  · have hn : a ∉ akeys Wf := fun z => dj a (mem_akeys m) a z rfl
    rw [if_neg hn]
    exact ow.at_ a od (List.mem_append_left _ m)
  · refine n.oc b o ?_
    by_cases hb : b ∈ akeys Wf
    · obtain ⟨od, m⟩ := inF b hb
      rw [(atF b od m).1] at e
      cases e
    · rw [if_neg hb]
      exact e
  · have e : akeys (W' ++ Wf) = akeys W' ++ akeys Wf := by simp [akeys]
    rw [e, List.nodup_append]
    refine ⟨n.own.nd, ndf, fun x hx y hy exy => ?_⟩
    subst exy
    obtain ⟨z, hz, ez⟩ := List.mem_map.mp hx
    have h1 := (n.own.at_ z.1 z.2 hz).1
    rw [ez, if_pos hy] at h1
    obtain ⟨od, m⟩ := inF _ hy
    obtain ⟨o, eo⟩ := (atF _ od m).2.some
    rw [h1] at eo
    cases eo
  · rcases List.mem_append.mp m with m | m
    · obtain ⟨h1, h2⟩ := n.own.at_ a od m
      refine ⟨?_, h2⟩
      by_cases hb : a ∈ akeys Wf
      · obtain ⟨od', m'⟩ := inF a hb
        exact (atF a od' m').1
      · rw [if_neg hb] at h1
        exact h1
    · obtain ⟨h1, h2⟩ := atF a od m
      obtain ⟨o, eo⟩ := h2.some
      have e2 : O' a = some o := n.oc a o (by rw [if_pos (mem_akeys (x := (a, od)) m)]; exact eo)
      rw [eo] at h2
      rw [e2]
      exact ⟨h1, h2.mono n.ext⟩
/-- what a call asks: the part of the owned cells that is handed in, the promise -/
def Hand (S : FS) (ds : List D) (W : Om) (R : D → Om → Prop) : Prop := ∃ Wc Wf, W.Perm (Wc ++ Wf) ∧ S ds Wc fun d W' => R d (W' ++ Wf)
theorem hand0 {ds : List D} (h : S ds [] fun d W' => R d (W' ++ W)) : Hand S ds W R := ⟨[], W, List.Perm.refl _, h⟩
theorem handA {ds : List D} (h : S ds W R) : Hand S ds W R := ⟨W, [], by rw [List.append_nil], by simpa only [List.append_nil] using h⟩
theorem Hand.run {ds : List D} {vs : List V} {Q : VK} (h : Hand S ds W R) (di : Dis O H) (oc : Same C O) (ow : Ow F T H C O W) (k : DenL F T H ds vs) (q : ∀ d W' H' O' v, R d W' → Nx F T C W' H H' O' → Den F T H' d v → Q v (ov O' H')) :
    spN F T S vs (ov O H) Q E := by
  obtain ⟨Wc, Wf, hp, hs⟩ := h
  exact run_sp di oc (ow.perm hp) k hs q
theorem ev_call {dvs : List V} (h : EvA F T tr G W fun ds W1 => Hand S (ds ++ dvs.map D.vl) W1 R) : Ev F T (tCall (spN F T S) dvs E tr) G W R := fun C H O σ w Q q =>
  h C H O σ w _ fun ds W1 H1 O1 vs h1 n k => h1.run n.dis n.oc n.own (k.app (.vls dvs)) fun d W' H' O' v r n2 kd => q d W' H' O' v r (n.trans n2) kd
def fmVals (F : FmKit) (f : Fm) : List D := [.str (F.kind f), .tup (partsD f), .int (F.many f), .int (F.deep f), .str (F.atoms f), .str (F.bare f), .str (F.spell f), .tup ((F.alls f).map .fm)]
inductive Inst (F : FmKit) (W : Om) : D → Nat → List Str → List D → Prop
  | fm (f : Fm) : Inst F W (.fm f) 0 fmNames (fmVals F f)
  | obj (c : Nat) (ns : List Str) (l : List D) : Inst F W (.obj c ns l) c ns l
  | own (a : Addr) (c : Nat) (ns : List Str) (l : List D) : (a, .ins c ns l) ∈ W → Inst F W (.adr a) c ns l
theorem parts_den : ∀ {f : Fm} {ps : List V}, PartsR (FormAt F T H) f ps → DenL F T H (partsD f) ps
  | .at c, _, h => by
    have h : _ = _ := h
    subst h
    exact .one rfl
  | .no, _, h => h
  | .imp a b, _, ⟨p, q, e, h1, h2⟩ => by
    subst e
    exact ⟨_, _, rfl, ⟨p, rfl, h1⟩, .one ⟨q, rfl, h2⟩⟩
  | .all a, _, ⟨p, e, h1⟩ => by
    subst e
    exact .one ⟨p, rfl, h1⟩
theorem alls_den : ∀ {as : List Addr} {fs : List Fm}, AllR (FormAt F T H) as fs → DenL F T H (fs.map .fm) (as.map V.ref)
  | [], _, h => by
    have h : _ = _ := h
    subst h
    rfl
  | a :: as, _, ⟨f, r, e, h1, h2⟩ => by
    subst e
    exact ⟨_, _, rfl, ⟨a, rfl, h1⟩, alls_den h2⟩
theorem Inst.at {c : Nat} {ns : List Str} {x : V} (i : Inst F W d c ns l) (di : Dis O H) (ow : Ow F T H C O W) (k : Den F T H d x) : ∃ a dx fs, x = .ref a ∧ ov O H a = some (.ins (T.cl c) dx fs) ∧ fs.map (·.1) = ns ∧ DenL F T H l (fs.map (·.2)) := by
  cases i with
  | fm f =>
    obtain ⟨a, e, fa⟩ := k
    obtain ⟨dx, pa, ps, al, as, h1, h2, h3, h4, h5⟩ := fa.out
    exact ⟨a, dx, _, e, di.same _ _ h1, rfl, _, _, rfl, rfl, _, _, rfl, ⟨pa, ps, rfl, h2, parts_den h3⟩, _, _, rfl, rfl, _, _, rfl, rfl, _, _, rfl, rfl, _, _, rfl, rfl, _, _, rfl, rfl, _, _, rfl, ⟨al, _, rfl, h4, alls_den h5⟩, rfl⟩
  | obj c ns l =>
    obtain ⟨a, dx, fs, e, h1, h2, h3⟩ := k
    exact ⟨a, dx, fs, e, di.same _ _ h1, h2, h3⟩
  | own a c ns l m =>
    obtain ⟨_, dx, fs, h1, h2, h3⟩ := ow.at_ a _ m
    exact ⟨a, dx, fs, k, ov_own h1, h2, h3⟩
theorem look_zip : ∀ {fs : List (Str × V)} {l : List D} {n : Str} {z : D}, DenL F T H l (fs.map (·.2)) → ((fs.map (·.1)).zip l).lookup n = some z → ∃ v, fs.lookup n = some v ∧ Den F T H z v
  | [], l, n, z, _, e => by simp at e
  | (m, v) :: fs, [], n, z, k, e => by simp at e
  | (m, v) :: fs, d :: l, n, z, ⟨w, r, e1, k1, k2⟩, e => by
    rw [List.map_cons] at e1
    obtain ⟨rfl, rfl⟩ := List.cons.inj e1
    rw [List.map_cons, List.zip_cons_cons, List.lookup_cons] at e
    rw [List.lookup_cons]
    cases q : n == m with
    | true =>
      rw [q] at e
      have e : d = z := Option.some.inj e
      subst e
      exact ⟨v, rfl, k1⟩
    | false =>
      rw [q] at e
      exact look_zip k2 e
theorem look_none : ∀ {fs : List (Str × V)} {n : Str}, n ∉ fs.map (·.1) → fs.lookup n = none
  | [], _, _ => rfl
  | (m, v) :: fs, n, h => by
    rw [List.map_cons, List.mem_cons, not_or] at h
    rw [List.lookup_cons, beq_eq_false_iff_ne.mpr h.1]
    exact look_none h.2
/-- o.f -/
theorem ev_fld {n : Str} (h : Ev F T ta G W fun d W1 => ∃ c ns l z, Inst F W1 d c ns l ∧ Cls T.K (T.cl c) ∧ NoAttr T.K (T.cl c) n ∧ (ns.zip l).lookup n = some z ∧ R z W1) : Ev F T (tFld T.K ta n) G W R := fun C H O σ w Q q =>
  h C H O σ w _ fun d W1 H1 O1 x ⟨c, ns, l, z, i, hc, hn, hl, r⟩ n1 k => by
    obtain ⟨a, dx, fs, e, h1, h2, h3⟩ := i.at n1.dis n1.own k
    subst h2
    obtain ⟨v, hv, kv⟩ := look_zip h3 hl
    exact ⟨a, _, dx, fs, v, e, h1, hc, hn, hv, q z W1 H1 O1 v r n1 kv⟩
/-- o.m(..) -/
theorem ev_meth {c : Nat} {m : Str} {dvs : List V} (h : Ev F T ta G W fun d W1 => ∃ ns l, Inst F W1 d c ns l ∧ m ∉ ns ∧ EvA F T tr G W1 fun ds W2 => Hand S (d :: (ds ++ dvs.map D.vl)) W2 R) : Ev F T (tMeth (T.cl c) m (spN F T S) dvs E ta tr) G W R := fun C H O σ w Q q =>
  h C H O σ w _ fun d W1 H1 O1 x ⟨ns, l, i, hm, ha⟩ n1 k1 => by
    obtain ⟨a, dx, fs, e, h1, h2, h3⟩ := i.at n1.dis n1.own k1
    refine ⟨a, dx, fs, e, h1, look_none (by rw [h2]; exact hm), ha C H1 O1 σ (w.step n1) _ fun ds W2 H2 O2 vs hh n2 k2 => ?_⟩
    exact hh.run n2.dis n2.oc n2.own ⟨x, _, rfl, k1.mono n2.ext, k2.app (.vls dvs)⟩ fun d W' H' O' v r n3 kd => q d W' H' O' v r ((n1.trans n2).trans n3) kd
theorem ev_prop {c : Nat} {dvs : List V} (h : Ev F T ta G W fun d W1 => ∃ ns l, Inst F W1 d c ns l ∧ Hand S (d :: dvs.map D.vl) W1 R) : Ev F T (tProp (T.cl c) (spN F T S) dvs E ta) G W R := fun C H O σ w Q q =>
  h C H O σ w _ fun d W1 H1 O1 x ⟨ns, l, i, hh⟩ n1 k1 => by
    obtain ⟨a, dx, fs, e, h1, h2, h3⟩ := i.at n1.dis n1.own k1
    subst e
    exact ⟨a, dx, fs, rfl, h1, hh.run n1.dis n1.oc n1.own ⟨_, _, rfl, k1, .vls dvs⟩ fun d W' H' O' v r n3 kd => q d W' H' O' v r (n1.trans n3) kd⟩
/-- C(..) -/
theorem run_make {c : Nat} {ds : List D} {vs : List V} {x dx : Addr} {Q : VK} (n : Nx F T C W H H' O') (k : DenL F T H' ds vs) (h : ∀ x, x ∉ akeys W → Hand S (.adr x :: ds) ((x, .ins c [] []) :: W) fun d W' => d = .non ∧ R (.adr x) W')
    (hx : ov O' H' x = none) (hdx : ov O' H' dx = none) (ne : dx ≠ x) (q : ∀ d W2 H2 O2 v, R d W2 → Nx F T C W2 H H2 O2 → Den F T H2 d v → Q v (ov O2 H2)) :
    spN F T S (.ref x :: vs) (upd (upd (ov O' H') dx (.own x)) x (.ins (T.cl c) dx [])) (fun v H2 => v = .non ∧ Q (.ref x) H2) E := by
  obtain ⟨n2, e2, s2⟩ := n.newF (o := .own x) hdx
  rw [e2]
  have hx2 : ov O' (upd H' dx (.own x)) x = none := by rw [← e2, upd_ne ne.symm]; exact hx
  obtain ⟨n3, e3, np⟩ := n2.newO (od := .ins c [] []) (o := .ins (T.cl c) dx []) hx2 ⟨dx, [], rfl, rfl, rfl⟩
  rw [e3]
  refine (h x np).run n3.dis n3.oc n3.own ⟨_, _, rfl, rfl, k.mono s2⟩ fun d W' H2 O2 v ⟨e, r⟩ n4 kd => ?_
  subst e
  exact ⟨kd, q (.adr x) W' H2 O2 _ r (n3.trans n4) rfl⟩
theorem ev_make {c : Nat} {dvs : List V} (h : EvA F T tr G W fun ds W1 => ∀ x, x ∉ akeys W1 → Hand S (.adr x :: (ds ++ dvs.map D.vl)) ((x, .ins c [] []) :: W1) fun d W' => d = .non ∧ R (.adr x) W') : Ev F T (tMake (T.cl c) (spN F T S) dvs E tr) G W R := fun C H O σ w Q q =>
  h C H O σ w _ fun ds W1 H1 O1 vs h1 n k x dx hx hdx ne => run_make n (k.app (.vls dvs)) h1 hx hdx ne q
theorem ev_makeR {c : Nat} (h : EvA F T tr G W fun ds W1 => ∀ x, x ∉ akeys W1 → Hand S (.adr x :: ds) ((x, .ins c [] []) :: W1) fun d W' => d = .non ∧ R (.adr x) W') : Ev F T (StX.tMakeR (T.cl c) (spN F T S) E tr) G W R := fun C H O σ w Q q =>
  h C H O σ w _ fun ds W1 H1 O1 vs h1 n k x dx hx hdx ne => run_make n k h1 hx hdx ne q
theorem putF_new : ∀ {fs : List (Str × V)} {n : Str} {v : V}, n ∉ fs.map (·.1) → putF n v fs = fs ++ [(n, v)]
  | [], _, _, _ => rfl
  | (m, x) :: fs, n, v, h => by
    rw [List.map_cons, List.mem_cons, not_or] at h
    unfold putF
    rw [if_neg (fun e => h.1 e.symm), putF_new h.2]
    rfl
theorem putF_at : ∀ {fs : List (Str × V)} {n : Str} {v : V} {j : Nat}, (fs.map (·.1)).Nodup → (fs.map (·.1))[j]? = some n → (putF n v fs).map (·.1) = fs.map (·.1) ∧ (putF n v fs).map (·.2) = (fs.map (·.2)).set j v
  | [], _, _, j, _, e => by simp at e
  | (m, x) :: fs, n, v, 0, nd, e => by
    have e : m = n := Option.some.inj e
    unfold putF
    rw [if_pos e]
    exact ⟨rfl, rfl⟩
  | (m, x) :: fs, n, v, j + 1, nd, e => by
    rw [List.map_cons, List.nodup_cons] at nd
    rw [List.map_cons, List.getElem?_cons_succ] at e
    have hne : m ≠ n := fun q => nd.1 (by rw [q]; exact List.mem_of_getElem? e)
    obtain ⟨h1, h2⟩ := putF_at (v := v) nd.2 e
    unfold putF
    rw [if_neg hne]
    refine ⟨?_, ?_⟩
    · rw [List.map_cons, List.map_cons, h1]
    · rw [List.map_cons, List.map_cons, h2]
      rfl
/-- n of an instance set: a new attribute, or the j-th one -/
inductive Put (n : Str) (z : D) : List Str → List D → List Str → List D → Prop
  | new (ns : List Str) (l : List D) : n ∉ ns → Put n z ns l (ns ++ [n]) (l ++ [z])
  | at (ns : List Str) (l : List D) (j : Nat) : ns.Nodup → ns[j]? = some n → Put n z ns l ns (l.set j z)
theorem Put.odat {n : Str} {z : D} {ns ns' : List Str} {l' : List D} {c : Nat} {dx : Addr} {fs : List (Str × V)} {v : V} (h : Put n z ns l ns' l') (e : fs.map (·.1) = ns) (k : DenL F T H l (fs.map (·.2))) (kz : Den F T H z v) : OdAt F T H (some (.ins (T.cl c) dx (putF n v fs))) (.ins c ns' l') := by
  cases h with
  | new hn =>
    refine ⟨dx, _, rfl, ?_, ?_⟩
    · rw [putF_new (by rw [e]; exact hn), List.map_append, e]
      rfl
    · rw [putF_new (by rw [e]; exact hn), List.map_append]
      exact k.app (.one kz)
  | «at» j nd hj =>
    obtain ⟨h1, h2⟩ := putF_at (v := v) (by rw [e]; exact nd) (by rw [e]; exact hj)
    refine ⟨dx, _, rfl, by rw [h1, e], ?_⟩
    rw [h2]
    exact k.set kz
def gFld (K : PySem.W.Frag) (ta : TE) (f : Str) : TG := fun y σ H Q => ta σ H fun x H2 => ∃ a C dx fs, x = .ref a ∧ H2 a = some (.ins C dx fs) ∧ Cls K C ∧ NoAttr K C f ∧ fs.length < 1000 ∧ Q σ (upd H2 a (.ins C dx (putF f y fs)))
/-- the receiver of a store -/
def Rcv (F : FmKit) (T : Kx) (d z : D) (n : Str) (W : Om) (R : Om → Prop) : Prop := ∃ a c ns l W1 W2 ns' l', d = .adr a ∧ W = W1 ++ (a, .ins c ns l) :: W2 ∧ Cls T.K (T.cl c) ∧ NoAttr T.K (T.cl c) n ∧ ns.length < 1000 ∧ Put n z ns l ns' l' ∧ R (W1 ++ (a, .ins c ns' l') :: W2)
theorem Rcv.run {x y : V} {z : D} {n : Str} {RW : Om → Prop} (h : Rcv F T d z n W RW) (nx : Nx F T C W H H' O') (kx : Den F T H' d x) (ky : Den F T H' z y) : ∃ a C' dx fs, x = .ref a ∧ ov O' H' a = some (.ins C' dx fs) ∧ Cls T.K C' ∧ NoAttr T.K C' n ∧ fs.length < 1000 ∧
    ∃ W2 O2, RW W2 ∧ Nx F T C W2 H H' O2 ∧ upd (ov O' H') a (.ins C' dx (putF n y fs)) = ov O2 H' := by
  obtain ⟨a, c, ns, l, W1, W2, ns', l', e1, e2, hc, hn, hl, hp, r⟩ := h
  subst e1 e2
  have kx : x = .ref a := kx
  obtain ⟨_, dx, fs, h1, h2, h3⟩ := nx.own.at_ a _ (List.mem_append_right _ List.mem_cons_self)
  obtain ⟨n2, e⟩ := nx.write (o := .ins (T.cl c) dx (putF n y fs)) (hp.odat h2 h3 ky)
  have hl2 : fs.length = ns.length := by rw [← h2, List.length_map]
  exact ⟨a, _, dx, fs, kx, ov_own h1, hc, hn, by rw [hl2]; exact hl, _, _, r, n2, e⟩
/-- o.f = e -/
theorem sw_fld {n : Str} (h : Ev F T tb G W fun z W1 => Ev F T ta G W1 fun d W2 => Rcv F T d z n W2 (En1.nx G)) : Sw F T (sFld T.K ta tb n) G W En1 := fun C H O σ w B b =>
  h C H O σ w _ fun z W1 H1 O1 y h1 n1 k1 => h1 C H1 O1 σ (w.step n1) _ fun d W2 H2 O2 x hr n2 k2 => by
    obtain ⟨a, C', dx, fs, e, h1, hc, hn, hl, W3, O3, r, n3, e3⟩ := hr.run (n1.trans n2) k2 (k1.mono n2.ext)
    refine ⟨a, C', dx, fs, e, h1, hc, hn, hl, ?_⟩
    rw [e3]
    exact b.nx G W3 _ _ σ r n3 (w.loc.mono (n1.trans n2).ext)
/-- a target of any form: slots and owned cells may change -/
def Ta (F : FmKit) (T : Kx) (g : TG) (d : D) (G : Gm) (W : Om) (R : Gm → Om → Prop) : Prop :=
  ∀ (C H O : Hp) (σ : St), Wd F T C G W H O σ → ∀ v, Den F T H d v → ∀ Q : St → Hp → Prop, (∀ G' W' H' O' σ', R G' W' → Nx F T C W' H H' O' → Lo F T H' G' σ' → Q σ' (ov O' H')) → g v σ (ov O H) Q
def Tas (F : FmKit) (T : Kx) (g : TGs) (ds : List D) (G : Gm) (W : Om) (R : Gm → Om → Prop) : Prop :=
  ∀ (C H O : Hp) (σ : St), Wd F T C G W H O σ → ∀ vs, DenL F T H ds vs → ∀ Q : St → Hp → Prop, (∀ G' W' H' O' σ', R G' W' → Nx F T C W' H H' O' → Lo F T H' G' σ' → Q σ' (ov O' H')) → g vs σ (ov O H) Q
theorem ta_fld {n : Str} {RR : Gm → Om → Prop} (h : Ev F T ta G W fun x W2 => Rcv F T x d n W2 (RR G)) : Ta F T (gFld T.K ta n) d G W RR := fun C H O σ w v k Q q =>
  h C H O σ w _ fun x W2 H2 O2 y hr n2 k2 => by
    obtain ⟨a, C', dx, fs, e, h1, hc, hn, hl, W3, O3, r, n3, e3⟩ := hr.run n2 k2 (k.mono n2.ext)
    refine ⟨a, C', dx, fs, e, h1, hc, hn, hl, ?_⟩
    rw [e3]
    exact q G W3 _ _ σ r n3 (w.loc.mono n2.ext)
theorem ta_tg {g : TG} {RR : Gm → Om → Prop} (h : Tg F T g d G fun G' => RR G' W) : Ta F T g d G W RR := fun C H O σ w v k Q q =>
  h H _ σ v w.loc w.dis.same k _ fun G' σ' r l => q G' W H O σ' r w.nx l
theorem ta_name {i : Nat} {RR : Gm → Om → Prop} (h : RR (G.set i (some d)) W) : Ta F T (gName i) d G W RR := ta_tg (tg_name h)
theorem tas_nil {RR : Gm → Om → Prop} (h : RR G W) : Tas F T gNil [] G W RR := fun C H O σ w v k Q q => ⟨k, q G W H O σ h w.nx w.loc⟩
theorem tas_cons {g : TG} {gs : TGs} {ds : List D} {RR : Gm → Om → Prop} (h : Ta F T g d G W fun G' W' => Tas F T gs ds G' W' RR) : Tas F T (gCons g gs) (d :: ds) G W RR := fun C H O σ w vs k Q q => by
  obtain ⟨v, r, ev, k1, k2⟩ := k
  exact ⟨v, r, ev, h C H O σ w v k1 _ fun G1 W1 H1 O1 σ1 hh n1 l1 => hh C H1 O1 σ1 ⟨n1.dis, n1.oc, l1, n1.own⟩ r (k2.mono n1.ext) Q fun G2 W2 H2 O2 σ2 r2 n2 l2 => q G2 W2 H2 O2 σ2 r2 (n1.trans n2) l2⟩
theorem ta_tup {n : Nat} {gs : TGs} {ds : List D} {RR : Gm → Om → Prop} (hn : ds.length = n) (h : Tas F T gs ds G W RR) : Ta F T (gTup T.K n gs) (.tup ds) G W RR := fun C H O σ w v k Q q => by
  obtain ⟨a, xs, ev, hs, kl⟩ := k
  exact ⟨a, xs, ev, Same.sqT w.dis.same hs, by rw [kl.len, hn], h C H O σ w xs kl Q q⟩
theorem sw_asgA {g : TG} (h : Ev F T te G W fun d W' => Ta F T g d G W' fun G2 W2 => En1.nx G2 W2) : Sw F T (tAsg te g) G W En1 := fun C H O σ w B b =>
  h C H O σ w _ fun d W' H' O' v r n k => r C H' O' σ (w.step n) v k _ fun G2 W2 H2 O2 σ2 r2 n2 l2 => b.nx G2 W2 H2 O2 σ2 r2 (n.trans n2) l2
theorem sw_asg2 {g1 g2 : TG} (h : Ev F T te G W fun d W' => Ta F T g1 d G W' fun G2 W2 => Ta F T g2 d G2 W2 fun G3 W3 => En1.nx G3 W3) : Sw F T (tAsg2 te g1 g2) G W En1 := fun C H O σ w B b =>
  h C H O σ w _ fun d W' H' O' v r n k => r C H' O' σ (w.step n) v k _ fun G2 W2 H2 O2 σ2 r2 n2 l2 => r2 C H2 O2 σ2 ⟨n2.dis, n2.oc, l2, n2.own⟩ v (k.mono n2.ext) _ fun G3 W3 H3 O3 σ3 r3 n3 l3 => b.nx G3 W3 H3 O3 σ3 r3 ((n.trans n2).trans n3) l3
theorem sw_asg3 {g1 g2 g3 : TG} (h : Ev F T te G W fun d W' => Ta F T g1 d G W' fun G2 W2 => Ta F T g2 d G2 W2 fun G3 W3 => Ta F T g3 d G3 W3 fun G4 W4 => En1.nx G4 W4) : Sw F T (tAsg3 te g1 g2 g3) G W En1 := fun C H O σ w B b =>
  h C H O σ w _ fun d W' H' O' v r n k => r C H' O' σ (w.step n) v k _ fun G2 W2 H2 O2 σ2 r2 n2 l2 => r2 C H2 O2 σ2 ⟨n2.dis, n2.oc, l2, n2.own⟩ v (k.mono n2.ext) _ fun G3 W3 H3 O3 σ3 r3 n3 l3 =>
    r3 C H3 O3 σ3 ⟨n3.dis, n3.oc, l3, n3.own⟩ v ((k.mono n2.ext).mono n3.ext) _ fun G4 W4 H4 O4 σ4 r4 n4 l4 => b.nx G4 W4 H4 O4 σ4 r4 (((n.trans n2).trans n3).trans n4) l4
end
end N
set_option Elab.async false
set_option linter.all false
set_option maxRecDepth 100000
namespace N
open PySem L2
def wipeG (G : Gm) : List Nat → Gm
  | [] => G
  | v :: vs => (wipeG G vs).set v none
theorem wipe_at {σ : St} {i : Nat} : ∀ {vs : List Nat}, (wipe σ vs)[i]? = if i ∈ vs then (σ[i]?).map (fun _ => none) else σ[i]?
  | [] => by simp [wipe]
  | v :: vs => by
    unfold wipe
    have ih := wipe_at (σ := σ) (i := i) (vs := vs)
    rw [List.getElem?_set]
    by_cases h : v = i
    · subst h
      rw [if_pos rfl, if_pos (List.mem_cons_self)]
      rw [wipe_length]
      by_cases hl : v < σ.length
      · rw [if_pos hl, List.getElem?_eq_getElem hl]
        rfl
      · rw [if_neg hl, List.getElem?_eq_none (by omega)]
        rfl
    · rw [if_neg h, ih]
      have : (i ∈ v :: vs) ↔ (i ∈ vs) := by
        rw [List.mem_cons]
        exact ⟨fun z => z.elim (fun q => absurd q.symm h) id, .inr⟩
      by_cases hm : i ∈ vs
      · rw [if_pos hm, if_pos (this.mpr hm)]
      · rw [if_neg hm, if_neg (fun z => hm (this.mp z))]
theorem wipe_wipe {σ : St} {vs : List Nat} : wipe (wipe σ vs) vs = wipe σ vs := by
  apply List.ext_getElem?
  intro i
  rw [wipe_at, wipe_at]
  by_cases h : i ∈ vs
  · simp [h]
    rfl
  · simp [h]
theorem wipe_set {σ : St} {vs : List Nat} {i : Nat} {x : Option V} (h : i ∈ vs) : wipe (σ.set i x) vs = wipe σ vs := by
  apply List.ext_getElem?
  intro j
  rw [wipe_at, wipe_at]
  by_cases hj : j ∈ vs
  · rw [if_pos hj, if_pos hj, List.getElem?_set]
    by_cases e : i = j
    · subst e
      rw [if_pos rfl]
      by_cases hl : i < σ.length
      · rw [if_pos hl, List.getElem?_eq_getElem hl]
        rfl
      · rw [if_neg hl, List.getElem?_eq_none (by omega)]
    · rw [if_neg e]
  · rw [if_neg hj, if_neg hj, List.getElem?_set_ne (fun (e : i = j) => hj (e ▸ h))]
section
variable {F : FmKit} {T : Kx} {C H H' O O' : Hp} {G : Gm} {W W' : Om} {σ : St} {a p : Addr} {d : D} {l : List D}
  {te ta tb tv : TE} {t u : TT} {R R' : D → Om → Prop} {Z : Bool → Om → Prop} {tr tk : TA} {ts tz : TS}
theorem Lo.wipe (lo : Lo F T H G σ) : ∀ vs : List Nat, Lo F T H (wipeG G vs) (wipe σ vs)
  | [] => lo
  | v :: vs => (Lo.wipe lo vs).forget none
/-- a target of the comprehension's own names -/
def Tw (F : FmKit) (T : Kx) (vs : List Nat) (g : TG) (d : D) (G : Gm) (R : Gm → Prop) : Prop :=
  ∀ (H H1 : Hp) (σ : St) (v : V), Lo F T H G σ → Same H H1 → Den F T H d v → ∀ Q : St → Hp → Prop, (∀ G' σ', R G' → Lo F T H G' σ' → wipe σ' vs = wipe σ vs → Q σ' H1) → g v σ H1 Q
def Tws (F : FmKit) (T : Kx) (vs : List Nat) (g : TGs) (ds : List D) (G : Gm) (R : Gm → Prop) : Prop :=
  ∀ (H H1 : Hp) (σ : St) (us : List V), Lo F T H G σ → Same H H1 → DenL F T H ds us → ∀ Q : St → Hp → Prop, (∀ G' σ', R G' → Lo F T H G' σ' → wipe σ' vs = wipe σ vs → Q σ' H1) → g us σ H1 Q
variable {vs : List Nat} {Y : Gm → Prop}
theorem tw_name {i : Nat} (hi : i ∈ vs) (h : Y (G.set i (some d))) : Tw F T vs (gName i) d G Y := fun H H1 σ v l _ k Q q => q _ _ h (l.set k) (wipe_set hi)
theorem tws_nil (h : Y G) : Tws F T vs gNil [] G Y := fun H H1 σ v l _ k Q q => ⟨k, q _ _ h l rfl⟩
theorem tws_cons {g : TG} {gs : TGs} {ds : List D} (h : Tw F T vs g d G fun G' => Tws F T vs gs ds G' Y) : Tws F T vs (gCons g gs) (d :: ds) G Y := fun H H1 σ us l e k Q q => by
  obtain ⟨v, r, ev, k1, k2⟩ := k
  exact ⟨v, r, ev, h H H1 σ v l e k1 _ fun G' σ' hh l' w1 => hh H H1 σ' r l' e k2 Q fun G2 σ2 r2 l2 w2 => q G2 σ2 r2 l2 (w2.trans w1)⟩
theorem tw_tup {n : Nat} {gs : TGs} {ds : List D} (hn : ds.length = n) (h : Tws F T vs gs ds G Y) : Tw F T vs (gTup T.K n gs) (.tup ds) G Y := fun H H1 σ v l e k Q q => by
  obtain ⟨a, xs, ev, hs, kl⟩ := k
  exact ⟨a, xs, ev, Same.sqT e hs, by rw [kl.len, hn], h H H1 σ xs l e kl Q q⟩
/-- a hidden cell -/
theorem Nx.hide {o : HO} {Dp : Addr} {W1 : Om} {H1 : Hp} (n : Nx F T C W1 H H1 O') (hD : ov O' H1 Dp = none) : Nx F T (upd C Dp o) W1 H1 H1 (upd O' Dp o) ∧ upd (ov O' H1) Dp o = ov (upd O' Dp o) H1 ∧ C Dp = none := by
  obtain ⟨h1, h2⟩ := ov_none hD
  have cp : C Dp = none := by
    cases e : C Dp with
    | none => rfl
    | some x =>
      rw [n.oc Dp x e] at h1
      cases h1
  refine ⟨⟨Same.refl _, n.dis.updO h2, fun b x e => ?_, ⟨n.own.nd, fun b ob m => ?_⟩⟩, ov_updO, cp⟩
  · by_cases q : b = Dp
    · subst q
      rw [upd_same] at e ⊢
      exact e
    · rw [upd_ne q] at e ⊢
      exact n.oc b x e
  · have : b ≠ Dp := fun q => n.own.notin h1 (q ▸ mem_akeys (x := (b, ob)) m)
    rw [upd_ne this, upd_ne this]
    exact n.own.at_ b ob m
/-- the hidden cell is written -/
theorem Nx.rehide {o o' : HO} {Dp : Addr} {W2 : Om} {H1 H2 O2 : Hp} (n : Nx F T (upd C Dp o) W2 H1 H2 O2) (cp : C Dp = none) : Nx F T (upd C Dp o') W2 H1 H2 (upd O2 Dp o') ∧ upd (ov O2 H2) Dp o' = ov (upd O2 Dp o') H2 := by
  have hO : O2 Dp = some o := n.oc Dp o upd_same
  refine ⟨⟨n.ext, n.dis.updO (n.dis Dp o hO), fun b x e => ?_, ⟨n.own.nd, fun b ob m => ?_⟩⟩, ov_updO⟩
  · by_cases q : b = Dp
    · subst q
      rw [upd_same] at e ⊢
      exact e
    · rw [upd_ne q] at e
      rw [upd_ne q]
      exact n.oc b x (by rw [upd_ne q]; exact e)
  · obtain ⟨c1, c2⟩ := n.own.at_ b ob m
    have hb : b ≠ Dp := fun q => by
      rw [q, upd_same] at c1
      cases c1
    rw [upd_ne hb] at c1
    rw [upd_ne hb, upd_ne hb]
    exact ⟨c1, c2⟩
/-- the hidden cell comes out as an owned one -/
theorem Nx.show {o : HO} {od : OD} {Dp : Addr} {W2 : Om} {H1 H2 O2 : Hp} (n : Nx F T (upd C Dp o) W2 H1 H2 O2) (cp : C Dp = none) (h : OdAt F T H2 (some o) od) : Nx F T C ((Dp, od) :: W2) H1 H2 O2 ∧ Dp ∉ akeys W2 := by
  have hO : O2 Dp = some o := n.oc Dp o upd_same
  have nin : Dp ∉ akeys W2 := fun z => by
    obtain ⟨x, hx, e⟩ := List.mem_map.mp z
    have := (n.own.at_ x.1 x.2 hx).1
    rw [e, upd_same] at this
    cases this
  refine ⟨⟨n.ext, n.dis, fun b x e => n.oc b x (by rw [upd_ne (ne_of_none e cp)]; exact e), ⟨List.nodup_cons.mpr ⟨nin, n.own.nd⟩, fun b ob m => ?_⟩⟩, nin⟩
  rcases List.mem_cons.mp m with e | m
  · obtain ⟨rfl, rfl⟩ := Prod.mk.inj e
    rw [hO]
    exact ⟨cp, h⟩
  · obtain ⟨c1, c2⟩ := n.own.at_ b ob m
    have hb : b ≠ Dp := fun q => by
      rw [q, upd_same] at c1
      cases c1
    rw [upd_ne hb] at c1
    exact ⟨c1, c2⟩
/-- [e for .. in .. if ..] -/
theorem ev_lc {wi : TI} {g : TG} (h : EvI F T wi G W fun ds W1 => ∃ I : Nat → List D → Om → Prop, I 0 [] W1 ∧
      (∀ i d acc W', ds[i]? = some d → I i acc W' → Tw F T vs g d (wipeG G vs) fun G2 => EvT F T t G2 W' fun b W2 => if b = true then Ev F T te G2 W2 (fun z W3 => acc.length < sizeLine ∧ I (i + 1) (acc ++ [z]) W3) else I (i + 1) acc W2) ∧
      (∀ acc W', I ds.length acc W' → ∀ p, p ∉ akeys W' → R (.adr p) ((p, .lst acc) :: W'))) : Ev F T (tLc wi g t te vs) G W R := fun C H O σ w Q q =>
  h C H O σ w _ fun J ds W1 H1 O1 ⟨I, i0, turn, fin⟩ n1 wk Dp hD => by
    obtain ⟨n0, e0, cp⟩ := n1.hide (o := .lst []) hD
    refine ⟨fun i m X => m = ds.length - i ∧ i ≤ ds.length ∧ ∃ acc av W' H' O', X = ov O' H' ∧ Nx F T (upd C Dp (.lst av)) W' H1 H' O' ∧ DenL F T H' acc av ∧ I i acc W', ⟨ds.length, by simp, Nat.zero_le _, [], [], W1, H1, _, e0, n0, rfl, i0⟩, ?_⟩
    rintro i m X ⟨rfl, hi, acc, av, W', H', O', rfl, n, ka, ii⟩
    have k := wk i H' O' n.ext n.dis
    have lo1 := (w.loc.mono n1.ext).mono n.ext
    by_cases hlt : i < ds.length
    · obtain ⟨k1, k2⟩ := k.1 ds[i] (by simp [hlt])
      refine .inr ⟨k1, fun X2 => ∃ acc av W2 H2 O2, X2 = ov O2 H2 ∧ Nx F T (upd C Dp (.lst av)) W2 H1 H2 O2 ∧ DenL F T H2 acc av ∧ I (i + 1) acc W2, fun X2 y => ⟨ds.length - (i + 1), by omega, rfl, hlt, y⟩, fun x X2 y => ?_⟩
      obtain ⟨H2, s2, d2, rfl, kx⟩ := k2 x X2 y
      refine turn i ds[i] acc W' (by simp [hlt]) ii H2 _ _ x ((lo1.mono s2).wipe vs) d2.same kx _ fun G3 σ3 et l3 wz => ⟨wz.trans wipe_wipe, ?_⟩
      refine et (upd C Dp (.lst av)) H2 O' σ3 ⟨d2, n.oc, l3, n.own.mono s2⟩ _ fun b W3 H3 O3 r3 n3 => ?_
      have n03 : Nx F T (upd C Dp (.lst av)) W3 H1 H3 O3 := ⟨(n.ext.trans s2).trans n3.ext, n3.dis, n3.oc, n3.own⟩
      cases b with
      | false => exact ⟨acc, av, W3, H3, O3, rfl, n03, (ka.mono s2).mono n3.ext, r3⟩
      | true =>
        refine r3 (upd C Dp (.lst av)) H3 O3 σ3 ⟨n3.dis, n3.oc, l3.mono n3.ext, n3.own⟩ _ fun z W4 H4 O4 v ⟨hz, i4⟩ n4 k4 => ?_
        have hO : ov O4 H4 Dp = some (.lst av) := ov_own (n4.oc Dp _ upd_same)
        have ka4 := ((ka.mono s2).mono n3.ext).mono n4.ext
        refine ⟨av, hO, by rw [ka.len]; exact hz, ?_⟩
        obtain ⟨n5, e5⟩ := Nx.rehide (o' := .lst (av ++ [v])) (n03.trans n4) cp
        exact ⟨acc ++ [z], av ++ [v], W4, H4, _, e5, n5, ka4.app (.one k4), i4⟩
    · have e : i = ds.length := by omega
      subst e
      refine .inl ⟨k.2 rfl, ?_⟩
      obtain ⟨n6, np⟩ := n.show (od := .lst acc) cp ⟨av, rfl, ka⟩
      exact q (.adr Dp) _ H' O' _ (fin acc W' ii Dp np) (Nx.trans ⟨n1.ext, n1.dis, n1.oc, n1.own⟩ n6) rfl
theorem et_yes (h : Z true W) : EvT F T tYes G W Z := fun C H O σ w Q q => q true W H O h w.nx
def putG {α : Type} (ps : List (Key × α)) (k : Key) (z : α) : List (Key × α) := if (ps.any fun q => decide (q.1 = k)) = true then ps.map (fun q => if q.1 = k then (q.1, z) else q) else ps ++ [(k, z)]
theorem putG_V (kvs : List (Key × V)) (k : Key) (z : V) : putG kvs k z = putK kvs k z := rfl
/-- a dict of pairs -/
@[reducible] def OD.dp (ps : List (Key × D)) : OD := .dct (ps.map (·.1)) (ps.map (·.2))
@[reducible] def D.dp (ps : List (Key × D)) : D := .dct (ps.map (·.1)) (ps.map (·.2))
theorem any_keys {α β : Type} {k : Key} : ∀ {ps : List (Key × α)} {qs : List (Key × β)}, ps.map (·.1) = qs.map (·.1) → (ps.any fun q => decide (q.1 = k)) = qs.any fun q => decide (q.1 = k)
  | [], [], _ => rfl
  | [], q :: qs, h => by simp at h
  | p :: ps, [], h => by simp at h
  | p :: ps, q :: qs, h => by
    rw [List.map_cons, List.map_cons] at h
    obtain ⟨h1, h2⟩ := List.cons.inj h
    rw [List.any_cons, List.any_cons, any_keys h2, h1]
theorem putG_keys {α β : Type} {k : Key} {z : α} {y : β} {ps : List (Key × α)} {qs : List (Key × β)} (h : ps.map (·.1) = qs.map (·.1)) : (putG ps k z).map (·.1) = (putG qs k y).map (·.1) := by
  unfold putG
  rw [any_keys h]
  split
  · rw [List.map_map, List.map_map]
    have e1 : ∀ (α : Type) (z : α) (l : List (Key × α)), l.map ((·.1) ∘ fun q => if q.1 = k then (q.1, z) else q) = l.map (·.1) := fun α z l => List.map_congr_left fun q _ => by
      show (if q.1 = k then (q.1, z) else q).1 = q.1
      split <;> rfl
    rw [e1, e1, h]
  · rw [List.map_append, List.map_append, h]
    rfl
theorem putG_den {k : Key} {z : D} {y : V} (hz : Den F T H z y) : ∀ {ps : List (Key × D)} {kvs : List (Key × V)}, kvs.map (·.1) = ps.map (·.1) → DenL F T H (ps.map (·.2)) (kvs.map (·.2)) → DenL F T H ((putG ps k z).map (·.2)) ((putG kvs k y).map (·.2)) := by
  intro ps kvs h kl
  unfold putG
  rw [any_keys h]
  split
  · rename_i hh
    clear hh
    induction ps generalizing kvs with
    | nil =>
      cases kvs with
      | nil => exact kl
      | cons _ _ => simp at h
    | cons p ps ih =>
      cases kvs with
      | nil => simp at h
      | cons q qs =>
        rw [List.map_cons, List.map_cons] at h
        obtain ⟨h1, h2⟩ := List.cons.inj h
        obtain ⟨v, r, e, k1, k2⟩ := kl
        rw [List.map_cons] at e
        obtain ⟨e1, e2⟩ := List.cons.inj e
        subst e2
        refine ⟨_, _, rfl, ?_, ih h2 k2⟩
        show Den F T H (if p.1 = k then (p.1, z) else p).2 (if q.1 = k then (q.1, y) else q).2
        rw [h1]
        by_cases e : p.1 = k
        · rw [if_pos e, if_pos e]
          exact hz
        · rw [if_neg e, if_neg e, e1]
          exact k1
  · rw [List.map_append, List.map_append]
    exact kl.app (.one hz)
theorem putG_nodup {α : Type} {k : Key} {z : α} {ps : List (Key × α)} (h : (ps.map (·.1)).Nodup) : ((putG ps k z).map (·.1)).Nodup := by
  unfold putG
  split
  · rw [List.map_map]
    have e1 : ps.map ((·.1) ∘ fun q => if q.1 = k then (q.1, z) else q) = ps.map (·.1) := List.map_congr_left fun q _ => by
      show (if q.1 = k then (q.1, z) else q).1 = q.1
      split <;> rfl
    rw [e1]
    exact h
  · rename_i hn
    rw [List.map_append, List.nodup_append]
    refine ⟨h, by simp, fun x hx y hy e => hn ?_⟩
    have hy : y = k := by simpa using hy
    obtain ⟨q, hq, eq⟩ := List.mem_map.mp hx
    rw [List.any_eq_true]
    exact ⟨q, hq, by rw [eq, e, hy]; simp⟩
/-- what a dict gives -/
def getG {α : Type} (ps : List (Key × α)) (k : Key) : Option α := (ps.find? fun q => decide (q.1 = k)).map (·.2)
theorem getG_den {k : Key} : ∀ {ps : List (Key × D)} {kvs : List (Key × V)}, kvs.map (·.1) = ps.map (·.1) → DenL F T H (ps.map (·.2)) (kvs.map (·.2)) → (getG ps k = none ∧ valV kvs k = none) ∨ ∃ z v, getG ps k = some z ∧ valV kvs k = some v ∧ Den F T H z v
  | [], [], _, _ => .inl ⟨rfl, rfl⟩
  | [], q :: qs, h, _ => by simp at h
  | p :: ps, [], h, _ => by simp at h
  | p :: ps, q :: qs, h, kl => by
    rw [List.map_cons, List.map_cons] at h
    obtain ⟨h1, h2⟩ := List.cons.inj h
    obtain ⟨v, r, e, k1, k2⟩ := kl
    rw [List.map_cons] at e
    obtain ⟨e1, e2⟩ := List.cons.inj e
    subst e2
    unfold getG valV
    rw [List.find?_cons, List.find?_cons, h1]
    by_cases e : p.1 = k
    · rw [decide_eq_true e]
      exact .inr ⟨p.2, q.2, rfl, rfl, by rw [e1]; exact k1⟩
    · rw [decide_eq_false e]
      exact getG_den h2 k2
/-- d is a dict of ps: frozen, or owned -/
def Vd (W : Om) (d : D) (ps : List (Key × D)) : Prop := d = .dp ps ∨ ∃ a, d = .adr a ∧ (a, .dp ps) ∈ W
theorem Vd.at {x : V} {ps : List (Key × D)} (h : Vd W d ps) (di : Dis O H) (ow : Ow F T H C O W) (k : Den F T H d x) : ∃ a kvs, x = .ref a ∧ ov O H a = some (.dK kvs) ∧ kvs.map (·.1) = ps.map (·.1) ∧ (ps.map (·.1)).Nodup ∧ DenL F T H (ps.map (·.2)) (kvs.map (·.2)) := by
  rcases h with rfl | ⟨a, rfl, m⟩
  · obtain ⟨a, kvs, e, h1, h2, h3, h4⟩ := k
    exact ⟨a, kvs, e, di.same _ _ h1, h2, h3, h4⟩
  · obtain ⟨_, kvs, h1, h2, h3, h4⟩ := ow.at_ a _ m
    exact ⟨a, kvs, k, ov_own h1, h2, h3, h4⟩
/-- a key as a datum -/
def kD (k : Key) : D := .vl (kV k)
theorem ev_dnew (h : ∀ p, p ∉ akeys W → R (.adr p) ((p, .dp []) :: W)) : Ev F T tDNewK G W R := fun C H O σ w Q q p hp => by
  obtain ⟨n2, e, np⟩ := w.nx.newO (od := .dp []) (o := .dK []) hp ⟨[], rfl, rfl, List.nodup_nil, rfl⟩
  rw [e]
  exact q (.adr p) _ _ _ _ (h p np) n2 rfl
/-- d[k] -/
theorem ev_dget (h : Ev F T ta G W fun d W1 => Ev F T tb G W1 fun y W2 => ∃ ps k z, Vd W2 d ps ∧ y = kD k ∧ getG ps k = some z ∧ R z W2) : Ev F T (tDGet ta tb) G W R := fun C H O σ w Q q =>
  h C H O σ w _ fun d W1 H1 O1 x h1 n1 k1 => h1 C H1 O1 σ (w.step n1) _ fun y W2 H2 O2 yv ⟨ps, k, z, hv, ey, hg, r⟩ n2 k2 => by
    subst ey
    obtain ⟨a, kvs, ex, ha, e1, e2, kl⟩ := hv.at n2.dis n2.own (k1.mono n2.ext)
    have k2 : yv = kV k := k2
    subst ex k2
    rcases getG_den (k := k) e1 kl with ⟨g1, _⟩ | ⟨z', v, g1, g2, kz⟩
    · rw [g1] at hg
      cases hg
    · rw [g1] at hg
      cases hg
      exact ⟨a, v, rfl, .inl ⟨kvs, k, .inl ha, rfl, g2.symm⟩, q z W2 H2 O2 v r (n1.trans n2) kz⟩
/-- d[k] = e -/
theorem sw_dput {td ty tv : TE} {Ed : En} (h : Ev F T tv G W fun z W1 => Ev F T td G W1 fun d W2 => Ev F T ty G W2 fun y W3 => ∃ a ps k Wa Wb, d = .adr a ∧ W3 = Wa ++ (a, .dp ps) :: Wb ∧ y = kD k ∧ ps.length < sizeLine ∧ Ed.nx G (Wa ++ (a, .dp (putG ps k z)) :: Wb)) : Sw F T (sDPut td ty tv) G W Ed := fun C H O σ w B b =>
  h C H O σ w _ fun z W1 H1 O1 zv h1 n1 k1 => h1 C H1 O1 σ (w.step n1) _ fun d W2 H2 O2 x h2 n2 k2 => h2 C H2 O2 σ ((w.step n1).step n2) _ fun y W3 H3 O3 yv ⟨a, ps, k, Wa, Wb, e1, e2, e3, hl, r⟩ n3 k3 => by
    subst e1 e2 e3
    have k2 : x = .ref a := k2
    have k3 : yv = kV k := k3
    subst k2 k3
    obtain ⟨_, kvs, ha, f1, f2, kl⟩ := n3.own.at_ a _ (List.mem_append_right _ List.mem_cons_self)
    have nn := (n1.trans n2).trans n3
    have hl2 : kvs.length = ps.length := by
      have := congrArg List.length f1
      rwa [List.length_map, List.length_map] at this
    refine ⟨a, _, rfl, DPut.k (ov_own ha) (by rw [hl2]; exact hl), ?_⟩
    obtain ⟨n4, e4⟩ := nn.write (o := .dK (putK kvs k zv)) (od2 := .dp (putG ps k z)) ⟨_, rfl, (putG_V kvs k zv) ▸ putG_keys (z := zv) (y := z) f1, putG_nodup f2, (putG_V kvs k zv) ▸ putG_den ((k1.mono n2.ext).mono n3.ext) f1 kl⟩
    rw [e4]
    exact b.nx _ _ _ _ _ r n4 (w.loc.mono nn.ext)
/-- {k: e for .. in .. if ..} -/
theorem ev_dc {wi : TI} {g : TG} (h : EvI F T wi G W fun ds W1 => ∃ I : Nat → List (Key × D) → Om → Prop, I 0 [] W1 ∧
      (∀ i d acc W', ds[i]? = some d → I i acc W' → Tw F T vs g d (wipeG G vs) fun G2 => EvT F T t G2 W' fun b W2 => if b = true then Ev F T te G2 W2 (fun y W3 => Ev F T tv G2 W3 fun z W4 => ∃ k, y = kD k ∧ acc.length < sizeLine ∧ I (i + 1) (putG acc k z) W4) else I (i + 1) acc W2) ∧
      (∀ acc W', I ds.length acc W' → ∀ p, p ∉ akeys W' → R (.adr p) ((p, .dp acc) :: W'))) : Ev F T (tDc wi g t te tv vs) G W R := fun C H O σ w Q q =>
  h C H O σ w _ fun J ds W1 H1 O1 ⟨I, i0, turn, fin⟩ n1 wk Dp hD => by
    obtain ⟨n0, e0, cp⟩ := n1.hide (o := .dK []) hD
    refine ⟨fun i m X => m = ds.length - i ∧ i ≤ ds.length ∧ ∃ acc av W' H' O', X = ov O' H' ∧ Nx F T (upd C Dp (.dK av)) W' H1 H' O' ∧ (av.map (·.1) = acc.map (·.1) ∧ (acc.map (·.1)).Nodup ∧ DenL F T H' (acc.map (·.2)) (av.map (·.2))) ∧ I i acc W', ⟨ds.length, by simp, Nat.zero_le _, [], [], W1, H1, _, e0, n0, ⟨rfl, List.nodup_nil, (show DenL F T H1 (([] : List (Key × D)).map (·.2)) (([] : List (Key × V)).map (·.2)) from rfl)⟩, i0⟩, ?_⟩
    rintro i m X ⟨rfl, hi, acc, av, W', H', O', rfl, n, ⟨ka1, ka2, ka⟩, ii⟩
    have k := wk i H' O' n.ext n.dis
    have lo1 := (w.loc.mono n1.ext).mono n.ext
    by_cases hlt : i < ds.length
    · obtain ⟨k1, k2⟩ := k.1 ds[i] (by simp [hlt])
      refine .inr ⟨k1, fun X2 => ∃ acc av W2 H2 O2, X2 = ov O2 H2 ∧ Nx F T (upd C Dp (.dK av)) W2 H1 H2 O2 ∧ (av.map (·.1) = acc.map (·.1) ∧ (acc.map (·.1)).Nodup ∧ DenL F T H2 (acc.map (·.2)) (av.map (·.2))) ∧ I (i + 1) acc W2, fun X2 y => ⟨ds.length - (i + 1), by omega, rfl, hlt, y⟩, fun x X2 y => ?_⟩
      obtain ⟨H2, s2, d2, rfl, kx⟩ := k2 x X2 y
      refine turn i ds[i] acc W' (by simp [hlt]) ii H2 _ _ x ((lo1.mono s2).wipe vs) d2.same kx _ fun G3 σ3 et l3 wz => ⟨wz.trans wipe_wipe, ?_⟩
      refine et (upd C Dp (.dK av)) H2 O' σ3 ⟨d2, n.oc, l3, n.own.mono s2⟩ _ fun b W3 H3 O3 r3 n3 => ?_
      have n03 : Nx F T (upd C Dp (.dK av)) W3 H1 H3 O3 := ⟨(n.ext.trans s2).trans n3.ext, n3.dis, n3.oc, n3.own⟩
      cases b with
      | false => exact ⟨acc, av, W3, H3, O3, rfl, n03, ⟨ka1, ka2, (ka.mono s2).mono n3.ext⟩, r3⟩
      | true =>
        have w3 : Wd F T (upd C Dp (.dK av)) G3 W3 H3 O3 σ3 := ⟨n3.dis, n3.oc, l3.mono n3.ext, n3.own⟩
        refine r3 (upd C Dp (.dK av)) H3 O3 σ3 w3 _ fun y W4 H4 O4 yv r4 n4 k4 => ?_
        refine r4 (upd C Dp (.dK av)) H4 O4 σ3 (w3.step n4) _ fun z W5 H5 O5 zv ⟨k', ey, hz, i5⟩ n5 k5 => ?_
        subst ey
        have k4 : yv = kV k' := k4
        subst k4
        have hO : ov O5 H5 Dp = some (.dK av) := ov_own (n5.oc Dp _ upd_same)
        have ka5 := (((ka.mono s2).mono n3.ext).mono n4.ext).mono n5.ext
        have hl2 : av.length = acc.length := by
          have := congrArg List.length ka1
          rwa [List.length_map, List.length_map] at this
        refine ⟨av, k', rfl, hO, by rw [hl2]; exact hz, ?_⟩
        obtain ⟨n6, e6⟩ := Nx.rehide (o' := .dK (putK av k' zv)) ((n03.trans n4).trans n5) cp
        exact ⟨putG acc k' z, putK av k' zv, W5, H5, _, e6, n6, ⟨(putG_V av k' zv) ▸ putG_keys (z := zv) (y := z) ka1, putG_nodup ka2, (putG_V av k' zv) ▸ putG_den k5 ka1 ka5⟩, i5⟩
    · have e : i = ds.length := by omega
      subst e
      refine .inl ⟨k.2 rfl, ?_⟩
      obtain ⟨n6, np⟩ := n.show (od := .dp acc) cp ⟨av, rfl, ka1, ka2, ka⟩
      exact q (.adr Dp) _ H' O' _ (fin acc W' ii Dp np) (Nx.trans ⟨n1.ext, n1.dis, n1.oc, n1.own⟩ n6) rfl
def pairsD : Nat → List D → List D
  | _, [] => []
  | n, d :: l => .tup [.int (n : Nat), d] :: pairsD (n + 1) l
theorem pairsD_len : ∀ {l : List D} {n : Nat}, (pairsD n l).length = l.length
  | [], _ => rfl
  | d :: l, n => by
    show (pairsD (n + 1) l).length + 1 = l.length + 1
    rw [pairsD_len]
theorem pairsD_get : ∀ {l : List D} {n i : Nat} {z : D}, (pairsD n l)[i]? = some z → ∃ d, l[i]? = some d ∧ z = .tup [.int ((n + i : Nat) : Int), d]
  | [], _, i, z, h => by simp [pairsD] at h
  | d :: l, n, 0, z, h => ⟨d, rfl, (Option.some.inj h).symm⟩
  | d :: l, n, i + 1, z, h => by
    have h : (pairsD (n + 1) l)[i]? = some z := h
    obtain ⟨e, h1, h2⟩ := pairsD_get h
    refine ⟨e, h1, ?_⟩
    rw [h2]
    have : n + 1 + i = n + (i + 1) := by omega
    rw [this]
theorem ei_str {Y : List D → Om → Prop} (h : Ev F T te G W fun d W1 => ∃ z : Str, d = .str z ∧ Y (z.cps.toList.map fun c => .str ⟨#[c]⟩) W1) : EvI F T (iStr te) G W Y := fun C H O σ w Q q =>
  h C H O σ w _ fun d W1 H1 O1 v ⟨z, e, y⟩ n k => by
    subst e
    have k : v = .str z := k
    refine ⟨z, k, q _ _ W1 H1 O1 y n fun i H2 O2 s di => ⟨fun d hd => ?_, fun e => ?_⟩⟩
    · rw [List.getElem?_map] at hd
      cases hc : z.cps.toList[i]? with
      | none =>
        rw [hc] at hd
        cases hd
      | some c =>
        rw [hc] at hd
        have hd : D.str ⟨#[c]⟩ = d := Option.some.inj hd
        subst hd
        have hc' : z.cps[i]? = some c := by simpa using hc
        refine ⟨(Array.getElem?_eq_some_iff.mp hc').1, fun x X ⟨e1, c2, e2, e3⟩ => ⟨H2, Same.refl _, di, e1, ?_⟩⟩
        rw [hc'] at e2
        cases e2
        exact e3
    · rw [List.length_map, Array.length_toList] at e
      show z.cps.size ≤ i
      omega
end
end N
set_option Elab.async false
set_option linter.all false
set_option maxRecDepth 100000
namespace N
open PySem PySem.Spec PyProof.Rows L2
section
variable {X : Cx} {CX : CXT} {k : Nat} {C f : Addr} {fd : FuncData} {ps ks : List Str} {sp : Sp} {E : XK} {pins : List (Addr × Obj)} {σ : L2.St} {H : Hp} {s : Shared}
/-- a def is called from anywhere within the body -/
theorem run_at {A : Around} {vs : List V} {us : List Value} {Q : VK} (F : FnOk X.prog X.w X.K X.mg X.base CX k f fd ps sp) (hr : Room k A) (fr : A.frames = X.A.frames) (hb : Binds X.K fd ps []) (hx : Passes CX X E) (I : Inv X pins σ H s) (r : Vals vs us) (h : sp vs H Q E) :
    wpAny (model X.prog X.w) A (call (.ref f) us) (EP X pins σ Q) X.xe s := by
  have e := I.env0
  have e0 : Env0 X.prog X.w X.K X.mg X.base A X.stack s H := ⟨by rw [fr]; exact e.frames, e.mod, e.bs, e.bsz, e.funs, e.frf, e.hok, e.bare⟩
  have hl : us.length = ps.length := by rw [← r.length]; exact F.len _ _ _ _ h
  have hb' := hb s us I.kIn (by simpa using hl)
  simp only [List.append_nil] at hb'
  refine wpAny_call (codeAny_mono (F.run A X.stack s H ⟨us, []⟩ us vs Q E hr e0 hb' r h) fun r s' hq => ?_)
  cases r with
  | error e => exact hx pins σ H s e s' I hq
  | ok fl =>
    cases fl with
    | ret u => exact I.after hq
    | next => exact False.elim hq
    | brk => exact False.elim hq
    | cont => exact False.elim hq
/-- an instance's method of the class, by a name between two underscores -/
structure Own2 (K : PySem.W.Frag) (C : Addr) (m : Str) (f : Addr) : Prop where
  at_ : PySem.W.findIn K (.ref C) m = some (some (.ref f))
  fn : PySem.W.isFn K (.ref f) = true
def rOwn1 (C : Addr) (sp : Sp) (E : XK) : V → Hp → VK → Prop := fun x H Q => ∃ a dx fs, x = .ref a ∧ H a = some (.ins C dx fs) ∧ sp [x] H Q E
def rOwn2 (C : Addr) (sp : Sp) (E : XK) : R2 := fun x y H Q => ∃ a b dx dy fs gs, x = .ref a ∧ y = .ref b ∧ H a = some (.ins C dx fs) ∧ H b = some (.ins C dy gs) ∧ sp [x, y] H Q E
theorem inst_of {a dx : Addr} {fs : List (Str × V)} (I : Inv X pins σ H s) (e : H a = some (.ins C dx fs)) : ∃ od, PySem.W.InstAt s.heap a (PySem.W.instObj C dx) C (some od) := by
  obtain ⟨mA, J, _⟩ := ins_get I.hok e
  obtain ⟨od, J, _⟩ := J.look
  exact ⟨od, J⟩
/-- str(x) by the own method -/
theorem call_own_str (F : FnOk X.prog X.w X.K X.mg X.base CX k f fd ps sp) (hr : Room (k + 2) X.A) (o : Own2 X.K C "__str__" f) (hb : Binds X.K fd ps []) (hx : Passes CX X E) :
    CallR X (.type "str") (fun xs H Q => ∃ a dx fs, xs = [.ref a] ∧ H a = some (.ins C dx fs) ∧ sp [.ref a] H (fun v H' => (∃ z, v = .str z) ∧ Q v H') E) := by
  intro pins s σ H xs us Q I r hq
  obtain ⟨a, dx, fs, rfl, ha, q⟩ := hq
  obtain ⟨u, rfl, rx⟩ := vals1 r
  cases rx
  obtain ⟨od, J⟩ := inst_of I ha
  have h1 := hr.in1
  have h2 := h1.in1
  refine PySem.W.kso_call h2.units0 I.kIn J o.at_ o.fn (thn (run_at F h2 rfl hb hx I (vs := [V.ref a]) (.cons rfl .nil) q) fun v s' h => ?_)
  obtain ⟨x, H', I', rx, ⟨z, ez⟩, q'⟩ := h
  subst ez
  obtain ⟨t, rfl⟩ := rx
  exact ⟨.str z, H', I', ⟨t, rfl⟩, q'⟩
/-- len(x) by the own method -/
theorem call_own_len (F : FnOk X.prog X.w X.K X.mg X.base CX k f fd ps sp) (hr : Room (k + 1) X.A) (o : Own2 X.K C "__len__" f) (hb : Binds X.K fd ps []) (hx : Passes CX X E) :
    CallR X (.builtin "len") (fun xs H Q => ∃ a dx fs, xs = [.ref a] ∧ H a = some (.ins C dx fs) ∧ sp [.ref a] H (fun v H' => (∃ n : Int, v = .int n ∧ 0 ≤ n ∧ n < 2 ^ 63) ∧ Q v H') E) := by
  intro pins s σ H xs us Q I r hq
  obtain ⟨a, dx, fs, rfl, ha, q⟩ := hq
  obtain ⟨u, rfl, rx⟩ := vals1 r
  cases rx
  obtain ⟨od, J⟩ := inst_of I ha
  obtain ⟨m, hF⟩ := I.fr
  refine PySem.W.len_K hF I.ok.mod.kin J o.at_ o.fn (thn (run_at F hr.in1 rfl hb hx I (vs := [V.ref a]) (.cons rfl .nil) q) fun v s' h => ?_)
  obtain ⟨x, H', I', rx, ⟨n, ez, h0, h1⟩, q'⟩ := h
  subst ez
  obtain ⟨t, rfl⟩ := rx
  exact ⟨⟨h0, h1⟩, .int n, H', I'.tok _, ⟨_, rfl⟩, q'⟩
end
end N
set_option Elab.async false
set_option linter.all false
set_option maxRecDepth 100000
namespace N
open PySem PySem.Spec PyProof.Rows L2
mutual
def D.pd : D → Option PyData
  | .vl .non => some .none
  | .vl (.bl b) => some (.bool b)
  | .vl (.int i) => some (.int i)
  | .vl (.str s) => some (.str s)
  | .vl _ => none
  | .tup l => (pdL l).map .tuple
  | .lst l => (pdL l).map .list
  | .dct _ _ => none
  | .obj _ _ _ => none
  | .fm _ => none
  | .scr _ => none
def pdL : List D → Option (List PyData)
  | [] => some []
  | d :: l => match D.pd d, pdL l with
    | some p, some r => some (p :: r)
    | _, _ => none
end
theorem pdL_cons {d : D} {l : List D} {p : PyData} {r : List PyData} (h1 : d.pd = some p) (h2 : pdL l = some r) : pdL (d :: l) = some (p :: r) := by
  simp only [pdL, h1, h2]
theorem pdL_map {α : Type} (f : α → D) (g : α → PyData) (h : ∀ x, (f x).pd = some (g x)) : ∀ l : List α, pdL (l.map f) = some (l.map g)
  | [] => rfl
  | x :: l => pdL_cons (h x) (pdL_map f g h l)
theorem pd_tup {l : List D} {r : List PyData} (h : pdL l = some r) : (D.tup l).pd = some (.tuple r) := by simp only [D.pd, h, Option.map_some]
theorem pd_lst {l : List D} {r : List PyData} (h : pdL l = some r) : (D.lst l).pd = some (.list r) := by simp only [D.pd, h, Option.map_some]
section
variable {F : FmKit} {T : Kx} {C H H' O O' : Hp} {G : Gm} {W W' : Om} {R R' : D → Om → Prop}
mutual
theorem Den.dp : ∀ (d : D) (v : V) (p : PyData), Den F T H d v → d.pd = some p → Dp T.K H v p
  | .vl .non, _, p, h, e => by
    have h : _ = _ := h
    simp only [D.pd, Option.some.injEq] at e
    subst h e
    exact .non
  | .vl (.bl b), _, p, h, e => by
    have h : _ = _ := h
    simp only [D.pd, Option.some.injEq] at e
    subst h e
    exact .bl b
  | .vl (.int i), _, p, h, e => by
    have h : _ = _ := h
    simp only [D.pd, Option.some.injEq] at e
    subst h e
    exact .int i
  | .vl (.str s), _, p, h, e => by
    have h : _ = _ := h
    simp only [D.pd, Option.some.injEq] at e
    subst h e
    exact .str s
  | .vl (.byt _), _, p, _, e => by simp only [D.pd] at e; cases e
  | .vl (.flt _), _, p, _, e => by simp only [D.pd] at e; cases e
  | .vl (.ref _), _, p, _, e => by simp only [D.pd] at e; cases e
  | .vl (.ty _), _, p, _, e => by simp only [D.pd] at e; cases e
  | .tup l, _, p, ⟨a, xs, h1, h2, h3⟩, e => by
    subst h1
    simp only [D.pd] at e
    cases q : pdL l with
    | none =>
      rw [q] at e
      cases e
    | some r =>
      rw [q] at e
      cases e
      exact .tup h2 (DenL.dp l xs r h3 q)
  | .lst l, _, p, ⟨a, xs, h1, h2, h3⟩, e => by
    subst h1
    simp only [D.pd] at e
    cases q : pdL l with
    | none =>
      rw [q] at e
      cases e
    | some r =>
      rw [q] at e
      cases e
      exact .lst (SqL.of h2) (DenL.dp l xs r h3 q)
  | .dct _ _, _, p, _, e => by simp only [D.pd] at e; cases e
  | .obj _ _ _, _, p, _, e => by simp only [D.pd] at e; cases e
  | .fm _, _, p, _, e => by simp only [D.pd] at e; cases e
  | .scr _, _, p, ⟨a, h1, h2⟩, e => by simp only [D.pd] at e; cases e
theorem DenL.dp : ∀ (l : List D) (vs : List V) (ps : List PyData), DenL F T H l vs → pdL l = some ps → DpAll T.K H vs ps
  | [], _, ps, h, e => by
    have h : _ = _ := h
    simp only [pdL, Option.some.injEq] at e
    subst h e
    exact .nil
  | d :: l, _, ps, ⟨v, r, h1, h2, h3⟩, e => by
    subst h1
    simp only [pdL] at e
    cases q : D.pd d with
    | none =>
      rw [q] at e
      cases e
    | some p =>
      cases q2 : pdL l with
      | none =>
        rw [q, q2] at e
        cases e
      | some rs =>
        rw [q, q2] at e
        cases e
        exact .cons (Den.dp d v p h2 q) (DenL.dp l r rs h3 q2)
end
/-- d is the datum p: frozen, or an owned list of such -/
def Vp (W : Om) (d : D) (p : PyData) : Prop := d.pd = some p ∨ ∃ l, Vl W d l ∧ (D.lst l).pd = some p
theorem Vp.at {d : D} {p : PyData} {x : V} (h : Vp W d p) (di : Dis O H) (ow : Ow F T H C O W) (k : Den F T H d x) : Dp T.K (ov O H) x p := by
  rcases h with h | ⟨l, hv, h⟩
  · exact Den.dp d x p (k.mono di.same) h
  · obtain ⟨a, xs, e, hs, kl⟩ := hv.sq ow di k
    simp only [D.pd] at h
    cases q : pdL l with
    | none =>
      rw [q] at h
      cases h
    | some r =>
      rw [q] at h
      cases h
      subst e
      exact .lst hs (DenL.dp l xs r (kl.mono di.same) q)
theorem bo_eqD {d1 d2 : D} {p q : PyData} (h1 : Vp W d1 p) (h2 : Vp W d2 q) (s1 : SeqAt.shaped p = true) (s2 : SeqAt.shaped q = true) (r : R (.bl (PyData.eqv p q)) W) : Bo F T (rEqD T.K) d1 d2 W R := fun C H O di oc ow x y hx hy Q k =>
  ⟨p, q, h1.at di ow hx, h2.at di ow hy, s1, s2, k _ W H O _ r (.refl di oc ow) rfl⟩
theorem bo_neD {d1 d2 : D} {p q : PyData} (h1 : Vp W d1 p) (h2 : Vp W d2 q) (s1 : SeqAt.shaped p = true) (s2 : SeqAt.shaped q = true) (r : R (.bl (!PyData.eqv p q)) W) : Bo F T (rNeD T.K) d1 d2 W R := fun C H O di oc ow x y hx hy Q k =>
  ⟨p, q, h1.at di ow hx, h2.at di ow hy, s1, s2, k _ W H O _ r (.refl di oc ow) rfl⟩
end
mutual
/-- the datum of a value, for repr: an empty dict, too -/
inductive Dq (K : PySem.W.Frag) (H : Hp) : V → PyData → Prop
  | qn : Dq K H .non .none
  | qb (y : Bool) : Dq K H (.bl y) (.bool y)
  | qi (n : Int) : Dq K H (.int n) (.int n)
  | qs (t : Str) : Dq K H (.str t) (.str t)
  | ql {p : Addr} {vs : List V} {qs : List PyData} : SqL K H p vs → DqL K H vs qs → Dq K H (.ref p) (.list qs)
  | qt {p : Addr} {vs : List V} {qs : List PyData} : SqT K H p vs → DqL K H vs qs → Dq K H (.ref p) (.tuple qs)
  | qd {p : Addr} : H p = some (.dK []) → Dq K H (.ref p) (.dict [])
inductive DqL (K : PySem.W.Frag) (H : Hp) : List V → List PyData → Prop
  | n : DqL K H [] []
  | c {x : V} {vs : List V} {q : PyData} {qs : List PyData} : Dq K H x q → DqL K H vs qs → DqL K H (x :: vs) (q :: qs)
end
/-- a value whose repr the heap tells -/
def Told (P : Program) (w : World) (hp : Heap) (u : Value) (p : PyData) : Prop := ∃ ads bs, Reads hp u p ads ∧ ReadAtMost hp p.depth bs ∧ ReprK P w bs hp p.depth u p.shown
def ToldL (P : Program) (w : World) (hp : Heap) (us : List Value) (ps : List PyData) : Prop := ∃ ads bs, ReadsAll hp us ps ads ∧ ReadAtMost hp (PyData.depthAll ps) bs ∧ ReprAllK P w bs hp (PyData.depthAll ps) us (PyData.shownAll ps)
theorem ToldL.c {P : Program} {w : World} {hp : Heap} {u : Value} {us : List Value} {p : PyData} {ps : List PyData} (h1 : Told P w hp u p) (h2 : ToldL P w hp us ps) : ToldL P w hp (u :: us) (p :: ps) := by
  obtain ⟨a1, b1, r1, m1, k1⟩ := h1
  obtain ⟨a2, b2, r2, m2, k2⟩ := h2
  have l1 : p.depth ≤ PyData.depthAll (p :: ps) := by simp only [PyData.depthAll]; omega
  have l2 : PyData.depthAll ps ≤ PyData.depthAll (p :: ps) := by simp only [PyData.depthAll]; omega
  refine ⟨a1 ++ a2, b1 ++ b2, .cons r1 r2, (m1.mono l1).append (m2.mono l2), ?_⟩
  simp only [PyData.shownAll]
  exact .cons ((k1.more fun _ z => List.mem_append_left _ z).level_le l1) (k2.more_le (fun _ z => List.mem_append_right _ z) l2)
section
variable {X : Cx} {pins : List (Addr × Obj)} {σ : L2.St} {H : Hp} {s : Shared}
/-- an empty dict in the heap -/
theorem dk_nil {p : Addr} (I : Inv X pins σ H s) (h : H p = some (.dK [])) : ∃ o n, s.heap.get? p = some o ∧ o.cls = .type "dict" ∧ o.data = .dict #[] n ∧ (p == sysModules) = false := by
  obtain ⟨_, hn, vs, rel, o, es, n, ho, hx, hd, _, hp, _⟩ := dk_of I.hok h
  cases rel
  have e : es = #[] := by
    obtain ⟨l⟩ := es
    have hp : Pairs _ l [] := hp
    cases hp
    rfl
  exact ⟨o, n, ho, hx.1, e ▸ hd, hn⟩
mutual
theorem Dq.told (I : Inv X pins σ H s) : ∀ (p : PyData) (x : V) (u : Value), Dq X.K H x p → RelV x u → p.showable = true → p.shown.length ≤ sizeLine → Told X.prog X.w s.heap u p
  | .none, _, _, h, r, _, _ => by
    cases h
    cases r
    refine ⟨_, [], .none, (fun _ z => nomatch z), ?_⟩
    simp only [PyData.shown]
    exact .of_is .none _ _ _
  | .bool b, _, _, h, r, _, _ => by
    cases h
    cases r
    refine ⟨_, [], .bool b, (fun _ z => nomatch z), ?_⟩
    simp only [PyData.shown]
    exact .of_is (.bool b) _ _ _
  | .int i, _, _, h, r, hs, _ => by
    cases h
    obtain ⟨t, rfl⟩ := r
    have hi : i.natAbs.log2 < 1920 := by simpa [PyData.showable] using hs
    refine ⟨_, [], .int i t, (fun _ z => nomatch z), ?_⟩
    simp only [PyData.shown]
    exact .of_is (.int t hi) _ _ _
  | .str y, _, _, h, r, _, hz => by
    cases h
    obtain ⟨t, rfl⟩ := r
    have hy : (reprText y).length ≤ sizeLine := by simpa only [PyData.shown] using hz
    refine ⟨_, [], .str y t, (fun _ z => nomatch z), ?_⟩
    simp only [PyData.shown]
    exact .of_is (.str y t hy) _ _ _
  | .list l, _, _, h, r, hs, hz => by
    cases h with
    | ql sq q =>
      cases r
      obtain ⟨its, rv, ⟨o, n, ho, hc, _, hd⟩, _⟩ := I.list sq
      have hl : (listText (PyData.shownAll l)).length ≤ sizeLine := by simpa only [PyData.shown] using hz
      obtain ⟨ads, bs, rd, am, k⟩ := DqL.told I l _ its q rv (by simpa [PyData.showable] using hs) fun t ht => Nat.le_trans (listText_mem_le ht) hl
      have whole : Reads s.heap _ (.list l) _ := .list ho hc hd rd
      have out := not_mem_of_deeper whole (by simp only [PyData.depth]; omega) am
      refine ⟨_, _, whole, .cons whole (by simp only [PyData.depth]; omega) am, ?_⟩
      simp only [PyData.shown, PyData.depth]
      cases its with
      | nil =>
        cases rd
        exact ReprK.listEmpty ho hc hd
      | cons y t => exact ReprK.list ho hc hd out (by simpa using k.length_eq) fun i z e => k.item i z (by simpa using e)
  | .tuple l, _, _, h, r, hs, hz => by
    cases h with
    | qt sq q =>
      cases r
      obtain ⟨its, rv, ⟨o, ho, hc, n, hd⟩, _⟩ := I.tuple sq
      have hl : (tupleText (PyData.shownAll l)).length ≤ sizeLine := by simpa only [PyData.shown] using hz
      obtain ⟨ads, bs, rd, am, k⟩ := DqL.told I l _ its q rv (by simpa [PyData.showable] using hs) fun t ht => Nat.le_trans (tupleText_mem_le ht) hl
      have whole : Reads s.heap _ (.tuple l) _ := .tuple ho hc hd rd
      have out := not_mem_of_deeper whole (by simp only [PyData.depth]; omega) am
      refine ⟨_, _, whole, .cons whole (by simp only [PyData.depth]; omega) am, ?_⟩
      simp only [PyData.shown, PyData.depth]
      exact ReprK.tuple ho hc hd out k
  | .dict _, _, _, h, r, _, _ => by
    cases h with
    | qd hd =>
      cases r
      obtain ⟨o, n, ho, hc, hd, hn⟩ := dk_nil I hd
      have whole : Reads s.heap _ (.dict []) _ := .dict ho hc hd .nil .nil
      have am : ReadAtMost s.heap 0 [] := fun _ z => nomatch z
      refine ⟨_, _, whole, .cons whole (Nat.zero_le _) am, ?_⟩
      simp only [PyData.shown, PyData.depth, PyData.shownKv]
      exact ReprK.dict ho hc hd hn (fun z => nomatch z) .nil
theorem DqL.told (I : Inv X pins σ H s) : ∀ (ps : List PyData) (xs : List V) (us : List Value), DqL X.K H xs ps → Vals xs us → PyData.showableAll ps = true → (∀ t ∈ PyData.shownAll ps, t.length ≤ sizeLine) → ToldL X.prog X.w s.heap us ps
  | [], _, _, h, r, _, _ => by
    cases h
    cases r
    refine ⟨_, [], .nil, (fun _ z => nomatch z), ?_⟩
    simp only [PyData.shownAll]
    exact .nil
  | p :: ps, _, _, h, r, hs, hz => by
    cases h with
    | c q1 q2 =>
      cases r with
      | cons r1 r2 =>
        have hs : p.showable = true ∧ PyData.showableAll ps = true := by simpa [PyData.showableAll] using hs
        simp only [PyData.shownAll] at hz
        exact ToldL.c (Dq.told I p _ _ q1 r1 hs.1 (hz _ List.mem_cons_self)) (DqL.told I ps _ _ q2 r2 hs.2 fun t ht => hz t (List.mem_cons_of_mem _ ht))
end
end
structure ShwQ (p : PyData) : Prop where
  sh : p.showable = true
  dp : p.depth ≤ 30
  sz : p.shown.length ≤ sizeLine
structure Shw (p : PyData) : Prop where
  sh : p.showable = true
  nd : p.hasDict = false
  dp : p.depth ≤ 30
  sz : p.shown.length ≤ sizeLine
def rRep (K : PySem.W.Frag) : List V → Hp → VK → Prop := fun xs H Q => ∃ x p, xs = [x] ∧ Dq K H x p ∧ ShwQ p ∧ Q (.str p.shown) H
theorem call_repr_data {X : Cx} (hg : X.A.guards = some []) (hu : X.A.units + 64 < cLine) : CallR X (.builtin "repr") (rRep X.K) := by
  intro pins s σ H xs us Q I r h
  obtain ⟨x, p, rfl, hp, hs, q⟩ := h
  obtain ⟨u, rfl, rx⟩ := vals1 r
  have fin : ∀ t tk, EP X pins σ Q (.str p.shown t) { s with toks := tk } := fun t tk => ⟨.str p.shown, H, I.tok _, ⟨_, rfl⟩, q⟩
  have fin2 : ∀ h' t tk, (∀ b o, s.heap.get? b = some o → h'.get? b = some o) → EP X pins σ Q (.str p.shown t) { s with heap := h', toks := tk } := fun h' t tk hk => ⟨.str p.shown, H, I.kept (t' := tk) hk, ⟨_, rfl⟩, q⟩
  have hdp := hs.dp
  cases hp with
  | qn =>
    cases rx
    exact PySem.P.repr_of_none (fin _ _)
  | qb b =>
    cases rx
    refine PySem.P.repr_of_bool ?_
    have e : (if b then "True" else "False" : Str) = (PyData.bool b).shown := by cases b <;> rfl
    exact fin _ _
  | qi i =>
    obtain ⟨t, rfl⟩ := rx
    have h1 : i.natAbs.log2 < 1920 := by simpa [PyData.showable] using hs.sh
    exact PySem.P.repr_of_int h1 (fin _ _)
  | qs z =>
    obtain ⟨t, rfl⟩ := rx
    exact PySem.P.repr_of_str (fin _ _) (by simpa [PyData.shown] using hs.sz)
  | ql sq ql =>
    rename_i a vs l
    cases rx
    obtain ⟨its, rv, ⟨o, n, ho, hc, _, hd⟩, _⟩ := I.list sq
    have hl : (listText (PyData.shownAll l)).length ≤ sizeLine := by simpa only [PyData.shown] using hs.sz
    obtain ⟨ads, bs, rd, am, k⟩ := DqL.told I l _ its ql rv (by simpa [PyData.showable] using hs.sh) fun t ht => Nat.le_trans (listText_mem_le ht) hl
    have whole : Reads s.heap _ (.list l) _ := .list ho hc hd rd
    have out := not_mem_of_deeper whole (by simp only [PyData.depth]; omega) am
    simp only [PyData.depth] at hdp
    simp only [PyData.shown] at fin2
    refine call_repr_slot (by omega) ⟨o, ho, hc⟩ F.slot_list_repr.toG ?_
    cases its with
    | nil =>
      cases rd
      simp only [PyData.shownAll, listText_nil] at fin2
      exact call_list_repr_empty ⟨o, ho, hc⟩ ho hd ⟨_, _, rfl, fin2 _ _ _ fun _ _ e => e⟩
    | cons y t => exact call_list_reprK (h₀ := s.heap) ho hc hd out (by simpa using k.length_eq) (fun i z e => k.item i z (by simpa using e)) hg (fun b _ => Clear.nil b) (by show X.A.units + 1 + _ < _; omega) (fun _ _ e => e) (fun h' u tk hk => ⟨_, _, rfl, fin2 h' u tk hk⟩) hl
  | qt sq ql =>
    rename_i a vs l
    cases rx
    obtain ⟨its, rv, ⟨o, ho, hc, n, hd⟩, _⟩ := I.tuple sq
    have hl : (tupleText (PyData.shownAll l)).length ≤ sizeLine := by simpa only [PyData.shown] using hs.sz
    obtain ⟨ads, bs, rd, am, k⟩ := DqL.told I l _ its ql rv (by simpa [PyData.showable] using hs.sh) fun t ht => Nat.le_trans (tupleText_mem_le ht) hl
    have whole : Reads s.heap _ (.tuple l) _ := .tuple ho hc hd rd
    have out := not_mem_of_deeper whole (by simp only [PyData.depth]; omega) am
    simp only [PyData.depth] at hdp
    simp only [PyData.shown] at fin2
    refine call_repr_slot (by omega) ⟨o, ho, hc⟩ F.slot_tuple_repr ?_
    exact call_tuple_reprK (h₀ := s.heap) ho hc hd out k hg (fun b _ => Clear.nil b) (by show X.A.units + 1 + _ < _; omega) (fun _ _ e => e) (fun h' u tk hk => ⟨_, _, rfl, fin2 h' u tk hk⟩) hl
  | qd hd =>
    rename_i a
    cases rx
    obtain ⟨o, n, ho, hc, hd, hn⟩ := dk_nil I hd
    simp only [PyData.shown, PyData.shownKv] at fin2
    refine call_repr_slot (by omega) ⟨o, ho, hc⟩ F.slot_dict_repr ?_
    exact call_dict_reprK (h₀ := s.heap) (as := []) (d := 0) ho hc hd hn (fun z => nomatch z) .nil hg (fun b _ => Clear.nil b) (by show X.A.units + 1 + _ < _; omega) (fun _ _ e => e) (fun h' u tk hk => ⟨_, _, rfl, fin2 h' u tk hk⟩) (by simpa only [PyData.shown, PyData.shownKv] using hs.sz)
def FnG (P : Program) (w : World) (K : PySem.W.Frag) (mg : Str → Option Value) (base : Heap) (k : Nat) (f : Addr) (sp : Sp) : Prop :=
  ∀ (A : Around) (outer : List Env) (s : Shared) (H : Hp) (us : List Value) (vs : List V) (Q : VK), A.guards = some [] → Room k A → Env0 P w K mg base A outer s H → Vals vs us → sp vs H Q E0 → codeAny (model P w) A (.call (.ref f) ⟨us, []⟩) (CR CX0 outer P w H s Q E0) s
section
variable {P : Program} {w : World} {K : PySem.W.Frag} {mg : Str → Option Value} {base : Heap}
theorem Fun.okG {x qual : Str} {st : Stmt} {f : Addr} {fd : FuncData} {N ps : List Str} {k : Nat} {sp : Sp} (Fn : Fun K x qual st f fd) (S : FnScope N ps (defScope st)) (len : ∀ vs H Q E, sp vs H Q E → vs.length = ps.length)
    (hb : ∀ (kV doc pm : Value) (an : Option Addr) (cdv ct : Value) (us : List Value), us.length = ps.length → bindArgs (PySem.W.fnOf x qual (defArgs st) (defBody st) (defScope st) .none kV doc pm an cdv ct) ⟨us, []⟩ = pure (ps.zip us))
    (hbody : ∀ (cdv : Value) (A : Around) (outer : List Env) (s : Shared) (H : Hp) (vs : List V) (Q : VK), (A.deeper (envOfC qual (defScope st) s.heap.objs.size f cdv)).guards = some [] → Room k (A.deeper (envOfC qual (defScope st) s.heap.objs.size f cdv)) → sp vs H Q E0 →
      ∃ t, PSs (cxOf CX0 P w K mg base N qual (defScope st) f cdv A outer s H E0).nox (defBody st) t ∧ t { nx := fun _ H' => Q .non H', rt := Q } (start N vs) H) : FnG P w K mg base (k + 1) f sp := by
  obtain ⟨oc, od, kV, doc, pm, an, cdv, ct, osl, rfl, lk, hcd⟩ := Fn.ex
  intro A outer s H us vs Q hg hr e0 r hsp
  have hl := len _ _ _ _ hsp
  refine StX.run_bnd lk hcd S hr e0 (G := fun xs H2 => xs = vs ∧ H2 = H) (fun A' Ex Q' h => ?_) fun s2 H2 xs ⟨e1, e2⟩ hr' => ?_
  · rw [hb kV doc pm an cdv ct us (by rw [← r.length]; exact hl)]
    exact wpAny_pure (h s H vs us e0 Un.refl rfl (fun _ _ z => z) r hl ⟨rfl, rfl⟩)
  · subst e1 e2
    obtain ⟨t, ht, q⟩ := hbody cdv A outer s2 _ _ Q hg hr' hsp
    exact ⟨t, ht.nox, q⟩
theorem run_fnG {X : Cx} {k : Nat} {f : Addr} {sp : Sp} {pins : List (Addr × Obj)} {σ : L2.St} {H : Hp} {s : Shared} {us : List Value} {vs : List V} {Q : VK} (Fn : FnG X.prog X.w X.K X.mg X.base k f sp) (hg : X.A.guards = some []) (hr : Room k X.A) (I : Inv X pins σ H s) (r : Vals vs us) (h : sp vs H Q E0) :
    wpAny (model X.prog X.w) X.A (call (.ref f) us) (EP X pins σ Q) X.xe s := by
  refine wpAny_call (codeAny_mono (Fn X.A X.stack s H us vs Q hg hr I.env0 r h) fun r s' hq => ?_)
  cases r with
  | error e => exact False.elim hq
  | ok fl =>
    cases fl with
    | ret u => exact I.after hq
    | next => exact False.elim hq
    | brk => exact False.elim hq
    | cont => exact False.elim hq
/-- f(e, ..), f such a def -/
theorem pe_callG {X : Cx} {k : Nat} {f : Addr} {sp : Sp} {x : Str} {p pos : Pos} {e : Expr} {es : List Expr} {t : TA} (Fn : FnG X.prog X.w X.K X.mg X.base k f sp) (hgd : X.A.guards = some []) (hr : Room k X.A) (hg : Gl X x) (hm : X.mg x = some (.ref f)) (hk : PySem.W.keepIn X.K (.ref f) = true)
    (ha : PA X (e :: es) t) (hdb : (x == ("__debug__" : Str)) = false := by decide)
    (he : starEach (e :: es) X.env = (false, eval e X.env) :: starEach es X.env := by rfl) (hpl : (backTo pos (starEach es X.env)).any (·.1) = false := by rfl) : PE X (.Call (.Name x p) (e :: es) [] pos) (tCall sp [] E0 t) := by
  refine ⟨fun pins s σ H Q I h => ?_⟩
  refine wpAny_Call_Name_kw (ld_glob I hg hm ?_ hdb)
  refine PySem.W.callWith_K (h₀ := X.base) I.ok.mod.kin hk (thn (ha.run pos pins s σ H _ I h) fun us s1 ⟨vs, H1, I1, r, q⟩ => ⟨I1.kIn, ?_⟩) he hpl
  have q : sp (vs ++ []) H1 Q E0 := q
  rw [List.append_nil] at q
  exact run_fnG Fn hgd hr I1 r q
end
theorem lawG {P : Program} {w : World} {K : PySem.W.Frag} {mg mb : Str → Option Value} {k : Nat} {fa a : Addr} {sp : Sp} {s1 : Shared} {vs : List Value} {ns : List Int}
    (KX : K.In s1.heap) (hns : s1.heap.Ns mainGlobals mg) (hb : s1.heap.Ns builtinsNs mb) (hbb : ∀ x : Str, x ≠ "__name__" → mb x = bootBuiltins x) (hlim : s1.heap.NoLimit) (hg : s1.gens = #[])
    (ha : s1.heap.get? a = some { cls := .type "list", data := .seq vs.toArray }) (hi : IntsAre vs ns) (hl : ns.length ≤ sizeLine) (hr : Room k callerA)
    (Fn : ∀ base : Heap, K.In base → base.Ns mainGlobals mg → FnG P w K mg base k fa sp)
    (hsp : ∀ H : Hp, Only H → SqL K H a (ns.map V.int) → sp [.ref a] H (fun v _ => v = .bl true) E0) :
    codeAny (model P w) callerA (.call (.ref fa) ⟨[.ref a], []⟩) (fun r s' => r = .ok (.ret (.bool true)) ∧ OldK s1.heap s'.heap ∧ s'.os = s1.os ∧ AllBare s'.gens) s1 := by
  have rv := vals_ints hi
  have lenV := hi.length
  have core : ∀ H : Hp, Only H → SqL K H a (ns.map V.int) → HOk P w H s1.heap → (∀ b, H b ≠ none → b = a) → (H a ≠ none → K.lookup a = none) →
      codeAny (model P w) callerA (.call (.ref fa) ⟨[.ref a], []⟩) (fun r s' => r = .ok (.ret (.bool true)) ∧ OldK s1.heap s'.heap ∧ s'.os = s1.os ∧ AllBare s'.gens) s1 := by
    intro H hO hS hok hA hK
    have one : ∀ {b : Addr}, H b ≠ none → b = a := fun z => hA _ z
    have free : ∀ {b : Addr}, (b = a → False) → H b = none := fun {b} z => by
      cases q : H b with
      | none => rfl
      | some u => exact (z (one (by rw [q]; simp))).elim
    have notA : ∀ {b : Addr} {o : Obj} {es : Array DictEntry} {ep : Nat}, s1.heap.get? b = some o → o.data = .dict es ep → H b = none := fun {b o es ep} e d => free fun z => by
      subst z
      rw [ha] at e
      cases e
      cases (show Data.seq vs.toArray _ = Data.dict es ep from d)
    have nsK : ∀ {b : Addr} {m : Str → Option Value}, s1.heap.Ns b m → (hidT s1.heap H).Ns b m := fun ⟨o, es, ep, e, d, r⟩ => ⟨o, es, ep, hidT_get e (notA e d), d, r⟩
    have hKb : K.In (hidT s1.heap H) := fun b o e => hidT_get (KX b o e) (by
      cases q : H b with
      | none => rfl
      | some u =>
        have eb : b = a := one (by rw [q]; simp)
        subst eb
        rw [hK (by rw [q]; simp)] at e
        cases e)
    have hM : Mod K mg (hidT s1.heap H) := ⟨hKb, nsK hns, ⟨mb, nsK hb, hbb⟩, let ⟨mc, h1, h2⟩ := hlim; ⟨mc, nsK h1, h2⟩⟩
    have e0 : Env0 P w K mg (hidT s1.heap H) callerA [] s1 H := ⟨rfl, hM, fun b o e => of_hidT e, Nat.le_of_eq (hidT_size _ _), trivial, fun b hb => absurd (show b ∈ ([] : List Addr) from hb) (by simp), hok, .of_eq hg⟩
    refine codeAny_mono (Fn _ hKb (nsK hns) callerA [] s1 H [.ref a] [.ref a] _ rfl hr e0 (.cons rfl .nil) (hsp H hO hS)) fun r s' h => ?_
    cases r with
    | error e => exact False.elim h
    | ok fl =>
      cases fl with
      | next => exact False.elim h
      | brk => exact False.elim h
      | cont => exact False.elim h
      | ret u =>
        obtain ⟨v, H', os, bare, un, hok', r', q⟩ := h
        have ev : v = .bl true := q
        subst ev
        obtain rfl : u = Value.bool true := r'
        refine ⟨rfl, OldK.of_keep fun b o e => ?_, os, bare⟩
        cases q : H b with
        | none => exact un.keep b o e q (by intro z; exact absurd (show b ∈ ([] : List Addr) from z) (by simp)) (by simp)
        | some u =>
          rcases hO b with z | ⟨ob, xs, z⟩
          · rw [q] at z
            cases z
          · obtain ⟨e1, _⟩ := hok b _ z
            obtain ⟨e2, _⟩ := hok' b _ (un.frzs b ob _ z)
            rw [e] at e1
            cases e1
            exact e2
  cases hk : K.lookup a with
  | some o =>
    have e := KX a o hk
    rw [ha] at e
    cases e
    exact core (fun _ => none) (fun _ => .inl rfl) (.inr ⟨_, vs.toArray, _, hk, rfl, rfl, rfl, by rw [List.size_toArray, lenV]; exact hl, by simpa using rv⟩) (fun b u z => nomatch (show (none : Option HO) = some u from z)) (fun b z => absurd rfl z) fun z => absurd rfl z
  | none =>
    refine core (fun b => if b = a then some (.frz { cls := .type "list", data := .seq vs.toArray } (.lst (ns.map V.int))) else none) (fun b => ?_) (.inl (.inr ⟨{ cls := .type "list", data := .seq vs.toArray }, if_pos rfl⟩)) (fun b u z => ?_) (fun b z => ?_) fun _ => hk
    · by_cases hb : b = a
      · exact .inr ⟨_, _, if_pos hb⟩
      · exact .inl (if_neg hb)
    · by_cases hb : b = a
      · have e := (if_pos hb).symm.trans z
        cases e
        subst hb
        exact ⟨ha, by rw [List.length_map]; exact hl, vs, _, rv, ha⟩
      · cases (if_neg hb).symm.trans z
    · by_cases hb : b = a
      · exact hb
      · exact absurd (if_neg hb) z
theorem walkG {l : PySem.W.OpenLaw} {n k : Nat} {q : Program} {loose : List Str} {XP : (Str → Option Value) → Heap → Prop} {YP : World → Heap → Prop} {d : DefRec} {K : Params → PySem.W.Frag} {sp : PySem.W.Frag → Sp}
    (hn : l.most = some n) (hn2 : n ≤ sizeLine) (hdf : d.params.defaults = []) (hr : Room k callerA) (hY : ∀ (w : World) (h : Heap), YP w h → (K w.params).In h)
    (Fn : ∀ (w : World) (mg : Str → Option Value) (fa : Addr) (h : Heap), (K w.params).In h → h.Ns mainGlobals mg → mg d.name = some (.ref fa) → ∀ base : Heap, (K w.params).In base → base.Ns mainGlobals mg → FnG l.prog w (K w.params) mg base k fa (sp (K w.params)))
    (hsp : ∀ (K : PySem.W.Frag) (H : Hp) (a : Addr) (ns : List Int), ns.length ≤ n → Only H → SqL K H a (ns.map V.int) → sp K [.ref a] H (fun v _ => v = .bl true) E0) :
    PySem.W.WalkO q loose XP YP l.row.toRowW d [] (fun f vs => PySem.call f vs) := by
  refine Att.attach_call hn hdf fun w s0 s1 mg mb fa o pm cd doc a vs ns G Y ho hd hcd hmg hobj hints hlen hg => ?_
  have KX := hY w _ Y
  exact lawG KX G.T.g G.T.b G.T.builtins G.T.nolimit hg hobj hints (Nat.le_trans hlen hn2) hr (Fn w mg fa _ KX G.T.g hmg) fun H hO hS => hsp (K w.params) H a ns hlen hO hS
end N
set_option Elab.async false
set_option linter.all false
set_option maxRecDepth 100000
namespace N
open PySem PySem.Spec PyProof.Rows L2
def startD (N : List Str) (ds : List D) : Gm := ds.map some ++ List.replicate (N.length - ds.length) none
section
variable {F : FmKit} {T : Kx} {H : Hp}
theorem DenL.lo {N : List Str} {ds : List D} {vs : List V} (k : DenL F T H ds vs) : Lo F T H (startD N ds) (L2.start N vs) := by
  refine ⟨?_, fun i d h => ?_⟩
  · unfold L2.start startD
    simp [k.len]
  · unfold startD at h
    unfold L2.start
    by_cases hi : i < ds.length
    · rw [List.getElem?_append_left (by simpa using hi), List.getElem?_map] at h
      cases e : ds[i]? with
      | none =>
        rw [e] at h
        cases h
      | some d' =>
        rw [e] at h
        cases h
        obtain ⟨v, hv, kv⟩ := k.get e
        refine ⟨v, ?_, kv⟩
        rw [List.getElem?_append_left (by rw [List.length_map, k.len]; exact hi), List.getElem?_map, hv]
        rfl
    · rw [List.getElem?_append_right (by simpa using hi), List.getElem?_replicate] at h
      split at h <;> cases h
end
section
variable {P : Program} {w : World} {K : PySem.W.Frag} {mg : Str → Option Value} {base : Heap} {F : FmKit} {cl : Nat → Addr} {S : FS}
theorem spN_len {n : Nat} (len : ∀ ds W post, S ds W post → ds.length = n) : ∀ vs H Q E, spN F ⟨K, cl⟩ S vs H Q E → vs.length = n := fun vs H Q E ⟨ds, W, C, H1, O, post, _, _, _, _, k, h, _⟩ => by
  rw [k.len]
  exact len ds W post h
/-- the end of a body meets the wish of the call -/
theorem body_run {N : List Str} {t : TS} {vs : List V} {H : Hp} {Q : VK} {E : XK} (h : spN F ⟨K, cl⟩ S vs H Q E) (b : ∀ ds W post, S ds W post → Sw F ⟨K, cl⟩ t (startD N ds) W (E_ post)) : t { nx := fun _ H' => Q .non H', rt := Q } (L2.start N vs) H := by
  obtain ⟨ds, W, C, H1, O, post, e, di, oc, ow, k, hs, q⟩ := h
  subst e
  exact b ds W post hs C H1 O _ ⟨di, oc, k.lo, ow⟩ _ ⟨fun G W' H' O' σ' r n l => q .non W' H' O' .non r n rfl, fun d W' H' O' v r n kd => q d W' H' O' v r n kd, fun _ _ _ _ _ z => z.elim, fun _ _ _ _ _ z => z.elim⟩
theorem okD {x qual : Str} {st : Stmt} {f : Addr} {fd : FuncData} {N ps : List Str} {k : Nat} (Fn : Fun K x qual st f fd) (Sc : FnScope N ps (defScope st)) (len : ∀ ds W post, S ds W post → ds.length = ps.length)
    (body : ∀ (cdv : Value) (A : Around) (outer : List Env) (s : Shared) (H : Hp) (E : XK), Room k (A.deeper (envOfC qual (defScope st) s.heap.objs.size f cdv)) →
      ∃ t, PSs (cxOf CX0 P w K mg base N qual (defScope st) f cdv A outer s H E).nox (defBody st) t ∧ ∀ ds W post, S ds W post → Sw F ⟨K, cl⟩ t (startD N ds) W (E_ post)) : FnOk P w K mg base CX0 (k + 1) f fd ps (spN F ⟨K, cl⟩ S) :=
  Fn.ok Sc (spN_len len) fun cdv A outer s H vs Q E hr h => let ⟨t, ht, b⟩ := body cdv A outer s H E hr; ⟨t, ht, body_run h b⟩
theorem okG {x qual : Str} {st : Stmt} {f : Addr} {fd : FuncData} {N ps : List Str} {k : Nat} (Fn : Fun K x qual st f fd) (Sc : FnScope N ps (defScope st)) (len : ∀ ds W post, S ds W post → ds.length = ps.length)
    (hb : ∀ (kV doc pm : Value) (an : Option Addr) (cdv ct : Value) (us : List Value), us.length = ps.length → bindArgs (PySem.W.fnOf x qual (defArgs st) (defBody st) (defScope st) .none kV doc pm an cdv ct) ⟨us, []⟩ = pure (ps.zip us))
    (body : ∀ (cdv : Value) (A : Around) (outer : List Env) (s : Shared) (H : Hp), (A.deeper (envOfC qual (defScope st) s.heap.objs.size f cdv)).guards = some [] → Room k (A.deeper (envOfC qual (defScope st) s.heap.objs.size f cdv)) →
      ∃ t, PSs (cxOf CX0 P w K mg base N qual (defScope st) f cdv A outer s H E0).nox (defBody st) t ∧ ∀ ds W post, S ds W post → Sw F ⟨K, cl⟩ t (startD N ds) W (E_ post)) : FnG P w K mg base (k + 1) f (spN F ⟨K, cl⟩ S) :=
  Fun.okG Fn Sc (spN_len len) hb fun cdv A outer s H vs Q hg hr h => let ⟨t, ht, b⟩ := body cdv A outer s H hg hr; ⟨t, ht, body_run h b⟩
/-- a def with a star behind n names -/
def starS (n : Nat) (S : FS) : FS := fun ds W post => n ≤ ds.length ∧ ds.length ≤ 1000 ∧ S (ds.take n ++ [.tup (ds.drop n)]) W post
end
end N
set_option Elab.async false
set_option linter.all false
set_option maxRecDepth 100000
namespace N
open PySem PySem.Spec PyProof.Rows L2
open C8 (Cal Met Mak pe_c pe_mt pe_mt0 pe_mk)
/-- the built-in names that a text uses are not hidden -/
structure Blt (mg : Str → Option Value) : Prop where
  len : mg "len" = none
  int : mg "int" = none
  str : mg "str" = none
  range : mg "range" = none
  list : mg "list" = none
  tuple : mg "tuple" = none
  dict : mg "dict" = none
  set : mg "set" = none
  sorted : mg "sorted" = none
  isinstance : mg "isinstance" = none
  repr : mg "repr" = none
  max : mg "max" = none
  min : mg "min" = none
  sum : mg "sum" = none
  all : mg "all" = none
  any : mg "any" = none
  zip : mg "zip" = none
  enumerate : mg "enumerate" = none
  bool : mg "bool" = none
  reversed : mg "reversed" = none
  type : mg "type" = none
theorem bt_int : bootBuiltins "int" = some (.type "int") := by decide +kernel
theorem bt_str : bootBuiltins "str" = some (.type "str") := by decide +kernel
theorem bt_list : bootBuiltins "list" = some (.type "list") := by decide +kernel
theorem bt_tuple : bootBuiltins "tuple" = some (.type "tuple") := by decide +kernel
theorem bt_len : bootBuiltins "len" = some (.builtin "len") := by decide +kernel
theorem bt_sorted : bootBuiltins "sorted" = some (.builtin "sorted") := by decide +kernel
theorem bt_isinstance : bootBuiltins "isinstance" = some (.builtin "isinstance") := by decide +kernel
theorem bt_repr : bootBuiltins "repr" = some (.builtin "repr") := by decide +kernel
theorem bt_max : bootBuiltins "max" = some (.builtin "max") := by decide +kernel
theorem bt_bool : bootBuiltins "bool" = some (.type "bool") := by decide +kernel
theorem bt_all : bootBuiltins "all" = some (.builtin "all") := by decide +kernel
section
variable {P : Program} {w : World} {K : PySem.W.Frag} {mg : Str → Option Value} {base : Heap} {F : FmKit} {cl : Nat → Addr} {S : FS}
/-- a def of the module, by its promise -/
theorem calD {x : Str} {st : Stmt} {f : Addr} {fd : FuncData} {N ps : List Str} {k : Nat} (hm : mg x = some (.ref f)) (Fn : Fun K x x st f fd) (Sc : FnScope N ps (defScope st)) (len : ∀ ds W post, S ds W post → ds.length = ps.length)
    (hb : ∀ (kV doc pm : Value) (an : Option Addr) (cdv ct : Value) (us : List Value), us.length = ps.length → bindArgs (PySem.W.fnOf x x (defArgs st) (defBody st) (defScope st) .none kV doc pm an cdv ct) ⟨us, []⟩ = pure (ps.zip us))
    (body : ∀ (cdv : Value) (A : Around) (outer : List Env) (s : Shared) (H : Hp) (E : XK), Room k (A.deeper (envOfC x (defScope st) s.heap.objs.size f cdv)) →
      ∃ t, PSs (cxOf CX0 P w K mg base N x (defScope st) f cdv A outer s H E).nox (defBody st) t ∧ ∀ ds W post, S ds W post → Sw F ⟨K, cl⟩ t (startD N ds) W (E_ post)) : Cal P w K mg base (k + 1) x (spN F ⟨K, cl⟩ S) [] :=
  ⟨f, fd, ps, [], okD Fn Sc len body, hm, Fn.kp, Fn.binds hb, .nil⟩
/-- .. that knows that no guard runs -/
structure CalG (P : Program) (w : World) (K : PySem.W.Frag) (mg : Str → Option Value) (base : Heap) (k : Nat) (x : Str) (sp : Sp) : Prop where
  ex : ∃ f : Addr, FnG P w K mg base k f sp ∧ mg x = some (.ref f) ∧ PySem.W.keepIn K (.ref f) = true
theorem calG {x : Str} {st : Stmt} {f : Addr} {fd : FuncData} {N ps : List Str} {k : Nat} (hm : mg x = some (.ref f)) (Fn : Fun K x x st f fd) (Sc : FnScope N ps (defScope st)) (len : ∀ ds W post, S ds W post → ds.length = ps.length)
    (hb : ∀ (kV doc pm : Value) (an : Option Addr) (cdv ct : Value) (us : List Value), us.length = ps.length → bindArgs (PySem.W.fnOf x x (defArgs st) (defBody st) (defScope st) .none kV doc pm an cdv ct) ⟨us, []⟩ = pure (ps.zip us))
    (body : ∀ (cdv : Value) (A : Around) (outer : List Env) (s : Shared) (H : Hp), (A.deeper (envOfC x (defScope st) s.heap.objs.size f cdv)).guards = some [] → Room k (A.deeper (envOfC x (defScope st) s.heap.objs.size f cdv)) →
      ∃ t, PSs (cxOf CX0 P w K mg base N x (defScope st) f cdv A outer s H E0).nox (defBody st) t ∧ ∀ ds W post, S ds W post → Sw F ⟨K, cl⟩ t (startD N ds) W (E_ post)) : CalG P w K mg base (k + 1) x (spN F ⟨K, cl⟩ S) :=
  ⟨f, okG Fn Sc len hb body, hm, Fn.kp⟩
/-- an own method by its promise: operators, str, len -/
structure Opn (P : Program) (w : World) (K : PySem.W.Frag) (mg : Str → Option Value) (base : Heap) (k : Nat) (C : Addr) (m : Str) (sp : Sp) : Prop where
  ex : ∃ (f : Addr) (fd : FuncData) (ps : List Str), Own2 K C m f ∧ FnOk P w K mg base CX0 k f fd ps sp ∧ Binds K fd ps []
theorem opnD {m qual : Str} {C : Addr} {st : Stmt} {f : Addr} {fd : FuncData} {N ps : List Str} {k : Nat} (o : Own2 K C m f) (Fn : Fun K m qual st f fd) (Sc : FnScope N ps (defScope st)) (len : ∀ ds W post, S ds W post → ds.length = ps.length)
    (hb : ∀ (kV doc pm : Value) (an : Option Addr) (cdv ct : Value) (us : List Value), us.length = ps.length → bindArgs (PySem.W.fnOf m qual (defArgs st) (defBody st) (defScope st) .none kV doc pm an cdv ct) ⟨us, []⟩ = pure (ps.zip us))
    (body : ∀ (cdv : Value) (A : Around) (outer : List Env) (s : Shared) (H : Hp) (E : XK), Room k (A.deeper (envOfC qual (defScope st) s.heap.objs.size f cdv)) →
      ∃ t, PSs (cxOf CX0 P w K mg base N qual (defScope st) f cdv A outer s H E).nox (defBody st) t ∧ ∀ ds W post, S ds W post → Sw F ⟨K, cl⟩ t (startD N ds) W (E_ post)) : Opn P w K mg base (k + 1) C m (spN F ⟨K, cl⟩ S) :=
  ⟨f, fd, ps, o, okD Fn Sc len body, Fn.binds hb⟩
end
section
variable {X : Cx} {k j : Nat} {x : Str} {C : Addr} {sp : Sp} {e : Expr} {es : List Expr} {t : TA} {p pos : Pos} {F : FmKit} {T : Kx} {S : FS}
theorem pe_cg (c : CalG X.prog X.w X.K X.mg X.base k x sp) (hgd : X.A.guards = some []) (hr : Room j X.A) (hk : k ≤ j) (hg : Gl X x) (ha : PA X (e :: es) t) (hdb : (x == ("__debug__" : Str)) = false := by decide)
    (he : starEach (e :: es) X.env = (false, eval e X.env) :: starEach es X.env := by rfl) (hpl : (backTo pos (starEach es X.env)).any (·.1) = false := by rfl) : PE X (.Call (.Name x p) (e :: es) [] pos) (tCall sp [] E0 t) := by
  obtain ⟨f, h, hm, hk'⟩ := c.ex
  exact pe_callG h hgd (hr.mono hk) hg hm hk' ha hdb he hpl
def rStrO (C : Addr) (sp : Sp) : List V → Hp → VK → Prop := fun xs H Q => ∃ a dx fs, xs = [.ref a] ∧ H a = some (.ins C dx fs) ∧ sp [.ref a] H (fun v H' => (∃ z, v = .str z) ∧ Q v H') E0
theorem call_str_opn (o : Opn X.prog X.w X.K X.mg X.base k C "__str__" sp) (hr : Room j X.A) (hk : k + 2 ≤ j) : CallR X (.type "str") (rStrO C sp) := by
  obtain ⟨f, fd, ps, o2, h, b⟩ := o.ex
  exact call_own_str h (hr.mono hk) o2 b pass0
def rLenO (C : Addr) (sp : Sp) : List V → Hp → VK → Prop := fun xs H Q => ∃ a dx fs, xs = [.ref a] ∧ H a = some (.ins C dx fs) ∧ sp [.ref a] H (fun v H' => (∃ n : Int, v = .int n ∧ 0 ≤ n ∧ n < 2 ^ 63) ∧ Q v H') E0
theorem call_len_opn (o : Opn X.prog X.w X.K X.mg X.base k C "__len__" sp) (hr : Room j X.A) (hk : k + 1 ≤ j) : CallR X (.builtin "len") (rLenO C sp) := by
  obtain ⟨f, fd, ps, o2, h, b⟩ := o.ex
  exact call_own_len h (hr.mono hk) o2 b pass0
end
section
variable {F : FmKit} {T : Kx} {C H H' O O' : Hp} {G : Gm} {W W' : Om} {R : D → Om → Prop} {S : FS} {ta : TE} {c : Nat}
theorem ev_un {r : V → Hp → VK → Prop} (h : Ev F T ta G W fun d W1 => Ca F T (fun xs H Q => ∃ x, xs = [x] ∧ r x H Q) [d] W1 R) : Ev F T (tUn r ta) G W R := fun C H O σ w Q q =>
  h C H O σ w _ fun d W1 H1 O1 x h1 n1 k1 => by
    obtain ⟨y, e, hr⟩ := h1 C H1 O1 n1.dis n1.oc n1.own [x] (.one k1) Q fun d W' H' O' v rr n k => q d W' H' O' v rr (n1.trans n) k
    cases e
    exact hr
theorem ca_own1 {d : D} {ns : List Str} {l : List D} (i1 : Inst F W d c ns l) (h : Hand S [d] W R) : Ca F T (fun xs H Q => ∃ x, xs = [x] ∧ rOwn1 (T.cl c) (spN F T S) E0 x H Q) [d] W R := ca_one fun C H O di oc ow x k Q q => by
  obtain ⟨a, dx, fs, ex, ha, _⟩ := i1.at di ow k
  exact ⟨x, rfl, a, dx, fs, ex, ha, h.run di oc ow (.one k) q⟩
theorem ca_strO {d : D} {ns : List Str} {l : List D} (i1 : Inst F W d c ns l) (h : Hand S [d] W fun d' W' => (∃ z, d' = .str z) ∧ R d' W') : Ca F T (rStrO (T.cl c) (spN F T S)) [d] W R := ca_one fun C H O di oc ow x k Q q => by
  obtain ⟨a, dx, fs, ex, ha, _⟩ := i1.at di ow k
  subst ex
  refine ⟨a, dx, fs, rfl, ha, h.run di oc ow (.one k) fun d' W' H' O' v ⟨⟨z, ez⟩, r⟩ n kd => ⟨⟨z, ?_⟩, q d' W' H' O' v r n kd⟩⟩
  subst ez
  exact kd
theorem ca_lenO {d : D} {ns : List Str} {l : List D} (i1 : Inst F W d c ns l) (h : Hand S [d] W fun d' W' => (∃ n : Int, d' = .int n ∧ 0 ≤ n ∧ n < 2 ^ 63) ∧ R d' W') : Ca F T (rLenO (T.cl c) (spN F T S)) [d] W R := ca_one fun C H O di oc ow x k Q q => by
  obtain ⟨a, dx, fs, ex, ha, _⟩ := i1.at di ow k
  subst ex
  refine ⟨a, dx, fs, rfl, ha, h.run di oc ow (.one k) fun d' W' H' O' v ⟨⟨z, ez, h0, h1⟩, r⟩ n kd => ⟨⟨z, ?_, h0, h1⟩, q d' W' H' O' v r n kd⟩⟩
  subst ez
  exact kd
end
end N
set_option Elab.async false
set_option linter.all false
set_option maxRecDepth 100000
namespace N
open PySem PySem.Spec PyProof.Rows L2
section
variable {F : FmKit} {T : Kx} {C H H' O O' : Hp} {G : Gm} {W W' : Om} {R : D → Om → Prop} {S : FS} {ta tb te : TE} {tr : TA} {c : Nat} {t u : TT} {Z : Bool → Om → Prop} {ts tz : TS} {E : En}
theorem bo_I0 {g : Int → Int → V} {i j : Int} (h : R (.vl (g i j)) W) : Bo F T (rI0 g) (.int i) (.int j) W R := op_sc fun H Q k => ⟨i, j, rfl, rfl, k _ h⟩
theorem bo_I {Cc : Int → Int → Prop} {g : Int → Int → V} {i j : Int} (hc : Cc i j) (h : R (.vl (g i j)) W) : Bo F T (rI Cc g) (.int i) (.int j) W R := op_sc fun H Q k => ⟨i, j, rfl, rfl, hc, k _ h⟩
theorem bo_eq {x y : V} (hs : scal x y = true) (h : R (.bl (decide (x = y))) W) : Bo F T rEq (.vl x) (.vl y) W R := op_sc fun H Q k => ⟨hs, k _ h⟩
theorem bo_ne {x y : V} (hs : scal x y = true) (h : R (.bl (!decide (x = y))) W) : Bo F T rNe (.vl x) (.vl y) W R := op_sc fun H Q k => ⟨hs, k _ h⟩
theorem dec_int (i j : Int) : decide (V.int i = V.int j) = decide (i = j) := by
  by_cases h : i = j
  · subst h
    simp
  · rw [decide_eq_false h, decide_eq_false (fun e => h (V.int.inj e))]
theorem dec_str (i j : Str) : decide (V.str i = V.str j) = decide (i = j) := by
  by_cases h : i = j
  · subst h
    simp
  · rw [decide_eq_false h, decide_eq_false (fun e => h (V.str.inj e))]
theorem dec_bl (i j : Bool) : decide (V.bl i = V.bl j) = decide (i = j) := by cases i <;> cases j <;> decide
theorem bo_eqI {i j : Int} (h : R (.bl (decide (i = j))) W) : Bo F T rEq (.int i) (.int j) W R := bo_eq rfl (by rw [dec_int]; exact h)
theorem bo_neI {i j : Int} (h : R (.bl (!decide (i = j))) W) : Bo F T rNe (.int i) (.int j) W R := bo_ne rfl (by rw [dec_int]; exact h)
theorem bo_eqS {i j : Str} (h : R (.bl (decide (i = j))) W) : Bo F T rEq (.str i) (.str j) W R := bo_eq rfl (by rw [dec_str]; exact h)
theorem bo_neS {i j : Str} (h : R (.bl (!decide (i = j))) W) : Bo F T rNe (.str i) (.str j) W R := bo_ne rfl (by rw [dec_str]; exact h)
theorem bo_eqB {i j : Bool} (h : R (.bl (decide (i = j))) W) : Bo F T rEq (.bl i) (.bl j) W R := bo_eq rfl (by rw [dec_bl]; exact h)
theorem bo_neB {i j : Bool} (h : R (.bl (!decide (i = j))) W) : Bo F T rNe (.bl i) (.bl j) W R := bo_ne rfl (by rw [dec_bl]; exact h)
theorem ca_int {i : Int} (h : R (.int i) W) : Ca F T (fun xs H Q => (∃ i, xs = [.int i] ∧ Q (.int i) H) ∨ ∃ k, xs = [.bl k] ∧ Q (.int (if k then 1 else 0)) H) [.int i] W R := cl_sc (xs := [.int i]) fun H Q k => .inl ⟨i, rfl, k _ h⟩
theorem ca_intB {b : Bool} (h : R (.int (if b then 1 else 0)) W) : Ca F T (fun xs H Q => (∃ i, xs = [.int i] ∧ Q (.int i) H) ∨ ∃ k, xs = [.bl k] ∧ Q (.int (if k then 1 else 0)) H) [.bl b] W R := cl_sc (xs := [.bl b]) fun H Q k => .inr ⟨b, rfl, k _ h⟩
theorem ca_max2 {i j : Int} (h : R (.int (if j > i then j else i)) W) : Ca F T (fun xs H Q => ∃ i j, xs = [.int i, .int j] ∧ Q (.int (if j > i then j else i)) H) [.int i, .int j] W R := cl_sc (xs := [.int i, .int j]) fun H Q k => ⟨i, j, rfl, k _ h⟩
theorem ca_min2 {i j : Int} (h : R (.int (if j < i then j else i)) W) : Ca F T (fun xs H Q => ∃ i j, xs = [.int i, .int j] ∧ Q (.int (if j < i then j else i)) H) [.int i, .int j] W R := cl_sc (xs := [.int i, .int j]) fun H Q k => ⟨i, j, rfl, k _ h⟩
/-- a chain of comparisons -/
theorem ev_chain {r r' : R2} {tc : TE} (h : Ev F T ta G W fun d1 W1 => Ev F T tb G W1 fun d2 W2 => Bo F T r d1 d2 W2 fun z W3 => ∃ b, z = .bl b ∧ if b = true then Ev F T tc G W3 fun d3 W4 => Bo F T r' d2 d3 W4 R else R (.bl false) W3) : Ev F T (tChain r r' ta tb tc) G W R := fun C H O σ w Q q =>
  h C H O σ w _ fun d1 W1 H1 O1 x h1 n1 k1 => h1 C H1 O1 σ (w.step n1) _ fun d2 W2 H2 O2 y h2 n2 k2 =>
    h2 C H2 O2 n2.dis n2.oc n2.own x y (k1.mono n2.ext) k2 _ fun z W3 H3 O3 v ⟨b, ez, hb⟩ n3 k3 => by
      subst ez
      have k3 : v = .bl b := k3
      refine ⟨b, k3, ?_⟩
      cases b with
      | true => exact hb C H3 O3 σ (((w.step n1).step n2).step n3) _ fun d3 W4 H4 O4 zv h4 n4 k4 => h4 C H4 O4 n4.dis n4.oc n4.own y zv ((k2.mono n3.ext).mono n4.ext) k4 Q fun d W' H' O' v rr n k => q d W' H' O' v rr ((((n1.trans n2).trans n3).trans n4).trans n) k
      | false => exact q _ W3 H3 O3 _ hb ((n1.trans n2).trans n3) rfl
theorem et_chain {r r' : R2} {tc : TE} (h : Ev F T (tChain r r' ta tb tc) G W fun d W1 => ∃ b, d = .bl b ∧ Z b W1) : EvT F T (tTest (tChain r r' ta tb tc)) G W Z := et_test h
theorem if_so {c : Bool} {A B : Prop} (hc : c = true) (h : A) : if c = true then A else B := by rw [if_pos hc]; exact h
theorem if_not {c : Bool} {A B : Prop} (hc : c = false) (h : B) : if c = true then A else B := by rw [if_neg (by rw [hc]; exact Bool.false_ne_true)]; exact h
theorem if_dec {p A B : Prop} [Decidable p] (h1 : p → A) (h2 : ¬ p → B) : if decide p = true then A else B := by
  by_cases h : p
  · exact if_so (decide_eq_true h) (h1 h)
  · exact if_not (decide_eq_false h) (h2 h)
theorem if_bl {c : Bool} {A B : Prop} (h1 : c = true → A) (h2 : c = false → B) : if c = true then A else B := by
  cases c with
  | true => exact if_so rfl (h1 rfl)
  | false => exact if_not rfl (h2 rfl)
/-- slices of lists, in plain data -/
def cutD (xs : List D) (lo hi : Option Int) : List D := (xs.drop (HT.sIx xs.length 0 lo)).take (HT.sIx xs.length xs.length hi - HT.sIx xs.length 0 lo)
theorem DenL.cut {l : List D} {xs : List V} (k : DenL F T H l xs) (lo hi : Option Int) : DenL F T H (cutD l lo hi) (cutV xs lo hi) := by
  unfold cutD cutV
  rw [k.len]
  exact (k.drop _).take _
theorem eo_none {Y : Option Int → Om → Prop} (h : Y none W) : EvO F T tNoPart G W Y := fun C H O σ w Q q => q none W H O h w.nx
theorem eo_some {Y : Option Int → Om → Prop} (h : Ev F T te G W fun d W1 => ∃ i, d = .int i ∧ Y (some i) W1) : EvO F T (tPart te) G W Y := fun C H O σ w Q q =>
  h C H O σ w _ fun d W1 H1 O1 x ⟨i, e, y⟩ n k => by
    subst e
    exact ⟨i, k, q (some i) W1 H1 O1 y n⟩
theorem ev_sl {r : V → Option Int → Option Int → Hp → VK → Prop} {tl th : TO} (h : Ev F T te G W fun d W1 => EvO F T tl G W1 fun lo W2 => EvO F T th G W2 fun hi W3 => Ca F T (fun xs H Q => ∃ x, xs = [x] ∧ r x lo hi H Q) [d] W3 R) : Ev F T (tSl r te tl th) G W R := fun C H O σ w Q q =>
  h C H O σ w _ fun d W1 H1 O1 x h1 n1 k1 => h1 C H1 O1 σ (w.step n1) _ fun lo W2 H2 O2 h2 n2 => h2 C H2 O2 σ ((w.step n1).step n2) _ fun hi W3 H3 O3 h3 n3 => by
    obtain ⟨y, e, hr⟩ := h3 C H3 O3 n3.dis n3.oc n3.own [x] (.one ((k1.mono n2.ext).mono n3.ext)) Q fun d W' H' O' v rr n k => q d W' H' O' v rr (((n1.trans n2).trans n3).trans n) k
    cases e
    exact hr
theorem ca_slL {d : D} {l : List D} {lo hi : Option Int} (hv : Vl W d l) (r : ∀ p, p ∉ akeys W → R (.adr p) ((p, .lst (cutD l lo hi)) :: W)) : Ca F T (fun xs H Q => ∃ x, xs = [x] ∧ rSlL T.K x lo hi H Q) [d] W R := ca_one fun C H O di oc ow x k Q q => by
  obtain ⟨a, xs, e, hs, kl⟩ := hv.sq ow di k
  subst e
  refine ⟨_, rfl, a, xs, rfl, hs, fun p hp => ?_⟩
  obtain ⟨n2, e, np⟩ := (Nx.refl di oc ow).newO (od := .lst (cutD l lo hi)) (o := .lst (cutV xs lo hi)) hp ⟨_, rfl, kl.cut lo hi⟩
  rw [e]
  exact q (.adr p) _ _ _ _ (r p np) n2 rfl
theorem ev_revL (h : Ev F T te G W fun d W1 => ∃ l, Vl W1 d l ∧ ∀ p, p ∉ akeys W1 → R (.adr p) ((p, .lst l.reverse) :: W1)) : Ev F T (tRevL T.K te) G W R := fun C H O σ w Q q =>
  h C H O σ w _ fun d W1 H1 O1 x ⟨l, hv, r⟩ n k => by
    obtain ⟨a, xs, e, hs, kl⟩ := hv.sq n.own n.dis k
    subst e
    refine ⟨a, xs, rfl, hs, fun p hp => ?_⟩
    obtain ⟨n2, e, np⟩ := n.newO (od := .lst l.reverse) (o := .lst xs.reverse) hp ⟨_, rfl, kl.reverse⟩
    rw [e]
    exact q (.adr p) _ _ _ _ (r p np) n2 rfl
end
theorem canLay_ints : ∀ ns : List Int, PyData.canLayAll0 (ns.map .int) = true
  | [] => rfl
  | n :: ns => by
    rw [List.map_cons, PyData.canLayAll0, canLay_ints ns]
    rfl
theorem depth_ints : ∀ ns : List Int, PyData.depthAll (ns.map .int) = 0
  | [] => rfl
  | n :: ns => by
    rw [List.map_cons, PyData.depthAll, depth_ints ns]
    rfl
theorem shaped_ints (ns : List Int) : SeqAt.shaped (.list (ns.map .int)) = true := by
  unfold SeqAt.shaped
  rw [PyData.canLay0, canLay_ints, PyData.depth, depth_ints]
  decide
theorem eqv_nil {ds : List PyData} : (PyData.list ds).eqv (.list []) = ds.isEmpty := by
  cases ds with
  | nil => simp [PyData.eqv, PyData.eqvAll]
  | cons d ds => simp [PyData.eqv, PyData.eqvAll]
theorem vp_ints {W : Om} {d : D} {ns : List Int} (h : Vl W d (ns.map D.int)) : Vp W d (.list (ns.map .int)) := .inr ⟨_, h, pd_lst (pdL_map D.int .int (fun _ => rfl) ns)⟩
theorem vp_nil {W : Om} : Vp W (.lst []) (.list []) := .inl rfl
end N
set_option Elab.async false
set_option linter.all false
set_option maxRecDepth 100000
namespace N
open PySem PySem.Spec PyProof.Rows L2
theorem str_ext {x y : Str} (h : x.cps.toList = y.cps.toList) : x = y := by
  cases x
  cases y
  congr 1
  exact Array.toList_inj.mp h
theorem str_app (x y : Str) : (x ++ y).cps.toList = x.cps.toList ++ y.cps.toList := by
  show (x.cps ++ y.cps).toList = _
  rw [Array.toList_append]
theorem str_len (x : Str) : x.length = x.cps.toList.length := by
  show x.cps.size = _
  rw [Array.length_toList]
theorem str_app_len (x y : Str) : (x ++ y).length = x.length + y.length := by rw [str_len, str_app, List.length_append, ← str_len, ← str_len]
def ltS (x y : Str) : Bool := ltCps x.cps.toList y.cps.toList
theorem ltCps_irrefl : ∀ a : List Nat, ltCps a a = false
  | [] => rfl
  | a :: r => by simp [ltCps, ltCps_irrefl r]
theorem ltCps_trans : ∀ {a b c : List Nat}, ltCps a b = true → ltCps b c = true → ltCps a c = true
  | [], [], c, h, _ => by simp [ltCps] at h
  | [], _ :: _, [], _, h => by simp [ltCps] at h
  | [], _ :: _, _ :: _, _, _ => rfl
  | _ :: _, [], _, h, _ => by simp [ltCps] at h
  | _ :: _, _ :: _, [], _, h => by simp [ltCps] at h
  | x :: a, y :: b, z :: c, h1, h2 => by
    simp only [ltCps, Bool.or_eq_true, decide_eq_true_eq, Bool.and_eq_true, beq_iff_eq] at h1 h2 ⊢
    rcases h1 with h1 | ⟨h1, h3⟩ <;> rcases h2 with h2 | ⟨h2, h4⟩
    · exact .inl (by omega)
    · exact .inl (by omega)
    · exact .inl (by omega)
    · exact .inr ⟨by omega, ltCps_trans h3 h4⟩
theorem ltCps_total : ∀ {a b : List Nat}, ltCps a b = false → ltCps b a = false → a = b
  | [], [], _, _ => rfl
  | [], _ :: _, h, _ => by simp [ltCps] at h
  | _ :: _, [], _, h => by simp [ltCps] at h
  | x :: a, y :: b, h1, h2 => by
    simp only [ltCps, Bool.or_eq_false_iff, decide_eq_false_iff_not, Bool.and_eq_false_iff, beq_eq_false_iff_ne] at h1 h2
    have e : x = y := by omega
    subst e
    rw [ltCps_total (h1.2.resolve_left (by simp)) (h2.2.resolve_left (by simp))]
theorem ltS_irrefl (x : Str) : ltS x x = false := ltCps_irrefl _
theorem ltS_trans {x y z : Str} (h : ltS x y = true) (k : ltS y z = true) : ltS x z = true := ltCps_trans h k
theorem ltS_total {x y : Str} (h : ltS x y = false) (k : ltS y x = false) : x = y := str_ext (ltCps_total h k)
theorem ltS_of {x y : Str} (h : ltS y x = false) (ne : x ≠ y) : ltS x y = true := by
  cases e : ltS x y with
  | true => rfl
  | false => exact absurd (ltS_total e h) ne
theorem rising_all : ∀ {l : List Str} {p : Str}, risingS p l = true → (p :: l).Nodup → (p :: l).Pairwise (fun a b => ltS a b = true)
  | [], p, _, _ => by simp
  | x :: l, p, h, nd => by
    unfold risingS at h
    rw [Bool.and_eq_true] at h
    have h1 : ltS x p = false := by simpa [ltS] using h.1
    rw [List.nodup_cons] at nd
    have ih := rising_all h.2 nd.2
    have px : ltS p x = true := ltS_of h1 (fun e => nd.1 (by rw [e]; exact List.mem_cons_self))
    rw [List.pairwise_cons]
    refine ⟨fun y hy => ?_, ih⟩
    rcases List.mem_cons.mp hy with e | e
    · subst e
      exact px
    · exact ltS_trans px ((List.pairwise_cons.mp ih).1 y e)
theorem sorted_all : ∀ {l : List Str}, sortedS l = true → l.Nodup → l.Pairwise (fun a b => ltS a b = true)
  | [], _, _ => List.Pairwise.nil
  | _ :: _, h, nd => rising_all h nd
/-- two strictly ascending lists with the same members are one -/
theorem asc_ext {α : Type} {lt : α → α → Prop} (ir : ∀ a, ¬ lt a a) (tr : ∀ a b c, lt a b → lt b c → lt a c) : ∀ {l m : List α}, l.Pairwise lt → m.Pairwise lt → (∀ x, x ∈ l ↔ x ∈ m) → l = m
  | [], [], _, _, _ => rfl
  | [], b :: m, _, _, h => absurd ((h b).mpr List.mem_cons_self) (by simp)
  | a :: l, [], _, _, h => absurd ((h a).mp List.mem_cons_self) (by simp)
  | a :: l, b :: m, hl, hm, h => by
    rw [List.pairwise_cons] at hl hm
    have e : a = b := by
      rcases List.mem_cons.mp ((h a).mp List.mem_cons_self) with e | e
      · exact e
      · rcases List.mem_cons.mp ((h b).mpr List.mem_cons_self) with e2 | e2
        · exact e2.symm
        · exact absurd (tr _ _ _ (hl.1 _ e2) (hm.1 _ e)) (ir a)
    subst e
    congr 1
    refine asc_ext ir tr hl.2 hm.2 fun x => ⟨fun hx => ?_, fun hx => ?_⟩
    · rcases List.mem_cons.mp ((h x).mp (List.mem_cons_of_mem _ hx)) with e | e
      · subst e
        exact absurd (hl.1 _ hx) (ir x)
      · exact e
    · rcases List.mem_cons.mp ((h x).mpr (List.mem_cons_of_mem _ hx)) with e | e
      · subst e
        exact absurd (hm.1 _ hx) (ir x)
      · exact e
theorem perm_map_inv {α β : Type} {f : α → β} : ∀ {l : List α} {ys : List β}, ys.Perm (l.map f) → ∃ l' : List α, l'.Perm l ∧ ys = l'.map f
  | [], ys, h => ⟨[], List.Perm.refl _, by simpa using h⟩
  | a :: l, ys, h => by
    have hm : f a ∈ ys := h.mem_iff.mpr (by simp)
    obtain ⟨s, t, e⟩ := List.append_of_mem hm
    subst e
    have h2 : (s ++ t).Perm (l.map f) := by
      have h3 : (f a :: (s ++ t)).Perm (f a :: l.map f) := List.perm_middle.symm.trans (by simpa using h)
      exact (List.perm_cons _).mp h3
    obtain ⟨l', p, e⟩ := perm_map_inv h2
    obtain ⟨l1, l2, e1, e2, e3⟩ := List.map_eq_append_iff.mp e.symm
    subst e1 e2 e3
    exact ⟨l1 ++ a :: l2, List.perm_middle.trans ((List.perm_cons _).mpr p), by simp⟩
def insN (n : Nat) : List Nat → List Nat
  | [] => [n]
  | m :: r => if n = m then m :: r else if n < m then n :: m :: r else m :: insN n r
def unite (x y : Str) : Str := if x = y then x else ⟨((x.cps.toList ++ y.cps.toList).foldr insN []).toArray⟩
namespace Fm
def kind : Fm → Str
  | .at _ => "atom"
  | .no => "no"
  | .imp _ _ => "if"
  | .all _ => "all"
def many : Fm → Nat
  | .at _ => 1
  | .no => 1
  | .imp a b => 1 + a.many + b.many
  | .all a => 1 + a.many
def deep : Fm → Nat
  | .at _ => 0
  | .no => 0
  | .imp a b => max a.deep b.deep
  | .all a => 1 + a.deep
def atoms : Fm → Str
  | .at c => ⟨#[c]⟩
  | .no => ""
  | .imp a b => unite a.atoms b.atoms
  | .all a => a.atoms
/-- the atoms outside of all all-parts -/
def outer : Fm → Str
  | .at c => ⟨#[c]⟩
  | .no => ""
  | .imp a b => unite a.outer b.outer
  | .all _ => ""
def spell : Fm → Str
  | .at c => ⟨#[c]⟩
  | .no => "no"
  | .imp a b => "(" ++ a.spell ++ " > " ++ b.spell ++ ")"
  | .all a => "all " ++ a.spell
def ins (g : Fm) : List Fm → List Fm
  | [] => [g]
  | h :: r => if g = h then h :: r else if ltS g.spell h.spell then g :: h :: r else h :: ins g r
def merge (xs ys : List Fm) : List Fm := if xs = [] then ys else if ys = [] then xs else (xs ++ ys).foldr ins []
def alls : Fm → List Fm
  | .at _ => []
  | .no => []
  | .imp a b => merge a.alls b.alls
  | .all a => merge a.alls [.all a]
/-- the length of the text -/
def sz : Fm → Nat
  | .at _ => 1
  | .no => 2
  | .imp a b => 5 + a.sz + b.sz
  | .all a => 4 + a.sz
/-- no atom in it -/
def bare : Fm → Prop
  | .at _ => False
  | .no => True
  | .imp a b => a.bare ∧ b.bare
  | .all a => a.bare
def ltF (f g : Fm) : Prop := ltS f.spell g.spell = true
def cs (f : Fm) : List Nat := f.spell.cps.toList
theorem cs_imp (a b : Fm) : cs (.imp a b) = 40 :: (a.cs ++ (32 :: 62 :: 32 :: (b.cs ++ [41]))) := by
  have h1 : ("(" : Str).cps.toList = [40] := rfl
  have h2 : (" > " : Str).cps.toList = [32, 62, 32] := rfl
  have h3 : (")" : Str).cps.toList = [41] := rfl
  simp [cs, spell, str_app, h1, h2, h3]
theorem cs_all (a : Fm) : cs (.all a) = 97 :: 108 :: 108 :: 32 :: a.cs := by
  have h1 : ("all " : Str).cps.toList = [97, 108, 108, 32] := rfl
  simp [cs, spell, str_app, h1]
theorem cs_no : cs .no = [110, 111] := rfl
theorem cs_at (c : Nat) : cs (.at c) = [c] := rfl
/-- behind a formula stands nothing, a blank or a bracket -/
def stop (r : List Nat) : Prop := ∀ c t, r = c :: t → c = 32 ∨ c = 41
/-- letters -/
def okL : Fm → Prop
  | .at c => (65 ≤ c ∧ c ≤ 90) ∨ (97 ≤ c ∧ c ≤ 122)
  | .no => True
  | .imp a b => a.okL ∧ b.okL
  | .all a => a.okL
theorem cs_inj : ∀ (f g : Fm), f.okL → g.okL → ∀ r s : List Nat, stop r → stop s → f.cs ++ r = g.cs ++ s → f = g ∧ r = s
  | .at c, .at d, _, _, r, s, _, _, h => by
    rw [cs_at, cs_at] at h
    injection h with h1 h2
    exact ⟨by rw [h1], h2⟩
  | .at c, .no, _, _, r, s, hr, _, h => by
    rw [cs_at, cs_no] at h
    injection h with h1 h2
    rcases hr 111 s h2 with e | e <;> cases e
  | .at c, .imp a b, hc, _, r, s, hr, _, h => by
    rw [cs_at, cs_imp] at h
    injection h with h1 h2
    simp only [okL] at hc
    omega
  | .at c, .all a, _, _, r, s, hr, _, h => by
    rw [cs_at, cs_all] at h
    injection h with h1 h2
    rcases hr _ _ h2 with e | e <;> cases e
  | .no, .at d, _, _, r, s, _, hs, h => by
    rw [cs_at, cs_no] at h
    injection h with h1 h2
    rcases hs 111 r h2.symm with e | e <;> cases e
  | .no, .no, _, _, r, s, _, _, h => by
    rw [cs_no] at h
    simp at h
    exact ⟨rfl, h⟩
  | .no, .imp a b, _, _, r, s, _, _, h => by
    rw [cs_no, cs_imp] at h
    injection h with h1 h2
    cases h1
  | .no, .all a, _, _, r, s, _, _, h => by
    rw [cs_no, cs_all] at h
    injection h with h1 h2
    cases h1
  | .imp a b, .at d, _, hd, r, s, _, hs, h => by
    rw [cs_at, cs_imp] at h
    injection h with h1 h2
    simp only [okL] at hd
    omega
  | .imp a b, .no, _, _, r, s, _, _, h => by
    rw [cs_no, cs_imp] at h
    injection h with h1 h2
    cases h1
  | .imp a b, .all c, _, _, r, s, _, _, h => by
    rw [cs_all, cs_imp] at h
    injection h with h1 h2
    cases h1
  | .all a, .at d, _, _, r, s, _, hs, h => by
    rw [cs_at, cs_all] at h
    injection h with h1 h2
    rcases hs _ _ h2.symm with e | e <;> cases e
  | .all a, .no, _, _, r, s, _, _, h => by
    rw [cs_no, cs_all] at h
    injection h with h1 h2
    cases h1
  | .all a, .imp b c, _, _, r, s, _, _, h => by
    rw [cs_all, cs_imp] at h
    injection h with h1 h2
    cases h1
  | .all a, .all b, ha, hb, r, s, hr, hs, h => by
    rw [cs_all, cs_all] at h
    simp only [List.cons_append, List.cons.injEq, true_and] at h
    obtain ⟨e, e2⟩ := cs_inj a b ha hb r s hr hs h
    exact ⟨by rw [e], e2⟩
  | .imp a b, .imp c d, ha, hb, r, s, hr, hs, h => by
    rw [cs_imp, cs_imp] at h
    simp only [List.cons_append, List.append_assoc, List.cons.injEq, true_and] at h
    obtain ⟨e, e2⟩ := cs_inj a c ha.1 hb.1 _ _ (by intro c t e; injection e with e; exact .inl e.symm) (by intro c t e; injection e with e; exact .inl e.symm) h
    subst e
    simp only [List.cons.injEq, true_and] at e2
    obtain ⟨e3, e4⟩ := cs_inj b d ha.2 hb.2 _ _ (by intro c t e; injection e with e; exact .inr e.symm) (by intro c t e; injection e with e; exact .inr e.symm) e2
    subst e3
    simp at e4
    exact ⟨rfl, e4⟩
theorem spell_inj {f g : Fm} (hf : f.okL) (hg : g.okL) (h : f.spell = g.spell) : f = g := by
  refine (cs_inj f g hf hg [] [] (by intro c t e; cases e) (by intro c t e; cases e) ?_).1
  simp [cs, h]
def asc (l : List Fm) : Prop := l.Pairwise ltF
theorem ltF_irrefl (f : Fm) : ¬ ltF f f := by
  unfold ltF
  rw [ltS_irrefl]
  exact Bool.false_ne_true
theorem ltF_trans (f g h : Fm) : ltF f g → ltF g h → ltF f h := fun a b => ltS_trans a b
theorem mem_ins {g x : Fm} : ∀ {l : List Fm}, x ∈ ins g l ↔ x = g ∨ x ∈ l
  | [] => by simp [ins]
  | h :: r => by
    unfold ins
    split
    · rename_i e
      subst e
      simp
    · split
      · simp
      · rw [List.mem_cons, mem_ins, List.mem_cons]
        constructor
        · rintro (h | h | h)
          · exact .inr (.inl h)
          · exact .inl h
          · exact .inr (.inr h)
        · rintro (h | h | h)
          · exact .inr (.inl h)
          · exact .inl h
          · exact .inr (.inr h)
theorem asc_ins {g : Fm} (hg : g.okL) : ∀ {l : List Fm}, asc l → (∀ x ∈ l, okL x) → asc (ins g l)
  | [], _, _ => by simp [ins, asc]
  | h :: r, hl, ho => by
    unfold asc at hl
    rw [List.pairwise_cons] at hl
    unfold ins
    split
    · exact List.pairwise_cons.mpr hl
    · rename_i ne
      split
      · rename_i lt
        refine List.pairwise_cons.mpr ⟨fun y hy => ?_, List.pairwise_cons.mpr hl⟩
        rcases List.mem_cons.mp hy with e | e
        · subst e
          exact lt
        · exact ltF_trans _ _ _ lt (hl.1 y e)
      · rename_i nlt
        refine List.pairwise_cons.mpr ⟨fun y hy => ?_, asc_ins hg hl.2 fun x hx => ho x (List.mem_cons_of_mem _ hx)⟩
        rcases mem_ins.mp hy with e | e
        · subst e
          refine ltS_of (by simpa using nlt) fun e => ne ?_
          exact (spell_inj (ho _ List.mem_cons_self) hg e).symm
        · exact hl.1 y e
theorem mem_fold {x : Fm} : ∀ {l : List Fm}, x ∈ l.foldr ins [] ↔ x ∈ l
  | [] => by simp
  | g :: l => by rw [List.foldr_cons, mem_ins, mem_fold, List.mem_cons]
theorem asc_fold : ∀ {l : List Fm}, (∀ x ∈ l, okL x) → asc (l.foldr ins [])
  | [], _ => List.Pairwise.nil
  | g :: l, h => asc_ins (h g List.mem_cons_self) (asc_fold fun x hx => h x (List.mem_cons_of_mem _ hx)) fun x hx => h x (List.mem_cons_of_mem _ (mem_fold.mp hx))
theorem mem_merge {x : Fm} {l m : List Fm} : x ∈ merge l m ↔ x ∈ l ∨ x ∈ m := by
  unfold merge
  split
  · rename_i e
    subst e
    simp
  · split
    · rename_i e
      subst e
      simp
    · rw [mem_fold, List.mem_append]
theorem asc_merge {l m : List Fm} (hl : asc l) (hm : asc m) (ol : ∀ x ∈ l, okL x) (om : ∀ x ∈ m, okL x) : asc (merge l m) := by
  unfold merge
  split
  · exact hm
  · split
    · exact hl
    · refine asc_fold fun x hx => ?_
      rcases List.mem_append.mp hx with h | h
      · exact ol x h
      · exact om x h
theorem alls_sub : ∀ {f : Fm}, f.okL → (∀ x ∈ f.alls, okL x) ∧ asc f.alls
  | .at _, _ => ⟨fun _ h => by simp [alls] at h, List.Pairwise.nil⟩
  | .no, _ => ⟨fun _ h => by simp [alls] at h, List.Pairwise.nil⟩
  | .imp a b, h => by
    obtain ⟨h1, h2⟩ := alls_sub h.1
    obtain ⟨h3, h4⟩ := alls_sub h.2
    exact ⟨fun x hx => (mem_merge.mp hx).elim (h1 x) (h3 x), asc_merge h2 h4 h1 h3⟩
  | .all a, h => by
    obtain ⟨h1, h2⟩ := alls_sub (f := a) h
    have h3 : ∀ x ∈ [Fm.all a], okL x := fun x hx => by
      rw [List.mem_singleton] at hx
      subst hx
      exact h
    exact ⟨fun x hx => (mem_merge.mp hx).elim (h1 x) (h3 x), asc_merge h2 (by simp [asc]) h1 h3⟩
end Fm
/-- the kit of formulas -/
@[reducible] def FK : FmKit where
  kind := Fm.kind
  many f := (f.many : Nat)
  deep f := (f.deep : Nat)
  atoms := Fm.atoms
  bare := Fm.outer
  spell := Fm.spell
  alls := Fm.alls
end N
set_option Elab.async false
set_option linter.all false
set_option maxRecDepth 100000
namespace N
open PySem PySem.Spec PyProof.Rows L2
open C8 (InsC)
theorem len_ok {n : Nat} (h : n ≤ 1000) : n ≤ sizeLine := by
  have := sizeLine_eq
  omega
section
variable {F : FmKit} {T : Kx} {C H H' O O' : Hp} {G : Gm} {W W' : Om} {σ : L2.St} {a p : Addr} {d : D} {l : List D}
  {te ta tb : TE} {t u : TT} {R R' : D → Om → Prop} {Z : Bool → Om → Prop} {tr tk : TA} {ts tz : TS}
/-- an owned cell is let go -/
theorem ev_drp (h : Ev F T te G W fun d W' => ∃ W2, W2.Sublist W' ∧ R d W2) : Ev F T te G W R := fun C H O σ w Q q => h C H O σ w Q fun d W' H' O' v ⟨W2, s, r⟩ n k => q d W2 H' O' v r ⟨n.ext, n.dis, n.oc, n.own.sub s⟩ k
def TyD (F : FmKit) (T : Kx) (W : Om) (d : D) (t : Value) : Prop := ∀ (C H O : Hp), Dis O H → Ow F T H C O W → ∀ x, Den F T H d x → TyX T.K (ov O H) x t
theorem ca_isi {c : V} {t u : Value} {b : Bool} (hc : ClsV c u) (ht : TyD F T W d t) (e : PySem.W.kitOne T.K t u = some b) (r : R (.bl b) W) : Ca F T (rIsi T.K) [d, .vl c] W R := ca_two fun C H O di oc ow x y hx hy Q q => by
  have hy : y = c := hy
  subst hy
  exact ⟨x, y, t, u, b, rfl, hc, ht C H O di ow x hx, e, q _ W H O _ r (.refl di oc ow) rfl⟩
theorem tyd_str {s : Str} : TyD F T W (.str s) (.type "str") := fun C H O di ow x k => by
  have k : x = .str s := k
  subst k
  exact .base (.str s)
theorem tyd_int {i : Int} : TyD F T W (.int i) (.type "int") := fun C H O di ow x k => by
  have k : x = .int i := k
  subst k
  exact .base (.int i)
theorem tyd_bl {i : Bool} : TyD F T W (.bl i) (.type "bool") := fun C H O di ow x k => by
  have k : x = .bl i := k
  subst k
  exact .base (.bl i)
theorem tyd_ins {c : Nat} {ns : List Str} (i : Inst F W d c ns l) (z : InsC T.K (T.cl c)) : TyD F T W d (.ref (T.cl c)) := fun C H O di ow x k => by
  obtain ⟨a, dx, fs, e, h1, h2, h3⟩ := i.at di ow k
  subst e
  exact .base (.ins h1 z.cl z.ha z.hn z.htk z.hm)
theorem isi_str {R : D → Om → Prop} {s : Str} (r : R (.bl true) W) : Ca F T (rIsi T.K) [.str s, .vl (.ty "str")] W R := ca_isi (.ty "str") tyd_str (by unfold PySem.W.kitOne; rfl) r
theorem isi_ins {c : Nat} {ns : List Str} (i : Inst F W d c ns l) (z : InsC T.K (T.cl c)) (r : R (.bl true) W) : Ca F T (rIsi T.K) [d, .adr (T.cl c)] W R := ca_isi (.own _) (tyd_ins i z) z.me r
theorem bo_addS {x y : Str} (hl : x.length + y.length ≤ sizeLine) (r : R (.str (x ++ y)) W) : Bo F T (fun x y H Q => ∃ i j, x = .str i ∧ y = .str j ∧ i.length + j.length ≤ sizeLine ∧ Q (.str (i ++ j)) H) (.str x) (.str y) W R :=
  op_sc fun H Q k => ⟨x, y, rfl, rfl, hl, k _ r⟩
/-- the parts of an f-string -/
def EvJ (F : FmKit) (T : Kx) : List TE → Str → Gm → Om → (Str → Om → Prop) → Prop
  | [], acc, _, W, Y => Y acc W
  | te :: ts, acc, G, W, Y => Ev F T te G W fun d W1 => ∃ y : Str, d = .str y ∧ (acc ++ y).length ≤ sizeLine ∧ EvJ F T ts (acc ++ y) G W1 Y
theorem EvJ.run {Y : Str → Om → Prop} : ∀ {ts : List TE} {acc : Str} {W : Om} {H O : Hp}, EvJ F T ts acc G W Y → Wd F T C G W H O σ → ∀ Q : Str → Hp → Prop, (∀ z W' H' O', Y z W' → Nx F T C W' H H' O' → Q z (ov O' H')) → tJs ts acc σ (ov O H) Q
  | [], acc, W, H, O, h, w, Q, q => q acc W H O h w.nx
  | te :: ts, acc, W, H, O, h, w, Q, q => h C H O σ w _ fun d W1 H1 O1 x ⟨y, e, hl, r⟩ n k => by
    subst e
    have k : x = .str y := k
    exact ⟨y, k, hl, EvJ.run r (w.step n) Q fun z W' H' O' yy n2 => q z W' H' O' yy (n.trans n2)⟩
theorem bo_catA {xs ys : List D} (hl : xs.length + ys.length ≤ sizeLine) (r : R (.tup (xs ++ ys)) W) : Bo F T (rCatA T.K) (.tup xs) (.tup ys) W R := fun C H O di oc ow x y hx hy Q q => by
  obtain ⟨a, us, ex, hs, kl⟩ := hx
  obtain ⟨b, vs, ey, ht, km⟩ := hy
  have n := Nx.refl di oc ow
  refine ⟨a, b, us, vs, ex, ey, Same.sqT di.same hs, Same.sqT di.same ht, by rw [kl.len, km.len]; exact hl, fun e => ?_, fun _ e => ?_, fun _ _ p hp => ?_⟩
  · subst e
    have e : xs = [] := by
      have := kl.len
      simpa using this.symm
    subst e
    exact q _ W H O _ r n ⟨b, vs, rfl, ht, km⟩
  · subst e
    have e : ys = [] := by
      have := km.len
      simpa using this.symm
    subst e
    exact q _ W H O _ r n ⟨a, us, rfl, hs, by rw [List.append_nil]; exact kl⟩
  · obtain ⟨n2, e2, s2⟩ := n.newF (o := .tup (us ++ vs)) hp
    rw [e2]
    exact q _ W _ O _ r n2 ⟨p, _, rfl, SqT.of upd_same, (kl.mono s2).app (km.mono s2)⟩
end
end N
set_option Elab.async false
set_option linter.all false
set_option maxRecDepth 100000
set_option maxHeartbeats 4000000
namespace N
open PySem PySem.Spec PyProof.Rows L2
def txOf (e : Int × Value) : Str := match e.2 with
  | .str k _ => k
  | _ => Str.empty
def GoodT (w : World) (e : Int × Value) : Prop := ∃ k tk, e.2 = Value.str k tk ∧ e.1 = hashStr w k
/-- the set of texts at a -/
def SetT (w : World) (h : Heap) (a : Addr) (M : Str → Bool) (n : Nat) : Prop :=
  ∃ o es ep t, h.get? a = some o ∧ o.ExactSet ∧ o.data = .set es ep t ∧ (∀ e ∈ es.toList, GoodT w e) ∧ (es.toList.map txOf).Nodup ∧ (∀ k, M k = true ↔ k ∈ es.toList.map txOf) ∧
    es.size < scanBound ∧ t.fits es.size = true ∧ es.size = n ∧ Ris t.place.toList ∧ (w.params.followText "set-order" = true ∨ t.led = true)
section
variable {P : Program} {w : World} {h h' : Heap} {a : Addr} {M : Str → Bool} {n : Nat}
theorem SetT.at (R : SetT w h a M n) (k : ∀ o, h.get? a = some o → h'.get? a = some o) : SetT w h' a M n := let ⟨o, es, ep, t, ho, r⟩ := R; ⟨o, es, ep, t, k o ho, r⟩
theorem SetT.lt (R : SetT w h a M n) : a < h.objs.size := let ⟨_, _, _, _, ho, _⟩ := R; Heap.lt_size ho
end
end N
set_option Elab.async false
set_option linter.all false
set_option maxRecDepth 100000
set_option maxHeartbeats 4000000
set_option Elab.async false
set_option linter.all false
set_option maxRecDepth 100000
set_option maxHeartbeats 4000000
namespace N
open PySem PySem.Spec PyProof.Rows L2
section
variable {P : Program} {w : World} {A : Around} {E : Value → Shared → Prop} {s : Shared}
def signs (x : Str) : List Str := x.cps.toList.map fun c => ⟨#[c]⟩
end
end N
set_option Elab.async false
set_option linter.all false
set_option maxRecDepth 100000
set_option maxHeartbeats 4000000
namespace N
open PySem PySem.Spec PyProof.Rows L2
def insS (k : Str) : List Str → List Str
  | [] => [k]
  | m :: r => if k = m then m :: r else if ltS k m then k :: m :: r else m :: insS k r
def ascS (l : List Str) : List Str := l.foldr insS []
theorem mem_insS {k x : Str} : ∀ {l : List Str}, x ∈ insS k l ↔ x = k ∨ x ∈ l
  | [] => by simp [insS]
  | m :: r => by
    unfold insS
    split
    · rename_i e
      subst e
      simp
    · split
      · simp
      · rw [List.mem_cons, mem_insS, List.mem_cons]
        constructor
        · rintro (h | h | h)
          · exact .inr (.inl h)
          · exact .inl h
          · exact .inr (.inr h)
        · rintro (h | h | h)
          · exact .inr (.inl h)
          · exact .inl h
          · exact .inr (.inr h)
theorem mem_ascS {x : Str} : ∀ {l : List Str}, x ∈ ascS l ↔ x ∈ l
  | [] => by simp [ascS]
  | k :: l => by
    show x ∈ insS k (ascS l) ↔ _
    rw [mem_insS, mem_ascS, List.mem_cons]
def AscS (l : List Str) : Prop := l.Pairwise fun a b => ltS a b = true
theorem asc_insS {k : Str} : ∀ {l : List Str}, AscS l → AscS (insS k l)
  | [], _ => by simp [insS, AscS]
  | m :: r, h => by
    obtain ⟨h1, h2⟩ := List.pairwise_cons.mp h
    unfold insS
    split
    · exact h
    · rename_i ne
      split
      · rename_i lt
        refine List.pairwise_cons.mpr ⟨fun y hy => ?_, h⟩
        rcases List.mem_cons.mp hy with e | e
        · rw [e]
          exact lt
        · exact ltS_trans lt (h1 y e)
      · rename_i nl
        refine List.pairwise_cons.mpr ⟨fun y hy => ?_, asc_insS h2⟩
        rcases mem_insS.mp hy with e | e
        · rw [e]
          exact ltS_of (by simpa using nl) (fun q => ne q.symm)
        · exact h1 y e
theorem asc_ascS : ∀ l : List Str, AscS (ascS l)
  | [] => List.Pairwise.nil
  | k :: l => asc_insS (asc_ascS l)
theorem ascS_ext {l m : List Str} (h : AscS l) (k : AscS m) (e : ∀ x, x ∈ l ↔ x ∈ m) : l = m := asc_ext (lt := fun a b => ltS a b = true) (fun a => by rw [ltS_irrefl]; exact Bool.false_ne_true) (fun _ _ _ a b => ltS_trans a b) h k e
theorem ascS_of {l m : List Str} (h : AscS l) (e : ∀ x, x ∈ l ↔ x ∈ m) : l = ascS m := ascS_ext h (asc_ascS m) fun x => by rw [e, mem_ascS]
theorem ascS_sorted {l m : List Str} (hs : sortedS l = true) (nd : l.Nodup) (e : ∀ x, x ∈ l ↔ x ∈ m) : l = ascS m := ascS_of (sorted_all hs nd) e
section
variable {F : FmKit} {T : Kx} {C H H' O O' : Hp} {G : Gm} {W W' : Om} {R : D → Om → Prop} {d : D} {w : World} {te to : TE}
theorem den_strs (ks : List Str) : DenL F T H (ks.map D.str) (ks.map V.str) := by
  have := DenL.vls (F := F) (T := T) (H := H) (ks.map V.str)
  rw [List.map_map] at this
  exact this
theorem den_strs_inv {ks : List Str} {xs : List V} (kl : DenL F T H (ks.map D.str) xs) : xs = ks.map V.str := by
  rw [show ks.map D.str = (ks.map V.str).map D.vl by rw [List.map_map]; rfl] at kl
  exact DenL.vls_inv kl
/-- sep.join(texts) -/
theorem ev_join (h : Ev F T to G W fun d W1 => ∃ a : Str, d = .str a ∧ Ev F T te G W1 fun d2 W2 => ∃ ys : List Str, Vs W2 d2 (ys.map D.str) ∧ (ys.map (·.length)).sum + ys.length * a.length ≤ 16777216 ∧ R (.str (Txt.join a ys)) W2) :
    Ev F T (tM1 (fun x xs H Q => ∃ a p, ∃ ys : List Str, x = .str a ∧ xs = [.ref p] ∧ (SqL T.K H p (ys.map V.str) ∨ SqT T.K H p (ys.map V.str)) ∧ (ys.map (·.length)).sum + ys.length * a.length ≤ 16777216 ∧ Q (.str (Txt.join a ys)) H) to te) G W R := fun C H O σ w Q q =>
  h C H O σ w _ fun d W1 H1 O1 x ⟨a, e, h1⟩ n1 k1 => by
    subst e
    have k1 : x = .str a := k1
    refine ⟨⟨a, k1⟩, h1 C H1 O1 σ (w.step n1) _ fun d2 W2 H2 O2 y ⟨ys, hv, hz, r⟩ n2 k2 => ?_⟩
    obtain ⟨p, xs, e, hs, kl⟩ := hv.sq n2.own n2.dis k2
    rw [den_strs_inv kl] at hs
    exact ⟨a, p, ys, k1, by rw [e], hs, hz, q _ W2 H2 O2 _ r (n1.trans n2) rfl⟩
end
theorem ltS_sign (a b : Nat) : ltS ⟨#[a]⟩ ⟨#[b]⟩ = decide (a < b) := by simp [ltS, ltCps]
def sg (c : Nat) : Str := ⟨#[c]⟩
theorem sg_inj {a b : Nat} (h : sg a = sg b) : a = b := by
  have : [a] = [b] := congrArg (fun z : Str => z.cps.toList) h
  exact (List.cons.inj this).1
theorem insS_sg (c : Nat) : ∀ l : List Nat, insS (sg c) (l.map sg) = (insN c l).map sg
  | [] => rfl
  | m :: r => by
    rw [List.map_cons, insS, insN]
    by_cases e : c = m
    · subst e
      rw [if_pos rfl, if_pos rfl]
      rfl
    · rw [if_neg (fun h => e (sg_inj h)), if_neg e]
      by_cases lt : c < m
      · rw [if_pos (by rw [show ltS (sg c) (sg m) = decide (c < m) from ltS_sign c m]; simpa using lt), if_pos lt]
        rfl
      · rw [if_neg (by rw [show ltS (sg c) (sg m) = decide (c < m) from ltS_sign c m]; simpa using lt), if_neg lt, insS_sg c r]
        rfl
theorem ascS_sg : ∀ l : List Nat, ascS (l.map sg) = (l.foldr insN []).map sg
  | [] => rfl
  | c :: l => by
    show insS (sg c) (ascS (l.map sg)) = _
    rw [ascS_sg l, insS_sg]
    rfl
theorem join_nil_sg : ∀ l : List Nat, Txt.join "" (l.map sg) = ⟨l.toArray⟩ := fun l => by
  rw [show Txt.join "" (l.map sg) = Str.join "" (l.map sg) from PySem.StrLaws.glued_eq_join _ _]
  induction l with
  | nil => rfl
  | cons a l ih =>
    cases l with
    | nil => rfl
    | cons b r =>
      show (sg a ++ ("" : Str) ++ Str.join "" ((b :: r).map sg)) = _
      rw [ih]
      refine str_ext ?_
      rw [str_app, str_app]
      rfl
theorem insN_mem {c x : Nat} : ∀ {l : List Nat}, x ∈ insN c l ↔ x = c ∨ x ∈ l
  | [] => by simp [insN]
  | m :: r => by
    unfold insN
    split
    · rename_i e
      subst e
      simp
    · split
      · simp
      · rw [List.mem_cons, insN_mem, List.mem_cons]
        constructor
        · rintro (h | h | h)
          · exact .inr (.inl h)
          · exact .inl h
          · exact .inr (.inr h)
        · rintro (h | h | h)
          · exact .inr (.inl h)
          · exact .inl h
          · exact .inr (.inr h)
def ascN (l : List Nat) : List Nat := l.foldr insN []
theorem mem_ascN {x : Nat} : ∀ {l : List Nat}, x ∈ ascN l ↔ x ∈ l
  | [] => by simp [ascN]
  | k :: l => by
    show x ∈ insN k (ascN l) ↔ _
    rw [insN_mem, mem_ascN, List.mem_cons]
theorem asc_insN {k : Nat} : ∀ {l : List Nat}, l.Pairwise (· < ·) → (insN k l).Pairwise (· < ·)
  | [], _ => by simp [insN]
  | m :: r, h => by
    obtain ⟨h1, h2⟩ := List.pairwise_cons.mp h
    unfold insN
    split
    · exact h
    · rename_i ne
      split
      · rename_i lt
        refine List.pairwise_cons.mpr ⟨fun y hy => ?_, h⟩
        rcases List.mem_cons.mp hy with e | e
        · rw [e]
          exact lt
        · exact Nat.lt_trans lt (h1 y e)
      · rename_i nl
        refine List.pairwise_cons.mpr ⟨fun y hy => ?_, asc_insN h2⟩
        rcases insN_mem.mp hy with e | e
        · rw [e]
          omega
        · exact h1 y e
theorem asc_ascN : ∀ l : List Nat, (ascN l).Pairwise (· < ·)
  | [] => List.Pairwise.nil
  | k :: l => asc_insN (asc_ascN l)
theorem ascN_ext {l m : List Nat} (h : l.Pairwise (· < ·)) (k : m.Pairwise (· < ·)) (e : ∀ x, x ∈ l ↔ x ∈ m) : l = m := asc_ext (fun a => Nat.lt_irrefl a) (fun _ _ _ a b => Nat.lt_trans a b) h k e
/-- the letters of a text -/
abbrev lets (x : Str) : List Nat := x.cps.toList
end N
set_option Elab.async false
set_option linter.all false
set_option maxRecDepth 100000
namespace N
open PySem PySem.Spec PyProof.Rows L2
open C8 (InsC)
/-- the class Formula as the top has made it -/
structure CZ (K : PySem.W.Frag) (C : Addr) (ns : List Str) : Prop where
  cls : Cls K C
  nos : ∀ n ∈ ns, NoAttr K C n
  ins : InsC K C
  sf : PySem.W.selfFirst K C = true
  ist : PySem.W.kitOne K (.type "str") (.ref C) = some false
abbrev FZ (K : PySem.W.Frag) (C : Addr) : Prop := CZ K C fmNames
inductive FldF : Str → Fm → D → Prop
  | kind (f : Fm) : FldF "kind" f (.str f.kind)
  | parts (f : Fm) : FldF "parts" f (.tup (partsD f))
  | many (f : Fm) : FldF "many" f (.int (f.many : Nat))
  | deep (f : Fm) : FldF "deepest" f (.int (f.deep : Nat))
  | atoms (f : Fm) : FldF "atoms" f (.str f.atoms)
  | bare (f : Fm) : FldF "bare" f (.str f.outer)
  | spell (f : Fm) : FldF "spelled" f (.str f.spell)
  | alls (f : Fm) : FldF "alls_known" f (.tup (f.alls.map .fm))
theorem FldF.look {n : Str} {f : Fm} {z : D} (h : FldF n f z) : n ∈ fmNames ∧ (fmNames.zip (fmVals FK f)).lookup n = some z := by
  cases h <;> exact ⟨by decide +kernel, rfl⟩
section
variable {T : Kx} {C H H' O O' : Hp} {G : Gm} {W W' : Om} {σ : L2.St} {a p : Addr} {d : D} {l : List D} {ta : TE} {R : D → Om → Prop}
theorem ev_fmF {n : Str} (zf : FZ T.K (T.cl 0)) (h : Ev FK T ta G W fun d W1 => ∃ f z, d = .fm f ∧ FldF n f z ∧ R z W1) : Ev FK T (tFld T.K ta n) G W R :=
  ev_fld (h.imp fun d W1 ⟨f, z, e, k, r⟩ => by
    subst e
    exact ⟨0, fmNames, fmVals FK f, z, .fm f, zf.cls, zf.nos n k.look.1, k.look.2, r⟩)
/-- something with a text -/
def Spl (W : Om) (d : D) (g : Fm) : Prop := ∃ ns l, Inst FK W d 0 ns l ∧ (ns.zip l).lookup ("spelled" : Str) = some (.str g.spell)
theorem Spl.up {W2 : Om} {g : Fm} (h : Spl W d g) (s : ∀ x ∈ W, x ∈ W2) : Spl W2 d g := by
  obtain ⟨ns, l, i, e⟩ := h
  refine ⟨ns, l, ?_, e⟩
  cases i with
  | fm f => exact .fm f
  | obj c ns l => exact .obj _ _ _
  | own a c ns l m => exact .own _ _ _ _ (s _ m)
end
namespace Fm
theorem nodup_asc {l : List Fm} (h : asc l) : l.Nodup := h.imp fun {a b} k e => by
  subst e
  exact ltF_irrefl _ k
theorem len_le {l m : List Fm} (h : l.Nodup) (s : ∀ x ∈ l, x ∈ m) : l.length ≤ m.length := by
  induction l generalizing m with
  | nil => exact Nat.zero_le _
  | cons a l ih =>
    rw [List.nodup_cons] at h
    obtain ⟨p, q, e⟩ := List.append_of_mem (s a List.mem_cons_self)
    subst e
    have := ih (m := p ++ q) h.2 fun x hx => by
      have h1 := s x (List.mem_cons_of_mem _ hx)
      rw [List.mem_append, List.mem_cons] at h1
      rw [List.mem_append]
      rcases h1 with h1 | h1 | h1
      · exact .inl h1
      · subst h1
        exact absurd hx h.1
      · exact .inr h1
    simp at this ⊢
    omega
/-- small enough for the walk -/
structure okF (f : Fm) : Prop where
  ok : f.okL
  sz : f.sz ≤ 1000000
  alls : f.alls.length < 64
theorem okF.l {a b : Fm} (h : okF (.imp a b)) : okF a := ⟨h.ok.1, by have := h.sz; unfold Fm.sz at this; omega, Nat.lt_of_le_of_lt (len_le (nodup_asc (alls_sub h.ok.1).2) fun x hx => mem_merge.mpr (.inl hx)) h.alls⟩
theorem okF.r {a b : Fm} (h : okF (.imp a b)) : okF b := ⟨h.ok.2, by have := h.sz; unfold Fm.sz at this; omega, Nat.lt_of_le_of_lt (len_le (nodup_asc (alls_sub h.ok.2).2) fun x hx => mem_merge.mpr (.inr hx)) h.alls⟩
theorem okF.a {a : Fm} (h : okF (.all a)) : okF a := ⟨h.ok, by have := h.sz; unfold Fm.sz at this; omega, Nat.lt_of_le_of_lt (len_le (nodup_asc (alls_sub (f := a) h.ok).2) fun x hx => mem_merge.mpr (.inl hx)) h.alls⟩
end Fm
def isLet (x : Str) : Bool := match lets x with
  | [c] => decide ((65 ≤ c ∧ c ≤ 90) ∨ (97 ≤ c ∧ c ≤ 122))
  | _ => false
theorem isLet_sg (c : Nat) : isLet (sg c) = decide ((65 ≤ c ∧ c ≤ 90) ∨ (97 ≤ c ∧ c ≤ 122)) := rfl
theorem isLet_long {x : Str} (h : x.length ≠ 1) : isLet x = false := by
  unfold isLet
  split
  · rename_i c e
    rw [str_len, show x.cps.toList = [c] from e] at h
    exact absurd rfl h
  · rfl
theorem one_sign {x : Str} (h : x.length = 1) : ∃ c, x = sg c := by
  rw [str_len] at h
  match e : x.cps.toList, h with
  | [c], _ => exact ⟨c, str_ext e⟩
theorem in_letters (c : Nat) : decide (c ∈ ("ABCDEFGHIJKLMNOPQRSTUVWXYZabcdefghijklmnopqrstuvwxyz" : Str).cps.toList) = isLet (sg c) := by
  rw [isLet_sg]
  have e : ("ABCDEFGHIJKLMNOPQRSTUVWXYZabcdefghijklmnopqrstuvwxyz" : Str).cps.toList = List.range' 65 26 ++ List.range' 97 26 := by decide +kernel
  rw [e]
  congr 1
  rw [List.mem_append, List.mem_range'_1, List.mem_range'_1]
  simp only [eq_iff_iff]
  omega
def S_isatom : FS := fun ds W post => ∃ x : Str, ds = [.str x] ∧ W = [] ∧ x.length ≤ 16777216 ∧ post (.bl (isLet x)) []
def S_init : FS := fun ds W post => ∃ (x : Addr) (f : Fm), ds = [.adr x, .str f.kind, .tup (partsD f)] ∧ W = [(x, .ins 0 [] [])] ∧ f.okF ∧
  ∀ al, AllsD x f al f.alls → post .non [(x, .ins 0 fmNames [.str f.kind, .tup (partsD f), .int (f.many : Nat), .int (f.deep : Nat), .str f.atoms, .str f.outer, .str f.spell, .tup al])]
end N
set_option Elab.async false
set_option linter.all false
set_option maxRecDepth 100000
namespace N
open PySem PySem.Spec PyProof.Rows L2
theorem relV_ref (a : Addr) : RelV (.ref a) (.ref a) := rfl
theorem relV_ty (s : String) : RelV (.ty s) (.type s) := rfl
section
variable {X : Cx} {K : PySem.W.Frag}
theorem pe_fldK {e : Expr} {f : Str} {pos : Pos} {ta : TE} (hK : X.K = K) (h : PE X e ta) (hb : attributeBase e f X.env (eval e X.env) = eval e X.env) : PE X (e.Attribute f pos) (tFld K ta f) := hK ▸ pe_fld h hb
theorem ix_listK (hK : X.K = K) : IxR X (rIxL K) := hK ▸ ix_list
theorem ix_tupK (hK : X.K = K) : IxR X (rIxT K) := hK ▸ ix_tup
theorem call_isiKk (hK : X.K = K) : CallR X (.builtin "isinstance") (rIsi K) := hK ▸ call_isi
theorem sl_listK (hK : X.K = K) : SlR X (rSlL K) := hK ▸ sl_list
theorem pg_tupK {pos : Pos} {es : List Expr} {k : Nat} {t : TGs} {n : Nat} (hK : X.K = K) (hc : X.calm = true) (h : PGs X es t) (h1 : (assignEach es X.env).length = n := by rfl) (h2 : List.findIdx? (fun x => x.1) (assignEach es X.env) = none := by rfl) : PG X (Expr.Tuple es k pos) (gTup K n t) := hK ▸ pg_tup hc h h1 h2
theorem pi_listK {tg l : Expr} {tl : TE} (hK : X.K = K) (h : PE X l tl) : PI X tg l (iList K tl) := hK ▸ pi_list h
end
def tIfT (tc ta tb : TT) : TT := fun σ H Q => tc σ H fun c H1 => if c = true then ta σ H1 Q else tb σ H1 Q
theorem et_ifE {F : FmKit} {T : Kx} {tc ta tb : TT} {G : Gm} {W : Om} {S : Bool → Om → Prop} (h : EvT F T tc G W fun c W1 => if c = true then EvT F T ta G W1 S else EvT F T tb G W1 S) : EvT F T (tIfT tc ta tb) G W S := fun C H O σ w Q q =>
  h C H O σ w _ fun c W1 H1 O1 s n => by
    cases c with
    | true => exact s C H1 O1 σ (w.step n) _ fun b W2 H2 O2 s2 n2 => q b W2 H2 O2 s2 (n.trans n2)
    | false => exact s C H1 O1 σ (w.step n) _ fun b W2 H2 O2 s2 n2 => q b W2 H2 O2 s2 (n.trans n2)
end N
set_option Elab.async false
set_option linter.all false
set_option maxRecDepth 100000
namespace N
open PySem PySem.Spec PyProof.Rows L2
open C8 (InsC Cal)
section
variable {T : Kx} {C H H' O O' : Hp} {G : Gm} {W W' : Om} {σ : L2.St} {a p : Addr} {d : D} {l : List D} {ta : TE} {tr : TA} {R : D → Om → Prop} {S : FS} {E : XK}
/-- Formula(kind, ..) -/
theorem ev_mkF (h : EvA FK T tr G W fun ds W1 => ∃ f : Fm, ds = .str f.kind :: partsD f ∧ f.okF ∧ R (.fm f) W1) : Ev FK T (StX.tMakeR (T.cl 0) (spN FK T (starS 2 S_init)) E tr) G W R :=
  ev_fz (ev_makeR (fun C H O σ w Q q => h C H O σ w Q fun ds W1 H1 O1 vs ⟨f, e, hf, r⟩ n k => q ds W1 H1 O1 vs (fun x hx => by
    subst e
    refine ⟨[(x, .ins 0 [] [])], W1, List.Perm.refl _, by simp, ?_, x, f, rfl, rfl, hf, fun al ha => ⟨rfl, x, _, W1, .fm f, rfl, List.Perm.refl _, .fm f al ha, r⟩⟩
    have : (partsD f).length ≤ 2 := by cases f <;> simp [partsD]
    simp
    omega) n k))
theorem ev_inv (h : Ev FK T ta G W fun d W1 => ∃ f, d = .fm f ∧ Hand S [.fm f] W1 R) : Ev FK T (tUn (rOwn1 (T.cl 0) (spN FK T S) E) ta) G W R :=
  ev_un (h.imp fun d W1 ⟨f, e, hh⟩ => by
    subst e
    exact ca_own1 (.fm f) hh)
theorem ca_strF {f : Fm} (h : Hand S [.fm f] W fun d' W' => (∃ z, d' = .str z) ∧ R d' W') : Ca FK T (rStrO (T.cl 0) (spN FK T S)) [.fm f] W R := ca_strO (.fm f) h
theorem ev_prpF (h : Ev FK T ta G W fun d W1 => ∃ f, d = .fm f ∧ Hand S [.fm f] W1 R) : Ev FK T (tProp (T.cl 0) (spN FK T S) [] E ta) G W R :=
  ev_prop (h.imp fun d W1 ⟨f, e, hh⟩ => by
    subst e
    exact ⟨_, _, .fm f, hh⟩)
end
end N
set_option Elab.async false
set_option linter.all false
set_option maxRecDepth 100000
namespace N
open PySem PySem.Spec PyProof.Rows L2
section
variable {F : FmKit} {T : Kx} {C H H' O O' : Hp} {G : Gm} {W W' : Om} {R : D → Om → Prop} {d : D}
theorem bo_inSg {c : Nat} {z : Str} (r : R (.bl (decide (c ∈ z.cps.toList))) W) : Bo F T (fun x y H Q => ∃ (c : Nat) (z : Str), x = .str ⟨#[c]⟩ ∧ y = .str z ∧ Q (.bl (decide (c ∈ z.cps.toList))) H) (.str (sg c)) (.str z) W R := op_sc fun H Q k => ⟨c, z, rfl, rfl, k _ r⟩
theorem isi_strF {s : Str} {c : Nat} {ns : List Str} (z : CZ T.K (T.cl c) ns) (r : R (.bl false) W) : Ca F T (rIsi T.K) [.str s, .adr (T.cl c)] W R := ca_isi (.own _) tyd_str z.ist r
end
end N
set_option Elab.async false
set_option linter.all false
set_option maxRecDepth 100000
namespace N
open PySem PySem.Spec PyProof.Rows L2
open C8 (Cal)
structure Ok1 (k n : Nat) (d : PyData) : Prop where
  lv : PyData.leavesShort 13 d = true
  sh : d.showable = true
  nd : d.hasDict = false
  dp : d.depth ≤ k
  wt : d.weight ≤ n
theorem ok_all {k n : Nat} : ∀ {l : List PyData}, (∀ d ∈ l, Ok1 k n d) → PyData.leavesShortAll 13 l = true ∧ PyData.showableAll l = true ∧ PyData.hasDictAll l = false ∧ PyData.depthAll l ≤ k ∧ PyData.weightAll l ≤ l.length * (n + 1)
  | [], _ => ⟨rfl, rfl, rfl, Nat.zero_le _, by simp [PyData.weightAll]⟩
  | d :: l, h => by
    have h1 := h d List.mem_cons_self
    obtain ⟨h2, h3, h4, h5, h6⟩ := ok_all (l := l) fun x hx => h x (List.mem_cons_of_mem _ hx)
    refine ⟨by simp [PyData.leavesShortAll, h1.lv, h2], by simp [PyData.showableAll, h1.sh, h3], by simp [PyData.hasDictAll, h1.nd, h4], ?_, ?_⟩
    · have := h1.dp
      simp only [PyData.depthAll]
      omega
    · have := h1.wt
      simp only [PyData.weightAll, List.length_cons, Nat.succ_mul]
      omega
theorem ok_tup {k n : Nat} {l : List PyData} (h : ∀ d ∈ l, Ok1 k n d) : Ok1 (k + 1) (l.length * (n + 1) + 1) (.tuple l) := by
  obtain ⟨h2, h3, h4, h5, h6⟩ := ok_all h
  refine ⟨by simp [PyData.leavesShort, h2], by simp [PyData.showable, h3], by simp [PyData.hasDict, h4], ?_, ?_⟩
  · simp only [PyData.depth]
    omega
  · simp only [PyData.weight]
    omega
theorem short_ints : ∀ n : Nat, n < 100 → (PyData.int (n : Nat)).shown.length ≤ 13 := by decide +kernel
theorem wt_ints : ∀ n : Nat, n < 100 → (PyData.int (n : Nat)).weight ≤ 8 := by decide +kernel
theorem ok_int {i : Int} (h0 : 0 ≤ i) (h1 : i < 100) : Ok1 0 8 (.int i) := by
  obtain ⟨n, rfl⟩ := Int.eq_ofNat_of_zero_le h0
  refine ⟨by simpa [PyData.leavesShort] using short_ints n (by omega), ?_, rfl, Nat.le_refl _, wt_ints n (by omega)⟩
  simp only [PyData.showable, decide_eq_true_eq, Int.natAbs_natCast]
  have : n.log2 ≤ n := Nat.log2_le_self n
  omega
theorem Ok1.up {k n k' n' : Nat} {d : PyData} (h : Ok1 k n d) (hk : k ≤ k') (hn : n ≤ n') : Ok1 k' n' d := ⟨h.lv, h.sh, h.nd, Nat.le_trans h.dp hk, Nat.le_trans h.wt hn⟩
theorem Ok1.shw {k n : Nat} {d : PyData} (h : Ok1 k n d) (hk : k ≤ 30) (hn : n ≤ 100000) : Shw d := ⟨h.sh, h.nd, Nat.le_trans h.dp hk, by
  have h1 := PyData.shown_le 13 (by decide) d h.lv
  have h2 := h.wt
  have := sizeLine_eq
  omega⟩
/-- data one behind the other -/
structure OkL (k n : Nat) (l : List PyData) : Prop where
  lv : PyData.leavesShortAll 13 l = true
  sh : PyData.showableAll l = true
  nd : PyData.hasDictAll l = false
  dp : PyData.depthAll l ≤ k
  wt : PyData.weightAll l ≤ n
theorem OkL.lst {k n : Nat} {l : List PyData} (h : OkL k n l) : Ok1 (k + 1) n (.list l) := by
  refine ⟨by simp [PyData.leavesShort, h.lv], by simp [PyData.showable, h.sh], by simp [PyData.hasDict, h.nd], ?_, ?_⟩
  · have := h.dp
    simp only [PyData.depth]
    omega
  · have := h.wt
    simp only [PyData.weight]
    omega
theorem OkL.tup {k n : Nat} {l : List PyData} (h : OkL k n l) : Ok1 (k + 1) n (.tuple l) := by
  refine ⟨by simp [PyData.leavesShort, h.lv], by simp [PyData.showable, h.sh], by simp [PyData.hasDict, h.nd], ?_, ?_⟩
  · have := h.dp
    simp only [PyData.depth]
    omega
  · have := h.wt
    simp only [PyData.weight]
    omega
theorem OkL.up {k n k' n' : Nat} {l : List PyData} (h : OkL k n l) (hk : k ≤ k') (hn : n ≤ n') : OkL k' n' l := ⟨h.lv, h.sh, h.nd, Nat.le_trans h.dp hk, Nat.le_trans h.wt hn⟩
theorem ok_str {x : Str} (h : ∀ c ∈ lets x, c < 16 ^ 8) : Ok1 0 x.length (.str x) := by
  refine ⟨?_, rfl, rfl, Nat.le_refl _, Nat.le_refl _⟩
  simp only [PyData.leavesShort, List.all_eq_true, decide_eq_true_eq]
  exact h
section
variable {F : FmKit} {T : Kx} {C H H' O O' : Hp} {G : Gm} {W W' : Om} {R : D → Om → Prop} {d e : D} {l m : List D} {te : TE} {t : TT}
theorem ei_imp {wi : TI} {Y Z : List D → Om → Prop} (h : EvI F T wi G W Y) (i : ∀ l W', Y l W' → Z l W') : EvI F T wi G W Z := fun C H O σ w Q q => h C H O σ w Q fun J ds W' H' O' y => q J ds W' H' O' (i _ _ y)
/-- list, tuple or text by a place -/
theorem bo_ixSq {i : Int} {z : D} (hv : Vs W d l) (hi : atI l i = some z) (r : R z W) : Bo F T (rIx T.K) d (.int i) W R := fun C H O di oc ow x y hx hy Q q => by
  obtain ⟨a, xs, e, hs, kl⟩ := hv.sq ow di hx
  have hy : y = .int i := hy
  obtain ⟨v, ev, kv⟩ := kl.atI hi
  subst e hy
  rcases hs with hs | hs
  · exact .inl ⟨a, xs, i, v, rfl, rfl, hs, ev, q z W H O v r (.refl di oc ow) kv⟩
  · exact .inr (.inl ⟨a, xs, i, v, rfl, rfl, hs, ev, q z W H O v r (.refl di oc ow) kv⟩)
theorem bo_ixSqS {i : Int} {x : Str} {c : Nat} (hl : x.length ≤ sizeLine) (hi : atI (lets x) i = some c) (r : R (.str (sg c)) W) : Bo F T (rIx T.K) (.str x) (.int i) W R := op_sc fun H Q k => .inr (.inr ⟨x, i, c, rfl, rfl, hl, hi, k _ r⟩)
/-- lists joined, frozen -/
theorem bo_cat (h1 : Vt W d l) (h2 : Vt W e m) (hl : l.length + m.length ≤ sizeLine) (r : R (.lst (l ++ m)) W) : Bo F T rCat d e W R := fun C H O di oc ow x y hx hy Q k => by
  obtain ⟨a, us, ea, ha, ku⟩ := h1.at ow di hx
  obtain ⟨b, vs, eb, hb, kv⟩ := h2.at ow di hy
  refine ⟨a, b, us, vs, ea, eb, ha, hb, by rw [ku.len, kv.len]; exact hl, fun z hz => ?_⟩
  obtain ⟨n2, e2, s2⟩ := (Nx.refl (F := F) (T := T) di oc ow).newF (o := .lst (us ++ vs)) hz
  rw [e2]
  exact k _ _ _ _ _ r n2 ⟨z, _, rfl, upd_same, (ku.mono s2).app (kv.mono s2)⟩
theorem den_rep (k : DenL F T H l xs) (n : Nat) : DenL F T H (List.replicate n l).flatten (List.replicate n xs).flatten := by
  induction n with
  | zero => exact rfl
  | succ n ih =>
    rw [List.replicate_succ, List.replicate_succ, List.flatten_cons, List.flatten_cons]
    exact k.app ih
/-- a comprehension, frozen -/
theorem ev_lcF {vs : List Nat} {wi : TI} {g : TG} (h : EvI F T wi G W fun ds W1 => ∃ I : Nat → List D → Om → Prop, I 0 [] W1 ∧
      (∀ i d acc W', ds[i]? = some d → I i acc W' → Tw F T vs g d (wipeG G vs) fun G2 => EvT F T t G2 W' fun b W2 => if b = true then Ev F T te G2 W2 (fun z W3 => acc.length < sizeLine ∧ I (i + 1) (acc ++ [z]) W3) else I (i + 1) acc W2) ∧
      (∀ acc W', I ds.length acc W' → R (.lst acc) W')) : Ev F T (tLc wi g t te vs) G W R :=
  ev_fz (ev_lc (ei_imp h fun ds W1 ⟨I, h1, h2, h3⟩ => ⟨I, h1, h2, fun acc W' hi p hp => ⟨p, _, W', _, rfl, List.Perm.refl _, .lst _, h3 acc W' hi⟩⟩))
/-- .. each item by itself -/
theorem ev_lcM {vs : List Nat} {wi : TI} {g : TG} (h : EvI F T wi G W fun ds W1 => ∃ es : List D, (∀ (i : Nat) (d e : D), ds[i]? = some d → es[i]? = some e → Tw F T vs g d (wipeG G vs) fun G2 => EvT F T t G2 W1 fun b W2 => b = true ∧ Ev F T te G2 W2 (fun z W3 => z = e ∧ W3 = W1)) ∧ es.length = ds.length ∧ es.length ≤ sizeLine ∧ R (.lst es) W1) : Ev F T (tLc wi g t te vs) G W R :=
  ev_lcF (ei_imp h fun ds W1 ⟨es, h3, h1, h2, h4⟩ => ⟨fun i acc W' => W' = W1 ∧ acc = es.take i, ⟨rfl, by simp⟩, fun i d acc W' hd ⟨e1, e2⟩ => by
    subst e1 e2
    have hi : i < ds.length := (List.getElem?_eq_some_iff.mp hd).1
    have he : es[i]? = some es[i] := List.getElem?_eq_getElem (by omega)
    refine fun H H1 σ v lo s k Q q => h3 i d es[i] hd he H H1 σ v lo s k Q fun G2 σ2 et l2 w2 => q G2 σ2 (fun C H O σ w Q q => et C H O σ w Q fun b W2 H2 O2 ⟨e, ev⟩ n => q b W2 H2 O2 ?_ n) l2 w2
    subst e
    rw [if_pos rfl]
    refine ev.imp fun z W3 ⟨e1, e2⟩ => ⟨by rw [List.length_take]; omega, e2, ?_⟩
    rw [e1, List.take_add_one, he]
    rfl, fun acc W' ⟨e1, e2⟩ => by
    subst e1 e2
    rw [← h1, List.take_length]
    exact h4⟩)
/-- .. with a test -/
theorem ev_lcP {vs : List Nat} {wi : TI} {g : TG} (h : EvI F T wi G W fun ds W1 => ∃ es : List (Bool × D), (∀ (i : Nat) (d : D) (e : Bool × D), ds[i]? = some d → es[i]? = some e → Tw F T vs g d (wipeG G vs) fun G2 => EvT F T t G2 W1 fun b W2 => b = e.1 ∧ if b = true then Ev F T te G2 W2 (fun z W3 => z = e.2 ∧ W3 = W1) else W2 = W1) ∧ es.length = ds.length ∧ es.length ≤ sizeLine ∧ R (.lst ((es.filter (·.1)).map (·.2))) W1) : Ev F T (tLc wi g t te vs) G W R :=
  ev_lcF (ei_imp h fun ds W1 ⟨es, h3, h1, h2, h4⟩ => ⟨fun i acc W' => W' = W1 ∧ acc = ((es.take i).filter (·.1)).map (·.2), ⟨rfl, by simp⟩, fun i d acc W' hd ⟨e1, e2⟩ => by
    subst e1 e2
    have hi : i < ds.length := (List.getElem?_eq_some_iff.mp hd).1
    have he : es[i]? = some es[i] := List.getElem?_eq_getElem (by omega)
    refine fun H H1 σ v lo s k Q q => h3 i d es[i] hd he H H1 σ v lo s k Q fun G2 σ2 et l2 w2 => q G2 σ2 (fun C H O σ w Q q => et C H O σ w Q fun b W2 H2 O2 ⟨e, ev⟩ n => q b W2 H2 O2 ?_ n) l2 w2
    have hf : ((es.take (i + 1)).filter (·.1)) = (es.take i).filter (·.1) ++ if es[i].1 = true then [es[i]] else [] := by
      rw [List.take_add_one, he, List.filter_append]
      congr 1
      simp only [Option.toList_some, List.filter_cons, List.filter_nil]
    have hl : (((es.take i).filter (·.1)).map (·.2)).length < sizeLine := by
      have := List.length_filter_le (fun z : Bool × D => z.1) (es.take i)
      rw [List.length_take] at this
      rw [List.length_map]
      omega
    cases b with
    | true =>
      rw [if_pos rfl] at ev
      refine if_so rfl ?_
      refine ev.imp fun z W3 ⟨e1, e2⟩ => ⟨hl, e2, ?_⟩
      rw [hf, if_pos e.symm, List.map_append, e1]
      rfl
    | false =>
      rw [if_neg Bool.false_ne_true] at ev
      refine if_not rfl ?_
      refine ⟨ev, ?_⟩
      rw [hf, if_neg (by rw [← e]; exact Bool.false_ne_true), List.append_nil], fun acc W' ⟨e1, e2⟩ => by
    subst e1 e2
    rw [← h1, List.take_length]
    exact h4⟩)
end
theorem cut63 {xs : List D} (h : xs.length ≤ 63) : cutD xs none (some 63) = xs := by
  unfold cutD
  have e1 : HT.sIx xs.length 0 none = 0 := rfl
  have e2 : HT.sIx xs.length xs.length (some 63) = min 63 xs.length := HT.sIx_nat _ _ 63
  rw [e1, e2, List.drop_zero]
  exact List.take_of_length_le (by omega)
/-- a deck at a, c draws done, all that belongs to it in W -/
abbrev Deck := Addr → Int → Om → Prop
abbrev kS (s : Str) : Key := Sum.inr s
@[reducible] def dkA (a l : Addr) (cells : List Int) (s c : Int) : Om := [(a, .dp [(kS "great", .adr l), (kS "mixed", .int s), (kS "lap", .int c)]), (l, .lst (cells.map D.int))]
def DkA : Deck := fun a c W => ∃ (l : Addr) (cells : List Int) (s n : Int), W = dkA a l cells s n ∧ cells.length ≤ 64 ∧ 0 ≤ n ∧ n ≤ c
def S_deck (Dk : Deck) : FS := fun ds W post => ∃ ns : List Int, ds = [.scr (ns.map V.int)] ∧ W = [] ∧ ns.length ≤ 63 ∧ ∀ (a : Addr) (W' : Om), Dk a 0 W' → post (.adr a) W'
def S_draw (Dk : Deck) : FS := fun ds W post => ∃ (a : Addr) (c n : Int), ds = [.adr a, .int n] ∧ Dk a c W ∧ 0 < n ∧ n < 1073741824 ∧ c < 2 ^ 60 ∧
  ∀ (z : Int) (W' : Om), 0 ≤ z → z < n → Dk a (c + 1) W' → post (.int z) W'
def S_pick (Dk : Deck) : FS := fun ds W post => ∃ (a : Addr) (c : Int) (m : D), ds = [.adr a, m] ∧ Dk a c W ∧ c < 2 ^ 60 ∧
  ((∃ l : List D, (m = .lst l ∨ m = .tup l) ∧ l ≠ [] ∧ l.length ≤ 1000000 ∧ ∀ z ∈ l, ∀ W', Dk a (c + 1) W' → post z W') ∨
   ∃ x : Str, m = .str x ∧ x.length ≠ 0 ∧ x.length ≤ 1000000 ∧ ∀ q ∈ lets x, ∀ W', Dk a (c + 1) W' → post (.str (sg q)) W')
theorem at_of_draw {α : Type} {l : List α} {z : Int} (h0 : 0 ≤ z) (h1 : z < l.length) : ∃ y ∈ l, atI l z = some y := by
  have hz : z.toNat < l.length := by omega
  refine ⟨l[z.toNat], List.getElem_mem hz, ?_⟩
  unfold atI ixN
  rw [if_pos h0, if_pos h1]
  simp [hz]
/-- what is asked of law: a list of at most 63 ints in, True out -/
def spTop (K : PySem.W.Frag) : Sp := fun vs H Q _ => ∃ (a : Addr) (ns : List Int), vs = [.ref a] ∧ SqL K H a (ns.map V.int) ∧ ns.length ≤ 63 ∧ ∀ H', Q (.bl true) H'
def S_law : FS := fun ds W post => ∃ ns : List Int, ds = [.scr (ns.map V.int)] ∧ W = [] ∧ ns.length ≤ 63 ∧ ∀ W', post (.bl true) W'
theorem top_sp {K : PySem.W.Frag} {cl : Nat → Addr} {vs : List V} {H : Hp} {Q : VK} {E : XK} (h : spTop K vs H Q E) : spN FK ⟨K, cl⟩ S_law vs H Q E := by
  obtain ⟨a, ns, rfl, hs, hl, q⟩ := h
  refine ⟨[.scr (ns.map V.int)], [], fun _ => none, H, fun _ => none, fun d W' => d = .bl true, ?_, ?_, fun _ _ e => e, ⟨List.nodup_nil, fun _ _ h => by cases h⟩, ⟨_, _, rfl, ⟨a, rfl, hs⟩, rfl⟩, ⟨ns, rfl, rfl, hl, fun W' => rfl⟩, fun d W' H' O' v e n kd => ?_⟩
  · funext b
    rfl
  · intro b o e
    cases e
  · subst e
    have kd : v = .bl true := kd
    subst kd
    exact q _
end N
set_option Elab.async false
set_option linter.all false
set_option maxRecDepth 100000
namespace L2
open PySem PySem.Spec PyProof.Rows
end L2
namespace N
open PySem L2
theorem ev_neg {F : FmKit} {T : Kx} {G : Gm} {W : Om} {R : D → Om → Prop} {ta : TE} {g : Int → V} (h : Ev F T ta G W fun d W1 => ∃ i : Int, d = .int i ∧ R (.vl (g i)) W1) : Ev F T (tUn (rU g) ta) G W R :=
  ev_un (h.imp fun d W1 ⟨i, e, r⟩ => by
    subst e
    exact cl_sc (xs := [.int i]) fun H Q k => ⟨.int i, rfl, i, rfl, k _ r⟩)
end N
set_option Elab.async false
set_option linter.all false
set_option maxRecDepth 100000
namespace N
open PySem PySem.Spec PyProof.Rows L2
section
variable (F : FmKit) (T : Kx)
def EvPs : List (TE × TE) → Gm → Om → List (Key × D) → (List (Key × D) → Om → Prop) → Prop
  | [], _, W, acc, Y => Y acc W
  | (tk, tv) :: r, G, W, acc, Y => Ev F T tk G W fun y W1 => Ev F T tv G W1 fun z W2 => ∃ k, y = kD k ∧ EvPs r G W2 (acc ++ [(k, z)]) Y
end
def mergeG (ps : List (Key × D)) : List (Key × D) := ps.foldl (fun acc kv => putG acc kv.1 kv.2) []
section
variable {F : FmKit} {T : Kx} {C H H' O O' : Hp} {G : Gm} {W W' : Om} {R : D → Om → Prop} {σ : L2.St} {d e : D} {l m : List D} {te : TE} {t : TT}
theorem EvPs.run {Y : List (Key × D) → Om → Prop} : ∀ {trs : List (TE × TE)} {acc : List (Key × D)} {W : Om} {H O : Hp}, EvPs F T trs G W acc Y → Wd F T C G W H O σ → ∀ Q : List (V × V) → Hp → Prop,
    (∀ (ps : List (Key × D)) (kvs : List (Key × V)) W' H' O', Y (acc ++ ps) W' → Nx F T C W' H H' O' → kvs.map (·.1) = ps.map (·.1) → DenL F T H' (ps.map (·.2)) (kvs.map (·.2)) → ps.length = trs.length → Q (kvs.map fun kv => (kV kv.1, kv.2)) (ov O' H')) → tPairs trs σ (ov O H) Q
  | [], acc, W, H, O, h, w, Q, q => q [] [] W H O (by rw [List.append_nil]; exact h) w.nx rfl rfl rfl
  | (tk, tv) :: r, acc, W, H, O, h, w, Q, q => h C H O σ w _ fun y W1 H1 O1 yv h1 n1 k1 => h1 C H1 O1 σ (w.step n1) _ fun z W2 H2 O2 zv ⟨k, ek, h2⟩ n2 k2 => by
    subst ek
    have k1 : yv = kV k := k1
    subst k1
    refine EvPs.run h2 ((w.step n1).step n2) _ fun ps kvs W' H' O' y n3 e1 e2 e3 => ?_
    refine q ((k, z) :: ps) ((k, zv) :: kvs) W' H' O' (by simpa using y) ((n1.trans n2).trans n3) (by simp [e1]) ⟨zv, _, rfl, k2.mono n3.ext, e2⟩ (by simp [e3])
theorem mergeK_keys : ∀ {ps : List (Key × D)} {kvs : List (Key × V)} {acc : List (Key × D)} {av : List (Key × V)}, kvs.map (·.1) = ps.map (·.1) → av.map (·.1) = acc.map (·.1) → (acc.map (·.1)).Nodup → DenL F T H (ps.map (·.2)) (kvs.map (·.2)) → DenL F T H (acc.map (·.2)) (av.map (·.2)) →
    (mergeK av kvs).map (·.1) = (ps.foldl (fun acc kv => putG acc kv.1 kv.2) acc).map (·.1) ∧ ((ps.foldl (fun acc kv => putG acc kv.1 kv.2) acc).map (·.1)).Nodup ∧ DenL F T H ((ps.foldl (fun acc kv => putG acc kv.1 kv.2) acc).map (·.2)) ((mergeK av kvs).map (·.2))
  | [], [], acc, av, _, e, nd, _, k => ⟨e, nd, k⟩
  | [], _ :: _, _, _, h, _, _, _, _ => by simp at h
  | _ :: _, [], _, _, h, _, _, _, _ => by simp at h
  | (k, z) :: ps, (j, v) :: kvs, acc, av, h, e, nd, ⟨w, r, e1, k1, k2⟩, ka => by
    simp only [List.map_cons, List.cons.injEq] at h e1
    obtain ⟨h1, h2⟩ := h
    obtain ⟨e1, e2⟩ := e1
    subst h1 e1 e2
    exact mergeK_keys (ps := ps) (kvs := kvs) (acc := putG acc j z) (av := putK av j v) h2 ((putG_V av j v) ▸ putG_keys (z := v) (y := z) e) (putG_nodup nd) k2 ((putG_V av j v) ▸ putG_den k1 e ka)
/-- {k: e, ..} -/
theorem ev_disp {trs : List (TE × TE)} (h : EvPs F T trs G W [] fun ps W' => ps.length ≤ 15 ∧ ∀ p, p ∉ akeys W' → R (.adr p) ((p, .dp (mergeG ps)) :: W')) : Ev F T (tDisp trs) G W R := fun C H O σ w Q q p hp => by
  obtain ⟨n0, e0, cp⟩ := w.nx.hide (o := .dK []) hp
  rw [e0]
  refine EvPs.run h ⟨n0.dis, n0.oc, w.loc, n0.own⟩ _ fun ps kvs W' H' O' y n e1 e2 e3 => ?_
  have hO : ov O' H' p = some (.dK []) := ov_own (n.oc p _ upd_same)
  have hl : kvs.length = ps.length := by
    have := congrArg List.length e1
    rwa [List.length_map, List.length_map] at this
  obtain ⟨y1, y2⟩ := y
  refine ⟨hO, kvs, rfl, by rw [hl]; exact y1, ?_⟩
  obtain ⟨n6, e6⟩ := Nx.rehide (o' := .dK (mergeK [] kvs)) n cp
  rw [e6]
  obtain ⟨m1, m2, m3⟩ := mergeK_keys (F := F) (T := T) (H := H') (acc := []) (av := []) e1 rfl List.nodup_nil e2 (show DenL F T H' (([] : List (Key × D)).map (·.2)) (([] : List (Key × V)).map (·.2)) from rfl)
  obtain ⟨n7, np⟩ := n6.show (od := .dp (mergeG ps)) cp ⟨mergeK [] kvs, rfl, m1, m2, m3⟩
  exact q (.adr p) _ H' _ _ (y2 p np) n7 rfl
theorem ca_slF {lo hi : Option Int} (hv : Vl W d l) (r : R (.lst (cutD l lo hi)) W) : Ca F T (fun xs H Q => ∃ x, xs = [x] ∧ rSlL T.K x lo hi H Q) [d] W R :=
  ca_fz (ca_slL hv fun p hp => ⟨p, _, W, _, rfl, List.Perm.refl _, .lst _, r⟩)
theorem ev_revF (h : Ev F T te G W fun d W1 => ∃ l, Vl W1 d l ∧ R (.lst l.reverse) W1) : Ev F T (tRevL T.K te) G W R :=
  ev_fz (ev_revL (h.imp fun d W1 ⟨l, hv, r⟩ => ⟨l, hv, fun p hp => ⟨p, _, W1, _, rfl, List.Perm.refl _, .lst _, r⟩⟩))
theorem ev_isV {v : V} {ta : TE} (h : Ev F T ta G W fun d W1 => d = .vl v ∧ R (.bl (decide (v = .non))) W1) : Ev F T (tIsN ta) G W R := ev_isN (h.imp fun d W1 ⟨e, r⟩ => ⟨_, fun H u k => by
  subst e
  have k : u = v := k
  rw [k], r⟩)
end
section
variable {F : FmKit} {T : Kx} {G : Gm} {W : Om} {R : D → Om → Prop}
theorem eps_nil {acc : List (Key × D)} {Y : List (Key × D) → Om → Prop} (h : Y acc W) : EvPs F T [] G W acc Y := h
theorem eps_cons {tk tv : TE} {r : List (TE × TE)} {acc : List (Key × D)} {Y : List (Key × D) → Om → Prop} (h : Ev F T tk G W fun y W1 => Ev F T tv G W1 fun z W2 => ∃ k, y = kD k ∧ EvPs F T r G W2 (acc ++ [(k, z)]) Y) : EvPs F T ((tk, tv) :: r) G W acc Y := h
theorem exk_str {s : Str} {Z : Key → Prop} (h : Z (Sum.inr s)) : ∃ k, D.vl (.str s) = kD k ∧ Z k := ⟨_, rfl, h⟩
theorem exk_int {i : Int} {Z : Key → Prop} (h : Z (Sum.inl i)) : ∃ k, D.vl (.int i) = kD k ∧ Z k := ⟨_, rfl, h⟩
theorem dg_str {d : D} {s : Str} {ps : List (Key × D)} {z : D} {Y : D → Prop} (hv : Vd W d ps) (hg : getG ps (Sum.inr s) = some z) (r : Y z) : ∃ ps k z, Vd W d ps ∧ D.vl (.str s) = kD k ∧ getG ps k = some z ∧ Y z := ⟨ps, _, z, hv, rfl, hg, r⟩
end
theorem putG_new {α : Type} {ps : List (Key × α)} {k : Key} {z : α} (h : k ∉ ps.map (·.1)) : putG ps k z = ps ++ [(k, z)] := by
  unfold putG
  rw [if_neg]
  intro e
  rw [List.any_eq_true] at e
  obtain ⟨q, hq, e⟩ := e
  exact h (List.mem_map.mpr ⟨q, hq, of_decide_eq_true e⟩)
theorem getG_hd {α : Type} (k : Key) (z : α) (ps : List (Key × α)) : getG ((k, z) :: ps) k = some z := by
  unfold getG
  rw [List.find?_cons, decide_eq_true rfl]
  rfl
theorem getG_tl {α : Type} {k j : Key} {y : α} {ps : List (Key × α)} {r : Option α} (h : decide (j = k) = false) (e : getG ps k = r) : getG ((j, y) :: ps) k = r := by
  rw [← e]
  unfold getG
  rw [List.find?_cons, h]
theorem putG_set {α : Type} {k : Key} {z : α} : ∀ {ps : List (Key × α)} {i : Nat}, (ps.map (·.1)).Nodup → (ps.map (·.1))[i]? = some k → putG ps k z = ps.set i (k, z) := fun {ps i} hn hi => by
  have hm : ∀ (ps : List (Key × α)) (i : Nat), (ps.map (·.1)).Nodup → (ps.map (·.1))[i]? = some k → (ps.any fun q => decide (q.1 = k)) = true ∧ ps.map (fun q => if q.1 = k then (q.1, z) else q) = ps.set i (k, z) := fun ps => by
    induction ps with
    | nil => intro i _ h; simp at h
    | cons p ps ih =>
      intro i hn hi
      rw [List.map_cons, List.nodup_cons] at hn
      cases i with
      | zero =>
        have e : p.1 = k := Option.some.inj hi
        refine ⟨by rw [List.any_cons, decide_eq_true e]; rfl, ?_⟩
        rw [List.map_cons, if_pos e, List.set_cons_zero, e]
        congr 1
        have : ∀ q ∈ ps, (if q.1 = k then (q.1, z) else q) = q := fun q hq => by
          rw [if_neg]
          intro e2
          exact hn.1 (List.mem_map.mpr ⟨q, hq, e2.trans e.symm⟩)
        rw [List.map_congr_left this, List.map_id']
      | succ i =>
        rw [List.map_cons, List.getElem?_cons_succ] at hi
        obtain ⟨h1, h2⟩ := ih i hn.2 hi
        refine ⟨by rw [List.any_cons, h1, Bool.or_true], ?_⟩
        have ne : p.1 ≠ k := fun e => hn.1 (by rw [e]; exact List.mem_of_getElem? hi)
        rw [List.map_cons, if_neg ne, List.set_cons_succ, h2]
  obtain ⟨h1, h2⟩ := hm ps i hn hi
  unfold putG
  rw [if_pos h1, h2]
theorem mergeG_acc : ∀ {ps acc : List (Key × D)}, ((acc ++ ps).map (·.1)).Nodup → ps.foldl (fun acc kv => putG acc kv.1 kv.2) acc = acc ++ ps
  | [], acc, _ => by simp
  | p :: ps, acc, h => by
    rw [List.foldl_cons]
    have hn : p.1 ∉ acc.map (·.1) := fun z => by
      rw [List.map_append, List.nodup_append] at h
      exact h.2.2 _ z _ (by simp) rfl
    rw [putG_new hn, mergeG_acc (by simpa using h)]
    simp
theorem mergeG_nd {ps : List (Key × D)} (h : (ps.map (·.1)).Nodup) : mergeG ps = ps := by
  unfold mergeG
  rw [mergeG_acc (by simpa using h)]
  rfl
end N
set_option Elab.async false
set_option linter.all false
set_option maxRecDepth 100000
namespace N
open PySem PySem.Spec PyProof.Rows L2
section
variable {F : FmKit} {T : Kx} {C H H' O O' : Hp} {G : Gm} {W W' : Om} {R : D → Om → Prop} {d e : D} {l m : List D} {te : TE} {t : TT}
theorem den_ints_inv {ns : List Int} {xs : List V} (kl : DenL F T H (ns.map D.int) xs) : xs = ns.map V.int := by
  rw [show ns.map D.int = (ns.map V.int).map D.vl by rw [List.map_map]; rfl] at kl
  exact DenL.vls_inv kl
theorem den_bls_inv {bs : List Bool} {xs : List V} (kl : DenL F T H (bs.map D.bl) xs) : xs = bs.map V.bl := by
  rw [show bs.map D.bl = (bs.map V.bl).map D.vl by rw [List.map_map]; rfl] at kl
  exact DenL.vls_inv kl
theorem ca_max {ns : List Int} {m : Int} (hv : Vl W d (ns.map D.int)) (hm : m ∈ ns) (hy : ∀ y ∈ ns, y ≤ m) (r : R (.int m) W) : Ca F T (rMax T.K) [d] W R := ca_one fun C H O di oc ow x k Q q => by
  obtain ⟨a, xs, e, hs, kl⟩ := hv.sq ow di k
  rw [den_ints_inv kl] at hs
  refine ⟨a, ns, by rw [e], hs, List.length_pos_of_mem hm, fun m' h1 h2 => ?_⟩
  have : m' = m := Int.le_antisymm (hy _ h1) (h2 _ hm)
  subst this
  exact q _ W H O _ r (.refl di oc ow) rfl
theorem ca_all {bs : List Bool} (hv : Vl W d (bs.map D.bl)) (r : R (.bl (bs.all id)) W) : Ca F T (rAll T.K) [d] W R := ca_one fun C H O di oc ow x k Q q => by
  obtain ⟨a, xs, e, hs, kl⟩ := hv.sq ow di k
  rw [den_bls_inv kl] at hs
  exact ⟨a, bs, by rw [e], hs, q _ W H O _ r (.refl di oc ow) rfl⟩
theorem cut_all {α : Type} {xs : List α} {a b : Nat} (h : a = 0 ∧ b = xs.length) : (xs.drop a).take (b - a) = xs := by
  obtain ⟨rfl, rfl⟩ := h
  simp
/-- a slice of a tuple -/
theorem ca_slT {lo hi : Option Int} (r : R (.tup (cutD l lo hi)) W) : Ca F T (fun xs H Q => ∃ x, xs = [x] ∧ rSlA T.K x lo hi H Q) [.tup l] W R := ca_one fun C H O di oc ow x k Q q => by
  obtain ⟨a, xs, e, hs, kl⟩ := id k
  refine ⟨x, rfl, a, xs, e, Same.sqT di.same hs, fun h => ?_, fun h p hp => ?_⟩
  · subst e
    refine q (.tup (cutD l lo hi)) W H O _ r (.refl di oc ow) ?_
    have : cutD l lo hi = l := cut_all (by rw [kl.len] at h; exact h)
    rw [this]
    exact k
  · obtain ⟨n2, e2, s2⟩ := (Nx.refl (F := F) (T := T) di oc ow).newF (o := .tup (cutV xs lo hi)) hp
    rw [e2]
    exact q _ _ _ _ _ r n2 ⟨p, _, rfl, SqT.of upd_same, (kl.cut lo hi).mono s2⟩
/-- a slice of a text -/
theorem ca_slS {lo hi : Option Int} {x : Str} (hl : x.length ≤ sizeLine) (r : R (.str (cutS x lo hi)) W) : Ca F T (fun xs H Q => ∃ x, xs = [x] ∧ rSlS x lo hi H Q) [.str x] W R := cl_sc (xs := [.str x]) fun H Q k => ⟨_, rfl, x, rfl, hl, k _ r⟩
end
section
variable (F : FmKit) (T : Kx)
def Unr (vs : List Nat) (g : TG) (t : TT) (te : TE) (G0 : Gm) (Y : List D → Om → Prop) : List D → List D → Om → Prop
  | [], acc, W => Y acc W
  | d :: ds, acc, W => Tw F T vs g d G0 fun G2 => EvT F T t G2 W fun b W2 => if b = true then Ev F T te G2 W2 (fun z W3 => acc.length < sizeLine ∧ Unr vs g t te G0 Y ds (acc ++ [z]) W3) else Unr vs g t te G0 Y ds acc W2
def Swu (g : TG) (ts : TS) (E : En) : List D → Gm → Om → Prop
  | [], G, W => E.nx G W
  | d :: ds, G, W => Tg F T g d G fun G2 => Sw F T ts G2 W { E with nx := Swu g ts E ds, ct := Swu g ts E ds, bk := E.nx }
end
section
variable {F : FmKit} {T : Kx} {G : Gm} {W : Om} {R : D → Om → Prop} {te : TE} {t : TT} {vs : List Nat} {wi : TI} {g : TG} {ts : TS} {E : En} {d : D} {ds acc : List D} {Y : List D → Om → Prop}
theorem unr_nil (h : Y acc W) : Unr F T vs g t te G Y [] acc W := h
theorem unr_cons (h : Tw F T vs g d G fun G2 => EvT F T t G2 W fun b W2 => if b = true then Ev F T te G2 W2 (fun z W3 => acc.length < sizeLine ∧ Unr F T vs g t te G Y ds (acc ++ [z]) W3) else Unr F T vs g t te G Y ds acc W2) : Unr F T vs g t te G Y (d :: ds) acc W := h
theorem swu_nil (h : E.nx G W) : Swu F T g ts E [] G W := h
theorem swu_cons (h : Tg F T g d G fun G2 => Sw F T ts G2 W { E with nx := Swu F T g ts E ds, ct := Swu F T g ts E ds, bk := E.nx }) : Swu F T g ts E (d :: ds) G W := h
theorem acc_ok (h : acc.length ≤ 1000 := by simp) : acc.length < sizeLine := by
  have := sizeLine_eq
  omega
end
section
variable {F : FmKit} {T : Kx} {W : Om} {R : D → Om → Prop}
theorem ca_intBt {b : Bool} (hb : b = true) (h : R (.int 1) W) : Ca F T (fun xs H Q => (∃ i, xs = [.int i] ∧ Q (.int i) H) ∨ ∃ k, xs = [.bl k] ∧ Q (.int (if k then 1 else 0)) H) [.bl b] W R := ca_intB (by rw [hb]; exact h)
theorem ca_intBf {b : Bool} (hb : b = false) (h : R (.int 0) W) : Ca F T (fun xs H Q => (∃ i, xs = [.int i] ∧ Q (.int i) H) ∨ ∃ k, xs = [.bl k] ∧ Q (.int (if k then 1 else 0)) H) [.bl b] W R := ca_intB (by rw [hb]; exact h)
end
section
variable {F : FmKit} {T : Kx} {C H H' O O' : Hp} {W : Om} {R : D → Om → Prop} {S : FS} {l : List D}
theorem tyd_tup : TyD F T W (.tup l) (.type "tuple") := fun C H O di ow x k => by
  obtain ⟨a, xs, e, hs, kl⟩ := k
  subst e
  rcases Same.sqT di.same hs with (h | ⟨o, h⟩) | ⟨o, its, n, h1, h2, _⟩
  · exact .base (.tup h)
  · exact .fTuple h
  · exact .kTuple h1 h2
theorem isi_tup (r : R (.bl true) W) : Ca F T (rIsi T.K) [.tup l, .vl (.ty "tuple")] W R := ca_isi (.ty "tuple") tyd_tup (by unfold PySem.W.kitOne; rfl) r
theorem isi_fm {f : Fm} {ns : List Str} (z : CZ T.K (T.cl 0) ns) (r : R (.bl true) W) : Ca FK T (rIsi T.K) [.fm f, .adr (T.cl 0)] W R := isi_ins (.fm f) z.ins r
theorem ca_lenF {f : Fm} (h : Hand S [.fm f] W fun d' W' => (∃ n : Int, d' = .int n ∧ 0 ≤ n ∧ n < 2 ^ 63) ∧ R d' W') : Ca FK T (rLenO (T.cl 0) (spN FK T S)) [.fm f] W R := ca_lenO (.fm f) h
end
end N
set_option Elab.async false
set_option linter.all false
set_option maxRecDepth 100000
set_option maxHeartbeats 4000000
set_option Elab.async false
set_option linter.all false
set_option maxRecDepth 100000
namespace N
open PySem PySem.Spec PyProof.Rows L2 PySem.SeqAt
def rNeE (K : PySem.W.Frag) : R2 := fun x y H Q => ∃ (a b : Addr) (xs : List V), x = .ref a ∧ y = .ref b ∧ SqL K H a xs ∧ SqL K H b [] ∧ Q (.bl (!xs.isEmpty)) H
def rEqE (K : PySem.W.Frag) : R2 := fun x y H Q => ∃ (a b : Addr) (xs : List V), x = .ref a ∧ y = .ref b ∧ SqL K H a xs ∧ SqL K H b [] ∧ Q (.bl xs.isEmpty) H
theorem op_neE {X : Cx} (hu' : X.A.units + 64 < cLine) : OpR X (compareOp .NotEq) (rNeE X.K) := by
  have hu : X.A.units < cLine := Nat.lt_of_le_of_lt (Nat.le_add_right _ _) hu'
  intro pins s σ H x y v u Q I rx ry h
  obtain ⟨a, b, xs, rfl, rfl, ha, hb, q⟩ := h
  cases rx
  cases ry
  obtain ⟨its, r1, p1, _⟩ := I.list ha
  obtain ⟨its2, r2, p2, _⟩ := I.list hb
  cases r2
  cases r1 with
  | nil =>
    have := RcNeAt.lists (e := fun _ => true) p1.isList p2.isList rfl hu (fun j h1 _ => absurd h1 (Nat.not_lt_zero _)) X.prog X.w (E := X.xe) (Q := EP X pins σ Q) ⟨.bl false, H, I, rfl, q⟩
    exact this
  | cons h t =>
    exact RcNeAt.lists_lengths p1.isList p2.isList (by simp) hu X.prog X.w (E := X.xe) (Q := EP X pins σ Q) ⟨.bl true, H, I, rfl, q⟩
theorem op_eqE {X : Cx} (hu' : X.A.units + 64 < cLine) : OpR X (compareOp .Eq) (rEqE X.K) := by
  have hu : X.A.units < cLine := Nat.lt_of_le_of_lt (Nat.le_add_right _ _) hu'
  intro pins s σ H x y v u Q I rx ry h
  obtain ⟨a, b, xs, rfl, rfl, ha, hb, q⟩ := h
  cases rx
  cases ry
  obtain ⟨its, r1, p1, _⟩ := I.list ha
  obtain ⟨its2, r2, p2, _⟩ := I.list hb
  cases r2
  cases r1 with
  | nil => exact eq_listAt (e := fun _ => true) p1.isList p2.isList rfl hu (fun j h1 _ => absurd h1 (Nat.not_lt_zero _)) ⟨.bl true, H, I, rfl, q⟩
  | cons h t => exact eq_list_lengthsAt p1.isList p2.isList (by simp) hu ⟨.bl false, H, I, rfl, q⟩
section
variable {F : FmKit} {T : Kx} {C H H' O O' : Hp} {G : Gm} {W W' : Om} {R : D → Om → Prop} {d e : D} {l m : List D} {te : TE} {t : TT} {tr : TA}
theorem den_empty {l : List D} {xs : List V} (kl : DenL F T H l xs) : xs.isEmpty = l.isEmpty := by
  have := kl.len
  cases l <;> cases xs <;> simp at this ⊢
theorem bo_neE (h1 : Vl W d l) (h2 : Vl W e []) (r : R (.bl (!l.isEmpty)) W) : Bo F T (rNeE T.K) d e W R := fun C H O di oc ow x y hx hy Q k => by
  obtain ⟨a, xs, ea, ha, ka⟩ := h1.sq ow di hx
  obtain ⟨b, ys, eb, hb, kb⟩ := h2.sq ow di hy
  have kb : ys = [] := kb
  subst kb
  refine ⟨a, b, xs, ea, eb, ha, hb, ?_⟩
  rw [den_empty ka]
  exact k _ W H O _ r (.refl di oc ow) rfl
theorem bo_eqE (h1 : Vl W d l) (h2 : Vl W e []) (r : R (.bl l.isEmpty) W) : Bo F T (rEqE T.K) d e W R := fun C H O di oc ow x y hx hy Q k => by
  obtain ⟨a, xs, ea, ha, ka⟩ := h1.sq ow di hx
  obtain ⟨b, ys, eb, hb, kb⟩ := h2.sq ow di hy
  have kb : ys = [] := kb
  subst kb
  refine ⟨a, b, xs, ea, eb, ha, hb, ?_⟩
  rw [den_empty ka]
  exact k _ W H O _ r (.refl di oc ow) rfl
end
end N
set_option Elab.async false
set_option linter.all false
set_option maxRecDepth 100000
namespace N
open PySem PySem.Spec PyProof.Rows L2
open C8 (Cal Met Mak InsC pe_c pe_mt pe_mt0 pe_mk)
section
variable {X : Cx} {k j : Nat} {x m : Str} {C : Addr} {sp : Sp} {e o : Expr} {es : List Expr} {t ta : TA} {p pos apos : Pos}
theorem kb1_of {K : PySem.W.Frag} {x qual : Str} {st : Stmt} {f : Addr} {fd : FuncData} {ps ks : List Str} {g : List Value → List Value → List Value} {gV : List V → List V → List V} (Fn : Fun K x qual st f fd)
    (h : ∀ (kV doc pm : Value) (an : Option Addr) (cdv ct u : Value) (ws : List Value), ws.length = ks.length → bindArgs (PySem.W.fnOf x qual (defArgs st) (defBody st) (defScope st) .none kV doc pm an cdv ct) ⟨[u], ks.zip ws⟩ = pure (ps.zip (g [u] ws)))
    (rel : ∀ {vs : List V} {us : List Value} {zs : List V} {ws : List Value}, Vals vs us → Vals zs ws → Vals (gV vs zs) (g us ws)) : KBn K fd ps 1 ks g gV := by
  obtain ⟨oc, od, kV, doc, pm, an, cdv, ct, osl, rfl, lk, hcd⟩ := Fn.ex
  refine ⟨fun s us ws _ h1 h2 => ?_, rel⟩
  obtain ⟨u, rfl⟩ : ∃ u, us = [u] := List.length_eq_one_iff.mp h1
  exact .of_eq (h kV doc pm an cdv ct u ws h2)
end
section
variable {F : FmKit} {T : Kx} {C H H' O O' : Hp} {G : Gm} {W W' : Om} {R : D → Om → Prop} {σ : L2.St} {d e : D} {l m : List D} {te ta tb tx : TE} {t : TT} {tr tk : TA} {S : FS}
/-- *e among the arguments -/
theorem ea_star {R : List D → Om → Prop} (h : Ev F T te G W fun d W1 => ∃ l, (Vl W1 d l ∨ d = .tup l) ∧ EvA F T tr G W1 fun ds W2 => R (l ++ ds) W2) : EvA F T (StX.tStar T.K te tr) G W R := fun C H O σ w Q q =>
  h C H O σ w _ fun d W1 H1 O1 x ⟨l, hv, ha⟩ n1 k1 => by
    have : ∃ p xs, x = V.ref p ∧ (SqT T.K (ov O1 H1) p xs ∨ SqL T.K (ov O1 H1) p xs) ∧ DenL F T H1 l xs := by
      rcases hv with hv | rfl
      · obtain ⟨p, xs, e, hs, kl⟩ := hv.sq n1.own n1.dis k1
        exact ⟨p, xs, e, .inr hs, kl⟩
      · obtain ⟨p, xs, e, hs, kl⟩ := k1
        exact ⟨p, xs, e, .inl (Same.sqT n1.dis.same hs), kl⟩
    obtain ⟨p, xs, e, hs, kl⟩ := this
    refine ⟨p, xs, e, hs, ha C H1 O1 σ (w.step n1) _ fun ds W2 H2 O2 vs r n2 k2 => ?_⟩
    exact q _ W2 H2 O2 _ r (n1.trans n2) ((kl.mono n2.ext).app k2)
end
section
variable {F : FmKit} {T : Kx} {G : Gm} {W : Om} {R : D → Om → Prop}
/-- {k: e, ..}, frozen at once -/
theorem ev_dispF {trs : List (TE × TE)} (h : EvPs F T trs G W [] fun ps W' => ps.length ≤ 15 ∧ R (.dp (mergeG ps)) W') : Ev F T (tDisp trs) G W R := by
  have up : ∀ (trs : List (TE × TE)) (W : Om) (acc : List (Key × D)) (Y Z : List (Key × D) → Om → Prop), (∀ ps W', Y ps W' → Z ps W') → EvPs F T trs G W acc Y → EvPs F T trs G W acc Z := by
    intro trs
    induction trs with
    | nil => exact fun W acc Y Z i h => i _ _ h
    | cons t trs ih => exact fun W acc Y Z i h => Ev.imp h fun y W1 h1 => Ev.imp h1 fun z W2 ⟨k, e, h2⟩ => ⟨k, e, ih _ _ _ _ i h2⟩
  exact ev_fz (ev_disp (up _ _ _ _ _ (fun ps W' ⟨h1, h2⟩ => ⟨h1, fun p hp => ⟨p, _, W', _, rfl, List.Perm.refl _, .dct _ _, h2⟩⟩) h))
end
end N
set_option Elab.async false
set_option linter.all false
set_option maxRecDepth 100000
set_option maxHeartbeats 1000000
namespace PySem
open Sem (wp)
/-- a zip that stands, strict -/
abbrev StrictZip (hp : Heap) (z ins held : Addr) (v : Value) : Prop := hp.get? z = some { cls := .type "zip", data := .fields #[v, .bool false, .bool true, .ref ins, .ref held] }
section
variable {prog : Program} {w : World} {A : Around} {E : Value → Shared → Prop} {s : Shared} {z ins held j1 j2 : Addr} {f1 f2 : List Addr} {n i : Nat} {P1 P2 P : Nat → Value → Prop} {S1 S2 St : Nat → Heap → Prop} {u1 u2 : Value} {it : Addr} {fp : List Addr}
theorem orEnd_more {Q : Option Value → Shared → Prop} (D : Draws prog w A it fp n P St) (hi : i < n) (st : St i s.heap) (q : ∀ x hp tk, P i x → St (i + 1) hp → Heap.SameBut it s.heap hp → Q (some x) { s with heap := hp, toks := tk }) :
    wpAny (model prog w) A (Builtin.SmallTypes.nextOrEnd (.ref it)) Q E s :=
  wpAny_bind (wpAny_attempt (D.item i s _ _ hi st fun x hp tk a b c => wpAny_pure (q x hp tk a b c)))
theorem orEnd_none {Q : Option Value → Shared → Prop} (D : Draws prog w A it fp n P St) (st : St n s.heap) (q : ∀ hp, Heap.ExtBut it s.heap hp → Q none { s with heap := hp }) :
    wpAny (model prog w) A (Builtin.SmallTypes.nextOrEnd (.ref it)) Q E s :=
  wpAny_bind (wpAny_attempt (D.done s _ _ st fun hp e k ⟨o, ho, hc⟩ => wpAny_bind (wpAny_isInstance (T := "StopIteration") (b := true) ⟨o, ho, hc⟩ isSubtype_stop (wpAny_pure (q hp k)))))
theorem strict_more {Q : Value → Shared → Prop} (S : ZipSep2 z ins held j1 j2 f1 f2) (D1 : Draws prog w A j1 f1 n P1 S1) (D2 : Draws prog w A j2 f2 n P2 S2)
    (hz : StrictZip s.heap z ins held .none) (hI : IsTupOf2 s.heap ins (.ref j1) (.ref j2)) (hO : IsTupOf2 s.heap held u1 u2) (k1 : S1 i s.heap) (k2 : S2 i s.heap) (hi : i < n)
    (q : ∀ x y hp tk, P1 i x → P2 i y → StrictZip hp z ins held (rawInt s.heap.objs.size) → IsTupOf2 hp held x y → S1 (i + 1) hp → S2 (i + 1) hp → IsTupOf2 hp s.heap.objs.size x y → hp.objs.size = s.heap.objs.size + 1 →
      (∀ c o, c ∉ [z, held, j1, j2] → s.heap.get? c = some o → hp.get? c = some o) → Q (.ref s.heap.objs.size) { s with heap := hp, toks := tk }) :
    wpAny (model prog w) A (Builtin.«zip.__next__» ⟨[.ref z], []⟩) (fun fin s' => ∃ v, fin = .done (.ret v) ∧ Q v s') E s := by
  obtain ⟨h0, g, d, t0, os⟩ := s
  simp only at hz hI hO k1 k2 q
  have af : ∀ {k : Nat} {x : Value} {Q : Value → Shared → Prop} {E : Value → Shared → Prop}, (#[Value.none, .bool false, .bool true, .ref ins, .ref held] : Array Value)[k]? = some x → Q x ⟨h0, g, d, t0, os⟩ → wpAny (model prog w) A (field (.ref z) k) Q E ⟨h0, g, d, t0, os⟩ := fun e q => wpAny_field hz rfl e q
  have ast : ∀ {Q : Unit → Shared → Prop} {E : Value → Shared → Prop}, (∀ h1, StrictZip h1 z ins held .ellipsis → Heap.SameBut z h0 h1 → Q () ⟨h1, g, d, t0, os⟩) → wpAny (model prog w) A (setField (.ref z) 0 .ellipsis) Q E ⟨h0, g, d, t0, os⟩ := fun q => wpAny_setField_rec hz (by simp) fun h1 a b => q h1 a b
  wp_walk using wpAny_seqItems hI rfl, ast, wpAny_onRaise
  intro h1 z1 b1
  have r1 : ∀ {Q : Option Value → Shared → Prop} {E : Value → Shared → Prop}, (∀ x hp tk, P1 i x → S1 (i + 1) hp → Heap.SameBut j1 h1 hp → Q (some x) ⟨hp, g, d, tk, os⟩) → wpAny (model prog w) A (Builtin.SmallTypes.nextOrEnd (.ref j1)) Q E ⟨h1, g, d, t0, os⟩ := fun q => orEnd_more D1 hi (D1.over k1 b1 S.zf1) q
  wp_walk using wpAny_onRaise, r1
  intro x h2 t2 px k1 b2
  have o2 : IsTupOf2 h2 held u1 u2 := b2.extBut _ _ S.Ti1 (b1.extBut _ _ S.TOz hO)
  have r2 : ∀ {k : Nat} {x : Value} {Q : Unit → Shared → Prop} {E : Value → Shared → Prop}, (∀ hp, hp.get? held = some { cls := .type "tuple", data := .seq ((#[u1, u2] : Array Value).setIfInBounds k x) } → Heap.SameBut held h2 hp → Q () ⟨hp, g, d, t2, os⟩) → wpAny (model prog w) A (updateSeq held (·.setIfInBounds k x)) Q E ⟨h2, g, d, t2, os⟩ := fun q => updateSeq_IsTupOf2 o2 q
  wp_walk using wpAny_seqItems o2 rfl, r2
  intro h3 o3 b3
  replace o3 : IsTupOf2 h3 held x u2 := o3
  have r3 : ∀ {Q : Option Value → Shared → Prop} {E : Value → Shared → Prop}, (∀ x hp tk, P2 i x → S2 (i + 1) hp → Heap.SameBut j2 h3 hp → Q (some x) ⟨hp, g, d, tk, os⟩) → wpAny (model prog w) A (Builtin.SmallTypes.nextOrEnd (.ref j2)) Q E ⟨h3, g, d, t2, os⟩ := fun q => orEnd_more D2 hi (D2.over (D2.over (D2.over k2 b1 S.zf2) b2 S.sep1_2) b3 S.Tf2) q
  wp_walk using wpAny_onRaise, r3
  intro y h4 t4 py k2 b4
  have o4 : IsTupOf2 h4 held x u2 := b4.extBut _ _ S.Ti2 o3
  have r4 : ∀ {k : Nat} {v : Value} {Q : Unit → Shared → Prop} {E : Value → Shared → Prop}, (∀ hp, hp.get? held = some { cls := .type "tuple", data := .seq ((#[x, u2] : Array Value).setIfInBounds k v) } → Heap.SameBut held h4 hp → Q () ⟨hp, g, d, t4, os⟩) → wpAny (model prog w) A (updateSeq held (·.setIfInBounds k v)) Q E ⟨h4, g, d, t4, os⟩ := fun q => updateSeq_IsTupOf2 o4 q
  wp_walk using wpAny_seqItems o4 rfl, r4
  intro h5 o5 b5
  replace o5 : IsTupOf2 h5 held x y := o5
  have sz : h5.objs.size = h0.objs.size := by rw [b5.1, b4.1, b3.1, b2.1, b1.1]
  have z5 : StrictZip h5 z ins held .ellipsis := b5.extBut _ _ S.TOz.symm (b4.extBut _ _ S.zi2 (b3.extBut _ _ S.TOz.symm (b2.extBut _ _ S.zi1 z1)))
  have lt : z < h5.objs.size := Heap.lt_size z5
  have z6 : StrictZip (h5.push { cls := .type "tuple", data := .seq #[x, y] }) z ins held .ellipsis := Heap.get?_push_of_some _ z5
  have r6 : ∀ {hp : Heap} {f : Value} {v : Value} {Q : Unit → Shared → Prop} {E : Value → Shared → Prop}, StrictZip hp z ins held f → (∀ hq, StrictZip hq z ins held v → Heap.SameBut z hp hq → Q () ⟨hq, g, d, t4, os⟩) → wpAny (model prog w) A (setField (.ref z) 0 v) Q E ⟨hp, g, d, t4, os⟩ := fun a q => wpAny_setField_rec a (by simp) fun hq b c => q hq b c
  have r7 : ∀ {hp : Heap} {f : Value} {Q : Unit → Shared → Prop} {E : Value → Shared → Prop}, StrictZip hp z ins held f → (∀ hq, StrictZip hq z ins held f → Heap.SameBut z hp hq → Q () ⟨hq, g, d, t4, os⟩) → wpAny (model prog w) A (setField (.ref z) 1 (.bool false)) Q E ⟨hp, g, d, t4, os⟩ := fun a q => wpAny_setField_rec a (by simp) fun hq b c => q hq b c
  wp_walk using wpAny_seqItems o5 rfl, r6 z6
  intro h7 z7 b7
  refine r7 z7 fun h8 z8 b8 => wpAny_pure ⟨_, rfl, ?_⟩
  have up : ∀ c o, c ≠ z → h5.get? c = some o → h8.get? c = some o := fun c o ne e => b8.extBut _ _ ne (b7.extBut _ _ ne (Heap.get?_push_of_some _ e))
  have new : IsTupOf2 h8 h5.objs.size x y := b8.extBut _ _ (Nat.ne_of_gt lt) (b7.extBut _ _ (Nat.ne_of_gt lt) (Heap.get?_push_size _ rfl))
  have e8 : h8.objs.size = h5.objs.size + 1 := by rw [b8.1, b7.1, Heap.size_push]
  rw [sz] at z8 new e8
  have a1 : S1 (i + 1) h8 := D1.frame _ _ _ (D1.over (D1.over (D1.over k1 b3 S.Tf1) b4 S.sep2_1) b5 S.Tf1) fun b hb o e => up b o (fun q => S.zf1 (q ▸ hb)) e
  have a2 : S2 (i + 1) h8 := D2.frame _ _ _ (D2.over k2 b5 S.Tf2) fun b hb o e => up b o (fun q => S.zf2 (q ▸ hb)) e
  rw [sz]
  refine q x y h8 t4 px py z8 (up _ _ S.TOz o5) a1 a2 new e8 fun c o nc e => ?_
  simp only [List.mem_cons, List.not_mem_nil, or_false, not_or] at nc
  obtain ⟨cz, cT, c1, c2⟩ := nc
  exact up c o cz (b5.extBut _ _ cT (b4.extBut _ _ c2 (b3.extBut _ _ cT (b2.extBut _ _ c1 (b1.extBut _ _ cz e)))))
theorem strict_none {Q : Fin → Shared → Prop} (hh : A.handled = none) (S : ZipSep2 z ins held j1 j2 f1 f2) (D1 : Draws prog w A j1 f1 n P1 S1) (D2 : Draws prog w A j2 f2 n P2 S2)
    (hz : StrictZip s.heap z ins held .none) (hI : IsTupOf2 s.heap ins (.ref j1) (.ref j2)) (k1 : S1 n s.heap) (k2 : S2 n s.heap)
    (q : ∀ hp tk e, (∀ c o, c ∉ [z, held, j1, j2] → s.heap.get? c = some o → hp.get? c = some o) → (∃ o, hp.get? e = some o ∧ o.cls = .type "StopIteration") → E (.ref e) { s with heap := hp, toks := tk }) :
    wpAny (model prog w) A (Builtin.«zip.__next__» ⟨[.ref z], []⟩) Q E s := by
  obtain ⟨h0, g, d, t0, os⟩ := s
  simp only at hz hI k1 k2 q
  have ast : ∀ {hp : Heap} {v f : Value} {Q : Unit → Shared → Prop} {E : Value → Shared → Prop}, StrictZip hp z ins held f → (∀ h1, StrictZip h1 z ins held v → Heap.SameBut z hp h1 → Q () ⟨h1, g, d, t0, os⟩) → wpAny (model prog w) A (setField (.ref z) 0 v) Q E ⟨hp, g, d, t0, os⟩ := fun a q => wpAny_setField_rec a (by simp) fun h1 a b => q h1 a b
  wp_walk using wpAny_seqItems hI rfl, ast hz, wpAny_onRaise
  intro h1 z1 b1
  have r1 : ∀ {Q : Option Value → Shared → Prop} {E : Value → Shared → Prop}, (∀ hp, Heap.ExtBut j1 h1 hp → Q none ⟨hp, g, d, t0, os⟩) → wpAny (model prog w) A (Builtin.SmallTypes.nextOrEnd (.ref j1)) Q E ⟨h1, g, d, t0, os⟩ := fun q => orEnd_none D1 (D1.over k1 b1 S.zf1) q
  wp_walk using wpAny_onRaise, r1
  intro h2 b2
  have z2 : StrictZip h2 z ins held .ellipsis := b2 _ _ S.zi1 z1
  wp_walk using ast z2
  intro h3 z3 b3
  have r2 : ∀ {Q : Option Value → Shared → Prop} {E : Value → Shared → Prop}, (∀ hp, Heap.ExtBut j2 h3 hp → Q none ⟨hp, g, d, t0, os⟩) → wpAny (model prog w) A (Builtin.SmallTypes.nextOrEnd (.ref j2)) Q E ⟨h3, g, d, t0, os⟩ := fun q => orEnd_none D2 (D2.over (D2.frame _ _ _ (D2.over k2 b1 S.zf2) fun b hb o e => b2 b o (fun x => S.sep1_2 (x ▸ hb)) e) b3 S.zf2) q
  wp_walk using r2
  intro h4 b4
  wp_walk
  simp only [raiseNew]
  refine wpAny_bind (wpAny_handled ?_)
  rw [hh]
  refine wpAny_bind (wpAny_pure (wpAny_throw ?_))
  refine q _ _ _ (fun c o nc e => ?_) ⟨_, Heap.get?_push_size _ rfl, rfl⟩
  simp only [List.mem_cons, List.not_mem_nil, or_false, not_or] at nc
  obtain ⟨cz, cT, c1, c2⟩ := nc
  exact Heap.get?_push_of_some _ (Heap.get?_push_of_some _ (b4 _ _ c2 (b3.extBut _ _ cz (b2 _ _ c1 (b1.extBut _ _ cz e)))))
theorem next_more {Q : Option Value → Shared → Prop} (S : ZipSep2 z ins held j1 j2 f1 f2) (D1 : Draws prog w A.in1 j1 f1 n P1 S1) (D2 : Draws prog w A.in1 j2 f2 n P2 S2)
    (hz : StrictZip s.heap z ins held .none) (hI : IsTupOf2 s.heap ins (.ref j1) (.ref j2)) (hO : IsTupOf2 s.heap held u1 u2) (k1 : S1 i s.heap) (k2 : S2 i s.heap) (hi : i < n)
    (q : ∀ x y hp tk, P1 i x → P2 i y → StrictZip hp z ins held (rawInt s.heap.objs.size) → IsTupOf2 hp held x y → S1 (i + 1) hp → S2 (i + 1) hp → IsTupOf2 hp s.heap.objs.size x y → hp.objs.size = s.heap.objs.size + 1 →
      (∀ c o, c ∉ [z, held, j1, j2] → s.heap.get? c = some o → hp.get? c = some o) → Q (some (.ref s.heap.objs.size)) { s with heap := hp, toks := tk }) : wpAny (model prog w) A (pyNext (.ref z)) Q E s :=
  have ty : s.TypeIs (.ref z) "zip" := ⟨_, hz, rfl⟩
  wpAny_bind (wpAny_attempt (wpAny_callSpecial?_slot (name := Str.ofString "__next__") ty F.slot_zip_next (wpAny_call_entry F.slot_zip_next ty F.entry_zip_next
    (strict_more S D1 D2 hz hI hO k1 k2 hi fun x y hp tk a b c d e f g h l => wpAny_pure (q x y hp tk a b c d e f g h l)) (F.args_zip_next_1 _))))
theorem next_none {Q : Option Value → Shared → Prop} (hh : A.handled = none) (S : ZipSep2 z ins held j1 j2 f1 f2) (D1 : Draws prog w A.in1 j1 f1 n P1 S1) (D2 : Draws prog w A.in1 j2 f2 n P2 S2)
    (hz : StrictZip s.heap z ins held .none) (hI : IsTupOf2 s.heap ins (.ref j1) (.ref j2)) (k1 : S1 n s.heap) (k2 : S2 n s.heap)
    (q : ∀ hp tk, (∀ c o, c ∉ [z, held, j1, j2] → s.heap.get? c = some o → hp.get? c = some o) → Q none { s with heap := hp, toks := tk }) : wpAny (model prog w) A (pyNext (.ref z)) Q E s :=
  have ty : s.TypeIs (.ref z) "zip" := ⟨_, hz, rfl⟩
  wpAny_bind (wpAny_attempt (wpAny_callSpecial?_slot (name := Str.ofString "__next__") ty F.slot_zip_next (wpAny_call_entry F.slot_zip_next ty F.entry_zip_next
    (strict_none (show A.in1.handled = none from hh) S D1 D2 hz hI k1 k2 fun hp tk e k ⟨o, ho, hc⟩ => wpAny_bind (wpAny_isInstance (T := "StopIteration") (b := true) ⟨o, ho, hc⟩ isSubtype_stop (wpAny_pure (q _ _ k)))) (F.args_zip_next_1 _))))
theorem go_strict {elts : List Expr} {kk : Nat} {pos : Pos} {T : Addr} {Q : Unit → Shared → Prop} (hz : StrictZip s.heap z ins held (rawInt T)) (q : ∀ hp, StrictZip hp z ins held .none → Heap.SameBut z s.heap hp → Q () { s with heap := hp }) :
    wpAny (model prog w) A (letOwnedTupleGo (.Tuple elts kk pos) (.ref z) (.ref T)) Q E s := by
  unfold letOwnedTupleGo
  refine wpAny_bind (wpAny_load hz ?_)
  refine wpAny_ite_true (by simp) ?_
  exact wpAny_bind (wpAny_rule (wpAny_setField_rec hz (by simp) fun hp a b => q hp a b))
theorem iter_strict {v : Value} {Q : Value → Shared → Prop} (hz : StrictZip s.heap z ins held v) (q : Q (.ref z) s) : wpAny (model prog w) A (pyIter (.ref z)) Q E s :=
  have ty : s.TypeIs (.ref z) "zip" := ⟨_, hz, rfl⟩
  wpAny_pyIter_slot ty F.slot_zip_iter (wpAny_call_entry F.slot_zip_iter ty F.entry_zip_iter (wpAny_pure ⟨_, rfl, "zip", _, ty, F.slot_zip_next.lookup, q⟩) (F.args_zip_iter_1 _))
end
end PySem
set_option Elab.async false
set_option linter.all false
set_option maxRecDepth 100000
set_option maxHeartbeats 1000000
namespace N
open PySem PySem.Spec PyProof.Rows L2
open C8 (Cal Met Mak InsC pe_c pe_mt pe_mt0 pe_mk)
inductive Kd
  | lst (a : Addr)
  | tup (a : Addr)
  | txt (x : Str)
def Kd.v : Kd → V
  | .lst a => .ref a
  | .tup a => .ref a
  | .txt x => .str x
def Kd.src (K : PySem.W.Frag) (H : Hp) : Kd → List V → Prop
  | .lst a, xs => SqL K H a xs
  | .tup a, xs => SqT K H a xs
  | .txt x, xs => xs = x.cps.toList.map fun c => V.str ⟨#[c]⟩
def Kd.at (k : Kd) (t : Tok) (it : Addr) (i : Nat) (h : Heap) : Prop := match k with
  | .lst a => h.IsListIter it a i
  | .tup a => h.IsTupleIter it a i
  | .txt x => h.IsStrIter it (strIterType x) x t i
def Kd.low (k : Kd) (b : Nat) : Prop := match k with
  | .lst a => a < b
  | .tup a => a < b
  | .txt _ => True
theorem Kd.keep {k : Kd} {t : Tok} {it : Addr} {i : Nat} {h h' : Heap} (s : k.at t it i h) (e : ∀ o, h.get? it = some o → h'.get? it = some o) : k.at t it i h' := by
  cases k with
  | lst a => exact Heap.IsListIter.at s e
  | tup a => exact Heap.IsTupleIter.at s e
  | txt x =>
    obtain ⟨o, ho, r⟩ := s
    exact ⟨o, e o ho, r⟩
theorem Kd.obj {k : Kd} {t : Tok} {it : Addr} {i : Nat} {h : Heap} (s : k.at t it i h) : ∃ o, h.get? it = some o ∧ ∀ v, o.data ≠ .cell v := by
  cases k with
  | lst a =>
    obtain ⟨o, e, _, d⟩ := s
    exact ⟨o, e, fun v q => by rw [d] at q; cases q⟩
  | tup a =>
    obtain ⟨o, e, _, d⟩ := s
    exact ⟨o, e, fun v q => by rw [d] at q; cases q⟩
  | txt x =>
    obtain ⟨o, e, _, d⟩ := s
    exact ⟨o, e, fun v q => by rw [d] at q; cases q⟩
section
variable {X : Cx} {pins : List (Addr × Obj)} {σ : L2.St} {H : Hp} {s : Shared}
theorem Kd.inj {k : Kd} {xs ys : List V} (I : Inv X pins σ H s) (h : k.src X.K H xs) (h' : k.src X.K H ys) : xs = ys := by
  cases k with
  | lst a => exact I.list_inj h h'
  | tup a => exact I.tuple_inj h h'
  | txt x => exact Eq.trans h (Eq.symm h')
/-- the iterator over a source, as it stands now -/
theorem Kd.draws {k : Kd} {t : Tok} {it : Addr} {xs : List V} (I : Inv X pins σ H s) (hc : X.calm = true) (hs : k.src X.K H xs) {b : Nat} (hl : k.low b) (hb : b ≤ it) :
    ∃ (fp : List Addr) (P : Nat → Value → Prop) (St : Nat → Heap → Prop), Draws X.prog X.w X.A.in1 it fp xs.length P St ∧ it ∈ fp ∧ (∀ c ∈ fp, c = it ∨ c < b) ∧ (∀ i, k.at t it i s.heap → St i s.heap) ∧ (∀ i h, St i h → k.at t it i h) ∧ ∀ i v, P i v → ∃ x, xs[i]? = some x ∧ RelV x v := by
  have hh : X.A.in1.handled = none := I.ok.hd hc
  cases k with
  | lst a =>
    obtain ⟨its, rv, p, _⟩ := I.list hs
    have ne : a ≠ it := Nat.ne_of_lt (Nat.lt_of_lt_of_le hl hb)
    have D := Draws.list (prog := X.prog) (w := X.w) hh it a ne its.toArray
    have e : its.toArray.size = xs.length := by simp [rv.length]
    rw [e] at D
    refine ⟨_, _, _, D, by simp, fun c hc => ?_, fun i st => ⟨st, p.isList⟩, fun i h st => st.1, fun i v h => ?_⟩
    · simp at hc
      rcases hc with e | e
      · exact .inl e
      · subst e
        exact .inr hl
    · have h : its[i]? = some v := by simpa using h
      have hi : i < xs.length := by
        have := (List.getElem?_eq_some_iff.mp h).1
        rw [rv.length]
        exact this
      obtain ⟨u, hu, ru⟩ := rv.get (List.getElem?_eq_getElem hi)
      rw [h] at hu
      cases hu
      exact ⟨_, List.getElem?_eq_getElem hi, ru⟩
  | tup a =>
    obtain ⟨its, rv, p, _⟩ := I.tuple hs
    have ne : a ≠ it := Nat.ne_of_lt (Nat.lt_of_lt_of_le hl hb)
    have D := Draws.tuple (prog := X.prog) (w := X.w) hh it a ne its.toArray
    have e : its.toArray.size = xs.length := by simp [rv.length]
    rw [e] at D
    refine ⟨_, _, _, D, by simp, fun c hc => ?_, fun i st => ⟨st, p⟩, fun i h st => st.1, fun i v h => ?_⟩
    · simp at hc
      rcases hc with e | e
      · exact .inl e
      · subst e
        exact .inr hl
    · have h : its[i]? = some v := by simpa using h
      have hi : i < xs.length := by
        have := (List.getElem?_eq_some_iff.mp h).1
        rw [rv.length]
        exact this
      obtain ⟨u, hu, ru⟩ := rv.get (List.getElem?_eq_getElem hi)
      rw [h] at hu
      cases hu
      exact ⟨_, List.getElem?_eq_getElem hi, ru⟩
  | txt x =>
    have hs : xs = x.cps.toList.map fun c => V.str ⟨#[c]⟩ := hs
    subst hs
    have D := Draws.text (prog := X.prog) (w := X.w) hh it x t
    have e : (x.cps.toList.map fun c => V.str ⟨#[c]⟩).length = x.cps.size := by simp
    rw [e]
    refine ⟨_, _, _, D, by simp, fun c hc => .inl (by simpa using hc), fun i st => st, fun i h st => st, fun i v ⟨c, u, h1, h2⟩ => ?_⟩
    refine ⟨.str ⟨#[c]⟩, ?_, u, h2⟩
    rw [List.getElem?_map]
    have : x.cps.toList[i]? = some c := by simpa using h1
    rw [this]
    rfl
end
def ZAt (strict : Bool) (h : Heap) (z ins held : Addr) (v : Value) : Prop := if strict then StrictZip h z ins held v else IsZip h z ins held v
def ItzK (K : PySem.W.Frag) (k1 k2 : Kd) (strict : Bool) : It :=
  ⟨fun i H => ∃ xs ys : List V, k1.src K H xs ∧ k2.src K H ys ∧ i < xs.length ∧ i < ys.length ∧ (strict = true → xs.length = ys.length),
    fun i H v H' => ∃ T x y, v = .ref T ∧ H T = none ∧ H' = upd H T (.tup [x, y]) ∧ (∀ xs, k1.src K H xs → xs[i]? = some x) ∧ ∀ ys, k2.src K H ys → ys[i]? = some y,
    fun i H => ∃ xs ys : List V, k1.src K H xs ∧ k2.src K H ys ∧ i ≤ xs.length ∧ i ≤ ys.length ∧ (i = xs.length ∨ i = ys.length) ∧ (strict = true → xs.length = ys.length)⟩
theorem ne_add {b c d : Nat} (h : c ≠ d) : b + c ≠ b + d := by omega
theorem zno {b k : Nat} (h : k ≠ 0) (_ : 0 ≠ k) : ¬ (b + k = b ∨ b + k < b) := by omega
theorem zno2 {b k : Nat} (h : k ≠ 1) : ¬ (b + k = b + 1 ∨ b + k < b) := by omega
theorem zsep {b : Nat} {f1 f2 : List Addr} (m1 : b ∈ f1) (m2 : b + 1 ∈ f2) (h1 : ∀ c ∈ f1, c = b ∨ c < b) (h2 : ∀ c ∈ f2, c = b + 1 ∨ c < b) : ZipSep2 (b + 4) (b + 2) (b + 3) b (b + 1) f1 f2 where
  TIz := ne_add (by decide)
  TOz := ne_add (by decide)
  TITO := ne_add (by decide)
  TIi1 := ne_add (c := 2) (d := 0) (by decide)
  mem1 := m1
  zf1 := fun h => zno (by decide) (by decide) (h1 _ h)
  Tf1 := fun h => zno (by decide) (by decide) (h1 _ h)
  TIi2 := ne_add (by decide)
  mem2 := m2
  zf2 := fun h => zno2 (by decide) (h2 _ h)
  Tf2 := fun h => zno2 (by decide) (h2 _ h)
  sep1_2 := fun h => zno2 (k := 0) (by decide) (h2 _ h)
  sep2_1 := fun h => zno (by decide) (by decide) (h1 _ h)
theorem turn_zipK {P : Program} {w : World} {K : PySem.W.Frag} {elts : List Expr} {kk : Nat} {tpos : Pos} {k1 k2 : Kd} {u1 u2 : Tok} {strict : Bool} {b : Nat} (l1 : k1.low b) (l2 : k2.low b) :
    Turn P w K (.Tuple elts kk tpos) (ItzK K k1 k2 strict) [b + 4, b + 2, b + 3, b, b + 1] (b + 4) (fun i h => ZAt strict h (b + 4) (b + 2) (b + 3) .none ∧ IsTupOf2 h (b + 2) (.ref b) (.ref (b + 1)) ∧ (∃ u v, IsTupOf2 h (b + 3) u v) ∧ k1.at u1 b i h ∧ k2.at u2 (b + 1) i h) where
  mem := by simp
  obj := fun i h st c hc => by
    obtain ⟨hz, hI, ⟨x, y, hO⟩, s1, s2⟩ := st
    simp only [List.mem_cons, List.not_mem_nil, or_false] at hc
    rcases hc with rfl | rfl | rfl | rfl | rfl
    · cases strict
      · exact ⟨_, hz, fun v q => nomatch q⟩
      · exact ⟨_, hz, fun v q => nomatch q⟩
    · exact ⟨_, hI, fun v q => nomatch q⟩
    · exact ⟨_, hO, fun v q => nomatch q⟩
    · exact Kd.obj s1
    · exact Kd.obj s2
  keep := fun i h h' st k => by
    obtain ⟨hz, hI, ⟨x, y, hO⟩, s1, s2⟩ := st
    refine ⟨?_, k _ (by simp) _ hI, ⟨x, y, k _ (by simp) _ hO⟩, Kd.keep s1 fun o e => k _ (by simp) o e, Kd.keep s2 fun o e => k _ (by simp) o e⟩
    cases strict
    · exact k (b + 4) (by simp) _ hz
    · exact k (b + 4) (by simp) _ hz
  item := by
    intro X hP hw hK hc i pins s σ H E I hf st hg
    subst hP hw hK
    obtain ⟨hz, hI, ⟨x0, y0, hO⟩, s1, s2⟩ := st
    obtain ⟨xs, ys, hx, hy, i1, i2, hst⟩ := hg
    obtain ⟨f1, P1, S1, D1, m1, b1, t1, o1, v1⟩ := Kd.draws (t := u1) (it := b) I hc hx l1 (Nat.le_refl _)
    obtain ⟨f2, P2, S2, D2, m2, b2, t2, o2, v2⟩ := Kd.draws (t := u2) (it := b + 1) I hc hy l2 (Nat.le_succ _)
    have S := zsep m1 m2 b1 b2
    have lt : b + 4 < s.heap.objs.size := by cases strict <;> exact Heap.lt_size hz
    have fin : ∀ (x y : Value) (h' h2 : Heap) (tk : Tok), P1 i x → P2 i y → ZAt strict h2 (b + 4) (b + 2) (b + 3) .none → Heap.SameBut (b + 4) h' h2 → IsTupOf2 h' (b + 3) x y → S1 (i + 1) h' → S2 (i + 1) h' → IsTupOf2 h' s.heap.objs.size x y →
        (∀ c o, c ≠ b + 4 → c ≠ b + 3 → c ≠ b → c ≠ b + 1 → s.heap.get? c = some o → h'.get? c = some o) →
        ∃ (v : V) (H' : Hp), Inv X pins σ H' { s with heap := h2, toks := tk } ∧ RelV v (.ref s.heap.objs.size) ∧ (ItzK X.K k1 k2 strict).yld i H v H' ∧
          (ZAt strict h2 (b + 4) (b + 2) (b + 3) .none ∧ IsTupOf2 h2 (b + 2) (.ref b) (.ref (b + 1)) ∧ (∃ u v, IsTupOf2 h2 (b + 3) u v) ∧ k1.at u1 b (i + 1) h2 ∧ k2.at u2 (b + 1) (i + 1) h2) ∧ ∀ c ∈ [b + 4, b + 2, b + 3, b, b + 1], H' c = none := by
      intro x y h' h2 tk px py z2 sb o' a1 a2 new kp
      obtain ⟨u, gu, ru⟩ := v1 i x px
      obtain ⟨v, gv, rv⟩ := v2 i y py
      have up : ∀ c o, c ≠ b + 4 → h'.get? c = some o → h2.get? c = some o := fun c o ne e => (sb.2 c ne).trans e
      have new2 : IsTupOf2 h2 s.heap.objs.size x y := up _ _ (Nat.ne_of_gt lt) new
      have ok : ObjOk X.prog X.w (upd H s.heap.objs.size (.tup [u, v])) h2 s.heap.objs.size (.tup [u, v]) :=
        ⟨by show 2 ≤ sizeLine; decide, [x, y], .cons ru (.cons rv .nil), ⟨_, new2, rfl, _, rfl⟩⟩
      have I1 : Inv X pins σ (upd H s.heap.objs.size (.tup [u, v])) { s with heap := h2, toks := tk } :=
        I.turnedNew (t' := tk) (ch := [b + 4, b + 2, b + 3, b, b + 1]) (fun c o hb q => up c o (fun q' => hb (by simp [q'])) (kp c o (fun q' => hb (by simp [q'])) (fun q' => hb (by simp [q'])) (fun q' => hb (by simp [q'])) (fun q' => hb (by simp [q'])) q)) hf (Nat.le_refl _) ok
      refine ⟨.ref s.heap.objs.size, _, I1, rfl, ⟨_, u, v, rfl, I.hok.fresh (Nat.le_refl _), rfl, fun l hl => by rw [Kd.inj I hl hx]; exact gu, fun l hl => by rw [Kd.inj I hl hy]; exact gv⟩, ⟨z2, ?_, ⟨x, y, up _ _ (ne_add (by decide)) o'⟩, ?_, ?_⟩, fun c hcm => ?_⟩
      · exact up _ _ (ne_add (by decide)) (kp _ _ (ne_add (by decide)) (ne_add (by decide)) (ne_add (c := 2) (d := 0) (by decide)) (ne_add (by decide)) hI)
      · exact Kd.keep (o1 _ _ a1) fun o e => up _ _ (ne_add (c := 0) (d := 4) (by decide)) e
      · exact Kd.keep (o2 _ _ a2) fun o e => up _ _ (ne_add (by decide)) e
      · have hlt : c < s.heap.objs.size := by
          simp only [List.mem_cons, List.not_mem_nil, or_false] at hcm
          have lt : (b : Nat) + 4 < s.heap.objs.size := lt
          rcases hcm with rfl | rfl | rfl | rfl | rfl
          · exact lt
          · exact Nat.lt_trans (Nat.add_lt_add_left (by decide) b) lt
          · exact Nat.lt_trans (Nat.add_lt_add_left (by decide) b) lt
          · exact Nat.lt_of_le_of_lt (Nat.le_add_right _ 4) lt
          · exact Nat.lt_trans (Nat.add_lt_add_left (by decide) b) lt
        rw [upd_ne (Nat.ne_of_lt hlt)]
        exact (hf c hcm).1
    cases strict with
    | false =>
      refine wpAny_pyNext_zipD2_item S D1 D2 hz hI hO (t1 _ s1) (t2 _ s2) i1 i2 fun x y h' tk px py z' o' a1 a2 new _ kp => ?_
      exact ⟨_, rfl, wpAny_letOwnedTupleGo_zip (s := { s with heap := h', toks := tk }) z' fun h2 z2 sb => fin x y h' h2 tk px py z2 sb o' a1 a2 new kp⟩
    | true =>
      have e := hst rfl
      rw [← e] at D2
      refine next_more S D1 D2 hz hI hO (t1 _ s1) (t2 _ s2) i1 fun x y h' tk px py z' o' a1 a2 new _ kp => ?_
      exact ⟨_, rfl, go_strict (s := { s with heap := h', toks := tk }) z' fun h2 z2 sb => fin x y h' h2 tk px py z2 sb o' a1 a2 new fun c o c1 c2 c3 c4 q => kp c o (by simp only [List.mem_cons, List.not_mem_nil, or_false, not_or]; exact ⟨c1, c2, c3, c4⟩) q⟩
  done := by
    intro X hP hw hK hc i pins s σ H E I hf st hg
    subst hP hw hK
    obtain ⟨hz, hI, ⟨x0, y0, hO⟩, s1, s2⟩ := st
    obtain ⟨xs, ys, hx, hy, i1, i2, he, hst⟩ := hg
    obtain ⟨f1, P1, S1, D1, m1, b1, t1, o1, v1⟩ := Kd.draws (t := u1) (it := b) I hc hx l1 (Nat.le_refl _)
    obtain ⟨f2, P2, S2, D2, m2, b2, t2, o2, v2⟩ := Kd.draws (t := u2) (it := b + 1) I hc hy l2 (Nat.le_succ _)
    have S := zsep m1 m2 b1 b2
    cases strict with
    | false => exact wpAny_pyNext_zipD2_end S D1 D2 hz hI hO (t1 _ s1) (t2 _ s2) i1 i2 he fun h' tk k => ⟨rfl, I.turnedL (t' := tk) (ch := [b + 4, b + 2, b + 3, b, b + 1]) (fun c o hb q =>
        k c o (fun q' => hb (by simp [q'])) (fun q' => hb (by simp [q'])) (fun q' => hb (by simp [q'])) (fun q' => hb (by simp [q'])) q) hf⟩
    | true =>
      have e := hst rfl
      have ei : i = xs.length := by omega
      subst ei
      rw [← e] at D2
      exact next_none (I.ok.hd hc) S D1 D2 hz hI (t1 _ s1) (t2 _ s2) fun h' tk k => ⟨rfl, I.turnedL (t' := tk) (ch := [b + 4, b + 2, b + 3, b, b + 1]) (fun c o hb q => k c o (fun q' => hb (by simp only [List.mem_cons, List.not_mem_nil, or_false] at q' ⊢; rcases q' with h | h | h | h <;> simp [h])) q) hf⟩
  self := fun A i s Q E st h => by
    cases strict
    · exact wpAny_pyIter_zip st.1 h
    · exact iter_strict st.1 h
end N
set_option Elab.async false
set_option linter.all false
set_option maxRecDepth 100000
set_option maxHeartbeats 1000000
namespace PySem
open Sem (wp)
theorem tc_strict (a b : Value) : checkTypeCall "zip" ⟨[a, b], [(Str.ofString "strict", .bool true)]⟩ = pure () := by kernel_rfl
theorem nc_strict (a b : Value) : checkBuiltinCall "zip.__new__" ⟨[.type "zip", a, b], [(Str.ofString "strict", .bool true)]⟩ = pure () := by kernel_rfl
theorem ao_strict (obj a b : Value) : argsOk "object.__init__" ⟨[obj, a, b], [(Str.ofString "strict", .bool true)]⟩ := by unfold argsOk; kernel_rfl
def zs1 (h : Heap) (p q : Obj) : Heap := (h.push p).push q
def zs2 (h : Heap) (p q : Obj) : Heap := (zs1 h p q).push { cls := .type "tuple", data := .seq #[.ref h.objs.size, .ref (h.push p).objs.size] }
def zs3 (h : Heap) (p q : Obj) : Heap := (zs2 h p q).push { cls := .type "tuple", data := .seq #[.none, .none] }
def zs4 (h : Heap) (p q : Obj) : Heap := (zs3 h p q).push { cls := .type "zip", data := .fields #[.none, .bool false, .bool true, .ref (zs1 h p q).objs.size, .ref (zs2 h p q).objs.size] }
theorem meets_strict {v1 v2 : Value} {p q : Obj} {H1 H2 : Heap → Prop} (B1 : Begins v1 p H1) (B2 : Begins v2 q H2) :
    Meets (Builtin.«zip.__new__» ⟨[.type "zip", v1, v2], [(Str.ofString "strict", .bool true)]⟩) (fun _ R s => (H1 s.heap ∧ H2 s.heap) ∧ R (.ok (.ret (.ref (zs3 s.heap p q).objs.size))) { s with heap := zs4 s.heap p q }) :=
  .of_wp fun prog w A R s h => by
    obtain ⟨hp, g, d, tk, os⟩ := s
    obtain ⟨⟨a1, a2⟩, h⟩ := h
    have hsub := sub_zip
    have q1 : ∀ {A' : Around} {E : Value → Shared → Prop} {Q : Value → Shared → Prop}, Q (.ref hp.objs.size) ⟨hp.push p, g, d, tk, os⟩ → wpAny (model prog w) A' (pyIter v1) Q E ⟨hp, g, d, tk, os⟩ :=
      fun z => B1.iter prog w _ _ ⟨hp, g, d, tk, os⟩ _ a1 z
    have q2 : ∀ {A' : Around} {E : Value → Shared → Prop} {Q : Value → Shared → Prop}, Q (.ref (hp.push p).objs.size) ⟨(hp.push p).push q, g, d, tk, os⟩ → wpAny (model prog w) A' (pyIter v2) Q E ⟨hp.push p, g, d, tk, os⟩ :=
      fun z => B2.iter prog w _ _ ⟨hp.push p, g, d, tk, os⟩ _ (B2.keeps _ _ a2 fun b o e => Heap.get?_push_of_some _ e) z
    wp_walk using q1, q2
    exact ⟨_, rfl, h⟩
section
variable {prog : Program} {w : World} {A : Around} {E : Value → Shared → Prop} {s : Shared}
theorem strict_begins {v1 v2 : Value} {p q : Obj} {H1 H2 : Heap → Prop} {Q : Value → Shared → Prop} (B1 : Begins v1 p H1) (B2 : Begins v2 q H2) (a1 : H1 s.heap) (a2 : H2 s.heap) {b : Nat} (hb : b = s.heap.objs.size)
    (h : ∀ h', StrictZip h' (b + 4) (b + 2) (b + 3) .none → IsTupOf2 h' (b + 2) (.ref b) (.ref (b + 1)) → IsTupOf2 h' (b + 3) .none .none → h'.get? b = some p → h'.get? (b + 1) = some q →
      (∀ c o, s.heap.get? c = some o → h'.get? c = some o) → Q (.ref (b + 4)) { s with heap := h' }) : wpAny (model prog w) A (call (.type "zip") [v1, v2] [(Str.ofString "strict", .bool true)]) Q E s := by
  subst hb
  refine callType_newKw F.called_zip (by decide) (tc_strict _ _) (nc_strict _ _) (fun obj => ao_strict obj _ _) F.entry_zip_new (meets_strict B1 B2) ⟨⟨a1, a2⟩, ?_⟩
  have e0 : (s.heap.push p).objs.size = s.heap.objs.size + 1 := Heap.size_push ..
  have e1 : (zs1 s.heap p q).objs.size = s.heap.objs.size + 2 := by unfold zs1; rw [Heap.size_push, e0]
  have e2 : (zs2 s.heap p q).objs.size = s.heap.objs.size + 3 := by unfold zs2; rw [Heap.size_push, e1]
  have e3 : (zs3 s.heap p q).objs.size = s.heap.objs.size + 4 := by unfold zs3; rw [Heap.size_push, e2]
  have up0 : ∀ c o, s.heap.get? c = some o → (s.heap.push p).get? c = some o := fun c o e => Heap.get?_push_of_some _ e
  have up1 : ∀ c o, (s.heap.push p).get? c = some o → (zs1 s.heap p q).get? c = some o := fun c o e => Heap.get?_push_of_some _ e
  have up2 : ∀ c o, (zs1 s.heap p q).get? c = some o → (zs2 s.heap p q).get? c = some o := fun c o e => Heap.get?_push_of_some _ e
  have up3 : ∀ c o, (zs2 s.heap p q).get? c = some o → (zs3 s.heap p q).get? c = some o := fun c o e => Heap.get?_push_of_some _ e
  have up4 : ∀ c o, (zs3 s.heap p q).get? c = some o → (zs4 s.heap p q).get? c = some o := fun c o e => Heap.get?_push_of_some _ e
  have gZ : (zs4 s.heap p q).get? (s.heap.objs.size + 4) = some { cls := .type "zip", data := .fields #[.none, .bool false, .bool true, .ref (s.heap.objs.size + 2), .ref (s.heap.objs.size + 3)] } := by
    have := Heap.get?_push_size (zs3 s.heap p q) (o := { cls := .type "zip", data := .fields #[.none, .bool false, .bool true, .ref (zs1 s.heap p q).objs.size, .ref (zs2 s.heap p q).objs.size] }) rfl
    rw [e3, e1, e2] at this
    unfold zs4
    rw [e1, e2]
    exact this
  have gO : (zs3 s.heap p q).get? (s.heap.objs.size + 3) = some { cls := .type "tuple", data := .seq #[.none, .none] } := by
    have := Heap.get?_push_size (zs2 s.heap p q) (o := { cls := .type "tuple", data := .seq #[.none, .none] }) rfl
    rw [e2] at this
    exact this
  have gT : (zs2 s.heap p q).get? (s.heap.objs.size + 2) = some { cls := .type "tuple", data := .seq #[.ref s.heap.objs.size, .ref (s.heap.objs.size + 1)] } := by
    have := Heap.get?_push_size (zs1 s.heap p q) (o := { cls := .type "tuple", data := .seq #[.ref s.heap.objs.size, .ref (s.heap.push p).objs.size] }) rfl
    rw [e1, e0] at this
    unfold zs2
    rw [e0]
    exact this
  have g1 : (s.heap.push p).get? s.heap.objs.size = some p := Heap.get?_push_size _ B1.free
  have g2 : (zs1 s.heap p q).get? (s.heap.objs.size + 1) = some q := by
    have := Heap.get?_push_size (s.heap.push p) (o := q) B2.free
    rw [e0] at this
    exact this
  show _ ∧ _
  rw [e3]
  exact ⟨⟨_, gZ, rfl⟩, h _ gZ (up4 _ _ (up3 _ _ gT)) (up4 _ _ gO) (up4 _ _ (up3 _ _ (up2 _ _ (up1 _ _ g1)))) (up4 _ _ (up3 _ _ (up2 _ _ g2))) fun c o e => up4 _ _ (up3 _ _ (up2 _ _ (up1 _ _ (up0 _ _ e))))⟩
end
end PySem
namespace N
open PySem PySem.Spec PyProof.Rows L2
open C8 (Cal Met Mak InsC pe_c pe_mt pe_mt0 pe_mk)
section
variable {X : Cx} {pins : List (Addr × Obj)} {σ : L2.St} {H : Hp} {s : Shared}
theorem Kd.begins {k : Kd} {xs : List V} {u : Value} (I : Inv X pins σ H s) (hs : k.src X.K H xs) (r : RelV k.v u) :
    k.low s.heap.objs.size ∧ ∃ (t : Tok) (o : Obj) (Hq : Heap → Prop), Begins u o Hq ∧ Hq s.heap ∧ ∀ (h : Heap) (it : Addr), h.get? it = some o → k.at t it 0 h := by
  cases k with
  | lst a =>
    cases r
    obtain ⟨its, rv, p, _⟩ := I.list hs
    exact ⟨p.lt, default, _, _, begins_list a its.toArray, p.isList, fun h it e => ⟨_, e, rfl, rfl⟩⟩
  | tup a =>
    cases r
    obtain ⟨its, rv, p, _⟩ := I.tuple hs
    obtain ⟨o, ho, _⟩ := id p
    exact ⟨Heap.lt_size ho, default, _, _, begins_tuple a its.toArray, p, fun h it e => ⟨_, e, rfl, rfl⟩⟩
  | txt x =>
    obtain ⟨t, rfl⟩ := r
    exact ⟨trivial, t, _, _, begins_text x t, trivial, fun h it e => ⟨_, e, rfl, rfl⟩⟩
end
def iZipK (K : PySem.W.Frag) (strict : Bool) (ta : TA) : TI := fun σ H R => ta σ H fun vs H1 => ∃ (k1 k2 : Kd) (xs ys : List V), vs = [k1.v, k2.v] ∧ k1.src K H1 xs ∧ k2.src K H1 ys ∧ R (ItzK K k1 k2 strict) H1
theorem pi_zipK {X : Cx} {e e2 : Expr} {ta : TA} {p pos tpos : Pos} {elts : List Expr} {kk : Nat} (hg : Gl X "zip") (hm : X.mg "zip" = none) (ha : PA X [e, e2] ta)
    (hs : starEach [e, e2] X.env = (false, eval e X.env) :: starEach [e2] X.env := by rfl) (hpl : (backTo pos (starEach [e2] X.env)).any (·.1) = false := by rfl) :
    PI X (.Tuple elts kk tpos) (.Call (.Name "zip" p) [e, e2] [] pos) (iZipK X.K false ta) := by
  refine ⟨fun pins s σ H R I h => ?_⟩
  refine Call_ (ld_blt I hg hm PyProof.Rows.boot_zip (PyProof.Rows.callWith_type1 (thn (ha.run pos pins s σ H _ I h) fun us s1 ⟨vs, H1, I1, r1, q1⟩ => ?_) hs hpl))
  obtain ⟨k1, k2, xs, ys, ex, hx, hy, q⟩ := q1
  subst ex
  cases r1 with
  | cons r rr =>
    cases rr with
    | cons r' rr =>
      cases rr
      obtain ⟨l1, t1, o1, G1, B1, g1, z1⟩ := Kd.begins I1 hx r
      obtain ⟨l2, t2, o2, G2, B2, g2, z2⟩ := Kd.begins I1 hy r'
      refine zip_begins2 B1 B2 g1 g2 fun h' hz hI hO e1 e2 _ kp => wpAny_pyIter_zip hz ?_
      have I2 : Inv X pins σ H1 { s1 with heap := h' } := I1.kept (t' := s1.toks) kp
      refine ⟨_, _, _, _, H1, rfl, I2, turn_zipK (b := s1.heap.objs.size) (strict := false) (u1 := t1) (u2 := t2) l1 l2, ⟨hz, hI, ⟨_, _, hO⟩, z1 _ _ e1, z2 _ _ e2⟩, fun c hc => ?_, q⟩
      have le : s1.heap.objs.size ≤ c := by
        simp only [List.mem_cons, List.not_mem_nil, or_false] at hc
        rcases hc with rfl | rfl | rfl | rfl | rfl
        · exact Nat.le_add_right _ _
        · exact Nat.le_add_right _ _
        · exact Nat.le_add_right _ _
        · exact Nat.le_refl _
        · exact Nat.le_add_right _ _
      exact I1.fpOk le (I1.hok.fresh le)
theorem pi_zipS {X : Cx} {e e2 : Expr} {ta tk : TA} {p pos tpos : Pos} {elts : List Expr} {kk : Nat} {kws : List Keyword} (hg : Gl X "zip") (hm : X.mg "zip" = none) (ha : PA X [e, e2] ta) (hk : PK X kws tk)
    (hall : (backToKw pos (keywordEach kws X.env)).all (·.1.isSome) = true := by rfl) (hks : (backToKw pos (keywordEach kws X.env)).filterMap (·.1) = [Str.ofString "strict"] := by rfl)
    (hs : starEach [e, e2] X.env = (false, eval e X.env) :: starEach [e2] X.env := by rfl)
    (hpl : ((backTo pos (starEach [e, e2] X.env)).any (·.1) || (backToKw pos (keywordEach kws X.env)).any (·.1.isNone)) = false := by rfl) :
    PI X (.Tuple elts kk tpos) (.Call (.Name "zip" p) [e, e2] kws pos) (fun σ H R => ta σ H fun vs H1 => tk σ H1 fun zs H2 => zs = [.bl true] ∧ ∃ (k1 k2 : Kd) (xs ys : List V), vs = [k1.v, k2.v] ∧ k1.src X.K H2 xs ∧ k2.src X.K H2 ys ∧ R (ItzK X.K k1 k2 true) H2) := by
  refine ⟨fun pins s σ H R I h => ?_⟩
  refine wpAny_Call_Name_kw (ld_blt I hg hm PyProof.Rows.boot_zip ?_)
  refine PySem.W.callWith_of (P := fun _ => True) hpl (fun h _ => ⟨Keeper.machine, .inr (.inl rfl), .of_pure rfl⟩) ?_
  refine evalArgs_kw2 hall (thn (ha.run pos pins s σ H _ I h) fun us s1 ⟨vs, H1, I1, r1, q1⟩ => thn (hk.run pos pins s1 σ H1 _ I1 q1) fun ws s2 ⟨zs, H2, I2, r2, ez, q2⟩ => ⟨trivial, ?_⟩) hs
  obtain ⟨k1, k2, xs, ys, ex, hx, hy, q⟩ := q2
  subst ez ex
  rw [hks]
  obtain ⟨w, rfl, rw'⟩ := vals1 r2
  cases rw'
  cases r1 with
  | cons r rr =>
    cases rr with
    | cons r' rr =>
      cases rr
      obtain ⟨l1, t1, o1, G1, B1, g1, z1⟩ := Kd.begins I2 hx r
      obtain ⟨l2, t2, o2, G2, B2, g2, z2⟩ := Kd.begins I2 hy r'
      refine strict_begins B1 B2 g1 g2 rfl fun h' hz hI hO e1 e2 kp => iter_strict hz ?_
      have I3 : Inv X pins σ H2 { s2 with heap := h' } := I2.kept (t' := s2.toks) kp
      refine ⟨_, _, _, _, H2, rfl, I3, turn_zipK (b := s2.heap.objs.size) (strict := true) (u1 := t1) (u2 := t2) l1 l2, ⟨hz, hI, ⟨_, _, hO⟩, z1 _ _ e1, z2 _ _ e2⟩, fun c hc => ?_, q⟩
      have le : s2.heap.objs.size ≤ c := by
        simp only [List.mem_cons, List.not_mem_nil, or_false] at hc
        rcases hc with rfl | rfl | rfl | rfl | rfl
        · exact Nat.le_add_right _ _
        · exact Nat.le_add_right _ _
        · exact Nat.le_add_right _ _
        · exact Nat.le_refl _
        · exact Nat.le_add_right _ _
      exact I2.fpOk le (I2.hok.fresh le)
def iZipS (K : PySem.W.Frag) (ta tk : TA) : TI := fun σ H R => ta σ H fun vs H1 => tk σ H1 fun zs H2 => zs = [.bl true] ∧ ∃ (k1 k2 : Kd) (xs ys : List V), vs = [k1.v, k2.v] ∧ k1.src K H2 xs ∧ k2.src K H2 ys ∧ R (ItzK K k1 k2 true) H2
section
variable {F : FmKit} {T : Kx} {C H H' O O' : Hp} {G : Gm} {W W' : Om} {R : D → Om → Prop} {d e : D} {l m : List D} {ta tk : TA}
/-- a datum that zip takes: list, tuple, text; nothing that is still written -/
def Zs (d : D) (l : List D) : Prop := d = .lst l ∨ d = .tup l ∨ ∃ x : Str, d = .str x ∧ l = x.cps.toList.map fun c => D.str ⟨#[c]⟩
def pairs2 (l m : List D) : List D := (l.zip m).map fun p => .tup [p.1, p.2]
theorem den_chars (x : Str) : DenL F T H (x.cps.toList.map fun c => D.str ⟨#[c]⟩) (x.cps.toList.map fun c => V.str ⟨#[c]⟩) := by
  induction x.cps.toList with
  | nil => rfl
  | cons c cs ih => exact ⟨_, _, rfl, rfl, ih⟩
/-- the source at the machine; it stands -/
theorem Zs.kd {x : V} (h : Zs d l) (k : Den F T H d x) : ∃ (kd : Kd) (xs : List V), x = kd.v ∧ DenL F T H l xs ∧ ∀ H2 O2, Same H H2 → Dis O2 H2 → kd.src T.K (ov O2 H2) xs := by
  rcases h with rfl | rfl | ⟨z, rfl, rfl⟩
  · obtain ⟨a, xs, e, hs, kl⟩ := k
    exact ⟨.lst a, xs, e, kl, fun H2 O2 s di => di.same.seq (s.seq (SqL.of hs))⟩
  · obtain ⟨a, xs, e, hs, kl⟩ := k
    exact ⟨.tup a, xs, e, kl, fun H2 O2 s di => Same.sqT di.same (Same.sqT s hs)⟩
  · have k : x = .str z := k
    exact ⟨.txt z, _, k, den_chars z, fun _ _ _ _ => rfl⟩
theorem pairs2_len : (pairs2 l m).length = min l.length m.length := by simp [pairs2]
theorem pairs2_get {i : Nat} {z : D} (h : (pairs2 l m)[i]? = some z) : ∃ x y, l[i]? = some x ∧ m[i]? = some y ∧ z = .tup [x, y] := by
  unfold pairs2 at h
  rw [List.getElem?_map] at h
  obtain ⟨p, hp, e⟩ := Option.map_eq_some_iff.mp h
  rw [List.getElem?_zip_eq_some] at hp
  exact ⟨p.1, p.2, hp.1, hp.2, e.symm⟩
/-- the walk over a zip -/
theorem wk_zip {H1 : Hp} {k1 k2 : Kd} {xs ys : List V} {strict : Bool} (a1 : DenL F T H1 l xs) (a2 : DenL F T H1 m ys) (s1 : ∀ H2 O2, Same H1 H2 → Dis O2 H2 → k1.src T.K (ov O2 H2) xs) (s2 : ∀ H2 O2, Same H1 H2 → Dis O2 H2 → k2.src T.K (ov O2 H2) ys) (e : strict = true → l.length = m.length) :
    Wk F T (ItzK T.K k1 k2 strict) H1 (pairs2 l m) := fun i H2 O2 s di => by
  refine ⟨fun d hd => ?_, fun ei => ?_⟩
  · obtain ⟨x, y, hx, hy, rfl⟩ := pairs2_get hd
    obtain ⟨u, hu, ku⟩ := a1.get hx
    obtain ⟨v, hv, kv⟩ := a2.get hy
    have i1 := (List.getElem?_eq_some_iff.mp hu).1
    have i2 := (List.getElem?_eq_some_iff.mp hv).1
    refine ⟨⟨xs, ys, s1 _ _ s di, s2 _ _ s di, i1, i2, fun z => by rw [a1.len, a2.len]; exact e z⟩, fun w X ⟨Tp, u', v', e1, e2, e3, e4, e5⟩ => ?_⟩
    have hu' := e4 xs (s1 _ _ s di)
    have hv' := e5 ys (s2 _ _ s di)
    rw [hu] at hu'
    rw [hv] at hv'
    cases hu'
    cases hv'
    obtain ⟨h1, h2⟩ := ov_none e2
    have sm := same_upd (o := .tup [u, v]) h2
    refine ⟨upd H2 Tp (.tup [u, v]), sm, di.updH h1, by rw [e3, ov_updH h1], Tp, _, e1, SqT.of upd_same, ?_⟩
    exact ⟨u, _, rfl, (ku.mono s).mono sm, v, _, rfl, (kv.mono s).mono sm, rfl⟩
  · rw [pairs2_len] at ei
    have h1 := a1.len
    have h2 := a2.len
    exact ⟨xs, ys, s1 _ _ s di, s2 _ _ s di, by omega, by omega, by omega, fun z => by rw [h1, h2]; exact e z⟩
theorem ei_zipK {Y : List D → Om → Prop} (h : EvA F T ta G W fun ds W1 => ∃ d e l m, ds = [d, e] ∧ Zs d l ∧ Zs e m ∧ Y (pairs2 l m) W1) : EvI F T (iZipK T.K false ta) G W Y := fun C H O σ w Q q =>
  h C H O σ w _ fun ds W1 H1 O1 us ⟨d, e, l, m, ed, z1, z2, y⟩ n k => by
    subst ed
    obtain ⟨x, r, e1, k1, x2, r2, e2, k2, e3⟩ := k
    have e3 : r2 = [] := e3
    subst e3 e2 e1
    obtain ⟨kd1, xs, ex, a1, s1⟩ := z1.kd k1
    obtain ⟨kd2, ys, ey, a2, s2⟩ := z2.kd k2
    subst ex ey
    exact ⟨kd1, kd2, xs, ys, rfl, s1 _ _ (.refl _) n.dis, s2 _ _ (.refl _) n.dis, q _ _ W1 H1 O1 y n (wk_zip a1 a2 s1 s2 fun z => by cases z)⟩
theorem ei_zipS {Y : List D → Om → Prop} (h : EvA F T ta G W fun ds W1 => EvA F T tk G W1 fun zs W2 => zs = [.bl true] ∧ ∃ d e l m, ds = [d, e] ∧ Zs d l ∧ Zs e m ∧ l.length = m.length ∧ Y (pairs2 l m) W2) : EvI F T (iZipS T.K ta tk) G W Y := fun C H O σ w Q q =>
  h C H O σ w _ fun ds W1 H1 O1 us h1 n1 k => h1 C H1 O1 σ (w.step n1) _ fun zs W2 H2 O2 vs ⟨ez, d, e, l, m, ed, z1, z2, el, y⟩ n2 kz => by
    subst ed ez
    obtain ⟨x, r, e1, k1, x2, r2, e2, k2, e3⟩ := k
    obtain ⟨b, r3, e4, k3, e5⟩ := kz
    have e3 : r2 = [] := e3
    have e5 : r3 = [] := e5
    have k3 : b = .bl true := k3
    subst e3 e2 e1 e5 k3 e4
    obtain ⟨kd1, xs, ex, a1, s1⟩ := z1.kd (k1.mono n2.ext)
    obtain ⟨kd2, ys, ey, a2, s2⟩ := z2.kd (k2.mono n2.ext)
    subst ex ey
    exact ⟨rfl, kd1, kd2, xs, ys, rfl, s1 _ _ (.refl _) n2.dis, s2 _ _ (.refl _) n2.dis, q _ _ W2 H2 O2 y (n1.trans n2) (wk_zip a1 a2 s1 s2 fun _ => el)⟩
end
end N
set_option Elab.async false
set_option linter.all false
set_option maxRecDepth 100000
set_option maxHeartbeats 1000000
namespace N
open PySem PySem.Spec PyProof.Rows L2
open C8 (Cal Met Mak InsC pe_c pe_mt pe_mt0 pe_mk)
def rLtS : R2 := fun x y H Q => ∃ a b : Str, x = .str a ∧ y = .str b ∧ Q (.bl (decide (a.cps.toList < b.cps.toList))) H
def r2Or (r r' : R2) : R2 := fun x y H Q => r x y H Q ∨ r' x y H Q
def tDUpd (td ty : TE) : TE := fun σ H Q => td σ H fun x H1 => ∃ a, x = .ref a ∧ IsD H1 a ∧ ty σ H1 fun y H2 => ∃ b kvs more, y = .ref b ∧ H2 a = some (.dK kvs) ∧ Rd H2 b (.dK more) ∧ a ≠ b ∧ kvs.length + more.length ≤ sizeLine ∧ Q .non (upd H2 a (.dK (mergeK kvs more)))
section
variable {X : Cx} {o e : Expr} {apos cpos : Pos} {td ty : TE}
theorem op_lt_str : OpR X (compareOp .Lt) rLtS := by
  intro pins s σ H x y v u Q I rx ry h
  obtain ⟨a, b, rfl, rfl, q⟩ := h
  obtain ⟨t, rfl⟩ := rx
  obtain ⟨t', rfl⟩ := ry
  exact PyProof.Rows.lt_str ⟨.bl (decide (a.cps.toList < b.cps.toList)), H, I, rfl, q⟩
theorem op_or {f : Value → Value → Sem Value} {r r' : R2} (h : OpR X f r) (h' : OpR X f r') : OpR X f (r2Or r r') := fun pins s σ H x y v u Q I rx ry z => z.elim (h pins s σ H x y v u Q I rx ry) (h' pins s σ H x y v u Q I rx ry)
theorem length_mergeKK (kvs more : List (Key × V)) : (mergeK kvs more).length ≤ kvs.length + more.length := by
  have := length_mergeK more kvs
  omega
theorem pe_dupd (ho : PE X o td) (he : PE X e ty) (m : M1 X o "update" apos e cpos) : PE X (.Call (.Attribute o "update" apos) [e] [] cpos) (tDUpd td ty) := by
  refine ⟨fun pins s σ H Q I h => ?_⟩
  refine wpAny_Call_method m.base m.few m.line PySem.F.plainAttrs_dict PySem.F.slot_dict_update PySem.F.type_dict_update (thn (ho.run pins s σ H _ I h) fun u s1 ⟨x, H1, I1, rx, a, ex, d, q1⟩ => ?_)
  subst ex
  obtain rfl : u = Value.ref a := rx
  obtain ⟨t1, t2, _⟩ := isD_at I1 d
  refine ⟨t1, t2, ?_⟩
  rw [m.trees]
  refine Calls.callWith_builtin rfl (Calls.evalArgs_plain (Calls.spliced_cons (thn (he.run pins s1 σ H1 _ I1 q1) fun iv s2 ⟨y, H2, I2, ry, b, kvs, more, ey, ea, eb, ne, hl, q2⟩ => Calls.spliced_nil ?_)))
  subst ey
  obtain rfl : iv = Value.ref b := ry
  obtain ⟨z1, lo1, vs, rel1, dd1⟩ := dk_of I2.hok ea
  obtain ⟨z2, lo2, ws, rel2, dd2⟩ := dk_rd I2.hok eb
  refine call_meetsIn PySem.F.slot_dict_update dd1.typeIs PySem.F.entry_dict_update (PySem.F.args_dict_update_2 _ _) (meets_dict_update (mixKind X.prog X.w) a b ne lo2) ⟨vs, ws, dd1, dd2, by rw [← rel1.length, ← rel2.length]; exact hl, fun h' dd' _ hs => ?_⟩
  have he : ∃ q, h'.get? a = some q := let ⟨q, _, _, hq, _⟩ := dd'; ⟨q, hq⟩
  have I3 := d_write (t' := s2.toks) (ob := .dK (mergeK kvs more)) I2 (by rw [ea]; exact True.intro) hs he (dk_new (Nat.le_trans (length_mergeKK _ _) hl) lo1 (KV.merge rel2 rel1) dd')
  exact ⟨.non, _, I3, rfl, q2⟩
end
def upG (ps qs : List (Key × D)) : List (Key × D) := qs.foldl (fun acc kv => putG acc kv.1 kv.2) ps
section
variable {F : FmKit} {T : Kx} {C H H' O O' : Hp} {G : Gm} {W W' : Om} {R : D → Om → Prop} {d e : D} {l m : List D} {te ta tb : TE}
/-- d.update(e), e a dict that is not written any more -/
theorem ev_dupd (h : Ev F T ta G W fun d W1 => (∃ ps, Vd W1 d ps) ∧ Ev F T tb G W1 fun e W2 => ∃ a ps qs Wa Wb, d = .adr a ∧ W2 = Wa ++ (a, .dp ps) :: Wb ∧ e = .dp qs ∧ ps.length + qs.length ≤ sizeLine ∧ R .non (Wa ++ (a, .dp (upG ps qs)) :: Wb)) : Ev F T (tDUpd ta tb) G W R := fun C H O σ w Q q =>
  h C H O σ w _ fun d W1 H1 O1 x ⟨⟨ps0, hv0⟩, h1⟩ n1 k1 => by
    obtain ⟨a, kvs0, ex, ha0, _⟩ := hv0.at n1.dis n1.own k1
    refine ⟨a, ex, .inl ⟨kvs0, .inl ha0⟩, h1 C H1 O1 σ (w.step n1) _ fun e W2 H2 O2 yv ⟨a', ps, qs, Wa, Wb, ed, ew, ee, hl, r⟩ n2 k2 => ?_⟩
    subst ed ew ee
    have k1 : x = .ref a' := k1
    rw [k1] at ex
    cases ex
    obtain ⟨b, more, ey, hb, e3, e4, kl2⟩ := k2
    obtain ⟨_, kvs, oa, e1, e2, kl⟩ := n2.own.at_ a _ (List.mem_append_right _ List.mem_cons_self)
    have ha : O2 a = some (.dK kvs) := oa
    have ne : a ≠ b := fun e => by
      subst e
      have := n2.dis a _ ha
      rw [hb] at this
      cases this
    have l1 : kvs.length = ps.length := by
      have := congrArg List.length e1
      rwa [List.length_map, List.length_map] at this
    have l2 : more.length = qs.length := by
      have := congrArg List.length e3
      rwa [List.length_map, List.length_map] at this
    refine ⟨b, kvs, more, ey, ov_own ha, .inl (n2.dis.same _ _ hb), ne, by rw [l1, l2]; exact hl, ?_⟩
    obtain ⟨m1, m2, m3⟩ := mergeK_keys (F := F) (T := T) (H := H2) (acc := ps) (av := kvs) e3 e1 e2 kl2 kl
    obtain ⟨n3, e5⟩ := (n1.trans n2).write (o := .dK (mergeK kvs more)) (od2 := .dp (upG ps qs)) ⟨mergeK kvs more, rfl, m1, m2, m3⟩
    rw [e5]
    exact q .non _ _ _ _ r n3 rfl
theorem bo_orL {r r' : R2} (h : Bo F T r d e W R) : Bo F T (r2Or r r') d e W R := fun C H O di oc ow x y hx hy Q q => .inl (h C H O di oc ow x y hx hy Q q)
theorem bo_orR {r r' : R2} (h : Bo F T r' d e W R) : Bo F T (r2Or r r') d e W R := fun C H O di oc ow x y hx hy Q q => .inr (h C H O di oc ow x y hx hy Q q)
theorem bo_ltS {a b : Str} (r : R (.bl (decide (a.cps.toList < b.cps.toList))) W) : Bo F T rLtS (.str a) (.str b) W R := op_sc fun H Q k => ⟨a, b, rfl, rfl, k _ r⟩
theorem ca_slOrL {r r' : V → Option Int → Option Int → Hp → VK → Prop} {lo hi : Option Int} (h : Ca F T (fun xs H Q => ∃ x, xs = [x] ∧ r x lo hi H Q) [d] W R) : Ca F T (fun xs H Q => ∃ x, xs = [x] ∧ (r x lo hi H Q ∨ r' x lo hi H Q)) [d] W R := fun C H O di oc ow vs k Q q =>
  let ⟨x, e, z⟩ := h C H O di oc ow vs k Q q; ⟨x, e, .inl z⟩
theorem ca_slOrR {r r' : V → Option Int → Option Int → Hp → VK → Prop} {lo hi : Option Int} (h : Ca F T (fun xs H Q => ∃ x, xs = [x] ∧ r' x lo hi H Q) [d] W R) : Ca F T (fun xs H Q => ∃ x, xs = [x] ∧ (r x lo hi H Q ∨ r' x lo hi H Q)) [d] W R := fun C H O di oc ow vs k Q q =>
  let ⟨x, e, z⟩ := h C H O di oc ow vs k Q q; ⟨x, e, .inr z⟩
end
end N
set_option Elab.async false
set_option linter.all false
set_option maxRecDepth 100000
set_option maxHeartbeats 1000000
namespace PySem
open Sem (wp)
theorem tc_enum (a : Value) : checkTypeCall "enumerate" ⟨[a], []⟩ = pure () := by kernel_rfl
theorem nc_enum (a : Value) : checkBuiltinCall "enumerate.__new__" ⟨[.type "enumerate", a], []⟩ = pure () := by kernel_rfl
theorem ao_enum (obj a : Value) : argsOk "object.__init__" ⟨[obj, a], []⟩ := by unfold argsOk; kernel_rfl
theorem meets_enum {v : Value} {p : Obj} {Hp : Heap → Prop} (B : Begins v p Hp) :
    Meets (Builtin.«enumerate.__new__» ⟨[.type "enumerate", v], []⟩) (fun _ R s => Hp s.heap ∧ R (.ok (.ret (.ref (s.heap.push p).objs.size))) { s with heap := (s.heap.push p).push { cls := .type "enumerate", data := .fields #[.none, .bool false, .ref s.heap.objs.size, rawInt 0, .none, .none] } }) :=
  .of_wp fun prog w A R s h => by
    obtain ⟨hp, g, d, tk, os⟩ := s
    obtain ⟨a1, h⟩ := h
    have hsub := sub_enumerate
    have q1 : ∀ {A' : Around} {E : Value → Shared → Prop} {Q : Value → Shared → Prop}, Q (.ref hp.objs.size) ⟨hp.push p, g, d, tk, os⟩ → wpAny (model prog w) A' (pyIter v) Q E ⟨hp, g, d, tk, os⟩ :=
      fun z => B.iter prog w _ _ ⟨hp, g, d, tk, os⟩ _ a1 z
    wp_walk using q1
    refine wpAny_stack_any fun st => wpAny_pure ?_
    split
    · rename_i c _ _ _ _ _
      cases (c == Value.type "enumerate") <;> (wp_walk using q1; exact ⟨_, rfl, h⟩)
    · wp_walk using q1
      exact ⟨_, rfl, h⟩
section
variable {prog : Program} {w : World} {A : Around} {E : Value → Shared → Prop} {s : Shared}
theorem enum1_begins {v : Value} {p : Obj} {Hq : Heap → Prop} {Q : Value → Shared → Prop} (B : Begins v p Hq) (a1 : Hq s.heap)
    (h : ∀ h', IsEnum h' (s.heap.objs.size + 1) s.heap.objs.size 0 .none → h'.get? s.heap.objs.size = some p → (∀ c o, s.heap.get? c = some o → h'.get? c = some o) → Q (.ref (s.heap.objs.size + 1)) { s with heap := h' }) :
    wpAny (model prog w) A (call (.type "enumerate") [v]) Q E s := by
  refine callType_new F.called_enumerate (by decide) (tc_enum _) (nc_enum _) (fun obj => ao_enum obj _) F.entry_enumerate_new (meets_enum B) ⟨a1, ?_⟩
  have e0 : (s.heap.push p).objs.size = s.heap.objs.size + 1 := Heap.size_push ..
  show _ ∧ _
  have g := Heap.get?_push_size (s.heap.push p) (o := { cls := .type "enumerate", data := .fields #[.none, .bool false, .ref s.heap.objs.size, rawInt 0, .none, .none] }) rfl
  rw [e0] at g ⊢
  exact ⟨⟨_, g, rfl⟩, h _ g (Heap.get?_push_of_some _ (Heap.get?_push_size _ B.free)) fun c o e => Heap.get?_push_of_some _ (Heap.get?_push_of_some _ e)⟩
end
end PySem
namespace N
open PySem PySem.Spec PyProof.Rows L2
open C8 (Cal Met Mak InsC pe_c pe_mt pe_mt0 pe_mk)
def IteK (K : PySem.W.Frag) (k : Kd) (c : Int) : It :=
  ⟨fun i H => ∃ xs : List V, k.src K H xs ∧ i < xs.length,
    fun i H v H' => ∃ T x, v = .ref T ∧ H T = none ∧ H' = upd H T (.tup [.int (c + (i : Nat)), x]) ∧ ∀ xs, k.src K H xs → xs[i]? = some x,
    fun i H => ∃ xs : List V, k.src K H xs ∧ i = xs.length⟩
theorem turn_enumK {P : Program} {w : World} {K : PySem.W.Frag} {elts : List Expr} {kk : Nat} {tpos : Pos} {k : Kd} {c : Int} {u1 : Tok} {b : Nat} (l1 : k.low b) :
    Turn P w K (.Tuple elts kk tpos) (IteK K k c) [b + 1, b] (b + 1) (fun i h => (∃ old, IsEnum h (b + 1) b (c + (i : Nat)) old) ∧ k.at u1 b i h) where
  mem := by simp
  obj := fun i h st d hd => by
    obtain ⟨⟨old, he⟩, s1⟩ := st
    simp only [List.mem_cons, List.not_mem_nil, or_false] at hd
    rcases hd with rfl | rfl
    · exact ⟨_, he, fun v q => nomatch q⟩
    · exact Kd.obj s1
  keep := fun i h h' st z => by
    obtain ⟨⟨old, he⟩, s1⟩ := st
    exact ⟨⟨old, z _ (by simp) _ he⟩, Kd.keep s1 fun o e => z _ (by simp) o e⟩
  item := by
    intro X hP hw hK hc i pins s σ H E I hf st hg
    subst hP hw hK
    obtain ⟨⟨old, he⟩, s1⟩ := st
    obtain ⟨xs, hx, hi⟩ := hg
    obtain ⟨f1, P1, S1, D1, m1, b1, t1, o1, v1⟩ := Kd.draws (t := u1) (it := b) I hc hx l1 (Nat.le_refl _)
    have lt : b + 1 < s.heap.objs.size := Heap.lt_size he
    refine wpAny_pyNext_enum_itemC D1 he (t1 _ s1) hi (ne_add (c := 1) (d := 0) (by decide)) (fun h => zno (by decide) (by decide) (b1 _ h)) fun x h' tk px ho a1 hT _ kp => ?_
    refine ⟨_, rfl, wpAny_letOwnedTupleGo_enum (s := { s with heap := h', toks := tk + 1 }) ho fun h2 he2 sb => ?_⟩
    obtain ⟨u, gu, ru⟩ := v1 i x px
    have up : ∀ d o, d ≠ b + 1 → h'.get? d = some o → h2.get? d = some o := fun d o ne e => (sb.2 d ne).trans e
    have new2 : h2.get? s.heap.objs.size = some { cls := .type "tuple", data := .seq #[.int (c + (i : Nat)) tk, x] } := up _ _ (Nat.ne_of_gt lt) hT
    have ok : ObjOk X.prog X.w (upd H s.heap.objs.size (.tup [.int (c + (i : Nat)), u])) h2 s.heap.objs.size (.tup [.int (c + (i : Nat)), u]) :=
      ⟨by show 2 ≤ sizeLine; decide, [.int (c + (i : Nat)) tk, x], .cons ⟨_, rfl⟩ (.cons ru .nil), ⟨_, new2, rfl, _, rfl⟩⟩
    have I1 : Inv X pins σ (upd H s.heap.objs.size (.tup [.int (c + (i : Nat)), u])) { s with heap := h2, toks := tk + 1 } :=
      I.turnedNew (t' := tk + 1) (ch := [b + 1, b]) (fun d o hb q => up d o (fun q' => hb (by simp [q'])) (kp d o (fun q' => hb (by simp [q'])) (fun q' => hb (by simp [q'])) q)) hf (Nat.le_refl _) ok
    refine ⟨.ref s.heap.objs.size, _, I1, rfl, ⟨_, u, rfl, I.hok.fresh (Nat.le_refl _), rfl, fun l hl => by rw [Kd.inj I hl hx]; exact gu⟩, ⟨⟨x, ?_⟩, ?_⟩, fun d hd => ?_⟩
    · have e1 : c + ((i + 1 : Nat) : Int) = c + (i : Nat) + 1 := by omega
      rw [e1]
      exact he2
    · exact Kd.keep (o1 _ _ a1) fun o e => up _ _ (ne_add (c := 0) (d := 1) (by decide)) e
    · have hlt : d < s.heap.objs.size := by
        simp only [List.mem_cons, List.not_mem_nil, or_false] at hd
        rcases hd with rfl | rfl
        · exact lt
        · exact Nat.lt_of_succ_lt lt
      rw [upd_ne (Nat.ne_of_lt hlt)]
      exact (hf d hd).1
  done := by
    intro X hP hw hK hc i pins s σ H E I hf st hg
    subst hP hw hK
    obtain ⟨⟨old, he⟩, s1⟩ := st
    obtain ⟨xs, hx, rfl⟩ := hg
    obtain ⟨f1, P1, S1, D1, m1, b1, t1, o1, v1⟩ := Kd.draws (t := u1) (it := b) I hc hx l1 (Nat.le_refl _)
    exact wpAny_pyNext_enum_endD D1 he (t1 _ s1) fun h' z => ⟨rfl, I.turnedL (t' := s.toks) (ch := [b + 1, b]) (fun d o hb q => z d o (fun q' => hb (by simp [q'])) q) hf⟩
  self := fun A i s Q E st h => let ⟨⟨_, he⟩, _⟩ := st; wpAny_pyIter_enum he h
def iEnumK (K : PySem.W.Frag) (ta : TA) : TI := fun σ H R => ta σ H fun vs H1 => ∃ (k : Kd) (xs : List V), vs = [k.v] ∧ k.src K H1 xs ∧ R (IteK K k 0) H1
theorem pi_enumK {X : Cx} {e : Expr} {ta : TA} {p pos tpos : Pos} {elts : List Expr} {kk : Nat} (hg : Gl X "enumerate") (hm : X.mg "enumerate" = none) (ha : PA X [e] ta) (hs : starEach [e] X.env = [(false, eval e X.env)] := by rfl) :
    PI X (.Tuple elts kk tpos) (.Call (.Name "enumerate" p) [e] [] pos) (iEnumK X.K ta) := by
  refine ⟨fun pins s σ H R I h => ?_⟩
  refine Call_ (ld_blt I hg hm boot_enumerate (PyProof.Rows.callWith_type1 (thn (ha.run pos pins s σ H _ I h) fun us s1 ⟨vs, H1, I1, r1, q1⟩ => ?_) hs rfl))
  obtain ⟨k, xs, ex, hx, q⟩ := q1
  subst ex
  cases r1 with
  | cons r rr =>
    cases rr
    obtain ⟨l1, t1, o1, G1, B1, g1, z1⟩ := Kd.begins I1 hx r
    refine enum1_begins B1 g1 fun h' he e1 kp => wpAny_pyIter_enum he ?_
    have I2 : Inv X pins σ H1 { s1 with heap := h' } := I1.kept (t' := s1.toks) kp
    refine ⟨_, _, _, _, H1, rfl, I2, turn_enumK (b := s1.heap.objs.size) (c := 0) (u1 := t1) l1, ⟨⟨.none, he⟩, z1 _ _ e1⟩, fun d hd => ?_, q⟩
    have le : s1.heap.objs.size ≤ d := by
      simp only [List.mem_cons, List.not_mem_nil, or_false] at hd
      rcases hd with rfl | rfl
      · exact Nat.le_add_right _ _
      · exact Nat.le_refl _
    exact I1.fpOk le (I1.hok.fresh le)
section
variable {F : FmKit} {T : Kx} {C H H' O O' : Hp} {G : Gm} {W W' : Om} {R : D → Om → Prop} {l : List D} {ta tk : TA}
theorem wk_enum {H1 : Hp} {k : Kd} {xs : List V} {c : Nat} (a1 : DenL F T H1 l xs) (s1 : ∀ H2 O2, Same H1 H2 → Dis O2 H2 → k.src T.K (ov O2 H2) xs) : Wk F T (IteK T.K k (c : Nat)) H1 (pairsD c l) := fun i H2 O2 s di => by
  refine ⟨fun d hd => ?_, fun ei => ?_⟩
  · obtain ⟨x, hx, rfl⟩ := pairsD_get hd
    obtain ⟨u, hu, ku⟩ := a1.get hx
    refine ⟨⟨xs, s1 _ _ s di, (List.getElem?_eq_some_iff.mp hu).1⟩, fun w X ⟨Tp, u', e1, e2, e3, e4⟩ => ?_⟩
    have hu' := e4 xs (s1 _ _ s di)
    rw [hu] at hu'
    cases hu'
    obtain ⟨h1, h2⟩ := ov_none e2
    have ec : ((c + i : Nat) : Int) = (c : Int) + (i : Nat) := by omega
    have sm := same_upd (o := .tup [.int ((c : Nat) + (i : Nat)), u]) h2
    refine ⟨upd H2 Tp (.tup [.int ((c : Nat) + (i : Nat)), u]), sm, di.updH h1, by rw [e3, ov_updH h1], Tp, _, e1, SqT.of upd_same, ?_⟩
    rw [ec]
    exact ⟨_, _, rfl, rfl, u, _, rfl, (ku.mono s).mono sm, rfl⟩
  · rw [pairsD_len] at ei
    exact ⟨xs, s1 _ _ s di, by rw [a1.len]; exact ei⟩
theorem ei_enumK {Y : List D → Om → Prop} (h : EvA F T ta G W fun ds W1 => ∃ d l, ds = [d] ∧ Zs d l ∧ Y (pairsD 0 l) W1) : EvI F T (iEnumK T.K ta) G W Y := fun C H O σ w Q q =>
  h C H O σ w _ fun ds W1 H1 O1 us ⟨d, l, ed, z1, y⟩ n k => by
    subst ed
    obtain ⟨x, r, e1, k1, e2⟩ := k
    have e2 : r = [] := e2
    subst e2 e1
    obtain ⟨kd1, xs, ex, a1, s1⟩ := z1.kd k1
    subst ex
    exact ⟨kd1, xs, rfl, s1 _ _ (.refl _) n.dis, q _ _ W1 H1 O1 y n (wk_enum (c := 0) a1 s1)⟩
end
end N
set_option Elab.async false
set_option linter.all false
set_option maxRecDepth 100000
namespace N
open PySem PySem.Spec PyProof.Rows L2
namespace Fm
def ht : Fm → Nat
  | .at _ => 0
  | .no => 0
  | .imp a b => 1 + max a.ht b.ht
  | .all a => 1 + a.ht
theorem sz_ht : ∀ f : Fm, f.sz + 5 ≤ 7 * 2 ^ f.ht
  | .at _ => by simp [sz, ht]
  | .no => by simp [sz, ht]
  | .imp a b => by
    have h1 := sz_ht a
    have h2 := sz_ht b
    have l1 : 2 ^ a.ht ≤ 2 ^ max a.ht b.ht := Nat.pow_le_pow_right (by omega) (Nat.le_max_left _ _)
    have l2 : 2 ^ b.ht ≤ 2 ^ max a.ht b.ht := Nat.pow_le_pow_right (by omega) (Nat.le_max_right _ _)
    simp only [sz, ht, Nat.pow_add, Nat.pow_one]
    omega
  | .all a => by
    have h1 := sz_ht a
    have : 1 ≤ 2 ^ a.ht := Nat.one_le_two_pow
    simp only [sz, ht, Nat.pow_add, Nat.pow_one]
    omega
/-- few unlike all-parts -/
def few (k : Nat) (f : Fm) : Prop := ∃ L : List Fm, L.length ≤ k ∧ ∀ g ∈ f.alls, g ∈ L
theorem few.len {k : Nat} {f : Fm} (h : few k f) (ok : f.okL) : f.alls.length ≤ k := by
  obtain ⟨L, h1, h2⟩ := h
  exact Nat.le_trans (len_le (nodup_asc (alls_sub ok).2) h2) h1
theorem few.up {k j : Nat} {f : Fm} (h : few k f) (hk : k ≤ j) : few j f := let ⟨L, h1, h2⟩ := h; ⟨L, by omega, h2⟩
theorem few.imp {k j : Nat} {f g : Fm} (h : few k f) (h' : few j g) : few (k + j) (.imp f g) := by
  obtain ⟨L, h1, h2⟩ := h
  obtain ⟨M, h3, h4⟩ := h'
  refine ⟨L ++ M, by rw [List.length_append]; omega, fun x hx => ?_⟩
  rw [List.mem_append]
  exact (mem_merge.mp hx).imp (h2 x) (h4 x)
theorem few.same {k : Nat} {f : Fm} (h : few k f) : few k (.imp f f) := by
  obtain ⟨L, h1, h2⟩ := h
  exact ⟨L, h1, fun x hx => (mem_merge.mp hx).elim (h2 x) (h2 x)⟩
theorem few.all {k : Nat} {f : Fm} (h : few k f) : few (k + 1) (.all f) := by
  obtain ⟨L, h1, h2⟩ := h
  refine ⟨.all f :: L, by rw [List.length_cons]; omega, fun x hx => ?_⟩
  rw [List.mem_cons]
  rcases mem_merge.mp hx with h | h
  · exact .inr (h2 x h)
  · exact .inl (List.mem_singleton.mp h)
theorem few.at (c : Nat) : few 0 (.at c) := ⟨[], Nat.le_refl _, fun x hx => by simp [alls] at hx⟩
theorem few.no : few 0 .no := ⟨[], Nat.le_refl _, fun x hx => by simp [alls] at hx⟩
theorem few_ht : ∀ f : Fm, few (2 ^ f.ht - 1) f
  | .at c => (few.at c).up (by omega)
  | .no => few.no.up (by omega)
  | .imp a b => by
    have l1 : 2 ^ a.ht ≤ 2 ^ max a.ht b.ht := Nat.pow_le_pow_right (by omega) (Nat.le_max_left _ _)
    have l2 : 2 ^ b.ht ≤ 2 ^ max a.ht b.ht := Nat.pow_le_pow_right (by omega) (Nat.le_max_right _ _)
    refine ((few_ht a).imp (few_ht b)).up ?_
    simp only [ht, Nat.pow_add, Nat.pow_one]
    omega
  | .all a => by
    have : 1 ≤ 2 ^ a.ht := Nat.one_le_two_pow
    refine (few_ht a).all.up ?_
    simp only [ht, Nat.pow_add, Nat.pow_one]
    omega
end Fm
theorem DkA_mono {a : Addr} {c c' : Int} {W : Om} (h : DkA a c W) (hc : c ≤ c') : DkA a c' W := let ⟨l, cells, s, n, h1, h2, h3, h4⟩ := h; ⟨l, cells, s, n, h1, h2, h3, by omega⟩
def letters (p : Str) : Prop := ∀ c ∈ lets p, (65 ≤ c ∧ c ≤ 90) ∨ (97 ≤ c ∧ c ≤ 122)
end N
set_option Elab.async false
set_option linter.all false
set_option maxRecDepth 100000
namespace N
open PySem PySem.Spec PyProof.Rows L2
namespace Fm
def inner : Fm → List Fm
  | .imp a b => [a, b]
  | .all a => [a]
  | _ => []
def subs : Fm → List Fm
  | .at c => [.at c]
  | .no => [.no]
  | .imp a b => .imp a b :: (subs a ++ subs b)
  | .all a => .all a :: subs a
theorem subs_self (f : Fm) : f ∈ subs f := by cases f <;> simp [subs]
/-- each one behind those within it -/
inductive Cl : List Fm → Prop
  | nil : Cl []
  | snoc {l : List Fm} {g : Fm} : Cl l → (∀ p ∈ inner g, p ∈ l) → Cl (l ++ [g])
theorem Cl.take {l : List Fm} (h : Cl l) : ∀ i g, l[i]? = some g → ∀ p ∈ inner g, p ∈ l.take i := by
  induction h with
  | nil => intro i g h; simp at h
  | @snoc l g h hp ih =>
    intro i x hx p px
    by_cases hi : i < l.length
    · rw [List.getElem?_append_left hi] at hx
      rw [List.take_append_of_le_length (by omega)]
      exact ih i x hx p px
    · rw [List.getElem?_append_right (by omega)] at hx
      have e : i = l.length := by
        have := (List.getElem?_eq_some_iff.mp hx).1
        simp at this
        omega
      subst e
      simp at hx
      subst hx
      simp
      exact hp p px
structure PW (f : Fm) (K F : List Fm) (L : List (Fm × Bool)) : Prop where
  kn : K.Nodup
  ks : ∀ g ∈ K, g ∈ subs f
  ls : ∀ x ∈ L, x.1 ∈ subs f
  kf : ∀ g, g ∈ K ↔ g ∈ F ∨ (g, true) ∈ L
  fn : F.Nodup
  dj : ∀ g ∈ F, (g, true) ∉ L
  cl : Cl F
  up : ∀ A h B, L = A ++ (h, true) :: B → (∀ x ∈ B, x.1.sz < h.sz) ∧ ∀ p ∈ inner h, p ∈ F ∨ ∃ b, (p, b) ∈ B
  bt : (∃ B, L = (f, true) :: B) ∨ (L = [] ∧ ∃ F', F = F' ++ [f]) ∨ (L = [(f, false)] ∧ K = [])
  ln : L.length ≤ 2 * K.length + 1
theorem PW.start (f : Fm) : PW f [] [] [(f, false)] where
  kn := List.nodup_nil
  ks := by simp
  ls := by simp [subs_self]
  kf := by simp
  fn := List.nodup_nil
  dj := by simp
  cl := .nil
  up := by
    intro A h B e
    have : (h, true) ∈ [(f, false)] := by rw [e]; simp
    simp at this
  bt := .inr (.inr ⟨rfl, rfl⟩)
  ln := by simp
section
variable {f g h : Fm} {K F : List Fm} {L : List (Fm × Bool)}
theorem PW.low (s : PW f K F (L ++ [(h, true)])) : (h, true) ∉ L := fun m => by
  obtain ⟨A, B, e⟩ := List.append_of_mem m
  have := (s.up A h (B ++ [(h, true)]) (by rw [e]; simp)).1 (h, true) (by simp)
  exact Nat.lt_irrefl _ this
end
/-- others in the place of atoms -/
def sub (σ : Nat → Fm) : Fm → Fm
  | .at c => σ c
  | .no => .no
  | .imp a b => .imp (a.sub σ) (b.sub σ)
  | .all a => .all (a.sub σ)
end Fm
end N
set_option Elab.async false
set_option linter.all false
set_option maxRecDepth 100000
namespace N
open PySem PySem.Spec PyProof.Rows L2
open C8 (Cal Met Mak InsC pe_c pe_mt pe_mt0 pe_mk)
theorem makD {P : Program} {w : World} {K : PySem.W.Frag} {mg : Str → Option Value} {base : Heap} {F : FmKit} {cl : Nat → Addr} {S : FS} {x qual : Str} {C : Addr} {st : Stmt} {f : Addr} {fd : FuncData} {N ps : List Str} {k : Nat} (M : Mk K C f) (hm : mg x = some (.ref C)) (Fn : Fun K "__init__" qual st f fd) (Sc : FnScope N ps (defScope st)) (len : ∀ ds W post, S ds W post → ds.length = ps.length)
    (hb : ∀ (kV doc pm : Value) (an : Option Addr) (cdv ct : Value) (us : List Value), us.length = ps.length → bindArgs (PySem.W.fnOf "__init__" qual (defArgs st) (defBody st) (defScope st) .none kV doc pm an cdv ct) ⟨us, []⟩ = pure (ps.zip us))
    (body : ∀ (cdv : Value) (A : Around) (outer : List Env) (s : Shared) (H : Hp) (E : XK), Room k (A.deeper (envOfC qual (defScope st) s.heap.objs.size f cdv)) →
      ∃ t, PSs (cxOf CX0 P w K mg base N qual (defScope st) f cdv A outer s H E).nox (defBody st) t ∧ ∀ ds W post, S ds W post → Sw F ⟨K, cl⟩ t (startD N ds) W (E_ post)) : Mak P w K mg base (k + 1) x C (spN F ⟨K, cl⟩ S) [] :=
  ⟨f, fd, ps, [], M, okD Fn Sc len body, hm, Fn.binds hb, .nil⟩
def wbNames : List Str := ["below", "atoms", "all_beneath", "all_heights"]
structure Wb where
  below : List (List Nat)
  atoms : List Str
abbrev natD (k : Nat) : D := .int (k : Nat)
abbrev rowD (r : List Nat) : D := .tup (r.map natD)
abbrev rowsD (rs : List (List Nat)) : D := .tup (rs.map rowD)
abbrev atomsD (l : List Str) : D := .tup (l.map .str)
/-- the points beneath each one, by the points directly below -/
def bensF (rs : List (List Nat)) : List (List Nat) := rs.foldl (fun acc r => acc ++ [ascN (r ++ (r.map fun k => acc.getD k []).flatten)]) []
def hgtF (rs : List (List Nat)) : List Nat := rs.foldl (fun acc r => acc ++ [((r.map fun k => 1 + acc.getD k 0)).foldl max 0]) []
structure rowsOk (rs : List (List Nat)) : Prop where
  asc : ∀ (i : Nat) (r : List Nat), rs[i]? = some r → r.Pairwise (· < ·) ∧ ∀ k ∈ r, k < i
  few : rs.length ≤ 63
theorem rowsOk.take {rs : List (List Nat)} (h : rowsOk rs) (n : Nat) : rowsOk (rs.take n) where
  asc := fun i r hr => by
    rw [List.getElem?_take] at hr
    split at hr
    · exact h.asc i r hr
    · cases hr
  few := Nat.le_trans (by rw [List.length_take]; exact Nat.min_le_right _ _) h.few
theorem bensF_snoc (rs : List (List Nat)) (r : List Nat) : bensF (rs ++ [r]) = bensF rs ++ [ascN (r ++ (r.map fun k => (bensF rs).getD k []).flatten)] := by
  unfold bensF
  rw [List.foldl_append]
  rfl
theorem hgtF_snoc (rs : List (List Nat)) (r : List Nat) : hgtF (rs ++ [r]) = hgtF rs ++ [((r.map fun k => 1 + (hgtF rs).getD k 0)).foldl max 0] := by
  unfold hgtF
  rw [List.foldl_append]
  rfl
theorem snoc_ind {α : Type} {P : List α → Prop} (h0 : P []) (h1 : ∀ l a, P l → P (l ++ [a])) (l : List α) : P l := by
  rw [← List.reverse_reverse l]
  induction l.reverse with
  | nil => exact h0
  | cons a l ih =>
    rw [List.reverse_cons]
    exact h1 _ a ih
theorem bensF_len (rs : List (List Nat)) : (bensF rs).length = rs.length := by
  induction rs using snoc_ind with
  | h0 => rfl
  | h1 rs r ih => rw [bensF_snoc, List.length_append, List.length_append, ih]; rfl
theorem hgtF_len (rs : List (List Nat)) : (hgtF rs).length = rs.length := by
  induction rs using snoc_ind with
  | h0 => rfl
  | h1 rs r ih => rw [hgtF_snoc, List.length_append, List.length_append, ih]; rfl
structure Wb.ok (w : Wb) : Prop where
  rows : rowsOk w.below
  some_ : w.below ≠ []
  len : w.atoms.length = w.below.length
  lets : ∀ s ∈ w.atoms, letters s ∧ (N.lets s).Pairwise (· < ·)
def Wb.d (w : Wb) : D := .obj 1 wbNames [rowsD w.below, atomsD w.atoms, .lst ((bensF w.below).map rowD), .lst ((hgtF w.below).map natD)]
def S_initW : FS := fun ds W post => ∃ (x : Addr) (w : Wb), ds = [.adr x, rowsD w.below, atomsD w.atoms] ∧ W = [(x, .ins 1 [] [])] ∧ w.ok ∧
  post .non [(x, .ins 1 wbNames [rowsD w.below, atomsD w.atoms, .lst ((bensF w.below).map rowD), .lst ((hgtF w.below).map natD)])]
section
variable {F : FmKit} {T : Kx} {G : Gm} {W : Om} {R : D → Om → Prop} {tr : TA} {E : XK} {x : Addr} {z : D} {n : Str} {ns : List Str} {l : List D}
theorem ev_mkW (h : EvA F T tr G W fun ds W1 => ∃ w : Wb, ds = [rowsD w.below, atomsD w.atoms] ∧ w.ok ∧ R w.d W1) : Ev F T (tMake (T.cl 1) (spN F T S_initW) [] E tr) G W R :=
  ev_fz (ev_make (fun C H O σ w Q q => h C H O σ w Q fun ds W1 H1 O1 vs ⟨wb, e, hw, r⟩ n k => q ds W1 H1 O1 vs (fun x hx => by
    subst e
    exact ⟨[(x, .ins 1 [] [])], W1, List.Perm.refl _, x, wb, rfl, rfl, hw, rfl, x, _, W1, wb.d, rfl, List.Perm.refl _, .obj _ _ _, r⟩) n k))
end
theorem cutD_d1 (l : List D) : cutD l (some 1) none = l.drop 1 := by
  unfold cutD
  rw [show HT.sIx l.length 0 (some 1) = min 1 l.length from HT.sIx_nat l.length 0 1, show HT.sIx l.length l.length none = l.length from rfl]
  rw [List.take_of_length_le (by simp)]
  cases l <;> simp
theorem cutD_init (l : List D) : cutD l none (some (-1)) = l.take (l.length - 1) := by
  unfold cutD
  have e : HT.sIx l.length l.length (some (-1)) = l.length - 1 := by
    show (if (-1 : Int) < 0 then (-1 + (l.length : Int)).toNat else min (-1 : Int).toNat l.length) = _
    rw [if_pos (by decide)]
    omega
  rw [e, show HT.sIx l.length 0 none = 0 from rfl]
  simp
theorem cutS_d1 (s : Str) : (cutS s (some 1) none).cps.toList = (lets s).drop 1 := by
  unfold cutS
  rw [show HT.sIx s.length 0 (some 1) = min 1 s.length from HT.sIx_nat s.length 0 1, show HT.sIx s.length s.length none = s.length from rfl]
  have e : s.length = (lets s).length := str_len s
  rw [e]
  show ((lets s).drop _).take _ = _
  rw [List.take_of_length_le (by simp)]
  cases lets s <;> simp
theorem cutS_init (s : Str) : (cutS s none (some (-1))).cps.toList = (lets s).take ((lets s).length - 1) := by
  unfold cutS
  have e : s.length = (lets s).length := str_len s
  have e2 : HT.sIx s.length s.length (some (-1)) = s.length - 1 := by
    show (if (-1 : Int) < 0 then (-1 + (s.length : Int)).toNat else min (-1 : Int).toNat s.length) = _
    rw [if_pos (by decide)]
    omega
  rw [e2, show HT.sIx s.length 0 none = 0 from rfl, e]
  show ((lets s).drop 0).take _ = _
  simp
theorem map_take_sub (l : List Nat) : (l.map natD).take ((l.map natD).length - 1) = (l.take (l.length - 1)).map natD := by rw [List.length_map, List.map_take]
theorem map_drop_1 (l : List Nat) : (l.map natD).drop 1 = (l.drop 1).map natD := by rw [List.map_drop]
section
variable {F : FmKit} {T : Kx} {W : Om} {R : D → Om → Prop}
theorem isi_int {i : Int} (r : R (.bl true) W) : Ca F T (rIsi T.K) [.int i, .vl (.ty "int")] W R := ca_isi (.ty "int") tyd_int (by unfold PySem.W.kitOne; rfl) r
theorem isi_intB {i : Int} (r : R (.bl false) W) : Ca F T (rIsi T.K) [.int i, .vl (.ty "bool")] W R := ca_isi (.ty "bool") tyd_int (by unfold PySem.W.kitOne; first | rfl | decide +kernel) r
end
theorem letters_len {s : Str} (hl : letters s) (hp : (lets s).Pairwise (· < ·)) : s.length ≤ 100 := by
  have h1 := hp.imp (S := (· ≠ ·)) fun h => Nat.ne_of_lt h
  have h2 := List.Nodup.length_le_of_subset (l₁ := (lets s).map (· - 30)) (l₂ := List.range 100) ?_ fun x hx => ?_
  · rw [List.length_range, List.length_map, ← str_len] at h2
    exact h2
  · rw [List.Nodup, List.pairwise_map]
    refine hp.imp_of_mem fun {a b} ha hb h => ?_
    have := hl a ha
    have := hl b hb
    omega
  · obtain ⟨c, hc, rfl⟩ := List.mem_map.mp hx
    have := hl c hc
    rw [List.mem_range]
    omega
/-- ints as the keys of a dict -/
def kni (ks : List Nat) : List (Key × D) := ks.map fun (k : Nat) => ((Sum.inl (k : Int) : Key), D.bl true)
theorem kni_keys (ks : List Nat) (k : Nat) : (Sum.inl (k : Int) : Key) ∈ (kni ks).map (·.1) ↔ k ∈ ks := by
  unfold kni
  rw [List.map_map, List.mem_map]
  constructor
  · rintro ⟨x, hx, e⟩
    have : (x : Int) = k := by simpa using e
    have : x = k := by omega
    exact this ▸ hx
  · exact fun h => ⟨k, h, rfl⟩
theorem kni_map (ks : List Nat) : (kni ks).map (·.1) = (ks.map fun (k : Nat) => (k : Int)).map Sum.inl := by
  unfold kni
  rw [List.map_map, List.map_map]
  rfl
/-- one key more, or none -/
def insK (ks : List Nat) (k : Nat) : List Nat := if k ∈ ks then ks else ks ++ [k]
theorem putG_old {v : D} {ps : List (Key × D)} {k : Key} (hv : ∀ p ∈ ps, p.2 = v) (h : k ∈ ps.map (·.1)) : putG ps k v = ps := by
  unfold putG
  obtain ⟨q, hq, e⟩ := List.mem_map.mp h
  rw [if_pos (List.any_eq_true.mpr ⟨q, hq, by rw [decide_eq_true_eq]; exact e⟩)]
  refine (List.map_congr_left fun p hp => ?_).trans (List.map_id ps)
  split
  · rw [← hv p hp]
    rfl
  · rfl
theorem put_kni (ks : List Nat) (k : Nat) : putG (kni ks) (Sum.inl (k : Int)) (.bl true) = kni (insK ks k) := by
  unfold insK
  split
  · next h =>
    exact putG_old (fun p hp => by
      obtain ⟨x, _, rfl⟩ := List.mem_map.mp hp
      rfl) ((kni_keys ks k).mpr h)
  · next h =>
    rw [putG_new (fun z => h ((kni_keys ks k).mp z))]
    simp [kni]
theorem mem_insK {ks : List Nat} {k x : Nat} : x ∈ insK ks k ↔ x ∈ ks ∨ x = k := by
  unfold insK
  split
  · next h =>
    constructor
    · exact .inl
    · rintro (h1 | rfl)
      · exact h1
      · exact h
  · simp
theorem nodup_insK {ks : List Nat} {k : Nat} (h : ks.Nodup) : (insK ks k).Nodup := by
  unfold insK
  split
  · exact h
  · next hk =>
    rw [List.nodup_append]
    refine ⟨h, by simp, fun a ha b hb e => ?_⟩
    simp at hb
    subst hb e
    exact hk ha
theorem up_kni (ks ms : List Nat) : upG (kni ks) (kni ms) = kni (ms.foldl insK ks) := by
  unfold upG
  induction ms generalizing ks with
  | nil => rfl
  | cons m ms ih =>
    show (kni ms).foldl _ (putG (kni ks) (Sum.inl (m : Int)) (.bl true)) = _
    rw [put_kni]
    exact ih _
theorem mem_fold_ins {ms : List Nat} : ∀ {ks : List Nat} {x : Nat}, x ∈ ms.foldl insK ks ↔ x ∈ ks ∨ x ∈ ms := by
  induction ms with
  | nil => intro ks x; simp
  | cons m ms ih =>
    intro ks x
    show x ∈ ms.foldl insK (insK ks m) ↔ _
    rw [ih, mem_insK, List.mem_cons]
    constructor
    · rintro ((h | h) | h)
      · exact .inl h
      · exact .inr (.inl h)
      · exact .inr (.inr h)
    · rintro (h | h | h)
      · exact .inl (.inl h)
      · exact .inl (.inr h)
      · exact .inr h
theorem nodup_fold_ins {ms : List Nat} : ∀ {ks : List Nat}, ks.Nodup → (ms.foldl insK ks).Nodup := by
  induction ms with
  | nil => intro ks h; exact h
  | cons m ms ih => exact fun h => ih (nodup_insK h)
theorem sorted_kni {ks ms : List Nat} {ys : List Int} (nd : ks.Nodup) (hp : ys.Perm (ks.map fun (k : Nat) => (k : Int))) (hs : ys.Pairwise (· ≤ ·)) (hm : ∀ x, x ∈ ks ↔ x ∈ ms) : ys = (ascN ms).map fun (k : Nat) => (k : Int) := by
  obtain ⟨zs, hz, rfl⟩ := perm_map_inv hp
  congr 1
  refine ascN_ext ?_ (asc_ascN ms) fun x => by rw [hz.mem_iff, hm x, mem_ascN]
  have n2 : zs.Nodup := hz.nodup_iff.mpr nd
  rw [List.pairwise_map] at hs
  exact (hs.and n2).imp fun ⟨a, b⟩ => by omega
theorem bensF_low {rs : List (List Nat)} : rowsOk rs → ∀ (i : Nat) (b : List Nat), (bensF rs)[i]? = some b → ∀ x ∈ b, x < i := by
  induction rs using snoc_ind with
  | h0 => intro _ i b h; simp [bensF] at h
  | h1 rs r ih =>
    intro ok i b h x hx
    have ok2 : rowsOk rs := by
      have := ok.take rs.length
      simpa using this
    rw [bensF_snoc] at h
    by_cases hi : i < (bensF rs).length
    · rw [List.getElem?_append_left hi] at h
      exact ih ok2 i b h x hx
    · rw [List.getElem?_append_right (by omega)] at h
      have e : i = rs.length := by
        have := (List.getElem?_eq_some_iff.mp h).1
        rw [bensF_len] at *
        simp at this
        omega
      subst e
      rw [bensF_len] at h
      simp at h
      subst h
      rw [mem_ascN, List.mem_append] at hx
      have hr := (ok.asc rs.length r (by simp)).2
      rcases hx with h | h
      · exact hr x h
      · obtain ⟨l, hl, hx2⟩ := List.mem_flatten.mp h
        obtain ⟨k, hk, rfl⟩ := List.mem_map.mp hl
        have hk2 := hr k hk
        have hb : (bensF rs)[k]? = some ((bensF rs).getD k []) := by
          rw [List.getD_eq_getElem?_getD, List.getElem?_eq_getElem (by rw [bensF_len]; exact hk2)]
          rfl
        have := ih ok2 k _ hb x hx2
        omega
theorem low_len {ks : List Nat} {j : Nat} (nd : ks.Nodup) (h : ∀ x ∈ ks, x < j) : ks.length ≤ j := by
  have h2 := List.Nodup.length_le_of_subset (l₁ := ks) (l₂ := List.range j) nd fun x hx => List.mem_range.mpr (h x hx)
  rwa [List.length_range] at h2
theorem kni_len (ks : List Nat) : (kni ks).length = ks.length := by simp [kni]
theorem at_row {bs : List (List Nat)} {k : Nat} (h : k < bs.length) : atI (bs.map rowD) ((k : Nat) : Int) = some (rowD (bs.getD k [])) := by
  unfold atI ixN
  rw [if_pos (by omega), if_pos (by rw [List.length_map]; omega)]
  simp [h]
theorem fold_max : ∀ (ls : List Nat) (a : Nat), ls.foldl max a ∈ a :: ls ∧ ∀ y ∈ a :: ls, y ≤ ls.foldl max a
  | [], a => by simp
  | b :: ls, a => by
    obtain ⟨h1, h2⟩ := fold_max ls (max a b)
    show ls.foldl max (max a b) ∈ _ ∧ ∀ y ∈ _, y ≤ ls.foldl max (max a b)
    have h3 := h2 (max a b) List.mem_cons_self
    refine ⟨?_, fun y hy => ?_⟩
    · rcases List.mem_cons.mp h1 with e | e
      · rw [e]
        rcases Nat.le_total a b with h | h
        · rw [Nat.max_eq_right h]
          simp
        · rw [Nat.max_eq_left h]
          simp
      · exact List.mem_cons_of_mem _ (List.mem_cons_of_mem _ e)
    · simp only [List.mem_cons] at hy
      rcases hy with rfl | rfl | hy
      · omega
      · omega
      · exact h2 y (List.mem_cons_of_mem _ hy)
theorem at_nat {hs : List Nat} {k : Nat} (h : k < hs.length) : atI (hs.map natD) ((k : Nat) : Int) = some (natD (hs.getD k 0)) := by
  unfold atI ixN
  rw [if_pos (by omega), if_pos (by rw [List.length_map]; omega)]
  simp [h]
section
variable {F : FmKit} {T : Kx} {RR : Om → Prop} {x : Addr} {z : D} {n : Str} {ns nm : List Str} {l : List D} {c : Nat}
theorem rcv_newC (zf : CZ T.K (T.cl c) nm) (hn : n ∈ nm) (h : n ∉ ns) (hl : ns.length < 1000) (r : RR [(x, .ins c (ns ++ [n]) (l ++ [z]))]) : Rcv F T (.adr x) z n [(x, .ins c ns l)] RR :=
  ⟨x, c, ns, l, [], [], _, _, rfl, rfl, zf.cls, zf.nos n hn, hl, .new ns l h, r⟩
end
inductive FldW : Str → Wb → D → Prop
  | below (w : Wb) : FldW "below" w (rowsD w.below)
  | atoms (w : Wb) : FldW "atoms" w (atomsD w.atoms)
  | bens (w : Wb) : FldW "all_beneath" w (.lst ((bensF w.below).map rowD))
  | hgts (w : Wb) : FldW "all_heights" w (.lst ((hgtF w.below).map natD))
end N
set_option Elab.async false
set_option linter.all false
set_option maxRecDepth 100000
namespace N
open PySem PySem.Spec PyProof.Rows L2
open C8 (Cal Met Mak InsC pe_c pe_mt pe_mt0 pe_mk)
/-- a def of the text with defaults -/
abbrev FunT (K : PySem.W.Frag) (x qual : Str) (st : Stmt) (dvs : List V) (f : Addr) (fd : FuncData) : Prop := FunD K x qual (defArgs st) (defBody st) (defScope st) dvs [] f fd
section
variable {P : Program} {w : World} {K : PySem.W.Frag} {mg : Str → Option Value} {base : Heap} {F : FmKit} {cl : Nat → Addr} {S : FS}
/-- every argument is written -/
theorem FunT.all {x qual : Str} {st : Stmt} {dvs : List V} {f : Addr} {fd : FuncData} {ps : List Str} (Fn : FunT K x qual st dvs f fd) (hd : dvs ≠ [])
    (h : ∀ (T : Addr) (kV doc pm : Value) (an : Option Addr) (cdv ct : Value) (us its : List Value), us.length = ps.length → its.length = dvs.length →
      ∃ k, bindArgs (PySem.W.fnOf x qual (defArgs st) (defBody st) (defScope st) (.ref T) kV doc pm an cdv ct) ⟨us, []⟩ = seqItems? (.ref T) >>= k ∧ k (some its.toArray) = pure (ps.zip us)) : Binds K fd ps [] := by
  obtain ⟨ds, r, b⟩ := FunD.binds1 (ps := ps) Fn ps.length dvs.length hd (by omega) (fun T kV doc pm an cdv ct us its h1 h2 => by
    obtain ⟨k, e1, e2⟩ := h T kV doc pm an cdv ct us its h1 h2
    refine ⟨k, e1, ?_⟩
    rw [e2, List.drop_of_length_le (by omega), List.append_nil])
  rw [List.drop_of_length_le (Nat.le_refl _)] at r
  cases r
  exact b
end
theorem inst_wb {F : FmKit} {W : Om} (w : Wb) : Inst F W w.d 1 wbNames [rowsD w.below, atomsD w.atoms, .lst ((bensF w.below).map rowD), .lst ((hgtF w.below).map natD)] := .obj _ _ _
/-- a field of a formula or of a web -/
theorem ev_fwF {T : Kx} {G : Gm} {W : Om} {R : D → Om → Prop} {ta : TE} {n : Str} (zf : FZ T.K (T.cl 0)) (zw : CZ T.K (T.cl 1) wbNames)
    (h : Ev FK T ta G W fun d W1 => (∃ f z, d = .fm f ∧ FldF n f z ∧ R z W1) ∨ ∃ w z, d = Wb.d w ∧ FldW n w z ∧ R z W1) : Ev FK T (tFld T.K ta n) G W R :=
  ev_fld (h.imp fun d W1 hh => by
    rcases hh with ⟨f, z, e, k, r⟩ | ⟨w, z, e, f, r⟩
    · subst e
      exact ⟨0, fmNames, fmVals FK f, z, .fm f, zf.cls, zf.nos n k.look.1, k.look.2, r⟩
    · subst e
      refine ⟨1, wbNames, _, z, .obj _ _ _, zw.cls, ?_, ?_, r⟩
      · cases f <;> exact zw.nos _ (by decide +kernel)
      · cases f <;> rfl)
end N
set_option Elab.async false
set_option linter.all false
set_option maxRecDepth 100000
set_option maxHeartbeats 4000000
namespace N
open PySem PySem.Spec PyProof.Rows L2
def rSetL (K : PySem.W.Frag) (w : World) : List V → Hp → VK → Prop := fun xs H Q => ∃ (l : Addr) (ns : List Int), xs = [.ref l] ∧ SqL K H l (ns.map V.int) ∧ ns.length < 4000 ∧ ∀ a c, c ≤ ns.length → H a = none → Q (.ref a) (upd H a (SetO w a (fun j => decide (j ∈ ns)) c))
end N
set_option Elab.async false
set_option linter.all false
set_option maxRecDepth 100000
set_option maxHeartbeats 4000000
namespace N
open PySem PySem.Spec PyProof.Rows L2
theorem tuple_mul1 (l : Addr) (items : Array Value) (n : Nat) (dd : Option Addr) (sl : Array (Option Value)) (u : Tok) :
    Meets (Builtin.«tuple.__mul__» ⟨[.ref l, .int 1 u], []⟩) (fun _ R s => s.heap.get? l = some { cls := .type "tuple", dict := dd, data := .seq items n, slots := sl } ∧ R (.ok (.ret (Value.ref l))) s) :=
  .of_wp fun prog w A R s h => by
    obtain ⟨hp, g, d, tk, os⟩ := s
    obtain ⟨hl, h⟩ := h
    have f1 := AutoSeq1.idx_int
    wp_walk using wpAny_loadPart' hl
    repeat (first
      | (refine wpAny_ite_false (by decide) ?_; wp_walk using wpAny_loadPart' hl)
      | (refine wpAny_ite_true (by simp) ?_; wp_walk using wpAny_loadPart' hl))
    exact ⟨_, rfl, h⟩
theorem tuple_mul0 (l : Addr) (items : Array Value) (n : Nat) (dd : Option Addr) (sl : Array (Option Value)) (u : Tok) (c1 : items.isEmpty = false) :
    Meets (Builtin.«tuple.__mul__» ⟨[.ref l, .int 0 u], []⟩) (fun _ R s => s.heap.get? l = some { cls := .type "tuple", dict := dd, data := .seq items n, slots := sl } ∧
      R (.ok (.ret (Value.ref s.heap.objs.size))) { s with heap := s.heap.push { cls := Value.type "tuple", data := Data.seq #[] }, toks := s.toks }) :=
  .of_wp fun prog w A R s h => by
    obtain ⟨hp, g, d, tk, os⟩ := s
    obtain ⟨hl, h⟩ := h
    have f1 := AutoSeq1.idx_int
    wp_walk using wpAny_loadPart' hl
    repeat (first
      | (refine wpAny_ite_false (by decide) ?_; wp_walk using wpAny_loadPart' hl)
      | (refine wpAny_ite_false (by rw [c1]; decide) ?_; wp_walk using wpAny_loadPart' hl)
      | (refine wpAny_ite_true (by simp) ?_; wp_walk using wpAny_loadPart' hl))
    exact ⟨_, rfl, h⟩
def rRepTA (K : PySem.W.Frag) : R2 := fun x y H Q => ∃ l k xs, x = .ref l ∧ y = .int k ∧ SqT K H l xs ∧ xs ≠ [] ∧ 0 ≤ k ∧ k ≤ 1000 ∧ xs.length ≤ 1000 ∧ (k = 1 → Q (.ref l) H) ∧ (k ≠ 1 → ∀ p, H p = none → Q (.ref p) (upd H p (.tup (List.replicate k.toNat xs).flatten)))
theorem op_repTA {X : Cx} : OpR X (binaryOp .Mult) (rRepTA X.K) := by
  intro pins s σ H x y v u Q I rx ry h
  obtain ⟨l, k, xs, ex, ey, hT, hne, h1, h2, hz, q1, q2⟩ := h
  rcases (by omega : k = 0 ∨ k = 1 ∨ 2 ≤ k) with e | e | e
  · subst e ex ey
    have q := q2 (by decide)
    cases rx
    obtain ⟨t, rfl⟩ := ry
    obtain ⟨its, r, ⟨⟨cls, dd, data, sl⟩, ho, hc, n, hd⟩, hs⟩ := I.tuple hT
    simp only at hc hd
    subst hc hd
    have hle : its.length = xs.length := r.length.symm
    have hi : its.toArray.isEmpty = false := by
      cases its with
      | nil => exact absurd (List.eq_nil_of_length_eq_zero hle.symm) hne
      | cons a b => rfl
    refine wpAny_binaryOp_repeat_ref (T := "tuple") (U := "int") (by decide) ⟨_, ho, rfl⟩ (fun s' => typeIs_int s' 0 t) noFill_tuple_mul F.fills_int_mul F.slot_int_rmul repeat_tuple F.slot_int_index.lookup
      (call_meets F.slot_int_rmul (typeIs_int s 0 t) F.entry_int_rmul (F.args_int_rmul_2 _ _) (int_rmul_tuple 0 t l its.toArray n dd sl)
        ⟨ho, rfl, ⟨_, ho, rfl⟩, call_meets F.slot_tuple_mul ⟨_, ho, rfl⟩ F.entry_tuple_mul (F.args_tuple_mul_2 _ _) (tuple_mul0 l its.toArray n dd sl t hi) ⟨ho, ?_⟩⟩)
    refine ⟨.ref s.heap.objs.size, _, I.laid (t' := s.toks) (o := .tup []) (fun b ob q => Heap.get?_push_of_some _ q) (Nat.le_refl _) ?_, rfl, q _ (I.hok.fresh (Nat.le_refl _))⟩
    exact ⟨by simp, [], .nil, IsTup.new _ _⟩
  · subst e ex ey
    have q := q1 rfl
    cases rx
    obtain ⟨t, rfl⟩ := ry
    obtain ⟨its, r, ⟨⟨cls, dd, data, sl⟩, ho, hc, n, hd⟩, hs⟩ := I.tuple hT
    simp only at hc hd
    subst hc hd
    refine wpAny_binaryOp_repeat_ref (T := "tuple") (U := "int") (by decide) ⟨_, ho, rfl⟩ (fun s' => typeIs_int s' 1 t) noFill_tuple_mul F.fills_int_mul F.slot_int_rmul repeat_tuple F.slot_int_index.lookup
      (call_meets F.slot_int_rmul (typeIs_int s 1 t) F.entry_int_rmul (F.args_int_rmul_2 _ _) (int_rmul_tuple 1 t l its.toArray n dd sl)
        ⟨ho, rfl, ⟨_, ho, rfl⟩, call_meets F.slot_tuple_mul ⟨_, ho, rfl⟩ F.entry_tuple_mul (F.args_tuple_mul_2 _ _) (tuple_mul1 l its.toArray n dd sl t) ⟨ho, ?_⟩⟩)
    exact ⟨.ref l, H, I, rfl, q⟩
  · exact op_repT pins s σ H x y v u Q I rx ry ⟨l, k, xs, ex, ey, hT, hne, e, h2, hz, q2 (by omega)⟩
theorem op_repTAK {X : Cx} {K : PySem.W.Frag} (hK : X.K = K) : OpR X (binaryOp .Mult) (rRepTA K) := hK ▸ op_repTA
section
variable {F : FmKit} {T : Kx} {C H H' O O' : Hp} {G : Gm} {W W' : Om} {R : D → Om → Prop} {σ : L2.St} {d e : D} {l m : List D} {te ta tb to ti : TE}
/-- a tuple any number of times -/
theorem bo_repTA {k : Int} (hne : l ≠ []) (hk : 0 ≤ k) (hk2 : k ≤ 1000) (hl : l.length ≤ 1000) (r : R (.tup (List.replicate k.toNat l).flatten) W) : Bo F T (rRepTA T.K) (.tup l) (.int k) W R := fun C H O di oc ow x y hx hy Q kk => by
  have hy : y = .int k := hy
  subst hy
  obtain ⟨a, us, ex, hs, kl⟩ := hx
  have n := Nx.refl (F := F) (T := T) di oc ow
  refine ⟨a, k, us, ex, rfl, Same.sqT di.same hs, fun e0 => ?_, hk, hk2, by rw [kl.len]; exact hl, fun e1 => ?_, fun ne p hp => ?_⟩
  · subst e0
    have := kl.len
    exact hne (by simpa using this.symm)
  · subst e1
    have e : (List.replicate (1 : Int).toNat l).flatten = l := by simp
    rw [e] at r
    exact kk _ W H O _ r n ⟨a, us, rfl, hs, kl⟩
  · obtain ⟨n2, e2, s2⟩ := n.newF (o := .tup (List.replicate k.toNat us).flatten) hp
    rw [e2]
    exact kk _ W _ O _ r n2 ⟨p, _, rfl, SqT.of upd_same, den_rep (kl.mono s2) _⟩
theorem ca_listF (hv : Vs W d l) (r : R (.lst l) W) : Ca F T (fun xs H Q => ∃ p ys, xs = [.ref p] ∧ (SqL T.K H p ys ∨ SqT T.K H p ys) ∧ ∀ q, H q = none → Q (.ref q) (upd H q (.lst ys))) [d] W R :=
  ca_fz (ca_list hv fun p hp => ⟨p, _, W, _, rfl, List.Perm.refl _, .lst _, r⟩)
end
end N
set_option Elab.async false
set_option linter.all false
set_option maxRecDepth 100000
set_option maxHeartbeats 4000000
namespace N
open PySem PySem.Spec PyProof.Rows L2
theorem sub_str_str : isSubtype (.type "str") (.type "str") = pure true := by rw [isSubtype_type]; kernel_rfl
section
variable {P : Program} {w : World} {A : Around} {E : Value → Shared → Prop} {s : Shared}
theorem strsAre_of_get {us : List Value} {xs : List Str} (hl : us.length = xs.length) (h : ∀ (i : Nat) (v : Value), us[i]? = some v → ∃ k t, xs[i]? = some k ∧ v = .str k t) : StrsAre us xs := by
  induction us generalizing xs with
  | nil =>
    cases xs with
    | nil => exact .nil
    | cons x xs => cases hl
  | cons u us ih =>
    cases xs with
    | nil => cases hl
    | cons x xs =>
      obtain ⟨k, t, e1, rfl⟩ := h 0 u rfl
      have e1 : some x = some k := e1
      cases e1
      exact .cons x t (ih (by simpa using hl) fun i v hv => h (i + 1) v hv)
theorem collect_text {x : Str} {t : Tok} {Q : List Value → Shared → Prop} (hh : A.handled = none) (hb : x.length ≤ sizeLine)
    (hQ : ∀ s' out, (∀ b o, s.heap.get? b = some o → s'.heap.get? b = some o) → s.heap.objs.size ≤ s'.heap.objs.size → s'.gens = s.gens → s'.os = s.os → StrsAre out (signs x) → Q out s') :
    wpAny (model P w) A (collect (.str x t)) Q E s := by
  unfold collect
  refine wpAny_bind (wpAny_runValue (codeAny_builtin F.entry_proto_collect ?_))
  rw [Around.under_plainId F.plain_proto_collect _]
  show wpAny _ A.in1 (newList [] >>= fun l => again (.builtin "list.__iadd__" ⟨[l, .str x t], []⟩)) _ _ s
  refine wpAny_bind (wpAny_newObj_type ?_)
  refine wpAny_pure ⟨plainId_quiet F.plain_list_iadd _, codeAny_builtin F.entry_list_iadd ?_⟩
  rw [Around.under_plainId F.plain_list_iadd _]
  have hS : (s.heap.push { cls := .type "list", data := .seq ([] : List Value).toArray }).get? s.heap.objs.size = some { cls := .type "list", data := .seq ([] : List Value).toArray } := Heap.get?_push_size _ rfl
  have hz1 : (s.heap.push { cls := .type "list", data := .seq ([] : List Value).toArray }).objs.size = s.heap.objs.size + 1 := size_push' _ _
  show wpAny _ A.in1 (Builtin.List.listExtendWith (.ref s.heap.objs.size) (.str x t) (.ref s.heap.objs.size)) _ _ _
  unfold Builtin.List.listExtendWith
  refine wpAny_bind (wpAny_typeOf (T := "str") (typeIs_str _ _ _) ?_)
  have h1 : Builtin.List.listSameRef (.ref s.heap.objs.size) (.str x t) = false := rfl
  have h2 : (Value.type "str" == Value.type "list") = false := by decide
  have h3 : (Value.type "str" == Value.type "tuple") = false := by decide
  simp only [h1, h2, h3, Bool.or_false, Bool.false_eq_true, if_false]
  refine wpAny_bind (wpAny_pyIter_str fun o St W hst => ?_)
  refine wpAny_bind (wpAny_holding ?_)
  unfold Builtin.List.listLengthHint
  refine wpAny_bind (wpAny_specialOf (typeIs_str _ _ _) F.slot_str_len.lookup ?_)
  (generalize hid : ("str.__len__" : String) = id0; (fail_if_success (clear hid id0)); wp_delta; rw [show splitId id0 = some ("str", "__len__") from by subst hid; decide +kernel]; subst hid)
  refine wpAny_bind (wpAny_isInstance (b := true) (typeIs_str _ _ _) sub_str_str ?_)
  show wpAny _ A.in1 (typeOf (.str x t) >>= _) _ _ _
  refine wpAny_bind (wpAny_typeOf (T := "str") (typeIs_str _ _ _) ?_)
  refine wpAny_pure ?_
  refine wpAny_ite_false (by decide +kernel) ?_
  have hI : (s.heap.push { cls := .type "list", data := .seq ([] : List Value).toArray }).objs.size = s.heap.objs.size + 1 := hz1
  have hS2 : ((s.heap.push { cls := .type "list", data := .seq ([] : List Value).toArray }).push o).get? s.heap.objs.size = some { cls := .type "list", data := .seq ([] : List Value).toArray } := Heap.get?_push_of_some _ hS
  have hSf : s.heap.objs.size ∉ [(s.heap.push { cls := .type "list", data := .seq ([] : List Value).toArray }).objs.size] := by
    rw [hz1, List.mem_singleton]
    omega
  refine wpAny_pure ⟨plainId_quiet F.plain_extend_loop _, codeAny_extend_loopS (W A.in1 hh).toS hb _ hSf _ x.cps.size 0 _ _ _ rfl (Nat.zero_le _) hst hS2 (ItemsOf.nil (SignAt x)) fun s' acc' c' hm hS' hacc => ?_⟩
  show wpAny _ A (load s.heap.objs.size >>= _) _ _ s'
  refine wpAny_bind (wpAny_load hS' ?_)
  refine wpAny_pure ?_
  show Q acc'.toList s'
  refine hQ s' _ (fun b u e => ?_) (Nat.le_of_lt (Heap.lt_size hS')) hm.gens hm.os ?_
  · have hbl : b < s.heap.objs.size := Heap.lt_size e
    refine hm.heap b u (fun z => ?_) (Heap.get?_push_of_some _ (Heap.get?_push_of_some _ e))
    rcases List.mem_cons.mp z with z | z
    · exact Nat.ne_of_lt hbl z
    · have z := List.mem_singleton.mp z
      exact Nat.ne_of_lt (Nat.lt_succ_of_lt hbl) (z.trans hz1)
  · refine strsAre_of_get ?_ fun i v hv => ?_
    · unfold signs
      rw [Array.length_toList, hacc.1, List.length_map, Array.length_toList]
    · rw [Array.getElem?_toList] at hv
      obtain ⟨c, u, hc, e⟩ := hacc.2 i v hv
      refine ⟨⟨#[c]⟩, u, ?_, e⟩
      unfold signs
      rw [List.getElem?_map, Array.getElem?_toList, hc]
      rfl
theorem sorted_text {x : Str} {t : Tok} {Q : Value → Shared → Prop} (hh : A.handled = none) (hb : x.length ≤ sizeLine)
    (hQ : ∀ s' p (out : Array Value) (c : Nat) (ks : List Str), (∀ b o, s.heap.get? b = some o → s'.heap.get? b = some o) → s'.gens = s.gens → s'.os = s.os → s.heap.objs.size ≤ p →
      s'.heap.get? p = some (seqObj "list" out c) → StrsAre out.toList ks → sortedS ks = true → ks.Perm (signs x) → Q (.ref p) s') :
    wpAny (model P w) A (call (.builtin "sorted") [.str x t]) Q E s := by
  refine Calls.call_function_entry kind_sorted plain_sorted entry_sorted (args_sorted1 _) ?_
  unfold Builtin.«sorted»
  refine wpAny_bind (m := checkCount "sorted" 1 1 _) (wpAny_pure (wpAny_bind (collect_text (A := A.in1) hh hb fun s1 vs k1 hz g1 o1 hI => ?_)))
  have hvl : vs.length = (signs x).length := hI.length
  have hs : vs.length ≤ sizeLine := by
    rw [hvl]
    unfold signs
    rw [List.length_map, Array.length_toList]
    exact hb
  refine wpAny_bind (wpAny_newList ?_ hs)
  have hoL : (s1.heap.push (seqObj "list" vs.toArray 0)).get? s1.heap.objs.size = some (seqObj "list" vs.toArray 0) := Heap.get?_push_size _ rfl
  refine wpAny_bind (wpAny_holding (wpAny_call_entry slot_list_sort ⟨_, hoL, rfl⟩ entry_list_sort (list_sort_treeKAny strKind_oneLt hoL hI.keysOf (fun v₁ v₂ rest e => keyKind_strs (by rw [← e]; exact hI)) hs fun st' hp ht => ⟨_, rfl, ?_⟩) (args_list_sort _)))
  obtain ⟨ss, h1, h2, h3⟩ := sorted_out_str hI hp ht
  obtain ⟨c, hc⟩ := sortedHeap_at (vs := vs) (out := (arrOf st').map (·.2)) hoL
  refine wpAny_pure ⟨_, rfl, hQ _ s1.heap.objs.size _ c ss (fun b u e => ?_) g1 o1 hz hc h1 h3 h2⟩
  have q := k1 b u e
  have hlt := Heap.lt_size q
  show (sortedHeap (s1.heap.push (seqObj "list" vs.toArray 0)) s1.heap.objs.size vs _).get? b = some u
  rw [sortedHeap_old (Nat.ne_of_lt hlt) (by rw [size_push']; exact Nat.lt_succ_of_lt hlt)]
  exact Heap.get?_push_of_some _ q
end
def rSortedX : List V → Hp → VK → Prop := fun vs H Q => ∃ x : Str, vs = [V.str x] ∧ x.length ≤ 5000 ∧ ∀ (ks : List Str) (p : Addr), sortedS ks = true → ks.Perm (signs x) → H p = none → Q (.ref p) (upd H p (.lst (ks.map V.str)))
theorem cr_sortedX {X : Cx} (hc : X.calm = true) : CallR X (.builtin "sorted") rSortedX := by
  intro pins s σ H vs us Q I r h
  obtain ⟨x, rfl, hx, q⟩ := h
  obtain ⟨u, rfl, t, rfl⟩ := vals1 r
  have h16 := sizeLine_eq
  refine sorted_text (I.ok.hd hc) (by omega) fun s' p out c ks k g o hp hg hi hs hm => ?_
  have hlen : (ks.map V.str).length ≤ sizeLine := by
    rw [List.length_map, hm.length_eq]
    unfold signs
    rw [List.length_map, Array.length_toList]
    show x.length ≤ _
    omega
  have hn : H p = none := I.hok.fresh hp
  have J : Inv X pins σ (upd H p (.lst (ks.map V.str))) { s with heap := s'.heap, gens := s'.gens, drawn := s'.drawn, toks := s'.toks } :=
    I.call (ch := []) (Un.laid k hp hn) (I.hok.laid k hp ⟨hlen, out.toList, c, vals_of_strs hi, hg⟩) (by rw [g]; exact I.bare) (fun _ z => nomatch z)
  have e : s' = { s with heap := s'.heap, gens := s'.gens, drawn := s'.drawn, toks := s'.toks } := by
    cases s'
    cases s
    cases o
    rfl
  rw [e]
  exact ⟨.ref p, _, J, rfl, q ks p hs hm hn⟩
/-- sorted of a text of unlike signs -/
theorem sorted_signs {x : Str} {ks : List Str} (hs : sortedS ks = true) (hp : ks.Perm (signs x)) (nd : (lets x).Nodup) : ks = (ascN (lets x)).map sg := by
  have e1 : signs x = (lets x).map sg := rfl
  have n2 : (signs x).Nodup := by
    rw [e1]
    exact nd.map (f := sg) fun a b e h => e (sg_inj h)
  rw [ascS_sorted (m := signs x) hs (hp.nodup_iff.mpr n2) fun z => hp.mem_iff, e1, ascS_sg]
  rfl
section
variable {F : FmKit} {T : Kx} {G : Gm} {W W' : Om} {R : D → Om → Prop}
theorem ca_sortedX {x : Str} (hx : x.length ≤ 5000) (nd : (lets x).Nodup) (r : R (.lst ((ascN (lets x)).map fun c => .str (sg c))) W) : Ca F T rSortedX [.str x] W R := ca_one fun C H O di oc ow v k Q q => by
  have k : v = .str x := k
  refine ⟨x, by rw [k], hx, fun ys p hs hp hn => ?_⟩
  obtain ⟨n2, e2, s2⟩ := (Nx.refl (F := F) (T := T) di oc ow).newF (o := .lst (ys.map V.str)) hn
  rw [e2]
  refine q _ W _ O _ r n2 ⟨p, _, rfl, upd_same, ?_⟩
  rw [sorted_signs hs hp nd]
  have := den_strs (F := F) (T := T) (H := upd H p (.lst (((ascN (lets x)).map sg).map V.str))) ((ascN (lets x)).map sg)
  rw [show ((ascN (lets x)).map fun c => D.str (sg c)) = ((ascN (lets x)).map sg).map D.str by rw [List.map_map]; rfl]
  exact this
end
end N
set_option Elab.async false
set_option linter.all false
set_option maxRecDepth 100000
namespace N
open PySem PySem.Spec PyProof.Rows L2
theorem getD_snoc_lt {α : Type} {l : List α} {a d : α} {i : Nat} (h : i < l.length) : (l ++ [a]).getD i d = l.getD i d := by
  rw [List.getD_eq_getElem?_getD, List.getD_eq_getElem?_getD, List.getElem?_append_left h]
theorem getD_snoc_eq {α : Type} {l : List α} {a d : α} {i : Nat} (h : i = l.length) : (l ++ [a]).getD i d = a := by
  subst h
  rw [List.getD_eq_getElem?_getD, List.getElem?_append_right (Nat.le_refl _)]
  simp
theorem rowsOk.init {rs : List (List Nat)} {r : List Nat} (h : rowsOk (rs ++ [r])) : rowsOk rs := by
  have := h.take rs.length
  simpa using this
theorem rowsOk.at_ {rs : List (List Nat)} (h : rowsOk rs) {i : Nat} (hi : i < rs.length) : (rs.getD i []).Pairwise (· < ·) ∧ ∀ k ∈ rs.getD i [], k < i :=
  h.asc i _ (by rw [List.getD_eq_getElem?_getD, List.getElem?_eq_getElem hi]; rfl)
theorem bens_at {rs : List (List Nat)} : rowsOk rs → ∀ {i : Nat}, i < rs.length → (bensF rs).getD i [] = ascN (rs.getD i [] ++ ((rs.getD i []).map fun k => (bensF rs).getD k []).flatten) := by
  induction rs using snoc_ind with
  | h0 => intro _ i h; cases h
  | h1 rs r ih =>
    intro ok i hi
    rw [bensF_snoc]
    have hl := bensF_len rs
    rw [List.length_append] at hi
    have hi : i < rs.length + 1 := hi
    rcases Nat.lt_or_eq_of_le (Nat.le_of_lt_succ hi) with h | h
    · rw [getD_snoc_lt (by omega), getD_snoc_lt h, ih ok.init h]
      congr 3
      refine List.map_congr_left fun k hk => ?_
      have := (ok.init.at_ h).2 k hk
      rw [getD_snoc_lt (by omega)]
    · rw [getD_snoc_eq (by omega), getD_snoc_eq h]
      congr 3
      refine List.map_congr_left fun k hk => ?_
      have := (ok.asc rs.length r (by simp)).2 k hk
      rw [getD_snoc_lt (by omega)]
theorem bens_mem {rs : List (List Nat)} (ok : rowsOk rs) {i x : Nat} (hi : i < rs.length) : x ∈ (bensF rs).getD i [] ↔ x ∈ rs.getD i [] ∨ ∃ k ∈ rs.getD i [], x ∈ (bensF rs).getD k [] := by
  rw [bens_at ok hi, mem_ascN, List.mem_append, List.mem_flatten]
  refine or_congr Iff.rfl ⟨fun ⟨l, h1, h2⟩ => ?_, fun ⟨k, h1, h2⟩ => ⟨_, List.mem_map.mpr ⟨k, h1, rfl⟩, h2⟩⟩
  obtain ⟨k, h3, rfl⟩ := List.mem_map.mp h1
  exact ⟨k, h3, h2⟩
theorem bens_lt {rs : List (List Nat)} (ok : rowsOk rs) {i x : Nat} (hi : i < rs.length) (h : x ∈ (bensF rs).getD i []) : x < i :=
  bensF_low ok i _ (by rw [List.getD_eq_getElem?_getD, List.getElem?_eq_getElem (by rw [bensF_len]; exact hi)]; rfl) x h
theorem bens_trans {rs : List (List Nat)} (ok : rowsOk rs) {x k : Nat} : ∀ (i : Nat), i < rs.length → k ∈ (bensF rs).getD i [] → x ∈ (bensF rs).getD k [] → x ∈ (bensF rs).getD i [] := by
  intro i
  induction i using Nat.strongRecOn with
  | ind i ih =>
    intro hi h hx
    rcases (bens_mem ok hi).mp h with h1 | ⟨q, h1, h2⟩
    · exact (bens_mem ok hi).mpr (.inr ⟨k, h1, hx⟩)
    · have hq := (ok.at_ hi).2 q h1
      exact (bens_mem ok hi).mpr (.inr ⟨q, h1, ih q hq (by omega) h2 hx⟩)
theorem bens_row {rs : List (List Nat)} (ok : rowsOk rs) {i x k : Nat} (hi : i < rs.length) (h : k ∈ (bensF rs).getD i []) (hx : x ∈ rs.getD k []) : x ∈ (bensF rs).getD i [] := by
  have := bens_lt ok hi h
  exact bens_trans ok i hi h ((bens_mem ok (by omega)).mpr (.inl hx))
/-- the ways, gone one by one -/
structure WW (rs : List (List Nat)) (i : Nat) (met wait : List Nat) : Prop where
  nd : met.Nodup
  ms : ∀ x ∈ met, x ∈ (bensF rs).getD i []
  ws : ∀ x ∈ wait, x ∈ (bensF rs).getD i []
  top : ∀ k ∈ rs.getD i [], k ∈ met ∨ k ∈ wait
  cl : ∀ m ∈ met, ∀ k ∈ rs.getD m [], k ∈ met ∨ k ∈ wait
theorem WW.start {rs : List (List Nat)} (ok : rowsOk rs) {i : Nat} (hi : i < rs.length) : WW rs i [] (rs.getD i []) :=
  ⟨List.nodup_nil, by simp, fun x hx => (bens_mem ok hi).mpr (.inl hx), fun k hk => .inr hk, by simp⟩
theorem WW.new {rs : List (List Nat)} (ok : rowsOk rs) {i k : Nat} {met wait : List Nat} (hi : i < rs.length) (w : WW rs i met (wait ++ [k])) (h : k ∉ met) : WW rs i (met ++ [k]) (wait ++ rs.getD k []) := by
  have hk := w.ws k (by simp)
  have mv : ∀ x, x ∈ met ∨ x ∈ wait ++ [k] → x ∈ met ++ [k] ∨ x ∈ wait ++ rs.getD k [] := fun x hx => by
    simp only [List.mem_append, List.mem_singleton] at hx ⊢
    rcases hx with h | h | h
    · exact .inl (.inl h)
    · exact .inr (.inl h)
    · exact .inl (.inr h)
  refine ⟨?_, fun x hx => ?_, fun x hx => ?_, fun x hx => mv x (w.top x hx), fun m hm x hx => ?_⟩
  · rw [List.nodup_append]
    refine ⟨w.nd, by simp, fun a ha b hb e => ?_⟩
    rw [List.mem_singleton] at hb
    subst hb e
    exact h ha
  · rcases List.mem_append.mp hx with h1 | h1
    · exact w.ms x h1
    · rw [List.mem_singleton] at h1
      exact h1 ▸ hk
  · rcases List.mem_append.mp hx with h1 | h1
    · exact w.ws x (by simp [h1])
    · exact bens_row ok hi hk h1
  · rcases List.mem_append.mp hm with h1 | h1
    · exact mv x (w.cl m h1 x hx)
    · rw [List.mem_singleton] at h1
      subst h1
      exact .inr (List.mem_append_right _ hx)
theorem WW.few {rs : List (List Nat)} (ok : rowsOk rs) {i : Nat} {met wait : List Nat} (hi : i < rs.length) (w : WW rs i met wait) : met.length ≤ i :=
  low_len w.nd fun x hx => bens_lt ok hi (w.ms x hx)
theorem rowsOk.nil : rowsOk [] := ⟨fun i r h => by simp at h, by simp⟩
theorem rowsOk.snoc {rs : List (List Nat)} {r : List Nat} (h : rowsOk rs) (h1 : r.Pairwise (· < ·)) (h2 : ∀ k ∈ r, k < rs.length) (hl : rs.length < 63) : rowsOk (rs ++ [r]) := by
  refine ⟨fun i q hq => ?_, by simp; omega⟩
  by_cases hi : i < rs.length
  · rw [List.getElem?_append_left hi] at hq
    exact h.asc i q hq
  · rw [List.getElem?_append_right (by omega)] at hq
    have e : i - rs.length = 0 := by
      have := (List.getElem?_eq_some_iff.mp hq).1
      simp at this
      omega
    rw [e] at hq
    have hq : some r = some q := hq
    cases hq
    have e : i = rs.length := by omega
    subst e
    exact ⟨h1, h2⟩
theorem asc_few {p : Str} (hp : letters p) : (ascN (lets p)).length ≤ 100 := by
  have h1 := (asc_ascN (lets p)).imp (S := (· ≠ ·)) fun h => Nat.ne_of_lt h
  have h2 := List.Nodup.length_le_of_subset (l₁ := (ascN (lets p)).map (· - 30)) (l₂ := List.range 100) ?_ fun x hx => ?_
  · rw [List.length_range, List.length_map] at h2
    exact h2
  · rw [List.Nodup, List.pairwise_map]
    refine h1.imp_of_mem fun {a b} ha hb h => ?_
    have := hp a (mem_ascN.mp ha)
    have := hp b (mem_ascN.mp hb)
    omega
  · obtain ⟨c, hc, rfl⟩ := List.mem_map.mp hx
    have := hp c (mem_ascN.mp hc)
    rw [List.mem_range]
    omega
theorem letsN_len {p : Str} (hp : letters p) (nd : (lets p).Nodup) : (lets p).length ≤ 100 := by
  have h2 := List.Nodup.length_le_of_subset nd (l₂ := ascN (lets p)) fun x hx => mem_ascN.mpr hx
  exact Nat.le_trans h2 (asc_few hp)
theorem sg_sum : ∀ m : List Nat, ((m.map sg).map (·.length)).sum = m.length
  | [] => rfl
  | c :: m => by
    have := sg_sum m
    simp only [List.map_cons, List.sum_cons, List.length_cons]
    rw [this]
    show 1 + _ = _
    omega
theorem ixN_nat {n k : Nat} (h : k < n) : L2.ixN n ((k : Nat) : Int) = some k := by
  unfold L2.ixN
  rw [if_pos (by omega), if_pos (by omega)]
  simp
def rowP (r : List Nat) : PyData := .tuple (r.map fun k => .int (k : Nat))
theorem pd_row (r : List Nat) : (rowD r).pd = some (rowP r) := pd_tup (pdL_map _ _ (fun _ => rfl) r)
theorem rowP_ok {r : List Nat} (hl : r.length ≤ 63) (h : ∀ k ∈ r, k < 64) : Ok1 1 600 (rowP r) :=
  (ok_tup (k := 0) (n := 8) (fun d hd => by
    obtain ⟨k, hk, rfl⟩ := List.mem_map.mp hd
    have := h k hk
    exact ok_int (by omega) (by omega))).up (Nat.le_refl _) (by rw [List.length_map]; omega)
theorem eqself {α : Type} {x : α} {i : Decidable (x = x)} : (@decide (x = x) i) = true := by
  cases i with
  | isTrue h => rfl
  | isFalse h => exact absurd rfl h
def S_web (Dk : Deck) : FS := fun ds W post => ∃ (a : Addr) (c : Int) (p : Str) (n : Nat), ds = [.adr a, .str p, natD n] ∧ Dk a c W ∧ 0 < n ∧ n ≤ 40 ∧ letters p ∧ (lets p).Nodup ∧ c + 10000 < 2 ^ 59 ∧
  ∀ (w : Wb) (W' : Om), w.ok → w.below.length ≤ n → (∀ s ∈ w.atoms, ∀ q ∈ lets s, q ∈ lets p) → Dk a (c + 10000) W' → post (.tup [rowsD w.below, atomsD w.atoms]) W'
end N
set_option Elab.async false
set_option linter.all false
set_option maxRecDepth 100000
namespace N
open PySem PySem.Spec PyProof.Rows L2
theorem pi_zipT {X : Cx} {e e2 : Expr} {ta tk : TA} {p pos tpos : Pos} {elts : List Expr} {kk : Nat} {kws : List Keyword} (hg : Gl X "zip") (hm : X.mg "zip" = none) (ha : PA X [e, e2] ta) (hk : PK X kws tk)
    (hall : (backToKw pos (keywordEach kws X.env)).all (·.1.isSome) = true := by rfl) (hks : (backToKw pos (keywordEach kws X.env)).filterMap (·.1) = [Str.ofString "strict"] := by rfl)
    (hs : starEach [e, e2] X.env = (false, eval e X.env) :: starEach [e2] X.env := by rfl)
    (hpl : ((backTo pos (starEach [e, e2] X.env)).any (·.1) || (backToKw pos (keywordEach kws X.env)).any (·.1.isNone)) = false := by rfl) :
    PI X (.Tuple elts kk tpos) (.Call (.Name "zip" p) [e, e2] kws pos) (iZipS X.K ta tk) := pi_zipS hg hm ha hk hall hks hs hpl
section
variable {X : Cx} {K : PySem.W.Frag}
theorem op_eqDK (hK : X.K = K) (hu : X.A.units + 64 < cLine) : OpR X (compareOp .Eq) (rEqD K) := hK ▸ op_eqD hu
end
end N
set_option Elab.async false
set_option linter.all false
set_option maxRecDepth 100000
set_option maxHeartbeats 4000000
namespace N
open PySem PySem.Spec PyProof.Rows L2
section
variable {prog : Program} {w : World} {A : Around} {E : Value → Shared → Prop} {s : Shared} {K : PySem.W.Frag} {x C L f : Addr} {h₀ : Heap} {m : Str → Option Value} {ox : Obj} {od : Option Obj} {name nm : Str} {b tb : Value}
theorem ifBound_S {M : Model} {T id : String} {args : List Value} {Q : Option Value → Shared → Prop} (X : K.In s.heap) (I : PySem.W.InstAt s.heap x ox C od) (hs : PySem.W.findIn K (.ref C) name = some (some (.builtin id))) (S : Slot T nm id)
    (h : wpAny M A (call (.builtin id) (.ref x :: args)) (fun v => Q (some v)) E s) : wpAny M A (callSpecialIfBound? (.ref x) name args) Q E s := by
  simp only [callSpecialIfBound?, bindSpecialIfBound?]
  refine wpAny_holding (wpAny_bind (wpAny_bind (wpAny_bind (I.type.here ((PySem.W.looks_findIn X hs).here ?_)))))
  simp only [S.bind]
  refine wpAny_bind (wpAny_askSetting (wpAny_ite ?_))
  have fin : wpAny M A (call (.builtin id) ([.ref x] ++ args) >>= fun v => pure (some v)) Q E s := wpAny_bind (wpAny_mono h (fun v s' h' => wpAny_pure h') fun _ _ h' => h')
  split
  · exact wpAny_bind (wpAny_pure (wpAny_pure fin))
  · exact wpAny_tryCatch (wpAny_bind (wpAny_pure (wpAny_pure fin)))
theorem inst_object (X : K.In s.heap) (I : PySem.W.InstAt s.heap x ox C od) (hm : PySem.W.mroIn K C (.type "object") = some true) {M : Model} : PySem.W.Looks M s.heap (isInstance (.ref x) (.type "object")) true :=
  I.type.andThen (PySem.W.looks_mroIn X hm)
theorem cmp_ne {Q : Value → Shared → Prop} (hu : A.units + 1 < cLine) (X : K.In s.heap) (I : PySem.W.InstAt s.heap x ox C od) (hb : PySem.W.Looks (model prog w) s.heap (typeOf b) tb) (hn : PySem.W.notFirst K C tb = true)
    (hs : PySem.W.findIn K (.ref C) "__ne__" = some (some (.builtin "object.__ne__"))) (hq : PySem.W.findIn K (.ref C) "__eq__" = some (some (.ref f))) (hf : PySem.W.isFn K (.ref f) = true) (hm : PySem.W.mroIn K C (.type "object") = some true)
    (h : wpAny (model prog w) A.in1 (call (.ref f) [.ref x, b]) (fun v s' => ∃ k, v = .bool k ∧ Q (.bool (!k)) s') E s) : wpAny (model prog w) A (richCompare .NotEq (.ref x) b) Q E s := by
  have one : wpAny (model prog w) A (tryCompare (.ref x) (cmpInfo .NotEq).2.1 b) (fun r s' => ∃ v, r = some v ∧ Q v s') E s := by
    unfold tryCompare
    refine wpAny_bind (ifBound_S X I hs F.slot_object_ne (wpAny_call (codeAny_call_builtin F.slot_object_ne.plain F.cmpEntry_ne
      (PySem.W.check_slot F.cmpKind_ne F.cmpSplit_ne (inst_object X I hm) (F.cmpArgs_ne _ _) ?_))))
    unfold Builtin.«object.__ne__»
    repeat (first | with_reducible refine wpAny_cRoomFor hu ?_ | with_reducible refine PySem.W.ifBound_K X I hq hf (wpAny_mono h (fun v s' hv => ?_) fun _ _ e => e) | wp_step)
    obtain ⟨k, rfl, q⟩ := hv
    repeat wp_step
    exact ⟨_, rfl, q⟩
  unfold richCompare
  simp only [oneThing_ref]
  refine wpAny_holding (wpAny_bind (wpAny_cRoomFor (Nat.lt_of_succ_lt hu) ?_))
  refine wpAny_bind (I.type.here (wpAny_bind (hb.here ?_)))
  split
  · rename_i q
    have e : PySem.W.subIn K tb (.ref C) = some false := by
      rcases Bool.or_eq_true_iff.mp hn with e | e
      · rw [beq_iff_eq.mp e] at q; simp at q
      · exact beq_iff_eq.mp e
    refine wpAny_bind ((PySem.W.looks_subIn X e).here ?_)
    simp only [Bool.false_eq_true, if_false]
    refine wpAny_bind (wpAny_mono one (fun r s' z => ?_) fun _ _ e => e)
    obtain ⟨v, rfl, hq⟩ := z
    exact wpAny_pure hq
  · refine wpAny_bind (wpAny_pure ?_)
    simp only [Bool.false_eq_true, if_false]
    refine wpAny_bind (wpAny_mono one (fun r s' z => ?_) fun _ _ e => e)
    obtain ⟨v, rfl, hq⟩ := z
    exact wpAny_pure hq
end
section
variable {X : Cx} {CX : CXT} {k : Nat} {f C : Addr} {fd : FuncData} {ps : List Str} {sp : Sp} {E : XK}
theorem notFirst_self {K : PySem.W.Frag} {C : Addr} : PySem.W.notFirst K C (.ref C) = true := by
  unfold PySem.W.notFirst
  simp
/-- x == y by the own __eq__ -/
theorem op_eqO (F : FnOk X.prog X.w X.K X.mg X.base CX k f fd ps sp) (hr : Room k X.A) (o : Own2 X.K C "__eq__" f) (hb : Binds X.K fd ps []) (hx : Passes CX X E) : OpR X (compareOp .Eq) (rOwn2 C (fun vs H Q E => sp vs H (fun v H' => (∃ b, v = .bl b) ∧ Q v H') E) E) := by
  intro pins s σ H x y v u Q I rx ry hq
  obtain ⟨a, b, dx, dy, fs, gs, rfl, rfl, ha, hb', q⟩ := hq
  cases rx
  cases ry
  obtain ⟨od, J⟩ := inst_of I ha
  obtain ⟨od', J'⟩ := inst_of I hb'
  obtain ⟨m, hF⟩ := I.fr
  show wpAny _ _ (richCompare .Eq (.ref a) (.ref b)) _ _ _
  refine PySem.W.cmp_K (op := .Eq) (tb := .ref C) hr.units0 hF I.ok.mod.kin J J'.type notFirst_self o.at_ o.fn ?_
  refine wpAny_mono (run_fn (us := [.ref a, .ref b]) (vs := [.ref a, .ref b]) F hr hb .nil hx I (.cons rfl (.cons rfl .nil)) (by exact q)) (fun w s' z => ?_) fun _ _ x => x
  obtain ⟨z', H', I', rz, ⟨b, rfl⟩, qz⟩ := z
  exact SlX.cmpback rz ⟨.bl b, H', I', rz, qz⟩
/-- x != y by the own __eq__ -/
def rNeO (C : Addr) (sp : Sp) (E : XK) : R2 := rOwn2 C (fun vs H Q E => sp vs H (fun v H' => ∃ b, v = .bl b ∧ Q (.bl (!b)) H') E) E
theorem op_neO (F : FnOk X.prog X.w X.K X.mg X.base CX k f fd ps sp) (hr : Room (k + 1) X.A) (o : Own2 X.K C "__eq__" f) (hs : PySem.W.findIn X.K (.ref C) "__ne__" = some (some (.builtin "object.__ne__"))) (hm : PySem.W.mroIn X.K C (.type "object") = some true) (hb : Binds X.K fd ps []) (hx : Passes CX X E) : OpR X (compareOp .NotEq) (rNeO C sp E) := by
  intro pins s σ H x y v u Q I rx ry hq
  obtain ⟨a, b, dx, dy, fs, gs, rfl, rfl, ha, hb', q⟩ := hq
  cases rx
  cases ry
  obtain ⟨od, J⟩ := inst_of I ha
  obtain ⟨od', J'⟩ := inst_of I hb'
  show wpAny _ _ (richCompare .NotEq (.ref a) (.ref b)) _ _ _
  refine cmp_ne (tb := .ref C) ?_ I.kIn J J'.type notFirst_self hs o.at_ o.fn hm ?_
  · exact hr.in1.units0
  · refine thn (run_at F hr.in1 rfl hb hx I (vs := [V.ref a, V.ref b]) (.cons rfl (.cons rfl .nil)) q) fun v s' h => ?_
    obtain ⟨z, H', I', rz, b, rfl, qz⟩ := h
    cases rz
    exact ⟨b, rfl, .bl (!b), H', I', rfl, qz⟩
/-- the class has no own __ne__ -/
structure NeC (K : PySem.W.Frag) (C : Addr) : Prop where
  ne : PySem.W.findIn K (.ref C) "__ne__" = some (some (.builtin "object.__ne__"))
  ob : PySem.W.mroIn K C (.type "object") = some true
def rEqO (C : Addr) (sp : Sp) (E : XK) : R2 := rOwn2 C (fun vs H Q E => sp vs H (fun v H' => (∃ b, v = .bl b) ∧ Q v H') E) E
theorem op_eq_opn {j : Nat} (o : Opn X.prog X.w X.K X.mg X.base k C "__eq__" sp) (hr : Room j X.A) (hk : k ≤ j) : OpR X (compareOp .Eq) (rEqO C sp E0) := by
  obtain ⟨f, fd, ps, o2, h, b⟩ := o.ex
  exact op_eqO h (hr.mono hk) o2 b pass0
theorem op_ne_opn {j : Nat} (o : Opn X.prog X.w X.K X.mg X.base k C "__eq__" sp) (y : NeC X.K C) (hr : Room j X.A) (hk : k + 1 ≤ j) : OpR X (compareOp .NotEq) (rNeO C sp E0) := by
  obtain ⟨f, fd, ps, o2, h, b⟩ := o.ex
  exact op_neO h (hr.mono hk) o2 y.ne y.ob b pass0
end
section
variable {F : FmKit} {T : Kx} {C H H' O O' : Hp} {G : Gm} {W W' : Om} {R : D → Om → Prop} {S : FS} {c : Nat}
theorem bo_eqO {d e : D} {ns ms : List Str} {l m : List D} (i1 : Inst F W d c ns l) (i2 : Inst F W e c ms m) (h : Hand S [d, e] W fun d' W' => (∃ b, d' = .bl b) ∧ R d' W') : Bo F T (rEqO (T.cl c) (spN F T S) E0) d e W R := fun C H O di oc ow x y hx hy Q q => by
  obtain ⟨a, dx, fs, ex, ha, _⟩ := i1.at di ow hx
  obtain ⟨b, dy, gs, ey, hb, _⟩ := i2.at di ow hy
  refine ⟨a, b, dx, dy, fs, gs, ex, ey, ha, hb, h.run di oc ow ⟨x, _, rfl, hx, .one hy⟩ fun d' W' H' O' v ⟨⟨z, e⟩, r⟩ n k => ?_⟩
  subst e
  exact ⟨⟨z, k⟩, q _ W' H' O' v r n k⟩
theorem bo_neO {d e : D} {ns ms : List Str} {l m : List D} (i1 : Inst F W d c ns l) (i2 : Inst F W e c ms m) (h : Hand S [d, e] W fun d' W' => ∃ b, d' = .bl b ∧ R (.bl (!b)) W') : Bo F T (rNeO (T.cl c) (spN F T S) E0) d e W R := fun C H O di oc ow x y hx hy Q q => by
  obtain ⟨a, dx, fs, ex, ha, _⟩ := i1.at di ow hx
  obtain ⟨b, dy, gs, ey, hb, _⟩ := i2.at di ow hy
  refine ⟨a, b, dx, dy, fs, gs, ex, ey, ha, hb, h.run di oc ow ⟨x, _, rfl, hx, .one hy⟩ fun d' W' H' O' v ⟨z, e, r⟩ n k => ?_⟩
  subst e
  exact ⟨z, k, q _ W' H' O' _ r n rfl⟩
end
end N
set_option Elab.async false
set_option linter.all false
set_option maxRecDepth 100000
namespace N
open PySem PySem.Spec PyProof.Rows L2
theorem okF10 {k : Nat} {f : Fm} (h : f.okL) (ht : f.ht ≤ 12) (hf : Fm.few k f) (hk : k ≤ 63) : f.okF := by
  refine ⟨h, ?_, Nat.lt_of_le_of_lt (hf.len h) (by omega)⟩
  have h1 := Fm.sz_ht f
  have h2 : 2 ^ f.ht ≤ 2 ^ 12 := Nat.pow_le_pow_right (by omega) ht
  have e : (2 : Nat) ^ 12 = 4096 := by decide
  omega
/-- drawn formulas -/
structure sm10 (f : Fm) : Prop where
  ok : f.okL
  ht : f.ht ≤ 5
theorem sm10.few {f : Fm} (h : sm10 f) : Fm.few 31 f := (Fm.few_ht f).up (by
  have : (2 : Nat) ^ f.ht ≤ 2 ^ 5 := Nat.pow_le_pow_right (by omega) h.ht
  omega)
theorem sm10.okF {f : Fm} (h : sm10 f) : f.okF := okF10 h.ok (Nat.le_trans h.ht (by decide)) h.few (by decide)
theorem sm10.imp {f g : Fm} (h : sm10 f) (k : sm10 g) : (Fm.imp f g).okF := okF10 ⟨h.ok, k.ok⟩ (by have := h.ht; have := k.ht; simp only [Fm.ht]; omega) (h.few.imp k.few) (by decide)
theorem sm10.all {f g : Fm} (h : sm10 f) (k : sm10 g) : (Fm.all (.imp f g)).okF :=
  okF10 (show (Fm.all (.imp f g)).okL from ⟨h.ok, k.ok⟩) (by have := h.ht; have := k.ht; simp only [Fm.ht]; omega) (h.few.imp k.few).all (by decide)
theorem pd_rows (rs : List (List Nat)) : (rowsD rs).pd = some (.tuple (rs.map rowP)) := pd_tup (pdL_map _ _ pd_row rs)
theorem pd_atoms (l : List Str) : (atomsD l).pd = some (.tuple (l.map .str)) := pd_tup (pdL_map _ _ (fun _ => rfl) l)
theorem rowsP_ok {rs : List (List Nat)} (h : rowsOk rs) : Ok1 2 37864 (.tuple (rs.map rowP)) :=
  (ok_tup (k := 1) (n := 600) (fun d hd => by
    obtain ⟨r, hr, rfl⟩ := List.mem_map.mp hd
    obtain ⟨i, hi, e⟩ := List.getElem_of_mem hr
    obtain ⟨h1, h2⟩ := h.asc i r (by rw [List.getElem?_eq_getElem hi, e])
    have hf := h.few
    exact rowP_ok (by have := low_len (h1.imp fun h => Nat.ne_of_lt h) h2; omega) (fun k hk => by have := h2 k hk; omega))).up (Nat.le_refl _) (by rw [List.length_map]; have := h.few; omega)
theorem atomsP_ok {w : Wb} (h : w.ok) : Ok1 1 6500 (.tuple (w.atoms.map .str)) :=
  (ok_tup (k := 0) (n := 100) (fun d hd => by
    obtain ⟨s, hs, rfl⟩ := List.mem_map.mp hd
    obtain ⟨h1, h2⟩ := h.lets s hs
    exact (ok_str fun c hc => by have := h1 c hc; omega).up (Nat.le_refl _) (letters_len h1 h2))).up (Nat.le_refl _) (by rw [List.length_map]; have := h.rows.few; have := h.len; omega)
end N
set_option Elab.async false
set_option linter.all false
set_option maxRecDepth 100000
namespace N
open PySem PySem.Spec PyProof.Rows L2
/-- the place of a number in a list -/
def idxL : List Nat → Nat → Nat
  | [], _ => 0
  | a :: l, x => if a = x then 0 else idxL l x + 1
/-- a point and all beneath it -/
def keptL (w : Wb) (k : Nat) : List Nat := (bensF w.below).getD k [] ++ [k]
def Wb.cut (w : Wb) (k : Nat) : Wb := ⟨(keptL w k).map fun o => (w.below.getD o []).map (idxL (keptL w k)), (keptL w k).map fun o => w.atoms.getD o ""⟩
def Wb.top (w : Wb) (s : Str) (r : List Nat) : Wb := ⟨w.below ++ [r], w.atoms ++ [s]⟩
def Wb.join (w u : Wb) : Wb := ⟨w.below ++ u.below.map fun r => r.map (w.below.length + ·), w.atoms ++ u.atoms⟩
theorem canLay_allD : ∀ {l : List PyData}, (∀ d ∈ l, d.canLay0 = true) → PyData.canLayAll0 l = true
  | [], _ => rfl
  | d :: l, h => by
    rw [PyData.canLayAll0, h d List.mem_cons_self, canLay_allD fun x hx => h x (List.mem_cons_of_mem _ hx)]
    rfl
theorem canLay_row (r : List Nat) : (rowP r).canLay0 = true := by
  unfold rowP
  rw [PyData.canLay0]
  exact canLay_allD fun d hd => by
    obtain ⟨k, _, rfl⟩ := List.mem_map.mp hd
    rfl
theorem shaped_rows {rs : List (List Nat)} (h : rowsOk rs) : SeqAt.shaped (.tuple (rs.map rowP)) = true := by
  unfold SeqAt.shaped
  rw [Bool.and_eq_true, decide_eq_true_eq]
  refine ⟨?_, Nat.le_trans (rowsP_ok h).dp (by decide)⟩
  rw [PyData.canLay0]
  exact canLay_allD fun d hd => by
    obtain ⟨r, _, rfl⟩ := List.mem_map.mp hd
    exact canLay_row r
theorem strOk_letters {s : Str} (h : letters s) : PyData.strOk s = true := by
  unfold PyData.strOk
  simp only [Array.all_eq_true, decide_eq_true_eq]
  intro i hi
  have := h s.cps[i] (by simp [lets])
  omega
theorem shaped_atoms {w : Wb} (h : w.ok) : SeqAt.shaped (.tuple (w.atoms.map .str)) = true := by
  unfold SeqAt.shaped
  rw [Bool.and_eq_true, decide_eq_true_eq]
  refine ⟨?_, Nat.le_trans (atomsP_ok h).dp (by decide)⟩
  rw [PyData.canLay0]
  exact canLay_allD fun d hd => by
    obtain ⟨s, hs, rfl⟩ := List.mem_map.mp hd
    rw [PyData.canLay0]
    exact strOk_letters (h.lets s hs).1
end N
set_option Elab.async false
set_option linter.all false
set_option maxRecDepth 100000
set_option Elab.async false
set_option linter.all false
set_option maxRecDepth 100000
set_option maxHeartbeats 1000000
set_option Elab.async false
set_option linter.all false
set_option maxRecDepth 100000
set_option maxHeartbeats 1000000
namespace N
open PySem PySem.Spec PyProof.Rows L2
open C8 (Cal Met Mak InsC pe_c pe_mt pe_mt0 pe_mk)
abbrev tx (f : Fm) : List Nat := lets f.spell
inductive ItP where
  | al | l (b : Fm) | r (a : Fm)
def wt : Fm → Nat
  | .at _ => 1
  | .no => 1
  | .imp a b => 3 + wt a + wt b
  | .all a => 2 + wt a
def wk : List ItP → Nat
  | [] => 0
  | .al :: K => 1 + wk K
  | .l b :: K => 2 + wt b + wk K
  | .r _ :: K => 1 + wk K
end N
set_option Elab.async false
set_option linter.all false
set_option maxRecDepth 100000
set_option maxHeartbeats 4000000
namespace XE
open PySem PySem.W PySem.Calls PyProof.Rows
abbrev exTail : List Value := [.type "Exception", .type "BaseException", .type "object"]
/-- own classes, then Exception's mro -/
def refsX : List Value → Bool
  | .ref _ :: r => refsX r
  | l => l == exTail
theorem refsX_cases : ∀ l : List Value, refsX l = true → (∃ c r, l = .ref c :: r ∧ refsX r = true) ∨ l = exTail
  | [], e => .inr (beq_iff_eq.mp e)
  | .ref c :: r, e => .inl ⟨c, r, rfl, e⟩
  | .none :: _, e => .inr (beq_iff_eq.mp e)
  | .ellipsis :: _, e => .inr (beq_iff_eq.mp e)
  | .notImplemented :: _, e => .inr (beq_iff_eq.mp e)
  | .bool _ :: _, e => .inr (beq_iff_eq.mp e)
  | .int _ _ :: _, e => .inr (beq_iff_eq.mp e)
  | .float _ _ :: _, e => .inr (beq_iff_eq.mp e)
  | .str _ _ :: _, e => .inr (beq_iff_eq.mp e)
  | .bytes _ _ :: _, e => .inr (beq_iff_eq.mp e)
  | .type _ :: _, e => .inr (beq_iff_eq.mp e)
  | .builtin _ :: _, e => .inr (beq_iff_eq.mp e)
theorem refsX_pass (self : Value) : ∀ l : List Value, refsX l = true → refuseLoop self "__setattr__" l = pure () := by
  intro l
  induction l with
  | nil => intro e; exact absurd e (by decide)
  | cons a r ih =>
    intro e
    rcases refsX_cases (a :: r) e with ⟨c, r', q, h⟩ | q
    · obtain ⟨rfl, rfl⟩ := List.cons.inj q
      rw [refuseLoop_ref]; exact ih h
    · rw [q]; exact F.store_Exception.passes self
theorem refsX_contains (X : String) : ∀ l : List Value, refsX l = true → l.contains (.type X) = exTail.contains (.type X) := by
  intro l
  induction l with
  | nil => intro e; exact absurd e (by decide)
  | cons a r ih =>
    intro e
    rcases refsX_cases (a :: r) e with ⟨c, r', q, h⟩ | q
    · obtain ⟨rfl, rfl⟩ := List.cons.inj q
      rw [List.contains_cons, ih h]; rfl
    · rw [q]
theorem refsX_ne {l : List Value} (e : refsX l = true) : l.isEmpty = false := by
  cases l with
  | nil => exact absurd e (by decide)
  | cons _ _ => rfl
section
open Builtin Builtin.ObjectAttr
variable {prog : Program} {w : World} {A : Around} {E : Value → Shared → Prop} {R : Result → Shared → Prop} {hp : Heap} {g : Array GenState} {d : Drawn} {t : Nat} {os : OsState}
theorem osa_base {K : W.Frag} {name : Str} {tk : Tok} {v : Value} {x C : Addr} {ox : Obj} {od : Option Obj} {cd : ClassData}
    (X : K.In hp) (I : W.InstAt hp x ox C od) (hcd : W.clsIn K C = some cd) (hm : refsX cd.mro = true) (ha : W.findIn K (.ref C) name = some none)
    (hq : wpAny (model prog w) A.in1 (storeInOwnDict (.ref x) (.ref C) (.str name tk) name v false)
      (fun fin s' => match fin with | .done f => R (.ok f) s' | .again c' => c'.quiet = true ∧ codeAny (model prog w) A c' R s') (fun e s' => R (.error e) s') ⟨hp, g, d, t, os⟩) :
    codeAny (model prog w) A (.call (.builtin "object.__setattr__") ⟨[.ref x, .str name tk, v], []⟩) R ⟨hp, g, d, t, os⟩ := by
  have SF := F.store_object
  have ne := refsX_ne hm
  have hob : cd.mro.contains (.type "object") = true := (refsX_contains "object" _ hm).trans (by decide +kernel)
  have sub : W.Looks (model prog w) hp (isInstance (.ref x) (.type "object")) true := I.type.andThen (W.looks_mroIn X (by unfold W.mroIn; rw [hcd, Option.bind_some, if_neg (by rw [ne]; decide), hob]))
  refine codeAny_call_builtin SF.slot.plain SF.entry (@W.check_slot (model prog w) _ _ ⟨hp, g, d, t, os⟩ "object.__setattr__" "object" "__setattr__" (.ref x) [.str name tk, v] [] _ SF.kind SF.split sub (SF.args (.ref x) (.str name tk) v) ?_)
  have hmr : W.Looks (model prog w) hp (mroOf (.ref C)) cd.mro := (W.looks_clsIn X hcd).andThen .now
  have L3 : W.Looks (model prog w) hp (storeTaker? none) none := .now
  rw [W.osa_eq, refuse_eq]
  refine wpAny_bind (wpAny_bind (I.type.at (wpAny_bind (hmr.at ?_))))
  rw [refsX_pass _ _ hm]
  refine wpAny_pure (wpAny_bind (I.type.at (wpAny_bind ((W.looks_findIn X ha).at (wpAny_bind (L3.at ?_))))))
  exact hq
theorem osa_new {K : W.Frag} {name : Str} {tk : Tok} {v : Value} {x C : Addr} {fv : Array Value} {cd : ClassData}
    (X : K.In hp) (hx : hp.get? x = some { cls := .ref C, data := .fields fv }) (hcd : W.clsIn K C = some cd) (hm : refsX cd.mro = true) (hh : cd.hasDict = true) (ha : W.findIn K (.ref C) name = some none)
    (hq : ∀ h' tk' dx, (∀ b o, b ≠ x → hp.get? b = some o → h'.get? b = some o) → hp.objs.size ≤ dx → dx ≠ x → h'.get? x = some { cls := .ref C, dict := some dx, data := .fields fv } →
      h'.Ns1 dx (fun y => if y = name then some v else none) → R (.ok (.ret .none)) ⟨h', g, d, tk', os⟩) :
    codeAny (model prog w) A (.call (.builtin "object.__setattr__") ⟨[.ref x, .str name tk, v], []⟩) R ⟨hp, g, d, t, os⟩ := by
  have I : W.InstAt hp x { cls := .ref C, data := .fields fv } C none := ⟨hx, rfl, rfl, trivial⟩
  have hxs : x ≠ hp.objs.size := Nat.ne_of_lt (Heap.lt_size hx)
  refine osa_base X I hcd hm ha ?_
  have hcls : W.Looks (model prog w) hp (classData C) cd := W.looks_clsIn X hcd
  obtain ⟨nm, bs, mro, ns, qn, hd, sn, sb, ab, col, del⟩ := cd
  dsimp only at hh
  subst hh
  unfold storeInOwnDict ownDictForStores
  repeat (first | with_reducible refine HandSPX.store_in_new ?_ ?_ | with_reducible refine wpAny_loadPart_at hx ?_ | with_reducible refine hcls.at ?_ | wp_step)
  · exact ⟨_, #[], _, (Heap.get?_update_ne _ _ _ _ hxs.symm).trans (Heap.get?_push_at rfl rfl), rfl, fun e he => absurd he (by simp), fun _ => rfl⟩
  · intro h' tk' hn' hs
    have hx₁ : (hp.push { cls := .type "dict", data := .dict #[] }).get? x = some { cls := .ref C, data := .fields fv } := Heap.get?_push_of_some _ hx
    refine hq h' tk' hp.objs.size (fun b o hb ho => ?_) (Nat.le_refl _) hxs.symm ?_ hn'
    · exact (hs.2 b (Nat.ne_of_lt (Heap.lt_size ho))).trans ((Heap.get?_update_ne _ _ _ _ hb).trans (Heap.get?_push_of_some _ ho))
    · exact (hs.2 x hxs).trans (Heap.get?_update_self _ hx₁ rfl)
end
end XE
namespace L2
open PySem PySem.Spec PyProof.Rows
/-- what the written part says of such a class -/
structure OexX (K : PySem.W.Frag) (C : Addr) : Prop where
  cls : ∃ nm q N bs bm sn sub ab col dd k0 k1 k2 k3 k5, K.lookup C = some (excClassObj nm q C N bs bm true sn sub ab col dd k0 k1 k2 k3 k5 "Exception.__new__") ∧ XE.refsX bm = true
  sa : PySem.W.findIn K (.ref C) "__setattr__" = some (some (.builtin "object.__setattr__"))
  exC : PySem.W.subIn K (.ref C) (.type "BaseException") = some true
  tyC : PySem.W.typeIn K (.ref C) = some (.type "type")
  kC : PySem.W.keepIn K (.ref C) = true
section
variable {X : Cx} {pins : List (Addr × Obj)} {σ : St} {H : Hp} {s : Shared} {a C dx : Addr} {f : Str} {y : V} {u : Value} {fs : List (Str × V)} {Q : Unit → Shared → Prop} {E : Value → Shared → Prop} {A : Around}
/-- self.f = y, the first one -/
theorem ostX_new (T : OexX X.K C) (I : Inv X pins σ H s) (e : H a = some (exo a C none)) (hno : PySem.W.findIn X.K (.ref C) f = some none) (ry : RelV y u)
    (h : ∀ dx s', H dx = none → dx ≠ a → Inv X pins σ (upd (upd H dx (exd dx [(f, y)])) a (exo a C (some dx))) s' → Q () s') : wpAny (model X.prog X.w) A (setAttr (.ref a) f u) Q E s := by
  obtain ⟨nm, q, N, bs, bm, sn, sub, ab, col, dd, k0, k1, k2, k3, k5, hC, hbm⟩ := T.cls
  have hcl : PySem.W.clsIn X.K C = some { name := nm, bases := bs, mro := .ref C :: bm, ns := N, qualname := q, hasDict := true, slotNames := sn, subclasses := sub, abstract := ab, collection := col, hasDel := false } := by unfold PySem.W.clsIn; rw [hC] <;> rfl
  obtain ⟨t1, ho⟩ := exo_at I.hok e
  obtain ⟨hp, g, d, t, os⟩ := s
  refine PySem.W.set_plain I.kIn (ox := { cls := .ref C, dict := none, data := .fields #[.ref t1, .none, .none, .none, .bool false, .none] }) (od := none) ⟨ho, rfl, rfl, trivial⟩ T.sa ?_
  refine XE.osa_new I.kIn ho hcl (show XE.refsX (.ref C :: bm) = true from hbm) rfl hno (fun h' tk' dx k dn dne hx hn => ?_)
  have hnd : H dx = none := I.hok.fresh dn
  have nd : ∀ {b : Addr} {o : Obj}, hp.get? b = some o → b ≠ dx := fun {b o} q => Nat.ne_of_lt (Nat.lt_of_lt_of_le (Heap.lt_size q) dn)
  have na : ∀ {b : Addr}, H b = none → b ≠ a := fun {b} n z => by
    rw [z, e] at n
    cases n
  have Un1 : Un X.fs [] H (upd (upd H dx (exd dx [(f, y)])) a (exo a C (some dx))) hp h' := {
    keep := fun b o q n _ _ => k b o (na n) q
    slot := fun b o q n _ _ => ⟨o.slots, k b o (na n) q⟩
    free := fun b o q n _ => by rw [upd_ne (na n), upd_ne (nd q)]; exact n
    there := fun b o q _ => by
      by_cases hb : b = a
      · exact ⟨_, by rw [hb]; exact hx⟩
      · exact ⟨o, k b o hb q⟩
    tups := fun b xs q => by rw [upd_ne (at_ne e q exo_tup), upd_ne (ne_of_none q hnd)]; exact q
    frzs := fun b o v q => by rw [upd_ne (at_ne e q exo_frz), upd_ne (ne_of_none q hnd)]; exact q
    tbls := fun b ps q => ⟨#[], by rw [upd_ne (at_ne e q exo_tbl), upd_ne (ne_of_none q hnd), q]; simp⟩ }
  refine h dx _ hnd dne (I.un (t' := tk') Un1 fun b o q => ?_)
  by_cases hb : b = a
  · subst hb
    rw [upd_same] at q
    cases q
    exact exo_ok hx
  · rw [upd_ne hb] at q
    by_cases hd : b = dx
    · subst hd
      rw [upd_same] at q
      cases q
      exact exd_ok hn (relO_put (fs := []) ry fun g => True.intro)
    · rw [upd_ne hd] at q
      exact (I.hok b o q).stay (fun c v hc z => k c v (by
          rcases hc with hc | hc
          · rw [hc]
            exact hb
          · exact at_ne e hc exo_own) z)
        (fun c hc => by rw [upd_ne (at_ne e hc exo_own), upd_ne (ne_of_none hc hnd)]; exact hc) (fun c xs hc => by rw [upd_ne (at_ne e hc exo_tup), upd_ne (ne_of_none hc hnd)]; exact hc)
/-- Exception.__init__(self, ..): nothing of it is told -/
theorem oinitX_ok {us : List Value} {Q : Value → Shared → Prop} (T : OexX X.K C) (I : Inv X pins σ H s) (e : H a = some (exo a C none)) (hl : us.length ≤ sizeLine) (h : ∀ s', Inv X pins σ H s' → Q .none s') :
    wpAny (model X.prog X.w) A (call (.builtin "Exception.__init__") (.ref a :: us)) Q E s := by
  obtain ⟨nm, q, N, bs, bm, sn, sub, ab, col, dd, k0, k1, k2, k3, k5, hC, hbm⟩ := T.cls
  obtain ⟨t1, ho⟩ := exo_at I.hok e
  obtain ⟨hp, g, d, t, os⟩ := s
  refine wpAny_call (PySem.HandSPX.init_base F.excBase_Exception (fun Y => XE.refsX_contains Y bm hbm) (I.kIn _ _ hC) ho hl fun h' t2 k hx => ?_)
  have J := I.write (t' := t) (x := a) (e := a) (o := exo a C none) (by rw [e]; exact True.intro) (.inl rfl) k ⟨_, hx⟩ (exo_ok hx)
  have eu : upd H a (exo a C none) = H := by
    funext b
    by_cases hb : b = a
    · rw [hb, upd_same, e]
    · rw [upd_ne hb]
  rw [eu] at J
  exact h _ J
end
/-- B.__init__(self, ..), B an own class that takes Exception's -/
def tExI (K : PySem.W.Frag) (ta : TA) : TE := fun σ H Q => ta σ H fun vs H1 => ∃ (a C : Addr) (ws : List V), vs = .ref a :: ws ∧ ws.length ≤ 1000 ∧ OexX K C ∧ H1 a = some (exo a C none) ∧ Q .non H1
/-- self.f = e, the first field -/
def tOsx (K : PySem.W.Frag) (f : Str) (to te : TE) : TS := fun D σ H => te σ H fun y H1 => to σ H1 fun x H2 => ∃ a C : Addr, x = .ref a ∧ OexX K C ∧ PySem.W.findIn K (.ref C) f = some none ∧
  H2 a = some (exo a C none) ∧ ∀ dx, H2 dx = none → dx ≠ a → D.nx σ (upd (upd H2 dx (exd dx [(f, y)])) a (exo a C (some dx)))
/-- what is asked of the base class whose __init__ is called -/
structure BaseX (K : PySem.W.Frag) (B : Addr) : Prop where
  rd : ClX.CRead K B (.type "type")
  ini : PySem.W.findCls K (.ref B) (.type "type") "__init__" = some (.val (.builtin "Exception.__init__"))
section
variable {X : Cx} {o e : Expr} {es : List Expr} {to te : TE} {ta : TA} {f x : Str} {p p' p1 p2 pos : Pos} {B : Addr}
theorem pe_exinit {pl : Sem Bool} (T : BaseX X.K B) (hg : Gl X x) (hm : X.mg x = some (.ref B)) (ha : PA X (e :: es) ta) (hdb : (x == ("__debug__" : Str)) = false := by decide)
    (hc : eval (.Call (.Attribute (.Name x p1) "__init__" p2) (e :: es) [] pos) X.env = (do
      let ov ← eval (.Name x p1) X.env
      standAt p2.atName
      let (f, first) ← holding [ov] (getMethod ov "__init__" pl)
      callWith pos f first (backTo pos (starEach (e :: es) X.env)) (backToKw pos (keywordEach [] X.env))) := by rfl)
    (he : starEach (e :: es) X.env = (false, eval e X.env) :: starEach es X.env := by rfl) (hpl : (backTo pos (starEach es X.env)).any (·.1) = false := by rfl) :
    PE X (.Call (.Attribute (.Name x p1) "__init__" p2) (e :: es) [] pos) (tExI X.K ta) := by
  refine ⟨fun pins s σ H Q I h => ?_⟩
  refine PySem.W.methodCall_KW (ld_glob I hg hm ?_ hdb) hc
  refine PySem.W.method_cls I.kIn T.rd.ga (PySem.W.cls_value I.kIn T.rd.rd T.ini (by decide +kernel) ?_)
  show wpAny _ _ (callWith pos (Value.builtin "Exception.__init__") [] (backTo pos (starEach (e :: es) X.env)) []) _ _ _
  refine PyProof.Rows.callWith_method1 (thn (ha.run pos pins _ σ H _ (I.tok _) h) fun us s1 ⟨vs, H1, I1, r1, a, C, ws, ev, hl, T, ea, q⟩ => ?_) he hpl
  subst ev
  cases r1 with
  | @cons _ u0 _ ur ra rw' =>
    obtain rfl : u0 = Value.ref a := ra
    have hlen : ur.length ≤ sizeLine := by
      rw [← Paired.length rw', sizeLine_eq]
      omega
    exact oinitX_ok T I1 ea hlen fun s' J => ⟨.non, H1, J, rfl, q⟩
theorem ps_osx (ho : PE X o to) (he : PE X e te) (hs : swapsWith e (some (.Attribute o f p')) pos.line X.env = pure false := by rfl) : PS X (.Assign [.Attribute o f p'] e pos) (tOsx X.K f to te) := by
  refine ⟨fun pins s σ H D I h => ?_⟩
  refine plainObj_wpAny_Assign_Attribute (thn (he.run pins s σ H _ I h) fun v s1 ⟨y, H1, I1, r1, q1⟩ => thn (ho.run pins s1 σ H1 _ I1 q1) fun u s2 ⟨x, H2, I2, r2, a, C, ex, T, hno, ea, q⟩ => ?_) hs
  subst ex
  obtain rfl : u = Value.ref a := r2
  exact ostX_new T I2 ea hno r1 fun dx s' n ne J => ⟨σ, _, J, q dx n ne⟩
theorem pmk_oexX {CX : CXT} {x : Str} {C fI : Addr} {k : Nat} {fd : FuncData} {ps : List Str} {sp : Sp} {ds : List Value} {dvs : List V} (T : OexX X.K C) (iC : PySem.W.findIn X.K (.ref C) "__init__" = some (some (.ref fI))) (tI : PySem.W.typeIn X.K (.ref fI) = some (.type "function"))
    (F1 : FnOk X.prog X.w X.K X.mg X.base CX k fI fd ps sp) (hr : Room (k + 1) X.A) (hb : Binds X.K fd ps ds) (hd : Vals dvs ds) (hx : Passes CX X (fun _ _ _ => False)) (hg : Gl X x) (hm : X.mg x = some (.ref C)) (ha : PA X (e :: es) ta)
    (hdb : (x == ("__debug__" : Str)) = false := by decide) (he : starEach (e :: es) X.env = (false, eval e X.env) :: starEach es X.env := by rfl) (hpl : (backTo pos (starEach es X.env)).any (·.1) = false := by rfl) :
    PMk X (.Call (.Name x p) (e :: es) [] pos) (tMkO C sp dvs ta) := by
  intro pins s σ H Q I h
  obtain ⟨nm, q, N, bs, bm, sn, sub, ab, col, dd, k0, k1, k2, k3, k5, hC, hbm⟩ := T.cls
  refine wpAny_Call_Name_kw (ld_glob I hg hm ?_ hdb)
  refine PySem.W.callWith_K (h₀ := X.base) I.ok.mod.kin T.kC (thn (ha.run pos pins s σ H _ I h) fun us s1 ⟨vs, H1, I1, r1, hz, q1⟩ => ⟨I1.kIn, ?_⟩) he hpl
  show wpAny _ _ (call (.ref C) us) _ _ _
  obtain ⟨hp, g, dr, tk, os⟩ := s1
  have hsz : hp.objs.size ≤ hp.objs.size + 1 := Nat.le_succ _
  have hn : H1 (hp.objs.size + 1) = none := I1.hok.fresh hsz
  have hq := q1 (hp.objs.size + 1) hn
  have kk : ∀ b o, hp.get? b = some o → ((hp.push (PySem.W.kdv_tup us)).push (PySem.HandSPX.excO C hp.objs.size)).get? b = some o := fun b o e => Heap.get?_push_of_some _ (Heap.get?_push_of_some _ e)
  have hget : ((hp.push (PySem.W.kdv_tup us)).push (PySem.HandSPX.excO C hp.objs.size)).get? (hp.objs.size + 1) = some (PySem.HandSPX.excO C hp.objs.size) := by heap_get
  have I2 : Inv X pins σ (upd H1 (hp.objs.size + 1) (exo (hp.objs.size + 1) C none)) ⟨(hp.push (PySem.W.kdv_tup us)).push (PySem.HandSPX.excO C hp.objs.size), g, dr, tk, os⟩ :=
    I1.laid (t' := tk) (a := hp.objs.size + 1) (o := exo (hp.objs.size + 1) C none) (h' := (hp.push (PySem.W.kdv_tup us)).push (PySem.HandSPX.excO C hp.objs.size)) kk hsz (exo_ok hget)
  have r2 : Vals (V.ref (hp.objs.size + 1) :: (vs ++ dvs)) (Value.ref (hp.objs.size + 1) :: (us ++ ds)) := .cons rfl (r1.append hd)
  have hl : (Value.ref (hp.objs.size + 1) :: us ++ ds).length = ps.length := by
    have e := r2.length
    rw [F1.len _ _ _ _ hq] at e
    exact e.symm
  have hus : us.length ≤ sizeLine := by
    rw [← Paired.length r1, sizeLine_eq]
    omega
  refine wpAny_call (PySem.HandSPX.call_own F.excBase_Exception (fun Y => XE.refsX_contains Y bm hbm) (I1.kIn _ _ hC) (PySem.W.looks_findIn I1.kIn iC) (fun self => PySem.W.bind_fn I1.kIn self tI) hus
    (codeAny_mono (F1.run _ X.stack _ _ ⟨Value.ref (hp.objs.size + 1) :: us, []⟩ (Value.ref (hp.objs.size + 1) :: (us ++ ds)) _ _ (fun _ _ _ => False) (hr.make C us []) (I2.env0.make C us []) (hb _ (Value.ref (hp.objs.size + 1) :: us) I2.kIn hl) r2 hq) fun r s' hq' => ?_))
  cases r with
  | error er => exact hx pins σ _ _ er s' I2 hq'
  | ok fl =>
    cases fl with
    | ret u =>
      obtain ⟨v, H2, os2, bare2, un2, hok2, rv, ev, d, fs, ea, ed, hd1, q2⟩ := hq'
      subst ev
      obtain ⟨h2, g2, d2, t2, os'⟩ := s'
      exact ⟨rv, mk_end (raises_own T.exC T.tyC) I1 hsz kk un2 hok2 os2 bare2 ea ed hd1 q2⟩
    | next => exact False.elim hq'
    | brk => exact False.elim hq'
    | cont => exact False.elim hq'
end
end L2
set_option Elab.async false
set_option linter.all false
set_option maxRecDepth 100000
set_option maxHeartbeats 4000000
namespace N
open PySem PySem.Spec PyProof.Rows L2
open C8 (Cal Met Mak pe_c pe_mt pe_mt0 pe_mk)
/-- what __init__ of an error class does -/
def spEr (C : Addr) (f : Str) : Sp := fun vs H Q _ => ∃ a y, vs = [.ref a, y] ∧ H a = some (exo a C none) ∧ ∀ dx, H dx = none → dx ≠ a → Q .non (upd (upd H dx (exd dx [(f, y)])) a (exo a C (some dx)))
structure ErC (K : PySem.W.Frag) (C : Addr) (f : Str) : Prop where
  oex : OexX K C
  xf : XfC K C
  no : PySem.W.findIn K (.ref C) f = some none
structure Err (P : Program) (w : World) (K : PySem.W.Frag) (mg : Str → Option Value) (base : Heap) (k : Nat) (x : Str) (C : Addr) (f : Str) : Prop where
  ex : ∃ (g : Addr) (fd : FuncData) (ps : List Str), ErC K C f ∧ PySem.W.findIn K (.ref C) "__init__" = some (some (.ref g)) ∧ PySem.W.typeIn K (.ref g) = some (.type "function") ∧ FnOk P w K mg base CX0 k g fd ps (spEr C f) ∧ Binds K fd ps [] ∧ mg x = some (.ref C)
/-- the __init__ of an error class, by its body -/
theorem errD {P : Program} {w : World} {K : PySem.W.Frag} {mg : Str → Option Value} {base : Heap} {x qual f : Str} {C g : Addr} {st : Stmt} {fd : FuncData} {N ps : List Str} (er : ErC K C f) (iC : PySem.W.findIn K (.ref C) "__init__" = some (some (.ref g))) (tI : PySem.W.typeIn K (.ref g) = some (.type "function"))
    (hm : mg x = some (.ref C)) (Fn : Fun K "__init__" qual st g fd) (Sc : FnScope N ps (defScope st)) (hN : N = [("self" : Str), f]) (hps : ps = [("self" : Str), f])
    (hb : ∀ (kV doc pm : Value) (an : Option Addr) (cdv ct : Value) (us : List Value), us.length = ps.length → bindArgs (PySem.W.fnOf "__init__" qual (defArgs st) (defBody st) (defScope st) .none kV doc pm an cdv ct) ⟨us, []⟩ = pure (ps.zip us))
    (body : ∀ (cdv : Value) (A : Around) (outer : List Env) (s : Shared) (H : Hp) (E : XK), ∃ m,
      PSs (cxOf CX0 P w K mg base N qual (defScope st) g cdv A outer s H E).nox (defBody st) (tSeq (tDrop (tExI K (tCons (tVar 0) (tCons (tC (.str m)) tNil)))) (tOsx K f (tVar 0) (tVar 1)))) :
    Err P w K mg base 1 x C f := by
  subst hN hps
  refine ⟨g, fd, _, er, iC, tI, Fn.ok Sc (fun vs H Q E ⟨a, y, e, _⟩ => by rw [e]; rfl) fun cdv A outer s H vs Q E hr h => ?_, Fn.binds hb, hm⟩
  obtain ⟨a, y, e, ha, q⟩ := h
  subst e
  obtain ⟨m, b⟩ := body cdv A outer s H E
  refine ⟨_, b, ?_⟩
  refine ⟨_, rfl, ?_⟩
  refine ⟨a, C, [_], rfl, by simp, er.oex, ha, ?_⟩
  exact ⟨_, rfl, _, rfl, a, C, rfl, er.oex, er.no, ha, fun dx h1 h2 => q dx h1 h2⟩
/-- a class whose __init__ may raise -/
structure MakX (P : Program) (w : World) (K : PySem.W.Frag) (mg : Str → Option Value) (base : Heap) (k : Nat) (x : Str) (C : Addr) (n : Nat) (ks : List Str) (gV : List V → List V → List V) (sp : Sp) : Prop where
  ex : ∃ (f : Addr) (fd : FuncData) (ps : List Str) (g : List Value → List Value → List Value), Mk K C f ∧ FnOk P w K mg base (L2.CX P w) k f fd ps sp ∧ mg x = some (.ref C) ∧ Binds K fd ps [] ∧ KBn K fd ps 1 ks g gV ∧ n = ks.length
def tCmS (C : Addr) (sp : Sp) (E : L2.St → XK) (ta : TE) (t : TA) : TE := fun σ H Q => ta σ H fun x H1 => x = .ref C ∧ t σ H1 fun vs H2 => sp (.ref C :: vs) H2 Q (E σ)
def tCmKS (C : Addr) (n : Nat) (sp : Sp) (gV : List V → List V → List V) (E : L2.St → XK) (ta : TE) (tk : TA) : TE := fun σ H Q => ta σ H fun x H1 => x = .ref C ∧ tk σ H1 fun zs H2 => zs.length = n ∧ sp (gV [.ref C] zs) H2 Q (E σ)
def tMakS (C : Addr) (sp : Sp) (E : L2.St → XK) (t : TA) : TE := fun σ H Q => t σ H fun vs H1 => ∀ x dx, H1 x = none → H1 dx = none → dx ≠ x →
  sp (.ref x :: vs) (upd (upd H1 dx (.own x)) x (.ins C dx [])) (fun v H2 => v = .non ∧ Q (.ref x) H2) (E σ)
def tMakKS (C : Addr) (n : Nat) (sp : Sp) (gV : List V → List V → List V) (E : L2.St → XK) (tk : TA) : TE := fun σ H Q => tk σ H fun zs H2 => zs.length = n ∧ ∀ x dx, H2 x = none → H2 dx = none → dx ≠ x →
  sp (gV [.ref x] zs) (upd (upd H2 dx (.own x)) x (.ins C dx [])) (fun v H3 => v = .non ∧ Q (.ref x) H3) (E σ)
section
variable {X : Cx} {W : WX} {k j n : Nat} {x m f : Str} {C : Addr} {sp : Sp} {e o : Expr} {es : List Expr} {t ta tk : TA} {te : TE} {p pos apos : Pos} {ks : List Str} {gV : List V → List V → List V} {kws : List Keyword}
theorem pmk_err (c : Err X.prog X.w X.K X.mg X.base k x C f) (hr : Room j X.A) (hk : k + 1 ≤ j) (hg : Gl X x) (ha : PA X (e :: es) ta)
    (hdb : (x == ("__debug__" : Str)) = false := by decide) (he : starEach (e :: es) X.env = (false, eval e X.env) :: starEach es X.env := by rfl) (hpl : (backTo pos (starEach es X.env)).any (·.1) = false := by rfl) :
    PMk X (.Call (.Name x p) (e :: es) [] pos) (tMkO C (spEr C f) [] ta) := by
  obtain ⟨g, fd, ps, E, iC, tI, F1, hb, hm⟩ := c.ex
  exact pmk_oexX (sp := spEr C f) (dvs := []) E.oex iC tI F1 (hr.mono hk) hb .nil C8.pass0 hg hm ha hdb he hpl
/-- how a run of a raising def ends, seen from the caller -/
theorem endS {pins : List (Addr × Obj)} {σ : L2.St} {H : Hp} {s : Shared} {Q : VK} (tk : Takes X W) (I : Inv X pins σ H s) {r : Result} {s' : Shared} (hq : CR (L2.CX X.prog X.w) X.stack X.prog X.w H s Q (WE W σ) r s') :
    match r with | .ok (.ret u) => EP X pins σ Q u s' | .ok _ => False | .error e => X.xe e s' := by
  cases r with
  | error e => exact passAt tk σ pins H s e s' I hq
  | ok fl =>
    cases fl with
    | ret u => exact I.after hq
    | next => exact False.elim hq
    | brk => exact False.elim hq
    | cont => exact False.elim hq
theorem pe_mkX (c : MakX X.prog X.w X.K X.mg X.base k x C n ks gV sp) (hr : Room j X.A) (hk : k + 1 ≤ j) (hg : Gl X x) (tkX : Takes X W) (ha : PA X (e :: es) t)
    (hdb : (x == ("__debug__" : Str)) = false := by decide) (he : starEach (e :: es) X.env = (false, eval e X.env) :: starEach es X.env := by rfl) (hpl : (backTo pos (starEach es X.env)).any (·.1) = false := by rfl) :
    PE X (.Call (.Name x p) (e :: es) [] pos) (tMakS C sp (WE W) t) := by
  obtain ⟨f, fd, ps, g, M, F, hm, hb, _⟩ := c.ex
  refine ⟨fun pins s σ H Q I h => ?_⟩
  refine wpAny_Call_Name_kw (ld_glob I hg hm ?_ hdb)
  refine PySem.W.callWith_K (h₀ := X.base) I.ok.mod.kin M.kp (thn (ha.run pos pins s σ H _ I h) fun us s1 ⟨vs, H1, I1, r, q⟩ => ⟨I1.kIn, ?_⟩) he hpl
  have hq := q (s1.heap.objs.size + 1) s1.heap.objs.size (I1.hok.fresh (Nat.le_succ _)) (I1.hok.fresh (Nat.le_refl _)) (Nat.ne_of_lt (Nat.lt_succ_self _))
  have I2 := Inv.made (C := C) I1
  have r2 : Vals (V.ref (s1.heap.objs.size + 1) :: vs) (Value.ref (s1.heap.objs.size + 1) :: us) := .cons rfl r
  have hl : (Value.ref (s1.heap.objs.size + 1) :: us).length = ps.length := by rw [← r2.length, F.len _ _ _ _ hq]
  have hbi := hb _ (Value.ref (s1.heap.objs.size + 1) :: us) I2.kIn (by rw [List.append_nil]; exact hl)
  rw [List.append_nil] at hbi
  refine wpAny_call (make_map (f := f) I1.kIn M.makes M.init (beq_iff_eq.mp M.fn) (codeAny_mono (F.run _ X.stack _ _ ⟨Value.ref (s1.heap.objs.size + 1) :: us, []⟩ (Value.ref (s1.heap.objs.size + 1) :: us) _ _ (WE W σ) ((hr.mono hk).make C us [])
    (I2.env0.make C us []) hbi r2 hq) fun r s' hq' => ?_))
  have := endS tkX I2 hq'
  cases r with
  | error e => exact this
  | ok fl =>
    cases fl with
    | ret u =>
      obtain ⟨v, H', I3, rv, ev, q3⟩ := this
      subst ev
      exact ⟨rv, V.ref (s1.heap.objs.size + 1), H', I3, rfl, q3⟩
    | next => exact False.elim this
    | brk => exact False.elim this
    | cont => exact False.elim this
theorem pe_mkkX (c : MakX X.prog X.w X.K X.mg X.base k x C n ks gV sp) (hr : Room j X.A) (hk : k + 1 ≤ j) (hg : Gl X x) (tkX : Takes X W) (hkw : PK X kws tk)
    (hall : (backToKw pos (keywordEach kws X.env)).all (·.1.isSome) = true := by rfl) (hks : (backToKw pos (keywordEach kws X.env)).filterMap (·.1) = ks := by rfl)
    (hpl : ((backTo pos (starEach [] X.env)).any (·.1) || (backToKw pos (keywordEach kws X.env)).any (·.1.isNone)) = false := by rfl) (hdb : (x == ("__debug__" : Str)) = false := by decide) :
    PE X (.Call (.Name x p) [] kws pos) (tMakKS C n sp gV (WE W) tk) := by
  obtain ⟨f, fd, ps, g, M, F, hm, _, hb, hn⟩ := c.ex
  refine ⟨fun pins s σ H Q I h => ?_⟩
  refine wpAny_Call_Name_kw (ld_glob I hg hm ?_ hdb)
  refine PySem.W.callWith_of (P := fun h => X.K.In h) hpl (PySem.W.keeps_K M.kp) (evalArgs_kw2_nil hall ?_)
  refine thn (hkw.run pos pins s σ H _ I h) fun ws s1 ⟨zs, H1, I1, rz, l2, q⟩ => ⟨I1.kIn, ?_⟩
  rw [hks]
  have hq := q (s1.heap.objs.size + 1) s1.heap.objs.size (I1.hok.fresh (Nat.le_succ _)) (I1.hok.fresh (Nat.le_refl _)) (Nat.ne_of_lt (Nat.lt_succ_self _))
  have I2 := Inv.made (C := C) I1
  have r1 : Vals [V.ref (s1.heap.objs.size + 1)] [Value.ref (s1.heap.objs.size + 1)] := .cons rfl .nil
  have r2 := hb.rel r1 rz
  refine wpAny_call (make_map (f := f) I1.kIn M.makes M.init (beq_iff_eq.mp M.fn) (codeAny_mono (F.run _ X.stack _ _ ⟨[Value.ref (s1.heap.objs.size + 1)], ks.zip ws⟩ (g [Value.ref (s1.heap.objs.size + 1)] ws) _ _ (WE W σ) ((hr.mono hk).make C [] (ks.zip ws))
    (I2.env0.make C [] (ks.zip ws)) (hb.to _ [Value.ref (s1.heap.objs.size + 1)] ws I2.kIn rfl (rz.length.symm.trans (l2.trans hn))) r2 hq) fun r s' hq' => ?_))
  have := endS tkX I2 hq'
  cases r with
  | error e => exact this
  | ok fl =>
    cases fl with
    | ret u =>
      obtain ⟨v, H', I3, rv, ev, q3⟩ := this
      subst ev
      exact ⟨rv, V.ref (s1.heap.objs.size + 1), H', I3, rfl, q3⟩
    | next => exact False.elim this
    | brk => exact False.elim this
    | cont => exact False.elim this
end
end N
set_option Elab.async false
set_option linter.all false
set_option maxRecDepth 100000
set_option maxHeartbeats 1000000
namespace N
open PySem PySem.Spec PyProof.Rows L2
/-- how an exception leaves: the class, the place of its dict, slots, owned cells (its dict among them) -/
abbrev EX := Nat → Addr → Gm → Om → Prop
abbrev FX := List D → Om → (D → Om → Prop) → (Nat → Addr → Om → Prop) → Prop
section
variable (F : FmKit) (T : Kx)
def XOk (C H : Hp) (ex : EX) (W0 : WX) : Prop := ∀ c d G W H' O' σ, ex c d G W → Nx F T C W H H' O' → Lo F T H' G σ → W0 (.ref (T.cl c)) (some d) σ (ov O' H')
def EvX (W0 : WX) (te : TE) (G : Gm) (W : Om) (R : D → Om → Prop) (ex : EX) : Prop :=
  ∀ (C H O : Hp) (σ : L2.St), Wd F T C G W H O σ → XOk F T C H ex W0 → ∀ Q : VK, (∀ d W' H' O' v, R d W' → Nx F T C W' H H' O' → Den F T H' d v → Q v (ov O' H')) → te σ (ov O H) Q
def SwX (W0 : WX) (ts : TS) (G : Gm) (W : Om) (E : En) (ex : EX) : Prop :=
  ∀ (C H O : Hp) (σ : L2.St), Wd F T C G W H O σ → XOk F T C H ex W0 → ∀ B : Ends, EnOk F T C H E B → ts B σ (ov O H)
def spX (S : FX) : Sp := fun vs X Q E => ∃ (ds : List D) (W : Om) (C H O : Hp) (post : D → Om → Prop) (ex : Nat → Addr → Om → Prop), X = ov O H ∧ Dis O H ∧ Same C O ∧ Ow F T H C O W ∧ DenL F T H ds vs ∧ S ds W post ex ∧
  (∀ d W' H' O' v, post d W' → Nx F T C W' H H' O' → Den F T H' d v → Q v (ov O' H')) ∧ ∀ c d W' H' O', ex c d W' → Nx F T C W' H H' O' → E (.ref (T.cl c)) (some d) (ov O' H')
end
section
variable {F : FmKit} {T : Kx} {C H H' O O' : Hp} {G : Gm} {W W' : Om} {σ : L2.St} {a p : Addr} {od : OD} {d : D} {l : List D}
  {te ta tb : TE} {t u : TT} {R R' : D → Om → Prop} {Z : Bool → Om → Prop} {tr tk : TA} {ts tz : TS} {En1 E : En} {ex ex' : EX} {W0 : WX} {S : FX}
theorem XOk.up (h : XOk F T C H ex W0) (e : Same H H') : XOk F T C H' ex W0 := fun c d G W H2 O' σ x n l => h c d G W H2 O' σ x ⟨e.trans n.ext, n.dis, n.oc, n.own⟩ l
theorem evx_of (h : Ev F T te G W R) : EvX F T W0 te G W R ex := fun C H O σ w _ Q q => h C H O σ w Q q
theorem swx_of (h : Sw F T ts G W E) : SwX F T W0 ts G W E ex := fun C H O σ w _ B b => h C H O σ w B b
theorem sw_ofX (h : SwX F T W0 ts G W E fun _ _ _ _ => False) : Sw F T ts G W E := fun C H O σ w B b => h C H O σ w (fun _ _ _ _ _ _ _ z => z.elim) B b
theorem XOk.imp (h : XOk F T C H ex' W0) (i : ∀ c d G W, ex c d G W → ex' c d G W) : XOk F T C H ex W0 := fun c d G W H2 O' σ x n l => h c d G W H2 O' σ (i c d G W x) n l
theorem evx_if (h : EvT F T t G W fun b W1 => if b = true then EvX F T W0 ta G W1 R ex else EvX F T W0 tb G W1 R ex) : EvX F T W0 (tIf t ta tb) G W R ex := fun C H O σ w x Q q =>
  h C H O σ w _ fun b W1 H1 O1 s n => by
    cases b with
    | true => exact s C H1 O1 σ (w.step n) (x.up n.ext) _ fun d W2 H2 O2 v s2 n2 k2 => q d W2 H2 O2 v s2 (n.trans n2) k2
    | false => exact s C H1 O1 σ (w.step n) (x.up n.ext) _ fun d W2 H2 O2 v s2 n2 k2 => q d W2 H2 O2 v s2 (n.trans n2) k2
theorem evx_fz (h : EvX F T W0 te G W (Fz F R) ex) : EvX F T W0 te G W R ex := fun C H O σ w x Q q => h C H O σ w x Q fun d W' H' O' v ⟨a, od, W2, d', e, hp, z, r⟩ n k => by
  subst e
  have k : v = .ref a := k
  subst k
  obtain ⟨o, _, n2, eo, k2, _⟩ := n.freeze hp z
  rw [eo]
  exact q d' W2 _ _ _ r n2 k2
theorem swx_seq (h : SwX F T W0 ts G W { E with nx := fun G' W' => SwX F T W0 tz G' W' E ex } ex) : SwX F T W0 (tSeq ts tz) G W E ex := fun C H O σ w x B b =>
  h C H O σ w x { B with nx := tz B } ⟨fun G' W' H' O' σ' a n l => a C H' O' σ' ⟨n.dis, n.oc, l, n.own⟩ (x.up n.ext) B (b.up n.ext), b.rt, b.bk, b.ct⟩
theorem swx_if (h : EvT F T t G W fun c W' => if c = true then SwX F T W0 ts G W' E ex else SwX F T W0 tz G W' E ex) : SwX F T W0 (tIfS t ts tz) G W E ex := fun C H O σ w x B b =>
  h C H O σ w _ fun c W' H' O' r n => by
    cases c with
    | true => exact r C H' O' σ (w.step n) (x.up n.ext) B (b.up n.ext)
    | false => exact r C H' O' σ (w.step n) (x.up n.ext) B (b.up n.ext)
theorem swx_set {i : Nat} (h : EvX F T W0 te G W (fun d W' => E.nx (G.set i (some d)) W') ex) : SwX F T W0 (tAsg te (gName i)) G W E ex := fun C H O σ w x B b =>
  h C H O σ w x _ fun d W' H' O' v r n k => b.nx _ W' H' O' _ r n ((w.loc.mono n.ext).set k)
theorem swx_asg {g : TG} (h : EvX F T W0 te G W (fun d W' => Ta F T g d G W' fun G2 W2 => E.nx G2 W2) ex) : SwX F T W0 (tAsg te g) G W E ex := fun C H O σ w x B b =>
  h C H O σ w x _ fun d W' H' O' v r n k => r C H' O' σ (w.step n) v k _ fun G2 W2 H2 O2 σ2 r2 n2 l2 => b.nx G2 W2 H2 O2 σ2 r2 (n.trans n2) l2
theorem swx_ret (h : EvX F T W0 te G W E.rt ex) : SwX F T W0 (tRet te) G W E ex := fun C H O σ w x B b =>
  h C H O σ w x _ fun d W' H' O' v r n k => b.rt d W' H' O' v r n k
theorem swx_drop (h : EvX F T W0 te G W (fun _ W' => E.nx G W') ex) : SwX F T W0 (tDrop te) G W E ex := fun C H O σ w x B b =>
  h C H O σ w x _ fun d W' H' O' v r n k => b.nx G W' H' O' σ r n (w.loc.mono n.ext)
theorem swx_next (h : E.nx G W) : SwX F T W0 tNext G W E ex := swx_of (sw_next h)
theorem swx_brk (h : E.bk G W) : SwX F T W0 tBreak G W E ex := swx_of (sw_brk h)
theorem swx_cont (h : E.ct G W) : SwX F T W0 tCont G W E ex := swx_of (sw_cont h)
theorem swx_retN (h : E.rt .non W) : SwX F T W0 tRetN G W E ex := swx_of (sw_retN h)
theorem swx_par {i j : Nat} (h : EvA F T tr G W fun ds W' => ∃ d1 d2, ds = [d1, d2] ∧ E.nx ((G.set i (some d1)).set j (some d2)) W') : SwX F T W0 (tPar i j tr) G W E ex := swx_of (sw_par h)
theorem swx_fld {n : Str} (h : Ev F T tb G W fun z W1 => Ev F T ta G W1 fun d W2 => Rcv F T d z n W2 (E.nx G)) : SwX F T W0 (sFld T.K ta tb n) G W E ex := swx_of (sw_fld h)
theorem frame {Wc Wf : Om} (di : Dis O H) (oc : Same C O) (ow : Ow F T H C O (Wc ++ Wf)) : ∃ C', Same C' O ∧ Ow F T H C' O Wc ∧ ∀ W' H' O', Nx F T C' W' H H' O' → Nx F T C (W' ++ Wf) H H' O' := by
  have nd := ow.nd
  have nd2 : (akeys Wc ++ akeys Wf).Nodup := by
    have e : akeys (Wc ++ Wf) = akeys Wc ++ akeys Wf := by simp [akeys]
    rw [← e]
    exact nd
  rw [List.nodup_append] at nd2
  obtain ⟨ndc, ndf, dj⟩ := nd2
  have inF : ∀ b, b ∈ akeys Wf → ∃ od, (b, od) ∈ Wf := fun b hb => by
    obtain ⟨x, hx, e⟩ := List.mem_map.mp hb
    exact ⟨x.2, by rw [← e]; exact hx⟩
  have atF : ∀ b od, (b, od) ∈ Wf → C b = none ∧ OdAt F T H (O b) od := fun b od m => ow.at_ b od (List.mem_append_right _ m)
  refine ⟨fun b => if b ∈ akeys Wf then O b else C b, fun b o e => ?_, ⟨ndc, fun a od m => ?_⟩, fun W' H' O' n => ⟨n.ext, n.dis, fun b o e => ?_, ⟨?_, fun a od m => ?_⟩⟩⟩
  · by_cases hb : b ∈ akeys Wf
    · simp only [if_pos hb] at e
      exact e
    · simp only [if_neg hb] at e
      exact oc b o e
  · have hn : a ∉ akeys Wf := fun z => dj a (mem_akeys m) a z rfl
    rw [if_neg hn]
    exact ow.at_ a od (List.mem_append_left _ m)
  · refine n.oc b o ?_
    by_cases hb : b ∈ akeys Wf
    · obtain ⟨od, m⟩ := inF b hb
      rw [(atF b od m).1] at e
      cases e
    · rw [if_neg hb]
      exact e
  · have e : akeys (W' ++ Wf) = akeys W' ++ akeys Wf := by simp [akeys]
    rw [e, List.nodup_append]
    refine ⟨n.own.nd, ndf, fun x hx y hy exy => ?_⟩
    subst exy
    obtain ⟨z, hz, ez⟩ := List.mem_map.mp hx
    have h1 := (n.own.at_ z.1 z.2 hz).1
    rw [ez, if_pos hy] at h1
    obtain ⟨od, m⟩ := inF _ hy
    obtain ⟨o, eo⟩ := (atF _ od m).2.some
    rw [h1] at eo
    cases eo
  · rcases List.mem_append.mp m with m | m
    · obtain ⟨h1, h2⟩ := n.own.at_ a od m
      refine ⟨?_, h2⟩
      by_cases hb : a ∈ akeys Wf
      · obtain ⟨od', m'⟩ := inF a hb
        exact (atF a od' m').1
      · rw [if_neg hb] at h1
        exact h1
    · obtain ⟨h1, h2⟩ := atF a od m
      obtain ⟨o, eo⟩ := h2.some
      have e2 : O' a = some o := n.oc a o (by rw [if_pos (mem_akeys (x := (a, od)) m)]; exact eo)
      rw [eo] at h2
      rw [e2]
      exact ⟨h1, h2.mono n.ext⟩
def HandX (S : FX) (ds : List D) (W : Om) (R : D → Om → Prop) (rx : Nat → Addr → Om → Prop) : Prop := ∃ Wc Wf, W.Perm (Wc ++ Wf) ∧ S ds Wc (fun d W' => R d (W' ++ Wf)) fun c d W' => rx c d (W' ++ Wf)
variable {rx : Nat → Addr → Om → Prop}
theorem handXA {ds : List D} (h : S ds W R rx) : HandX S ds W R rx := ⟨W, [], by rw [List.append_nil], by simpa only [List.append_nil] using h⟩
theorem HandX.run {ds : List D} {vs : List V} {Q : VK} {XE : XK} (h : HandX S ds W R rx) (di : Dis O H) (oc : Same C O) (ow : Ow F T H C O W) (k : DenL F T H ds vs) (q : ∀ d W' H' O' v, R d W' → Nx F T C W' H H' O' → Den F T H' d v → Q v (ov O' H'))
    (x : ∀ c d W' H' O', rx c d W' → Nx F T C W' H H' O' → XE (.ref (T.cl c)) (some d) (ov O' H')) : spX F T S vs (ov O H) Q XE := by
  obtain ⟨Wc, Wf, hp, hs⟩ := h
  obtain ⟨C', h1, h2, h3⟩ := frame di oc (ow.perm hp)
  exact ⟨ds, Wc, C', H, O, _, _, rfl, di, h1, h2, k, hs, fun d W' H' O' v r n kd => q d _ H' O' v r (h3 W' H' O' n) kd, fun c d W' H' O' r n => x c d _ H' O' r (h3 W' H' O' n)⟩
theorem evx_call (h : EvA F T tr G W fun ds W1 => HandX S ds W1 R fun c d W' => ex c d G W') : EvX F T W0 (tCallS (spX F T S) (WE W0) tr) G W R ex := fun C H O σ w x Q q =>
  h C H O σ w _ fun ds W1 H1 O1 vs h1 n k => h1.run n.dis n.oc n.own k (fun d W' H' O' v r n2 kd => q d W' H' O' v r (n.trans n2) kd) fun c d W' H' O' r n2 => x c d G W' H' O' σ r (n.trans n2) (w.loc.mono (n.trans n2).ext)
theorem evx_cm {c : Nat} (h : Ev F T te G W fun d W1 => d = .adr (T.cl c) ∧ EvA F T tr G W1 fun ds W2 => HandX S (.adr (T.cl c) :: ds) W2 R fun c d W' => ex c d G W') : EvX F T W0 (tCmS (T.cl c) (spX F T S) (WE W0) te tr) G W R ex := fun C H O σ w x Q q =>
  h C H O σ w _ fun d W1 H1 O1 y ⟨ed, ha⟩ n1 k1 => by
    subst ed
    exact ⟨k1, ha C H1 O1 σ (w.step n1) _ fun ds W2 H2 O2 vs hh n2 k2 => hh.run n2.dis n2.oc n2.own ⟨_, _, rfl, rfl, k2⟩ (fun d W' H' O' v r n3 kd => q d W' H' O' v r ((n1.trans n2).trans n3) kd)
      fun c d W' H' O' r n3 => x c d G W' H' O' σ r ((n1.trans n2).trans n3) (w.loc.mono ((n1.trans n2).trans n3).ext)⟩
theorem evx_cmk {c n : Nat} {gV : List V → List V → List V} (h : Ev F T te G W fun d W1 => d = .adr (T.cl c) ∧ EvA F T tk G W1 fun ds W2 => ds.length = n ∧ ∃ as, (∀ H x zs, Den F T H d x → DenL F T H ds zs → DenL F T H as (gV [x] zs)) ∧ HandX S as W2 R fun c d W' => ex c d G W') :
    EvX F T W0 (tCmKS (T.cl c) n (spX F T S) gV (WE W0) te tk) G W R ex := fun C H O σ w x Q q =>
  h C H O σ w _ fun d W1 H1 O1 y ⟨ed, ha⟩ n1 k1 => by
    subst ed
    refine ⟨k1, ha C H1 O1 σ (w.step n1) _ fun ds W2 H2 O2 vs ⟨hl, as, hg, hh⟩ n2 k2 => ⟨by rw [k2.len]; exact hl, ?_⟩⟩
    exact hh.run n2.dis n2.oc n2.own (hg H2 _ vs rfl k2) (fun d W' H' O' v r n3 kd => q d W' H' O' v r ((n1.trans n2).trans n3) kd)
      fun c d W' H' O' r n3 => x c d G W' H' O' σ r ((n1.trans n2).trans n3) (w.loc.mono ((n1.trans n2).trans n3).ext)
/-- a new instance is handed to a raising __init__ -/
theorem run_makeX {c : Nat} {as : Addr → List D} {vs : Addr → List V} {x dx : Addr} {Q : VK} {XE : XK} (n : Nx F T C W H H' O') (k : ∀ H2 x, Same H' H2 → DenL F T H2 (as x) (vs x)) (h : ∀ x, x ∉ akeys W → HandX S (as x) ((x, .ins c [] []) :: W) (fun d W' => d = .non ∧ R (.adr x) W') rx)
    (hx : ov O' H' x = none) (hdx : ov O' H' dx = none) (ne : dx ≠ x) (q : ∀ d W2 H2 O2 v, R d W2 → Nx F T C W2 H H2 O2 → Den F T H2 d v → Q v (ov O2 H2)) (xq : ∀ c d W2 H2 O2, rx c d W2 → Nx F T C W2 H H2 O2 → XE (.ref (T.cl c)) (some d) (ov O2 H2)) :
    spX F T S (vs x) (upd (upd (ov O' H') dx (.own x)) x (.ins (T.cl c) dx [])) (fun v H2 => v = .non ∧ Q (.ref x) H2) XE := by
  obtain ⟨n2, e2, s2⟩ := n.newF (o := .own x) hdx
  rw [e2]
  have hx2 : ov O' (upd H' dx (.own x)) x = none := by rw [← e2, upd_ne ne.symm]; exact hx
  obtain ⟨n3, e3, np⟩ := n2.newO (od := .ins c [] []) (o := .ins (T.cl c) dx []) hx2 ⟨dx, [], rfl, rfl, rfl⟩
  rw [e3]
  refine (h x np).run n3.dis n3.oc n3.own (k _ x s2) (fun d W' H2 O2 v ⟨e, r⟩ n4 kd => ?_) fun c d W' H2 O2 r n4 => xq c d W' H2 O2 r (n3.trans n4)
  subst e
  exact ⟨kd, q (.adr x) W' H2 O2 _ r (n3.trans n4) rfl⟩
theorem evx_mk {c : Nat} (h : EvA F T tr G W fun ds W1 => ∀ x, x ∉ akeys W1 → HandX S (.adr x :: ds) ((x, .ins c [] []) :: W1) (fun d W' => d = .non ∧ R (.adr x) W') fun c d W' => ex c d G W') : EvX F T W0 (tMakS (T.cl c) (spX F T S) (WE W0) tr) G W R ex := fun C H O σ w xo Q q =>
  h C H O σ w _ fun ds W1 H1 O1 vs h1 n k x dx hx hdx ne => run_makeX (as := fun x => .adr x :: ds) (vs := fun x => .ref x :: vs) n (fun H2 x s => ⟨_, _, rfl, rfl, k.mono s⟩) h1 hx hdx ne q
    fun c d W' H' O' r n2 => xo c d G W' H' O' σ r n2 (w.loc.mono n2.ext)
theorem evx_mkk {c m : Nat} {gV : List V → List V → List V} (h : EvA F T tk G W fun ds W1 => ds.length = m ∧ ∃ as : Addr → List D, (∀ H x zs, DenL F T H ds zs → DenL F T H (as x) (gV [.ref x] zs)) ∧ ∀ x, x ∉ akeys W1 → HandX S (as x) ((x, .ins c [] []) :: W1) (fun d W' => d = .non ∧ R (.adr x) W') fun c d W' => ex c d G W') :
    EvX F T W0 (tMakKS (T.cl c) m (spX F T S) gV (WE W0) tk) G W R ex := fun C H O σ w xo Q q =>
  h C H O σ w _ fun ds W1 H1 O1 vs ⟨hl, as, hg, h1⟩ n k => ⟨by rw [k.len]; exact hl, fun x dx hx hdx ne => run_makeX (as := as) (vs := fun x => gV [.ref x] vs) n (fun H2 x s => hg H2 x vs (k.mono s)) h1 hx hdx ne q
    fun c d W' H' O' r n2 => xo c d G W' H' O' σ r n2 (w.loc.mono n2.ext)⟩
theorem swx_raise {c : Nat} {f : Str} (h : EvA F T tr G W fun ds W1 => ∃ z, ds = [z] ∧ ∀ d, d ∉ akeys W1 → ex c d G ((d, .xd [f] [z]) :: W1)) :
    SwX F T W0 (fun _ σ H => tMkO (T.cl c) (spEr (T.cl c) f) [] tr σ H fun cls d H' => W0 cls d σ H') G W E ex := fun C H O σ w xo B b =>
  h C H O σ w _ fun ds W1 H1 O1 vs ⟨z, e, hz⟩ n k => by
    subst e
    obtain ⟨v, r', e1, k1, e2⟩ := k
    have e2 : r' = [] := e2
    subst e2 e1
    refine ⟨by simp, fun a ha => ⟨a, v, rfl, upd_same, fun dx h1 h2 => ⟨rfl, dx, [(f, v)], upd_same, ?_, ?_, ?_⟩⟩⟩
    · rw [upd_ne h2, upd_same]
    · rwa [upd_ne h2] at h1
    · have h3 : ov O1 H1 dx = none := by rwa [upd_ne h2] at h1
      have e : upd (del (upd (upd (upd (ov O1 H1) a (exo a (T.cl c) none)) dx (exd dx [(f, v)])) a (exo a (T.cl c) (some dx))) a) dx (.xd [(f, v)]) = upd (ov O1 H1) dx (.xd [(f, v)]) := by
        funext y
        by_cases hy : y = dx
        · rw [hy, upd_same, upd_same]
        · rw [upd_ne hy, upd_ne hy]
          unfold del
          by_cases ha2 : y = a
          · rw [if_pos ha2, ha2, ha]
          · rw [if_neg ha2, upd_ne ha2, upd_ne hy, upd_ne ha2]
      show W0 _ _ σ (upd (L2.del _ a) dx _)
      have e' := e
      obtain ⟨n2, e3, np⟩ := n.newO (od := .xd [f] [z]) (o := .xd [(f, v)]) h3 ⟨[(f, v)], rfl, rfl, .one k1⟩
      rw [show upd (L2.del (upd (upd (upd (ov O1 H1) a (exo a (T.cl c) none)) dx (exd dx [(f, v)])) a (exo a (T.cl c) (some dx))) a) dx (.xd [(f, v)]) = upd (ov O1 H1) dx (.xd [(f, v)]) from e', e3]
      exact xo c dx G _ _ _ σ (hz dx np) n2 (w.loc.mono n2.ext)
theorem swx_try {tb : WX → TS} {sx : Addr → Value → Option Addr → TS} {cc i : Nat} {ex1 : EX} (hb : ∀ W1, SwX F T W1 (tb W1) G W E ex1)
    (hs : ∀ c d G' W', ex1 c d G' W' → ∃ b, PySem.W.exmOne T.K (.ref (T.cl c)) (.ref (T.cl cc)) = some b ∧ (b = true → ∀ a, Sw F T (sx a (.ref (T.cl c)) (some d)) (G'.set i (some (.adr a))) W'
      { nx := fun G2 W2 => E.nx (G2.set i none) W2, rt := E.rt, bk := fun G2 W2 => E.bk (G2.set i none) W2, ct := fun G2 W2 => E.ct (G2.set i none) W2 }) ∧ (b = false → ex c d G' W')) :
    SwX F T W0 (fun B σ H => tb (wAs T.K (.ref (T.cl cc)) i sx W0 B) B σ H) G W E ex := fun C H O σ w xo B b => by
  refine hb _ C H O σ w (fun c d G' W' H' O' σ' e n l => ?_) B b
  obtain ⟨bb, h1, h2, h3⟩ := hs c d G' W' e
  refine ⟨bb, h1, fun q a ha => ?_, fun q => xo c d G' W' H' O' σ' (h3 q) n l⟩
  refine h2 q a C H' O' _ ⟨n.dis, n.oc, l.set rfl, n.own⟩ _ ⟨fun G2 W2 H2 O2 σ2 z n2 l2 => b.nx _ W2 H2 O2 _ z (n.trans n2) (l2.forget none), fun d W2 H2 O2 v z n2 k2 => b.rt d W2 H2 O2 v z (n.trans n2) k2,
    fun G2 W2 H2 O2 σ2 z n2 l2 => b.bk _ W2 H2 O2 _ z (n.trans n2) (l2.forget none), fun G2 W2 H2 O2 σ2 z n2 l2 => b.ct _ W2 H2 O2 _ z (n.trans n2) (l2.forget none)⟩
theorem swx_tryG {tb : (Ends → WX) → TS} {sx : Addr → Value → Option Addr → TS} {cc i : Nat} {ex1 : EX} (hp : ∀ w B, tb w B = tb (fun _ => w B) B) (hb : ∀ W1, SwX F T W1 (tb fun _ => W1) G W E ex1)
    (hs : ∀ c d G' W', ex1 c d G' W' → ∃ b, PySem.W.exmOne T.K (.ref (T.cl c)) (.ref (T.cl cc)) = some b ∧ (b = true → ∀ a, Sw F T (sx a (.ref (T.cl c)) (some d)) (G'.set i (some (.adr a))) W'
      { nx := fun G2 W2 => E.nx (G2.set i none) W2, rt := E.rt, bk := fun G2 W2 => E.bk (G2.set i none) W2, ct := fun G2 W2 => E.ct (G2.set i none) W2 }) ∧ (b = false → ex c d G' W')) :
    ∀ wx, wAs T.K (.ref (T.cl cc)) i sx W0 = wx → SwX F T W0 (tb wx) G W E ex := by
  rintro _ rfl
  have h := swx_try (tb := fun W => tb fun _ => W) hb hs (W0 := W0) (ex := ex)
  have e : (fun B σ H => tb (fun _ => wAs T.K (.ref (T.cl cc)) i sx W0 B) B σ H) = tb (wAs T.K (.ref (T.cl cc)) i sx W0) := funext fun B => (hp _ B).symm
  rw [e] at h
  exact h
/-- e.f, e the exception that is held -/
theorem ev_xf {c : Nat} {a dd : Addr} {f : Str} (h : Ev F T te G W fun d W1 => d = .adr a ∧ ∃ ns l z, (dd, OD.xd ns l) ∈ W1 ∧ (ns.zip l).lookup f = some z ∧ R z W1) : Ev F T (tXf a (.ref (T.cl c)) (some dd) (T.cl c) f te) G W R := fun C H O σ w Q q =>
  h C H O σ w _ fun d W1 H1 O1 x ⟨e, ns, l, z, hm, hl, r⟩ n k => by
    subst e
    obtain ⟨_, fs, h1, h2, h3⟩ := n.own.at_ dd _ hm
    subst h2
    obtain ⟨v, hv, kv⟩ := look_zip h3 hl
    exact ⟨k, rfl, dd, fs, v, rfl, ov_own h1, hv, q z W1 H1 O1 v r n kv⟩
end
section
variable {P : Program} {w : World} {K : PySem.W.Frag} {mg : Str → Option Value} {base : Heap} {F : FmKit} {cl : Nat → Addr} {S : FX}
/-- the wish of a def about what it lets out -/
abbrev WD (E : XK) : WX := fun cls d _ H => E cls d H
theorem spX_len {n : Nat} (len : ∀ ds W post ex, S ds W post ex → ds.length = n) : ∀ vs H Q E, spX F ⟨K, cl⟩ S vs H Q E → vs.length = n := fun vs H Q E ⟨ds, W, C, H1, O, post, ex, _, _, _, _, k, h, _⟩ => by
  rw [k.len]
  exact len ds W post ex h
theorem body_runX {N : List Str} {t : TS} {vs : List V} {H : Hp} {Q : VK} {E : XK} (h : spX F ⟨K, cl⟩ S vs H Q E) (b : ∀ ds W post ex, S ds W post ex → SwX F ⟨K, cl⟩ (WD E) t (startD N ds) W (E_ post) fun c d _ W => ex c d W) : t { nx := fun _ H' => Q .non H', rt := Q } (L2.start N vs) H := by
  obtain ⟨ds, W, C, H1, O, post, ex, e, di, oc, ow, k, hs, q, x⟩ := h
  subst e
  exact b ds W post ex hs C H1 O _ ⟨di, oc, k.lo, ow⟩ (fun c d G W' H' O' σ' r n _ => x c d W' H' O' r n) _ ⟨fun G W' H' O' σ' r n l => q .non W' H' O' .non r n rfl, fun d W' H' O' v r n kd => q d W' H' O' v r n kd, fun _ _ _ _ _ z => z.elim, fun _ _ _ _ _ z => z.elim⟩
theorem okX {x qual : Str} {st : Stmt} {f : Addr} {fd : FuncData} {N ps : List Str} {k : Nat} (Fn : Fun K x qual st f fd) (Sc : FnScope N ps (defScope st)) (len : ∀ ds W post ex, S ds W post ex → ds.length = ps.length)
    (body : ∀ (cdv : Value) (A : Around) (outer : List Env) (s : Shared) (H : Hp) (E : XK), Room k (A.deeper (envOfC qual (defScope st) s.heap.objs.size f cdv)) →
      ∃ t, PSs (cxOf (L2.CX P w) P w K mg base N qual (defScope st) f cdv A outer s H E) (defBody st) t ∧ ∀ ds W post ex, S ds W post ex → SwX F ⟨K, cl⟩ (WD E) t (startD N ds) W (E_ post) fun c d _ W => ex c d W) : FnOk P w K mg base (L2.CX P w) (k + 1) f fd ps (spX F ⟨K, cl⟩ S) :=
  Fn.okX Sc (spX_len len) fun cdv A outer s H vs Q E hr h => let ⟨t, ht, b⟩ := body cdv A outer s H E hr; ⟨t, ht, body_runX h b⟩
theorem makXD {x qual : Str} {C : Addr} {st : Stmt} {f : Addr} {fd : FuncData} {N ps ks : List Str} {g : List Value → List Value → List Value} {gV : List V → List V → List V} {k : Nat} (mk : Mk K C f) (hm : mg x = some (.ref C)) (Fn : Fun K "__init__" qual st f fd) (Sc : FnScope N ps (defScope st)) (len : ∀ ds W post ex, S ds W post ex → ds.length = ps.length)
    (hb : ∀ (kV doc pm : Value) (an : Option Addr) (cdv ct : Value) (us : List Value), us.length = ps.length → bindArgs (PySem.W.fnOf "__init__" qual (defArgs st) (defBody st) (defScope st) .none kV doc pm an cdv ct) ⟨us, []⟩ = pure (ps.zip us))
    (kb : KBn K fd ps 1 ks g gV)
    (body : ∀ (cdv : Value) (A : Around) (outer : List Env) (s : Shared) (H : Hp) (E : XK), Room k (A.deeper (envOfC qual (defScope st) s.heap.objs.size f cdv)) →
      ∃ t, PSs (cxOf (L2.CX P w) P w K mg base N qual (defScope st) f cdv A outer s H E) (defBody st) t ∧ ∀ ds W post ex, S ds W post ex → SwX F ⟨K, cl⟩ (WD E) t (startD N ds) W (E_ post) fun c d _ W => ex c d W) :
    MakX P w K mg base (k + 1) x C ks.length ks gV (spX F ⟨K, cl⟩ S) :=
  ⟨f, fd, ps, g, mk, okX Fn Sc len body, hm, Fn.binds hb, kb, rfl⟩
end
end N
set_option Elab.async false
set_option linter.all false
set_option maxRecDepth 100000
set_option maxHeartbeats 1000000
namespace N
open PySem PySem.Spec PyProof.Rows L2
inductive Tok where
  | form | sg (c : Nat)
abbrev isL (c : Nat) : Prop := (65 ≤ c ∧ c ≤ 90) ∨ (97 ≤ c ∧ c ≤ 122)
/-- what is left where a text goes wrong or ends, and whether nothing is wanted any more -/
def lr : List Tok → List Nat → List Nat × Bool
  | [], r => (r, true)
  | .sg _ :: _, [] => ([], false)
  | .sg c :: S, x :: r => if x = c then lr S r else (x :: r, false)
  | .form :: _, [] => ([], false)
  | .form :: S, x :: r =>
    if x = 40 then lr (.form :: .sg 32 :: .sg 62 :: .sg 32 :: .form :: .sg 41 :: S) r
    else if isL x then
      if x = 97 ∧ r.head? = some 108 then lr (.sg 108 :: .sg 108 :: .sg 32 :: .form :: S) r
      else if x = 110 ∧ r.head? = some 111 then lr (.sg 111 :: S) r
      else lr S r
    else (x :: r, false)
def rdOf (s : Str) : List Nat × Bool := lr [.form] (lets s)
def cl (l : List Nat) : Nat := l.count 108
theorem cl_app (x y : List Nat) : cl (x ++ y) = cl x + cl y := List.count_append
section
variable {F : FmKit} {T : Kx} {W : Om} {R : D → Om → Prop} {l : List D} {ks : List Key}
theorem tyd_non : TyD F T W .non (.type "NoneType") := fun C H O di ow x k => by
  have k : x = .non := k
  subst k
  exact .base .non
theorem tyd_lst : TyD F T W (.lst l) (.type "list") := fun C H O di ow x k => by
  obtain ⟨a, xs, e, hs, kl⟩ := k
  subst e
  exact .base (.lst (di.same _ _ hs))
theorem tyd_dct : TyD F T W (.dct ks l) (.type "dict") := fun C H O di ow x k => by
  obtain ⟨a, kvs, e, hs, _⟩ := k
  subst e
  exact .base (.dK (di.same _ _ hs))
/-- a value that is no text -/
inductive notStr : D → Prop
  | non : notStr .non
  | bl (b : Bool) : notStr (.bl b)
  | int (i : Int) : notStr (.int i)
  | tup (l : List D) : notStr (.tup l)
  | lst (l : List D) : notStr (.lst l)
  | dct (ks : List Key) (l : List D) : notStr (.dct ks l)
theorem isi_notStr {d : D} (h : notStr d) (r : R (.bl false) W) : Ca F T (rIsi T.K) [d, .vl (.ty "str")] W R := by
  cases h with
  | non => exact ca_isi (.ty "str") tyd_non (by unfold PySem.W.kitOne; first | rfl | decide +kernel) r
  | bl b => exact ca_isi (.ty "str") tyd_bl (by unfold PySem.W.kitOne; first | rfl | decide +kernel) r
  | int i => exact ca_isi (.ty "str") tyd_int (by unfold PySem.W.kitOne; first | rfl | decide +kernel) r
  | tup l => exact ca_isi (.ty "str") tyd_tup (by unfold PySem.W.kitOne; first | rfl | decide +kernel) r
  | lst l => exact ca_isi (.ty "str") tyd_lst (by unfold PySem.W.kitOne; first | rfl | decide +kernel) r
  | dct ks l => exact ca_isi (.ty "str") tyd_dct (by unfold PySem.W.kitOne; first | rfl | decide +kernel) r
end
def alls4 : Nat → List Nat
  | 0 => []
  | n + 1 => [97, 108, 108, 32] ++ alls4 n
/-- a text that may be read: few alls, or nothing but alls -/
def rdOk (s : Str) : Prop := s.length ≤ 1000000 ∧ (cl (lets s) < 128 ∨ ∃ n, n ≤ 1000 ∧ lets s = alls4 n)
end N
set_option Elab.async false
set_option linter.all false
set_option maxRecDepth 100000
set_option maxHeartbeats 1000000
namespace N
open PySem PySem.Spec PyProof.Rows L2
open C8 (Cal Met Mak InsC pe_c pe_mt pe_mt0 pe_mk)
open TL (numL numL_lt numL_step numL_digits numL_ne int_num split_join joinL tl_join join_eq tl_num)
theorem str_lets (x : Str) : x.length = (lets x).length := str_len x
/-- a number's text -/
def numS (n : Nat) : Str := Str.ofString (toString ((n : Nat) : Int))
theorem numS_lets (n : Nat) : lets (numS n) = numL n := tl_num n
theorem numL_two {n : Nat} (h : 10 ≤ n) (h2 : n < 100) : numL n = [48 + n / 10, 48 + n % 10] := by
  rw [numL_step h, numL_lt (by omega)]
  rfl
theorem numS_len {n : Nat} (h : n < 100) : (numS n).length ≤ 2 ∧ (numS n).length ≠ 0 := by
  rw [str_lets, numS_lets]
  by_cases h2 : n < 10
  · rw [numL_lt h2]
    simp
  · rw [numL_two (by omega) h]
    simp
/-- the word of the letters -/
def wordL (s : Str) : Str := if s = "" then "-" else s
def lineL (s : Str) (r : List Nat) : List Str := wordL s :: r.map numS
def lineS (s : Str) (r : List Nat) : Str := Txt.join " " (lineL s r)
def Wb.lines (w : Wb) : List Str := List.zipWith lineS w.atoms w.below
def Wb.text (w : Wb) : Str := Txt.join "\n" w.lines
theorem joinL_mem {S : List Nat} {c : Nat} : ∀ {ps : List (List Nat)}, c ∈ joinL S ps → c ∈ S ∨ ∃ p ∈ ps, c ∈ p
  | [], h => by cases h
  | [p], h => .inr ⟨p, List.mem_singleton.mpr rfl, h⟩
  | p :: q :: r, h => by
    have h : c ∈ p ++ (S ++ joinL S (q :: r)) := h
    rcases List.mem_append.mp h with h | h
    · exact .inr ⟨p, List.mem_cons_self, h⟩
    · rcases List.mem_append.mp h with h | h
      · exact .inl h
      · rcases joinL_mem h with h | ⟨z, hz, hc⟩
        · exact .inl h
        · exact .inr ⟨z, List.mem_cons_of_mem _ hz, hc⟩
theorem lets_join (y : Str) (ps : List Str) : lets (Txt.join y ps) = joinL (lets y) (ps.map lets) := by
  rw [join_eq]
  exact tl_join y ps
theorem lines_len {w : Wb} (hw : w.ok) : w.lines.length = w.below.length := by
  unfold Wb.lines
  rw [List.length_zipWith, hw.len, Nat.min_self]
theorem lines_get {w : Wb} {i : Nat} {l : Str} (h : w.lines[i]? = some l) : ∃ s r, w.atoms[i]? = some s ∧ w.below[i]? = some r ∧ l = lineS s r := by
  unfold Wb.lines at h
  rw [List.getElem?_zipWith] at h
  cases h1 : w.atoms[i]? with
  | none => rw [h1] at h; cases h
  | some s =>
    cases h2 : w.below[i]? with
    | none => rw [h1, h2] at h; cases h
    | some r =>
      rw [h1, h2] at h
      exact ⟨s, r, rfl, rfl, (Option.some.inj h).symm⟩
/-- lengths -/
theorem joinL_len (S : List Nat) : ∀ (ps : List (List Nat)) (n : Nat), (∀ p ∈ ps, p.length ≤ n) → (joinL S ps).length ≤ ps.length * (n + S.length)
  | [], n, _ => by simp [joinL]
  | [p], n, h => by
    have := h p (List.mem_singleton.mpr rfl)
    show p.length ≤ _
    simp
    omega
  | p :: q :: r, n, h => by
    have h1 := h p List.mem_cons_self
    have h2 := joinL_len S (q :: r) n fun z hz => h z (List.mem_cons_of_mem _ hz)
    show (p ++ (S ++ joinL S (q :: r))).length ≤ _
    rw [List.length_append, List.length_append]
    have e : (p :: q :: r).length * (n + S.length) = (q :: r).length * (n + S.length) + (n + S.length) := by
      rw [List.length_cons, Nat.add_mul, Nat.one_mul]
    rw [e]
    omega
theorem join_len {y : Str} {ps : List Str} {n : Nat} (h : ∀ p ∈ ps, p.length ≤ n) : (Txt.join y ps).length ≤ ps.length * (n + y.length) := by
  rw [str_lets, lets_join, str_lets]
  have := joinL_len (lets y) (ps.map lets) n fun p hp => by
    obtain ⟨q, hq, rfl⟩ := List.mem_map.mp hp
    rw [← str_lets]
    exact h q hq
  rw [List.length_map] at this
  exact this
theorem sum_len {ps : List Str} {n : Nat} (h : ∀ p ∈ ps, p.length ≤ n) : (ps.map (·.length)).sum ≤ ps.length * n := by
  induction ps with
  | nil => simp
  | cons p ps ih =>
    have h1 := h p List.mem_cons_self
    have h2 := ih fun z hz => h z (List.mem_cons_of_mem _ hz)
    rw [List.map_cons, List.sum_cons, List.length_cons, Nat.add_mul, Nat.one_mul]
    omega
theorem word_len {s : Str} (h : s.length ≤ 100) : (wordL s).length ≤ 100 := by
  unfold wordL
  split
  · decide
  · exact h
structure LineOk (s : Str) (r : List Nat) : Prop where
  lets : letters s
  asc : (N.lets s).Pairwise (· < ·)
  few : r.length ≤ 63
  low : ∀ k ∈ r, k < 63
theorem LineOk.len {s : Str} {r : List Nat} (h : LineOk s r) : s.length ≤ 100 := letters_len h.lets h.asc
theorem LineOk.part {s : Str} {r : List Nat} (h : LineOk s r) : ∀ p ∈ lineL s r, p.length ≤ 100 := fun p hp => by
  rcases List.mem_cons.mp hp with rfl | hp
  · exact word_len h.len
  · obtain ⟨n, hn, rfl⟩ := List.mem_map.mp hp
    have := (numS_len (n := n) (by have := h.low n hn; omega)).1
    omega
theorem LineOk.parts {s : Str} {r : List Nat} (h : LineOk s r) : (lineL s r).length ≤ 64 := by
  have := h.few
  simp [lineL]
  omega
theorem LineOk.lenS {s : Str} {r : List Nat} (h : LineOk s r) : (lineS s r).length ≤ 6464 := by
  have h1 := join_len (y := " ") h.part
  have h2 := Nat.mul_le_mul_right (100 + (" " : Str).length) h.parts
  exact Nat.le_trans h1 (Nat.le_trans h2 (by decide))
theorem LineOk.sum {s : Str} {r : List Nat} (h : LineOk s r) : ((lineL s r).map (·.length)).sum + (lineL s r).length * (" " : Str).length ≤ 16777216 := by
  have h1 := sum_len h.part
  have h2 := h.parts
  have h3 : (" " : Str).length = 1 := rfl
  rw [h3]
  have := Nat.mul_le_mul_right 100 h2
  omega
theorem Wb.ok.line {w : Wb} (hw : w.ok) {i : Nat} {s : Str} {r : List Nat} (h1 : w.atoms[i]? = some s) (h2 : w.below[i]? = some r) : LineOk s r where
  lets := (hw.lets s (List.mem_of_getElem? h1)).1
  asc := (hw.lets s (List.mem_of_getElem? h1)).2
  few := by
    obtain ⟨a, b⟩ := hw.rows.asc i r h2
    have h3 := low_len (a.imp fun h => Nat.ne_of_lt h) b
    have := hw.rows.few
    have := (List.getElem?_eq_some_iff.mp h2).1
    omega
  low := fun k hk => by
    have h3 := (hw.rows.asc i r h2).2 k hk
    have := hw.rows.few
    have := (List.getElem?_eq_some_iff.mp h2).1
    omega
theorem lines_each {w : Wb} (hw : w.ok) : ∀ p ∈ w.lines, p.length ≤ 6464 := fun p hp => by
  obtain ⟨i, hi⟩ := List.getElem?_of_mem hp
  obtain ⟨s, r, h1, h2, rfl⟩ := lines_get hi
  exact (hw.line h1 h2).lenS
theorem lines_sum {w : Wb} (hw : w.ok) : (w.lines.map (·.length)).sum + w.lines.length * ("\n" : Str).length ≤ 16777216 := by
  have h1 := sum_len (lines_each hw)
  have h2 : w.lines.length ≤ 63 := by rw [lines_len hw]; exact hw.rows.few
  have h3 : ("\n" : Str).length = 1 := rfl
  rw [h3]
  have := Nat.mul_le_mul_right 6464 h2
  omega
section
variable {F : FmKit} {T : Kx} {W : Om} {R : D → Om → Prop}
theorem ca_strN {n : Nat} (hn : n < 1000) (r : R (.str (numS n)) W) : Ca F T (fun xs H Q => ∃ i : Int, xs = [.int i] ∧ i.natAbs.log2 < 1920 ∧ Q (.str (toString i)) H) [natD n] W R := cl_sc (xs := [.int (n : Nat)]) fun H Q k => ⟨_, rfl, by
  have : ((n : Nat) : Int).natAbs = n := rfl
  rw [this]
  have : n.log2 < 10 := by
    rcases Nat.eq_zero_or_pos n with e | e
    · rw [e]
      decide
    · exact (Nat.log2_lt (by omega)).mpr (by omega)
  omega, k _ r⟩
end
def S_lineof : FS := fun ds W post => ∃ (s : Str) (r : List Nat), ds = [rowD r, .str s] ∧ W = [] ∧ LineOk s r ∧ post (.str (lineS s r)) []
def S_strW : FS := fun ds W post => ∃ w : Wb, ds = [w.d] ∧ W = [] ∧ w.ok ∧ post (.str w.text) []
end N
namespace N
open PySem
theorem word_ways (s : Str) : (s = "" ∧ wordL s = "-") ∨ (s ≠ "" ∧ wordL s = s) := by
  unfold wordL
  by_cases h : s = ""
  · exact .inl ⟨h, if_pos h⟩
  · exact .inr ⟨h, if_neg h⟩
end N
set_option Elab.async false
set_option linter.all false
set_option maxRecDepth 100000
set_option maxHeartbeats 1000000
set_option Elab.async false
set_option linter.all false
set_option maxRecDepth 100000
set_option maxHeartbeats 1000000
namespace N
open PySem PySem.Spec PyProof.Rows L2
open TL (joinL tl_join join_eq)
/-- a text of small signs, so long, with so many l -/
structure txT (n c : Nat) (s : Str) : Prop where
  lo : ∀ x ∈ lets s, x < 200
  len : s.length ≤ n
  cl : cl (lets s) ≤ c
theorem txT.up {n c m d : Nat} {s : Str} (h : txT n c s) (h1 : n ≤ m) (h2 : c ≤ d) : txT m d s := ⟨h.lo, Nat.le_trans h.len h1, Nat.le_trans h.cl h2⟩
theorem txT.app {n c m d : Nat} {s t : Str} (h : txT n c s) (k : txT m d t) : txT (n + m) (c + d) (s ++ t) := by
  refine ⟨fun x hx => ?_, ?_, ?_⟩
  · rw [show lets (s ++ t) = lets s ++ lets t from TL.tl_append _ _] at hx
    exact (List.mem_append.mp hx).elim (h.lo x) (k.lo x)
  · rw [str_app_len]
    have := h.len
    have := k.len
    omega
  · rw [show lets (s ++ t) = lets s ++ lets t from TL.tl_append _ _, cl_app]
    have := h.cl
    have := k.cl
    omega
theorem cut_sub (s : Str) (lo hi : Option Int) : (lets (cutS s lo hi)).Sublist (lets s) := by
  unfold cutS
  exact (List.take_sublist _ _).trans (List.drop_sublist _ _)
theorem txT.cut {n c : Nat} {s : Str} (h : txT n c s) (lo hi : Option Int) : txT n c (cutS s lo hi) := by
  have hs := cut_sub s lo hi
  refine ⟨fun x hx => h.lo x (hs.subset hx), ?_, Nat.le_trans (hs.count_le _) h.cl⟩
  rw [str_len]
  refine Nat.le_trans hs.length_le ?_
  rw [← str_len]
  exact h.len
theorem txT.sg {c : Nat} (h : c < 200) : txT 1 1 (sg c) := ⟨fun x hx => by
  have hx : x ∈ [c] := hx
  rw [List.mem_singleton] at hx
  omega, Nat.le_refl _, by show [c].count 108 ≤ 1; exact Nat.le_trans (List.count_le_length) (Nat.le_refl 1)⟩
theorem cl_joinL {k : Nat} : ∀ (ps : List (List Nat)), (∀ p ∈ ps, cl p ≤ k) → cl (joinL [] ps) ≤ ps.length * k
  | [], _ => by simp [joinL, cl]
  | [p], h => by
    have := h p (List.mem_singleton.mpr rfl)
    show cl p ≤ _
    simp
    exact this
  | p :: q :: r, h => by
    have h1 := h p List.mem_cons_self
    have h2 := cl_joinL (q :: r) fun z hz => h z (List.mem_cons_of_mem _ hz)
    show cl (p ++ ([] ++ joinL [] (q :: r))) ≤ _
    rw [List.nil_append, cl_app]
    have e : (p :: q :: r).length * k = (q :: r).length * k + k := by
      rw [List.length_cons, Nat.add_mul, Nat.one_mul]
    rw [e]
    omega
theorem txT.join {n c : Nat} {ps : List Str} (h : ∀ p ∈ ps, txT n c p) : txT (ps.length * n) (ps.length * c) (Txt.join "" ps) := by
  refine ⟨fun x hx => ?_, ?_, ?_⟩
  · rw [lets_join] at hx
    rcases joinL_mem hx with hx | ⟨p, hp, hx⟩
    · cases hx
    · obtain ⟨q, hq, rfl⟩ := List.mem_map.mp hp
      exact (h q hq).lo x hx
  · exact join_len (y := "") fun p hp => (h p hp).len
  · rw [lets_join]
    have := cl_joinL (k := c) (ps.map lets) fun p hp => by
      obtain ⟨q, hq, rfl⟩ := List.mem_map.mp hp
      exact (h q hq).cl
    rw [List.length_map] at this
    exact this
theorem txT.rd {n c : Nat} {s : Str} (h : txT n c s) (hn : n ≤ 1000000) (hc : c < 128) : rdOk s := ⟨Nat.le_trans h.len hn, .inl (Nat.lt_of_le_of_lt h.cl hc)⟩
theorem sz_ht : ∀ f : Fm, f.sz + 5 ≤ 7 * 2 ^ f.ht
  | .at c => by show 1 + 5 ≤ 7 * 1; omega
  | .no => by show 2 + 5 ≤ 7 * 1; omega
  | .imp a b => by
    have h1 := sz_ht a
    have h2 := sz_ht b
    have h3 : 2 ^ a.ht ≤ 2 ^ max a.ht b.ht := Nat.pow_le_pow_right (by omega) (Nat.le_max_left _ _)
    have h4 : 2 ^ b.ht ≤ 2 ^ max a.ht b.ht := Nat.pow_le_pow_right (by omega) (Nat.le_max_right _ _)
    have h5 : 2 ^ (Fm.imp a b).ht = 2 * 2 ^ max a.ht b.ht := by
      simp only [Fm.ht]
      rw [Nat.pow_add, Nat.pow_one]
    have e : (Fm.imp a b).sz = 5 + a.sz + b.sz := rfl
    rw [e, h5]
    omega
  | .all a => by
    have h1 := sz_ht a
    have h5 : 2 ^ (Fm.all a).ht = 2 * 2 ^ a.ht := by
      simp only [Fm.ht]
      rw [Nat.pow_add, Nat.pow_one]
    have h6 : 1 ≤ 2 ^ a.ht := Nat.one_le_two_pow
    have e : (Fm.all a).sz = 4 + a.sz := rfl
    rw [e, h5]
    omega
def hw : D → Str × V
  | .vl (.str s) => if rdOf s = ([], true) then ("read", .str s) else ("bad", .int ((s.length - (rdOf s).1.length : Nat) : Int))
  | _ => ("bad", .int (-1))
end N
set_option Elab.async false
set_option linter.all false
set_option maxRecDepth 100000
set_option maxHeartbeats 1000000
namespace N
open PySem PySem.Spec PyProof.Rows L2
open TL (numL numL_lt numL_step numL_digits numL_ne numL_val numL_len int_num split_join joinL tl_join join_eq tl_num)
def sp1 (c : Nat) : List Nat → List (List Nat)
  | [] => [[]]
  | x :: t => if x = c then [] :: sp1 c t else match sp1 c t with
    | [] => [[x]]
    | p :: r => (x :: p) :: r
theorem sp1_ne (c : Nat) : ∀ l, sp1 c l ≠ []
  | [] => by simp [sp1]
  | x :: t => by
    unfold sp1
    split
    · simp
    · cases sp1 c t <;> simp
theorem sp1_no (c : Nat) : ∀ l, ∀ p ∈ sp1 c l, c ∉ p
  | [], p, h => by
    simp only [sp1, List.mem_singleton] at h
    subst h
    simp
  | x :: t, p, h => by
    have ih := sp1_no c t
    unfold sp1 at h
    split at h
    · rcases List.mem_cons.mp h with rfl | h
      · simp
      · exact ih p h
    · next hx =>
      cases e : sp1 c t with
      | nil => exact absurd e (sp1_ne c t)
      | cons q r =>
        rw [e] at h ih
        rcases List.mem_cons.mp h with rfl | h
        · intro hc
          rcases List.mem_cons.mp hc with e2 | hc
          · exact hx e2.symm
          · exact ih q List.mem_cons_self hc
        · exact ih p (List.mem_cons_of_mem _ h)
theorem sp1_sub (c : Nat) : ∀ l, ∀ p ∈ sp1 c l, ∀ x ∈ p, x ∈ l
  | [], p, h, x, hx => by
    simp only [sp1, List.mem_singleton] at h
    subst h
    exact hx
  | y :: t, p, h, x, hx => by
    have ih := sp1_sub c t
    unfold sp1 at h
    split at h
    · rcases List.mem_cons.mp h with rfl | h
      · cases hx
      · exact List.mem_cons_of_mem _ (ih p h x hx)
    · cases e : sp1 c t with
      | nil => exact absurd e (sp1_ne c t)
      | cons q r =>
        rw [e] at h ih
        rcases List.mem_cons.mp h with rfl | h
        · rcases List.mem_cons.mp hx with rfl | hx
          · exact List.mem_cons_self
          · exact List.mem_cons_of_mem _ (ih q List.mem_cons_self x hx)
        · exact List.mem_cons_of_mem _ (ih p (List.mem_cons_of_mem _ h) x hx)
theorem sp1_glue (c : Nat) : ∀ l, joinL [c] (sp1 c l) = l
  | [] => rfl
  | x :: t => by
    have ih := sp1_glue c t
    unfold sp1
    cases e : sp1 c t with
    | nil => exact absurd e (sp1_ne c t)
    | cons q r =>
      rw [e] at ih
      by_cases hx : x = c
      · rw [if_pos hx, hx]
        show [] ++ ([c] ++ joinL [c] (q :: r)) = _
        rw [ih]
        rfl
      · rw [if_neg hx]
        show joinL [c] ((x :: q) :: r) = _
        cases r with
        | nil =>
          have ih : q = t := ih
          rw [← ih]
          rfl
        | cons z r =>
          have ih : q ++ ([c] ++ joinL [c] (z :: r)) = t := ih
          rw [← ih]
          rfl
theorem sp1_len (c : Nat) : ∀ l, (sp1 c l).length = l.count c + 1
  | [] => rfl
  | x :: t => by
    have ih := sp1_len c t
    unfold sp1
    by_cases hx : x = c
    · rw [if_pos hx, hx, List.count_cons_self, List.length_cons, ih]
    · rw [if_neg hx, List.count_cons_of_ne hx]
      cases e : sp1 c t with
      | nil => exact absurd e (sp1_ne c t)
      | cons q r =>
        rw [e] at ih
        exact ih
theorem sp1_wt (c : Nat) : ∀ l, ((sp1 c l).map (·.length + 1)).sum = l.length + 1
  | [] => rfl
  | x :: t => by
    have ih := sp1_wt c t
    unfold sp1
    cases e : sp1 c t with
    | nil => exact absurd e (sp1_ne c t)
    | cons q r =>
      rw [e] at ih
      rw [List.map_cons, List.sum_cons] at ih
      split
      · rw [List.map_cons, List.sum_cons, List.map_cons, List.sum_cons, List.length_cons]
        show 0 + 1 + _ = _
        omega
      · show ((((x :: q) :: r)).map (·.length + 1)).sum = _
        rw [List.map_cons, List.sum_cons, List.length_cons, List.length_cons]
        omega
def mkS (l : List Nat) : Str := ⟨l.toArray⟩
/-- the parts of a text between a sign -/
def cutAt (c : Nat) (s : Str) : List Str := (sp1 c (lets s)).map mkS
theorem cutAt_ne (c : Nat) (s : Str) : cutAt c s ≠ [] := fun e => sp1_ne c (lets s) (List.map_eq_nil_iff.mp e)
theorem cutAt_no {c : Nat} {s p : Str} (h : p ∈ cutAt c s) : c ∉ lets p := by
  obtain ⟨l, hl, rfl⟩ := List.mem_map.mp h
  exact sp1_no c _ l hl
theorem cutAt_sub {c : Nat} {s p : Str} (h : p ∈ cutAt c s) {x : Nat} (hx : x ∈ lets p) : x ∈ lets s := by
  obtain ⟨l, hl, rfl⟩ := List.mem_map.mp h
  exact sp1_sub c _ l hl x hx
theorem cutAt_len (c : Nat) (s : Str) : (cutAt c s).length = (lets s).count c + 1 := by rw [cutAt, List.length_map, sp1_len]
theorem cutAt_wt (c : Nat) (s : Str) : ((cutAt c s).map (·.length + 1)).sum = s.length + 1 := by
  have e := sp1_wt c (lets s)
  rw [cutAt, List.map_map, str_len s]
  exact e
theorem wt_mem {p : Str} : ∀ {ps : List Str}, p ∈ ps → p.length + 1 ≤ (ps.map (·.length + 1)).sum
  | q :: ps, h => by
    rw [List.map_cons, List.sum_cons]
    rcases List.mem_cons.mp h with rfl | h
    · omega
    · have := wt_mem h
      omega
theorem cutAt_join {y : Str} {c : Nat} (hy : lets y = [c]) (s : Str) : Txt.join y (cutAt c s) = s := by
  rw [join_eq]
  refine str_ext ?_
  show lets (Str.join y (cutAt c s)) = _
  rw [show lets (Str.join y (cutAt c s)) = joinL (lets y) ((cutAt c s).map lets) from tl_join y _, hy, cutAt, List.map_map, show (lets ∘ mkS) = id from rfl, List.map_id, sp1_glue]
def digL (l : List Nat) : Bool := !l.isEmpty && l.all (fun c => decide (48 ≤ c ∧ c ≤ 57)) && !(decide (1 < l.length) && decide (l.head? = some 48))
theorem dig_num : ∀ (n : Nat) (l : List Nat), l.length = n → digL l = true → numL (NumText.digitsVal l) = l := by
  intro n
  induction n with
  | zero =>
    intro l hl h
    rw [List.length_eq_zero_iff.mp hl] at h
    cases h
  | succ n ih =>
    intro l' hl h
    obtain ⟨l, c, rfl⟩ : ∃ l c, l' = l ++ [c] := ⟨l'.dropLast, l'.getLast (fun e => by rw [e] at hl; cases hl), (List.dropLast_concat_getLast _).symm⟩
    rw [List.length_append, List.length_singleton] at hl
    have ih := ih l (by omega)
    unfold digL at h
    simp only [Bool.and_eq_true, Bool.not_eq_true', List.all_append, List.all_cons, List.all_nil, decide_eq_true_eq, Bool.and_true] at h
    obtain ⟨⟨_, h2, hc⟩, h3⟩ := h
    have ev : NumText.digitsVal (l ++ [c]) = NumText.digitsVal l * 10 + (c - 48) := by
      unfold NumText.digitsVal
      rw [List.foldl_append]
      rfl
    rw [ev]
    cases l with
    | nil =>
      show numL (0 * 10 + (c - 48)) = [c]
      rw [numL_lt (by omega)]
      congr 1
      omega
    | cons a t =>
      have ha : a ≠ 48 := fun e => by
        rw [e] at h3
        simp at h3
      have hd : digL (a :: t) = true := by
        unfold digL
        simp only [Bool.and_eq_true, Bool.not_eq_true', decide_eq_true_eq]
        refine ⟨⟨rfl, h2⟩, ?_⟩
        simp [ha]
      have ih := ih hd
      have hpos : 1 ≤ NumText.digitsVal (a :: t) := by
        rcases Nat.eq_zero_or_pos (NumText.digitsVal (a :: t)) with e | e
        · rw [e, numL_lt (by omega)] at ih
          injection ih with e1 e2
          exact absurd e1.symm ha
        · exact e
      rw [numL_step (by omega), show (NumText.digitsVal (a :: t) * 10 + (c - 48)) / 10 = NumText.digitsVal (a :: t) by omega, ih, show (NumText.digitsVal (a :: t) * 10 + (c - 48)) % 10 = c - 48 by omega]
      rw [show 48 + (c - 48) = c by omega]
/-- the number that a word writes -/
def numO (s : Str) : Option Nat := if digL (lets s) = true then some (NumText.digitsVal (lets s)) else none
theorem numO_some {s : Str} {n : Nat} (h : numO s = some n) : s = numS n ∧ digL (lets s) = true := by
  unfold numO at h
  split at h
  · next hd =>
    have h := Option.some.inj h
    refine ⟨str_ext ?_, hd⟩
    show lets s = lets (numS n)
    rw [numS_lets, ← h, dig_num _ _ rfl hd]
  · cases h
/-- ascending -/
def ascB : List Nat → Bool
  | a :: b :: t => decide (a < b) && ascB (b :: t)
  | _ => true
theorem ascB_iff : ∀ l : List Nat, ascB l = true ↔ l.Pairwise (· < ·)
  | [] => by simp [ascB]
  | [a] => by simp [ascB]
  | a :: b :: t => by
    have ih := ascB_iff (b :: t)
    unfold ascB
    rw [Bool.and_eq_true, decide_eq_true_eq, ih]
    constructor
    · rintro ⟨h1, h2⟩
      refine List.pairwise_cons.mpr ⟨fun x hx => ?_, h2⟩
      rcases List.mem_cons.mp hx with rfl | hx
      · exact h1
      · exact Nat.lt_trans h1 ((List.pairwise_cons.mp h2).1 x hx)
    · intro h
      exact ⟨(List.pairwise_cons.mp h).1 b List.mem_cons_self, (List.pairwise_cons.mp h).2⟩
/-- the truth of each neighbour pair -/
def ltL : List Nat → List Nat → List Bool
  | a :: x, b :: y => decide (a < b) :: ltL x y
  | _, _ => []
theorem ltL_all : ∀ l : List Nat, (ltL (l.take (l.length - 1)) (l.drop 1)).all id = ascB l
  | [] => rfl
  | [a] => rfl
  | a :: b :: t => by
    have ih := ltL_all (b :: t)
    show (ltL (a :: (b :: t).take t.length) (b :: t)).all id = _
    have e : (b :: t).length - 1 = t.length := rfl
    rw [e] at ih
    unfold ascB
    rw [← ih]
    rfl
theorem ltL_len : ∀ (x y : List Nat), (ltL x y).length = min x.length y.length
  | [], _ => by simp [ltL]
  | _ :: _, [] => by simp [ltL]
  | a :: x, b :: y => by
    have := ltL_len x y
    simp only [ltL, List.length_cons, this]
    omega
theorem ltL_get : ∀ {x y : List Nat} {i : Nat} {a b : Nat}, x[i]? = some a → y[i]? = some b → (ltL x y)[i]? = some (decide (a < b)) := by
  intro x
  induction x with
  | nil => intro y i a b h1; simp at h1
  | cons c x ih =>
    intro y i a b h1 h2
    cases y with
    | nil => simp at h2
    | cons d y =>
      cases i with
      | zero =>
        simp at h1 h2
        subst h1 h2
        rfl
      | succ i =>
        simp at h1 h2
        exact ih h1 h2
/-- the points that words tell, below a point -/
def allO : List (Option Nat) → Option (List Nat)
  | [] => some []
  | none :: _ => none
  | some n :: t => (allO t).map (n :: ·)
def belowB (i : Nat) (os : List (Option Nat)) : Bool := match allO os with
  | none => false
  | some r => r.all (fun k => decide (k < i)) && ascB r
theorem allO_some : ∀ {os : List (Option Nat)} {r : List Nat}, allO os = some r → os = r.map some
  | [], r, h => by
    cases h
    rfl
  | none :: _, r, h => by cases h
  | some n :: t, r, h => by
    unfold allO at h
    obtain ⟨r', h', rfl⟩ := Option.map_eq_some_iff.mp h
    rw [allO_some h']
    rfl
theorem allO_map (r : List Nat) : allO (r.map some) = some r := by
  induction r with
  | nil => rfl
  | cons a t ih => simp [allO, ih]
def rowO (i : Nat) (ws : List Str) : Option (List Nat) := if belowB i (ws.map numO) = true then allO (ws.map numO) else none
theorem rowO_some {i : Nat} {ws : List Str} {r : List Nat} (h : rowO i ws = some r) : ws.map numO = r.map some ∧ r.Pairwise (· < ·) ∧ (∀ k ∈ r, k < i) ∧ ws = r.map numS := by
  unfold rowO at h
  split at h
  · next hb =>
    unfold belowB at hb
    rw [h] at hb
    simp only [Bool.and_eq_true, List.all_eq_true, decide_eq_true_eq] at hb
    have e := allO_some h
    refine ⟨e, (ascB_iff r).mp hb.2, hb.1, ?_⟩
    clear hb h
    induction ws generalizing r with
    | nil =>
      cases r with
      | nil => rfl
      | cons => cases e
    | cons w ws ih =>
      cases r with
      | nil => cases e
      | cons n r =>
        rw [List.map_cons, List.map_cons] at e
        injection e with e1 e2
        rw [List.map_cons, ← ih e2]
        exact congrArg (· :: ws) (numO_some e1).1
  · cases h
def isLB (c : Nat) : Bool := decide ((65 ≤ c ∧ c ≤ 90) ∨ (97 ≤ c ∧ c ≤ 122))
def letB (s : Str) : Bool := (lets s).all isLB && ascB (lets s)
theorem letB_iff {s : Str} : letB s = true ↔ letters s ∧ (lets s).Pairwise (· < ·) := by
  unfold letB letters isLB
  rw [Bool.and_eq_true, List.all_eq_true, ascB_iff]
  simp only [decide_eq_true_eq]
def headB (s : Str) : Bool := decide (s = "-") || (!decide (s = "") && letB s)
/-- what a line tells -/
def lineO (i : Nat) (l : Str) : Option (Str × List Nat) := match cutAt 32 l with
  | [] => none
  | w :: ws => if headB w = true then (rowO i ws).map (fun r => (if w = "-" then ("" : Str) else w, r)) else none
theorem lineO_some {i : Nat} {l : Str} {x : Str × List Nat} (h : lineO i l = some x) :
    letters x.1 ∧ (lets x.1).Pairwise (· < ·) ∧ x.2.Pairwise (· < ·) ∧ (∀ k ∈ x.2, k < i) ∧ cutAt 32 l = lineL x.1 x.2 ∧ l = lineS x.1 x.2 := by
  unfold lineO at h
  split at h
  · cases h
  · next w ws e =>
    split at h
    · next hw =>
      obtain ⟨r, hr, rfl⟩ := Option.map_eq_some_iff.mp h
      obtain ⟨_, h1, h2, h3⟩ := rowO_some hr
      have hl : letters (if w = "-" then ("" : Str) else w) ∧ (lets (if w = "-" then ("" : Str) else w)).Pairwise (· < ·) ∧ w = wordL (if w = "-" then ("" : Str) else w) := by
        by_cases hm : w = "-"
        · rw [if_pos hm]
          exact ⟨fun c (hc : c ∈ ([] : List Nat)) => absurd hc List.not_mem_nil, List.Pairwise.nil, hm⟩
        · rw [if_neg hm]
          unfold headB at hw
          rw [decide_eq_false hm, Bool.false_or, Bool.and_eq_true, Bool.not_eq_true', decide_eq_false_iff_not] at hw
          obtain ⟨a, b⟩ := letB_iff.mp hw.2
          exact ⟨a, b, (if_neg hw.1).symm⟩
      have e2 : cutAt 32 l = lineL (if w = "-" then ("" : Str) else w) r := by
        rw [e, lineL, ← hl.2.2, ← h3]
      refine ⟨hl.1, hl.2.1, h1, h2, e2, ?_⟩
      rw [lineS, ← e2]
      exact (cutAt_join (y := " ") rfl l).symm
    · cases h
/-- what the lines tell, read so far -/
def Rd (ls : List Str) (i : Nat) (ps : List (Str × List Nat)) : Prop := ps.length = i ∧ ∀ (j : Nat) (p : Str × List Nat), ps[j]? = some p → ∃ l, ls[j]? = some l ∧ lineO j l = some p
theorem Rd.snoc {ls : List Str} {i : Nat} {ps : List (Str × List Nat)} (h : Rd ls i ps) {l : Str} {p : Str × List Nat} (h1 : ls[i]? = some l) (h2 : lineO i l = some p) : Rd ls (i + 1) (ps ++ [p]) := by
  refine ⟨by simp [h.1], fun j q hq => ?_⟩
  rcases Nat.lt_or_ge j ps.length with hj | hj
  · rw [List.getElem?_append_left hj] at hq
    exact h.2 j q hq
  · rw [List.getElem?_append_right hj] at hq
    have : j - ps.length = 0 := by
      have := (List.getElem?_eq_some_iff.mp hq).1
      simp at this
      omega
    rw [this] at hq
    simp at hq
    subst hq
    have e : j = i := by have := h.1; omega
    subst e
    exact ⟨l, h1, h2⟩
def webP14 (ps : List (Str × List Nat)) : Wb := ⟨ps.map (·.2), ps.map (·.1)⟩
theorem Rd.web {ls : List Str} {ps : List (Str × List Nat)} (h : Rd ls ls.length ps) (hne : ls ≠ []) (hf : ls.length ≤ 63) : (webP14 ps).ok ∧ (webP14 ps).lines = ls := by
  have hl : ps.length = ls.length := h.1
  constructor
  · refine ⟨⟨fun i r hr => ?_, ?_⟩, fun e => hne ?_, ?_, fun s hs => ?_⟩
    · have hr : (ps.map (·.2))[i]? = some r := hr
      rw [List.getElem?_map] at hr
      obtain ⟨p, hp, rfl⟩ := Option.map_eq_some_iff.mp hr
      obtain ⟨l, _, h2⟩ := h.2 i p hp
      have := lineO_some h2
      exact ⟨this.2.2.1, this.2.2.2.1⟩
    · show (ps.map (·.2)).length ≤ 63
      rw [List.length_map]
      omega
    · have e : ps.map (·.2) = [] := e
      rw [List.map_eq_nil_iff] at e
      rw [e] at hl
      exact List.length_eq_zero_iff.mp hl.symm
    · show (ps.map (·.1)).length = (ps.map (·.2)).length
      rw [List.length_map, List.length_map]
    · have hs : s ∈ ps.map (·.1) := hs
      obtain ⟨p, hp, rfl⟩ := List.mem_map.mp hs
      obtain ⟨i, hi⟩ := List.getElem?_of_mem hp
      obtain ⟨l, _, h2⟩ := h.2 i p hi
      have := lineO_some h2
      exact ⟨this.1, this.2.1⟩
  · refine List.ext_getElem? fun i => ?_
    unfold Wb.lines webP14
    rw [List.getElem?_zipWith, List.getElem?_map, List.getElem?_map]
    rcases Nat.lt_or_ge i ps.length with hi | hi
    · obtain ⟨l, h1, h2⟩ := h.2 i _ (List.getElem?_eq_getElem hi)
      rw [List.getElem?_eq_getElem hi, h1, (lineO_some h2).2.2.2.2.2]
      rfl
    · rw [List.getElem?_eq_none hi, List.getElem?_eq_none (by omega)]
      rfl
theorem Rd.text {s : Str} {ps : List (Str × List Nat)} (h : Rd (cutAt 10 s) (cutAt 10 s).length ps) (hf : (cutAt 10 s).length ≤ 63) : (webP14 ps).ok ∧ (webP14 ps).text = s := by
  obtain ⟨h1, h2⟩ := h.web (cutAt_ne 10 s) hf
  refine ⟨h1, ?_⟩
  rw [Wb.text, h2]
  exact cutAt_join (y := "\n") rfl s
def inB (i : Nat) (z : Int) : Bool := decide (0 ≤ z) && decide (z < (i : Int))
structure txN (n c : Nat) (s : Str) : Prop where
  lo : ∀ x ∈ lets s, x < 200
  len : s.length ≤ n
  cl : (lets s).count 10 ≤ c
theorem txN.up {n c m d : Nat} {s : Str} (h : txN n c s) (h1 : n ≤ m) (h2 : c ≤ d) : txN m d s := ⟨h.lo, Nat.le_trans h.len h1, Nat.le_trans h.cl h2⟩
theorem lets_app (s t : Str) : lets (s ++ t) = lets s ++ lets t := TL.tl_append _ _
theorem txN.app {n c m d : Nat} {s t : Str} (h : txN n c s) (k : txN m d t) : txN (n + m) (c + d) (s ++ t) := by
  refine ⟨fun x hx => ?_, ?_, ?_⟩
  · rw [lets_app] at hx
    exact (List.mem_append.mp hx).elim (h.lo x) (k.lo x)
  · rw [str_app_len]
    have := h.len
    have := k.len
    omega
  · rw [lets_app, List.count_append]
    have := h.cl
    have := k.cl
    omega
theorem txN.cut {n c : Nat} {s : Str} (h : txN n c s) (lo hi : Option Int) : txN n c (cutS s lo hi) := by
  have hs := cut_sub s lo hi
  refine ⟨fun x hx => h.lo x (hs.subset hx), ?_, Nat.le_trans (hs.count_le _) h.cl⟩
  rw [str_len]
  refine Nat.le_trans hs.length_le ?_
  rw [← str_len]
  exact h.len
/-- lists of texts: what they weigh -/
def wtS (ls : List Str) : Nat := (ls.map (·.length + 1)).sum
theorem wt_nil : wtS [] = 0 := rfl
theorem wt_cons (x : Str) (l : List Str) : wtS (x :: l) = x.length + 1 + wtS l := by simp [wtS]
theorem wt_app (l m : List Str) : wtS (l ++ m) = wtS l + wtS m := by simp [wtS]
theorem wt_set : ∀ {l : List Str} {i : Nat} {a : Str} (b : Str), l[i]? = some a → wtS (l.set i b) + (a.length + 1) = wtS l + (b.length + 1)
  | x :: l, 0, a, b, h => by
    simp at h
    subst h
    rw [List.set_cons_zero, wt_cons, wt_cons]
    omega
  | x :: l, i + 1, a, b, h => by
    simp at h
    have := wt_set b h
    rw [List.set_cons_succ, wt_cons, wt_cons]
    omega
theorem wt_cut {l : List Str} {i : Nat} {a : Str} (h : l[i]? = some a) : wtS (l.take i) + (a.length + 1) + wtS (l.drop (i + 1)) = wtS l := by
  have e : l = l.take i ++ a :: l.drop (i + 1) := by
    obtain ⟨h1, h2⟩ := List.getElem?_eq_some_iff.mp h
    rw [← h2, List.getElem_cons_drop, List.take_append_drop]
  conv => rhs; rw [e]
  rw [wt_app, wt_cons]
  omega
structure lsW (n : Nat) (ls : List Str) : Prop where
  lo : ∀ p ∈ ls, ∀ x ∈ lets p, x < 200
  no : ∀ p ∈ ls, 10 ∉ lets p
  wt : wtS ls ≤ n
theorem lsW.each {n : Nat} {ls : List Str} (h : lsW n ls) {p : Str} (hp : p ∈ ls) : p.length + 1 ≤ n := Nat.le_trans (wt_mem hp) h.wt
theorem lsW.up {n m : Nat} {ls : List Str} (h : lsW n ls) (h1 : n ≤ m) : lsW m ls := ⟨h.lo, h.no, Nat.le_trans h.wt h1⟩
theorem wt_ge (l : List Str) : l.length ≤ wtS l := by
  induction l with
  | nil => simp [wtS]
  | cons x l ih =>
    rw [wt_cons, List.length_cons]
    omega
theorem lsW.few {n : Nat} {ls : List Str} (h : lsW n ls) : ls.length ≤ n := Nat.le_trans (wt_ge ls) h.wt
theorem lsW.ins {n m : Nat} {ls : List Str} (h : lsW n ls) (i : Nat) {x : Str} (h1 : ∀ c ∈ lets x, c < 200) (h2 : 10 ∉ lets x) (h3 : x.length + 1 ≤ m) : lsW (n + m) (ls.take i ++ [x] ++ ls.drop i) := by
  have hm : ∀ {p : Str}, p ∈ ls.take i ++ [x] ++ ls.drop i → p = x ∨ p ∈ ls := fun {p} hp => by
    rcases List.mem_append.mp hp with hp | hp
    · rcases List.mem_append.mp hp with hp | hp
      · exact .inr (List.mem_of_mem_take hp)
      · exact .inl (List.mem_singleton.mp hp)
    · exact .inr (List.mem_of_mem_drop hp)
  refine ⟨fun p hp => (hm hp).elim (fun e => e ▸ h1) (h.lo p), fun p hp => (hm hp).elim (fun e => e ▸ h2) (h.no p), ?_⟩
  have e : N.wtS ls = N.wtS (ls.take i) + N.wtS (ls.drop i) := by rw [← wt_app, List.take_append_drop]
  have := h.wt
  rw [wt_app, wt_app, wt_cons, wt_nil]
  omega
theorem lsW.set {n m : Nat} {ls : List Str} (h : lsW n ls) {i : Nat} (hi : i < ls.length) {x : Str} (h1 : ∀ c ∈ lets x, c < 200) (h2 : 10 ∉ lets x) (h3 : x.length + 1 ≤ m) : lsW (n + m) (ls.set i x) := by
  refine ⟨fun p hp => (List.mem_or_eq_of_mem_set hp).elim (h.lo p) (fun e => e ▸ h1), fun p hp => (List.mem_or_eq_of_mem_set hp).elim (h.no p) (fun e => e ▸ h2), ?_⟩
  have := wt_set x (List.getElem?_eq_getElem hi)
  have := h.wt
  omega
theorem joinL_wt (c : Nat) : ∀ (ps : List (List Nat)), ps ≠ [] → (joinL [c] ps).length + 1 = (ps.map (·.length + 1)).sum
  | [], h => absurd rfl h
  | [p], _ => by simp [joinL]
  | p :: q :: r, _ => by
    have ih := joinL_wt c (q :: r) (by simp)
    show (p ++ ([c] ++ joinL [c] (q :: r))).length + 1 = _
    rw [List.map_cons, List.sum_cons, ← ih]
    simp
    omega
theorem joinL_cl (c : Nat) : ∀ (ps : List (List Nat)), (∀ p ∈ ps, 10 ∉ p) → (joinL [c] ps).count 10 ≤ if c = 10 then ps.length - 1 else 0
  | [], _ => by simp [joinL]
  | [p], h => by
    have := List.count_eq_zero.mpr (h p (List.mem_singleton.mpr rfl))
    show p.count 10 ≤ _
    omega
  | p :: q :: r, h => by
    have ih := joinL_cl c (q :: r) fun z hz => h z (List.mem_cons_of_mem _ hz)
    have := List.count_eq_zero.mpr (h p List.mem_cons_self)
    show (p ++ ([c] ++ joinL [c] (q :: r))).count 10 ≤ _
    rw [List.count_append, this, List.count_append]
    split at ih
    · next e =>
      rw [if_pos e]
      have e3 : ([c] : List Nat).count 10 ≤ 1 := List.count_le_length
      simp only [List.length_cons] at ih ⊢
      omega
    · next e =>
      rw [if_neg e]
      have : ([c] : List Nat).count 10 = 0 := List.count_eq_zero.mpr (by simp; exact fun h => e h.symm)
      omega
theorem lsW.join {n : Nat} {ls : List Str} {y : Str} {c : Nat} (h : lsW n ls) (hy : lets y = [c]) (hc : c < 200) (hn : ls ≠ []) : txN (n - 1) (if c = 10 then ls.length - 1 else 0) (Txt.join y ls) := by
  have e : lets (Txt.join y ls) = joinL [c] (ls.map lets) := by rw [lets_join, hy]
  refine ⟨fun x hx => ?_, ?_, ?_⟩
  · rw [e] at hx
    rcases joinL_mem hx with hx | ⟨p, hp, hx⟩
    · rw [List.mem_singleton] at hx
      omega
    · obtain ⟨q, hq, rfl⟩ := List.mem_map.mp hp
      exact h.lo q hq x hx
  · have := joinL_wt c (ls.map lets) (by simpa using hn)
    rw [str_lets, e]
    have e2 : ((ls.map lets).map (·.length + 1)).sum = wtS ls := by
      rw [List.map_map]
      rfl
    have := h.wt
    omega
  · rw [e]
    have := joinL_cl c (ls.map lets) fun p hp => by
      obtain ⟨q, hq, rfl⟩ := List.mem_map.mp hp
      exact h.no q hq
    rw [List.length_map] at this
    exact this
theorem txN.lines {n c : Nat} {s : Str} (h : txN n c s) : lsW (n + 1) (cutAt 10 s) ∧ (cutAt 10 s).length ≤ c + 1 := by
  refine ⟨⟨fun p hp x hx => h.lo x (cutAt_sub hp hx), fun p hp => cutAt_no hp, ?_⟩, ?_⟩
  · show ((cutAt 10 s).map _).sum ≤ _
    rw [cutAt_wt]
    have := h.len
    omega
  · rw [cutAt_len]
    have := h.cl
    omega
theorem txN.sg {c : Nat} (h : c < 200) : txN 1 1 (sg c) := ⟨fun x hx => by
  have hx : x ∈ [c] := hx
  rw [List.mem_singleton] at hx
  omega, Nat.le_refl _, by show [c].count 10 ≤ 1; exact Nat.le_trans (List.count_le_length) (Nat.le_refl 1)⟩
theorem fltE (es : List (Bool × D)) : ((es.filter (·.1)).map (·.2)).isEmpty = es.all (fun e => !e.1) := by
  induction es with
  | nil => rfl
  | cons e es ih =>
    obtain ⟨b, d⟩ := e
    cases b with
    | true => simp
    | false =>
      rw [List.filter_cons_of_neg (by simp), ih]
      simp
def ltE (bs : List Bool) : List (Bool × D) := bs.map fun b => (!b, D.int 1)
theorem ltE_all (bs : List Bool) : ((((ltE bs).filter (·.1)).map (·.2)).isEmpty) = bs.all id := by
  rw [fltE, ltE, List.all_map]
  congr 1
  funext b
  cases b <;> rfl
def lsE (s : Str) : List (Bool × D) := (lets s).map fun c => (!isLB c, D.str ⟨#[c]⟩)
theorem lsE_all (s : Str) : (((lsE s).filter (·.1)).map (·.2)).isEmpty = (lets s).all isLB := by
  rw [fltE, lsE, List.all_map]
  congr 1
  funext c
  exact Bool.not_not _
def inE (i : Nat) (zs : List Int) : List (Bool × D) := zs.map fun z => (!inB i z, D.int z)
theorem inE_all (i : Nat) (zs : List Int) : (((inE i zs).filter (·.1)).map (·.2)).isEmpty = zs.all (inB i) := by
  rw [fltE, inE, List.all_map]
  congr 1
  funext c
  exact Bool.not_not _
theorem sig_dec (c : Nat) : decide (c ∈ ("ABCDEFGHIJKLMNOPQRSTUVWXYZabcdefghijklmnopqrstuvwxyz" : Str).cps.toList) = isLB c := by
  unfold isLB
  refine decide_eq_decide.mpr ?_
  have e1 : ("ABCDEFGHIJKLMNOPQRSTUVWXYZabcdefghijklmnopqrstuvwxyz" : Str).cps.toList = [65, 66, 67, 68, 69, 70, 71, 72, 73, 74, 75, 76, 77, 78, 79, 80, 81, 82, 83, 84, 85, 86, 87, 88, 89, 90, 97, 98, 99, 100, 101, 102, 103, 104, 105, 106, 107, 108, 109, 110, 111, 112, 113, 114, 115, 116, 117, 118, 119, 120, 121, 122] := by decide +kernel
  rw [e1]
  simp only [List.mem_cons, List.not_mem_nil, or_false]
  omega
end N
set_option Elab.async false
set_option linter.all false
set_option maxRecDepth 100000
namespace N
open PySem L2
section
variable {F : FmKit} {T : Kx} {C H H' O O' : Hp} {G : Gm} {W W' W1 W2 : Om} {σ : St} {R : D → Om → Prop}
theorem bo_notInSg {c : Nat} {z : Str} (r : R (.bl (!decide (c ∈ z.cps.toList))) W) : Bo F T (fun x y H Q => ∃ (c : Nat) (z : Str), x = .str ⟨#[c]⟩ ∧ y = .str z ∧ Q (.bl (!decide (c ∈ z.cps.toList))) H) (.str (sg c)) (.str z) W R := op_sc fun H Q k => ⟨c, z, rfl, rfl, k _ r⟩
end
end N
set_option Elab.async false
set_option linter.all false
set_option maxRecDepth 100000
set_option maxHeartbeats 1000000
set_option Elab.async false
set_option linter.all false
set_option maxRecDepth 100000
set_option maxHeartbeats 1000000
namespace N
open PySem PySem.Spec PyProof.Rows L2
/-- all that went by are points below -/
def goodO (i : Nat) (os : List (Option Nat)) : Prop := ∀ o ∈ os, ∃ n, o = some n ∧ n < i
theorem goodO.all {i : Nat} {os : List (Option Nat)} (h : goodO i os) : ∃ r : List Nat, os = r.map some ∧ belowB i os = ascB r := by
  have : ∃ r : List Nat, os = r.map some ∧ ∀ k ∈ r, k < i := by
    induction os with
    | nil => exact ⟨[], rfl, by simp⟩
    | cons o os ih =>
      obtain ⟨r, h1, h2⟩ := ih fun x hx => h x (List.mem_cons_of_mem _ hx)
      obtain ⟨n, rfl, h3⟩ := h o List.mem_cons_self
      refine ⟨n :: r, by rw [List.map_cons, h1], fun k hk => ?_⟩
      rcases List.mem_cons.mp hk with rfl | hk
      · exact h3
      · exact h2 k hk
  obtain ⟨r, h1, h2⟩ := this
  refine ⟨r, h1, ?_⟩
  unfold belowB
  rw [h1, allO_map]
  dsimp only
  rw [show r.all (fun k => decide (k < i)) = true from List.all_eq_true.mpr fun k hk => decide_eq_true (h2 k hk), Bool.true_and]
theorem goodO.take {i j : Nat} {os : List (Option Nat)} {n : Nat} (h : goodO i (os.take j)) (h1 : os[j]? = some (some n)) (h2 : n < i) : goodO i (os.take (j + 1)) := by
  rw [List.take_add_one, h1]
  intro o ho
  rcases List.mem_append.mp ho with ho | ho
  · exact h o ho
  · simp at ho
    exact ⟨n, ho, h2⟩
def isLs (s : Str) : List Bool := (lets s).map isLB
theorem isLs_all (s : Str) : (isLs s).all id = (lets s).all isLB := by
  unfold isLs
  rw [List.all_map]
  rfl
theorem isLB_sg (c : Nat) : isLet (sg c) = isLB c := by
  rw [isLet_sg]
  unfold isLB
  rfl
def S_ascendX : FS := fun ds W post => ∃ d, ds = [d] ∧ W = [] ∧ ((∃ r : List Nat, d = rowD r ∧ r.length ≤ 5000 ∧ post (.bl (ascB r)) []) ∨ ∃ s : Str, d = .str s ∧ s.length ≤ 5000 ∧ post (.bl (ascB (lets s))) [])
end N
namespace N
open PySem
theorem lt_sg (a b : Nat) : decide ((sg a).cps.toList < (sg b).cps.toList) = decide (a < b) := by
  refine decide_eq_decide.mpr ⟨fun h => ?_, fun h => List.Lex.rel h⟩
  have h : [a] < [b] := h
  cases h with
  | rel h => exact h
  | cons h => cases h
end N
namespace N
open PySem PySem.Spec PyProof.Rows L2
theorem cutD_pre (l : List D) (m : Nat) : cutD l none (some ((m : Nat) : Int)) = l.take m := by
  unfold cutD
  have e : HT.sIx l.length l.length (some ((m : Nat) : Int)) = min m l.length := HT.sIx_nat l.length l.length m
  rw [e, show HT.sIx l.length 0 none = 0 from rfl]
  rcases Nat.le_total m l.length with h | h
  · rw [Nat.min_eq_left h]; simp
  · rw [Nat.min_eq_right h, List.take_of_length_le h]; simp
theorem cutD_suf (l : List D) (m : Nat) : cutD l (some ((m : Nat) : Int)) none = l.drop m := by
  unfold cutD
  rw [show HT.sIx l.length 0 (some ((m : Nat) : Int)) = min m l.length from HT.sIx_nat l.length 0 m, show HT.sIx l.length l.length none = l.length from rfl]
  rw [List.take_of_length_le (by simp)]
  rcases Nat.le_total m l.length with h | h
  · rw [Nat.min_eq_left h]
  · rw [Nat.min_eq_right h, List.drop_length, List.drop_eq_nil_of_le h]
theorem at_nth {α : Type} {l : List α} {k : Nat} {x : α} (h : l[k]? = some x) : atI l ((k : Nat) : Int) = some x := by
  unfold atI
  rw [ixN_nat (List.getElem?_eq_some_iff.mp h).1]
  exact h
/-- a line otherwise among lines -/
theorem lsW.line {n k : Nat} {ls : List Str} {l x : Str} (h : lsW n ls) (hl : ls[k]? = some l) (h1 : ∀ c ∈ lets x, c < 200) (h2 : 10 ∉ lets x) (h3 : x.length + 1 ≤ 2 * (l.length + 1) + 21) :
    lsW (2 * n + 21) (ls.take k ++ [x] ++ ls.drop (k + 1)) ∧ (ls.take k ++ [x] ++ ls.drop (k + 1)).length = ls.length := by
  have hm : ∀ {p : Str}, p ∈ ls.take k ++ [x] ++ ls.drop (k + 1) → p = x ∨ p ∈ ls := fun {p} hp => by
    rcases List.mem_append.mp hp with hp | hp
    · rcases List.mem_append.mp hp with hp | hp
      · exact .inr (List.mem_of_mem_take hp)
      · exact .inl (List.mem_singleton.mp hp)
    · exact .inr (List.mem_of_mem_drop hp)
  have hk := (List.getElem?_eq_some_iff.mp hl).1
  refine ⟨⟨fun p hp => (hm hp).elim (fun e => e ▸ h1) (h.lo p), fun p hp => (hm hp).elim (fun e => e ▸ h2) (h.no p), ?_⟩, ?_⟩
  · have e := wt_cut hl
    have := h.wt
    rw [wt_app, wt_app, wt_cons, wt_nil]
    omega
  · simp
    omega
end N
set_option Elab.async false
set_option linter.all false
set_option maxRecDepth 100000
set_option maxHeartbeats 1000000
namespace N
open PySem PySem.Spec PyProof.Rows L2
def rSortedDN : List V → Hp → VK → Prop := fun xs H Q => ∃ (a : Addr) (ps : List (Key × V)) (ks : List Int), xs = [.ref a] ∧ L2.Rd H a (.dK ps) ∧ ps.map (·.1) = ks.map Sum.inl ∧ ks.length < 6000 ∧
  ∀ (ys : List Int) (p : Addr), ys.Perm ks → ys.Pairwise (· ≤ ·) → H p = none → Q (.ref p) (upd H p (.lst (ys.map V.int)))
theorem cr_sortedDN {X : Cx} (hc : X.calm = true) : CallR X (.builtin "sorted") rSortedDN := by
  intro pins s σ H xs us Q I r hh
  obtain ⟨a, ps, ks, rfl, hd, hk, hz, q⟩ := hh
  rw [Vals.ref1 r]
  obtain ⟨_, lo, vs, rel, dd⟩ := dk_rd I.hok hd
  obtain ⟨ep, hat⟩ := dd.dictAt
  have hkv : vs.map (·.1) = ks.map Sum.inl := rel.keys.symm.trans hk
  have hn : vs.length = ks.length := by simpa using congrArg List.length hkv
  have h16 := sizeLine_eq
  refine Calls.call_function_entry kind_sorted plain_sorted entry_sorted (args_sorted1 _) ?_
  unfold Builtin.«sorted»
  refine wpAny_bind (m := checkCount "sorted" 1 1 _) (wpAny_pure (wpAny_bind (PySem.W.kdu_collect (A := X.A.in1) (PySem.W.kdl_dict (knd := mixKind X.prog X.w) (kvs := vs) (ep := ep) lo) (I.ok.hd hc) hat (by omega) fun hp tk acc keep got => ?_)))
  obtain ⟨l⟩ := acc
  have hl : l.length = ks.length := got.1.trans hn
  have hI : IntsAre l ks := ints_each hl fun j v e => by
    obtain ⟨k, x, e1, e2⟩ := got.2 j v (by simpa using e)
    have e3 : (ks.map Sum.inl)[j]? = some k := by rw [← hkv, List.getElem?_map, e1]; rfl
    rw [List.getElem?_map] at e3
    obtain ⟨y, e4, rfl⟩ := Option.map_eq_some_iff.mp e3
    rcases keyIs_shape (show keyIs (Sum.inl y) v = true from e2) with ⟨i, t, ek, ev⟩ | ⟨z, t, ek, _⟩
    · cases ek
      exact ⟨y, t, e4, ev⟩
    · cases ek
  have I1 : Inv X pins σ H { s with heap := hp, toks := tk } := I.kept keep
  refine wpAny_bind (wpAny_newList ?_ (by show l.length ≤ _; omega))
  have hoL : (hp.push (seqObj "list" l.toArray 0)).get? hp.objs.size = some (seqObj "list" l.toArray 0) := Heap.get?_push_size _ rfl
  refine wpAny_bind (wpAny_holding (wpAny_call_entry slot_list_sort ⟨_, hoL, rfl⟩ entry_list_sort (list_sort_treeAny (s := { s with heap := hp.push (seqObj "list" l.toArray 0), toks := tk }) hoL hI (by omega) fun out ys a1 a2 a3 => ⟨_, rfl, ?_⟩) (args_list_sort _)))
  obtain ⟨c, hc⟩ := sortedHeap_at (vs := l) (out := out) hoL
  have hlen : (ys.map V.int).length ≤ sizeLine := by rw [List.length_map, a2.length_eq]; omega
  refine wpAny_pure ⟨_, rfl, .ref hp.objs.size, _, I1.laid (t' := tk) (fun b u e => ?_) (Nat.le_refl _) (show ObjOk X.prog X.w _ _ _ (.lst (ys.map V.int)) from ⟨hlen, out.toList, c, vals_of_ints a1, hc⟩), rfl, q ys _ a2 a3 (I1.hok.fresh (Nat.le_refl _))⟩
  have lt : b < hp.objs.size := Heap.lt_size e
  rw [sortedHeap_old (Nat.ne_of_lt lt) (by rw [size_push']; exact Nat.lt_succ_of_lt lt)]
  exact Heap.get?_push_of_some _ e
section
variable {F : FmKit} {T : Kx} {W : Om} {R : D → Om → Prop} {d : D}
theorem ca_sortedDN {ps : List (Key × D)} {ks : List Int} (hv : Vd W d ps) (hk : ps.map (·.1) = ks.map Sum.inl) (hl : ks.length < 6000) (r : ∀ ys : List Int, ys.Perm ks → ys.Pairwise (· ≤ ·) → R (.lst (ys.map D.int)) W) : Ca F T rSortedDN [d] W R := ca_one fun C H O di oc ow x k Q q => by
  obtain ⟨a, kvs, e, h1, h2, _, _⟩ := hv.at di ow k
  refine ⟨a, kvs, ks, by rw [e], .inl h1, h2.trans hk, hl, fun ys p hp hs hn => ?_⟩
  obtain ⟨n2, e2, _⟩ := (Nx.refl (F := F) (T := T) di oc ow).newF (o := .lst (ys.map V.int)) hn
  rw [e2]
  have kl := DenL.vls (F := F) (T := T) (H := upd H p (.lst (ys.map V.int))) (ys.map V.int)
  rw [List.map_map] at kl
  exact q _ W _ O _ (r ys hp hs) n2 ⟨p, _, rfl, upd_same, kl⟩
end
mutual
/-- a value as a datum: its dicts are empty -/
def uD : PyData → D
  | .none => .vl .non
  | .bool b => .vl (.bl b)
  | .int i => .vl (.int i)
  | .str s => .vl (.str s)
  | .list l => .lst (uL l)
  | .tuple l => .tup (uL l)
  | .dict _ => .dct [] []
def uL : List PyData → List D
  | [] => []
  | p :: l => uD p :: uL l
end
theorem uL_map : ∀ l : List PyData, uL l = l.map uD
  | [] => rfl
  | p :: l => by simp only [uL, uL_map l, List.map_cons]
theorem uD_tup (l : List PyData) : uD (.tuple l) = .tup (l.map uD) := by simp only [uD, uL_map]
theorem uD_lst (l : List PyData) : uD (.list l) = .lst (l.map uD) := by simp only [uD, uL_map]
mutual
def uB (m : Nat) : PyData → Bool
  | .none => true
  | .bool _ => true
  | .int i => decide (i.natAbs ≤ 10 ^ 39 + m)
  | .str s => (lets s).all fun c => decide (c < 128)
  | .list l => uBL m l
  | .tuple l => uBL m l
  | .dict ps => ps.isEmpty
def uBL (m : Nat) : List PyData → Bool
  | [] => true
  | p :: l => uB m p && uBL m l
end
theorem uBL_all (m : Nat) : ∀ l : List PyData, uBL m l = l.all (uB m)
  | [] => rfl
  | p :: l => by simp only [uBL, uBL_all m l, List.all_cons]
theorem dep_all {k : Nat} : ∀ l : List PyData, PyData.depthAll l ≤ k ↔ ∀ x ∈ l, x.depth ≤ k
  | [] => by simp [PyData.depthAll]
  | p :: l => by
    have := dep_all (k := k) l
    simp only [PyData.depthAll, List.forall_mem_cons, ← this]
    omega
theorem bulk_all : ∀ l : List PyData, PyData.bulkAll l = (l.map fun p => p.bulk + 1).sum
  | [] => rfl
  | p :: l => by simp only [PyData.bulkAll, bulk_all l, List.map_cons, List.sum_cons]
/-- how great a value is: its ints, its depth, its signs and items -/
structure Uk (m k n : Nat) (p : PyData) : Prop where
  ub : uB m p = true
  dp : p.depth ≤ k
  bk : p.bulk ≤ n
theorem Uk.up {m k n m' k' n' : Nat} {p : PyData} (h : Uk m k n p) (h1 : m ≤ m') (h2 : k ≤ k') (h3 : n ≤ n') : Uk m' k' n' p := by
  refine ⟨?_, Nat.le_trans h.dp h2, Nat.le_trans h.bk h3⟩
  have g := h.ub
  clear h
  have go : (∀ p : PyData, uB m p = true → uB m' p = true) ∧ ∀ l : List PyData, uBL m l = true → uBL m' l = true := by
    constructor
    · exact PyData.rec (motive_1 := fun p => uB m p = true → uB m' p = true) (motive_2 := fun l => uBL m l = true → uBL m' l = true) (motive_3 := fun _ => True) (motive_4 := fun _ => True)
        (fun h => h) (fun _ h => h) (fun i h => by simp only [uB, decide_eq_true_eq] at h ⊢; omega) (fun _ h => h) (fun _ ih h => ih h) (fun _ ih h => ih h) (fun _ _ h => h)
        (fun h => h) (fun p l ih1 ih2 h => by simp only [uBL, Bool.and_eq_true] at h ⊢; exact ⟨ih1 h.1, ih2 h.2⟩) trivial (fun _ _ _ _ => trivial) (fun _ _ _ _ => trivial)
    · exact PyData.rec_1 (motive_1 := fun p => uB m p = true → uB m' p = true) (motive_2 := fun l => uBL m l = true → uBL m' l = true) (motive_3 := fun _ => True) (motive_4 := fun _ => True)
        (fun h => h) (fun _ h => h) (fun i h => by simp only [uB, decide_eq_true_eq] at h ⊢; omega) (fun _ h => h) (fun _ ih h => ih h) (fun _ ih h => ih h) (fun _ _ h => h)
        (fun h => h) (fun p l ih1 ih2 h => by simp only [uBL, Bool.and_eq_true] at h ⊢; exact ⟨ih1 h.1, ih2 h.2⟩) trivial (fun _ _ _ _ => trivial) (fun _ _ _ _ => trivial)
  exact go.1 p g
theorem uB_tup {m : Nat} (l : List PyData) : uB m (.tuple l) = l.all (uB m) := by simp only [uB, uBL_all]
theorem uB_lst {m : Nat} (l : List PyData) : uB m (.list l) = l.all (uB m) := by simp only [uB, uBL_all]
/-- the sum of what items weigh -/
def bkS (l : List PyData) : Nat := (l.map fun p => p.bulk + 1).sum
theorem bkS_mem : ∀ {l : List PyData} {p : PyData}, p ∈ l → p.bulk + 1 ≤ bkS l
  | q :: l, p, h => by
    have e : bkS (q :: l) = q.bulk + 1 + bkS l := rfl
    rcases List.mem_cons.mp h with rfl | h
    · omega
    · have := bkS_mem h
      omega
theorem bkS_len (l : List PyData) : l.length ≤ bkS l := by
  induction l with
  | nil => exact Nat.zero_le _
  | cons p l ih =>
    have e : bkS (p :: l) = p.bulk + 1 + bkS l := rfl
    rw [List.length_cons]
    omega
theorem bkS_app (l m : List PyData) : bkS (l ++ m) = bkS l + bkS m := by simp [bkS]
/-- items that are small -/
structure Ul (m k n : Nat) (l : List PyData) : Prop where
  each : ∀ p ∈ l, uB m p = true ∧ p.depth ≤ k
  bk : bkS l ≤ n
theorem Uk.tup {m k n : Nat} {l : List PyData} : Uk m (k + 1) n (.tuple l) ↔ Ul m k n l := by
  constructor
  · rintro ⟨h1, h2, h3⟩
    rw [uB_tup, List.all_eq_true] at h1
    have h2 : PyData.depthAll l ≤ k := by simp only [PyData.depth] at h2; omega
    have h2 := (dep_all l).mp h2
    simp only [PyData.bulk, bulk_all] at h3
    exact ⟨fun p hp => ⟨h1 p hp, h2 p hp⟩, h3⟩
  · rintro ⟨h1, h2⟩
    refine ⟨by rw [uB_tup, List.all_eq_true]; exact fun p hp => (h1 p hp).1, ?_, by simp only [PyData.bulk, bulk_all]; exact h2⟩
    have := (dep_all (k := k) l).mpr fun p hp => (h1 p hp).2
    simp only [PyData.depth]
    omega
theorem Uk.lst {m k n : Nat} {l : List PyData} : Uk m (k + 1) n (.list l) ↔ Ul m k n l := by
  constructor
  · rintro ⟨h1, h2, h3⟩
    rw [uB_lst, List.all_eq_true] at h1
    have h2 : PyData.depthAll l ≤ k := by simp only [PyData.depth] at h2; omega
    have h2 := (dep_all l).mp h2
    simp only [PyData.bulk, bulk_all] at h3
    exact ⟨fun p hp => ⟨h1 p hp, h2 p hp⟩, h3⟩
  · rintro ⟨h1, h2⟩
    refine ⟨by rw [uB_lst, List.all_eq_true]; exact fun p hp => (h1 p hp).1, ?_, by simp only [PyData.bulk, bulk_all]; exact h2⟩
    have := (dep_all (k := k) l).mpr fun p hp => (h1 p hp).2
    simp only [PyData.depth]
    omega
theorem Ul.mem {m k n : Nat} {l : List PyData} (h : Ul m k n l) {p : PyData} (hp : p ∈ l) : Uk m k n p := ⟨(h.each p hp).1, (h.each p hp).2, by have := bkS_mem hp; have := h.bk; omega⟩
theorem Ul.len {m k n : Nat} {l : List PyData} (h : Ul m k n l) : l.length ≤ n := Nat.le_trans (bkS_len l) h.bk
theorem Uk.str {m k n : Nat} {s : Str} (h : Uk m k n (.str s)) : s.length ≤ n ∧ ∀ c ∈ lets s, c < 128 := by
  refine ⟨h.bk, fun c hc => ?_⟩
  have := h.ub
  simp only [uB, List.all_eq_true, decide_eq_true_eq] at this
  exact this c hc
theorem u_of_str {m k n : Nat} {s : Str} (h1 : s.length ≤ n) (h2 : ∀ c ∈ lets s, c < 128) : Uk m k n (.str s) := ⟨by simp only [uB, List.all_eq_true, decide_eq_true_eq]; exact h2, Nat.zero_le _, h1⟩
theorem u_int {m k n : Nat} {i : Int} (h : i.natAbs ≤ 10 ^ 39 + m) : Uk m k n (.int i) := ⟨by simp only [uB, decide_eq_true_eq]; exact h, Nat.zero_le _, Nat.zero_le _⟩
section
variable {m : Nat} (hm : m ≤ 1000)
include hm
theorem u_leaf {i : Int} (h : i.natAbs ≤ 10 ^ 39 + m) : (PyData.int i).shown.length ≤ 45 ∧ i.natAbs.log2 < 1920 := by
  have h2 : i.natAbs < 10 ^ 41 := by
    have : (10 : Nat) ^ 39 + 1000 < 10 ^ 41 := by decide
    omega
  constructor
  · show (Str.ofString (toString i)).length ≤ 45
    rw [PySem.ofString_length]
    exact Nat.le_trans (int_text_length_le10 (a := i) (k := 41) (by omega) h2) (by decide)
  · rcases Nat.eq_zero_or_pos i.natAbs with e | e
    · rw [e]
      decide
    · have h3 : i.natAbs.log2 < 164 := (Nat.log2_lt (by omega)).mpr (Nat.lt_of_lt_of_le h2 (by decide))
      omega
theorem u_short : (∀ p : PyData, uB m p = true → PyData.leavesShort 45 p = true ∧ p.showable = true) := 
  PyData.rec (motive_1 := fun p => uB m p = true → PyData.leavesShort 45 p = true ∧ p.showable = true) (motive_2 := fun l => uBL m l = true → PyData.leavesShortAll 45 l = true ∧ PyData.showableAll l = true) (motive_3 := fun _ => True) (motive_4 := fun _ => True)
    (fun _ => ⟨rfl, rfl⟩) (fun _ _ => ⟨rfl, rfl⟩)
    (fun i h => by
      simp only [uB, decide_eq_true_eq] at h
      obtain ⟨a, b⟩ := u_leaf hm h
      simp only [PyData.leavesShort, PyData.showable, decide_eq_true_eq]
      exact ⟨a, b⟩)
    (fun s h => by
      simp only [uB, List.all_eq_true, decide_eq_true_eq] at h
      refine ⟨?_, rfl⟩
      simp only [PyData.leavesShort, List.all_eq_true, decide_eq_true_eq]
      exact fun c hc => Nat.lt_trans (h c hc) (by decide))
    (fun l ih h => by
      simp only [uB] at h
      simp only [PyData.leavesShort, PyData.showable]
      exact ih h)
    (fun l ih h => by
      simp only [uB] at h
      simp only [PyData.leavesShort, PyData.showable]
      exact ih h)
    (fun ps _ h => by
      simp only [uB, List.isEmpty_iff] at h
      subst h
      exact ⟨rfl, rfl⟩)
    (fun _ => ⟨rfl, rfl⟩)
    (fun p l ih1 ih2 h => by
      simp only [uBL, Bool.and_eq_true] at h
      simp only [PyData.leavesShortAll, PyData.showableAll, Bool.and_eq_true]
      exact ⟨⟨(ih1 h.1).1, (ih2 h.2).1⟩, (ih1 h.1).2, (ih2 h.2).2⟩)
    trivial (fun _ _ _ _ => trivial) (fun _ _ _ _ => trivial)
theorem Uk.shw {k n : Nat} {p : PyData} (h : Uk m k n p) (hk : k ≤ 30) (hn : n ≤ 100000) : ShwQ p := by
  obtain ⟨a, b⟩ := u_short hm p h.ub
  refine ⟨b, Nat.le_trans h.dp hk, ?_⟩
  have h1 := PyData.shown_le_bulk 45 (by decide) p a
  have h2 := h.bk
  have := sizeLine_eq
  omega
end
section
variable {F : FmKit} {T : Kx} {H : Hp} {W : Om} {R : D → Om → Prop}
theorem uDen {m : Nat} : ∀ p : PyData, uB m p = true → ∀ v, Den F T H (uD p) v → Dq T.K H v p :=
  PyData.rec (motive_1 := fun p => uB m p = true → ∀ v, Den F T H (uD p) v → Dq T.K H v p) (motive_2 := fun l => uBL m l = true → ∀ vs, DenL F T H (uL l) vs → DqL T.K H vs l) (motive_3 := fun _ => True) (motive_4 := fun _ => True)
    (fun _ v h => by have h : v = _ := h; subst h; exact .qn) (fun b _ v h => by have h : v = _ := h; subst h; exact .qb b) (fun i _ v h => by have h : v = _ := h; subst h; exact .qi i) (fun s _ v h => by have h : v = _ := h; subst h; exact .qs s)
    (fun l ih h v k => by
      simp only [uB] at h
      simp only [uD] at k
      obtain ⟨a, xs, h1, h2, h3⟩ := k
      subst h1
      exact .ql (SqL.of h2) (ih h xs h3))
    (fun l ih h v k => by
      simp only [uB] at h
      simp only [uD] at k
      obtain ⟨a, xs, h1, h2, h3⟩ := k
      subst h1
      exact .qt h2 (ih h xs h3))
    (fun ps _ h v k => by
      simp only [uB, List.isEmpty_iff] at h
      subst h
      simp only [uD] at k
      obtain ⟨a, kvs, h1, h2, h3, _, _⟩ := k
      subst h1
      rw [List.map_eq_nil_iff] at h3
      subst h3
      exact .qd h2)
    (fun _ vs h => by have h : vs = _ := h; subst h; exact .n)
    (fun p l ih1 ih2 h vs k => by
      simp only [uBL, Bool.and_eq_true] at h
      simp only [uL] at k
      obtain ⟨v, r, h1, h2, h3⟩ := k
      subst h1
      exact .c (ih1 h.1 v h2) (ih2 h.2 r h3))
    trivial (fun _ _ _ _ => trivial) (fun _ _ _ _ => trivial)
theorem ca_reprU {d : D} {m k n : Nat} {p : PyData} (hd : d = uD p) (h : Uk m k n p) (hm : m ≤ 1000) (hk : k ≤ 30) (hn : n ≤ 100000) (r : R (.str p.shown) W) : Ca F T (rRep T.K) [d] W R := ca_one fun C H O di oc ow x kx Q q => by
  subst hd
  exact ⟨x, p, rfl, uDen (m := m) p h.ub x (kx.mono di.same), h.shw hm hk hn, q _ W H O _ r (.refl di oc ow) rfl⟩
def isTup : PyData → Bool
  | .tuple _ => true
  | _ => false
def isIntU : PyData → Bool
  | .int _ => true
  | .bool _ => true
  | _ => false
def isBlU : PyData → Bool
  | .bool _ => true
  | _ => false
def isStrU : PyData → Bool
  | .str _ => true
  | _ => false
theorem isi_uT {p : PyData} (r : R (.bl (isTup p)) W) : Ca F T (rIsi T.K) [uD p, .vl (.ty "tuple")] W R := by
  cases p with
  | none => exact ca_isi (.ty "tuple") tyd_non (by unfold PySem.W.kitOne; first | rfl | decide +kernel) r
  | bool b => exact ca_isi (.ty "tuple") tyd_bl (by unfold PySem.W.kitOne; first | rfl | decide +kernel) r
  | int b => exact ca_isi (.ty "tuple") tyd_int (by unfold PySem.W.kitOne; first | rfl | decide +kernel) r
  | str b => exact ca_isi (.ty "tuple") tyd_str (by unfold PySem.W.kitOne; first | rfl | decide +kernel) r
  | list l => rw [uD_lst]; exact ca_isi (.ty "tuple") tyd_lst (by unfold PySem.W.kitOne; first | rfl | decide +kernel) r
  | tuple l => rw [uD_tup]; exact ca_isi (.ty "tuple") tyd_tup (by unfold PySem.W.kitOne; first | rfl | decide +kernel) r
  | dict l => exact ca_isi (.ty "tuple") tyd_dct (by unfold PySem.W.kitOne; first | rfl | decide +kernel) r
theorem isi_uI {p : PyData} (r : R (.bl (isIntU p)) W) : Ca F T (rIsi T.K) [uD p, .vl (.ty "int")] W R := by
  cases p with
  | none => exact ca_isi (.ty "int") tyd_non (by unfold PySem.W.kitOne; first | rfl | decide +kernel) r
  | bool b => exact ca_isi (.ty "int") tyd_bl (by unfold PySem.W.kitOne; first | rfl | decide +kernel) r
  | int b => exact ca_isi (.ty "int") tyd_int (by unfold PySem.W.kitOne; first | rfl | decide +kernel) r
  | str b => exact ca_isi (.ty "int") tyd_str (by unfold PySem.W.kitOne; first | rfl | decide +kernel) r
  | list l => rw [uD_lst]; exact ca_isi (.ty "int") tyd_lst (by unfold PySem.W.kitOne; first | rfl | decide +kernel) r
  | tuple l => rw [uD_tup]; exact ca_isi (.ty "int") tyd_tup (by unfold PySem.W.kitOne; first | rfl | decide +kernel) r
  | dict l => exact ca_isi (.ty "int") tyd_dct (by unfold PySem.W.kitOne; first | rfl | decide +kernel) r
theorem isi_uB {p : PyData} (r : R (.bl (isBlU p)) W) : Ca F T (rIsi T.K) [uD p, .vl (.ty "bool")] W R := by
  cases p with
  | none => exact ca_isi (.ty "bool") tyd_non (by unfold PySem.W.kitOne; first | rfl | decide +kernel) r
  | bool b => exact ca_isi (.ty "bool") tyd_bl (by unfold PySem.W.kitOne; first | rfl | decide +kernel) r
  | int b => exact ca_isi (.ty "bool") tyd_int (by unfold PySem.W.kitOne; first | rfl | decide +kernel) r
  | str b => exact ca_isi (.ty "bool") tyd_str (by unfold PySem.W.kitOne; first | rfl | decide +kernel) r
  | list l => rw [uD_lst]; exact ca_isi (.ty "bool") tyd_lst (by unfold PySem.W.kitOne; first | rfl | decide +kernel) r
  | tuple l => rw [uD_tup]; exact ca_isi (.ty "bool") tyd_tup (by unfold PySem.W.kitOne; first | rfl | decide +kernel) r
  | dict l => exact ca_isi (.ty "bool") tyd_dct (by unfold PySem.W.kitOne; first | rfl | decide +kernel) r
theorem isi_uS {p : PyData} (r : R (.bl (isStrU p)) W) : Ca F T (rIsi T.K) [uD p, .vl (.ty "str")] W R := by
  cases p with
  | none => exact ca_isi (.ty "str") tyd_non (by unfold PySem.W.kitOne; first | rfl | decide +kernel) r
  | bool b => exact ca_isi (.ty "str") tyd_bl (by unfold PySem.W.kitOne; first | rfl | decide +kernel) r
  | int b => exact ca_isi (.ty "str") tyd_int (by unfold PySem.W.kitOne; first | rfl | decide +kernel) r
  | str b => exact ca_isi (.ty "str") tyd_str (by unfold PySem.W.kitOne; first | rfl | decide +kernel) r
  | list l => rw [uD_lst]; exact ca_isi (.ty "str") tyd_lst (by unfold PySem.W.kitOne; first | rfl | decide +kernel) r
  | tuple l => rw [uD_tup]; exact ca_isi (.ty "str") tyd_tup (by unfold PySem.W.kitOne; first | rfl | decide +kernel) r
  | dict l => exact ca_isi (.ty "str") tyd_dct (by unfold PySem.W.kitOne; first | rfl | decide +kernel) r
end
def isNum (i : Nat) : PyData → Bool
  | .int k => decide (0 ≤ k) && decide (k < (i : Int))
  | _ => false
def natOf : PyData → Nat
  | .int k => k.toNat
  | _ => 0
def numPy (k : Nat) : PyData := .int ((k : Nat) : Int)
def rowPy (r : List Nat) : PyData := .tuple (r.map numPy)
def rowsPy (rs : List (List Nat)) : PyData := .tuple (rs.map rowPy)
def lettersPy (l : List Str) : PyData := .tuple (l.map .str)
theorem uD_row (r : List Nat) : uD (rowPy r) = rowD r := by
  rw [rowPy, uD_tup, List.map_map]
  rfl
theorem uD_rows (rs : List (List Nat)) : uD (rowsPy rs) = rowsD rs := by
  rw [rowsPy, uD_tup, List.map_map]
  show D.tup _ = D.tup _
  congr 1
  exact List.map_congr_left fun r _ => uD_row r
theorem uD_letters (l : List Str) : uD (lettersPy l) = atomsD l := by
  rw [lettersPy, uD_tup, List.map_map]
  rfl
theorem isNum_num {i k : Nat} : isNum i (numPy k) = decide (k < i) := by
  show (decide ((0 : Int) ≤ (k : Int)) && decide ((k : Int) < (i : Int))) = _
  rw [decide_eq_true (by omega), Bool.true_and]
  exact decide_eq_decide.mpr (by omega)
theorem nums_of {i : Nat} : ∀ {l : List PyData}, l.all (isNum i) = true → ∃ r : List Nat, l = r.map numPy ∧ (∀ k ∈ r, k < i) ∧ l.map natOf = r
  | [], _ => ⟨[], rfl, by simp, rfl⟩
  | p :: l, h => by
    rw [List.all_cons, Bool.and_eq_true] at h
    obtain ⟨r, e, h2, h3⟩ := nums_of h.2
    cases p with
    | int k =>
      have h1 : (decide (0 ≤ k) && decide (k < (i : Int))) = true := h.1
      rw [Bool.and_eq_true, decide_eq_true_eq, decide_eq_true_eq] at h1
      refine ⟨k.toNat :: r, ?_, fun x hx => ?_, by rw [List.map_cons, h3]; rfl⟩
      · rw [List.map_cons, ← e]
        show PyData.int k :: l = PyData.int _ :: l
        rw [show ((k.toNat : Nat) : Int) = k by omega]
      · rcases List.mem_cons.mp hx with rfl | hx
        · omega
        · exact h2 x hx
    | none => exact absurd h.1 (by simp [isNum])
    | bool _ => exact absurd h.1 (by simp [isNum])
    | str _ => exact absurd h.1 (by simp [isNum])
    | list _ => exact absurd h.1 (by simp [isNum])
    | tuple _ => exact absurd h.1 (by simp [isNum])
    | dict _ => exact absurd h.1 (by simp [isNum])
theorem nat_num (r : List Nat) : (r.map numPy).map natOf = r := by
  rw [List.map_map]
  refine (List.map_congr_left fun k _ => ?_).trans (List.map_id r)
  show ((k : Nat) : Int).toNat = k
  omega
def rowB (i : Nat) : PyData → Bool
  | .tuple l => l.all (isNum i) && ascB (l.map natOf)
  | _ => false
theorem rowB_iff {i : Nat} {p : PyData} : rowB i p = true ↔ ∃ r : List Nat, p = rowPy r ∧ r.Pairwise (· < ·) ∧ ∀ k ∈ r, k < i := by
  constructor
  · intro h
    cases p with
    | tuple l =>
      have h : (l.all (isNum i) && ascB (l.map natOf)) = true := h
      rw [Bool.and_eq_true] at h
      obtain ⟨r, e, h2, h3⟩ := nums_of h.1
      rw [h3, ascB_iff] at h
      exact ⟨r, by rw [e]; rfl, h.2, h2⟩
    | none => cases h
    | bool _ => cases h
    | str _ => cases h
    | list _ => cases h
    | int _ => cases h
    | dict _ => cases h
  · rintro ⟨r, rfl, h1, h2⟩
    show ((r.map numPy).all (isNum i) && ascB ((r.map numPy).map natOf)) = true
    rw [nat_num, Bool.and_eq_true, ascB_iff]
    refine ⟨?_, h1⟩
    rw [List.all_map, List.all_eq_true]
    intro k hk
    show isNum i (numPy k) = true
    rw [isNum_num, decide_eq_true (h2 k hk)]
def rowsL : Nat → List PyData → Bool
  | _, [] => true
  | i, p :: l => rowB i p && rowsL (i + 1) l
def rowsB : PyData → Bool
  | .tuple l => !l.isEmpty && rowsL 0 l
  | _ => false
theorem rowsL_iff : ∀ {l : List PyData} {i : Nat}, rowsL i l = true ↔ ∃ rs : List (List Nat), l = rs.map rowPy ∧ ∀ (j : Nat) (r : List Nat), rs[j]? = some r → r.Pairwise (· < ·) ∧ ∀ k ∈ r, k < i + j
  | [], i => ⟨fun _ => ⟨[], rfl, by simp⟩, fun _ => rfl⟩
  | p :: l, i => by
    show (rowB i p && rowsL (i + 1) l) = true ↔ _
    rw [Bool.and_eq_true, rowB_iff, rowsL_iff]
    constructor
    · rintro ⟨⟨r, rfl, h1, h2⟩, rs, rfl, h3⟩
      refine ⟨r :: rs, rfl, fun j x hx => ?_⟩
      cases j with
      | zero =>
        cases hx
        exact ⟨h1, h2⟩
      | succ j =>
        obtain ⟨a, b⟩ := h3 j x hx
        exact ⟨a, fun k hk => by have := b k hk; omega⟩
    · rintro ⟨rs, e, h⟩
      cases rs with
      | nil => cases e
      | cons r rs =>
        rw [List.map_cons, List.cons.injEq] at e
        obtain ⟨rfl, rfl⟩ := e
        refine ⟨⟨r, rfl, (h 0 r rfl).1, (h 0 r rfl).2⟩, rs, rfl, fun j x hx => ?_⟩
        obtain ⟨a, b⟩ := h (j + 1) x hx
        exact ⟨a, fun k hk => by have := b k hk; omega⟩
theorem rowsB_iff {p : PyData} : rowsB p = true ↔ ∃ rs : List (List Nat), p = rowsPy rs ∧ rs ≠ [] ∧ ∀ (i : Nat) (r : List Nat), rs[i]? = some r → r.Pairwise (· < ·) ∧ ∀ k ∈ r, k < i := by
  constructor
  · intro h
    cases p with
    | tuple l =>
      have h : (!l.isEmpty && rowsL 0 l) = true := h
      rw [Bool.and_eq_true, rowsL_iff] at h
      obtain ⟨h1, rs, rfl, h2⟩ := h
      refine ⟨rs, rfl, fun e => ?_, fun i r hr => ?_⟩
      · subst e
        cases h1
      · simpa using h2 i r hr
    | none => cases h
    | bool _ => cases h
    | str _ => cases h
    | list _ => cases h
    | int _ => cases h
    | dict _ => cases h
  · rintro ⟨rs, rfl, h1, h2⟩
    show (!(rs.map rowPy).isEmpty && rowsL 0 (rs.map rowPy)) = true
    rw [Bool.and_eq_true, rowsL_iff]
    refine ⟨?_, rs, rfl, fun j r hr => by simpa using h2 j r hr⟩
    cases rs with
    | nil => exact absurd rfl h1
    | cons _ _ => rfl
def letU : PyData → Bool
  | .str s => letB s
  | _ => false
def letsU (n : Nat) : PyData → Bool
  | .tuple l => decide (l.length = n) && l.all letU
  | _ => false
theorem lets_of : ∀ {l : List PyData}, l.all letU = true → ∃ ls : List Str, l = ls.map PyData.str ∧ ∀ s ∈ ls, letters s ∧ (lets s).Pairwise (· < ·)
  | [], _ => ⟨[], rfl, by simp⟩
  | p :: l, h => by
    rw [List.all_cons, Bool.and_eq_true] at h
    obtain ⟨ls, e, h2⟩ := lets_of h.2
    cases p with
    | str s =>
      refine ⟨s :: ls, by rw [List.map_cons, e], fun x hx => ?_⟩
      rcases List.mem_cons.mp hx with rfl | hx
      · exact letB_iff.mp h.1
      · exact h2 x hx
    | none => exact absurd h.1 (by simp [letU])
    | bool _ => exact absurd h.1 (by simp [letU])
    | int _ => exact absurd h.1 (by simp [letU])
    | list _ => exact absurd h.1 (by simp [letU])
    | tuple _ => exact absurd h.1 (by simp [letU])
    | dict _ => exact absurd h.1 (by simp [letU])
theorem letsU_iff {n : Nat} {p : PyData} : letsU n p = true ↔ ∃ ls : List Str, p = lettersPy ls ∧ ls.length = n ∧ ∀ s ∈ ls, letters s ∧ (lets s).Pairwise (· < ·) := by
  constructor
  · intro h
    cases p with
    | tuple l =>
      have h : (decide (l.length = n) && l.all letU) = true := h
      rw [Bool.and_eq_true, decide_eq_true_eq] at h
      obtain ⟨ls, rfl, h2⟩ := lets_of h.2
      exact ⟨ls, rfl, by simpa using h.1, h2⟩
    | none => cases h
    | bool _ => cases h
    | str _ => cases h
    | list _ => cases h
    | int _ => cases h
    | dict _ => cases h
  · rintro ⟨ls, rfl, h1, h2⟩
    show (decide ((ls.map PyData.str).length = n) && (ls.map PyData.str).all letU) = true
    rw [List.length_map, decide_eq_true h1, Bool.true_and, List.all_map, List.all_eq_true]
    exact fun s hs => letB_iff.mpr (h2 s hs)
def lenP : PyData → Nat
  | .tuple l => l.length
  | _ => 0
theorem len_rows (rs : List (List Nat)) : lenP (rowsPy rs) = rs.length := List.length_map _
/-- what is wrong first -/
def due8 (p q : PyData) : Option Str := if rowsB p = true then (if letsU (lenP p) q = true then none else some "atoms") else some "below"
def heard8 (p q : PyData) : PyData := match due8 p q with
  | none => .list [.str "made", p, q, numPy (lenP p)]
  | some s => .list [.str "bad", .str s]
theorem due8_none {p q : PyData} : due8 p q = none ↔ ∃ w : Wb, p = rowsPy w.below ∧ q = lettersPy w.atoms ∧ (∀ (i : Nat) (r : List Nat), w.below[i]? = some r → r.Pairwise (· < ·) ∧ ∀ k ∈ r, k < i) ∧ w.below ≠ [] ∧ w.atoms.length = w.below.length ∧ ∀ s ∈ w.atoms, letters s ∧ (lets s).Pairwise (· < ·) := by
  unfold due8
  constructor
  · intro h
    split at h
    · next h1 =>
      split at h
      · next h2 =>
        obtain ⟨rs, rfl, a1, a2⟩ := rowsB_iff.mp h1
        obtain ⟨ls, rfl, b1, b2⟩ := letsU_iff.mp h2
        exact ⟨⟨rs, ls⟩, rfl, rfl, a2, a1, by rw [b1, len_rows], b2⟩
      · cases h
    · cases h
  · rintro ⟨w, rfl, rfl, h1, h2, h3, h4⟩
    rw [if_pos (rowsB_iff.mpr ⟨_, rfl, h2, h1⟩), if_pos (letsU_iff.mpr ⟨_, rfl, by rw [h3, len_rows], h4⟩)]
end N
set_option Elab.async false
set_option linter.all false
set_option maxRecDepth 100000
set_option maxHeartbeats 1000000
namespace N
open PySem PySem.Spec PyProof.Rows L2
def rEqA (K : PySem.W.Frag) (C : Addr) (sp : Sp) (E : XK) : R2 := fun x y H Q => ∃ a dx fs t, x = .ref a ∧ H a = some (.ins C dx fs) ∧ TyX K H y t ∧ PySem.W.notFirst K C t = true ∧ sp [x, y] H (fun v H' => (∃ b, v = .bl b) ∧ Q v H') E
theorem op_eqA {X : Cx} {CX : CXT} {k : Nat} {f C : Addr} {fd : FuncData} {ps : List Str} {sp : Sp} {E : XK} (F : FnOk X.prog X.w X.K X.mg X.base CX k f fd ps sp) (hr : Room k X.A) (o : Own2 X.K C "__eq__" f) (hb : Binds X.K fd ps []) (hx : Passes CX X E) : OpR X (compareOp .Eq) (rEqA X.K C sp E) := by
  intro pins s σ H x y v u Q I rx ry hq
  obtain ⟨a, dx, fs, t, rfl, ha, ht, hn, q⟩ := hq
  cases rx
  obtain ⟨od, J⟩ := inst_of I ha
  obtain ⟨m, hF⟩ := I.fr
  obtain ⟨P, kx, hP, _⟩ := kit_of I ry ht
  show wpAny _ _ (richCompare .Eq (.ref a) u) _ _ _
  refine PySem.W.cmp_K (op := .Eq) (tb := t) hr.units0 hF I.ok.mod.kin J (kx.ty _ _ I.kIn hP) hn o.at_ o.fn ?_
  refine wpAny_mono (run_fn (us := [.ref a, u]) (vs := [.ref a, y]) F hr hb .nil hx I (.cons rfl (.cons ry .nil)) (by exact q)) (fun w s' z => ?_) fun _ _ x => x
  obtain ⟨z', H', I', rz, ⟨b, rfl⟩, qz⟩ := z
  exact SlX.cmpback rz ⟨.bl b, H', I', rz, qz⟩
theorem op_eq_any {X : Cx} {k j : Nat} {C : Addr} {sp : Sp} (o : Opn X.prog X.w X.K X.mg X.base k C "__eq__" sp) (hr : Room j X.A) (hk : k ≤ j) : OpR X (compareOp .Eq) (rEqA X.K C sp E0) := by
  obtain ⟨f, fd, ps, o2, h, b⟩ := o.ex
  exact op_eqA h (hr.mono hk) o2 b pass0
/-- what is asked of a class whose instances are compared with texts and tuples -/
structure EqC (K : PySem.W.Frag) (C : Addr) : Prop where
  nt : PySem.W.notFirst K C (.type "tuple") = true
  ns : PySem.W.notFirst K C (.type "str") = true
  it : PySem.W.kitOne K (.type "tuple") (.ref C) = some false
section
variable {F : FmKit} {T : Kx} {W : Om} {R : D → Om → Prop} {S : FS} {c : Nat}
theorem bo_eqA {d e : D} {ns : List Str} {l : List D} {t : Value} (i1 : Inst F W d c ns l) (ty : TyD F T W e t) (hn : PySem.W.notFirst T.K (T.cl c) t = true) (h : Hand S [d, e] W fun d' W' => (∃ b, d' = .bl b) ∧ R d' W') : Bo F T (rEqA T.K (T.cl c) (spN F T S) E0) d e W R := fun C H O di oc ow x y hx hy Q q => by
  obtain ⟨a, dx, fs, ex, ha, _⟩ := i1.at di ow hx
  refine ⟨a, dx, fs, t, ex, ha, ty C H O di ow y hy, hn, h.run di oc ow ⟨x, _, rfl, hx, .one hy⟩ fun d' W' H' O' v ⟨⟨z, e⟩, r⟩ n k => ?_⟩
  subst e
  exact ⟨⟨z, k⟩, q _ W' H' O' v r n k⟩
theorem isi_tupF {l : List D} (z : EqC T.K (T.cl c)) (r : R (.bl false) W) : Ca F T (rIsi T.K) [.tup l, .adr (T.cl c)] W R := ca_isi (.own _) tyd_tup z.it r
end
abbrev U8 (p : PyData) : Prop := Uk 50 20 5000 p
def S_isbelowU : FS := fun ds W post => ∃ (i : Nat) (p : PyData), ds = [natD i, uD p] ∧ W = [] ∧ i ≤ 5000 ∧ U8 p ∧ post (.bl (rowB i p)) []
def S_arebelowU : FS := fun ds W post => ∃ p : PyData, ds = [uD p] ∧ W = [] ∧ U8 p ∧ post (.bl (rowsB p)) []
def S_islettersU : FS := fun ds W post => ∃ p : PyData, ds = [uD p] ∧ W = [] ∧ U8 p ∧ post (.bl (letU p)) []
def S_arelettersU : FS := fun ds W post => ∃ (n : Nat) (p : PyData), ds = [natD n, uD p] ∧ W = [] ∧ n ≤ 5000 ∧ U8 p ∧ post (.bl (letsU n p)) []
/-- rows of webs of any length -/
structure rowsV (rs : List (List Nat)) : Prop where
  asc : ∀ (i : Nat) (r : List Nat), rs[i]? = some r → r.Pairwise (· < ·) ∧ ∀ k ∈ r, k < i
  few : rs.length ≤ 5000
theorem rowsV.take {rs : List (List Nat)} (h : rowsV rs) (n : Nat) : rowsV (rs.take n) where
  asc := fun i r hr => by
    rw [List.getElem?_take] at hr
    split at hr
    · exact h.asc i r hr
    · cases hr
  few := by
    have := h.few
    rw [List.length_take]
    omega
theorem bensV_low {rs : List (List Nat)} : rowsV rs → ∀ (i : Nat) (b : List Nat), (bensF rs)[i]? = some b → ∀ x ∈ b, x < i := by
  induction rs using snoc_ind with
  | h0 => intro _ i b h; simp [bensF] at h
  | h1 rs r ih =>
    intro ok i b h x hx
    have ok2 : rowsV rs := by
      have := ok.take rs.length
      simpa using this
    rw [bensF_snoc] at h
    by_cases hi : i < (bensF rs).length
    · rw [List.getElem?_append_left hi] at h
      exact ih ok2 i b h x hx
    · rw [List.getElem?_append_right (by omega)] at h
      have e : i = rs.length := by
        have := (List.getElem?_eq_some_iff.mp h).1
        rw [List.length_singleton] at this
        have := bensF_len rs
        omega
      subst e
      rw [bensF_len, Nat.sub_self] at h
      have h : some _ = some b := h
      cases h
      obtain ⟨_, a2⟩ := ok.asc rs.length r (by simp)
      rw [mem_ascN, List.mem_append, List.mem_flatten] at hx
      rcases hx with hx | ⟨l, hl, hx⟩
      · exact a2 x hx
      · obtain ⟨k, hk, rfl⟩ := List.mem_map.mp hl
        have hk2 := a2 k hk
        have := ih ok2 k ((bensF rs).getD k []) (by
          rw [List.getD_eq_getElem?_getD, List.getElem?_eq_getElem (by rw [bensF_len]; exact hk2)]
          rfl) x hx
        omega
def S_beneathV : FS := fun ds W post => ∃ rs : List (List Nat), ds = [rowsD rs] ∧ W = [] ∧ rowsV rs ∧ post (.lst ((bensF rs).map rowD)) []
def S_heightsV : FS := fun ds W post => ∃ rs : List (List Nat), ds = [rowsD rs] ∧ W = [] ∧ rowsV rs ∧ post (.lst ((hgtF rs).map natD)) []
def S_init8 : FX := fun ds W post ex => ∃ (x : Addr) (p q : PyData), ds = [.adr x, uD p, uD q] ∧ W = [(x, .ins 1 [] [])] ∧ U8 p ∧ U8 q ∧
  (∀ w : Wb, p = rowsPy w.below → q = lettersPy w.atoms → due8 p q = none → post .non [(x, .ins 1 wbNames [rowsD w.below, atomsD w.atoms, .lst ((bensF w.below).map rowD), .lst ((hgtF w.below).map natD)])]) ∧
  ∀ (s : Str) (d : Addr) (W' : Om), due8 p q = some s → (d, OD.xd ["part"] [.str s]) ∈ W' → ex 13 d W'
def S_lenU : FS := fun ds W post => ∃ w : Wb, ds = [w.d] ∧ W = [] ∧ w.below.length ≤ 5000 ∧ post (.int (w.below.length : Nat)) []
/-- y is no web, or a web -/
def S_eqU : FS := fun ds W post => ∃ (w : Wb) (e : D), ds = [w.d, e] ∧ W = [] ∧ w.ok ∧
  ((∃ u : Wb, e = u.d ∧ u.ok ∧ post (.bl (decide (w.below = u.below ∧ w.atoms = u.atoms))) []) ∨ ((∃ l, e = .tup l) ∨ ∃ s, e = .str s) ∧ post (.bl false) [])
mutual
/-- no truth values, no dicts -/
def nbP : PyData → Bool
  | .int _ => true
  | .str _ => true
  | .tuple l => nbL l
  | _ => false
def nbL : List PyData → Bool
  | [] => true
  | p :: l => nbP p && nbL l
end
theorem eqv_nb : ∀ p q : PyData, nbP p = true → nbP q = true → (PyData.eqv p q = true ↔ p = q) :=
  PyData.rec (motive_1 := fun p => ∀ q : PyData, nbP p = true → nbP q = true → (PyData.eqv p q = true ↔ p = q)) (motive_2 := fun l => ∀ m : List PyData, nbL l = true → nbL m = true → (PyData.eqvAll l m = true ↔ l = m)) (motive_3 := fun _ => True) (motive_4 := fun _ => True)
    (fun _ h => by cases h) (fun _ _ h => by cases h)
    (fun i q _ h => by cases q <;> first | (simp [PyData.eqv]; done) | (simp [nbP] at h; done))
    (fun i q _ h => by cases q <;> first | (simp [PyData.eqv]; done) | (simp [nbP] at h; done))
    (fun _ _ _ h => by cases h)
    (fun l ih q h1 h2 => by
      cases q with
      | tuple m =>
        simp only [nbP] at h1 h2
        simp only [PyData.eqv, PyData.tuple.injEq]
        exact ih m h1 h2
      | int _ => simp [PyData.eqv]
      | str _ => simp [PyData.eqv]
      | _ => cases h2)
    (fun _ _ _ h => by cases h)
    (fun m _ _ => by cases m <;> simp [PyData.eqvAll])
    (fun p l ih1 ih2 m h1 h2 => by
      cases m with
      | nil => simp [PyData.eqvAll]
      | cons q m =>
        simp only [nbL, Bool.and_eq_true] at h1 h2
        simp only [PyData.eqvAll, Bool.and_eq_true, List.cons.injEq]
        exact and_congr (ih1 q h1.1 h2.1) (ih2 m h1.2 h2.2))
    trivial (fun _ _ _ _ => trivial) (fun _ _ _ _ => trivial)
theorem nbL_map {α : Type} (f : α → PyData) (h : ∀ x, nbP (f x) = true) (l : List α) : nbL (l.map f) = true := by
  induction l with
  | nil => rfl
  | cons x l ih =>
    rw [List.map_cons]
    simp only [nbL, h, ih, Bool.and_self]
theorem nb_rows (rs : List (List Nat)) : nbP (.tuple (rs.map rowP)) = true := by
  simp only [nbP]
  refine nbL_map _ (fun r => ?_) rs
  unfold rowP
  simp only [nbP]
  exact nbL_map _ (fun _ => rfl) r
theorem nb_atoms (l : List Str) : nbP (.tuple (l.map .str)) = true := by
  simp only [nbP]
  exact nbL_map _ (fun _ => rfl) l
theorem map_inj {α β : Type} {f : α → β} (h : ∀ a b, f a = f b → a = b) : ∀ {l m : List α}, l.map f = m.map f ↔ l = m
  | [], [] => by simp
  | [], _ :: _ => by simp
  | _ :: _, [] => by simp
  | a :: l, b :: m => by
    rw [List.map_cons, List.map_cons, List.cons.injEq, List.cons.injEq, map_inj h]
    exact and_congr ⟨h a b, fun e => by rw [e]⟩ Iff.rfl
theorem rowP_inj {a b : List Nat} (h : rowP a = rowP b) : a = b := by
  unfold rowP at h
  rw [PyData.tuple.injEq] at h
  exact (map_inj (fun x y e => by
    rw [PyData.int.injEq] at e
    exact Int.ofNat.inj e)).mp h
theorem eqv_rows2 (rs us : List (List Nat)) : PyData.eqv (.tuple (rs.map rowP)) (.tuple (us.map rowP)) = decide (rs = us) := by
  rw [Bool.eq_iff_iff, eqv_nb _ _ (nb_rows rs) (nb_rows us), decide_eq_true_eq, PyData.tuple.injEq]
  exact map_inj fun _ _ => rowP_inj
theorem eqv_atoms2 (l m : List Str) : PyData.eqv (.tuple (l.map .str)) (.tuple (m.map .str)) = decide (l = m) := by
  rw [Bool.eq_iff_iff, eqv_nb _ _ (nb_atoms l) (nb_atoms m), decide_eq_true_eq, PyData.tuple.injEq]
  exact map_inj fun _ _ e => PyData.str.inj e
theorem eqv_pair (rs us : List (List Nat)) (l m : List Str) : PyData.eqv (.tuple [.tuple (rs.map rowP), .tuple (l.map .str)]) (.tuple [.tuple (us.map rowP), .tuple (m.map .str)]) = decide (rs = us ∧ l = m) := by
  simp only [PyData.eqv, PyData.eqvAll, Bool.and_true]
  rw [show PyData.eqvAll (rs.map rowP) (us.map rowP) = PyData.eqv (.tuple (rs.map rowP)) (.tuple (us.map rowP)) by simp only [PyData.eqv], show PyData.eqvAll (l.map .str) (m.map .str) = PyData.eqv (.tuple (l.map .str)) (.tuple (m.map .str)) by simp only [PyData.eqv], eqv_rows2, eqv_atoms2, ← Bool.decide_and]
end N
namespace N
open PySem PySem.Spec PyProof.Rows L2
/-- whether each row is one -/
def rowsE : Nat → List PyData → List Bool
  | _, [] => []
  | i, p :: l => rowB i p :: rowsE (i + 1) l
theorem rowsE_all : ∀ (l : List PyData) (i : Nat), (rowsE i l).all id = rowsL i l
  | [], _ => rfl
  | p :: l, i => by
    show (rowB i p && (rowsE (i + 1) l).all id) = _
    rw [rowsE_all l]
    rfl
theorem rowsE_len : ∀ (l : List PyData) (i : Nat), (rowsE i l).length = l.length
  | [], _ => rfl
  | p :: l, i => by
    show (rowsE (i + 1) l).length + 1 = _
    rw [rowsE_len l]
    rfl
theorem rowsE_at : ∀ {l : List PyData} {i j : Nat} {p : PyData}, l[j]? = some p → (rowsE i l)[j]? = some (rowB (i + j) p)
  | q :: l, i, 0, p, h => by
    cases h
    rfl
  | q :: l, i, j + 1, p, h => by
    have := rowsE_at (i := i + 1) (show l[j]? = some p from h)
    show (rowsE (i + 1) l)[j]? = _
    rw [this]
    congr 2
    omega
theorem rowsE_get {l : List PyData} {j : Nat} {p : PyData} (h : l[j]? = some p) : (rowsE 0 l)[j]? = some (rowB j p) := by
  rw [rowsE_at h, Nat.zero_add]
theorem rowsOk.v {rs : List (List Nat)} (h : rowsOk rs) : rowsV rs := ⟨h.asc, Nat.le_trans h.few (by decide)⟩
theorem bkS_num (r : List Nat) : bkS (r.map numPy) = r.length := by
  induction r with
  | nil => rfl
  | cons k r ih =>
    have e : bkS ((k :: r).map numPy) = 0 + 1 + bkS (r.map numPy) := rfl
    rw [e, ih, List.length_cons]
    omega
theorem bkS_le {l : List PyData} {n : Nat} (h : ∀ p ∈ l, p.bulk ≤ n) : bkS l ≤ l.length * (n + 1) := by
  induction l with
  | nil => simp [bkS]
  | cons p l ih =>
    have e : bkS (p :: l) = p.bulk + 1 + bkS l := rfl
    have h1 := h p List.mem_cons_self
    have h2 := ih fun q hq => h q (List.mem_cons_of_mem _ hq)
    rw [e, List.length_cons, Nat.add_mul]
    omega
/-- a row of small numbers -/
theorem u_row {m n : Nat} {r : List Nat} (h : ∀ k ∈ r, k < 5000) (hl : r.length ≤ n) : Uk m 1 n (rowPy r) := Uk.tup.mpr ⟨fun p hp => by
  obtain ⟨k, hk, rfl⟩ := List.mem_map.mp hp
  refine ⟨?_, Nat.le_refl _⟩
  have := h k hk
  show decide (((k : Nat) : Int).natAbs ≤ 10 ^ 39 + m) = true
  rw [decide_eq_true_eq, Int.natAbs_natCast]
  have : (5000 : Nat) ≤ 10 ^ 39 := by decide
  omega, by rw [bkS_num]; exact hl⟩
/-- rows, by what they weigh all together -/
theorem u_rowsN {m n : Nat} {rs : List (List Nat)} (h : ∀ (i : Nat) (r : List Nat), rs[i]? = some r → ∀ k ∈ r, k < i) (hf : rs.length ≤ 5000) (hw : (rs.map fun r => r.length + 1).sum ≤ n) : Uk m 2 n (rowsPy rs) := Uk.tup.mpr ⟨fun p hp => by
  obtain ⟨r, hr, rfl⟩ := List.mem_map.mp hp
  obtain ⟨i, hi⟩ := List.getElem?_of_mem hr
  have hlt := (List.getElem?_eq_some_iff.mp hi).1
  have := u_row (m := m) (n := r.length) (r := r) (fun k hk => by have := h i r hi k hk; omega) (Nat.le_refl _)
  exact ⟨this.ub, this.dp⟩, by
  unfold bkS
  rw [List.map_map]
  refine Nat.le_trans (Nat.le_of_eq ?_) hw
  congr 1
  refine List.map_congr_left fun r _ => ?_
  show (PyData.bulkAll (r.map numPy)) + 1 = _
  rw [bulk_all, show ((r.map numPy).map fun p => p.bulk + 1).sum = bkS (r.map numPy) from rfl, bkS_num]⟩
theorem rows_wt {n : Nat} : ∀ {rs : List (List Nat)}, (∀ r ∈ rs, r.length ≤ n) → (rs.map fun r => r.length + 1).sum ≤ rs.length * (n + 1)
  | [], _ => by simp
  | r :: rs, h => by
    have h1 := h r List.mem_cons_self
    have h2 := rows_wt (n := n) (rs := rs) fun q hq => h q (List.mem_cons_of_mem _ hq)
    rw [List.map_cons, List.sum_cons, List.length_cons, Nat.add_mul]
    omega
theorem u_atoms {m n : Nat} {l : List Str} (h : ∀ s ∈ l, letters s ∧ s.length ≤ n) : Uk m 1 (l.length * (n + 1)) (lettersPy l) := Uk.tup.mpr ⟨fun p hp => by
  obtain ⟨s, hs, rfl⟩ := List.mem_map.mp hp
  have := u_of_str (m := m) (k := 0) (n := n) (h s hs).2 fun c hc => by have := (h s hs).1 c hc; omega
  exact ⟨this.ub, this.dp⟩, by
  have := bkS_le (l := l.map PyData.str) (n := n) fun p hp => by
    obtain ⟨s, hs, rfl⟩ := List.mem_map.mp hp
    exact (h s hs).2
  rw [List.length_map] at this
  exact this⟩
theorem rowsB_web {w : Wb} (hw : w.ok) : rowsB (rowsPy w.below) = true := rowsB_iff.mpr ⟨_, rfl, hw.some_, hw.rows.asc⟩
theorem letsU_web {w : Wb} (hw : w.ok) : letsU w.below.length (lettersPy w.atoms) = true := letsU_iff.mpr ⟨_, rfl, hw.len, hw.lets⟩
theorem low_row {r : List Nat} {n : Nat} (h1 : r.Pairwise (· < ·)) (h2 : ∀ k ∈ r, k < n) : r.length ≤ n := low_len (h1.imp fun h => Nat.ne_of_lt h) h2
/-- webs with few points -/
theorem u_rows8 {m : Nat} {w : Wb} (hw : w.ok) {n : Nat} (hn : w.below.length ≤ n) (h63 : n ≤ 63) : Uk m 2 (n * (n + 1)) (rowsPy w.below) := by
  refine u_rowsN (fun i r hr => (hw.rows.asc i r hr).2) (by omega) (Nat.le_trans (rows_wt (n := n) fun r hr => ?_) (Nat.mul_le_mul_right _ hn))
  obtain ⟨i, hi⟩ := List.getElem?_of_mem hr
  obtain ⟨a1, a2⟩ := hw.rows.asc i r hi
  have := low_row a1 a2
  have := (List.getElem?_eq_some_iff.mp hi).1
  omega
theorem u_lets8 {m n : Nat} {w : Wb} (hw : w.ok) (h : ∀ s ∈ w.atoms, s.length ≤ n) : Uk m 1 (w.below.length * (n + 1)) (lettersPy w.atoms) := by
  rw [← hw.len]
  exact u_atoms fun s hs => ⟨(hw.lets s hs).1, h s hs⟩
end N
namespace N
open PySem PySem.Spec PyProof.Rows L2
theorem u_rows {w : Wb} (hw : w.ok) : U8 (rowsPy w.below) := (u_rows8 (m := 50) hw hw.rows.few (Nat.le_refl _)).up (by decide) (by decide) (by decide)
theorem u_letters {w : Wb} (hw : w.ok) : U8 (lettersPy w.atoms) := by
  have h := u_lets8 (m := 50) (n := 60) hw fun s hs => ?_
  · refine h.up (by decide) (by decide) ?_
    have := hw.rows.few
    omega
  · have h1 := (hw.lets s hs).2.imp (S := (· ≠ ·)) fun h => Nat.ne_of_lt h
    have h2 := List.Nodup.length_le_of_subset (l₁ := lets s) (l₂ := (List.range 26).map (· + 65) ++ (List.range 26).map (· + 97)) h1 fun c hc => by
      have := (hw.lets s hs).1 c hc
      rw [List.mem_append, List.mem_map, List.mem_map]
      rcases this with h | h
      · exact .inl ⟨c - 65, List.mem_range.mpr (by omega), by omega⟩
      · exact .inr ⟨c - 97, List.mem_range.mpr (by omega), by omega⟩
    rw [str_lets]
    exact Nat.le_trans h2 (by decide)
end N
set_option Elab.async false
set_option linter.all false
set_option maxRecDepth 100000
set_option maxHeartbeats 1000000
namespace N
open PySem PySem.Spec PyProof.Rows L2
theorem adj_rev (n : Nat) : Builtin.Slice.sliceAdjust none none (-1) (n : Int) = ((n : Int) - 1, -1) := by
  unfold Builtin.Slice.sliceAdjust
  simp
theorem plc_rev (n : Nat) : Builtin.Slice.slicePlaces ((n : Int) - 1) (-1) (-1) = n := by
  unfold Builtin.Slice.slicePlaces
  simp
  omega
theorem fm_congr {α β : Type} {f g : α → Option β} : ∀ {l : List α}, (∀ x ∈ l, f x = g x) → l.filterMap f = l.filterMap g
  | [], _ => rfl
  | x :: l, h => by rw [List.filterMap_cons, List.filterMap_cons, h x List.mem_cons_self, fm_congr (l := l) fun y hy => h y (List.mem_cons_of_mem _ hy)]
theorem pick_rev (xs : Array Value) : ((List.range xs.size).filterMap fun (m : Nat) => xs[(((xs.size : Int) - 1) + (m : Int) * (-1)).toNat]?).toArray = xs.toList.reverse.toArray := by
  have e := PySem.W.krv_pick xs
  rw [← e]
  unfold slicePick
  rw [PySem.W.krv_bounds]
  show _ = ((sliceRange ((xs.size : Int) - 1) (-1) (-1)).filterMap (xs[·]?)).toArray
  rw [PySem.W.krv_sliceRange, List.filterMap_map]
  congr 1
  refine fm_congr fun m hm => ?_
  have := List.mem_range.mp hm
  show xs[_]? = xs[xs.size - 1 - m]?
  congr 1
  omega
section
variable {prog : Program} {w : World} {A : Around} {E : Value → Shared → Prop} {s : Shared}
theorem getItem_tuple_rev {t sl : Addr} {items : Array Value} {x1 x2 x3 : Value} {Q : Value → Shared → Prop} (ht : IsTup s.heap t items) (hs : s.heap.IsSliceOf sl x1 x2 x3) (p1 : IsPart x1 none) (p2 : IsPart x2 none) (p3 : IsPart x3 (some (-1)))
    (h : Q (.ref s.heap.objs.size) { s with heap := s.heap.push { cls := .type "tuple", data := .seq items.toList.reverse.toArray } }) (hz : items.size ≤ sizeLine) : wpAny (model prog w) A (getItem (.ref t) (.ref sl)) Q E s := by
  have fit : sizeOk (.seq items.toList.reverse.toArray) := by
    show items.toList.reverse.toArray.size ≤ sizeLine
    rw [List.size_toArray, List.length_reverse, Array.length_toList]
    exact hz
  obtain ⟨os, hos, hcs, hds⟩ := id hs
  have isS : s.TypeIs (.ref sl) "slice" := ⟨os, hos, hcs⟩
  unfold getItem
  try with_reducible refine wpAny_holding ?_
  first | refine wpAny_bind (wpAny_pure ?_) | skip
  refine wpAny_bind (wpAny_sequenceKey ht.typeIs (by decide) (wpAny_bind (wpAny_callSpecial?_slot (name := Str.ofString "__getitem__") ht.typeIs slot_tuple_getitem (wpAny_call_entry slot_tuple_getitem ht.typeIs entry_tuple_getitem ?_ (args_tuple_getitem _ _)))))
  show wpAny _ _ (Builtin.Tuple.tupleItemsOf (.ref t) >>= _) _ _ s
  refine wpAny_bind (tupleItemsOf_ ht (wpAny_bind (wpAny_typeOf isS ?_)))
  rw [if_pos (by decide)]
  refine wpAny_bind ?_
  unfold Builtin.Slice.sliceApplied Builtin.Slice.sliceFields
  refine wpAny_bind (wpAny_bind (wpAny_field hos hds (x := x1) rfl (wpAny_bind (wpAny_field hos hds (x := x2) rfl (wpAny_bind (wpAny_field hos hds (x := x3) rfl (wpAny_pure ?_)))))))
  refine wpAny_bind (HT.slicePart_ p3 ?_)
  show wpAny _ _ (if ((-1 : Int) == 0) = true then _ else _) _ _ s
  rw [if_neg (by decide)]
  refine wpAny_bind (HT.slicePart_ p1 (wpAny_bind (HT.slicePart_ p2 (wpAny_bind (wpAny_pure ?_)))))
  show wpAny _ _ (match Builtin.Slice.sliceAdjust none none (-1) (items.size : Int) with | (lo, hi) => pure (lo, (-1 : Int), Builtin.Slice.slicePlaces lo hi (-1))) _ _ s
  rw [adj_rev]
  show wpAny _ _ (pure ((items.size : Int) - 1, (-1 : Int), Builtin.Slice.slicePlaces ((items.size : Int) - 1) (-1) (-1))) _ _ s
  rw [plc_rev]
  refine wpAny_pure ?_
  have no : ¬ ((((items.size : Int) - 1) == 0 && (-1 : Int) == 1 && items.size == items.size) = true) := by simp
  show wpAny _ _ (if (((items.size : Int) - 1) == 0 && (-1 : Int) == 1 && items.size == items.size) = true then _ else _) _ _ s
  rw [if_neg no, pick_rev]
  first
    | exact wpAny_bind (m := Builtin.Tuple.tupleExact _) (wpAny_newObj_type (wpAny_pure ⟨_, rfl, wpAny_pure h⟩) fit)
    | exact wpAny_bind (m := Builtin.Tuple.tupleExact _) (wpAny_newObj_type (wpAny_bind (wpAny_pure (wpAny_pure ⟨_, rfl, wpAny_pure h⟩))) fit)
    | exact wpAny_bind (wpAny_bind (m := Builtin.Tuple.tupleExact _) (wpAny_newObj_type (wpAny_pure (wpAny_pure ⟨_, rfl, wpAny_pure h⟩)) fit))
    | exact wpAny_bind (wpAny_bind (m := Builtin.Tuple.tupleExact _) (wpAny_newObj_type (wpAny_pure ⟨_, rfl, wpAny_pure h⟩) fit))
end
def tRevT (K : PySem.W.Frag) (te : TE) : TE := fun σ H Q => te σ H fun x H1 => ∃ a xs, x = .ref a ∧ SqT K H1 a xs ∧ ∀ p, H1 p = none → Q (.ref p) (upd H1 p (.tup xs.reverse))
theorem pe_revT {X : Cx} {e : Expr} {te : TE} {k : Nat} {p1 p2 p3 pos : Pos} (he : PE X e te) : PE X (.Subscript e (.Slice none none (some (.UnaryOp .USub (.Constant (.int 1) k p1) p2)) p3) pos) (tRevT X.K te) := by
  refine ⟨fun pins s σ H Q I h => Subscript_ (thn (he.run pins s σ H _ I h) fun v s1 ⟨x, H1, I1, r1, a, xs, ex, hx, q⟩ => ?_)⟩
  subst ex
  cases r1
  have hst : PO X (some (.UnaryOp .USub (.Constant (.int 1) k p1) p2)) (tPart (tUn (rU fun i => .int (-i)) (tC (.int 1)))) := po_some (pe_un un_neg pe_int)
  refine wpAny_Slice (thn (po_none.run pins s1 σ H1 (fun o G => o = none ∧ G = H1) I1 ⟨rfl, rfl⟩) fun x1 s2 ⟨l, H2, I2, p1', el, e2⟩ => ?_)
  subst el e2
  refine thn (po_none.run pins s2 σ H2 (fun o G => o = none ∧ G = H2) I2 ⟨rfl, rfl⟩) fun x2 s3 ⟨u, H3, I3, p2', eu, e3⟩ => ?_
  subst eu e3
  refine thn (hst.run pins s3 σ H3 (fun o G => o = some (-1) ∧ G = H3) I3 ⟨1, rfl, -1, rfl, rfl, rfl⟩) fun x3 s4 ⟨o, H4, I4, p3', eo, e4⟩ => ?_
  subst eo e4
  have I5 : Inv X pins σ H4 { s4 with heap := s4.heap.push { cls := .type "slice", data := .fields #[x1, x2, x3] } } := I4.kept (t' := s4.toks) fun b ob q => Heap.get?_push_of_some _ q
  obtain ⟨its, r, ht, hz⟩ := I5.tuple hx
  have hlen := r.length
  refine tail_any (ops := [.ref a, .ref s4.heap.objs.size]) ht.typeIs (PyProof.Rows.slot_tuple_getitem.lookup) (getItem_tuple_rev ht (Heap.IsSliceOf.new _ x1 x2 x3) p1' p2' p3' ?_ (by rw [List.size_toArray]; omega)) (by with_unfolding_all rfl)
  refine ⟨.ref _, _, I5.laid (t' := s4.toks) (o := .tup xs.reverse) (fun b ob q => Heap.get?_push_of_some _ q) (Nat.le_refl _) ?_, rfl, q _ (I5.hok.fresh (Nat.le_refl _))⟩
  exact ⟨by rw [List.length_reverse]; exact hz, _, r.reverse, _, Heap.get?_push_size _ rfl, rfl, _, rfl⟩
def rEqT0 (K : PySem.W.Frag) : R2 := fun x y H Q => ∃ (a b : Addr) (xs : List V), x = .ref a ∧ y = .ref b ∧ SqT K H a xs ∧ SqT K H b [] ∧ Q (.bl xs.isEmpty) H
theorem op_eqT0 {X : Cx} (hu : X.A.units + 64 < cLine) : OpR X (compareOp .Eq) (rEqT0 X.K) := by
  intro pins s σ H x y v u Q I rx ry h
  obtain ⟨a, b, xs, rfl, rfl, ha, hb, q⟩ := h
  cases rx
  cases ry
  obtain ⟨its, r1, p1, _⟩ := I.tuple ha
  obtain ⟨its2, r2, p2, _⟩ := I.tuple hb
  cases r2
  refine PySem.SeqAt.eq_tupleAt (e := fun _ => true) p1 p2 (by omega) (fun j _ (h2 : j < 0) => absurd h2 (Nat.not_lt_zero _)) ⟨.bl xs.isEmpty, H, I, ?_, q⟩
  cases r1 <;> rfl
section
variable {F : FmKit} {T : Kx} {C H H' O O' : Hp} {G : Gm} {W W' : Om} {R : D → Om → Prop} {d e : D} {l m : List D} {te : TE}
theorem bo_eqT0 (r : R (.bl l.isEmpty) W) : Bo F T (rEqT0 T.K) (.tup l) (.tup []) W R := fun C H O di oc ow x y hx hy Q k => by
  obtain ⟨a, xs, ea, ha, ka⟩ := hx
  obtain ⟨b, ys, eb, hb, kb⟩ := hy
  have kb : ys = [] := kb
  subst kb
  refine ⟨a, b, xs, ea, eb, Same.sqT di.same ha, Same.sqT di.same hb, ?_⟩
  have e : xs.isEmpty = l.isEmpty := by
    have := ka.len
    cases l <;> cases xs <;> simp at this ⊢
  rw [e]
  exact k _ W H O _ r (.refl di oc ow) rfl
theorem ev_revT (h : Ev F T te G W fun d W1 => ∃ l, d = .tup l ∧ R (.tup l.reverse) W1) : Ev F T (tRevT T.K te) G W R := fun C H O σ w Q q =>
  h C H O σ w _ fun d W1 H1 O1 v ⟨l, e, r⟩ n k => by
    subst e
    obtain ⟨a, xs, ea, ha, ka⟩ := k
    refine ⟨a, xs, ea, Same.sqT n.dis.same ha, fun p hp => ?_⟩
    obtain ⟨n2, e2, s2⟩ := n.newF (o := .tup xs.reverse) hp
    rw [e2]
    exact q _ W1 _ _ _ r n2 ⟨p, _, rfl, SqT.of upd_same, (ka.reverse).mono s2⟩
end
end N
set_option Elab.async false
set_option linter.all false
set_option maxRecDepth 100000
set_option maxHeartbeats 1000000
namespace N
open PySem PySem.Spec PyProof.Rows L2
/-- odd values -/
def oddL : List PyData := [.none, .bool true, .int 0, .int 1, .int (-1), .int (10 ^ 39), .str "", .str "a", .str "ba", .str "aa", .str "a1", .str "_", .str "Z_a", .tuple [], .tuple [.int 0], .list [], .list [.int 0], .dict [], .tuple [.tuple []], .tuple [.str "a"], .tuple [.bool true]]
theorem odd_u {p : PyData} (h : p ∈ oddL) {m : Nat} : Uk m 2 3 p := by
  have e : oddL.all (fun p => uB 0 p && decide (p.depth ≤ 2) && decide (p.bulk ≤ 3)) = true := by decide +kernel
  have h := List.all_eq_true.mp e p h
  rw [Bool.and_eq_true, Bool.and_eq_true, decide_eq_true_eq, decide_eq_true_eq] at h
  exact Uk.up (m := 0) ⟨h.1.1, h.1.2, h.2⟩ (Nat.zero_le _) (Nat.le_refl _) (Nat.le_refl _)
def dueD8 (p q : PyData) : D := match due8 p q with
  | none => .non
  | some s => .str s
def S_due8 : FS := fun ds W post => ∃ p q : PyData, ds = [.tup [uD p, uD q]] ∧ W = [] ∧ U8 p ∧ U8 q ∧ post (dueD8 p q) []
def S_odd8 : FS := fun ds W post => ∃ (a : Addr) (c : Int), ds = [.adr a] ∧ DkA a c W ∧ c + 2 < 2 ^ 59 ∧ ∀ (p : PyData) (W' : Om), p ∈ oddL → DkA a (c + 1) W' → post (uD p) W'
def S_bent8 (j : Nat) : FS := fun ds W post => ∃ (a : Addr) (c : Int) (p : PyData) (m k n : Nat), ds = [.adr a, uD p] ∧ DkA a c W ∧ Uk m k n p ∧ k < j ∧ j ≤ 20 ∧ m ≤ 100 ∧ n ≤ 2000 ∧ c + 10 * ((k : Nat) + 1) < 2 ^ 59 ∧
  ∀ (p' : PyData) (W' : Om), Uk (m + 1) (k + 2) (2 * n + 6) p' → DkA a (c + 10 * ((k : Nat) + 1)) W' → post (uD p') W'
def S_heard8 : FS := fun ds W post => ∃ (p q : PyData) (b : Bool), ds = [.tup [uD p, uD q], .bl b] ∧ W = [] ∧ U8 p ∧ U8 q ∧ post (uD (heard8 p q)) []
def S_right8 : FS := fun ds W post => ∃ p q : PyData, ds = [.tup [uD p, uD q]] ∧ W = [] ∧ U8 p ∧ U8 q ∧ post (.bl true) []
/-- a tuple that is not empty -/
def isNE : PyData → Bool
  | .tuple l => !l.isEmpty
  | _ => false
def plainI (p : PyData) : Bool := isIntU p && !isBlU p
def plE (l : List PyData) : List (Bool × D) := l.map fun p => (!plainI p, uD p)
theorem plE_get {l : List PyData} {j : Nat} {p : PyData} (h : l[j]? = some p) : (plE l)[j]? = some (!plainI p, uD p) := by
  rw [plE, List.getElem?_map, h]
  rfl
theorem plE_len (l : List PyData) : (plE l).length = l.length := List.length_map _
theorem plE_all (l : List PyData) : (((plE l).filter (·.1)).map (·.2)).isEmpty = l.all plainI := by
  rw [fltE, plE, List.all_map]
  congr 1
  funext p
  show (!(!plainI p)) = plainI p
  rw [Bool.not_not]
theorem plain_ints : ∀ {l : List PyData}, l.all plainI = true → ∃ zs : List Int, l = zs.map .int
  | [], _ => ⟨[], rfl⟩
  | p :: l, h => by
    rw [List.all_cons, Bool.and_eq_true] at h
    obtain ⟨zs, e⟩ := plain_ints h.2
    cases p with
    | int z => exact ⟨z :: zs, by rw [e]; rfl⟩
    | none => exact absurd h.1 (by simp [plainI, isIntU])
    | bool _ => exact absurd h.1 (by simp [plainI, isIntU, isBlU])
    | str _ => exact absurd h.1 (by simp [plainI, isIntU])
    | list _ => exact absurd h.1 (by simp [plainI, isIntU])
    | tuple _ => exact absurd h.1 (by simp [plainI, isIntU])
    | dict _ => exact absurd h.1 (by simp [plainI, isIntU])
theorem num_plain {i : Nat} {p : PyData} (h : plainI p = false) : isNum i p = false := by
  cases p <;> first | rfl | cases h
theorem rowB_odd {i : Nat} {l : List PyData} (h : l.all plainI = false) : rowB i (.tuple l) = false := by
  show (l.all (isNum i) && _) = false
  rw [List.all_eq_false] at h
  obtain ⟨p, hp, h⟩ := h
  rw [show l.all (isNum i) = false from List.all_eq_false.mpr ⟨p, hp, by rw [num_plain (by simpa using h)]; simp⟩, Bool.false_and]
theorem num_int (i : Nat) (zs : List Int) : (zs.map PyData.int).all (isNum i) = zs.all (inB i) := by
  rw [List.all_map]
  rfl
def wrU (i : Nat) (l : List PyData) : List (Bool × D) := (l.zipIdx i).map fun x => (!rowB x.2 x.1, natD x.2)
theorem wrU_len (i : Nat) (l : List PyData) : (wrU i l).length = l.length := by simp [wrU]
theorem wrU_get {l : List PyData} {i : Nat} {p : PyData} (h : l[i]? = some p) : (wrU 0 l)[i]? = some (!rowB i p, natD i) := by
  simp [wrU, List.getElem?_zipIdx, h]
theorem wrU_all : ∀ (l : List PyData) (i : Nat), (((wrU i l).filter (·.1)).map (·.2)).isEmpty = rowsL i l := by
  intro l i
  rw [fltE]
  induction l generalizing i with
  | nil => rfl
  | cons p l ih =>
    have e : wrU i (p :: l) = (!rowB i p, natD i) :: wrU (i + 1) l := rfl
    rw [e, List.all_cons, ih]
    show (!(!rowB i p) && rowsL (i + 1) l) = (rowB i p && rowsL (i + 1) l)
    rw [Bool.not_not]
def leE (l : List PyData) : List (Bool × D) := l.map fun p => (!letU p, uD p)
theorem leE_get {l : List PyData} {j : Nat} {p : PyData} (h : l[j]? = some p) : (leE l)[j]? = some (!letU p, uD p) := by
  rw [leE, List.getElem?_map, h]
  rfl
theorem leE_all (l : List PyData) : (((leE l).filter (·.1)).map (·.2)).isEmpty = l.all letU := by
  rw [fltE, leE, List.all_map]
  congr 1
  funext p
  show (!(!letU p)) = letU p
  rw [Bool.not_not]
theorem Ul.up {m k n m' k' n' : Nat} {l : List PyData} (h : Ul m k n l) (h1 : m ≤ m') (h2 : k ≤ k') (h3 : n ≤ n') : Ul m' k' n' l :=
  Uk.tup.mp ((Uk.tup.mpr h).up h1 (by omega) h3)
theorem Ul.app {m k n1 n2 : Nat} {l r : List PyData} (h : Ul m k n1 l) (h' : Ul m k n2 r) : Ul m k (n1 + n2) (l ++ r) := by
  refine ⟨fun p hp => (List.mem_append.mp hp).elim (h.each p) (h'.each p), ?_⟩
  rw [bkS_app]
  have := h.bk
  have := h'.bk
  omega
theorem Ul.one {m k n : Nat} {p : PyData} (h : Uk m k n p) : Ul m k (n + 1) [p] := ⟨fun q hq => by
  rw [List.mem_singleton] at hq
  subst hq
  exact ⟨h.ub, h.dp⟩, by
  show p.bulk + 1 + 0 ≤ _
  have := h.bk
  omega⟩
theorem bkS_take (l : List PyData) (i : Nat) : bkS (l.take i) + bkS (l.drop i) = bkS l := by rw [← bkS_app, List.take_append_drop]
theorem Ul.take {m k n : Nat} {l : List PyData} (h : Ul m k n l) (i : Nat) : Ul m k n (l.take i) := ⟨fun p hp => h.each p (List.mem_of_mem_take hp), by have := bkS_take l i; have := h.bk; omega⟩
theorem Ul.drop {m k n : Nat} {l : List PyData} (h : Ul m k n l) (i : Nat) : Ul m k n (l.drop i) := ⟨fun p hp => h.each p (List.mem_of_mem_drop hp), by have := bkS_take l i; have := h.bk; omega⟩
theorem bkS_at {l : List PyData} {i : Nat} {p : PyData} (h : l[i]? = some p) : bkS (l.take i) + (p.bulk + 1) + bkS (l.drop (i + 1)) = bkS l := by
  have hi := (List.getElem?_eq_some_iff.mp h).1
  have e := bkS_take l i
  have e2 : l.drop i = p :: l.drop (i + 1) := by
    rw [List.drop_eq_getElem_cons hi]
    congr 1
    exact (List.getElem?_eq_some_iff.mp h).2
  rw [e2] at e
  have e3 : bkS (p :: l.drop (i + 1)) = p.bulk + 1 + bkS (l.drop (i + 1)) := rfl
  omega
/-- an item is taken out -/
theorem Ul.cut {m k n : Nat} {l : List PyData} {i : Nat} {p : PyData} (h : Ul m k n l) (hi : l[i]? = some p) : Ul m k n (l.take i ++ l.drop (i + 1)) := ⟨fun q hq => by
  rcases List.mem_append.mp hq with hq | hq
  · exact h.each q (List.mem_of_mem_take hq)
  · exact h.each q (List.mem_of_mem_drop hq), by rw [bkS_app]; have := bkS_at hi; have := h.bk; omega⟩
/-- an item twice -/
theorem Ul.two {m k n : Nat} {l : List PyData} {i : Nat} {p : PyData} (h : Ul m k n l) (hi : l[i]? = some p) : Ul m k (2 * n) (l.take i ++ [p] ++ l.drop i) := ⟨fun q hq => by
  rcases List.mem_append.mp hq with hq | hq
  · rcases List.mem_append.mp hq with hq | hq
    · exact h.each q (List.mem_of_mem_take hq)
    · rw [List.mem_singleton] at hq
      subst hq
      exact h.each q (List.mem_of_getElem? hi)
  · exact h.each q (List.mem_of_mem_drop hq), by
  rw [bkS_app, bkS_app]
  have e : bkS [p] = p.bulk + 1 + 0 := rfl
  have := bkS_at hi
  have := bkS_take l i
  have := h.bk
  omega⟩
/-- another item in the place of one -/
theorem Ul.sub {m k n : Nat} {l : List PyData} {i : Nat} {p q : PyData} (h : Ul m k n l) (hi : l[i]? = some p) (hq : Uk (m + 1) (k + 2) (2 * p.bulk + 6) q) : Ul (m + 1) (k + 2) (2 * n + 6) (l.take i ++ [q] ++ l.drop (i + 1)) := by
  have h' := h.up (Nat.le_succ m) (Nat.le_add_right k 2) (Nat.le_refl n)
  refine ⟨fun x hx => ?_, ?_⟩
  · rcases List.mem_append.mp hx with hx | hx
    · rcases List.mem_append.mp hx with hx | hx
      · exact h'.each x (List.mem_of_mem_take hx)
      · rw [List.mem_singleton] at hx
        subst hx
        exact ⟨hq.ub, hq.dp⟩
    · exact h'.each x (List.mem_of_mem_drop hx)
  · rw [bkS_app, bkS_app]
    have e : bkS [q] = q.bulk + 1 + 0 := rfl
    have := bkS_at hi
    have := h.bk
    have := hq.bk
    omega
theorem bkS_rev (l : List PyData) : bkS l.reverse = bkS l := by
  unfold bkS
  rw [List.map_reverse, List.sum_reverse]
theorem Ul.rev {m k n : Nat} {l : List PyData} (h : Ul m k n l) : Ul m k n l.reverse := ⟨fun q hq => h.each q (List.mem_reverse.mp hq), by rw [bkS_rev]; exact h.bk⟩
/-- more digits are there than the bound grows -/
theorem u_step {m k n : Nat} {i z : Int} (h : Uk m k n (.int i)) (h0 : 0 ≤ z) (h1 : z < 2) : Uk (m + 1) (k + 2) (2 * n + 6) (.int (i + 1 - 2 * z)) := by
  have := h.ub
  simp only [uB, decide_eq_true_eq] at this
  exact u_int (by omega)
theorem u_more {m k n : Nat} {s t : Str} (h : Uk m k n (.str s)) (h1 : t.length ≤ 2) (h2 : ∀ c ∈ lets t, c < 128) : Uk (m + 1) (k + 2) (2 * n + 6) (.str (s ++ t)) := by
  obtain ⟨a, b⟩ := h.str
  refine u_of_str (by rw [str_app_len]; omega) fun c hc => ?_
  rw [lets_app] at hc
  exact (List.mem_append.mp hc).elim (b c) (h2 c)
theorem Uk.self {m k n : Nat} {p : PyData} (h : Uk m k n p) : Uk m k p.bulk p := ⟨h.ub, h.dp, Nat.le_refl _⟩
theorem bits8 : ∀ z ∈ [D.vl (.str "b"), D.vl (.str "A"), D.vl (.str "1"), D.vl (.str "zz")], ∃ t : Str, z = .str t ∧ t.length ≤ 2 ∧ ∀ c ∈ lets t, c < 128 := fun z hz => by
  simp only [List.mem_cons, List.not_mem_nil, or_false] at hz
  rcases hz with e | e | e | e
  · exact ⟨_, e, by decide, by decide⟩
  · exact ⟨_, e, by decide, by decide⟩
  · exact ⟨_, e, by decide, by decide⟩
  · exact ⟨_, e, by decide, by decide⟩
theorem heard_made {w : Wb} {p q : PyData} (h1 : p = rowsPy w.below) (h2 : q = lettersPy w.atoms) (h : due8 p q = none) : uD (heard8 p q) = .lst [.str "made", rowsD w.below, atomsD w.atoms, natD w.below.length] := by
  have e : lenP p = w.below.length := by rw [h1, len_rows]
  unfold heard8
  rw [h]
  dsimp only
  rw [uD_lst, e, h1, h2]
  show D.lst [.str "made", uD (rowsPy w.below), uD (lettersPy w.atoms), natD w.below.length] = _
  rw [uD_rows, uD_letters]
theorem heard_bad {s : Str} {p q : PyData} (h : due8 p q = some s) : uD (heard8 p q) = .lst [.str "bad", .str s] := by
  unfold heard8
  rw [h]
  rfl
theorem U8.rows {rs : List (List Nat)} (h : U8 (rowsPy rs)) : rs.length ≤ 5000 := by
  have := (Uk.tup.mp h).len
  rw [List.length_map] at this
  exact this
end N
set_option Elab.async false
set_option linter.all false
set_option maxRecDepth 100000
set_option maxHeartbeats 1000000
namespace N
open PySem PySem.Spec PyProof.Rows L2
theorem u_pair {p q : PyData} (hp : U8 p) (hq : U8 q) : Uk 50 21 20000 (.tuple [p, q]) := Uk.tup.mpr ⟨fun x hx => by
  simp only [List.mem_cons, List.not_mem_nil, or_false] at hx
  rcases hx with rfl | rfl
  · exact ⟨hp.ub, hp.dp⟩
  · exact ⟨hq.ub, hq.dp⟩, by
  have e : bkS [p, q] = p.bulk + 1 + (q.bulk + 1 + 0) := rfl
  have := hp.bk
  have := hq.bk
  omega⟩
theorem len_u {p : PyData} (hp : U8 p) : lenP p ≤ 5000 := by
  cases p with
  | tuple l => exact (Uk.tup.mp hp).len
  | _ => exact Nat.zero_le _
theorem u_heard {p q : PyData} (hp : U8 p) (hq : U8 q) : Uk 50 21 20000 (heard8 p q) := by
  unfold heard8
  cases e : due8 p q with
  | none =>
    refine Uk.lst.mpr ⟨fun x hx => ?_, ?_⟩
    · simp only [List.mem_cons, List.not_mem_nil, or_false] at hx
      rcases hx with rfl | rfl | rfl | rfl
      · exact ⟨by decide, Nat.zero_le _⟩
      · exact ⟨hp.ub, hp.dp⟩
      · exact ⟨hq.ub, hq.dp⟩
      · refine ⟨?_, Nat.zero_le _⟩
        have h1 := len_u hp
        show decide (((lenP p : Nat) : Int).natAbs ≤ 10 ^ 39 + 50) = true
        rw [decide_eq_true_eq, Int.natAbs_natCast]
        have : (5000 : Nat) ≤ 10 ^ 39 := by decide
        omega
    · have e : bkS [.str "made", p, q, numPy (lenP p)] = 4 + 1 + (p.bulk + 1 + (q.bulk + 1 + (0 + 1 + 0))) := rfl
      have := hp.bk
      have := hq.bk
      omega
  | some s =>
    have hs : s = "below" ∨ s = "atoms" := by
      unfold due8 at e
      split at e
      · split at e
        · cases e
        · cases e
          exact .inr rfl
      · cases e
        exact .inl rfl
    show Uk 50 21 20000 (.list [.str "bad", .str s])
    clear e
    rcases hs with rfl | rfl
    · exact ⟨by decide, by decide, by decide⟩
    · exact ⟨by decide, by decide, by decide⟩
theorem u_told {p q : PyData} (hp : U8 p) (hq : U8 q) : Uk 50 22 50000 (.list [heard8 p q, heard8 p q]) := Uk.lst.mpr ⟨fun x hx => by
  simp only [List.mem_cons, List.not_mem_nil, or_false, or_self] at hx
  subst hx
  exact ⟨(u_heard hp hq).ub, (u_heard hp hq).dp⟩, by
  have e : bkS [heard8 p q, heard8 p q] = (heard8 p q).bulk + 1 + ((heard8 p q).bulk + 1 + 0) := rfl
  have := (u_heard hp hq).bk
  omega⟩
theorem uD_told (p q : PyData) : D.lst [uD (heard8 p q), uD (heard8 p q)] = uD (.list [heard8 p q, heard8 p q]) := by
  rw [uD_lst]
  rfl
end N
namespace N
open PySem PySem.Spec PyProof.Rows L2
theorem op_eq_anyK {X : Cx} {K : PySem.W.Frag} {k j : Nat} {C : Addr} {sp : Sp} (hK : X.K = K) (o : Opn X.prog X.w X.K X.mg X.base k C "__eq__" sp) (hr : Room j X.A) (hk : k ≤ j) : OpR X (compareOp .Eq) (rEqA K C sp E0) := hK ▸ op_eq_any o hr hk
/-- the tower -/
def towR : List (List Nat) := (List.range 200).map fun k => if k = 0 then [] else [k - 1]
theorem towR_asc (i : Nat) (r : List Nat) (h : towR[i]? = some r) : r.Pairwise (· < ·) ∧ ∀ k ∈ r, k < i := by
  unfold towR at h
  rw [List.getElem?_map] at h
  obtain ⟨j, hj, rfl⟩ := Option.map_eq_some_iff.mp h
  have e : j = i := by
    obtain ⟨a, b⟩ := List.getElem?_eq_some_iff.mp hj
    simpa using b.symm
  subst e
  split
  · exact ⟨.nil, by simp⟩
  · refine ⟨List.pairwise_singleton _ _, fun k hk => ?_⟩
    rw [List.mem_singleton] at hk
    omega
theorem towR_u : U8 (rowsPy towR) := (u_rowsN (m := 50) (n := 1000) (fun i r h => (towR_asc i r h).2) (by decide +kernel) (by decide +kernel)).up (Nat.le_refl _) (by decide) (by decide)
def towL : List Str := List.replicate 200 ""
def towM : List Str := List.replicate 199 ("" : Str) ++ [("[" : Str)]
theorem towL_u : U8 (lettersPy towL) := ⟨by decide +kernel, by decide +kernel, by decide +kernel⟩
theorem towM_u : U8 (lettersPy towM) := ⟨by decide +kernel, by decide +kernel, by decide +kernel⟩
/-- the pools -/
theorem pools8 : ∀ z ∈ [D.vl (.str "ab"), D.vl (.str "aPQz"), D.vl (.str "zZaA"), D.vl (.str "")], ∃ p : Str, z = .str p ∧ letters p ∧ (lets p).Nodup ∧ (lets p).length ≤ 4 := fun z hz => by
  simp only [List.mem_cons, List.not_mem_nil, or_false] at hz
  rcases hz with e | e | e | e
  · exact ⟨_, e, by unfold letters; decide +kernel, by decide +kernel, by decide +kernel⟩
  · exact ⟨_, e, by unfold letters; decide +kernel, by decide +kernel, by decide +kernel⟩
  · exact ⟨_, e, by unfold letters; decide +kernel, by decide +kernel, by decide +kernel⟩
  · exact ⟨_, e, by unfold letters; decide +kernel, by decide +kernel, by decide +kernel⟩
theorem sub_few4 {s p : Str} (h1 : (lets s).Pairwise (· < ·)) (h2 : ∀ q ∈ lets s, q ∈ lets p) (h3 : (lets p).length ≤ 4) : s.length ≤ 4 := by
  have h := List.Nodup.length_le_of_subset (l₁ := lets s) (l₂ := lets p) (h1.imp fun h => Nat.ne_of_lt h) h2
  rw [str_lets]
  omega
/-- pairs of webs' parts -/
def pairW (w : Wb) : D := .tup [rowsD w.below, atomsD w.atoms]
def pairP (w : Wb) : PyData := .tuple [.tuple (w.below.map rowP), .tuple (w.atoms.map .str)]
theorem pair_pd (w : Wb) : (pairW w).pd = some (pairP w) := pd_tup (pdL_cons (pd_rows w.below) (pdL_cons (pd_atoms w.atoms) rfl))
theorem pair_shaped {w : Wb} (hw : w.ok) : SeqAt.shaped (pairP w) = true := by
  have h1 := shaped_rows hw.rows
  have h2 := shaped_atoms hw
  unfold SeqAt.shaped at h1 h2 ⊢
  rw [Bool.and_eq_true, decide_eq_true_eq] at h1 h2 ⊢
  refine ⟨?_, ?_⟩
  · unfold pairP
    rw [PyData.canLay0, PyData.canLayAll0, PyData.canLayAll0, PyData.canLayAll0, h1.1, h2.1]
    rfl
  · have a := (rowsP_ok hw.rows).dp
    have b := (atomsP_ok hw).dp
    show PyData.depth (.tuple [.tuple (w.below.map rowP), .tuple (w.atoms.map .str)]) ≤ 64
    simp only [PyData.depth, PyData.depthAll] at a b ⊢
    omega
def sameW (w u : Wb) : Bool := decide (w.below = u.below ∧ w.atoms = u.atoms)
theorem pair_eqv (w u : Wb) : PyData.eqv (pairP w) (pairP u) = sameW w u := eqv_pair _ _ _ _
/-- who is the same as whom -/
def sameT (ws : List Wb) : List (List Bool) := ws.map fun w => ws.map fun u => sameW w u
def sameD (ws : List Wb) : D := .lst ((sameT ws).map fun r => .lst (r.map D.bl))
def sameP (ws : List Wb) : PyData := .list ((sameT ws).map fun r => .list (r.map .bool))
theorem same_pd (ws : List Wb) : (sameD ws).pd = some (sameP ws) := pd_lst (pdL_map _ _ (fun r => pd_lst (pdL_map _ _ (fun _ => rfl) r)) _)
theorem same_lay (ws : List Wb) : (sameP ws).canLay0 = true := by
  unfold sameP
  rw [PyData.canLay0]
  exact canLay_allD fun d hd => by
    obtain ⟨r, _, rfl⟩ := List.mem_map.mp hd
    rw [PyData.canLay0]
    exact canLay_allD fun d hd => by
      obtain ⟨b, _, rfl⟩ := List.mem_map.mp hd
      rfl
theorem depth_bools (r : List Bool) : (PyData.list (r.map .bool)).depth ≤ 1 := by
  have := (dep_all (k := 0) (r.map PyData.bool)).mpr fun p hp => by
    obtain ⟨b, _, rfl⟩ := List.mem_map.mp hp
    exact Nat.le_refl _
  simp only [PyData.depth]
  omega
theorem same_shaped (ws : List Wb) : SeqAt.shaped (sameP ws) = true := by
  unfold SeqAt.shaped
  rw [Bool.and_eq_true, decide_eq_true_eq]
  refine ⟨same_lay ws, ?_⟩
  have := (dep_all (k := 1) ((sameT ws).map fun r => PyData.list (r.map .bool))).mpr fun p hp => by
    obtain ⟨r, _, rfl⟩ := List.mem_map.mp hp
    exact depth_bools r
  unfold sameP
  simp only [PyData.depth]
  omega
theorem same_eqv (ws : List Wb) : PyData.eqv (sameP ws) (sameP ws) = true := SeqAt.eqv_refl _ (same_lay ws)
theorem sameT_row {ws : List Wb} {i : Nat} {w : Wb} (h : ws[i]? = some w) : (sameT ws)[i]? = some (ws.map fun u => sameW w u) := by
  rw [sameT, List.getElem?_map, h]
  rfl
theorem sameD_row {ws : List Wb} {i : Nat} {w : Wb} (h : ws[i]? = some w) : ((sameT ws).map fun r => D.lst (r.map D.bl))[i]? = some (.lst ((ws.map fun u => sameW w u).map D.bl)) := by
  rw [List.getElem?_map, sameT_row h]
  rfl
end N
set_option Elab.async false
set_option linter.all false
set_option maxRecDepth 100000
namespace N
open PySem PySem.Spec PyProof.Rows L2
open C8 (Cal Met Mak InsC pe_c pe_mt pe_mt0 pe_mk)
set_option maxHeartbeats 4000000
local macro_rules | `(tactic| walk_at "vl") => `(tactic| first | exact .inl (.inl rfl) | exact .inr ⟨_, rfl, List.mem_cons_self⟩ | exact .inr ⟨_, rfl, List.mem_cons_of_mem _ List.mem_cons_self⟩ | exact .inr ⟨_, rfl, List.mem_cons_of_mem _ (List.mem_cons_of_mem _ List.mem_cons_self)⟩ | exact .inr ⟨_, rfl, List.mem_cons_of_mem _ (List.mem_cons_of_mem _ (List.mem_cons_of_mem _ List.mem_cons_self))⟩ | exact .inl (.inr ⟨_, rfl, rfl⟩))
local macro_rules | `(tactic| walk_at "vt") => `(tactic| first | exact .inl rfl | exact .inr ⟨_, rfl, List.mem_cons_self⟩ | exact .inr ⟨_, rfl, List.mem_cons_of_mem _ List.mem_cons_self⟩ | exact .inr ⟨_, rfl, List.mem_cons_of_mem _ (List.mem_cons_of_mem _ List.mem_cons_self)⟩ | exact .inr ⟨_, rfl, List.mem_cons_of_mem _ (List.mem_cons_of_mem _ (List.mem_cons_of_mem _ List.mem_cons_self))⟩)
local macro_rules | `(tactic| walk_at "vd") => `(tactic| first | exact .inl rfl | exact .inr ⟨_, rfl, List.mem_cons_self⟩ | exact .inr ⟨_, rfl, List.mem_cons_of_mem _ List.mem_cons_self⟩ | exact .inr ⟨_, rfl, List.mem_cons_of_mem _ (List.mem_cons_of_mem _ List.mem_cons_self)⟩ | exact .inr ⟨_, rfl, List.mem_cons_of_mem _ (List.mem_cons_of_mem _ (List.mem_cons_of_mem _ List.mem_cons_self))⟩)
local macro_rules | `(tactic| walk_at "gg") => `(tactic| first | exact getG_hd _ _ _ | (refine getG_tl (by decide +kernel) ?_; walk_at "gg"))
local macro_rules | `(tactic| walk_at "vs") => `(tactic| first | exact .inr rfl | (refine .inl ?_; walk_at "vl"))
local macro_rules | `(tactic| walk_at "nc") => `(tactic| first | omega | (unfold CMul; omega) | (unfold CDiv; omega) | (unfold CPow; decide) | (show (0 : Int) < _; omega))
local macro_rules | `(tactic| walk_at "sx") => `(tactic| first
  | with_reducible refine swx_seq ?_ | with_reducible refine swx_set ?_ | with_reducible refine swx_if ?_ | with_reducible refine swx_asg ?_ | with_reducible refine swx_ret ?_ | with_reducible refine swx_drop ?_ | with_reducible refine swx_raise ?_ | with_reducible refine swx_next ?_ | with_reducible refine swx_brk ?_ | with_reducible refine swx_cont ?_ | with_reducible refine swx_retN ?_ | with_reducible refine swx_par ?_ | with_reducible refine swx_fld ?_
  | with_reducible refine evx_call ?_ | with_reducible refine evx_cm ?_ | with_reducible refine evx_cmk ?_ | with_reducible refine evx_mk ?_ | with_reducible refine evx_mkk ?_ | with_reducible refine evx_of ?_)
local macro_rules | `(tactic| walk_at "s1") => `(tactic| first
  | with_reducible refine sw_seq ?_ | with_reducible refine sw_set ?_ | (with_reducible refine' ev_var ?h ?_); (case h => rfl) | with_reducible refine ev_c ?_ | with_reducible refine ev_op ?_
  | with_reducible refine bo_I0 ?_ | with_reducible refine ev_tup ?_ | with_reducible refine ev_lstF ?_ | with_reducible refine ev_cb ?_ | with_reducible refine ea_cons ?_ | with_reducible refine ea_nil ?_
  | with_reducible refine bo_eqI ?_ | with_reducible refine bo_neI ?_ | with_reducible refine bo_eqS ?_ | with_reducible refine bo_neS ?_ | with_reducible refine bo_eqB ?_ | with_reducible refine bo_neB ?_
  | with_reducible refine isi_str ?_ | (with_reducible refine' ca_intBt ?h1 ?_); (case h1 => decide +kernel) | (with_reducible refine' ca_intBf ?h1 ?_); (case h1 => decide +kernel) | with_reducible refine ca_intB ?_ | with_reducible refine ca_int ?_ | with_reducible refine ca_max2 ?_ | with_reducible refine ca_min2 ?_
  | with_reducible refine sw_if ?_ | with_reducible refine sw_ret ?_ | with_reducible refine sw_drop ?_ | with_reducible refine sw_setL ?_ | with_reducible refine sw_next ?_ | with_reducible refine sw_par ?_ | with_reducible refine ev_neg ?_ | with_reducible refine ev_mkF ?_ | with_reducible refine ev_inv ?_ | with_reducible refine ev_prpF ?_ | with_reducible refine ta_fld ?_ | with_reducible refine ta_name ?_ | (with_reducible refine' ta_tup ?hl ?_); (case hl => rfl) | with_reducible refine tas_cons ?_ | with_reducible refine tas_nil ?_
  | with_reducible refine et_ifE ?_ | with_reducible refine ev_orV ?_ | with_reducible refine ev_andV ?_ | with_reducible refine ev_notV ?_ | with_reducible refine et_or ?_ | with_reducible refine et_and ?_ | with_reducible refine sw_asgA ?_ | with_reducible refine sw_asg2 ?_ | with_reducible refine sw_asg3 ?_ | with_reducible refine sw_fld ?_ | with_reducible refine et_test ?_ | with_reducible refine et_B ?_ | with_reducible refine ⟨_, rfl, ?_⟩ | with_reducible refine ⟨_, _, rfl, ?_⟩ | with_reducible refine et_not ?_ | with_reducible refine ev_if ?_
  | (with_reducible refine' bo_ixL ?h1 ?h2 ?_); (case h1 => walk_at "vl"); (case h2 => rfl) | (with_reducible refine' bo_ixT ?h2 ?_); (case h2 => rfl) | with_reducible refine ev_call ?_ | ((with_reducible refine' ev_fwF ?hz ?hy ?_); (case hz => assumption); (case hy => assumption)) | (with_reducible refine' ev_fmF ?hz ?_; case hz => assumption) | with_reducible refine ev_fld ?_
  | with_reducible refine .inr ⟨_, _, rfl, FldW.below _, ?_⟩ | with_reducible refine .inr ⟨_, _, rfl, FldW.atoms _, ?_⟩ | with_reducible refine .inr ⟨_, _, rfl, FldW.bens _, ?_⟩ | with_reducible refine .inr ⟨_, _, rfl, FldW.hgts _, ?_⟩
  | with_reducible refine .inl ⟨_, _, rfl, FldF.kind _, ?_⟩ | with_reducible refine .inl ⟨_, _, rfl, FldF.parts _, ?_⟩ | with_reducible refine .inl ⟨_, _, rfl, FldF.many _, ?_⟩ | with_reducible refine .inl ⟨_, _, rfl, FldF.deep _, ?_⟩ | with_reducible refine .inl ⟨_, _, rfl, FldF.atoms _, ?_⟩ | with_reducible refine .inl ⟨_, _, rfl, FldF.bare _, ?_⟩ | with_reducible refine .inl ⟨_, _, rfl, FldF.spell _, ?_⟩ | with_reducible refine .inl ⟨_, _, rfl, FldF.alls _, ?_⟩
  | with_reducible refine ev_meth ?_ | ((with_reducible refine' ⟨_, _, inst_wb _, ?hm, ?_⟩); (case hm => decide +kernel)) | ((with_reducible refine' ⟨_, _, Inst.fm _, ?hm, ?_⟩); (case hm => decide +kernel))
  | with_reducible refine ⟨_, _, rfl, FldF.kind _, ?_⟩ | with_reducible refine ⟨_, _, rfl, FldF.parts _, ?_⟩ | with_reducible refine ⟨_, _, rfl, FldF.many _, ?_⟩ | with_reducible refine ⟨_, _, rfl, FldF.deep _, ?_⟩ | with_reducible refine ⟨_, _, rfl, FldF.atoms _, ?_⟩ | with_reducible refine ⟨_, _, rfl, FldF.bare _, ?_⟩ | with_reducible refine ⟨_, _, rfl, FldF.spell _, ?_⟩ | with_reducible refine ⟨_, _, rfl, FldF.alls _, ?_⟩
  | ((with_reducible refine' ⟨len_ok ?hl, ?_⟩); (case hl => exact Nat.le_of_ble_eq_true rfl))
  | (with_reducible refine' bo_I ?h1 ?_); (case h1 => walk_at "nc")
  | with_reducible refine ev_sl ?_ | with_reducible refine eo_none ?_ | with_reducible refine eo_some ?_ | (with_reducible refine' ca_slF ?h1 ?_); (case h1 => walk_at "vl") | with_reducible refine ev_revF ?_ | with_reducible refine ev_dget ?_ | with_reducible refine sw_dput ?_ | with_reducible refine ev_dispF ?_ | with_reducible refine eps_cons ?_ | with_reducible refine eps_nil ?_ | with_reducible refine exk_str ?_ | with_reducible refine exk_int ?_ | (with_reducible refine' dg_str ?h1 ?h2 ?_); (case h1 => walk_at "vd"); (case h2 => walk_at "gg")
  | with_reducible refine unr_cons ?_ | with_reducible refine unr_nil ?_ | with_reducible refine swu_cons ?_ | with_reducible refine swu_nil ?_ | with_reducible refine et_yes ?_ | with_reducible refine tg_name ?_ | (with_reducible refine' tw_name ?h1 ?_); (case h1 => simp) | ((with_reducible refine' ⟨acc_ok ?h1, ?_⟩); (case h1 => exact Nat.le_of_ble_eq_true rfl)) | with_reducible refine ei_tup ?_ | with_reducible refine ei_list ?_ | with_reducible refine ei_rng1 ?_
  | with_reducible refine ca_strF ?_ | with_reducible refine ca_lenF ?_ | with_reducible refine isi_tup ?_ | with_reducible refine isi_int ?_ | with_reducible refine isi_intB ?_ | with_reducible refine et_chain ?_ | with_reducible refine ev_chain ?_ | (with_reducible refine' isi_fm ?hz ?_; case hz => assumption)
  | (with_reducible refine' ca_len ?h1 ?_); (case h1 => walk_at "vs")
  | (with_reducible refine' if_so ?h1 ?_); (case h1 => first | rfl | decide +kernel) | (with_reducible refine' if_not ?h1 ?_); (case h1 => first | rfl | decide +kernel))
local macro_rules | `(tactic| walk_at "st") => `(tactic| repeat first | walk_at "s1" | walk_at "sx")
section
def top (i : Nat) : Stmt := PySem.Challenge.pw_allbeneath_k08_webs_of_any_values.main.body.getD i (.Pass ⟨0, 0, 0, 0⟩)
/-- what the module has written -/
structure ZZ (K : PySem.W.Frag) (w : World) (mg : Str → Option Value) (cl : Nat → Addr) where
  g_LETTERS : ∃ u, mg "LETTERS" = some u ∧ RelV (.str "ABCDEFGHIJKLMNOPQRSTUVWXYZabcdefghijklmnopqrstuvwxyz") u
  g_ATOM : ∃ u, mg "ATOM" = some u ∧ RelV (.str "atom") u
  g_NO : ∃ u, mg "NO" = some u ∧ RelV (.str "no") u
  g_IF : ∃ u, mg "IF" = some u ∧ RelV (.str "if") u
  g_ALL : ∃ u, mg "ALL" = some u ∧ RelV (.str "all") u
  d_PARTS_OF : Addr
  e_PARTS_OF : Array DictEntry
  n_PARTS_OF : Nat
  g_PARTS_OF : mg "PARTS_OF" = some (.ref d_PARTS_OF)
  t_PARTS_OF : KDict K w d_PARTS_OF e_PARTS_OF n_PARTS_OF
  k_PARTS_OF_atom : ∃ t, PySem.W.nsIn K d_PARTS_OF "atom" = some (some (.int 1 t))
  k_PARTS_OF_no : ∃ t, PySem.W.nsIn K d_PARTS_OF "no" = some (some (.int 0 t))
  k_PARTS_OF_if : ∃ t, PySem.W.nsIn K d_PARTS_OF "if" = some (some (.int 2 t))
  k_PARTS_OF_all : ∃ t, PySem.W.nsIn K d_PARTS_OF "all" = some (some (.int 1 t))
  g_ALL_AHEAD : ∃ u, mg "ALL_AHEAD" = some u ∧ RelV (.str "all ") u
  g_BETWEEN : ∃ u, mg "BETWEEN" = some u ∧ RelV (.str " > ") u
  g_DIGITS : ∃ u, mg "DIGITS" = some u ∧ RelV (.str "0123456789") u
  g_BARE : ∃ u, mg "BARE" = some u ∧ RelV (.str "-") u
  g_BLANK : ∃ u, mg "BLANK" = some u ∧ RelV (.str " ") u
  g_BREAK : ∃ u, mg "BREAK" = some u ∧ RelV (.str "\n") u
  g_Formula : mg "Formula" = some (.ref (cl 0))
  z0 : CZ K (cl 0) fmNames
  g_Web : mg "Web" = some (.ref (cl 1))
  z1 : CZ K (cl 1) wbNames
  y1 : NeC K (cl 1)
  w1 : EqC K (cl 1)
  g_BadWeb : mg "BadWeb" = some (.ref (cl 13))
  x13 : ErC K (cl 13) "part"
  v13_13 : PySem.W.exmOne K (.ref (cl 13)) (.ref (cl 13)) = some true
abbrev s_is_atom : Stmt := top 15
theorem sc_is_atom : FnScope ["thing"] ["thing"] (defScope s_is_atom) := ⟨rfl, rfl, rfl, by decide +kernel, rfl, by decide +kernel, by decide +kernel⟩
theorem c_is_atom {P : Program} {w : World} {K : PySem.W.Frag} {mg : Str → Option Value} {base : Heap} {cl : Nat → Addr} {f : Addr} {fd : FuncData} (hm : mg "is_atom" = some (.ref f)) (B : Blt mg) (Z : ZZ K w mg cl) (Fn : Fun K "is_atom" "is_atom" s_is_atom f fd) : Cal P w K mg base 1 "is_atom" (spN FK ⟨K, cl⟩ S_isatom) [] := by
  have fz := Z.z0
  have gz := Z.z1
  refine calD hm Fn sc_is_atom (by intro ds W post h; first | (obtain ⟨rfl, _⟩ := h; rfl) | (obtain ⟨_, rfl, _⟩ := h; rfl) | (obtain ⟨_, _, rfl, _⟩ := h; rfl) | (obtain ⟨_, _, _, rfl, _⟩ := h; rfl) | (obtain ⟨_, _, _, _, rfl, _⟩ := h; rfl) | (obtain ⟨_, _, _, _, _, rfl, _⟩ := h; rfl) | (obtain ⟨_, _, _, _, _, _, rfl, _⟩ := h; rfl) | (obtain ⟨_, _, _, _, _, _, _, rfl, _⟩ := h; rfl) | (obtain ⟨_, _, _, _, _, _, _, _, rfl, _⟩ := h; rfl) | (obtain ⟨_, _, _, _, _, _, _, _, _, rfl, _⟩ := h; rfl) | (obtain ⟨_, _, _, _, _, _, _, _, _, _, rfl, _⟩ := h; rfl) | (obtain ⟨_, _, _, _, _, _, _, _, _, _, _, rfl, _⟩ := h; rfl)) (fun _ _ _ _ _ _ us hl => match us, hl with | [_], _ => rfl) fun cdv A outer s H E hr => ⟨_, pss_one (ps_ret (pe_and (pe_callB call_isi (by rfl) B.isinstance bt_isinstance (pa_cons (pv 0) (pa_cons (pe_bltn (by rfl) B.str bt_str (relV_ty _)) pa_nil))) (pe_and (pe_cmpR op_eq (pe_callB call_len (by rfl) B.len bt_len (pa_cons (pv 0) pa_nil)) pe_int (nomark _)) (pe_one (pe_cmpR op_in_sign (pv 0) (C8.pe_gc (by rfl) Z.g_LETTERS) rfl))))), ?_⟩
  rintro ds W post ⟨x, rfl, rfl, hl, k⟩
  try dsimp only [cxOf, Cx.nox, Cx.wish]
  walk_at "st"
  try refine if_so rfl ?_
  walk_at "st"
  refine ca_lenS (by have := sizeLine_eq; omega) ?_
  walk_at "st"
  refine if_dec (fun e => ?_) (fun e => ?_)
  · have e : x.length = 1 := by omega
    obtain ⟨c, rfl⟩ := one_sign e
    walk_at "st"
    refine bo_inSg ?_
    walk_at "st"
    rw [in_letters]
    exact k
  · rw [isLet_long (show x.length ≠ 1 by omega)] at k
    exact k
end
section
abbrev s_BadWeb___init__ : Stmt := inClass (top 5) 0
theorem sc_BadWeb___init__ : FnScope ["self", "part"] ["self", "part"] (defScope s_BadWeb___init__) := ⟨rfl, rfl, rfl, by decide +kernel, rfl, by decide +kernel, by decide +kernel⟩
theorem e_BadWeb {P : Program} {w : World} {K : PySem.W.Frag} {mg : Str → Option Value} {base : Heap} {cl : Nat → Addr} {f : Addr} {fd : FuncData} {BW : Addr} (iC : PySem.W.findIn K (.ref (cl 13)) "__init__" = some (some (.ref f))) (tI : PySem.W.typeIn K (.ref f) = some (.type "function")) (bw : BaseX K BW) (gw : mg "WebError" = some (.ref BW)) (Z : ZZ K w mg cl) (Fn : Fun K "__init__" "BadWeb.__init__" s_BadWeb___init__ f fd) : Err P w K mg base 1 "BadWeb" (cl 13) "part" := by
  exact errD Z.x13 iC tI Z.g_BadWeb Fn sc_BadWeb___init__ rfl rfl (fun _ _ _ _ _ _ us hl => match us, hl with | [_, _], _ => rfl) fun cdv A outer s H E => ⟨_, pss_cons (ps_expr (pe_exinit bw (by rfl) gw (pa_cons (pv 0) (pa_cons pe_str pa_nil)))) (pss_one (ps_osx (pv 0) (pv 1) rfl))⟩
end
section
abbrev s_is_ascending : Stmt := top 34
theorem sc_is_ascending : FnScope ["some", "one", "other"] ["some"] (defScope s_is_ascending) := ⟨rfl, rfl, rfl, by decide +kernel, rfl, by decide +kernel, by decide +kernel⟩
theorem c_is_ascending {P : Program} {w : World} {K : PySem.W.Frag} {mg : Str → Option Value} {base : Heap} {cl : Nat → Addr} {f : Addr} {fd : FuncData} (hm : mg "is_ascending" = some (.ref f)) (B : Blt mg) (Z : ZZ K w mg cl) (Fn : Fun K "is_ascending" "is_ascending" s_is_ascending f fd) : Cal P w K mg base 1 "is_ascending" (spN FK ⟨K, cl⟩ S_ascendX) [] := by
  have fz := Z.z0
  have gz := Z.z1
  refine calD hm Fn sc_is_ascending (by intro ds W post h; first | (obtain ⟨rfl, _⟩ := h; rfl) | (obtain ⟨_, rfl, _⟩ := h; rfl) | (obtain ⟨_, _, rfl, _⟩ := h; rfl) | (obtain ⟨_, _, _, rfl, _⟩ := h; rfl) | (obtain ⟨_, _, _, _, rfl, _⟩ := h; rfl) | (obtain ⟨_, _, _, _, _, rfl, _⟩ := h; rfl) | (obtain ⟨_, _, _, _, _, _, rfl, _⟩ := h; rfl) | (obtain ⟨_, _, _, _, _, _, _, rfl, _⟩ := h; rfl) | (obtain ⟨_, _, _, _, _, _, _, _, rfl, _⟩ := h; rfl) | (obtain ⟨_, _, _, _, _, _, _, _, _, rfl, _⟩ := h; rfl) | (obtain ⟨_, _, _, _, _, _, _, _, _, _, rfl, _⟩ := h; rfl) | (obtain ⟨_, _, _, _, _, _, _, _, _, _, _, rfl, _⟩ := h; rfl)) (fun _ _ _ _ _ _ us hl => match us, hl with | [_], _ => rfl) fun cdv A outer s H E hr => ⟨_, pss_one (ps_ret (pe_callB (cr_all rfl) (by rfl) B.all bt_all (pa_cons (pe_lc (own := [("one", 1), ("other", 2)]) (by rfl) sc_is_ascending.nd (pi_zipK (by rfl) B.zip (pa_cons (pe_slice (SlR.or sl_tupA sl_str) (pv 0) po_none (po_some (pe_un un_neg pe_int))) (pa_cons (pe_slice (SlR.or sl_tupA sl_str) (pv 0) (po_some pe_int) po_none) pa_nil))) (blkOk_by (own := [("one", 1), ("other", 2)]) (N := ["some", "one", "other"]) (sc := defScope s_is_ascending) (by decide +kernel)) (fun _ _ _ _ _ => (pg_tupK (K := K) rfl (n := 2) rfl (pgs_cons (pg_name (i := 1) sc_is_ascending.nd rfl (Or.inl rfl)) (pgs_cons (pg_name (i := 2) sc_is_ascending.nd rfl (Or.inl rfl)) pgs_nil)))) (fun _ _ _ _ _ => pts_nil) (fun _ _ _ _ _ => (pe_cmpR (op_or op_lt op_lt_str) (pv 1) (pv 2) (nomark _)))) pa_nil))), ?_⟩
  rintro ds W post ⟨d, rfl, rfl, ⟨r, rfl, hl, k⟩ | ⟨s, rfl, hl, k⟩⟩
  try dsimp only [cxOf, Cx.nox, Cx.wish]
  · have h16 := sizeLine_eq
    walk_at "st"
    refine ev_lcM (ei_zipK ?_)
    walk_at "st"
    refine ca_slOrL (ca_slT ?_)
    rw [cutD_init, map_take_sub]
    walk_at "st"
    refine ca_slOrL (ca_slT ?_)
    rw [cutD_d1, map_drop_1]
    walk_at "st"
    refine ⟨_, _, _, _, rfl, .inr (.inl rfl), .inr (.inl rfl), (ltL (r.take (r.length - 1)) (r.drop 1)).map D.bl, fun i d e hd he => ?_, by rw [List.length_map, ltL_len, pairs2_len, List.length_map, List.length_map], by rw [List.length_map, ltL_len, List.length_take]; omega, ?_⟩
    · obtain ⟨x, y, hx, hy, rfl⟩ := pairs2_get hd
      rw [List.getElem?_map] at hx hy he
      obtain ⟨a, ha, rfl⟩ := Option.map_eq_some_iff.mp hx
      obtain ⟨b, hb, rfl⟩ := Option.map_eq_some_iff.mp hy
      rw [ltL_get ha hb] at he
      obtain rfl := Option.some.inj he
      refine tw_tup rfl (tws_cons (tw_name (by simp) (tws_cons (tw_name (by simp) (tws_nil ?_)))))
      walk_at "st"
      refine ⟨rfl, ?_⟩
      walk_at "st"
      refine bo_orL (bo_I0 ?_)
      refine ⟨?_, rfl⟩
      rw [show decide (((a : Nat) : Int) < ((b : Nat) : Int)) = decide (a < b) from decide_eq_decide.mpr (by omega)]
    · refine ea_nil (ca_all (.inl (.inl rfl)) ?_)
      rw [ltL_all]
      exact k
  · have h16 := sizeLine_eq
    have hs : (lets s).length ≤ 5000 := by rw [← str_lets]; exact hl
    walk_at "st"
    refine ev_lcM (ei_zipK ?_)
    walk_at "st"
    refine ca_slOrR (ca_slS (by omega) ?_)
    walk_at "st"
    refine ca_slOrR (ca_slS (by omega) ?_)
    walk_at "st"
    refine ⟨_, _, _, _, rfl, .inr (.inr ⟨_, rfl, rfl⟩), .inr (.inr ⟨_, rfl, rfl⟩), (ltL ((lets s).take ((lets s).length - 1)) ((lets s).drop 1)).map D.bl, fun i d e hd he => ?_, by rw [List.length_map, ltL_len, pairs2_len, List.length_map, List.length_map, cutS_init, cutS_d1], by rw [List.length_map, ltL_len, List.length_take]; omega, ?_⟩
    · obtain ⟨x, y, hx, hy, rfl⟩ := pairs2_get hd
      rw [List.getElem?_map] at hx hy he
      rw [cutS_init] at hx
      rw [cutS_d1] at hy
      obtain ⟨a, ha, rfl⟩ := Option.map_eq_some_iff.mp hx
      obtain ⟨b, hb, rfl⟩ := Option.map_eq_some_iff.mp hy
      rw [ltL_get ha hb] at he
      obtain rfl := Option.some.inj he
      refine tw_tup rfl (tws_cons (tw_name (by simp) (tws_cons (tw_name (by simp) (tws_nil ?_)))))
      walk_at "st"
      refine ⟨rfl, ?_⟩
      walk_at "st"
      refine bo_orR (bo_ltS ?_)
      refine ⟨?_, rfl⟩
      rw [show decide ((⟨#[a]⟩ : Str).cps.toList < (⟨#[b]⟩ : Str).cps.toList) = decide (a < b) from lt_sg a b]
    · refine ea_nil (ca_all (.inl (.inl rfl)) ?_)
      rw [ltL_all]
      exact k
abbrev s_is_below : Stmt := top 35
theorem sc_is_below : FnScope ["point", "thing", "other"] ["point", "thing"] (defScope s_is_below) := ⟨rfl, rfl, rfl, by decide +kernel, rfl, by decide +kernel, by decide +kernel⟩
theorem c_is_below {P : Program} {w : World} {K : PySem.W.Frag} {mg : Str → Option Value} {base : Heap} {cl : Nat → Addr} {f : Addr} {fd : FuncData} (hm : mg "is_below" = some (.ref f)) (B : Blt mg) (Z : ZZ K w mg cl) (Fn : Fun K "is_below" "is_below" s_is_below f fd)
    (c_is_ascending : Cal P w K mg base 1 "is_ascending" (spN FK ⟨K, cl⟩ S_ascendX) []) : Cal P w K mg base 2 "is_below" (spN FK ⟨K, cl⟩ S_isbelowU) [] := by
  have fz := Z.z0
  have gz := Z.z1
  refine calD hm Fn sc_is_below (by intro ds W post h; first | (obtain ⟨rfl, _⟩ := h; rfl) | (obtain ⟨_, rfl, _⟩ := h; rfl) | (obtain ⟨_, _, rfl, _⟩ := h; rfl) | (obtain ⟨_, _, _, rfl, _⟩ := h; rfl) | (obtain ⟨_, _, _, _, rfl, _⟩ := h; rfl) | (obtain ⟨_, _, _, _, _, rfl, _⟩ := h; rfl) | (obtain ⟨_, _, _, _, _, _, rfl, _⟩ := h; rfl) | (obtain ⟨_, _, _, _, _, _, _, rfl, _⟩ := h; rfl) | (obtain ⟨_, _, _, _, _, _, _, _, rfl, _⟩ := h; rfl) | (obtain ⟨_, _, _, _, _, _, _, _, _, rfl, _⟩ := h; rfl) | (obtain ⟨_, _, _, _, _, _, _, _, _, _, rfl, _⟩ := h; rfl) | (obtain ⟨_, _, _, _, _, _, _, _, _, _, _, rfl, _⟩ := h; rfl)) (fun _ _ _ _ _ _ us hl => match us, hl with | [_, _], _ => rfl) fun cdv A outer s H E hr => ⟨_, pss_cons (ps_if (pt_not (pt_val (pe_callB call_isi (by rfl) B.isinstance bt_isinstance (pa_cons (pv 1) (pa_cons (pe_bltn (by rfl) B.tuple bt_tuple (relV_ty _)) pa_nil))))) (pss_one (ps_ret pe_bl)) (pss_nil))
 (pss_cons (ps_for PassesOwn.never rfl (pi_tup (pv 1)) (pg_name (i := 2) sc_is_below.nd rfl (Or.inl rfl)) (pss_one (ps_if (PW.pt (pw_or (pt_not (pt_val (pe_callB call_isi (by rfl) B.isinstance bt_isinstance (pa_cons (pv 2) (pa_cons (pe_bltn (by rfl) B.int bt_int (relV_ty _)) pa_nil))))) (pw_or (pt_val (pe_callB call_isi (by rfl) B.isinstance bt_isinstance (pa_cons (pv 2) (pa_cons (pe_bltn (by rfl) B.bool bt_bool (relV_ty _)) pa_nil)))) (pw_or1 (pt_not (pt_chain op_le op_lt pe_int (pv 2) (pv 0))))))) (pss_one (ps_ret pe_bl)) (pss_nil))))
 (pss_one (ps_ret (pe_c c_is_ascending hr (by omega) (by rfl) (pa_cons (pv 1) pa_nil))))), ?_⟩
  rintro ds W post ⟨i, p, rfl, rfl, hi, hu, k⟩
  try dsimp only [cxOf, Cx.nox, Cx.wish]
  have h16 := sizeLine_eq
  walk_at "st"
  refine isi_uT ?_
  cases p with
  | tuple l =>
    have hl := (Uk.tup.mp hu).len
    walk_at "st"
    refine sw_for (ei_tup ?_)
    rw [uD_tup]
    walk_at "st"
    refine ⟨fun j G' W' => W' = [] ∧ (l.take j).all (isNum i) = true ∧ ∃ o, G' = [some (natD i), some (.tup (l.map uD)), o], ⟨rfl, by simp, _, rfl⟩, ?_, ?_⟩
    · rintro j d G' W' hd ⟨rfl, hg, o, rfl⟩
      rw [List.getElem?_map] at hd
      obtain ⟨x, hx, rfl⟩ := Option.map_eq_some_iff.mp hd
      have bad : isNum i x = false → post (.bl false) [] := fun e => by
        have e2 : rowB i (.tuple l) = false := by
          show (l.all (isNum i) && _) = false
          rw [show l.all (isNum i) = false from List.all_eq_false.mpr ⟨x, List.mem_of_getElem? hx, by rw [e]; simp⟩, Bool.false_and]
        rw [e2] at k
        exact k
      refine tg_name ?_
      cases x with
      | int z =>
        have ez : uD (.int z) = .int z := rfl
        rw [ez]
        walk_at "st"
        by_cases h0 : 0 ≤ z
        · refine if_so (by simpa using h0) ?_
          walk_at "st"
          by_cases h : z < (i : Int)
          · refine if_not (by simp; omega) ?_
            walk_at "st"
            refine ⟨rfl, ?_, _, rfl⟩
            rw [List.take_add_one, hx, List.all_append, hg]
            show (true && ((decide (0 ≤ z) && decide (z < (i : Int))) && true)) = true
            rw [decide_eq_true h0, decide_eq_true h]
            rfl
          · refine if_so (by simp; omega) ?_
            walk_at "st"
            refine bad ?_
            show (decide (0 ≤ z) && decide (z < (i : Int))) = false
            rw [decide_eq_false h, Bool.and_false]
        · refine if_not (by simpa using h0) ?_
          walk_at "st"
          refine bad ?_
          show (decide (0 ≤ z) && decide (z < (i : Int))) = false
          rw [decide_eq_false h0, Bool.false_and]
      | bool z =>
        walk_at "st"
        refine isi_uI ?_
        walk_at "st"
        refine isi_uB ?_
        walk_at "st"
        exact bad rfl
      | none =>
        walk_at "st"
        refine isi_uI ?_
        walk_at "st"
        exact bad rfl
      | str z =>
        walk_at "st"
        refine isi_uI ?_
        walk_at "st"
        exact bad rfl
      | list z =>
        walk_at "st"
        refine isi_uI ?_
        walk_at "st"
        exact bad rfl
      | tuple z =>
        walk_at "st"
        refine isi_uI ?_
        walk_at "st"
        exact bad rfl
      | dict z =>
        walk_at "st"
        refine isi_uI ?_
        walk_at "st"
        exact bad rfl
    · rintro G' W' ⟨rfl, hg, o, rfl⟩
      rw [List.length_map, List.take_length] at hg
      obtain ⟨r, e, _, e2⟩ := nums_of hg
      have e3 : rowB i (.tuple l) = ascB r := by
        show (l.all (isNum i) && ascB (l.map natOf)) = _
        rw [hg, Bool.true_and, e2]
      rw [e3] at k
      have e4 : l.map uD = r.map natD := by rw [e, List.map_map]; rfl
      rw [e4]
      have e5 : r.length = l.length := by rw [e, List.length_map]
      walk_at "st"
      refine hand0 ⟨_, rfl, rfl, .inl ⟨r, rfl, by omega, k⟩⟩
      try simp only [List.nil_append]
      try walk_at "st"
  | none =>
    walk_at "st"
    exact k
  | bool _ =>
    walk_at "st"
    exact k
  | int _ =>
    walk_at "st"
    exact k
  | str _ =>
    walk_at "st"
    exact k
  | list _ =>
    walk_at "st"
    exact k
  | dict _ =>
    walk_at "st"
    exact k
abbrev s_are_below : Stmt := top 36
theorem sc_are_below : FnScope ["thing", "point", "below"] ["thing"] (defScope s_are_below) := ⟨rfl, rfl, rfl, by decide +kernel, rfl, by decide +kernel, by decide +kernel⟩
theorem c_are_below {P : Program} {w : World} {K : PySem.W.Frag} {mg : Str → Option Value} {base : Heap} {cl : Nat → Addr} {f : Addr} {fd : FuncData} (hm : mg "are_below" = some (.ref f)) (B : Blt mg) (Z : ZZ K w mg cl) (Fn : Fun K "are_below" "are_below" s_are_below f fd)
    (c_is_below : Cal P w K mg base 2 "is_below" (spN FK ⟨K, cl⟩ S_isbelowU) []) : Cal P w K mg base 3 "are_below" (spN FK ⟨K, cl⟩ S_arebelowU) [] := by
  have fz := Z.z0
  have gz := Z.z1
  refine calD hm Fn sc_are_below (by intro ds W post h; first | (obtain ⟨rfl, _⟩ := h; rfl) | (obtain ⟨_, rfl, _⟩ := h; rfl) | (obtain ⟨_, _, rfl, _⟩ := h; rfl) | (obtain ⟨_, _, _, rfl, _⟩ := h; rfl) | (obtain ⟨_, _, _, _, rfl, _⟩ := h; rfl) | (obtain ⟨_, _, _, _, _, rfl, _⟩ := h; rfl) | (obtain ⟨_, _, _, _, _, _, rfl, _⟩ := h; rfl) | (obtain ⟨_, _, _, _, _, _, _, rfl, _⟩ := h; rfl) | (obtain ⟨_, _, _, _, _, _, _, _, rfl, _⟩ := h; rfl) | (obtain ⟨_, _, _, _, _, _, _, _, _, rfl, _⟩ := h; rfl) | (obtain ⟨_, _, _, _, _, _, _, _, _, _, rfl, _⟩ := h; rfl) | (obtain ⟨_, _, _, _, _, _, _, _, _, _, _, rfl, _⟩ := h; rfl)) (fun _ _ _ _ _ _ us hl => match us, hl with | [_], _ => rfl) fun cdv A outer s H E hr => ⟨_, pss_cons (ps_if (PW.pt (pw_or (pt_not (pt_val (pe_callB call_isi (by rfl) B.isinstance bt_isinstance (pa_cons (pv 0) (pa_cons (pe_bltn (by rfl) B.tuple bt_tuple (relV_ty _)) pa_nil))))) (pw_or1 (pt_cmpR op_eq (pe_callB call_len (by rfl) B.len bt_len (pa_cons (pv 0) pa_nil)) pe_int (nomark _))))) (pss_one (ps_ret pe_bl)) (pss_nil))
 (pss_one (ps_ret (pe_callB (cr_all rfl) (by rfl) B.all bt_all (pa_cons (pe_lc (own := [("point", 1), ("below", 2)]) (by rfl) sc_are_below.nd (pi_enumK (by rfl) B.enumerate (pa_cons (pv 0) pa_nil)) (blkOk_by (own := [("point", 1), ("below", 2)]) (N := ["thing", "point", "below"]) (sc := defScope s_are_below) (by decide +kernel)) (fun _ _ _ _ _ => (pg_tupK (K := K) rfl (n := 2) rfl (pgs_cons (pg_name (i := 1) sc_are_below.nd rfl (Or.inl rfl)) (pgs_cons (pg_name (i := 2) sc_are_below.nd rfl (Or.inl rfl)) pgs_nil)))) (fun _ _ _ _ _ => pts_nil) (fun _ _ _ _ _ => (pe_c c_is_below hr (by omega) (by rfl) (pa_cons (pv 1) (pa_cons (pv 2) pa_nil))))) pa_nil)))), ?_⟩
  rintro ds W post ⟨p, rfl, rfl, hu, k⟩
  try dsimp only [cxOf, Cx.nox, Cx.wish]
  have h16 := sizeLine_eq
  walk_at "st"
  refine isi_uT ?_
  cases p with
  | tuple l =>
    have hl := (Uk.tup.mp hu).len
    rw [uD_tup]
    walk_at "st"
    have hll : (l.map uD).length = l.length := List.length_map _
    refine if_dec (fun h => ?_) (fun h => ?_)
    · have e : l = [] := List.length_eq_zero_iff.mp (by omega)
      subst e
      walk_at "st"
      exact k
    · have hne : l ≠ [] := fun e => h (by rw [e]; rfl)
      have e1 : rowsB (.tuple l) = (rowsE 0 l).all id := by
        show (!l.isEmpty && rowsL 0 l) = _
        rw [rowsE_all]
        cases l with
        | nil => exact absurd rfl hne
        | cons _ _ => rfl
      rw [e1] at k
      walk_at "st"
      refine ev_lcM (ei_enumK ?_)
      walk_at "st"
      refine ⟨_, _, rfl, .inr (.inl rfl), (rowsE 0 l).map D.bl, fun i d e hd he => ?_, by rw [List.length_map, rowsE_len, pairsD_len, List.length_map], by rw [List.length_map, rowsE_len]; omega, ?_⟩
      · obtain ⟨x, hx, rfl⟩ := pairsD_get hd
        rw [List.getElem?_map] at hx
        obtain ⟨q, hq, rfl⟩ := Option.map_eq_some_iff.mp hx
        have hi := (List.getElem?_eq_some_iff.mp hq).1
        rw [List.getElem?_map, rowsE_get hq] at he
        obtain rfl := Option.some.inj he
        refine tw_tup rfl (tws_cons (tw_name (by simp) (tws_cons (tw_name (by simp) (tws_nil ?_)))))
        walk_at "st"
        refine ⟨rfl, ?_⟩
        walk_at "st"
        refine hand0 ⟨0 + i, q, rfl, rfl, by omega, ((Uk.tup.mp hu).mem (List.mem_of_getElem? hq)).up (Nat.le_refl _) (by omega) (Nat.le_refl _), ?_⟩
        try simp only [List.nil_append]
        try walk_at "st"
        rw [Nat.zero_add]
        exact ⟨rfl, trivial⟩
      · refine ea_nil (ca_all (.inl (.inl rfl)) ?_)
        exact k
  | none =>
    walk_at "st"
    exact k
  | bool _ =>
    walk_at "st"
    exact k
  | int _ =>
    walk_at "st"
    exact k
  | str _ =>
    walk_at "st"
    exact k
  | list _ =>
    walk_at "st"
    exact k
  | dict _ =>
    walk_at "st"
    exact k
abbrev s_is_letters : Stmt := top 37
theorem sc_is_letters : FnScope ["thing", "letter"] ["thing"] (defScope s_is_letters) := ⟨rfl, rfl, rfl, by decide +kernel, rfl, by decide +kernel, by decide +kernel⟩
theorem c_is_letters {P : Program} {w : World} {K : PySem.W.Frag} {mg : Str → Option Value} {base : Heap} {cl : Nat → Addr} {f : Addr} {fd : FuncData} (hm : mg "is_letters" = some (.ref f)) (B : Blt mg) (Z : ZZ K w mg cl) (Fn : Fun K "is_letters" "is_letters" s_is_letters f fd)
    (c_is_atom : Cal P w K mg base 1 "is_atom" (spN FK ⟨K, cl⟩ S_isatom) [])
    (c_is_ascending : Cal P w K mg base 1 "is_ascending" (spN FK ⟨K, cl⟩ S_ascendX) []) : Cal P w K mg base 2 "is_letters" (spN FK ⟨K, cl⟩ S_islettersU) [] := by
  have fz := Z.z0
  have gz := Z.z1
  refine calD hm Fn sc_is_letters (by intro ds W post h; first | (obtain ⟨rfl, _⟩ := h; rfl) | (obtain ⟨_, rfl, _⟩ := h; rfl) | (obtain ⟨_, _, rfl, _⟩ := h; rfl) | (obtain ⟨_, _, _, rfl, _⟩ := h; rfl) | (obtain ⟨_, _, _, _, rfl, _⟩ := h; rfl) | (obtain ⟨_, _, _, _, _, rfl, _⟩ := h; rfl) | (obtain ⟨_, _, _, _, _, _, rfl, _⟩ := h; rfl) | (obtain ⟨_, _, _, _, _, _, _, rfl, _⟩ := h; rfl) | (obtain ⟨_, _, _, _, _, _, _, _, rfl, _⟩ := h; rfl) | (obtain ⟨_, _, _, _, _, _, _, _, _, rfl, _⟩ := h; rfl) | (obtain ⟨_, _, _, _, _, _, _, _, _, _, rfl, _⟩ := h; rfl) | (obtain ⟨_, _, _, _, _, _, _, _, _, _, _, rfl, _⟩ := h; rfl)) (fun _ _ _ _ _ _ us hl => match us, hl with | [_], _ => rfl) fun cdv A outer s H E hr => ⟨_, pss_one (ps_ret (pe_and (pe_callB call_isi (by rfl) B.isinstance bt_isinstance (pa_cons (pv 0) (pa_cons (pe_bltn (by rfl) B.str bt_str (relV_ty _)) pa_nil))) (pe_and (pe_callB (cr_all rfl) (by rfl) B.all bt_all (pa_cons (pe_lc (own := [("letter", 1)]) (by rfl) sc_is_letters.nd (pi_str (pv 0)) (blkOk_by (own := [("letter", 1)]) (N := ["thing", "letter"]) (sc := defScope s_is_letters) (by decide +kernel)) (fun _ _ _ _ _ => (pg_name (i := 1) sc_is_letters.nd rfl (Or.inl rfl))) (fun _ _ _ _ _ => pts_nil) (fun _ _ _ _ _ => (pe_c c_is_atom hr (by omega) (by rfl) (pa_cons (pv 1) pa_nil)))) pa_nil)) (pe_one (pe_c c_is_ascending hr (by omega) (by rfl) (pa_cons (pv 0) pa_nil)))))), ?_⟩
  rintro ds W post ⟨p, rfl, rfl, hu, k⟩
  try dsimp only [cxOf, Cx.nox, Cx.wish]
  have h16 := sizeLine_eq
  walk_at "st"
  refine isi_uS ?_
  cases p with
  | str s =>
    obtain ⟨hl, _⟩ := hu.str
    have hs2 : (lets s).length ≤ 5000 := by rw [← str_lets]; omega
    have eu : uD (.str s) = .str s := rfl
    rw [eu]
    have k : post (.bl (letB s)) [] := k
    walk_at "st"
    refine ev_lcM (ei_str ?_)
    walk_at "st"
    refine ⟨(isLs s).map D.bl, fun i d e hd he => ?_, by simp [isLs], by rw [List.length_map, isLs, List.length_map]; omega, ?_⟩
    · rw [List.getElem?_map] at hd
      obtain ⟨c, hc, rfl⟩ := Option.map_eq_some_iff.mp hd
      rw [isLs, List.map_map, List.getElem?_map, hc] at he
      obtain rfl := Option.some.inj he
      refine tw_name (by simp) ?_
      walk_at "st"
      refine ⟨rfl, ?_⟩
      walk_at "st"
      refine hand0 ⟨_, rfl, rfl, Nat.le_of_ble_eq_true rfl, ?_⟩
      try simp only [List.nil_append]
      try walk_at "st"
      rw [show (⟨#[c]⟩ : Str) = sg c from rfl, isLB_sg]
      exact ⟨rfl, trivial⟩
    · refine ea_nil (ca_all (.inl (.inl rfl)) ?_)
      rw [isLs_all]
      refine ⟨_, rfl, ?_⟩
      unfold letB at k
      cases e : (lets s).all isLB with
      | false =>
        rw [e, Bool.false_and] at k
        walk_at "st"
        exact k
      | true =>
        rw [e, Bool.true_and] at k
        walk_at "st"
        refine hand0 ⟨_, rfl, rfl, .inr ⟨s, rfl, by omega, k⟩⟩
        try simp only [List.nil_append]
        try walk_at "st"
  | none =>
    walk_at "st"
    exact k
  | bool _ =>
    walk_at "st"
    exact k
  | int _ =>
    walk_at "st"
    exact k
  | tuple _ =>
    walk_at "st"
    exact k
  | list _ =>
    walk_at "st"
    exact k
  | dict _ =>
    walk_at "st"
    exact k
abbrev s_are_letters : Stmt := top 38
theorem sc_are_letters : FnScope ["many", "thing", "letters"] ["many", "thing"] (defScope s_are_letters) := ⟨rfl, rfl, rfl, by decide +kernel, rfl, by decide +kernel, by decide +kernel⟩
theorem c_are_letters {P : Program} {w : World} {K : PySem.W.Frag} {mg : Str → Option Value} {base : Heap} {cl : Nat → Addr} {f : Addr} {fd : FuncData} (hm : mg "are_letters" = some (.ref f)) (B : Blt mg) (Z : ZZ K w mg cl) (Fn : Fun K "are_letters" "are_letters" s_are_letters f fd)
    (c_is_letters : Cal P w K mg base 2 "is_letters" (spN FK ⟨K, cl⟩ S_islettersU) []) : Cal P w K mg base 3 "are_letters" (spN FK ⟨K, cl⟩ S_arelettersU) [] := by
  have fz := Z.z0
  have gz := Z.z1
  refine calD hm Fn sc_are_letters (by intro ds W post h; first | (obtain ⟨rfl, _⟩ := h; rfl) | (obtain ⟨_, rfl, _⟩ := h; rfl) | (obtain ⟨_, _, rfl, _⟩ := h; rfl) | (obtain ⟨_, _, _, rfl, _⟩ := h; rfl) | (obtain ⟨_, _, _, _, rfl, _⟩ := h; rfl) | (obtain ⟨_, _, _, _, _, rfl, _⟩ := h; rfl) | (obtain ⟨_, _, _, _, _, _, rfl, _⟩ := h; rfl) | (obtain ⟨_, _, _, _, _, _, _, rfl, _⟩ := h; rfl) | (obtain ⟨_, _, _, _, _, _, _, _, rfl, _⟩ := h; rfl) | (obtain ⟨_, _, _, _, _, _, _, _, _, rfl, _⟩ := h; rfl) | (obtain ⟨_, _, _, _, _, _, _, _, _, _, rfl, _⟩ := h; rfl) | (obtain ⟨_, _, _, _, _, _, _, _, _, _, _, rfl, _⟩ := h; rfl)) (fun _ _ _ _ _ _ us hl => match us, hl with | [_, _], _ => rfl) fun cdv A outer s H E hr => ⟨_, pss_one (ps_ret (pe_and (pe_callB call_isi (by rfl) B.isinstance bt_isinstance (pa_cons (pv 1) (pa_cons (pe_bltn (by rfl) B.tuple bt_tuple (relV_ty _)) pa_nil))) (pe_and (pe_cmpR op_eq (pe_callB call_len (by rfl) B.len bt_len (pa_cons (pv 1) pa_nil)) (pv 0) (nomark _)) (pe_one (pe_callB (cr_all rfl) (by rfl) B.all bt_all (pa_cons (pe_lc (own := [("letters", 2)]) (by rfl) sc_are_letters.nd (pi_tup (pv 1)) (blkOk_by (own := [("letters", 2)]) (N := ["many", "thing", "letters"]) (sc := defScope s_are_letters) (by decide +kernel)) (fun _ _ _ _ _ => (pg_name (i := 2) sc_are_letters.nd rfl (Or.inl rfl))) (fun _ _ _ _ _ => pts_nil) (fun _ _ _ _ _ => (pe_c c_is_letters hr (by omega) (by rfl) (pa_cons (pv 2) pa_nil)))) pa_nil)))))), ?_⟩
  rintro ds W post ⟨n, p, rfl, rfl, hn, hu, k⟩
  try dsimp only [cxOf, Cx.nox, Cx.wish]
  have h16 := sizeLine_eq
  walk_at "st"
  refine isi_uT ?_
  cases p with
  | tuple l =>
    have hl := (Uk.tup.mp hu).len
    rw [uD_tup]
    have hll : (l.map uD).length = l.length := List.length_map _
    walk_at "st"
    refine if_dec (fun h => ?_) (fun h => ?_)
    · have e1 : letsU n (.tuple l) = l.all letU := by
        show (decide (l.length = n) && l.all letU) = _
        rw [decide_eq_true (by omega), Bool.true_and]
      rw [e1] at k
      walk_at "st"
      refine ev_lcM (ei_tup ?_)
      walk_at "st"
      refine ⟨(l.map letU).map D.bl, fun i d e hd he => ?_, by simp, by rw [List.length_map, List.length_map]; omega, ?_⟩
      · rw [List.getElem?_map] at hd
        obtain ⟨q, hq, rfl⟩ := Option.map_eq_some_iff.mp hd
        rw [List.map_map, List.getElem?_map, hq] at he
        obtain rfl := Option.some.inj he
        refine tw_name (by simp) ?_
        walk_at "st"
        refine ⟨rfl, ?_⟩
        walk_at "st"
        refine hand0 ⟨q, rfl, rfl, ((Uk.tup.mp hu).mem (List.mem_of_getElem? hq)).up (Nat.le_refl _) (by omega) (Nat.le_refl _), ?_⟩
        try simp only [List.nil_append]
        try walk_at "st"
        exact ⟨rfl, trivial⟩
      · refine ea_nil (ca_all (.inl (.inl rfl)) ?_)
        rw [List.all_map]
        exact k
    · have e1 : letsU n (.tuple l) = false := by
        show (decide (l.length = n) && l.all letU) = _
        rw [decide_eq_false (fun e => h (by rw [hll, e])), Bool.false_and]
      rw [e1] at k
      walk_at "st"
      exact k
  | none =>
    walk_at "st"
    exact k
  | bool _ =>
    walk_at "st"
    exact k
  | int _ =>
    walk_at "st"
    exact k
  | str _ =>
    walk_at "st"
    exact k
  | list _ =>
    walk_at "st"
    exact k
  | dict _ =>
    walk_at "st"
    exact k
abbrev s_beneath_by : Stmt := top 39
theorem sc_beneath_by : FnScope ["below", "found", "points", "met", "point", "other"] ["below"] (defScope s_beneath_by) := ⟨rfl, rfl, rfl, by decide +kernel, rfl, by decide +kernel, by decide +kernel⟩
theorem c_beneath_by {P : Program} {w : World} {K : PySem.W.Frag} {mg : Str → Option Value} {base : Heap} {cl : Nat → Addr} {f : Addr} {fd : FuncData} (hm : mg "beneath_by" = some (.ref f)) (B : Blt mg) (Z : ZZ K w mg cl) (Fn : Fun K "beneath_by" "beneath_by" s_beneath_by f fd) : Cal P w K mg base 1 "beneath_by" (spN FK ⟨K, cl⟩ S_beneathV) [] := by
  have fz := Z.z0
  have gz := Z.z1
  refine calD hm Fn sc_beneath_by (by intro ds W post h; first | (obtain ⟨rfl, _⟩ := h; rfl) | (obtain ⟨_, rfl, _⟩ := h; rfl) | (obtain ⟨_, _, rfl, _⟩ := h; rfl) | (obtain ⟨_, _, _, rfl, _⟩ := h; rfl) | (obtain ⟨_, _, _, _, rfl, _⟩ := h; rfl) | (obtain ⟨_, _, _, _, _, rfl, _⟩ := h; rfl) | (obtain ⟨_, _, _, _, _, _, rfl, _⟩ := h; rfl) | (obtain ⟨_, _, _, _, _, _, _, rfl, _⟩ := h; rfl) | (obtain ⟨_, _, _, _, _, _, _, _, rfl, _⟩ := h; rfl) | (obtain ⟨_, _, _, _, _, _, _, _, _, rfl, _⟩ := h; rfl) | (obtain ⟨_, _, _, _, _, _, _, _, _, _, rfl, _⟩ := h; rfl) | (obtain ⟨_, _, _, _, _, _, _, _, _, _, _, rfl, _⟩ := h; rfl)) (fun _ _ _ _ _ _ us hl => match us, hl with | [_], _ => rfl) fun cdv A outer s H E hr => ⟨_, pss_cons (ps_set (i := 1) sc_beneath_by.nd rfl (Or.inl rfl) (pe_lst pa_nil))
 (pss_cons (ps_for PassesOwn.never rfl (pi_tup (pv 0)) (pg_name (i := 2) sc_beneath_by.nd rfl (Or.inl rfl)) (pss_cons (ps_set (i := 3) sc_beneath_by.nd rfl (Or.inl rfl) pe_dnewK)
 (pss_cons (ps_for PassesOwn.never rfl (pi_tup (pv 2)) (pg_name (i := 4) sc_beneath_by.nd rfl (Or.inl rfl)) (pss_cons (ps_dput (by exact hu_of hr) (pv 3) (pv 4) pe_bl rfl)
 (pss_one (ps_expr (pe_dupd (pv 3) (pe_dc (own := [("other", 5)]) (by rfl) sc_beneath_by.nd (pi_tup (pe_ix ix_list (pv 1) (pv 4) (fun _ _ => rfl))) (blkOk_by (own := [("other", 5)]) (N := ["below", "found", "points", "met", "point", "other"]) (sc := defScope s_beneath_by) (by decide +kernel)) (fun _ _ _ _ _ => (pg_name (i := 5) sc_beneath_by.nd rfl (Or.inl rfl))) (fun _ _ _ _ _ => pts_nil) (fun _ _ _ _ _ => (pv 5)) (fun _ _ _ _ _ => pe_bl)) ⟨by rfl, by rfl, by rfl, by rfl⟩)))))
 (pss_one (ps_expr (pe_bm PySem.F.plainAttrs_list PySem.F.slot_list_append PySem.F.type_list_append mt_append (pv 1) (pa_cons (pe_callTy call_tuple_of (by rfl) B.tuple bt_tuple (pa_cons (pe_callB (cr_sortedDN rfl) (by rfl) B.sorted bt_sorted (pa_cons (pv 3) pa_nil)) pa_nil)) pa_nil)))))))
 (pss_one (ps_ret (pv 1)))), ?_⟩
  rintro ds W post ⟨rs, rfl, rfl, hr, k⟩
  try dsimp only [cxOf, Cx.nox, Cx.wish]
  have h16 := sizeLine_eq
  refine sw_seq (sw_set (ev_lst ?_))
  walk_at "st"
  intro p1 hp1
  refine sw_seq (sw_for (ei_tup ?_))
  walk_at "st"
  refine ⟨fun j G' W' => W' = [(p1, .lst ((bensF (rs.take j)).map rowD))] ∧ ∃ o2 o3 o4, G' = [some (rowsD rs), some (.adr p1), o2, o3, o4, none], ⟨rfl, _, _, _, rfl⟩, ?_, ?_⟩
  · rintro j d G' W' hd ⟨rfl, o2, o3, o4, rfl⟩
    rw [List.getElem?_map] at hd
    obtain ⟨r, hr2, rfl⟩ := Option.map_eq_some_iff.mp hd
    obtain ⟨a1, a2⟩ := hr.asc j r hr2
    have hj := (List.getElem?_eq_some_iff.mp hr2).1
    have hf := hr.few
    have hlen : (bensF (rs.take j)).length = j := by rw [bensF_len, List.length_take]; omega
    have etk : rs.take (j + 1) = rs.take j ++ [r] := by rw [List.take_add_one, hr2]; rfl
    refine tg_name ?_
    refine sw_seq (sw_set (ev_dnew fun p2 hp2 => ?_))
    refine sw_seq (sw_for (ei_tup ?_))
    walk_at "st"
    refine ⟨fun i G' W' => ∃ ks : List Nat, ks.Nodup ∧ (∀ x, x ∈ ks ↔ x ∈ r.take i ∨ ∃ k ∈ r.take i, x ∈ (bensF (rs.take j)).getD k []) ∧ W' = [(p2, .dp (kni ks)), (p1, .lst ((bensF (rs.take j)).map rowD))] ∧ ∃ o4, G' = [some (rowsD rs), some (.adr p1), some (rowD r), some (.adr p2), o4, none], ⟨[], List.nodup_nil, by simp, rfl, _, rfl⟩, ?_, ?_⟩
    · rintro i d G' W' hd ⟨ks, nd, hm, rfl, o4, rfl⟩
      rw [List.getElem?_map] at hd
      obtain ⟨k, hk, rfl⟩ := Option.map_eq_some_iff.mp hd
      have hkj := a2 k (List.mem_of_getElem? hk)
      have hb : (bensF (rs.take j))[k]? = some ((bensF (rs.take j)).getD k []) := by
        rw [List.getD_eq_getElem?_getD, List.getElem?_eq_getElem (by omega)]
        rfl
      have hbl := bensV_low (hr.take j) k _ hb
      generalize hB : (bensF (rs.take j)).getD k [] = b at hb hbl
      have hks : ks.length ≤ j := low_len nd fun x hx => by
        rcases (hm x).mp hx with h | ⟨q, hq, h⟩
        · exact a2 x (List.mem_of_mem_take h)
        · have hq2 := a2 q (List.mem_of_mem_take hq)
          have hqb : (bensF (rs.take j))[q]? = some ((bensF (rs.take j)).getD q []) := by
            rw [List.getD_eq_getElem?_getD, List.getElem?_eq_getElem (by omega)]
            rfl
          have := bensV_low (hr.take j) q _ hqb x h
          omega
      have hbn : (b.foldl insK []).length ≤ k := low_len (nodup_fold_ins List.nodup_nil) fun x hx => hbl x ((mem_fold_ins.mp hx).resolve_left (by simp))
      walk_at "st"
      refine ⟨p2, kni ks, Sum.inl (k : Int), [], _, rfl, rfl, rfl, by rw [kni_len]; omega, ?_⟩
      rw [put_kni]
      refine sw_drop (ev_dupd ?_)
      walk_at "st"
      refine ⟨⟨_, .inr ⟨_, rfl, List.mem_cons_self⟩⟩, ?_⟩
      refine ev_fz (ev_dc (ei_tup ?_))
      walk_at "st"
      refine bo_ixL (.inr ⟨_, rfl, List.mem_cons_of_mem _ List.mem_cons_self⟩) (at_row (by omega)) ?_
      rw [hB]
      walk_at "st"
      refine ⟨fun t acc W' => W' = [(p2, .dp (kni (insK ks k))), (p1, .lst ((bensF (rs.take j)).map rowD))] ∧ acc = kni ((b.take t).foldl insK []), ⟨rfl, rfl⟩, ?_, ?_⟩
      · rintro t d acc W' hd ⟨rfl, rfl⟩
        rw [List.getElem?_map] at hd
        obtain ⟨x, hx, rfl⟩ := Option.map_eq_some_iff.mp hd
        have ht : ((b.take t).foldl insK []).length ≤ k := low_len (nodup_fold_ins List.nodup_nil) fun x hx => hbl x (List.mem_of_mem_take ((mem_fold_ins.mp hx).resolve_left (by simp)))
        refine tw_name (by simp) ?_
        walk_at "st"
        refine ⟨by rw [kni_len]; omega, rfl, ?_⟩
        rw [put_kni, List.take_add_one, hx, Option.toList_some, List.foldl_append]
        rfl
      · rintro acc W' ⟨rfl, rfl⟩ p3 hp3
        rw [List.length_map, List.take_length]
        refine ⟨p3, _, _, _, rfl, List.Perm.refl _, .dct _ _, ?_⟩
        refine ⟨p2, kni (insK ks k), kni (b.foldl insK []), [], _, rfl, rfl, rfl, ?_, ?_⟩
        · have : (insK ks k).length ≤ ks.length + 1 := by unfold insK; split <;> simp
          rw [kni_len, kni_len]
          omega
        rw [up_kni]
        refine ⟨_, nodup_fold_ins (nodup_insK nd), fun x => ?_, rfl, _, rfl⟩
        rw [mem_fold_ins, mem_insK, mem_fold_ins, hm x, List.take_add_one, hk, Option.toList_some]
        simp only [List.not_mem_nil, false_or, List.mem_append, List.mem_singleton]
        constructor
        · rintro (((h | ⟨q, h1, h2⟩) | h) | h)
          · exact .inl (.inl h)
          · exact .inr ⟨q, .inl h1, h2⟩
          · exact .inl (.inr h)
          · exact .inr ⟨k, .inr rfl, by rw [hB]; exact h⟩
        · rintro ((h | h) | ⟨q, h1 | h1, h2⟩)
          · exact .inl (.inl (.inl h))
          · exact .inl (.inr h)
          · exact .inl (.inl (.inr ⟨q, h1, h2⟩))
          · subst h1
            rw [hB] at h2
            exact .inr h2
    · rintro G' W' ⟨ks, nd, hm, rfl, o4, rfl⟩
      rw [List.length_map, List.take_length] at hm
      have hks : ks.length ≤ j := low_len nd fun x hx => by
        rcases (hm x).mp hx with h | ⟨q, hq, h⟩
        · exact a2 x h
        · have hq2 := a2 q hq
          have hqb : (bensF (rs.take j))[q]? = some ((bensF (rs.take j)).getD q []) := by
            rw [List.getD_eq_getElem?_getD, List.getElem?_eq_getElem (by omega)]
            rfl
          have := bensV_low (hr.take j) q _ hqb x h
          omega
      refine sw_drop (ev_drp (ev_append ?_))
      walk_at "st"
      refine ⟨p1, (bensF (rs.take j)).map rowD, [(p2, .dp (kni ks))], [], rfl, rfl, ?_⟩
      walk_at "st"
      refine ca_sortedDN (ks := ks.map fun (k : Nat) => (k : Int)) (.inr ⟨_, rfl, List.mem_cons_self⟩) (kni_map ks) (by rw [List.length_map]; omega) fun ys hp hs => ?_
      have e := sorted_kni (ms := r ++ (r.map fun k => (bensF (rs.take j)).getD k []).flatten) nd hp hs (fun x => by
        rw [hm x, List.mem_append, List.mem_flatten]
        refine or_congr Iff.rfl ⟨fun ⟨q, h1, h2⟩ => ⟨_, List.mem_map.mpr ⟨q, h1, rfl⟩, h2⟩, fun ⟨l, h1, h2⟩ => ?_⟩
        obtain ⟨q, h3, rfl⟩ := List.mem_map.mp h1
        exact ⟨q, h3, h2⟩)
      subst e
      walk_at "st"
      refine ca_tup (.inl (.inl rfl)) ?_
      walk_at "st"
      refine ⟨(bensF (rs.take j)).map rowD, [(p2, .dp (kni ks))], [], _, rfl, rfl, by rw [List.length_map]; omega, ?_⟩
      refine ⟨[(p1, .lst ((bensF (rs.take j)).map rowD ++ [rowD (ascN (r ++ (r.map fun k => (bensF (rs.take j)).getD k []).flatten))]))], by rw [List.map_map]; exact List.sublist_cons_self _ _, ?_⟩
      refine ⟨?_, _, _, _, rfl⟩
      rw [etk, bensF_snoc, List.map_append]
      rfl
  · rintro G' W' ⟨rfl, o2, o3, o4, rfl⟩
    rw [List.length_map, List.take_length]
    refine sw_fz (i := 1) rfl (List.Perm.refl _) (.lst _) ?_
    walk_at "st"
    exact k
abbrev s_heights_by : Stmt := top 40
theorem sc_heights_by : FnScope ["below", "found", "points", "point"] ["below"] (defScope s_heights_by) := ⟨rfl, rfl, rfl, by decide +kernel, rfl, by decide +kernel, by decide +kernel⟩
theorem c_heights_by {P : Program} {w : World} {K : PySem.W.Frag} {mg : Str → Option Value} {base : Heap} {cl : Nat → Addr} {f : Addr} {fd : FuncData} (hm : mg "heights_by" = some (.ref f)) (B : Blt mg) (Z : ZZ K w mg cl) (Fn : Fun K "heights_by" "heights_by" s_heights_by f fd) : Cal P w K mg base 1 "heights_by" (spN FK ⟨K, cl⟩ S_heightsV) [] := by
  have fz := Z.z0
  have gz := Z.z1
  refine calD hm Fn sc_heights_by (by intro ds W post h; first | (obtain ⟨rfl, _⟩ := h; rfl) | (obtain ⟨_, rfl, _⟩ := h; rfl) | (obtain ⟨_, _, rfl, _⟩ := h; rfl) | (obtain ⟨_, _, _, rfl, _⟩ := h; rfl) | (obtain ⟨_, _, _, _, rfl, _⟩ := h; rfl) | (obtain ⟨_, _, _, _, _, rfl, _⟩ := h; rfl) | (obtain ⟨_, _, _, _, _, _, rfl, _⟩ := h; rfl) | (obtain ⟨_, _, _, _, _, _, _, rfl, _⟩ := h; rfl) | (obtain ⟨_, _, _, _, _, _, _, _, rfl, _⟩ := h; rfl) | (obtain ⟨_, _, _, _, _, _, _, _, _, rfl, _⟩ := h; rfl) | (obtain ⟨_, _, _, _, _, _, _, _, _, _, rfl, _⟩ := h; rfl) | (obtain ⟨_, _, _, _, _, _, _, _, _, _, _, rfl, _⟩ := h; rfl)) (fun _ _ _ _ _ _ us hl => match us, hl with | [_], _ => rfl) fun cdv A outer s H E hr => ⟨_, pss_cons (ps_set (i := 1) sc_heights_by.nd rfl (Or.inr rfl) (pe_lst pa_nil))
 (pss_cons (ps_for PassesOwn.never rfl (pi_tup (pv 0)) (pg_name (i := 2) sc_heights_by.nd rfl (Or.inl rfl)) (pss_one (ps_expr (pe_bm PySem.F.plainAttrs_list PySem.F.slot_list_append PySem.F.type_list_append mt_append (pv 1) (pa_cons (pe_callB (cr_max rfl) (by rfl) B.max bt_max (pa_cons (pe_lst (pa_cons pe_int (StX.pa_star (pe_lc (own := [("point", 3)]) (by rfl) sc_heights_by.nd (pi_tup (pv 2)) (blkOk_by (own := [("point", 3)]) (N := ["below", "found", "points", "point"]) (sc := defScope s_heights_by) (by decide +kernel)) (fun _ _ _ _ _ => (pg_name (i := 3) sc_heights_by.nd rfl (Or.inl rfl))) (fun _ _ _ _ _ => pts_nil) (fun _ _ _ _ _ => (pe_op op_add pe_int (pe_ix (ix_listK (K := K) rfl) (pv 1) (pv 3) (fun _ _ => rfl))))) pa_nil))) pa_nil)) pa_nil)))))
 (pss_one (ps_ret (pv 1)))), ?_⟩
  rintro ds W post ⟨rs, rfl, rfl, hr, k⟩
  try dsimp only [cxOf, Cx.nox, Cx.wish]
  have h16 := sizeLine_eq
  refine sw_seq (sw_set (ev_lst ?_))
  walk_at "st"
  intro p1 hp1
  refine sw_seq (sw_for (ei_tup ?_))
  walk_at "st"
  refine ⟨fun j G' W' => W' = [(p1, .lst ((hgtF (rs.take j)).map natD))] ∧ ∃ o2, G' = [some (rowsD rs), some (.adr p1), o2, none], ⟨rfl, _, rfl⟩, ?_, ?_⟩
  · rintro j d G' W' hd ⟨rfl, o2, rfl⟩
    rw [List.getElem?_map] at hd
    obtain ⟨r, hr2, rfl⟩ := Option.map_eq_some_iff.mp hd
    obtain ⟨a1, a2⟩ := hr.asc j r hr2
    have hj := (List.getElem?_eq_some_iff.mp hr2).1
    have hf := hr.few
    have hlen : (hgtF (rs.take j)).length = j := by rw [hgtF_len, List.length_take]; omega
    have hrl : r.length ≤ j := low_len (a1.imp fun h => Nat.ne_of_lt h) a2
    have etk : rs.take (j + 1) = rs.take j ++ [r] := by rw [List.take_add_one, hr2]; rfl
    refine tg_name ?_
    refine sw_drop (ev_append ?_)
    walk_at "st"
    refine ⟨p1, (hgtF (rs.take j)).map natD, [], [], rfl, rfl, ?_⟩
    walk_at "st"
    refine ea_star (ev_lcM (ei_tup ?_))
    walk_at "st"
    refine ⟨(r.map fun k => 1 + (hgtF (rs.take j)).getD k 0).map natD, fun i d e hd he => ?_, by simp, by simp; omega, ?_⟩
    · rw [List.getElem?_map] at hd
      obtain ⟨k, hk, rfl⟩ := Option.map_eq_some_iff.mp hd
      rw [List.getElem?_map, List.getElem?_map, hk] at he
      have he : some (natD (1 + (hgtF (rs.take j)).getD k 0)) = some e := he
      have hkj := a2 k (List.mem_of_getElem? hk)
      cases he
      refine tw_name (by simp) ?_
      walk_at "st"
      refine ⟨rfl, ?_⟩
      walk_at "st"
      refine bo_ixL (.inr ⟨_, rfl, List.mem_cons_self⟩) (at_nat (by omega)) ?_
      walk_at "st"
      refine ⟨?_, rfl⟩
      show D.int _ = D.int _
      congr 1
    · refine ⟨_, .inl (.inl (.inl rfl)), ?_⟩
      walk_at "st"
      obtain ⟨m1, m2⟩ := fold_max (r.map fun k => 1 + (hgtF (rs.take j)).getD k 0) 0
      refine ⟨by simp; omega, ?_⟩
      refine ea_nil (ca_max (ns := (0 :: r.map fun k => 1 + (hgtF (rs.take j)).getD k 0).map fun (k : Nat) => (k : Int)) (m := (((r.map fun k => 1 + (hgtF (rs.take j)).getD k 0).foldl max 0 : Nat) : Int)) (.inl (.inl (by simp))) (List.mem_map.mpr ⟨_, m1, rfl⟩) (fun y hy => by
        obtain ⟨x, hx, rfl⟩ := List.mem_map.mp hy
        have := m2 x hx
        omega) ?_)
      walk_at "st"
      refine ⟨(hgtF (rs.take j)).map natD, [], [], _, rfl, rfl, by rw [List.length_map]; omega, ?_⟩
      refine ⟨?_, _, rfl⟩
      rw [etk, hgtF_snoc, List.map_append]
      rfl
  · rintro G' W' ⟨rfl, o2, rfl⟩
    rw [List.length_map, List.take_length]
    refine sw_fz (i := 1) rfl (List.Perm.refl _) (.lst _) ?_
    walk_at "st"
    exact k
end
section
abbrev s_Web___init__ : Stmt := inClass (top 41) 0
theorem sc_Web___init__ : FnScope ["self", "below", "atoms"] ["self", "below", "atoms"] (defScope s_Web___init__) := ⟨rfl, rfl, rfl, by decide +kernel, rfl, by decide +kernel, by decide +kernel⟩
theorem m_Web {P : Program} {w : World} {K : PySem.W.Frag} {mg : Str → Option Value} {base : Heap} {cl : Nat → Addr} {f : Addr} {fd : FuncData} (mk : Mk K (cl 1) f) (B : Blt mg) (Z : ZZ K w mg cl) (Fn : Fun K "__init__" "Web.__init__" s_Web___init__ f fd)
    (c_are_below : Cal P w K mg base 3 "are_below" (spN FK ⟨K, cl⟩ S_arebelowU) [])
    (c_are_letters : Cal P w K mg base 3 "are_letters" (spN FK ⟨K, cl⟩ S_arelettersU) [])
    (c_beneath_by : Cal P w K mg base 1 "beneath_by" (spN FK ⟨K, cl⟩ S_beneathV) [])
    (c_heights_by : Cal P w K mg base 1 "heights_by" (spN FK ⟨K, cl⟩ S_heightsV) []) : Mak P w K mg base 4 "Web" (cl 1) (spN FK ⟨K, cl⟩ S_initW) [] := by
  have fz := Z.z0
  have gz := Z.z1
  refine makD mk Z.g_Web Fn sc_Web___init__ (by intro ds W post h; first | (obtain ⟨rfl, _⟩ := h; rfl) | (obtain ⟨_, rfl, _⟩ := h; rfl) | (obtain ⟨_, _, rfl, _⟩ := h; rfl) | (obtain ⟨_, _, _, rfl, _⟩ := h; rfl) | (obtain ⟨_, _, _, _, rfl, _⟩ := h; rfl) | (obtain ⟨_, _, _, _, _, rfl, _⟩ := h; rfl) | (obtain ⟨_, _, _, _, _, _, rfl, _⟩ := h; rfl) | (obtain ⟨_, _, _, _, _, _, _, rfl, _⟩ := h; rfl) | (obtain ⟨_, _, _, _, _, _, _, _, rfl, _⟩ := h; rfl) | (obtain ⟨_, _, _, _, _, _, _, _, _, rfl, _⟩ := h; rfl) | (obtain ⟨_, _, _, _, _, _, _, _, _, _, rfl, _⟩ := h; rfl) | (obtain ⟨_, _, _, _, _, _, _, _, _, _, _, rfl, _⟩ := h; rfl)) (fun _ _ _ _ _ _ us hl => match us, hl with | [_, _, _], _ => rfl) fun cdv A outer s H E hr => ⟨_, pss_cons (ps_if (pt_not (pt_val (pe_c c_are_below hr (by omega) (by rfl) (pa_cons (pv 1) pa_nil)))) (pss_one (ps_never)) (pss_nil))
 (pss_cons (ps_if (pt_not (pt_val (pe_c c_are_letters hr (by omega) (by rfl) (pa_cons (pe_callB call_len (by rfl) B.len bt_len (pa_cons (pv 1) pa_nil)) (pa_cons (pv 2) pa_nil))))) (pss_one (ps_never)) (pss_nil))
 (pss_cons (ps_fld (pv 0) (pv 1) rfl)
 (pss_cons (ps_fld (pv 0) (pv 2) rfl)
 (pss_cons (ps_fld (pv 0) (pe_c c_beneath_by hr (by omega) (by rfl) (pa_cons (pv 1) pa_nil)) rfl)
 (pss_one (ps_fld (pv 0) (pe_c c_heights_by hr (by omega) (by rfl) (pa_cons (pv 1) pa_nil)) rfl)))))), ?_⟩
  rintro ds W post ⟨x, w, rfl, rfl, hw, k⟩
  try dsimp only [cxOf, Cx.nox, Cx.wish]
  have hlen := hw.len
  have hf := hw.rows.few
  walk_at "st"
  refine hand0 ⟨rowsPy w.below, by rw [uD_rows]; rfl, rfl, u_rows hw, ?_⟩
  try simp only [List.nil_append]
  try walk_at "st"
  rw [rowsB_web hw]
  walk_at "st"
  refine hand0 ⟨w.below.length, lettersPy w.atoms, by rw [uD_letters, List.length_map]; rfl, rfl, by omega, u_letters hw, ?_⟩
  try simp only [List.nil_append]
  try walk_at "st"
  rw [letsU_web hw]
  walk_at "st"
  refine rcv_newC (c := 1) (nm := wbNames) Z.z1 (by decide +kernel) (by decide +kernel) (by decide) ?_
  walk_at "st"
  refine rcv_newC (c := 1) (nm := wbNames) Z.z1 (by decide +kernel) (by decide +kernel) (by decide) ?_
  walk_at "st"
  refine hand0 ⟨w.below, rfl, rfl, hw.rows.v, ?_⟩
  try simp only [List.nil_append]
  try walk_at "st"
  refine rcv_newC (c := 1) (nm := wbNames) Z.z1 (by decide +kernel) (by decide +kernel) (by decide) ?_
  walk_at "st"
  refine hand0 ⟨w.below, rfl, rfl, hw.rows.v, ?_⟩
  try simp only [List.nil_append]
  try walk_at "st"
  refine rcv_newC (c := 1) (nm := wbNames) Z.z1 (by decide +kernel) (by decide +kernel) (by decide) ?_
  exact k
theorem mx_Web {P : Program} {w : World} {K : PySem.W.Frag} {mg : Str → Option Value} {base : Heap} {cl : Nat → Addr} {f : Addr} {fd : FuncData} (mk : Mk K (cl 1) f) (B : Blt mg) (Z : ZZ K w mg cl) (Fn : Fun K "__init__" "Web.__init__" s_Web___init__ f fd)
    (c_are_below : Cal P w K mg base 3 "are_below" (spN FK ⟨K, cl⟩ S_arebelowU) [])
    (c_are_letters : Cal P w K mg base 3 "are_letters" (spN FK ⟨K, cl⟩ S_arelettersU) [])
    (c_beneath_by : Cal P w K mg base 1 "beneath_by" (spN FK ⟨K, cl⟩ S_beneathV) [])
    (c_heights_by : Cal P w K mg base 1 "heights_by" (spN FK ⟨K, cl⟩ S_heightsV) [])
    (e_BadWeb : Err P w K mg base 1 "BadWeb" (cl 13) "part") : MakX P w K mg base 4 "Web" (cl 1) 2 ["atoms", "below"] (fun vs zs => vs ++ zs.reverse) (spX FK ⟨K, cl⟩ (S_init8)) := by
  have fz := Z.z0
  have gz := Z.z1
  refine makXD (S := S_init8) (ks := ["atoms", "below"]) (gV := fun vs zs => vs ++ zs.reverse) mk Z.g_Web Fn sc_Web___init__ (by intro ds W post ex h; first | (obtain ⟨rfl, _⟩ := h; rfl) | (obtain ⟨_, rfl, _⟩ := h; rfl) | (obtain ⟨_, _, rfl, _⟩ := h; rfl) | (obtain ⟨_, _, _, rfl, _⟩ := h; rfl) | (obtain ⟨_, _, _, _, rfl, _⟩ := h; rfl) | (obtain ⟨_, _, _, _, _, rfl, _⟩ := h; rfl) | (obtain ⟨_, _, _, _, _, _, rfl, _⟩ := h; rfl) | (obtain ⟨_, _, _, _, _, _, _, rfl, _⟩ := h; rfl) | (obtain ⟨_, _, _, _, _, _, _, _, rfl, _⟩ := h; rfl) | (obtain ⟨_, _, _, _, _, _, _, _, _, rfl, _⟩ := h; rfl) | (obtain ⟨_, _, _, _, _, _, _, _, _, _, rfl, _⟩ := h; rfl) | (obtain ⟨_, _, _, _, _, _, _, _, _, _, _, rfl, _⟩ := h; rfl)) (fun _ _ _ _ _ _ us hl => match us, hl with | [_, _, _], _ => rfl) (kb1_of (g := fun us ws => us ++ ws.reverse) Fn (fun _ _ _ _ _ _ u ws hl => match ws, hl with | [_, _], _ => rfl) (fun h1 h2 => by first | exact h1.append h2 | exact h1.append h2.reverse)) fun cdv A outer s H E hr => ⟨_, pss_cons (ps_if (pt_not (pt_val (pe_c c_are_below hr (by omega) (by rfl) (pa_cons (pv 1) pa_nil)))) (pss_one (ps_raise rfl (takes_of rfl rfl rfl rfl) (pmk_err e_BadWeb hr (by omega) (by rfl) (pa_cons pe_str pa_nil)))) (pss_nil))
 (pss_cons (ps_if (pt_not (pt_val (pe_c c_are_letters hr (by omega) (by rfl) (pa_cons (pe_callB call_len (by rfl) B.len bt_len (pa_cons (pv 1) pa_nil)) (pa_cons (pv 2) pa_nil))))) (pss_one (ps_raise rfl (takes_of rfl rfl rfl rfl) (pmk_err e_BadWeb hr (by omega) (by rfl) (pa_cons pe_str pa_nil)))) (pss_nil))
 (pss_cons (ps_fld (pv 0) (pv 1) rfl)
 (pss_cons (ps_fld (pv 0) (pv 2) rfl)
 (pss_cons (ps_fld (pv 0) (pe_c c_beneath_by hr (by omega) (by rfl) (pa_cons (pv 1) pa_nil)) rfl)
 (pss_one (ps_fld (pv 0) (pe_c c_heights_by hr (by omega) (by rfl) (pa_cons (pv 1) pa_nil)) rfl)))))), ?_⟩
  rintro ds W post ex ⟨x, p, q, rfl, rfl, hp, hq, k, kx⟩
  try dsimp only [cxOf, Cx.nox, Cx.wish]
  have h16 := sizeLine_eq
  walk_at "st"
  refine hand0 ⟨p, rfl, rfl, hp, ?_⟩
  try simp only [List.nil_append]
  try walk_at "st"
  cases e1 : rowsB p with
  | false =>
    refine if_so rfl ?_
    walk_at "st"
    intro d hd
    exact kx "below" d _ (by unfold due8; rw [e1]; rfl) List.mem_cons_self
  | true =>
    obtain ⟨rs, rfl, hne, hasc⟩ := rowsB_iff.mp e1
    have hlr : rs.length ≤ 5000 := by
      have := (Uk.tup.mp hp).len
      rw [List.length_map] at this
      exact this
    have hv : rowsV rs := ⟨hasc, hlr⟩
    refine if_not rfl ?_
    rw [uD_rows]
    walk_at "st"
    refine hand0 ⟨rs.length, q, by rw [List.length_map]; rfl, rfl, hlr, hq, ?_⟩
    try simp only [List.nil_append]
    try walk_at "st"
    cases e2 : letsU rs.length q with
    | false =>
      refine if_so rfl ?_
      walk_at "st"
      intro d hd
      exact kx "atoms" d _ (by unfold due8; rw [e1, if_pos rfl, len_rows, e2]; rfl) List.mem_cons_self
    | true =>
      obtain ⟨ls, rfl, hll, hls⟩ := letsU_iff.mp e2
      have k := k ⟨rs, ls⟩ rfl rfl (by unfold due8; rw [e1, if_pos rfl, len_rows, e2]; rfl)
      refine if_not rfl ?_
      rw [uD_letters]
      walk_at "st"
      refine rcv_newC (c := 1) (nm := wbNames) Z.z1 (by decide +kernel) (by decide +kernel) (by decide) ?_
      walk_at "st"
      refine rcv_newC (c := 1) (nm := wbNames) Z.z1 (by decide +kernel) (by decide +kernel) (by decide) ?_
      walk_at "st"
      refine hand0 ⟨rs, rfl, rfl, hv, ?_⟩
      try simp only [List.nil_append]
      try walk_at "st"
      refine rcv_newC (c := 1) (nm := wbNames) Z.z1 (by decide +kernel) (by decide +kernel) (by decide) ?_
      walk_at "st"
      refine hand0 ⟨rs, rfl, rfl, hv, ?_⟩
      try simp only [List.nil_append]
      try walk_at "st"
      refine rcv_newC (c := 1) (nm := wbNames) Z.z1 (by decide +kernel) (by decide +kernel) (by decide) ?_
      exact k
end
section
abbrev s_line_of : Stmt := top 42
theorem sc_line_of : FnScope ["points", "letters", "point"] ["points", "letters"] (defScope s_line_of) := ⟨rfl, rfl, rfl, by decide +kernel, rfl, by decide +kernel, by decide +kernel⟩
theorem c_line_of {P : Program} {w : World} {K : PySem.W.Frag} {mg : Str → Option Value} {base : Heap} {cl : Nat → Addr} {f : Addr} {fd : FuncData} (hm : mg "line_of" = some (.ref f)) (B : Blt mg) (Z : ZZ K w mg cl) (Fn : Fun K "line_of" "line_of" s_line_of f fd) : Cal P w K mg base 1 "line_of" (spN FK ⟨K, cl⟩ S_lineof) [] := by
  have fz := Z.z0
  have gz := Z.z1
  refine calD hm Fn sc_line_of (by intro ds W post h; first | (obtain ⟨rfl, _⟩ := h; rfl) | (obtain ⟨_, rfl, _⟩ := h; rfl) | (obtain ⟨_, _, rfl, _⟩ := h; rfl) | (obtain ⟨_, _, _, rfl, _⟩ := h; rfl) | (obtain ⟨_, _, _, _, rfl, _⟩ := h; rfl) | (obtain ⟨_, _, _, _, _, rfl, _⟩ := h; rfl) | (obtain ⟨_, _, _, _, _, _, rfl, _⟩ := h; rfl) | (obtain ⟨_, _, _, _, _, _, _, rfl, _⟩ := h; rfl) | (obtain ⟨_, _, _, _, _, _, _, _, rfl, _⟩ := h; rfl) | (obtain ⟨_, _, _, _, _, _, _, _, _, rfl, _⟩ := h; rfl) | (obtain ⟨_, _, _, _, _, _, _, _, _, _, rfl, _⟩ := h; rfl) | (obtain ⟨_, _, _, _, _, _, _, _, _, _, _, rfl, _⟩ := h; rfl)) (fun _ _ _ _ _ _ us hl => match us, hl with | [_, _], _ => rfl) fun cdv A outer s H E hr => ⟨_, pss_one (ps_ret (pe_join (C8.pe_gc (by rfl) Z.g_BLANK) (pe_lst (pa_cons (pe_ifExp (pt_cmpR op_ne (pv 1) pe_str (nomark _)) (pv 1) (C8.pe_gc (by rfl) Z.g_BARE)) (StX.pa_star (pe_lc (own := [("point", 2)]) (by rfl) sc_line_of.nd (pi_tup (pv 0)) (blkOk_by (own := [("point", 2)]) (N := ["points", "letters", "point"]) (sc := defScope s_line_of) (by decide +kernel)) (fun _ _ _ _ _ => (pg_name (i := 2) sc_line_of.nd rfl (Or.inl rfl))) (fun _ _ _ _ _ => pts_nil) (fun _ _ _ _ _ => (pe_callTy call_str_int (by rfl) B.str bt_str (pa_cons (pv 2) pa_nil)))) pa_nil))))), ?_⟩
  rintro ds W post ⟨s, r, rfl, rfl, ho, k⟩
  try dsimp only [cxOf, Cx.nox, Cx.wish]
  have h16 := sizeLine_eq
  have hf := ho.few
  have hs := ho.sum
  walk_at "st"
  refine ev_join ?_
  walk_at "st"
  rcases word_ways s with ⟨h, e⟩ | ⟨h, e⟩
  all_goals
    simp only [lineS, lineL, e] at k hs
  all_goals first | ((refine' if_not ?hc ?_); (case hc => simp [h]; done)) | ((refine' if_so ?hc ?_); (case hc => simp [h]; done))
  all_goals
    walk_at "st"
    refine ea_star ?_
    walk_at "st"
    refine ev_lcM (ei_tup ?_)
    walk_at "st"
    refine ⟨(r.map numS).map .str, fun i d e hd he => ?_, by simp, by simp only [List.length_map]; omega, ?_⟩
    · rw [List.getElem?_map] at hd
      obtain ⟨n, hn, rfl⟩ := Option.map_eq_some_iff.mp hd
      rw [List.map_map, List.getElem?_map, hn] at he
      obtain rfl := Option.some.inj he
      have hl := ho.low n (List.mem_of_getElem? hn)
      refine tw_name (by simp) ?_
      walk_at "st"
      refine ⟨rfl, ?_⟩
      walk_at "st"
      exact ca_strN (by omega) ⟨rfl, rfl⟩
    · refine ⟨_, .inl (.inl (.inl rfl)), ?_⟩
      walk_at "st"
      refine ⟨by simp; omega, _ :: r.map numS, .inl (.inl (.inl (by simp))), hs, k⟩
abbrev s_Web___str__ : Stmt := inClass (top 41) 16
theorem sc_Web___str__ : FnScope ["self", "points", "letters"] ["self"] (defScope s_Web___str__) := ⟨rfl, rfl, rfl, by decide +kernel, rfl, by decide +kernel, by decide +kernel⟩
theorem o_str1 {P : Program} {w : World} {K : PySem.W.Frag} {mg : Str → Option Value} {base : Heap} {cl : Nat → Addr} {f : Addr} {fd : FuncData} (o : Own2 K (cl 1) "__str__" f) (B : Blt mg) (Z : ZZ K w mg cl) (Fn : Fun K "__str__" "Web.__str__" s_Web___str__ f fd)
    (c_line_of : Cal P w K mg base 1 "line_of" (spN FK ⟨K, cl⟩ S_lineof) []) : Opn P w K mg base 2 (cl 1) "__str__" (spN FK ⟨K, cl⟩ S_strW) := by
  have fz := Z.z0
  have gz := Z.z1
  refine opnD o Fn sc_Web___str__ (by intro ds W post h; first | (obtain ⟨rfl, _⟩ := h; rfl) | (obtain ⟨_, rfl, _⟩ := h; rfl) | (obtain ⟨_, _, rfl, _⟩ := h; rfl) | (obtain ⟨_, _, _, rfl, _⟩ := h; rfl) | (obtain ⟨_, _, _, _, rfl, _⟩ := h; rfl) | (obtain ⟨_, _, _, _, _, rfl, _⟩ := h; rfl) | (obtain ⟨_, _, _, _, _, _, rfl, _⟩ := h; rfl) | (obtain ⟨_, _, _, _, _, _, _, rfl, _⟩ := h; rfl) | (obtain ⟨_, _, _, _, _, _, _, _, rfl, _⟩ := h; rfl) | (obtain ⟨_, _, _, _, _, _, _, _, _, rfl, _⟩ := h; rfl) | (obtain ⟨_, _, _, _, _, _, _, _, _, _, rfl, _⟩ := h; rfl) | (obtain ⟨_, _, _, _, _, _, _, _, _, _, _, rfl, _⟩ := h; rfl)) (fun _ _ _ _ _ _ us hl => match us, hl with | [_], _ => rfl) fun cdv A outer s H E hr => ⟨_, pss_one (ps_ret (pe_join pe_str (pe_lc (own := [("points", 1), ("letters", 2)]) (by rfl) sc_Web___str__.nd (pi_zipT (by rfl) B.zip (pa_cons (pe_fld (pv 0) rfl) (pa_cons (pe_fld (pv 0) rfl) pa_nil)) (pk_cons pe_bl pk_nil)) (blkOk_by (own := [("points", 1), ("letters", 2)]) (N := ["self", "points", "letters"]) (sc := defScope s_Web___str__) (by decide +kernel)) (fun _ _ _ _ _ => (pg_tupK (K := K) rfl (n := 2) rfl (pgs_cons (pg_name (i := 1) sc_Web___str__.nd rfl (Or.inl rfl)) (pgs_cons (pg_name (i := 2) sc_Web___str__.nd rfl (Or.inl rfl)) pgs_nil)))) (fun _ _ _ _ _ => pts_nil) (fun _ _ _ _ _ => (pe_c c_line_of hr (by omega) (by rfl) (pa_cons (pv 1) (pa_cons (pv 2) pa_nil))))))), ?_⟩
  rintro ds W post ⟨w, rfl, rfl, hw, k⟩
  try dsimp only [cxOf, Cx.nox, Cx.wish]
  have h16 := sizeLine_eq
  have hf := hw.rows.few
  have hlen := hw.len
  walk_at "st"
  refine ev_join ?_
  walk_at "st"
  refine ev_lcM (ei_zipS ?_)
  walk_at "st"
  refine ⟨rfl, _, _, _, _, rfl, .inr (.inl rfl), .inr (.inl rfl), by rw [List.length_map, List.length_map, hlen], w.lines.map .str, fun i d e hd he => ?_, by rw [pairs2_len, List.length_map, List.length_map, List.length_map, lines_len hw]; omega, by rw [List.length_map, lines_len hw]; omega, ?_⟩
  · obtain ⟨x, y, hx, hy, rfl⟩ := pairs2_get hd
    rw [List.getElem?_map] at hx hy he
    obtain ⟨r, hr, rfl⟩ := Option.map_eq_some_iff.mp hx
    obtain ⟨s, hs, rfl⟩ := Option.map_eq_some_iff.mp hy
    obtain ⟨l, hl, rfl⟩ := Option.map_eq_some_iff.mp he
    obtain ⟨s2, r2, g1, g2, rfl⟩ := lines_get hl
    rw [hs] at g1
    rw [hr] at g2
    cases g1
    cases g2
    refine tw_tup rfl (tws_cons (tw_name (by simp) (tws_cons (tw_name (by simp) (tws_nil ?_)))))
    walk_at "st"
    refine ⟨rfl, ?_⟩
    walk_at "st"
    refine hand0 ⟨s, r, rfl, rfl, hw.line hs hr, rfl, rfl⟩
    try simp only [List.nil_append]
    try walk_at "st"
  refine ⟨w.lines, .inl (.inl (.inl rfl)), lines_sum hw, k⟩
abbrev s_Web___len__ : Stmt := inClass (top 41) 14
theorem sc_Web___len__ : FnScope ["self"] ["self"] (defScope s_Web___len__) := ⟨rfl, rfl, rfl, by decide +kernel, rfl, by decide +kernel, by decide +kernel⟩
theorem o_len1 {P : Program} {w : World} {K : PySem.W.Frag} {mg : Str → Option Value} {base : Heap} {cl : Nat → Addr} {f : Addr} {fd : FuncData} (o : Own2 K (cl 1) "__len__" f) (B : Blt mg) (Z : ZZ K w mg cl) (Fn : Fun K "__len__" "Web.__len__" s_Web___len__ f fd) : Opn P w K mg base 1 (cl 1) "__len__" (spN FK ⟨K, cl⟩ S_lenU) := by
  have fz := Z.z0
  have gz := Z.z1
  refine opnD o Fn sc_Web___len__ (by intro ds W post h; first | (obtain ⟨rfl, _⟩ := h; rfl) | (obtain ⟨_, rfl, _⟩ := h; rfl) | (obtain ⟨_, _, rfl, _⟩ := h; rfl) | (obtain ⟨_, _, _, rfl, _⟩ := h; rfl) | (obtain ⟨_, _, _, _, rfl, _⟩ := h; rfl) | (obtain ⟨_, _, _, _, _, rfl, _⟩ := h; rfl) | (obtain ⟨_, _, _, _, _, _, rfl, _⟩ := h; rfl) | (obtain ⟨_, _, _, _, _, _, _, rfl, _⟩ := h; rfl) | (obtain ⟨_, _, _, _, _, _, _, _, rfl, _⟩ := h; rfl) | (obtain ⟨_, _, _, _, _, _, _, _, _, rfl, _⟩ := h; rfl) | (obtain ⟨_, _, _, _, _, _, _, _, _, _, rfl, _⟩ := h; rfl) | (obtain ⟨_, _, _, _, _, _, _, _, _, _, _, rfl, _⟩ := h; rfl)) (fun _ _ _ _ _ _ us hl => match us, hl with | [_], _ => rfl) fun cdv A outer s H E hr => ⟨_, pss_one (ps_ret (pe_callB call_len (by rfl) B.len bt_len (pa_cons (pe_fld (pv 0) rfl) pa_nil))), ?_⟩
  rintro ds W post ⟨w, rfl, rfl, hl, z⟩
  try dsimp only [cxOf, Cx.nox, Cx.wish]
  walk_at "st"
  show post (D.int ((w.below.map rowD).length : Nat)) []
  rw [List.length_map]
  exact z
abbrev s_Web___eq__ : Stmt := inClass (top 41) 15
theorem sc_Web___eq__ : FnScope ["self", "other"] ["self", "other"] (defScope s_Web___eq__) := ⟨rfl, rfl, rfl, by decide +kernel, rfl, by decide +kernel, by decide +kernel⟩
theorem o_eq1 {P : Program} {w : World} {K : PySem.W.Frag} {mg : Str → Option Value} {base : Heap} {cl : Nat → Addr} {f : Addr} {fd : FuncData} (o : Own2 K (cl 1) "__eq__" f) (B : Blt mg) (Z : ZZ K w mg cl) (Fn : Fun K "__eq__" "Web.__eq__" s_Web___eq__ f fd) : Opn P w K mg base 1 (cl 1) "__eq__" (spN FK ⟨K, cl⟩ S_eqU) := by
  have fz := Z.z0
  have gz := Z.z1
  refine opnD o Fn sc_Web___eq__ (by intro ds W post h; first | (obtain ⟨rfl, _⟩ := h; rfl) | (obtain ⟨_, rfl, _⟩ := h; rfl) | (obtain ⟨_, _, rfl, _⟩ := h; rfl) | (obtain ⟨_, _, _, rfl, _⟩ := h; rfl) | (obtain ⟨_, _, _, _, rfl, _⟩ := h; rfl) | (obtain ⟨_, _, _, _, _, rfl, _⟩ := h; rfl) | (obtain ⟨_, _, _, _, _, _, rfl, _⟩ := h; rfl) | (obtain ⟨_, _, _, _, _, _, _, rfl, _⟩ := h; rfl) | (obtain ⟨_, _, _, _, _, _, _, _, rfl, _⟩ := h; rfl) | (obtain ⟨_, _, _, _, _, _, _, _, _, rfl, _⟩ := h; rfl) | (obtain ⟨_, _, _, _, _, _, _, _, _, _, rfl, _⟩ := h; rfl) | (obtain ⟨_, _, _, _, _, _, _, _, _, _, _, rfl, _⟩ := h; rfl)) (fun _ _ _ _ _ _ us hl => match us, hl with | [_, _], _ => rfl) fun cdv A outer s H E hr => ⟨_, pss_one (ps_ret (pe_and (pe_callB call_isi (by rfl) B.isinstance bt_isinstance (pa_cons (pv 1) (pa_cons (pe_glob (by rfl) Z.g_Web (relV_ref _)) pa_nil))) (pe_and (pe_cmpR (op_eqD hr.units) (pe_fld (pv 0) rfl) (pe_fld (pv 1) rfl) (nomark _)) (pe_one (pe_cmpR (op_eqD hr.units) (pe_fld (pv 0) rfl) (pe_fld (pv 1) rfl) (nomark _)))))), ?_⟩
  rintro ds W post ⟨w, e, rfl, rfl, hw, h⟩
  try dsimp only [cxOf, Cx.nox, Cx.wish]
  have h16 := sizeLine_eq
  rcases h with ⟨u, rfl, hu, k⟩ | ⟨⟨l, rfl⟩ | ⟨s, rfl⟩, k⟩
  · walk_at "st"
    refine isi_ins (inst_wb u) gz.ins ?_
    walk_at "st"
    refine bo_eqD (.inl (pd_rows _)) (.inl (pd_rows _)) (shaped_rows hw.rows) (shaped_rows hu.rows) ?_
    rw [eqv_rows2]
    by_cases h : w.below = u.below
    · rw [decide_eq_true h]
      walk_at "st"
      refine bo_eqD (.inl (pd_atoms _)) (.inl (pd_atoms _)) (shaped_atoms hw) (shaped_atoms hu) ?_
      rw [eqv_atoms2]
      rw [show decide (w.below = u.below ∧ w.atoms = u.atoms) = decide (w.atoms = u.atoms) from decide_eq_decide.mpr ⟨fun z => z.2, fun z => ⟨h, z⟩⟩] at k
      exact k
    · rw [decide_eq_false h]
      rw [decide_eq_false fun z => h z.1] at k
      walk_at "st"
      exact k
  · walk_at "st"
    refine isi_tupF Z.w1 ?_
    walk_at "st"
    exact k
  · walk_at "st"
    refine isi_strF gz ?_
    walk_at "st"
    exact k
end
section
abbrev s_law_deck : Stmt := top 47
theorem sc_law_deck : FnScope ["_law_script", "_law_mixed", "_law_cell"] ["_law_script"] (defScope s_law_deck) := ⟨rfl, rfl, rfl, by decide +kernel, rfl, by decide +kernel, by decide +kernel⟩
theorem c_law_deck {P : Program} {w : World} {K : PySem.W.Frag} {mg : Str → Option Value} {base : Heap} {cl : Nat → Addr} {f : Addr} {fd : FuncData} (hm : mg "_law_deck" = some (.ref f)) (B : Blt mg) (Z : ZZ K w mg cl) (Fn : Fun K "_law_deck" "_law_deck" s_law_deck f fd) : Cal P w K mg base 1 "_law_deck" (spN FK ⟨K, cl⟩ (S_deck DkA)) [] := by
  have fz := Z.z0
  have gz := Z.z1
  refine calD hm Fn sc_law_deck (by intro ds W post h; first | (obtain ⟨rfl, _⟩ := h; rfl) | (obtain ⟨_, rfl, _⟩ := h; rfl) | (obtain ⟨_, _, rfl, _⟩ := h; rfl) | (obtain ⟨_, _, _, rfl, _⟩ := h; rfl) | (obtain ⟨_, _, _, _, rfl, _⟩ := h; rfl) | (obtain ⟨_, _, _, _, _, rfl, _⟩ := h; rfl) | (obtain ⟨_, _, _, _, _, _, rfl, _⟩ := h; rfl) | (obtain ⟨_, _, _, _, _, _, _, rfl, _⟩ := h; rfl) | (obtain ⟨_, _, _, _, _, _, _, _, rfl, _⟩ := h; rfl) | (obtain ⟨_, _, _, _, _, _, _, _, _, rfl, _⟩ := h; rfl) | (obtain ⟨_, _, _, _, _, _, _, _, _, _, rfl, _⟩ := h; rfl) | (obtain ⟨_, _, _, _, _, _, _, _, _, _, _, rfl, _⟩ := h; rfl)) (fun _ _ _ _ _ _ us hl => match us, hl with | [_], _ => rfl) fun cdv A outer s H E hr => ⟨_, pss_cons (ps_set (i := 1) sc_law_deck.nd rfl (Or.inl rfl) pe_int)
 (pss_cons (ps_for PassesOwn.never rfl (pi_list (pe_slice sl_list (pv 0) po_none (po_some pe_int))) (pg_name (i := 2) sc_law_deck.nd rfl (Or.inl rfl)) (pss_one (ps_set (i := 1) sc_law_deck.nd rfl (Or.inl rfl) (pe_op op_mod (pe_callTy call_int1 (by rfl) B.int bt_int (pa_cons (pe_op op_add (pe_op op_add (pe_op op_mul (pv 1) pe_int) (pe_op op_mod (pe_callTy call_int1 (by rfl) B.int bt_int (pa_cons (pv 2) pa_nil)) pe_int)) pe_int) pa_nil)) pe_int))))
 (pss_one (ps_ret (pe_disp (pps_cons pe_str (pe_revL (pe_lc (own := [("_law_cell", 2)]) (by rfl) sc_law_deck.nd (pi_list (pe_slice sl_list (pv 0) po_none (po_some pe_int))) (blkOk_by (own := [("_law_cell", 2)]) (N := ["_law_script", "_law_mixed", "_law_cell"]) (sc := defScope s_law_deck) (by decide +kernel)) (fun _ _ _ _ _ => (pg_name (i := 2) sc_law_deck.nd rfl (Or.inl rfl))) (fun _ _ _ _ _ => pts_one (pt_cmpR op_ge (pv 2) (pe_op op_pow pe_int pe_int) (nomark _))) (fun _ _ _ _ _ => (pv 2)))) (pps_cons pe_str (pv 1) (pps_cons pe_str pe_int pps_nil))) (by rfl) (by rfl) (fun z => by cases z) (by decide))))), ?_⟩
  rintro ds W post ⟨ns, rfl, rfl, hl, k⟩
  try dsimp only [cxOf, Cx.nox, Cx.wish]
  have hc : cutD ((ns.map V.int).map D.vl) none (some 63) = ns.map D.int := (cut63 (by simpa using hl)).trans (by rw [List.map_map]; rfl)
  walk_at "st"
  refine sw_for (ei_list ?_)
  walk_at "st"
  rw [hc]
  refine ⟨fun i G W => W = [] ∧ ∃ (st : Int) (o : Option D), 0 ≤ st ∧ st < 2147483648 ∧ G = [some (.scr (ns.map V.int)), some (.int st), o], ⟨rfl, _, _, by omega, by omega, rfl⟩, ?_, ?_⟩
  · rintro i d G' W' hd ⟨rfl, st, o, h0, h1, rfl⟩
    rw [List.getElem?_map] at hd
    obtain ⟨z, hz, e⟩ := Option.map_eq_some_iff.mp hd
    subst e
    refine tg_name ?_
    walk_at "st"
    exact ⟨rfl, _, _, Int.emod_nonneg _ (by omega), Int.lt_of_lt_of_le (Int.emod_lt_of_pos _ (by omega)) (by omega), rfl⟩
  · rintro G' W' ⟨rfl, st, o, h0, h1, rfl⟩
    refine sw_ret (ev_disp (eps_cons (ev_c (ev_revL (ev_lcF (ei_list ?_))))))
    walk_at "st"
    rw [hc]
    refine ⟨fun i acc W => W = [] ∧ ∃ cells : List Int, acc = cells.map D.int ∧ cells.length ≤ i, ⟨rfl, [], rfl, Nat.le_refl _⟩, ?_, ?_⟩
    · rintro i d acc W' hd ⟨rfl, cells, rfl, hz⟩
      have hi : i < (ns.map D.int).length := (List.getElem?_eq_some_iff.mp hd).1
      rw [List.getElem?_map] at hd
      obtain ⟨z, hz2, e⟩ := Option.map_eq_some_iff.mp hd
      subst e
      refine tw_name (by simp) ?_
      walk_at "st"
      refine if_bl (fun e => ?_) (fun e => ?_)
      · walk_at "st"
        refine ⟨by have := sizeLine_eq; simp at hi ⊢; omega, rfl, cells ++ [z], by simp, by simp; omega⟩
      · exact ⟨rfl, cells, rfl, by omega⟩
    · rintro acc W' ⟨rfl, cells, rfl, hz⟩
      refine ⟨_, .inl (.inl rfl), fun p hp => ?_⟩
      walk_at "st"
      refine ⟨by simp, fun p2 hp2 => ?_⟩
      rw [mergeG_nd (by simp only [List.map_cons, List.map_nil, List.nil_append, List.cons_append]; decide +kernel)]
      refine k p2 _ ⟨p, cells.reverse, st, 0, ?_, ?_, by omega, by omega⟩
      · unfold dkA
        rw [List.map_reverse]
        rfl
      · simp at hz ⊢
        omega
abbrev s_law_draw : Stmt := top 48
theorem sc_law_draw : FnScope ["_law_deck_here", "_law_many", "_law_cell", "_law_lap", "_law_mixed"] ["_law_deck_here", "_law_many"] (defScope s_law_draw) := ⟨rfl, rfl, rfl, by decide +kernel, rfl, by decide +kernel, by decide +kernel⟩
theorem c_law_draw {P : Program} {w : World} {K : PySem.W.Frag} {mg : Str → Option Value} {base : Heap} {cl : Nat → Addr} {f : Addr} {fd : FuncData} (hm : mg "_law_draw" = some (.ref f)) (B : Blt mg) (Z : ZZ K w mg cl) (Fn : Fun K "_law_draw" "_law_draw" s_law_draw f fd) : Cal P w K mg base 1 "_law_draw" (spN FK ⟨K, cl⟩ (S_draw DkA)) [] := by
  have fz := Z.z0
  have gz := Z.z1
  refine calD hm Fn sc_law_draw (by intro ds W post h; first | (obtain ⟨rfl, _⟩ := h; rfl) | (obtain ⟨_, rfl, _⟩ := h; rfl) | (obtain ⟨_, _, rfl, _⟩ := h; rfl) | (obtain ⟨_, _, _, rfl, _⟩ := h; rfl) | (obtain ⟨_, _, _, _, rfl, _⟩ := h; rfl) | (obtain ⟨_, _, _, _, _, rfl, _⟩ := h; rfl) | (obtain ⟨_, _, _, _, _, _, rfl, _⟩ := h; rfl) | (obtain ⟨_, _, _, _, _, _, _, rfl, _⟩ := h; rfl) | (obtain ⟨_, _, _, _, _, _, _, _, rfl, _⟩ := h; rfl) | (obtain ⟨_, _, _, _, _, _, _, _, _, rfl, _⟩ := h; rfl) | (obtain ⟨_, _, _, _, _, _, _, _, _, _, rfl, _⟩ := h; rfl) | (obtain ⟨_, _, _, _, _, _, _, _, _, _, _, rfl, _⟩ := h; rfl)) (fun _ _ _ _ _ _ us hl => match us, hl with | [_, _], _ => rfl) fun cdv A outer s H E hr => ⟨_, pss_cons (ps_if (pt_cmpR (op_neD hr.units) (pe_dget (by exact hu_of hr) (pv 0) pe_str (fun _ _ => rfl)) (pe_lst pa_nil) (nomark _)) (pss_cons (ps_set (i := 2) sc_law_draw.nd rfl (Or.inl rfl) (pe_callTy call_int1 (by rfl) B.int bt_int (pa_cons (pe_bm0 PySem.F.plainAttrs_list PySem.F.slot_list_pop PySem.F.type_list_pop mt_pop (pe_dget (by exact hu_of hr) (pv 0) pe_str (fun _ _ => rfl))) pa_nil)))
 (pss_cons (ps_if (pt_cmpR op_ge (pv 2) (pv 1) (nomark _)) (pss_one (ps_expr (pe_bm PySem.F.plainAttrs_list PySem.F.slot_list_append PySem.F.type_list_append mt_append (pe_dget (by exact hu_of hr) (pv 0) pe_str (fun _ _ => rfl)) (pa_cons (pe_op op_fdiv (pv 2) (pv 1)) pa_nil)))) (pss_nil))
 (pss_one (ps_ret (pe_op op_mod (pv 2) (pv 1)))))) (pss_nil))
 (pss_cons (ps_set (i := 3) sc_law_draw.nd rfl (Or.inl rfl) (pe_op op_add (pe_dget (by exact hu_of hr) (pv 0) pe_str (fun _ _ => rfl)) pe_int))
 (pss_cons (ps_dput (by exact hu_of hr) (pv 0) pe_str (pv 3) rfl)
 (pss_cons (ps_set (i := 4) sc_law_draw.nd rfl (Or.inl rfl) (pe_op op_mod (pe_callTy call_int1 (by rfl) B.int bt_int (pa_cons (pe_op op_mul (pe_callTy call_int1 (by rfl) B.int bt_int (pa_cons (pe_op op_add (pe_op op_add (pe_dget (by exact hu_of hr) (pv 0) pe_str (fun _ _ => rfl)) (pe_op op_mul (pe_op op_mul pe_int (pv 3)) (pv 3))) pe_int) pa_nil)) pe_int) pa_nil)) pe_int))
 (pss_cons (ps_set (i := 4) sc_law_draw.nd rfl (Or.inl rfl) (pe_op op_mod (pe_callTy call_int1 (by rfl) B.int bt_int (pa_cons (pe_op op_add (pe_op op_mul (pv 4) (pv 4)) (pe_op op_mul pe_int (pv 3))) pa_nil)) pe_int))
 (pss_one (ps_ret (pe_op op_mod (pe_op op_fdiv (pe_op op_mod (pe_callTy call_int1 (by rfl) B.int bt_int (pa_cons (pe_op op_mul (pv 4) pe_int) pa_nil)) pe_int) pe_int) (pv 1)))))))), ?_⟩
  rintro ds W post ⟨a, c, n, rfl, ⟨l, cells, s, m, rfl, hl, c0, c2⟩, n0, n1, c1, k⟩
  try dsimp only [cxOf, Cx.nox, Cx.wish]
  walk_at "st"
  refine bo_neD (vp_ints (.inr ⟨_, rfl, List.mem_cons_of_mem _ List.mem_cons_self⟩)) vp_nil (shaped_ints cells) rfl ⟨_, rfl, ?_⟩
  rw [eqv_nil]
  have h16 := sizeLine_eq
  rcases List.eq_nil_or_concat cells with e | ⟨init, x, e⟩
  · subst e
    refine if_not rfl ?_
    walk_at "st"
    refine ⟨a, _, Sum.inr _, [], _, rfl, rfl, rfl, by simp; omega, ?_⟩
    rw [putG_set (i := 2) (by simp only [List.map_cons, List.map_nil]; decide +kernel) rfl]
    walk_at "st"
    refine k _ _ (Int.emod_nonneg _ (by omega)) (Int.emod_lt_of_pos _ n0) ⟨l, [], s, m + 1, rfl, by simp, by omega, by omega⟩
  · subst e
    refine if_so (by simp) ?_
    refine sw_seq (sw_set (ev_cb (ea_cons (ev_pop ?_))))
    walk_at "st"
    refine ⟨l, init.map D.int, [(a, .dp [(kS "great", .adr l), (kS "mixed", .int s), (kS "lap", .int m)])], [], .int x, rfl, by simp, ?_⟩
    walk_at "st"
    refine if_dec (fun hx => ?_) (fun hx => ?_)
    · refine sw_drop (ev_append ?_)
      walk_at "st"
      refine ⟨l, init.map D.int, [_], [], rfl, rfl, ?_⟩
      walk_at "st"
      refine ⟨init.map D.int, [_], [], _, rfl, rfl, ?_, ?_⟩
      · simp at hl ⊢
        omega
      walk_at "st"
      have := k (x % n) (dkA a l (init ++ [x / n]) s m) (Int.emod_nonneg _ (by omega)) (Int.emod_lt_of_pos _ n0) ⟨l, init ++ [x / n], s, m, rfl, by simp at hl ⊢; omega, c0, by omega⟩
      rw [dkA, List.map_append] at this
      exact this
    · walk_at "st"
      exact k (x % n) (dkA a l init s m) (Int.emod_nonneg _ (by omega)) (Int.emod_lt_of_pos _ n0) ⟨l, init, s, m, rfl, by simp at hl ⊢; omega, c0, by omega⟩
abbrev s_law_pick : Stmt := top 49
theorem sc_law_pick : FnScope ["_law_deck_here", "_law_menu"] ["_law_deck_here", "_law_menu"] (defScope s_law_pick) := ⟨rfl, rfl, rfl, by decide +kernel, rfl, by decide +kernel, by decide +kernel⟩
theorem c_law_pick {P : Program} {w : World} {K : PySem.W.Frag} {mg : Str → Option Value} {base : Heap} {cl : Nat → Addr} {f : Addr} {fd : FuncData} (hm : mg "_law_pick" = some (.ref f)) (B : Blt mg) (Z : ZZ K w mg cl) (Fn : Fun K "_law_pick" "_law_pick" s_law_pick f fd)
    (c_law_draw : Cal P w K mg base 1 "_law_draw" (spN FK ⟨K, cl⟩ (S_draw DkA)) []) : Cal P w K mg base 2 "_law_pick" (spN FK ⟨K, cl⟩ (S_pick DkA)) [] := by
  have fz := Z.z0
  have gz := Z.z1
  refine calD hm Fn sc_law_pick (by intro ds W post h; first | (obtain ⟨rfl, _⟩ := h; rfl) | (obtain ⟨_, rfl, _⟩ := h; rfl) | (obtain ⟨_, _, rfl, _⟩ := h; rfl) | (obtain ⟨_, _, _, rfl, _⟩ := h; rfl) | (obtain ⟨_, _, _, _, rfl, _⟩ := h; rfl) | (obtain ⟨_, _, _, _, _, rfl, _⟩ := h; rfl) | (obtain ⟨_, _, _, _, _, _, rfl, _⟩ := h; rfl) | (obtain ⟨_, _, _, _, _, _, _, rfl, _⟩ := h; rfl) | (obtain ⟨_, _, _, _, _, _, _, _, rfl, _⟩ := h; rfl) | (obtain ⟨_, _, _, _, _, _, _, _, _, rfl, _⟩ := h; rfl) | (obtain ⟨_, _, _, _, _, _, _, _, _, _, rfl, _⟩ := h; rfl) | (obtain ⟨_, _, _, _, _, _, _, _, _, _, _, rfl, _⟩ := h; rfl)) (fun _ _ _ _ _ _ us hl => match us, hl with | [_, _], _ => rfl) fun cdv A outer s H E hr => ⟨_, pss_one (ps_ret (pe_ix ix_seq (pv 1) (pe_c c_law_draw hr (by omega) (by rfl) (pa_cons (pv 0) (pa_cons (pe_callB call_len (by rfl) B.len bt_len (pa_cons (pv 1) pa_nil)) pa_nil))) (fun _ _ => rfl))), ?_⟩
  rintro ds W post ⟨a, c, m, rfl, hd, hc, h⟩
  try dsimp only [cxOf, Cx.nox, Cx.wish]
  rcases h with ⟨l, hm, hne, hl, h⟩ | ⟨x, rfl, hne, hl, h⟩
  · have hv : Vs W m l := hm.elim (fun e => .inl (.inl (.inl e))) .inr
    walk_at "st"
    refine ca_len hv ?_
    have : 0 < l.length := List.length_pos_iff.mpr hne
    walk_at "st"
    refine handA ⟨a, c, _, rfl, hd, by omega, by omega, hc, fun z W' h0 h1 hd' => ?_⟩
    try walk_at "st"
    obtain ⟨y, hy, e⟩ := at_of_draw (l := l) h0 h1
    have hv' : Vs W' m l := hm.elim (fun e => .inl (.inl (.inl e))) .inr
    exact bo_ixSq hv' e (h y hy W' hd')
  · have h16 := sizeLine_eq
    walk_at "st"
    refine ca_lenS (by omega) ?_
    walk_at "st"
    refine handA ⟨a, c, _, rfl, hd, by omega, by omega, hc, fun z W' h0 h1 hd' => ?_⟩
    try walk_at "st"
    obtain ⟨y, hy, e⟩ := at_of_draw (l := lets x) h0 (by rw [← str_len]; exact h1)
    exact bo_ixSqS (by omega) e (h y hy W' hd')
end
section
abbrev s_law_web : Stmt := top 50
theorem sc_law_web : FnScope ["_law_deck_here", "_law_pool", "_law_most", "_law_rows", "_law_signs", "_law_k", "_law_j", "_law_one"] ["_law_deck_here", "_law_pool", "_law_most"] (defScope s_law_web) := ⟨rfl, rfl, rfl, by decide +kernel, rfl, by decide +kernel, by decide +kernel⟩
theorem c_law_web {P : Program} {w : World} {K : PySem.W.Frag} {mg : Str → Option Value} {base : Heap} {cl : Nat → Addr} {f : Addr} {fd : FuncData} (hm : mg "_law_web" = some (.ref f)) (B : Blt mg) (Z : ZZ K w mg cl) (Fn : Fun K "_law_web" "_law_web" s_law_web f fd)
    (c_law_draw : Cal P w K mg base 1 "_law_draw" (spN FK ⟨K, cl⟩ (S_draw DkA)) []) : Cal P w K mg base 2 "_law_web" (spN FK ⟨K, cl⟩ (S_web DkA)) [] := by
  have fz := Z.z0
  have gz := Z.z1
  refine calD hm Fn sc_law_web (by intro ds W post h; first | (obtain ⟨rfl, _⟩ := h; rfl) | (obtain ⟨_, rfl, _⟩ := h; rfl) | (obtain ⟨_, _, rfl, _⟩ := h; rfl) | (obtain ⟨_, _, _, rfl, _⟩ := h; rfl) | (obtain ⟨_, _, _, _, rfl, _⟩ := h; rfl) | (obtain ⟨_, _, _, _, _, rfl, _⟩ := h; rfl) | (obtain ⟨_, _, _, _, _, _, rfl, _⟩ := h; rfl) | (obtain ⟨_, _, _, _, _, _, _, rfl, _⟩ := h; rfl) | (obtain ⟨_, _, _, _, _, _, _, _, rfl, _⟩ := h; rfl) | (obtain ⟨_, _, _, _, _, _, _, _, _, rfl, _⟩ := h; rfl) | (obtain ⟨_, _, _, _, _, _, _, _, _, _, rfl, _⟩ := h; rfl) | (obtain ⟨_, _, _, _, _, _, _, _, _, _, _, rfl, _⟩ := h; rfl)) (fun _ _ _ _ _ _ us hl => match us, hl with | [_, _, _], _ => rfl) fun cdv A outer s H E hr => ⟨_, pss_cons (ps_par (i := 3) (j := 4) (by rfl) sc_law_web.nd rfl rfl (by decide) rfl rfl (pa_cons (pe_lst pa_nil) (pa_cons (pe_lst pa_nil) pa_nil)) (by rfl))
 (pss_cons (ps_for PassesOwn.never rfl (pi_range1 (by rfl) B.range (pa_cons (pe_op op_add pe_int (pe_c c_law_draw hr (by omega) (by rfl) (pa_cons (pv 0) (pa_cons (pv 2) pa_nil)))) pa_nil)) (pg_name (i := 5) sc_law_web.nd rfl (Or.inl rfl)) (pss_cons (ps_expr (pe_bm PySem.F.plainAttrs_list PySem.F.slot_list_append PySem.F.type_list_append mt_append (pv 3) (pa_cons (pe_callTy call_tuple_of (by rfl) B.tuple bt_tuple (pa_cons (pe_lc (own := [("_law_j", 6)]) (by rfl) sc_law_web.nd (pi_range1 (by rfl) B.range (pa_cons (pv 5) pa_nil)) (blkOk_by (own := [("_law_j", 6)]) (N := ["_law_deck_here", "_law_pool", "_law_most", "_law_rows", "_law_signs", "_law_k", "_law_j", "_law_one"]) (sc := defScope s_law_web) (by decide +kernel)) (fun _ _ _ _ _ => (pg_name (i := 6) sc_law_web.nd rfl (Or.inl rfl))) (fun _ _ _ _ _ => pts_one (pt_cmpR op_eq (pe_c c_law_draw hr (by omega) (by rfl) (pa_cons (pv 0) (pa_cons pe_int pa_nil))) pe_int (nomark _))) (fun _ _ _ _ _ => (pv 6))) pa_nil)) pa_nil)))
 (pss_one (ps_expr (pe_bm PySem.F.plainAttrs_list PySem.F.slot_list_append PySem.F.type_list_append mt_append (pv 4) (pa_cons (pe_join pe_str (pe_lc (own := [("_law_one", 7)]) (by rfl) sc_law_web.nd (pi_list (pe_callB (cr_sortedX rfl) (by rfl) B.sorted bt_sorted (pa_cons (pv 1) pa_nil))) (blkOk_by (own := [("_law_one", 7)]) (N := ["_law_deck_here", "_law_pool", "_law_most", "_law_rows", "_law_signs", "_law_k", "_law_j", "_law_one"]) (sc := defScope s_law_web) (by decide +kernel)) (fun _ _ _ _ _ => (pg_name (i := 7) sc_law_web.nd rfl (Or.inl rfl))) (fun _ _ _ _ _ => pts_one (pt_cmpR op_eq (pe_c c_law_draw hr (by omega) (by rfl) (pa_cons (pv 0) (pa_cons pe_int pa_nil))) pe_int (nomark _))) (fun _ _ _ _ _ => (pv 7)))) pa_nil))))))
 (pss_one (ps_ret (pe_tup (pa_cons (pe_callTy call_tuple_of (by rfl) B.tuple bt_tuple (pa_cons (pv 3) pa_nil)) (pa_cons (pe_callTy call_tuple_of (by rfl) B.tuple bt_tuple (pa_cons (pv 4) pa_nil)) pa_nil)))))), ?_⟩
  rintro ds W post ⟨a, c, p, n, rfl, hd, n0, n40, hp, nd, hc, k⟩
  try dsimp only [cxOf, Cx.nox, Cx.wish]
  have h16 := sizeLine_eq
  have hpl : (ascN (lets p)).length ≤ 100 := asc_few hp
  refine sw_seq (sw_par ?_)
  refine ea_cons (ev_lst ?_)
  walk_at "st"
  intro p1 hp1
  refine ea_cons (ev_lst ?_)
  walk_at "st"
  intro p2 hp2
  refine ea_nil ?_
  refine ⟨_, _, rfl, ?_⟩
  refine sw_seq (sw_for (ei_rng1 ?_))
  walk_at "st"
  refine ⟨W, [(p2, .lst []), (p1, .lst [])], List.perm_append_comm (l₁ := [_, _]), a, c, (n : Int), rfl, hd, by omega, by omega, by omega, fun z W1 z0 z1 hd1 => ?_⟩
  walk_at "st"
  refine ⟨by omega, by omega, fun i G' W' => ∃ (rs : List (List Nat)) (as : List Str) (Wd : Om), rs.length = i ∧ as.length = i ∧ rowsOk rs ∧ (∀ s ∈ as, letters s ∧ (lets s).Pairwise (· < ·) ∧ ∀ q ∈ lets s, q ∈ lets p) ∧ DkA a (c + 1 + 200 * (i : Nat)) Wd ∧ W' = Wd ++ [(p2, .lst (as.map .str)), (p1, .lst (rs.map rowD))] ∧ ∃ o, G' = [some (.adr a), some (.str p), some (natD n), some (.adr p1), some (.adr p2), o, none, none], ⟨[], [], W1, rfl, rfl, rowsOk.nil, by simp, DkA_mono hd1 (by omega), rfl, _, rfl⟩, ?_, ?_⟩
  · rintro i d G' W' hdd ⟨rs, as, Wd, hrs, has, hr, hs, hdk, rfl, o, rfl⟩
    obtain ⟨hi, rfl⟩ := rng_get hdd
    have hi40 : i < 41 := by omega
    refine tg_name ?_
    refine sw_seq (sw_drop (ev_append ?_))
    walk_at "st"
    refine ⟨p1, rs.map rowD, Wd ++ [(p2, .lst (as.map .str))], [], rfl, by simp, ?_⟩
    walk_at "st"
    refine ev_lcF (ei_rng1 ?_)
    walk_at "st"
    refine ⟨by omega, by omega, fun t acc W' => ∃ (l : List Nat) (Wd : Om), acc = l.map natD ∧ l.Sublist (List.range t) ∧ DkA a (c + 1 + 200 * (i : Nat) + (t : Nat)) Wd ∧ W' = Wd ++ [(p2, .lst (as.map .str)), (p1, .lst (rs.map rowD))], ⟨[], Wd, rfl, by simp, DkA_mono hdk (by omega), rfl⟩, ?_, ?_⟩
    · rintro t d acc W' hdd ⟨l, Wd, rfl, hl, hdk, rfl⟩
      obtain ⟨ht, rfl⟩ := rng_get hdd
      have hll := hl.length_le
      rw [List.length_range] at hll
      refine tw_name (by simp) ?_
      walk_at "st"
      refine ⟨Wd, _, List.Perm.refl _, a, _, 3, rfl, hdk, by omega, by omega, by omega, fun z W2 z0 z1 hd2 => ?_⟩
      walk_at "st"
      refine if_dec (fun h => ?_) (fun h => ?_)
      · walk_at "st"
        refine ⟨by rw [List.length_map]; omega, l ++ [t], W2, ?_, ?_, DkA_mono hd2 (by omega), rfl⟩
        · rw [List.map_append]
          congr 1
          show [D.int _] = [D.int _]
          congr 2
          omega
        · rw [List.range_succ]
          exact hl.append (List.Sublist.refl _)
      · refine ⟨l, W2, rfl, ?_, DkA_mono hd2 (by omega), rfl⟩
        rw [List.range_succ]
        exact hl.trans (List.sublist_append_left _ _)
    rintro acc W' ⟨l, Wd, rfl, hl, hdk, rfl⟩
    rw [rng_len] at hl hdk
    have e0 : ((0 : Int) + (i : Nat)).toNat = i := by omega
    rw [e0] at hl hdk
    have hll := hl.length_le
    rw [List.length_range] at hll
    walk_at "st"
    refine ca_tup (.inl (.inl rfl)) ?_
    walk_at "st"
    refine ⟨rs.map rowD, Wd ++ [(p2, .lst (as.map .str))], [], _, by simp, rfl, by rw [List.length_map]; omega, ?_⟩
    walk_at "st"
    refine ev_append ?_
    walk_at "st"
    refine ⟨p2, as.map .str, Wd, [(p1, .lst (rs.map rowD ++ [rowD l]))], rfl, by simp, ?_⟩
    walk_at "st"
    refine ev_join ?_
    walk_at "st"
    refine ev_lcF (ei_list ?_)
    walk_at "st"
    refine ca_sortedX (by rw [str_len]; exact Nat.le_trans (letsN_len hp nd) (by decide)) nd ?_
    walk_at "st"
    refine ⟨fun t acc W' => ∃ (m : List Nat) (Wd : Om), acc = (m.map fun c => D.str (sg c)) ∧ m.Sublist ((ascN (lets p)).take t) ∧ DkA a (c + 1 + 200 * (i : Nat) + 41 + (t : Nat)) Wd ∧ W' = Wd ++ [(p2, .lst (as.map .str)), (p1, .lst (rs.map rowD ++ [rowD l]))], ⟨[], Wd, rfl, by simp, DkA_mono hdk (by omega), by simp⟩, ?_, ?_⟩
    · rintro t d acc W' hd ⟨m, Wd, rfl, hm, hdk, rfl⟩
      rw [List.getElem?_map] at hd
      obtain ⟨q, hq, rfl⟩ := Option.map_eq_some_iff.mp hd
      have hml := hm.length_le
      rw [List.length_take] at hml
      have ht := (List.getElem?_eq_some_iff.mp hq).1
      refine tw_name (by simp) ?_
      walk_at "st"
      refine ⟨Wd, _, List.Perm.refl _, a, _, 2, rfl, hdk, by omega, by omega, by omega, fun z W2 z0 z1 hd2 => ?_⟩
      walk_at "st"
      have etk : (ascN (lets p)).take (t + 1) = (ascN (lets p)).take t ++ [q] := by rw [List.take_add_one, hq]; rfl
      refine if_dec (fun h => ?_) (fun h => ?_)
      · walk_at "st"
        refine ⟨by rw [List.length_map]; omega, m ++ [q], W2, by simp, ?_, DkA_mono hd2 (by omega), rfl⟩
        rw [etk]
        exact hm.append (List.Sublist.refl _)
      · refine ⟨m, W2, rfl, ?_, DkA_mono hd2 (by omega), rfl⟩
        rw [etk]
        exact hm.trans (List.sublist_append_left _ _)
    rintro acc W' ⟨m, Wd, rfl, hm, hdk, rfl⟩
    rw [List.length_map, List.take_length] at hm
    rw [List.length_map] at hdk
    have hml := hm.length_le
    refine ⟨m.map sg, .inl (.inl (.inl (by rw [List.map_map]; rfl))), ?_, ?_⟩
    · rw [sg_sum, List.length_map]
      show m.length + m.length * 0 ≤ _
      omega
    · rw [join_nil_sg]
      walk_at "st"
      refine ⟨as.map .str, Wd, [_], _, rfl, rfl, by rw [List.length_map]; omega, ?_⟩
      refine ⟨rs ++ [l], as ++ [⟨m.toArray⟩], Wd, by simp [hrs], by simp [has], hr.snoc (List.pairwise_lt_range.sublist hl) (fun k hk => by rw [hrs]; exact List.mem_range.mp (hl.subset hk)) (by omega), fun s hs2 => ?_, DkA_mono hdk (by push_cast; omega), by simp, _, rfl⟩
      rcases List.mem_append.mp hs2 with h | h
      · exact hs s h
      · rw [List.mem_singleton] at h
        subst h
        exact ⟨fun q hq => hp q (mem_ascN.mp (hm.subset hq)), (asc_ascN _).sublist hm, fun q hq => mem_ascN.mp (hm.subset hq)⟩
  · rintro G' W' ⟨rs, as, Wd, hrs, has, hr, hs, hdk, rfl, o, rfl⟩
    rw [rng_len] at hrs has hdk
    refine sw_ret (ev_drp ?_)
    walk_at "st"
    refine ca_tup (.inr ⟨_, rfl, List.mem_append_right _ (List.mem_cons_of_mem _ List.mem_cons_self)⟩) ?_
    walk_at "st"
    refine ca_tup (.inr ⟨_, rfl, List.mem_append_right _ List.mem_cons_self⟩) ?_
    walk_at "st"
    refine ⟨Wd, List.sublist_append_left _ _, k ⟨rs, as⟩ Wd ⟨hr, fun e => ?_, by show as.length = rs.length; omega, fun s h => ⟨(hs s h).1, (hs s h).2.1⟩⟩ (by show rs.length ≤ n; omega) (fun s h => (hs s h).2.2) (DkA_mono hdk (by omega))⟩
    have e : rs = [] := e
    subst e
    have : (0 : Nat) = _ := hrs
    omega
end
section
abbrev s_law_is_rising : Stmt := top 52
theorem sc_law_is_rising : FnScope ["_law_items", "_law_x", "_law_y"] ["_law_items"] (defScope s_law_is_rising) := ⟨rfl, rfl, rfl, by decide +kernel, rfl, by decide +kernel, by decide +kernel⟩
theorem c_law_is_rising {P : Program} {w : World} {K : PySem.W.Frag} {mg : Str → Option Value} {base : Heap} {cl : Nat → Addr} {f : Addr} {fd : FuncData} (hm : mg "_law_is_rising" = some (.ref f)) (B : Blt mg) (Z : ZZ K w mg cl) (Fn : Fun K "_law_is_rising" "_law_is_rising" s_law_is_rising f fd) : Cal P w K mg base 1 "_law_is_rising" (spN FK ⟨K, cl⟩ S_ascendX) [] := by
  have fz := Z.z0
  have gz := Z.z1
  refine calD hm Fn sc_law_is_rising (by intro ds W post h; first | (obtain ⟨rfl, _⟩ := h; rfl) | (obtain ⟨_, rfl, _⟩ := h; rfl) | (obtain ⟨_, _, rfl, _⟩ := h; rfl) | (obtain ⟨_, _, _, rfl, _⟩ := h; rfl) | (obtain ⟨_, _, _, _, rfl, _⟩ := h; rfl) | (obtain ⟨_, _, _, _, _, rfl, _⟩ := h; rfl) | (obtain ⟨_, _, _, _, _, _, rfl, _⟩ := h; rfl) | (obtain ⟨_, _, _, _, _, _, _, rfl, _⟩ := h; rfl) | (obtain ⟨_, _, _, _, _, _, _, _, rfl, _⟩ := h; rfl) | (obtain ⟨_, _, _, _, _, _, _, _, _, rfl, _⟩ := h; rfl) | (obtain ⟨_, _, _, _, _, _, _, _, _, _, rfl, _⟩ := h; rfl) | (obtain ⟨_, _, _, _, _, _, _, _, _, _, _, rfl, _⟩ := h; rfl)) (fun _ _ _ _ _ _ us hl => match us, hl with | [_], _ => rfl) fun cdv A outer s H E hr => ⟨_, pss_one (ps_ret (pe_cmpR (op_eqE hr.units) (pe_lc (own := [("_law_x", 1), ("_law_y", 2)]) (by rfl) sc_law_is_rising.nd (pi_zipK (by rfl) B.zip (pa_cons (pe_slice (SlR.or sl_tupA sl_str) (pv 0) po_none (po_some (pe_un un_neg pe_int))) (pa_cons (pe_slice (SlR.or sl_tupA sl_str) (pv 0) (po_some pe_int) po_none) pa_nil))) (blkOk_by (own := [("_law_x", 1), ("_law_y", 2)]) (N := ["_law_items", "_law_x", "_law_y"]) (sc := defScope s_law_is_rising) (by decide +kernel)) (fun _ _ _ _ _ => (pg_tupK (K := K) rfl (n := 2) rfl (pgs_cons (pg_name (i := 1) sc_law_is_rising.nd rfl (Or.inl rfl)) (pgs_cons (pg_name (i := 2) sc_law_is_rising.nd rfl (Or.inl rfl)) pgs_nil)))) (fun _ _ _ _ _ => pts_one (pt_not (pt_cmpR (op_or op_lt op_lt_str) (pv 1) (pv 2) (nomark _)))) (fun _ _ _ _ _ => pe_int)) (pe_lst pa_nil) (nomark _))), ?_⟩
  rintro ds W post ⟨d, rfl, rfl, ⟨l, rfl, hl, k⟩ | ⟨s, rfl, hl, k⟩⟩
  try dsimp only [cxOf, Cx.nox, Cx.wish]
  · have h16 := sizeLine_eq
    walk_at "st"
    refine ev_lcP (ei_zipK ?_)
    walk_at "st"
    refine ca_slOrL (ca_slT ?_)
    rw [cutD_init, List.length_map, ← List.map_take]
    walk_at "st"
    refine ca_slOrL (ca_slT ?_)
    rw [cutD_d1, ← List.map_drop]
    walk_at "st"
    refine ⟨_, _, _, _, rfl, .inr (.inl rfl), .inr (.inl rfl), ltE (ltL (l.take (l.length - 1)) (l.drop 1)), fun i d e hd he => ?_, by rw [ltE, List.length_map, ltL_len, pairs2_len, List.length_map, List.length_map], by rw [ltE, List.length_map, ltL_len, List.length_take]; omega, ?_⟩
    · obtain ⟨x, y, hx, hy, rfl⟩ := pairs2_get hd
      rw [List.getElem?_map] at hx hy
      obtain ⟨a, ha, rfl⟩ := Option.map_eq_some_iff.mp hx
      obtain ⟨b, hb, rfl⟩ := Option.map_eq_some_iff.mp hy
      rw [ltE, List.getElem?_map, ltL_get ha hb] at he
      obtain rfl := Option.some.inj he
      refine tw_tup rfl (tws_cons (tw_name (by simp) (tws_cons (tw_name (by simp) (tws_nil ?_)))))
      walk_at "st"
      refine bo_orL (bo_I0 ?_)
      rw [show decide (((a : Nat) : Int) < ((b : Nat) : Int)) = decide (a < b) from decide_eq_decide.mpr (by omega)]
      refine ⟨_, rfl, rfl, ?_⟩
      cases hab : decide (a < b)
      · refine if_so rfl ?_
        walk_at "st"
        exact ⟨rfl, rfl⟩
      · exact if_not rfl rfl
    walk_at "st"
    refine bo_eqE (.inl (.inl rfl)) (.inl (.inl rfl)) ?_
    rw [ltE_all, ltL_all]
    exact k
  · have h16 := sizeLine_eq
    have hs : (lets s).length ≤ 5000 := by rw [← str_lets]; exact hl
    walk_at "st"
    refine ev_lcP (ei_zipK ?_)
    walk_at "st"
    refine ca_slOrR (ca_slS (by omega) ?_)
    walk_at "st"
    refine ca_slOrR (ca_slS (by omega) ?_)
    walk_at "st"
    refine ⟨_, _, _, _, rfl, .inr (.inr ⟨_, rfl, rfl⟩), .inr (.inr ⟨_, rfl, rfl⟩), ltE (ltL ((lets s).take ((lets s).length - 1)) ((lets s).drop 1)), fun i d e hd he => ?_, by rw [ltE, List.length_map, ltL_len, pairs2_len, List.length_map, List.length_map, cutS_init, cutS_d1], by rw [ltE, List.length_map, ltL_len, List.length_take]; omega, ?_⟩
    · obtain ⟨x, y, hx, hy, rfl⟩ := pairs2_get hd
      rw [List.getElem?_map] at hx hy
      rw [cutS_init] at hx
      rw [cutS_d1] at hy
      obtain ⟨a, ha, rfl⟩ := Option.map_eq_some_iff.mp hx
      obtain ⟨b, hb, rfl⟩ := Option.map_eq_some_iff.mp hy
      rw [ltE, List.getElem?_map, ltL_get ha hb] at he
      obtain rfl := Option.some.inj he
      refine tw_tup rfl (tws_cons (tw_name (by simp) (tws_cons (tw_name (by simp) (tws_nil ?_)))))
      walk_at "st"
      refine bo_orR (bo_ltS ?_)
      rw [show decide ((⟨#[a]⟩ : Str).cps.toList < (⟨#[b]⟩ : Str).cps.toList) = decide (a < b) from lt_sg a b]
      refine ⟨_, rfl, rfl, ?_⟩
      cases hab : decide (a < b)
      · refine if_so rfl ?_
        walk_at "st"
        exact ⟨rfl, rfl⟩
      · exact if_not rfl rfl
    walk_at "st"
    refine bo_eqE (.inl (.inl rfl)) (.inl (.inl rfl)) ?_
    rw [ltE_all, ltL_all]
    exact k
abbrev s_law_is_row : Stmt := top 53
theorem sc_law_is_row : FnScope ["_law_at", "_law_it", "_law_k"] ["_law_at", "_law_it"] (defScope s_law_is_row) := ⟨rfl, rfl, rfl, by decide +kernel, rfl, by decide +kernel, by decide +kernel⟩
theorem c_law_is_row {P : Program} {w : World} {K : PySem.W.Frag} {mg : Str → Option Value} {base : Heap} {cl : Nat → Addr} {f : Addr} {fd : FuncData} (hm : mg "_law_is_row" = some (.ref f)) (B : Blt mg) (Z : ZZ K w mg cl) (Fn : Fun K "_law_is_row" "_law_is_row" s_law_is_row f fd)
    (c_law_is_rising : Cal P w K mg base 1 "_law_is_rising" (spN FK ⟨K, cl⟩ S_ascendX) []) : Cal P w K mg base 2 "_law_is_row" (spN FK ⟨K, cl⟩ S_isbelowU) [] := by
  have fz := Z.z0
  have gz := Z.z1
  refine calD hm Fn sc_law_is_row (by intro ds W post h; first | (obtain ⟨rfl, _⟩ := h; rfl) | (obtain ⟨_, rfl, _⟩ := h; rfl) | (obtain ⟨_, _, rfl, _⟩ := h; rfl) | (obtain ⟨_, _, _, rfl, _⟩ := h; rfl) | (obtain ⟨_, _, _, _, rfl, _⟩ := h; rfl) | (obtain ⟨_, _, _, _, _, rfl, _⟩ := h; rfl) | (obtain ⟨_, _, _, _, _, _, rfl, _⟩ := h; rfl) | (obtain ⟨_, _, _, _, _, _, _, rfl, _⟩ := h; rfl) | (obtain ⟨_, _, _, _, _, _, _, _, rfl, _⟩ := h; rfl) | (obtain ⟨_, _, _, _, _, _, _, _, _, rfl, _⟩ := h; rfl) | (obtain ⟨_, _, _, _, _, _, _, _, _, _, rfl, _⟩ := h; rfl) | (obtain ⟨_, _, _, _, _, _, _, _, _, _, _, rfl, _⟩ := h; rfl)) (fun _ _ _ _ _ _ us hl => match us, hl with | [_, _], _ => rfl) fun cdv A outer s H E hr => ⟨_, pss_cons (ps_if (PW.pt (pw_or (pt_not (pt_val (pe_callB call_isi (by rfl) B.isinstance bt_isinstance (pa_cons (pv 1) (pa_cons (pe_bltn (by rfl) B.tuple bt_tuple (relV_ty _)) pa_nil))))) (pw_or1 (pt_cmpR (op_neE hr.units) (pe_lc (own := [("_law_k", 2)]) (by rfl) sc_law_is_row.nd (pi_tup (pv 1)) (blkOk_by (own := [("_law_k", 2)]) (N := ["_law_at", "_law_it", "_law_k"]) (sc := defScope s_law_is_row) (by decide +kernel)) (fun _ _ _ _ _ => (pg_name (i := 2) sc_law_is_row.nd rfl (Or.inl rfl))) (fun _ _ _ _ _ => pts_one (PW.pt (pw_or (pt_not (pt_val (pe_callB (call_isiKk (K := K) rfl) (by rfl) B.isinstance bt_isinstance (pa_cons (pv 2) (pa_cons (pe_bltn (by rfl) B.int bt_int (relV_ty _)) pa_nil))))) (pw_or1 (pt_val (pe_callB (call_isiKk (K := K) rfl) (by rfl) B.isinstance bt_isinstance (pa_cons (pv 2) (pa_cons (pe_bltn (by rfl) B.bool bt_bool (relV_ty _)) pa_nil)))))))) (fun _ _ _ _ _ => (pv 2))) (pe_lst pa_nil) (nomark _))))) (pss_one (ps_ret pe_bl)) (pss_nil))
 (pss_one (ps_ret (pe_and (pe_cmpR (op_eqE hr.units) (pe_lc (own := [("_law_k", 2)]) (by rfl) sc_law_is_row.nd (pi_tup (pv 1)) (blkOk_by (own := [("_law_k", 2)]) (N := ["_law_at", "_law_it", "_law_k"]) (sc := defScope s_law_is_row) (by decide +kernel)) (fun _ _ _ _ _ => (pg_name (i := 2) sc_law_is_row.nd rfl (Or.inl rfl))) (fun _ _ _ _ _ => pts_one (pt_not (pt_chain op_le op_lt pe_int (pv 2) (pv 0)))) (fun _ _ _ _ _ => (pv 2))) (pe_lst pa_nil) (nomark _)) (pe_one (pe_c c_law_is_rising hr (by omega) (by rfl) (pa_cons (pv 1) pa_nil)))))), ?_⟩
  rintro ds W post ⟨i, p, rfl, rfl, hi, hu, k⟩
  try dsimp only [cxOf, Cx.nox, Cx.wish]
  have h16 := sizeLine_eq
  walk_at "st"
  refine isi_uT ?_
  cases p with
  | tuple l =>
    have hl := (Uk.tup.mp hu).len
    walk_at "st"
    refine ev_lcP (ei_tup ?_)
    rw [uD_tup]
    walk_at "st"
    refine ⟨plE l, fun j d e hd he => ?_, by rw [plE_len, List.length_map], by rw [plE_len]; omega, ?_⟩
    · rw [List.getElem?_map] at hd
      obtain ⟨x, hx, rfl⟩ := Option.map_eq_some_iff.mp hd
      rw [plE_get hx] at he
      obtain rfl := Option.some.inj he
      refine tw_name (by simp) ?_
      walk_at "st"
      refine isi_uI ?_
      cases hI : isIntU x
      · have hp : plainI x = false := by unfold plainI; rw [hI]; rfl
        walk_at "st"
        refine ⟨by show true = !plainI x; rw [hp]; rfl, ?_⟩
        walk_at "st"
        exact ⟨rfl, rfl⟩
      · walk_at "st"
        refine isi_uB ?_
        have hp : plainI x = !isBlU x := by unfold plainI; rw [hI, Bool.true_and]
        refine ⟨_, rfl, by show isBlU x = !plainI x; rw [hp, Bool.not_not], ?_⟩
        cases hB : isBlU x
        · exact if_not rfl rfl
        · refine if_so rfl ?_
          walk_at "st"
          exact ⟨rfl, rfl⟩
    · walk_at "st"
      refine bo_neE (.inl (.inl rfl)) (.inl (.inl rfl)) ?_
      rw [plE_all]
      refine ⟨_, rfl, ?_⟩
      cases e1 : l.all plainI with
      | false =>
        rw [rowB_odd e1] at k
        walk_at "st"
        exact k
      | true =>
        obtain ⟨zs, rfl⟩ := plain_ints e1
        have em : ((zs.map PyData.int).map uD) = zs.map D.int := by rw [List.map_map]; rfl
        have hzl : zs.length ≤ 5000 := by rw [List.length_map] at hl; exact hl
        rw [em]
        have ek : rowB i (.tuple (zs.map PyData.int)) = (zs.all (inB i) && ascB ((zs.map PyData.int).map natOf)) := by
          show ((zs.map PyData.int).all (isNum i) && _) = _
          rw [num_int]
        rw [ek] at k
        walk_at "st"
        refine ev_lcP (ei_tup ?_)
        walk_at "st"
        refine ⟨inE i zs, fun j d e hd he => ?_, by rw [inE]; simp only [List.length_map], by rw [inE, List.length_map]; omega, ?_⟩
        · rw [List.getElem?_map] at hd
          obtain ⟨z, hz, rfl⟩ := Option.map_eq_some_iff.mp hd
          rw [inE, List.getElem?_map, hz] at he
          obtain rfl := Option.some.inj he
          refine tw_name (by simp) ?_
          walk_at "st"
          refine if_dec (fun h1 => ?_) (fun h1 => ?_)
          · have e : inB i z = decide (z < ((i : Nat) : Int)) := by
              unfold inB
              rw [decide_eq_true h1, Bool.true_and]
            walk_at "st"
            refine ⟨by show (!_) = (!_); rw [e], ?_⟩
            cases hab : decide (z < ((i : Nat) : Int))
            · refine if_so rfl ?_
              walk_at "st"
              exact ⟨rfl, rfl⟩
            · exact if_not rfl rfl
          · have e : inB i z = false := by
              unfold inB
              rw [decide_eq_false h1, Bool.false_and]
            refine ⟨_, rfl, by show (!false) = (!inB i z); rw [e], ?_⟩
            refine if_so rfl ?_
            walk_at "st"
            exact ⟨rfl, rfl⟩
        walk_at "st"
        refine bo_eqE (.inl (.inl rfl)) (.inl (.inl rfl)) ?_
        rw [inE_all]
        refine ⟨_, rfl, ?_⟩
        cases e5 : zs.all (inB i)
        · rw [e5, Bool.false_and] at k
          walk_at "st"
          exact k
        · rw [e5, Bool.true_and] at k
          obtain ⟨r, er, _, er2⟩ := nums_of (i := i) (l := zs.map PyData.int) (by rw [num_int]; exact e5)
          rw [er2] at k
          have ed : zs.map D.int = r.map natD := by rw [← em, er, List.map_map]; rfl
          have erl : r.length = zs.length := by
            have := congrArg List.length er
            simpa using this.symm
          rw [ed]
          walk_at "st"
          refine hand0 ⟨_, rfl, rfl, .inl ⟨r, rfl, by omega, k⟩⟩
          try simp only [List.nil_append]
          try walk_at "st"
  | none =>
    walk_at "st"
    exact k
  | bool _ =>
    walk_at "st"
    exact k
  | int _ =>
    walk_at "st"
    exact k
  | str _ =>
    walk_at "st"
    exact k
  | list _ =>
    walk_at "st"
    exact k
  | dict _ =>
    walk_at "st"
    exact k
abbrev s_law_is_letters : Stmt := top 54
theorem sc_law_is_letters : FnScope ["_law_it", "_law_signs", "_law_sign"] ["_law_it"] (defScope s_law_is_letters) := ⟨rfl, rfl, rfl, by decide +kernel, rfl, by decide +kernel, by decide +kernel⟩
theorem c_law_is_letters {P : Program} {w : World} {K : PySem.W.Frag} {mg : Str → Option Value} {base : Heap} {cl : Nat → Addr} {f : Addr} {fd : FuncData} (hm : mg "_law_is_letters" = some (.ref f)) (B : Blt mg) (Z : ZZ K w mg cl) (Fn : Fun K "_law_is_letters" "_law_is_letters" s_law_is_letters f fd)
    (c_law_is_rising : Cal P w K mg base 1 "_law_is_rising" (spN FK ⟨K, cl⟩ S_ascendX) []) : Cal P w K mg base 2 "_law_is_letters" (spN FK ⟨K, cl⟩ S_islettersU) [] := by
  have fz := Z.z0
  have gz := Z.z1
  refine calD hm Fn sc_law_is_letters (by intro ds W post h; first | (obtain ⟨rfl, _⟩ := h; rfl) | (obtain ⟨_, rfl, _⟩ := h; rfl) | (obtain ⟨_, _, rfl, _⟩ := h; rfl) | (obtain ⟨_, _, _, rfl, _⟩ := h; rfl) | (obtain ⟨_, _, _, _, rfl, _⟩ := h; rfl) | (obtain ⟨_, _, _, _, _, rfl, _⟩ := h; rfl) | (obtain ⟨_, _, _, _, _, _, rfl, _⟩ := h; rfl) | (obtain ⟨_, _, _, _, _, _, _, rfl, _⟩ := h; rfl) | (obtain ⟨_, _, _, _, _, _, _, _, rfl, _⟩ := h; rfl) | (obtain ⟨_, _, _, _, _, _, _, _, _, rfl, _⟩ := h; rfl) | (obtain ⟨_, _, _, _, _, _, _, _, _, _, rfl, _⟩ := h; rfl) | (obtain ⟨_, _, _, _, _, _, _, _, _, _, _, rfl, _⟩ := h; rfl)) (fun _ _ _ _ _ _ us hl => match us, hl with | [_], _ => rfl) fun cdv A outer s H E hr => ⟨_, pss_cons (ps_set (i := 1) sc_law_is_letters.nd rfl (Or.inr rfl) pe_str)
 (pss_one (ps_ret (pe_and (pe_callB call_isi (by rfl) B.isinstance bt_isinstance (pa_cons (pv 0) (pa_cons (pe_bltn (by rfl) B.str bt_str (relV_ty _)) pa_nil))) (pe_and (pe_cmpR (op_eqE hr.units) (pe_lc (own := [("_law_sign", 2)]) (by rfl) sc_law_is_letters.nd (pi_str (pv 0)) (blkOk_by (own := [("_law_sign", 2)]) (N := ["_law_it", "_law_signs", "_law_sign"]) (sc := defScope s_law_is_letters) (by decide +kernel)) (fun _ _ _ _ _ => (pg_name (i := 2) sc_law_is_letters.nd rfl (Or.inl rfl))) (fun _ _ _ _ _ => pts_one (pt_cmpR op_notIn_sign (pv 2) (pv 1) rfl)) (fun _ _ _ _ _ => (pv 2))) (pe_lst pa_nil) (nomark _)) (pe_one (pe_c c_law_is_rising hr (by omega) (by rfl) (pa_cons (pv 0) pa_nil))))))), ?_⟩
  rintro ds W post ⟨p, rfl, rfl, hu, k⟩
  try dsimp only [cxOf, Cx.nox, Cx.wish]
  have h16 := sizeLine_eq
  walk_at "st"
  refine isi_uS ?_
  cases p with
  | str s =>
    obtain ⟨hl, _⟩ := hu.str
    have hs2 : (lets s).length ≤ 5000 := by rw [← str_lets]; omega
    have eu : uD (.str s) = .str s := rfl
    rw [eu]
    have k : post (.bl (letB s)) [] := k
    walk_at "st"
    refine ev_lcP (ei_str ?_)
    walk_at "st"
    refine ⟨lsE s, fun j d e hd he => ?_, by rw [lsE, List.length_map, List.length_map], by rw [lsE, List.length_map]; omega, ?_⟩
    · rw [List.getElem?_map] at hd
      obtain ⟨c, hc, rfl⟩ := Option.map_eq_some_iff.mp hd
      have hc : (lets s)[j]? = some c := hc
      rw [lsE, List.getElem?_map, hc] at he
      obtain rfl := Option.some.inj he
      refine tw_name (by simp) ?_
      walk_at "st"
      refine bo_notInSg ?_
      rw [sig_dec]
      refine ⟨_, rfl, rfl, ?_⟩
      cases hab : isLB c
      · refine if_so rfl ?_
        walk_at "st"
        exact ⟨rfl, rfl⟩
      · exact if_not rfl rfl
    walk_at "st"
    refine bo_eqE (.inl (.inl rfl)) (.inl (.inl rfl)) ?_
    rw [lsE_all]
    refine ⟨_, rfl, ?_⟩
    unfold letB at k
    cases e : (lets s).all isLB with
    | false =>
      rw [e, Bool.false_and] at k
      walk_at "st"
      exact k
    | true =>
      rw [e, Bool.true_and] at k
      walk_at "st"
      refine hand0 ⟨_, rfl, rfl, .inr ⟨s, rfl, by omega, k⟩⟩
      try simp only [List.nil_append]
      try walk_at "st"
  | none =>
    walk_at "st"
    exact k
  | bool _ =>
    walk_at "st"
    exact k
  | int _ =>
    walk_at "st"
    exact k
  | tuple _ =>
    walk_at "st"
    exact k
  | list _ =>
    walk_at "st"
    exact k
  | dict _ =>
    walk_at "st"
    exact k
abbrev s_law_due : Stmt := top 55
theorem sc_law_due : FnScope ["_law_parts_here", "_law_rows", "_law_signs", "_law_k", "_law_row", "_law_it"] ["_law_parts_here"] (defScope s_law_due) := ⟨rfl, rfl, rfl, by decide +kernel, rfl, by decide +kernel, by decide +kernel⟩
theorem c_law_due {P : Program} {w : World} {K : PySem.W.Frag} {mg : Str → Option Value} {base : Heap} {cl : Nat → Addr} {f : Addr} {fd : FuncData} (hm : mg "_law_due" = some (.ref f)) (B : Blt mg) (Z : ZZ K w mg cl) (Fn : Fun K "_law_due" "_law_due" s_law_due f fd)
    (c_law_is_row : Cal P w K mg base 2 "_law_is_row" (spN FK ⟨K, cl⟩ S_isbelowU) [])
    (c_law_is_letters : Cal P w K mg base 2 "_law_is_letters" (spN FK ⟨K, cl⟩ S_islettersU) []) : Cal P w K mg base 3 "_law_due" (spN FK ⟨K, cl⟩ S_due8) [] := by
  have fz := Z.z0
  have gz := Z.z1
  refine calD hm Fn sc_law_due (by intro ds W post h; first | (obtain ⟨rfl, _⟩ := h; rfl) | (obtain ⟨_, rfl, _⟩ := h; rfl) | (obtain ⟨_, _, rfl, _⟩ := h; rfl) | (obtain ⟨_, _, _, rfl, _⟩ := h; rfl) | (obtain ⟨_, _, _, _, rfl, _⟩ := h; rfl) | (obtain ⟨_, _, _, _, _, rfl, _⟩ := h; rfl) | (obtain ⟨_, _, _, _, _, _, rfl, _⟩ := h; rfl) | (obtain ⟨_, _, _, _, _, _, _, rfl, _⟩ := h; rfl) | (obtain ⟨_, _, _, _, _, _, _, _, rfl, _⟩ := h; rfl) | (obtain ⟨_, _, _, _, _, _, _, _, _, rfl, _⟩ := h; rfl) | (obtain ⟨_, _, _, _, _, _, _, _, _, _, rfl, _⟩ := h; rfl) | (obtain ⟨_, _, _, _, _, _, _, _, _, _, _, rfl, _⟩ := h; rfl)) (fun _ _ _ _ _ _ us hl => match us, hl with | [_], _ => rfl) fun cdv A outer s H E hr => ⟨_, pss_cons (ps_asg (pv 0) (pg_tup (n := 2) rfl (pgs_cons (pg_name (i := 1) sc_law_due.nd rfl (Or.inl rfl)) (pgs_cons (pg_name (i := 2) sc_law_due.nd rfl (Or.inl rfl)) pgs_nil))))
 (pss_cons (ps_if (PW.pt (pw_or (pt_not (pt_val (pe_callB call_isi (by rfl) B.isinstance bt_isinstance (pa_cons (pv 1) (pa_cons (pe_bltn (by rfl) B.tuple bt_tuple (relV_ty _)) pa_nil))))) (pw_or1 (pt_cmpR (op_eqT0 hr.units) (pv 1) (pe_tup pa_nil) (nomark _))))) (pss_one (ps_ret pe_str)) (pss_nil))
 (pss_cons (ps_if (pt_cmpR (op_neE hr.units) (pe_lc (own := [("_law_k", 3), ("_law_row", 4)]) (by rfl) sc_law_due.nd (pi_enumK (by rfl) B.enumerate (pa_cons (pv 1) pa_nil)) (blkOk_by (own := [("_law_k", 3), ("_law_row", 4)]) (N := ["_law_parts_here", "_law_rows", "_law_signs", "_law_k", "_law_row", "_law_it"]) (sc := defScope s_law_due) (by decide +kernel)) (fun _ _ _ _ _ => (pg_tupK (K := K) rfl (n := 2) rfl (pgs_cons (pg_name (i := 3) sc_law_due.nd rfl (Or.inl rfl)) (pgs_cons (pg_name (i := 4) sc_law_due.nd rfl (Or.inl rfl)) pgs_nil)))) (fun _ _ _ _ _ => pts_one (pt_not (pt_val (pe_c c_law_is_row hr (by omega) (by rfl) (pa_cons (pv 3) (pa_cons (pv 4) pa_nil)))))) (fun _ _ _ _ _ => (pv 3))) (pe_lst pa_nil) (nomark _)) (pss_one (ps_ret pe_str)) (pss_nil))
 (pss_cons (ps_if (PW.pt (pw_or (pt_not (pt_val (pe_callB call_isi (by rfl) B.isinstance bt_isinstance (pa_cons (pv 2) (pa_cons (pe_bltn (by rfl) B.tuple bt_tuple (relV_ty _)) pa_nil))))) (pw_or1 (pt_cmpR op_ne (pe_callB call_len (by rfl) B.len bt_len (pa_cons (pv 2) pa_nil)) (pe_callB call_len (by rfl) B.len bt_len (pa_cons (pv 1) pa_nil)) (nomark _))))) (pss_one (ps_ret pe_str)) (pss_nil))
 (pss_one (ps_ret (pe_ifExp (pt_cmpR (op_eqE hr.units) (pe_lc (own := [("_law_it", 5)]) (by rfl) sc_law_due.nd (pi_tup (pv 2)) (blkOk_by (own := [("_law_it", 5)]) (N := ["_law_parts_here", "_law_rows", "_law_signs", "_law_k", "_law_row", "_law_it"]) (sc := defScope s_law_due) (by decide +kernel)) (fun _ _ _ _ _ => (pg_name (i := 5) sc_law_due.nd rfl (Or.inl rfl))) (fun _ _ _ _ _ => pts_one (pt_not (pt_val (pe_c c_law_is_letters hr (by omega) (by rfl) (pa_cons (pv 5) pa_nil))))) (fun _ _ _ _ _ => (pv 5))) (pe_lst pa_nil) (nomark _)) pe_non pe_str)))))), ?_⟩
  rintro ds W post ⟨p, q, rfl, rfl, hp, hq, k⟩
  try dsimp only [cxOf, Cx.nox, Cx.wish]
  have h16 := sizeLine_eq
  unfold dueD8 due8 at k
  walk_at "st"
  refine isi_uT ?_
  cases p with
  | tuple l =>
    have hl := (Uk.tup.mp hp).len
    rw [uD_tup]
    walk_at "st"
    refine bo_eqT0 ?_
    have ee : (l.map uD).isEmpty = l.isEmpty := by cases l <;> rfl
    rw [ee]
    refine ⟨_, rfl, ?_⟩
    cases e0 : l.isEmpty with
    | true =>
      have e1 : rowsB (.tuple l) = false := by show (!l.isEmpty && _) = false; rw [e0]; rfl
      rw [e1] at k
      walk_at "st"
      exact k
    | false =>
      have e1 : rowsB (.tuple l) = rowsL 0 l := by show (!l.isEmpty && _) = _; rw [e0]; rfl
      rw [e1] at k
      walk_at "st"
      refine ev_lcP (ei_enumK ?_)
      walk_at "st"
      refine ⟨_, _, rfl, .inr (.inl rfl), wrU 0 l, fun i d e hd he => ?_, by rw [wrU_len, pairsD_len, List.length_map], by rw [wrU_len]; omega, ?_⟩
      · obtain ⟨x, hx, rfl⟩ := pairsD_get hd
        rw [List.getElem?_map] at hx
        obtain ⟨r, hr, rfl⟩ := Option.map_eq_some_iff.mp hx
        have hi := (List.getElem?_eq_some_iff.mp hr).1
        rw [wrU_get hr] at he
        obtain rfl := Option.some.inj he
        have ez : ((0 + i : Nat) : Int) = ((i : Nat) : Int) := by omega
        refine tw_tup rfl (tws_cons (tw_name (by simp) (tws_cons (tw_name (by simp) (tws_nil ?_)))))
        rw [ez]
        walk_at "st"
        refine hand0 ⟨i, r, rfl, rfl, by omega, ((Uk.tup.mp hp).mem (List.mem_of_getElem? hr)).up (Nat.le_refl _) (by omega) (Nat.le_refl _), ?_⟩
        try simp only [List.nil_append]
        try walk_at "st"
        refine ⟨rfl, ?_⟩
        cases hab : rowB i r
        · refine if_so rfl ?_
          walk_at "st"
          exact ⟨rfl, rfl⟩
        · exact if_not rfl trivial
      · walk_at "st"
        refine bo_neE (.inl (.inl rfl)) (.inl (.inl rfl)) ?_
        rw [wrU_all]
        refine ⟨_, rfl, ?_⟩
        cases e2 : rowsL 0 l with
        | false =>
          rw [e2] at k
          walk_at "st"
          exact k
        | true =>
          rw [e2, if_pos rfl] at k
          walk_at "st"
          refine isi_uT ?_
          cases q with
          | tuple m =>
            have hm := (Uk.tup.mp hq).len
            rw [uD_tup]
            walk_at "st"
            have h1 : (m.map uD).length = m.length := List.length_map _
            have h2 : (l.map uD).length = l.length := List.length_map _
            have h3 : lenP (.tuple l) = l.length := rfl
            rw [h3] at k
            rw [h1, h2]
            by_cases h : m.length = l.length
            · have e3 : letsU l.length (.tuple m) = m.all letU := by
                show (decide (m.length = l.length) && m.all letU) = _
                rw [decide_eq_true h, Bool.true_and]
              rw [e3] at k
              refine if_not ((by simp; omega)) ?_
              try walk_at "st"
              refine ev_lcP (ei_tup ?_)
              walk_at "st"
              refine ⟨leE m, fun i d e hd he => ?_, by rw [leE, List.length_map, List.length_map], by rw [leE, List.length_map]; omega, ?_⟩
              · rw [List.getElem?_map] at hd
                obtain ⟨r, hr, rfl⟩ := Option.map_eq_some_iff.mp hd
                rw [leE_get hr] at he
                obtain rfl := Option.some.inj he
                refine tw_name (by simp) ?_
                walk_at "st"
                refine hand0 ⟨r, rfl, rfl, ((Uk.tup.mp hq).mem (List.mem_of_getElem? hr)).up (Nat.le_refl _) (by omega) (Nat.le_refl _), ?_⟩
                try simp only [List.nil_append]
                try walk_at "st"
                refine ⟨rfl, ?_⟩
                cases hab : letU r
                · refine if_so rfl ?_
                  walk_at "st"
                  exact ⟨rfl, rfl⟩
                · exact if_not rfl trivial
              · walk_at "st"
                refine bo_eqE (.inl (.inl rfl)) (.inl (.inl rfl)) ?_
                rw [leE_all]
                refine ⟨_, rfl, ?_⟩
                cases e4 : m.all letU with
                | false =>
                  rw [e4] at k
                  walk_at "st"
                  exact k
                | true =>
                  rw [e4] at k
                  walk_at "st"
                  exact k
            · have e3 : letsU l.length (.tuple m) = false := by
                show (decide (m.length = l.length) && m.all letU) = false
                rw [decide_eq_false h, Bool.false_and]
              rw [e3] at k
              refine if_so ((by simp; omega)) ?_
              try walk_at "st"
              exact k
          | none =>
            walk_at "st"
            exact k
          | bool _ =>
            walk_at "st"
            exact k
          | int _ =>
            walk_at "st"
            exact k
          | str _ =>
            walk_at "st"
            exact k
          | list _ =>
            walk_at "st"
            exact k
          | dict _ =>
            walk_at "st"
            exact k
  | none =>
    walk_at "st"
    exact k
  | bool _ =>
    walk_at "st"
    exact k
  | int _ =>
    walk_at "st"
    exact k
  | str _ =>
    walk_at "st"
    exact k
  | list _ =>
    walk_at "st"
    exact k
  | dict _ =>
    walk_at "st"
    exact k
end
section
abbrev s_law_odd : Stmt := top 56
theorem sc_law_odd : FnScope ["_law_deck_here", "_law_menu"] ["_law_deck_here"] (defScope s_law_odd) := ⟨rfl, rfl, rfl, by decide +kernel, rfl, by decide +kernel, by decide +kernel⟩
theorem c_law_odd {P : Program} {w : World} {K : PySem.W.Frag} {mg : Str → Option Value} {base : Heap} {cl : Nat → Addr} {f : Addr} {fd : FuncData} (hm : mg "_law_odd" = some (.ref f)) (B : Blt mg) (Z : ZZ K w mg cl) (Fn : Fun K "_law_odd" "_law_odd" s_law_odd f fd)
    (c_law_pick : Cal P w K mg base 2 "_law_pick" (spN FK ⟨K, cl⟩ (S_pick DkA)) []) : Cal P w K mg base 3 "_law_odd" (spN FK ⟨K, cl⟩ S_odd8) [] := by
  have fz := Z.z0
  have gz := Z.z1
  refine calD hm Fn sc_law_odd (by intro ds W post h; first | (obtain ⟨rfl, _⟩ := h; rfl) | (obtain ⟨_, rfl, _⟩ := h; rfl) | (obtain ⟨_, _, rfl, _⟩ := h; rfl) | (obtain ⟨_, _, _, rfl, _⟩ := h; rfl) | (obtain ⟨_, _, _, _, rfl, _⟩ := h; rfl) | (obtain ⟨_, _, _, _, _, rfl, _⟩ := h; rfl) | (obtain ⟨_, _, _, _, _, _, rfl, _⟩ := h; rfl) | (obtain ⟨_, _, _, _, _, _, _, rfl, _⟩ := h; rfl) | (obtain ⟨_, _, _, _, _, _, _, _, rfl, _⟩ := h; rfl) | (obtain ⟨_, _, _, _, _, _, _, _, _, rfl, _⟩ := h; rfl) | (obtain ⟨_, _, _, _, _, _, _, _, _, _, rfl, _⟩ := h; rfl) | (obtain ⟨_, _, _, _, _, _, _, _, _, _, _, rfl, _⟩ := h; rfl)) (fun _ _ _ _ _ _ us hl => match us, hl with | [_], _ => rfl) fun cdv A outer s H E hr => ⟨_, pss_cons (ps_set (i := 1) sc_law_odd.nd rfl (Or.inl rfl) (pe_lst (pa_cons pe_non (pa_cons pe_bl (pa_cons pe_int (pa_cons pe_int (pa_cons (pe_un un_neg pe_int) (pa_cons (pe_op op_pow pe_int pe_int) (pa_cons pe_str (pa_cons pe_str (pa_cons pe_str (pa_cons pe_str (pa_cons pe_str (pa_cons pe_str (pa_cons pe_str pa_nil)))))))))))))))
 (pss_one (ps_ret (pe_c c_law_pick hr (by omega) (by rfl) (pa_cons (pv 0) (pa_cons (pe_op op_cat (pv 1) (pe_lst (pa_cons (pe_tup pa_nil) (pa_cons (pe_tup (pa_cons pe_int pa_nil)) (pa_cons (pe_lst pa_nil) (pa_cons (pe_lst (pa_cons pe_int pa_nil)) (pa_cons pe_dnewK (pa_cons (pe_tup (pa_cons (pe_tup pa_nil) pa_nil)) (pa_cons (pe_tup (pa_cons pe_str pa_nil)) (pa_cons (pe_tup (pa_cons pe_bl pa_nil)) pa_nil)))))))))) pa_nil))))), ?_⟩
  rintro ds W post ⟨a, c, rfl, hd, hc, k⟩
  try dsimp only [cxOf, Cx.nox, Cx.wish]
  have h16 := sizeLine_eq
  walk_at "st"
  refine ev_fz (ev_dnew fun p hp => ⟨p, _, _, _, rfl, List.Perm.refl _, .dct _ _, ?_⟩)
  walk_at "st"
  refine bo_cat (.inl rfl) (.inl rfl) (by show 13 + 8 ≤ _; omega) ?_
  walk_at "st"
  refine handA ⟨a, c, _, rfl, hd, by omega, .inl ⟨_, .inl rfl, by simp, by show 13 + 8 ≤ _; omega, fun z hz W1 hd1 => ?_⟩⟩
  try walk_at "st"
  have e : z ∈ oddL.map uD := hz
  obtain ⟨p, hp, rfl⟩ := List.mem_map.mp e
  exact k p W1 hp hd1
abbrev s_law_bent : Stmt := top 57
theorem sc_law_bent : FnScope ["_law_deck_here", "_law_it", "_law_way", "_law_at"] ["_law_deck_here", "_law_it"] (defScope s_law_bent) := ⟨rfl, rfl, rfl, by decide +kernel, rfl, by decide +kernel, by decide +kernel⟩
theorem c_law_bent {P : Program} {w : World} {K : PySem.W.Frag} {mg : Str → Option Value} {base : Heap} {cl : Nat → Addr} {f : Addr} {fd : FuncData} (hm : mg "_law_bent" = some (.ref f)) (B : Blt mg) (Z : ZZ K w mg cl) (Fn : Fun K "_law_bent" "_law_bent" s_law_bent f fd)
    (c_law_draw : Cal P w K mg base 1 "_law_draw" (spN FK ⟨K, cl⟩ (S_draw DkA)) [])
    (c_law_pick : Cal P w K mg base 2 "_law_pick" (spN FK ⟨K, cl⟩ (S_pick DkA)) [])
    (c_law_odd : Cal P w K mg base 3 "_law_odd" (spN FK ⟨K, cl⟩ S_odd8) []) : ∀ j, Cal P w K mg base (4 + j) "_law_bent" (spN FK ⟨K, cl⟩ (S_bent8 j)) [] := by
  have fz := Z.z0
  have gz := Z.z1
  intro j
  induction j with
  | zero => exact calD (k := 3) hm Fn sc_law_bent (by intro ds W post h; first | (obtain ⟨rfl, _⟩ := h; rfl) | (obtain ⟨_, rfl, _⟩ := h; rfl) | (obtain ⟨_, _, rfl, _⟩ := h; rfl) | (obtain ⟨_, _, _, rfl, _⟩ := h; rfl) | (obtain ⟨_, _, _, _, rfl, _⟩ := h; rfl) | (obtain ⟨_, _, _, _, _, rfl, _⟩ := h; rfl) | (obtain ⟨_, _, _, _, _, _, rfl, _⟩ := h; rfl) | (obtain ⟨_, _, _, _, _, _, _, rfl, _⟩ := h; rfl) | (obtain ⟨_, _, _, _, _, _, _, _, rfl, _⟩ := h; rfl) | (obtain ⟨_, _, _, _, _, _, _, _, _, rfl, _⟩ := h; rfl) | (obtain ⟨_, _, _, _, _, _, _, _, _, _, rfl, _⟩ := h; rfl) | (obtain ⟨_, _, _, _, _, _, _, _, _, _, _, rfl, _⟩ := h; rfl)) (fun _ _ _ _ _ _ us hl => match us, hl with | [_, _], _ => rfl) fun cdv A outer s H E hr => ⟨_, pss_never, fun ds W post ⟨a, c, p, m, k, n, _, _, _, h, _⟩ => absurd h (Nat.not_lt_zero _)⟩
  | succ j c_law_bent =>
    refine calD (k := 4 + j) hm Fn sc_law_bent (by intro ds W post h; first | (obtain ⟨rfl, _⟩ := h; rfl) | (obtain ⟨_, rfl, _⟩ := h; rfl) | (obtain ⟨_, _, rfl, _⟩ := h; rfl) | (obtain ⟨_, _, _, rfl, _⟩ := h; rfl) | (obtain ⟨_, _, _, _, rfl, _⟩ := h; rfl) | (obtain ⟨_, _, _, _, _, rfl, _⟩ := h; rfl) | (obtain ⟨_, _, _, _, _, _, rfl, _⟩ := h; rfl) | (obtain ⟨_, _, _, _, _, _, _, rfl, _⟩ := h; rfl) | (obtain ⟨_, _, _, _, _, _, _, _, rfl, _⟩ := h; rfl) | (obtain ⟨_, _, _, _, _, _, _, _, _, rfl, _⟩ := h; rfl) | (obtain ⟨_, _, _, _, _, _, _, _, _, _, rfl, _⟩ := h; rfl) | (obtain ⟨_, _, _, _, _, _, _, _, _, _, _, rfl, _⟩ := h; rfl)) (fun _ _ _ _ _ _ us hl => match us, hl with | [_, _], _ => rfl) fun cdv A outer s H E hr => ⟨_, pss_cons (ps_set (i := 2) sc_law_bent.nd rfl (Or.inl rfl) (pe_c c_law_draw hr (by omega) (by rfl) (pa_cons (pv 0) (pa_cons pe_int pa_nil))))
 (pss_cons (ps_if (PW.pt (pw_or (pt_cmpR op_eq (pv 2) pe_int (nomark _)) (pw_or (pt_not (pt_val (pe_callB call_isi (by rfl) B.isinstance bt_isinstance (pa_cons (pv 1) (pa_cons (pe_bltn (by rfl) B.tuple bt_tuple (relV_ty _)) pa_nil))))) (pw_or1 (pt_cmpR (op_eqT0 hr.units) (pv 1) (pe_tup pa_nil) (nomark _)))))) (pss_cons (ps_if (PW.pt (pw_and (pt_val (pe_callB call_isi (by rfl) B.isinstance bt_isinstance (pa_cons (pv 1) (pa_cons (pe_bltn (by rfl) B.int bt_int (relV_ty _)) pa_nil)))) (pw_and (pt_not (pt_val (pe_callB call_isi (by rfl) B.isinstance bt_isinstance (pa_cons (pv 1) (pa_cons (pe_bltn (by rfl) B.bool bt_bool (relV_ty _)) pa_nil))))) (pw_and1 (pt_cmpR op_gt (pv 2) pe_int (nomark _)))))) (pss_one (ps_ret (pe_op op_sub (pe_op op_add (pv 1) pe_int) (pe_op op_mul pe_int (pe_c c_law_draw hr (by omega) (by rfl) (pa_cons (pv 0) (pa_cons pe_int pa_nil))))))) (pss_nil))
 (pss_one (ps_ret (pe_ifExp (PW.pt (pw_and (pt_val (pe_callB call_isi (by rfl) B.isinstance bt_isinstance (pa_cons (pv 1) (pa_cons (pe_bltn (by rfl) B.str bt_str (relV_ty _)) pa_nil)))) (pw_and1 (pt_cmpR op_gt (pv 2) pe_int (nomark _))))) (pe_op op_add_str (pv 1) (pe_c c_law_pick hr (by omega) (by rfl) (pa_cons (pv 0) (pa_cons (pe_lst (pa_cons pe_str (pa_cons pe_str (pa_cons pe_str (pa_cons pe_str pa_nil))))) pa_nil)))) (pe_c c_law_odd hr (by omega) (by rfl) (pa_cons (pv 0) pa_nil)))))) (pss_nil))
 (pss_cons (ps_set (i := 3) sc_law_bent.nd rfl (Or.inl rfl) (pe_c c_law_draw hr (by omega) (by rfl) (pa_cons (pv 0) (pa_cons (pe_callB call_len (by rfl) B.len bt_len (pa_cons (pv 1) pa_nil)) pa_nil))))
 (pss_cons (ps_if (pt_cmpR op_eq (pv 2) pe_int (nomark _)) (pss_one (ps_ret (pe_op op_catA (pe_slice sl_tupA (pv 1) po_none (po_some (pv 3))) (pe_slice sl_tupA (pv 1) (po_some (pe_op op_add (pv 3) pe_int)) po_none)))) (pss_nil))
 (pss_cons (ps_if (pt_cmpR op_eq (pv 2) pe_int (nomark _)) (pss_one (ps_ret (pe_op op_catA (pe_op op_catA (pe_slice sl_tupA (pv 1) po_none (po_some (pv 3))) (pe_tup (pa_cons (pe_ix ix_seq (pv 1) (pv 3) (fun _ _ => rfl)) pa_nil))) (pe_slice sl_tupA (pv 1) (po_some (pv 3)) po_none)))) (pss_nil))
 (pss_cons (ps_if (pt_cmpR op_eq (pv 2) pe_int (nomark _)) (pss_one (ps_ret (pe_ifExp (pt_cmpR op_eq (pe_c c_law_draw hr (by omega) (by rfl) (pa_cons (pv 0) (pa_cons pe_int pa_nil))) pe_int (nomark _)) (pe_callTy call_list_of (by rfl) B.list bt_list (pa_cons (pv 1) pa_nil)) (pe_revT (pv 1))))) (pss_nil))
 (pss_one (ps_ret (pe_op op_catA (pe_op op_catA (pe_slice sl_tupA (pv 1) po_none (po_some (pv 3))) (pe_tup (pa_cons (pe_c c_law_bent hr (by omega) (by rfl) (pa_cons (pv 0) (pa_cons (pe_ix ix_seq (pv 1) (pv 3) (fun _ _ => rfl)) pa_nil))) pa_nil))) (pe_slice sl_tupA (pv 1) (po_some (pe_op op_add (pv 3) pe_int)) po_none))))))))), ?_⟩
    rintro ds W post ⟨a, c, p, m, k, n, rfl, hd, hu, hj, hj2, hm, hn, hc, q⟩
    try dsimp only [cxOf, Cx.nox, Cx.wish]
    have h16 := sizeLine_eq
    refine sw_seq (sw_set (ev_call (ea_cons (ev_var rfl (ea_cons (ev_c (ea_nil ?_)))))))
    refine handA ⟨a, c, 8, rfl, hd, by omega, by omega, by omega, fun way W1 w0 w1 hd1 => ?_⟩
    refine sw_seq (sw_if (EvT.imp (S := fun b W' => b = (decide (way = 0) || !isNE p) ∧ W' = W1) ?_ ?_))
    · walk_at "st"
      by_cases h0 : way = 0
      · refine if_so ((decide_eq_true h0)) ?_
        try walk_at "st"
        exact ⟨by rw [decide_eq_true h0]; rfl, rfl⟩
      · rw [decide_eq_false h0]
        try refine if_not (by first | rfl | decide +kernel | simp) ?_
        try walk_at "st"
        refine isi_uT ?_
        cases p with
        | tuple l =>
          rw [uD_tup]
          walk_at "st"
          refine bo_eqT0 ?_
          refine ⟨_, rfl, ?_, rfl⟩
          cases l <;> rfl
        | none =>
          walk_at "st"
          exact ⟨rfl, rfl⟩
        | bool _ =>
          walk_at "st"
          exact ⟨rfl, rfl⟩
        | int _ =>
          walk_at "st"
          exact ⟨rfl, rfl⟩
        | str _ =>
          walk_at "st"
          exact ⟨rfl, rfl⟩
        | list _ =>
          walk_at "st"
          exact ⟨rfl, rfl⟩
        | dict _ =>
          walk_at "st"
          exact ⟨rfl, rfl⟩
    rintro b W' ⟨rfl, rfl⟩
    cases hb : (decide (way = 0) || !isNE p)
    · refine if_not rfl ?_
      rw [Bool.or_eq_false_iff, decide_eq_false_iff_not] at hb
      obtain ⟨h0, h2⟩ := hb
      obtain ⟨l, rfl, hne⟩ : ∃ l, p = .tuple l ∧ l ≠ [] := by
        cases p with
        | tuple l =>
          refine ⟨l, rfl, fun e => ?_⟩
          subst e
          cases h2
        | none => cases h2
        | bool _ => cases h2
        | int _ => cases h2
        | str _ => cases h2
        | list _ => cases h2
        | dict _ => cases h2
      obtain ⟨k, rfl⟩ : ∃ k', k = k' + 1 := ⟨k - 1, by have := hu.dp; simp only [PyData.depth] at this; omega⟩
      have ul := Uk.tup.mp hu
      have hl := ul.len
      have hpos : 0 < l.length := List.length_pos_iff.mpr hne
      rw [uD_tup]
      have hml : (l.map uD).length = l.length := List.length_map _
      walk_at "st"
      refine handA ⟨a, _, _, rfl, hd1, by omega, by omega, by omega, fun z W2 z0 z1 hd2 => ?_⟩
      try walk_at "st"
      obtain ⟨i, rfl⟩ := Int.eq_ofNat_of_zero_le z0
      have hi : i < l.length := by omega
      obtain ⟨x, hx⟩ : ∃ x, l[i]? = some x := ⟨_, List.getElem?_eq_getElem hi⟩
      have hxd : (l.map uD)[i]? = some (uD x) := by rw [List.getElem?_map, hx]; rfl
      have fin : ∀ (r : List PyData) (W3 : Om), Ul (m + 1) (k + 2) (2 * n + 6) r → DkA a (c + 10) W3 → post (.tup (r.map uD)) W3 := fun r W3 h1 h2 => by
        rw [← uD_tup]
        exact q (.tuple r) W3 (Uk.tup.mpr h1) (DkA_mono h2 (by omega))
      have ec : ((i : Nat) : Int) + 1 = ((i + 1 : Nat) : Int) := by omega
      by_cases h1 : way = 1
      · refine if_so ((decide_eq_true h1)) ?_
        try walk_at "st"
        refine ca_slT ?_
        rw [cutD_pre, ← List.map_take]
        walk_at "st"
        refine ca_slT ?_
        rw [ec, cutD_suf, ← List.map_drop]
        refine bo_catA (by simp; omega) ?_
        rw [← List.map_append]
        exact fin _ W2 ((ul.cut hx).up (Nat.le_succ _) (by omega) (by omega)) (DkA_mono hd2 (by omega))
      refine if_not ((decide_eq_false h1)) ?_
      try walk_at "st"
      by_cases h1 : way = 2
      · refine if_so ((decide_eq_true h1)) ?_
        try walk_at "st"
        refine ca_slT ?_
        rw [cutD_pre, ← List.map_take]
        walk_at "st"
        refine bo_ixSq (.inr rfl) (at_nth hxd) ?_
        walk_at "st"
        refine bo_catA (by simp; omega) ?_
        walk_at "st"
        refine ca_slT ?_
        rw [cutD_suf, ← List.map_drop]
        refine bo_catA (by simp; omega) ?_
        rw [show (l.take i).map uD ++ [uD x] ++ (l.drop i).map uD = (l.take i ++ [x] ++ l.drop i).map uD by simp only [List.map_append, List.map_cons, List.map_nil]]
        exact fin _ W2 ((ul.two hx).up (Nat.le_succ _) (by omega) (by omega)) (DkA_mono hd2 (by omega))
      refine if_not ((decide_eq_false h1)) ?_
      try walk_at "st"
      by_cases h1 : way = 3
      · refine if_so ((decide_eq_true h1)) ?_
        try walk_at "st"
        refine handA ⟨a, _, 3, rfl, hd2, by omega, by omega, by omega, fun y W3 y0 y1 hd3 => ?_⟩
        try walk_at "st"
        refine if_dec (fun h3 => ?_) (fun h3 => ?_)
        · walk_at "st"
          refine ca_listF (.inr rfl) ?_
          rw [← uD_lst]
          exact q (.list l) W3 ((Uk.lst.mpr ul).up (Nat.le_succ _) (by omega) (by omega)) (DkA_mono hd3 (by omega))
        · refine ev_revT ?_
          walk_at "st"
          rw [← List.map_reverse]
          exact fin _ W3 (ul.rev.up (Nat.le_succ _) (by omega) (by omega)) (DkA_mono hd3 (by omega))
      refine if_not ((decide_eq_false h1)) ?_
      try walk_at "st"
      refine ca_slT ?_
      rw [cutD_pre, ← List.map_take]
      walk_at "st"
      refine bo_ixSq (.inr rfl) (at_nth hxd) ?_
      walk_at "st"
      have hxb := bkS_mem (List.mem_of_getElem? hx)
      have hbk := ul.bk
      refine handA ⟨a, _, x, m, k, x.bulk, rfl, hd2, (ul.mem (List.mem_of_getElem? hx)).self, by omega, by omega, hm, by omega, by omega, fun p' W3 hu' hd3 => ?_⟩
      try walk_at "st"
      refine bo_catA (by simp; omega) ?_
      walk_at "st"
      refine ca_slT ?_
      rw [ec, cutD_suf, ← List.map_drop]
      refine bo_catA (by simp; omega) ?_
      rw [show (l.take i).map uD ++ [uD p'] ++ (l.drop (i + 1)).map uD = (l.take i ++ [p'] ++ l.drop (i + 1)).map uD by simp only [List.map_append, List.map_cons, List.map_nil]]
      rw [← uD_tup]
      exact q (.tuple _) W3 (Uk.tup.mpr (ul.sub hx hu')) (DkA_mono hd3 (by omega))
    · refine if_so rfl ?_
      have odd : ∀ (p' : PyData) (W2 : Om), p' ∈ oddL → DkA a (c + 1 + 1) W2 → post (uD p') W2 := fun p' W2 h1 h2 => q p' W2 ((odd_u h1 (m := m + 1)).up (Nat.le_refl _) (by omega) (by omega)) (DkA_mono h2 (by omega))
      cases p with
      | int z =>
        have eu : uD (.int z) = D.int z := rfl
        rw [eu]
        walk_at "st"
        by_cases h2 : 2 < way
        · refine if_so ((decide_eq_true h2)) ?_
          try walk_at "st"
          refine handA ⟨a, _, 2, rfl, hd1, by omega, by omega, by omega, fun y W2 y0 y1 hd2 => ?_⟩
          try walk_at "st"
          exact q (.int _) W2 (u_step hu y0 y1) (DkA_mono hd2 (by omega))
        · refine if_not ((decide_eq_false h2)) ?_
          try walk_at "st"
          refine isi_notStr (.int _) ?_
          walk_at "st"
          refine handA ⟨a, _, rfl, hd1, by omega, odd⟩
          try walk_at "st"
      | str s =>
        obtain ⟨hs1, hs2⟩ := hu.str
        walk_at "st"
        refine isi_uI ?_
        walk_at "st"
        have eu : uD (.str s) = D.str s := rfl
        rw [eu]
        walk_at "st"
        by_cases h2 : 2 < way
        · refine if_so ((decide_eq_true h2)) ?_
          try walk_at "st"
          refine handA ⟨a, _, _, rfl, hd1, by omega, .inl ⟨_, .inl rfl, by simp, by simp, fun z hz W2 hd2 => ?_⟩⟩
          try walk_at "st"
          obtain ⟨t, rfl, ht1, ht2⟩ := bits8 z hz
          refine bo_addS (by omega) ?_
          exact q (.str _) W2 (u_more hu ht1 ht2) (DkA_mono hd2 (by omega))
        · refine if_not ((decide_eq_false h2)) ?_
          try walk_at "st"
          refine handA ⟨a, _, rfl, hd1, by omega, odd⟩
          try walk_at "st"
      | bool z =>
        walk_at "st"
        refine isi_uI ?_
        walk_at "st"
        refine isi_uB ?_
        walk_at "st"
        refine isi_uS ?_
        walk_at "st"
        refine handA ⟨a, _, rfl, hd1, by omega, odd⟩
        try walk_at "st"
      | none =>
        walk_at "st"
        refine isi_uI ?_
        walk_at "st"
        refine isi_uS ?_
        walk_at "st"
        refine handA ⟨a, _, rfl, hd1, by omega, odd⟩
        try walk_at "st"
      | list z =>
        walk_at "st"
        refine isi_uI ?_
        walk_at "st"
        refine isi_uS ?_
        walk_at "st"
        refine handA ⟨a, _, rfl, hd1, by omega, odd⟩
        try walk_at "st"
      | tuple z =>
        walk_at "st"
        refine isi_uI ?_
        walk_at "st"
        refine isi_uS ?_
        walk_at "st"
        refine handA ⟨a, _, rfl, hd1, by omega, odd⟩
        try walk_at "st"
      | dict z =>
        walk_at "st"
        refine isi_uI ?_
        walk_at "st"
        refine isi_uS ?_
        walk_at "st"
        refine handA ⟨a, _, rfl, hd1, by omega, odd⟩
        try walk_at "st"
end
section
abbrev s_law_heard : Stmt := top 58
theorem sc_law_heard : FnScope ["_law_parts_here", "_law_is_named", "_law_found", "_law_made", "e"] ["_law_parts_here", "_law_is_named"] (defScope s_law_heard) := ⟨rfl, rfl, rfl, by decide +kernel, rfl, by decide +kernel, by decide +kernel⟩
theorem c_law_heard {P : Program} {w : World} {K : PySem.W.Frag} {mg : Str → Option Value} {base : Heap} {cl : Nat → Addr} {f : Addr} {fd : FuncData} (hm : mg "_law_heard" = some (.ref f)) (B : Blt mg) (Z : ZZ K w mg cl) (Fn : Fun K "_law_heard" "_law_heard" s_law_heard f fd)
    (mx_Web : MakX P w K mg base 4 "Web" (cl 1) 2 ["atoms", "below"] (fun vs zs => vs ++ zs.reverse) (spX FK ⟨K, cl⟩ (S_init8)))
    (o_len1 : Opn P w K mg base 1 (cl 1) "__len__" (spN FK ⟨K, cl⟩ S_lenU)) : Cal P w K mg base 7 "_law_heard" (spN FK ⟨K, cl⟩ S_heard8) [] := by
  have fz := Z.z0
  have gz := Z.z1
  refine calD hm Fn sc_law_heard (by intro ds W post h; first | (obtain ⟨rfl, _⟩ := h; rfl) | (obtain ⟨_, rfl, _⟩ := h; rfl) | (obtain ⟨_, _, rfl, _⟩ := h; rfl) | (obtain ⟨_, _, _, rfl, _⟩ := h; rfl) | (obtain ⟨_, _, _, _, rfl, _⟩ := h; rfl) | (obtain ⟨_, _, _, _, _, rfl, _⟩ := h; rfl) | (obtain ⟨_, _, _, _, _, _, rfl, _⟩ := h; rfl) | (obtain ⟨_, _, _, _, _, _, _, rfl, _⟩ := h; rfl) | (obtain ⟨_, _, _, _, _, _, _, _, rfl, _⟩ := h; rfl) | (obtain ⟨_, _, _, _, _, _, _, _, _, rfl, _⟩ := h; rfl) | (obtain ⟨_, _, _, _, _, _, _, _, _, _, rfl, _⟩ := h; rfl) | (obtain ⟨_, _, _, _, _, _, _, _, _, _, _, rfl, _⟩ := h; rfl)) (fun _ _ _ _ _ _ us hl => match us, hl with | [_, _], _ => rfl) fun cdv A outer s H E hr => ⟨_, pss_cons (ps_set (i := 2) sc_law_heard.nd rfl (Or.inl rfl) pe_non)
 (pss_cons (ps_try_as (i := 4) rfl rfl sc_law_heard.nd rfl rfl ⟨rfl, by decide, .inl Z.g_BadWeb⟩ takes0 (fun W pn xe tk po => pss_cons (ps_set (i := 3) sc_law_heard.nd rfl (Or.inl rfl) (pe_ifExp (pt_val (pv 1)) (pe_mkkX mx_Web hr (by omega) (by rfl) tk (pk_cons (pe_ix (ix_tupK (K := K) rfl) (pv 0) pe_int (fun _ _ => rfl)) (pk_cons (pe_ix (ix_tupK (K := K) rfl) (pv 0) pe_int (fun _ _ => rfl)) (pk_nil)))) (pe_mkX mx_Web hr (by omega) (by rfl) tk (pa_cons (pe_ix (ix_tupK (K := K) rfl) (pv 0) pe_int (fun _ _ => rfl)) (pa_cons (pe_ix (ix_tupK (K := K) rfl) (pv 0) pe_int (fun _ _ => rfl)) pa_nil)))))
 (pss_one (ps_set (i := 2) sc_law_heard.nd rfl (Or.inl rfl) (pe_lst (pa_cons pe_str (pa_cons (pe_fldK (K := K) rfl (pv 3) rfl) (pa_cons (pe_fldK (K := K) rfl (pv 3) rfl) (pa_cons (pe_callB (call_len_opn o_len1 hr (by omega)) (by rfl) B.len bt_len (pa_cons (pv 3) pa_nil)) pa_nil)))))))) (fun a oe cls d pn hz hf => pss_one (ps_set (i := 2) sc_law_heard.nd rfl (Or.inl rfl) (pe_lst (pa_cons pe_str (pa_cons (pe_xf Z.x13.xf Z.x13.no hz hf (pv 4)) pa_nil))))))
 (pss_one (ps_ret (pv 2)))), ?_⟩
  rintro ds W post ⟨p, q, b, rfl, rfl, hp, hq, k⟩
  try dsimp only [cxOf, Cx.nox, Cx.wish]
  have h16 := sizeLine_eq
  walk_at "st"
  refine sw_ofX (W0 := fun _ _ _ _ => False) ?_
  generalize hwx : wAs K (Value.ref (cl 13)) 4 _ _ = wx
  revert wx
  refine (swx_tryG (T := ⟨K, cl⟩) (cc := 13) (ex1 := fun c d G' W' => c = 13 ∧ G' = [some (.tup [uD p, uD q]), some (.bl b), some .non, none, none] ∧ ∃ s : Str, (d, OD.xd ["part"] [.str s]) ∈ W' ∧ due8 p q = some s) (fun _ _ => rfl) (fun W1 => ?_) ?_)
  · dsimp only
    have hh : ∀ {R : D → Om → Prop} {ex : Nat → Addr → Om → Prop} (x : Addr), (∀ w : Wb, p = rowsPy w.below → q = lettersPy w.atoms → due8 p q = none → R w.d []) → (∀ (s : Str) (d : Addr) (W' : Om), due8 p q = some s → (d, OD.xd ["part"] [.str s]) ∈ W' → ex 13 d W') →
        HandX S_init8 [.adr x, uD p, uD q] [(x, .ins 1 [] [])] (fun d W' => d = .non ∧ Fz FK R (.adr x) W') ex := by
      intro R ex x h1 h2
      refine handXA ⟨x, p, q, rfl, rfl, hp, hq, fun w e1 e2 e3 => ⟨rfl, x, _, [], w.d, rfl, List.Perm.refl _, .obj _ _ _, h1 w e1 e2 e3⟩, h2⟩
    cases b with
    | true =>
      refine swx_seq (swx_set (evx_fz (evx_if ?_)))
      walk_at "st"
      refine ⟨rfl, fun x => [.adr x, uD p, uD q], fun H x zs hz => ⟨_, _, rfl, rfl, DenL.reverse hz⟩, fun x hx => hh x (fun w e1 e2 e3 => ?_) (fun s d W' h1 h2 => ⟨rfl, rfl, s, h2, h1⟩)⟩
      have hl := (e1 ▸ hp : U8 (rowsPy w.below)).rows
      walk_at "st"
      refine ca_lenO (inst_wb w) ?_
      refine hand0 ⟨w, rfl, rfl, hl, ⟨_, rfl, by omega, by omega⟩, ?_⟩
      try simp only [List.nil_append]
      try walk_at "st"
      rw [← heard_made e1 e2 e3]
      exact k
    | false =>
      refine swx_seq (swx_set (evx_fz (evx_if ?_)))
      walk_at "st"
      refine fun x hx => hh x (fun w e1 e2 e3 => ?_) (fun s d W' h1 h2 => ⟨rfl, rfl, s, h2, h1⟩)
      have hl := (e1 ▸ hp : U8 (rowsPy w.below)).rows
      walk_at "st"
      refine ca_lenO (inst_wb w) ?_
      refine hand0 ⟨w, rfl, rfl, hl, ⟨_, rfl, by omega, by omega⟩, ?_⟩
      try simp only [List.nil_append]
      try walk_at "st"
      rw [← heard_made e1 e2 e3]
      exact k
  · rintro c d G' W' ⟨rfl, rfl, s, hm, hy⟩
    refine ⟨true, Z.v13_13, fun _ a => ?_, fun h => by cases h⟩
    refine sw_set (ev_lstF (ea_cons (ev_c (ea_cons (ev_xf ?_)))))
    walk_at "st"
    refine ⟨rfl, _, _, _, hm, rfl, ?_⟩
    refine ea_nil ⟨by show 2 ≤ _; omega, ?_⟩
    show Sw _ _ (tRet (tVar 2)) _ _ _
    refine sw_drp (List.nil_sublist _) ?_
    walk_at "st"
    rw [← heard_bad hy]
    exact k
end
section
abbrev s_law_right : Stmt := top 59
theorem sc_law_right : FnScope ["_law_parts_here", "_law_wrong", "_law_shown", "_law_due_here", "_law_told"] ["_law_parts_here"] (defScope s_law_right) := ⟨rfl, rfl, rfl, by decide +kernel, rfl, by decide +kernel, by decide +kernel⟩
theorem c_law_right {P : Program} {w : World} {K : PySem.W.Frag} {mg : Str → Option Value} {base : Heap} {cl : Nat → Addr} {f : Addr} {fd : FuncData} (hm : mg "_law_right" = some (.ref f)) (B : Blt mg) (Z : ZZ K w mg cl) (Fn : Fun K "_law_right" "_law_right" s_law_right f fd)
    (c_law_due : Cal P w K mg base 3 "_law_due" (spN FK ⟨K, cl⟩ S_due8) [])
    (c_law_heard : Cal P w K mg base 7 "_law_heard" (spN FK ⟨K, cl⟩ S_heard8) []) : CalG P w K mg base 8 "_law_right" (spN FK ⟨K, cl⟩ S_right8) := by
  have fz := Z.z0
  have gz := Z.z1
  refine calG hm Fn sc_law_right (by intro ds W post h; first | (obtain ⟨rfl, _⟩ := h; rfl) | (obtain ⟨_, rfl, _⟩ := h; rfl) | (obtain ⟨_, _, rfl, _⟩ := h; rfl) | (obtain ⟨_, _, _, rfl, _⟩ := h; rfl) | (obtain ⟨_, _, _, _, rfl, _⟩ := h; rfl) | (obtain ⟨_, _, _, _, _, rfl, _⟩ := h; rfl) | (obtain ⟨_, _, _, _, _, _, rfl, _⟩ := h; rfl) | (obtain ⟨_, _, _, _, _, _, _, rfl, _⟩ := h; rfl) | (obtain ⟨_, _, _, _, _, _, _, _, rfl, _⟩ := h; rfl) | (obtain ⟨_, _, _, _, _, _, _, _, _, rfl, _⟩ := h; rfl) | (obtain ⟨_, _, _, _, _, _, _, _, _, _, rfl, _⟩ := h; rfl) | (obtain ⟨_, _, _, _, _, _, _, _, _, _, _, rfl, _⟩ := h; rfl)) (fun _ _ _ _ _ _ us hl => match us, hl with | [_], _ => rfl) fun cdv A outer s H hg hr => ⟨_, pss_cons (ps_par (i := 1) (j := 2) (by rfl) sc_law_right.nd rfl rfl (by decide) rfl rfl (pa_cons (pe_c c_law_due hr (by omega) (by rfl) (pa_cons (pv 0) pa_nil)) (pa_cons (pe_callB (call_repr_data hg hr.units) (by rfl) B.repr bt_repr (pa_cons (pv 0) pa_nil)) pa_nil)) (by rfl))
 (pss_cons (ps_set (i := 3) sc_law_right.nd rfl (Or.inl rfl) (pe_lst (pa_cons pe_str (pa_cons (pv 1) pa_nil))))
 (pss_cons (ps_if (pt_cmp (pc_isN (pv 1))) (pss_one (ps_set (i := 3) sc_law_right.nd rfl (Or.inl rfl) (pe_lst (pa_cons pe_str (pa_cons (pe_ix ix_tup (pv 0) pe_int (fun _ _ => rfl)) (pa_cons (pe_ix ix_tup (pv 0) pe_int (fun _ _ => rfl)) (pa_cons (pe_callB call_len (by rfl) B.len bt_len (pa_cons (pe_ix ix_tup (pv 0) pe_int (fun _ _ => rfl)) pa_nil)) pa_nil))))))) (pss_nil))
 (pss_cons (ps_set (i := 4) sc_law_right.nd rfl (Or.inl rfl) (pe_lst (pa_cons (pe_c c_law_heard hr (by omega) (by rfl) (pa_cons (pv 0) (pa_cons pe_bl pa_nil))) (pa_cons (pe_c c_law_heard hr (by omega) (by rfl) (pa_cons (pv 0) (pa_cons pe_bl pa_nil))) pa_nil))))
 (pss_one (ps_ret (pe_and (pe_cmpR op_eq (pe_callB (call_repr_data hg hr.units) (by rfl) B.repr bt_repr (pa_cons (pv 4) pa_nil)) (pe_callB (call_repr_data hg hr.units) (by rfl) B.repr bt_repr (pa_cons (pe_lst (pa_cons (pv 3) (pa_cons (pv 3) pa_nil))) pa_nil)) (nomark _)) (pe_one (pe_cmpR op_eq (pe_callB (call_repr_data hg hr.units) (by rfl) B.repr bt_repr (pa_cons (pv 0) pa_nil)) (pv 2) (nomark _))))))))), ?_⟩
  rintro ds W post ⟨p, q, rfl, rfl, hp, hq, k⟩
  try dsimp only [cxOf, Cx.nox, Cx.wish]
  have h16 := sizeLine_eq
  have eP : D.tup [uD p, uD q] = uD (.tuple [p, q]) := by rw [uD_tup]; rfl
  have uP := u_pair hp hq
  have uT := u_told hp hq
  have eT := uD_told p q
  walk_at "st"
  refine hand0 ⟨p, q, rfl, rfl, hp, hq, ?_⟩
  try simp only [List.nil_append]
  try walk_at "st"
  refine ca_reprU eP uP (by decide) (by decide) (by decide) ?_
  walk_at "st"
  cases e : due8 p q with
  | some s =>
    have ed : dueD8 p q = .str s := by unfold dueD8; rw [e]
    have eh := heard_bad e
    rw [ed]
    refine ev_isV (v := .str s) ?_
    walk_at "st"
    refine ⟨rfl, ?_⟩
    walk_at "st"
    refine hand0 ⟨p, q, false, rfl, rfl, hp, hq, ?_⟩
    try simp only [List.nil_append]
    try walk_at "st"
    walk_at "st"
    refine hand0 ⟨p, q, true, rfl, rfl, hp, hq, ?_⟩
    try simp only [List.nil_append]
    try walk_at "st"
    walk_at "st"
    refine ca_reprU eT uT (by decide) (by decide) (by decide) ?_
    walk_at "st"
    rw [← eh]
    refine ca_reprU eT uT (by decide) (by decide) (by decide) ?_
    generalize (PyData.list [heard8 p q, heard8 p q]).shown = S1
    walk_at "st"
    rw [eqself]
    walk_at "st"
    refine ca_reprU eP uP (by decide) (by decide) (by decide) ?_
    generalize (PyData.tuple [p, q]).shown = S2
    walk_at "st"
    rw [eqself]
    exact k
  | none =>
    have ed : dueD8 p q = .non := by unfold dueD8; rw [e]
    obtain ⟨w, e1, e2, _⟩ := due8_none.mp e
    have eh := heard_made e1 e2 e
    rw [ed]
    refine ev_isV (v := .non) ?_
    walk_at "st"
    refine ⟨rfl, ?_⟩
    walk_at "st"
    have ep : uD p = .tup (w.below.map rowD) := by rw [e1, uD_rows]
    have eq : uD q = atomsD w.atoms := by rw [e2, uD_letters]
    refine ca_len (l := w.below.map rowD) (.inr ep) ?_
    have eh : uD (heard8 p q) = .lst [.str "made", uD p, uD q, .int ((w.below.map rowD).length : Nat)] := by rw [eh, ep, eq, List.length_map]
    walk_at "st"
    refine hand0 ⟨p, q, false, rfl, rfl, hp, hq, ?_⟩
    try simp only [List.nil_append]
    try walk_at "st"
    walk_at "st"
    refine hand0 ⟨p, q, true, rfl, rfl, hp, hq, ?_⟩
    try simp only [List.nil_append]
    try walk_at "st"
    walk_at "st"
    refine ca_reprU eT uT (by decide) (by decide) (by decide) ?_
    walk_at "st"
    rw [← eh]
    refine ca_reprU eT uT (by decide) (by decide) (by decide) ?_
    generalize (PyData.list [heard8 p q, heard8 p q]).shown = S1
    walk_at "st"
    rw [eqself]
    walk_at "st"
    refine ca_reprU eP uP (by decide) (by decide) (by decide) ?_
    generalize (PyData.tuple [p, q]).shown = S2
    walk_at "st"
    rw [eqself]
    exact k
end
section
abbrev s_law : Stmt := top 60
theorem sc_law : FnScope ["_law_script", "_law_deck_here", "_law_kept", "_law_lap", "_law_pair", "_law_go", "_law_bent_here", "_law_again", "_law_k", "_law_turned", "_law_tower", "_law_made", "_law_x", "_law_y", "_law_due_here"] ["_law_script"] (defScope s_law) := ⟨rfl, rfl, rfl, by decide +kernel, rfl, by decide +kernel, by decide +kernel⟩
theorem c_law {P : Program} {w : World} {K : PySem.W.Frag} {mg : Str → Option Value} {base : Heap} {cl : Nat → Addr} {f : Addr} {fd : FuncData} (hm : mg "law" = some (.ref f)) (B : Blt mg) (Z : ZZ K w mg cl) (Fn : Fun K "law" "law" s_law f fd)
    (c_law_deck : Cal P w K mg base 1 "_law_deck" (spN FK ⟨K, cl⟩ (S_deck DkA)) [])
    (c_law_pick : Cal P w K mg base 2 "_law_pick" (spN FK ⟨K, cl⟩ (S_pick DkA)) [])
    (c_law_draw : Cal P w K mg base 1 "_law_draw" (spN FK ⟨K, cl⟩ (S_draw DkA)) [])
    (c_law_web : Cal P w K mg base 2 "_law_web" (spN FK ⟨K, cl⟩ (S_web DkA)) [])
    (c_law_odd : Cal P w K mg base 3 "_law_odd" (spN FK ⟨K, cl⟩ S_odd8) [])
    (c_law_bent : Cal P w K mg base 12 "_law_bent" (spN FK ⟨K, cl⟩ (S_bent8 8)) [])
    (c_law_right : CalG P w K mg base 8 "_law_right" (spN FK ⟨K, cl⟩ S_right8))
    (m_Web : Mak P w K mg base 4 "Web" (cl 1) (spN FK ⟨K, cl⟩ S_initW) [])
    (o_eq1 : Opn P w K mg base 1 (cl 1) "__eq__" (spN FK ⟨K, cl⟩ S_eqU))
    (o_str1 : Opn P w K mg base 2 (cl 1) "__str__" (spN FK ⟨K, cl⟩ S_strW)) : CalG P w K mg base 13 "law" (spN FK ⟨K, cl⟩ S_law) := by
  have fz := Z.z0
  have gz := Z.z1
  refine calG hm Fn sc_law (by intro ds W post h; first | (obtain ⟨rfl, _⟩ := h; rfl) | (obtain ⟨_, rfl, _⟩ := h; rfl) | (obtain ⟨_, _, rfl, _⟩ := h; rfl) | (obtain ⟨_, _, _, rfl, _⟩ := h; rfl) | (obtain ⟨_, _, _, _, rfl, _⟩ := h; rfl) | (obtain ⟨_, _, _, _, _, rfl, _⟩ := h; rfl) | (obtain ⟨_, _, _, _, _, _, rfl, _⟩ := h; rfl) | (obtain ⟨_, _, _, _, _, _, _, rfl, _⟩ := h; rfl) | (obtain ⟨_, _, _, _, _, _, _, _, rfl, _⟩ := h; rfl) | (obtain ⟨_, _, _, _, _, _, _, _, _, rfl, _⟩ := h; rfl) | (obtain ⟨_, _, _, _, _, _, _, _, _, _, rfl, _⟩ := h; rfl) | (obtain ⟨_, _, _, _, _, _, _, _, _, _, _, rfl, _⟩ := h; rfl)) (fun _ _ _ _ _ _ us hl => match us, hl with | [_], _ => rfl) fun cdv A outer s H hg hr => ⟨_, pss_cons (ps_set (i := 1) sc_law.nd rfl (Or.inl rfl) (pe_c c_law_deck hr (by omega) (by rfl) (pa_cons (pv 0) pa_nil)))
 (pss_cons (ps_set (i := 2) sc_law.nd rfl (Or.inr rfl) (pe_lst pa_nil))
 (pss_cons (ps_for PassesOwn.never rfl (pi_range1 (by rfl) B.range (pa_cons pe_int pa_nil)) (pg_name (i := 3) sc_law.nd rfl (Or.inl rfl)) (pss_cons (ps_set (i := 4) sc_law.nd rfl (Or.inl rfl) (pe_c c_law_web hr (by omega) (by rfl) (pa_cons (pv 1) (pa_cons (pe_c c_law_pick hr (by omega) (by rfl) (pa_cons (pv 1) (pa_cons (pe_lst (pa_cons pe_str (pa_cons pe_str (pa_cons pe_str (pa_cons pe_str pa_nil))))) pa_nil))) (pa_cons pe_int pa_nil)))))
 (pss_cons (ps_expr (pe_bm PySem.F.plainAttrs_list PySem.F.slot_list_append PySem.F.type_list_append mt_append (pv 2) (pa_cons (pv 4) pa_nil)))
 (pss_cons (ps_if (PW.pt (pw_or (pt_not (pt_val (pe_cg c_law_right hg hr (by omega) (by rfl) (pa_cons (pv 4) pa_nil)))) (pw_or1 (pt_not (pt_val (pe_cg c_law_right hg hr (by omega) (by rfl) (pa_cons (pe_tup (pa_cons (pe_c c_law_odd hr (by omega) (by rfl) (pa_cons (pv 1) pa_nil)) (pa_cons (pe_ix ix_tup (pv 4) pe_int (fun _ _ => rfl)) pa_nil))) pa_nil))))))) (pss_one (ps_ret pe_bl)) (pss_nil))
 (pss_cons (ps_if (pt_not (pt_val (pe_cg c_law_right hg hr (by omega) (by rfl) (pa_cons (pe_tup (pa_cons (pe_ix ix_tup (pv 4) pe_int (fun _ _ => rfl)) (pa_cons (pe_c c_law_odd hr (by omega) (by rfl) (pa_cons (pv 1) pa_nil)) pa_nil))) pa_nil)))) (pss_one (ps_ret pe_bl)) (pss_nil))
 (pss_one (ps_for PassesOwn.never rfl (pi_range1 (by rfl) B.range (pa_cons pe_int pa_nil)) (pg_name (i := 5) sc_law.nd rfl (Or.inl rfl)) (pss_cons (ps_set (i := 6) sc_law.nd rfl (Or.inl rfl) (pv 4))
 (pss_cons (ps_for PassesOwn.never rfl (pi_range1 (by rfl) B.range (pa_cons (pe_op op_add pe_int (pe_c c_law_draw hr (by omega) (by rfl) (pa_cons (pv 1) (pa_cons pe_int pa_nil)))) pa_nil)) (pg_name (i := 7) sc_law.nd rfl (Or.inl rfl)) (pss_cons (ps_set (i := 8) sc_law.nd rfl (Or.inl rfl) (pe_c c_law_draw hr (by omega) (by rfl) (pa_cons (pv 1) (pa_cons pe_int pa_nil))))
 (pss_cons (ps_set (i := 9) sc_law.nd rfl (Or.inl rfl) (pe_c c_law_bent hr (by omega) (by rfl) (pa_cons (pv 1) (pa_cons (pe_ix ix_seq (pv 6) (pv 8) (fun _ _ => rfl)) pa_nil))))
 (pss_one (ps_set (i := 6) sc_law.nd rfl (Or.inl rfl) (pe_ifExp (pt_cmpR op_eq (pv 8) pe_int (nomark _)) (pe_tup (pa_cons (pv 9) (pa_cons (pe_ix ix_tup (pv 6) pe_int (fun _ _ => rfl)) pa_nil))) (pe_tup (pa_cons (pe_ix ix_tup (pv 6) pe_int (fun _ _ => rfl)) (pa_cons (pv 9) pa_nil)))))))))
 (pss_one (ps_if (pt_not (pt_val (pe_cg c_law_right hg hr (by omega) (by rfl) (pa_cons (pv 6) pa_nil)))) (pss_one (ps_ret pe_bl)) (pss_nil))))))))))))
 (pss_cons (ps_set (i := 10) sc_law.nd rfl (Or.inl rfl) (pe_callTy call_tuple_of (by rfl) B.tuple bt_tuple (pa_cons (pe_lc (own := [("_law_k", 8)]) (by rfl) sc_law.nd (pi_range1 (by rfl) B.range (pa_cons pe_int pa_nil)) (blkOk_by (own := [("_law_k", 8)]) (N := ["_law_script", "_law_deck_here", "_law_kept", "_law_lap", "_law_pair", "_law_go", "_law_bent_here", "_law_again", "_law_k", "_law_turned", "_law_tower", "_law_made", "_law_x", "_law_y", "_law_due_here"]) (sc := defScope s_law) (by decide +kernel)) (fun _ _ _ _ _ => (pg_name (i := 8) sc_law.nd rfl (Or.inl rfl))) (fun _ _ _ _ _ => pts_nil) (fun _ _ _ _ _ => (pe_op (op_repTAK (K := K) rfl) (pe_tup (pa_cons (pe_op op_sub (pv 8) pe_int) pa_nil)) (pe_callTy call_int1 (by rfl) B.int bt_int (pa_cons (pe_cmpR op_gt (pv 8) pe_int (nomark _)) pa_nil))))) pa_nil)))
 (pss_cons (ps_if (PW.pt (pw_or (pt_not (pt_val (pe_cg c_law_right hg hr (by omega) (by rfl) (pa_cons (pe_tup (pa_cons (pv 10) (pa_cons (pe_op op_repTA (pe_tup (pa_cons pe_str pa_nil)) pe_int) pa_nil))) pa_nil)))) (pw_or1 (pt_not (pt_val (pe_cg c_law_right hg hr (by omega) (by rfl) (pa_cons (pe_tup (pa_cons (pv 10) (pa_cons (pe_op op_catA (pe_op op_repTA (pe_tup (pa_cons pe_str pa_nil)) pe_int) (pe_tup (pa_cons pe_str pa_nil))) pa_nil))) pa_nil))))))) (pss_one (ps_ret pe_bl)) (pss_nil))
 (pss_cons (ps_set (i := 11) sc_law.nd rfl (Or.inr rfl) (pe_lc (own := [("_law_pair", 4)]) (by rfl) sc_law.nd (pi_list (pe_op op_cat (pv 2) (pe_slice sl_list (pv 2) po_none (po_some pe_int)))) (blkOk_by (own := [("_law_pair", 4)]) (N := ["_law_script", "_law_deck_here", "_law_kept", "_law_lap", "_law_pair", "_law_go", "_law_bent_here", "_law_again", "_law_k", "_law_turned", "_law_tower", "_law_made", "_law_x", "_law_y", "_law_due_here"]) (sc := defScope s_law) (by decide +kernel)) (fun _ _ _ _ _ => (pg_name (i := 4) sc_law.nd rfl (Or.inl rfl))) (fun _ _ _ _ _ => pts_nil) (fun _ _ _ _ _ => (pe_mk m_Web hr (by omega) (by rfl) (pa_cons (pe_ix (ix_tupK (K := K) rfl) (pv 4) pe_int (fun _ _ => rfl)) (pa_cons (pe_ix (ix_tupK (K := K) rfl) (pv 4) pe_int (fun _ _ => rfl)) pa_nil))))))
 (pss_cons (ps_setLc (i := 14) (own := [("_law_x", 12)]) (by rfl) sc_law.nd rfl rfl (sw_true rfl rfl rfl (by decide +kernel)) (pi_list (pe_op op_cat (pv 2) (pe_slice sl_list (pv 2) po_none (po_some pe_int)))) (blkOk_by (own := [("_law_x", 12)]) (N := ["_law_script", "_law_deck_here", "_law_kept", "_law_lap", "_law_pair", "_law_go", "_law_bent_here", "_law_again", "_law_k", "_law_turned", "_law_tower", "_law_made", "_law_x", "_law_y", "_law_due_here"]) (sc := defScope s_law) (by decide +kernel)) (fun _ _ _ _ _ => (pg_name (i := 12) sc_law.nd rfl (Or.inr rfl))) (fun _ _ _ _ _ => pts_nil) (fun _ _ _ _ _ => (pe_lc (own := [("_law_y", 13)]) (by rfl) sc_law.nd (pi_listK (K := K) rfl (pe_op op_cat (pv 2) (pe_slice (sl_listK (K := K) rfl) (pv 2) po_none (po_some pe_int)))) (blkOk_by (own := [("_law_y", 13)]) (N := ["_law_script", "_law_deck_here", "_law_kept", "_law_lap", "_law_pair", "_law_go", "_law_bent_here", "_law_again", "_law_k", "_law_turned", "_law_tower", "_law_made", "_law_x", "_law_y", "_law_due_here"]) (sc := _) (by kernel_rfl)) (fun _ _ _ _ _ => (pg_name (i := 13) sc_law.nd rfl (Or.inl rfl))) (fun _ _ _ _ _ => pts_nil) (fun _ _ _ _ _ => (pe_cmpR (op_or (op_eqDK (K := K) rfl hr.units) (op_eq_opn o_eq1 hr (by omega))) (pv 12) (pv 13) (nomark _))))))
 (pss_cons (ps_if (PW.pt (pw_or (pt_cmpR (op_neD hr.units) (pe_lc (own := [("_law_x", 12)]) (by rfl) sc_law.nd (pi_list (pv 11)) (blkOk_by (own := [("_law_x", 12)]) (N := ["_law_script", "_law_deck_here", "_law_kept", "_law_lap", "_law_pair", "_law_go", "_law_bent_here", "_law_again", "_law_k", "_law_turned", "_law_tower", "_law_made", "_law_x", "_law_y", "_law_due_here"]) (sc := defScope s_law) (by decide +kernel)) (fun _ _ _ _ _ => (pg_name (i := 12) sc_law.nd rfl (Or.inr rfl))) (fun _ _ _ _ _ => pts_nil) (fun _ _ _ _ _ => (pe_lc (own := [("_law_y", 13)]) (by rfl) sc_law.nd (pi_listK (K := K) rfl (pv 11)) (blkOk_by (own := [("_law_y", 13)]) (N := ["_law_script", "_law_deck_here", "_law_kept", "_law_lap", "_law_pair", "_law_go", "_law_bent_here", "_law_again", "_law_k", "_law_turned", "_law_tower", "_law_made", "_law_x", "_law_y", "_law_due_here"]) (sc := _) (by kernel_rfl)) (fun _ _ _ _ _ => (pg_name (i := 13) sc_law.nd rfl (Or.inl rfl))) (fun _ _ _ _ _ => pts_nil) (fun _ _ _ _ _ => (pe_cmpR (op_or (op_eqDK (K := K) rfl hr.units) (op_eq_opn o_eq1 hr (by omega))) (pv 12) (pv 13) (nomark _)))))) (pv 14) (nomark _)) (pw_or1 (pt_cmpR (op_neD hr.units) (pe_lc (own := [("_law_x", 12)]) (by rfl) sc_law.nd (pi_list (pv 11)) (blkOk_by (own := [("_law_x", 12)]) (N := ["_law_script", "_law_deck_here", "_law_kept", "_law_lap", "_law_pair", "_law_go", "_law_bent_here", "_law_again", "_law_k", "_law_turned", "_law_tower", "_law_made", "_law_x", "_law_y", "_law_due_here"]) (sc := defScope s_law) (by decide +kernel)) (fun _ _ _ _ _ => (pg_name (i := 12) sc_law.nd rfl (Or.inr rfl))) (fun _ _ _ _ _ => pts_nil) (fun _ _ _ _ _ => (pe_lc (own := [("_law_y", 13)]) (by rfl) sc_law.nd (pi_listK (K := K) rfl (pv 11)) (blkOk_by (own := [("_law_y", 13)]) (N := ["_law_script", "_law_deck_here", "_law_kept", "_law_lap", "_law_pair", "_law_go", "_law_bent_here", "_law_again", "_law_k", "_law_turned", "_law_tower", "_law_made", "_law_x", "_law_y", "_law_due_here"]) (sc := _) (by kernel_rfl)) (fun _ _ _ _ _ => (pg_name (i := 13) sc_law.nd rfl (Or.inl rfl))) (fun _ _ _ _ _ => pts_nil) (fun _ _ _ _ _ => (pe_not (pe_cmpR (op_ne_opn o_eq1 Z.y1 hr (by omega)) (pv 12) (pv 13) (nomark _))))))) (pv 14) (nomark _))))) (pss_one (ps_ret pe_bl)) (pss_nil))
 (pss_one (ps_ret (pe_cmpR (op_eqE hr.units) (pe_lc (own := [("_law_x", 12)]) (by rfl) sc_law.nd (pi_list (pv 11)) (blkOk_by (own := [("_law_x", 12)]) (N := ["_law_script", "_law_deck_here", "_law_kept", "_law_lap", "_law_pair", "_law_go", "_law_bent_here", "_law_again", "_law_k", "_law_turned", "_law_tower", "_law_made", "_law_x", "_law_y", "_law_due_here"]) (sc := defScope s_law) (by decide +kernel)) (fun _ _ _ _ _ => (pg_name (i := 12) sc_law.nd rfl (Or.inl rfl))) (fun _ _ _ _ _ => pts_one (PW.pt (pw_or (pt_cmpR (op_eq_anyK (K := K) rfl o_eq1 hr (by omega)) (pv 12) (pe_fldK (K := K) rfl (pv 12) rfl) (nomark _)) (pw_or (pt_cmpR (op_eq_anyK (K := K) rfl o_eq1 hr (by omega)) (pv 12) (pe_callTy (call_str_opn o_str1 hr (by omega)) (by rfl) B.str bt_str (pa_cons (pv 12) pa_nil)) (nomark _)) (pw_or1 (pt_cmpR (op_eq_anyK (K := K) rfl o_eq1 hr (by omega)) (pv 12) (pe_tup (pa_cons (pe_fldK (K := K) rfl (pv 12) rfl) (pa_cons (pe_fldK (K := K) rfl (pv 12) rfl) pa_nil))) (nomark _))))))) (fun _ _ _ _ _ => (pv 12))) (pe_lst pa_nil) (nomark _))))))))))), ?_⟩
  rintro ds W post ⟨ns, rfl, rfl, hl, k⟩
  try dsimp only [cxOf, Cx.nox, Cx.wish]
  have h16 := sizeLine_eq
  refine sw_seq (sw_set (ev_call (ea_cons (ev_var rfl (ea_nil ?_)))))
  refine handA ⟨ns, rfl, rfl, hl, fun a W hd => ?_⟩
  refine sw_seq (sw_set (ev_lst ?_))
  walk_at "st"
  intro p1 hp1
  refine sw_perm (List.perm_append_comm (l₁ := [_])) ?_
  refine sw_seq (sw_for (ei_rng1 ?_))
  walk_at "st"
  refine ⟨by omega, by omega, fun i G W' => ∃ (ws : List Wb) (Wd : Om), ws.length = i ∧ (∀ w ∈ ws, w.ok) ∧ DkA a (20000 * (i : Nat)) Wd ∧ W' = Wd ++ [(p1, .lst (ws.map pairW))] ∧ ∃ o3 o4 o5 o6 o7 o8 o9, G = [some (.scr (ns.map V.int)), some (.adr a), some (.adr p1), o3, o4, o5, o6, o7, o8, o9, none, none, none, none, none], ⟨[], W, rfl, by simp, DkA_mono hd (by omega), rfl, _, _, _, _, _, _, _, rfl⟩, ?_, ?_⟩
  · rintro i d G' W' hdd ⟨ws, Wd, hws, hok, hdk, rfl, o3, o4, o5, o6, o7, o8, o9, rfl⟩
    obtain ⟨hi, rfl⟩ := rng_get hdd
    refine tg_name ?_
    walk_at "st"
    refine ⟨Wd, _, List.Perm.refl _, a, _, _, rfl, hdk, by omega, .inl ⟨_, .inl rfl, by simp, by simp, fun z hz W1 hd1 => ?_⟩⟩
    obtain ⟨p, rfl, hp, hpn, hp4⟩ := pools8 z hz
    walk_at "st"
    refine ⟨W1, _, List.Perm.refl _, a, _, p, 8, rfl, hd1, by omega, by omega, hp, hpn, by omega, fun w W2 hw hwn hwl hd2 => ?_⟩
    walk_at "st"
    refine ev_append ?_
    walk_at "st"
    refine ⟨p1, ws.map pairW, W2, [], rfl, rfl, ?_⟩
    walk_at "st"
    refine ⟨ws.map pairW, W2, [], _, rfl, rfl, by rw [List.length_map]; omega, ?_⟩
    have u1 : Uk 0 2 72 (rowsPy w.below) := u_rows8 hw hwn (by decide)
    have u2 : Uk 0 1 40 (lettersPy w.atoms) := (u_lets8 (n := 4) hw fun s hs => sub_few4 (hw.lets s hs).2 (hwl s hs) hp4).up (Nat.le_refl _) (Nat.le_refl _) (by omega)
    have u18 : U8 (rowsPy w.below) := u1.up (by decide) (by decide) (by decide)
    have u28 : U8 (lettersPy w.atoms) := u2.up (by decide) (by decide) (by decide)
    have ew : pairW w = .tup [uD (rowsPy w.below), uD (lettersPy w.atoms)] := by rw [uD_rows, uD_letters]; rfl
    have ud : ∀ {q : PyData}, q ∈ oddL → U8 q := fun h => (odd_u h (m := 50)).up (Nat.le_refl _) (by decide) (by decide)
    walk_at "st"
    refine hand0 ⟨rowsPy w.below, lettersPy w.atoms, by rw [uD_rows, uD_letters]; rfl, rfl, u18, u28, ?_⟩
    try simp only [List.nil_append]
    try walk_at "st"
    walk_at "st"
    refine ⟨W2, _, List.Perm.refl _, a, _, rfl, hd2, by omega, fun q1 W3 hq1 hd3 => ?_⟩
    walk_at "st"
    refine hand0 ⟨q1, lettersPy w.atoms, by rw [uD_letters]; rfl, rfl, ud hq1, u28, ?_⟩
    try simp only [List.nil_append]
    try walk_at "st"
    walk_at "st"
    refine ⟨W3, _, List.Perm.refl _, a, _, rfl, hd3, by omega, fun q2 W4 hq2 hd4 => ?_⟩
    walk_at "st"
    refine hand0 ⟨rowsPy w.below, q2, by rw [uD_rows]; rfl, rfl, u18, ud hq2, ?_⟩
    try simp only [List.nil_append]
    try walk_at "st"
    walk_at "st"
    refine sw_for (ei_rng1 ?_)
    walk_at "st"
    refine ⟨by omega, by omega, fun j G W' => ∃ Wd : Om, DkA a (20000 * (i : Nat) + 11000 + 500 * (j : Nat)) Wd ∧ W' = Wd ++ [(p1, .lst (ws.map pairW ++ [pairW w]))] ∧ ∃ o3 o5 o6 o7 o8 o9, G = [some (.scr (ns.map V.int)), some (.adr a), some (.adr p1), o3, some (pairW w), o5, o6, o7, o8, o9, none, none, none, none, none], ⟨W4, DkA_mono hd4 (by omega), rfl, _, _, _, _, _, _, rfl⟩, ?_, ?_⟩
    · rintro j d2 G' W' hdd ⟨Wd, hdk, rfl, o3, o5, o6, o7, o8, o9, rfl⟩
      obtain ⟨hj, rfl⟩ := rng_get hdd
      refine tg_name ?_
      walk_at "st"
      refine sw_for (ei_rng1 ?_)
      walk_at "st"
      refine ⟨Wd, _, List.Perm.refl _, a, _, 2, rfl, hdk, by omega, by omega, by omega, fun y W5 y0 y1 hd5 => ?_⟩
      walk_at "st"
      refine ⟨by omega, by omega, fun t G W' => t ≤ 2 ∧ ∃ (p' q' : PyData) (m kk n : Nat) (Wd : Om), Uk m kk n p' ∧ Uk m kk n q' ∧ m ≤ t ∧ kk ≤ 2 + 2 * t ∧ (t = 0 → n ≤ 72) ∧ (t = 1 → n ≤ 150) ∧ (t = 2 → n ≤ 306) ∧ DkA a (20000 * (i : Nat) + 11000 + 500 * (j : Nat) + 1 + 200 * (t : Nat)) Wd ∧ W' = Wd ++ [(p1, .lst (ws.map pairW ++ [pairW w]))] ∧ ∃ o3 o5 o7 o8 o9, G = [some (.scr (ns.map V.int)), some (.adr a), some (.adr p1), o3, some (pairW w), o5, some (.tup [uD p', uD q']), o7, o8, o9, none, none, none, none, none], ?_, ?_, ?_⟩
      · refine ⟨by omega, rowsPy w.below, lettersPy w.atoms, 0, 2, 72, W5, u1, u2.up (Nat.le_refl _) (by decide) (by decide), by omega, by omega, by omega, by omega, by omega, DkA_mono hd5 (by omega), rfl, o3, some (.int (0 + (j : Nat))), o7, o8, o9, by rw [← ew]; rfl⟩
      · rintro t d3 G' W' hdd ⟨ht2, p', q', m, kk, n, Wd, hp', hq', hm, hkk, hn0, hn1, hn2, hdk, rfl, o3, o5, o7, o8, o9, rfl⟩
        obtain ⟨ht, rfl⟩ := rng_get hdd
        have ht3 : t < 2 := by omega
        refine tg_name ?_
        walk_at "st"
        refine ⟨Wd, _, List.Perm.refl _, a, _, 2, rfl, hdk, by omega, by omega, by omega, fun x W6 x0 x1 hd6 => ?_⟩
        walk_at "st"
        have hnn : 2 * n + 6 ≤ 2 * 306 ∧ (t = 0 → 2 * n + 6 ≤ 150) ∧ (t = 1 → 2 * n + 6 ≤ 306) ∧ n ≤ 306 := by omega
        by_cases hx : x = 0
        · subst hx
          refine bo_ixSq (.inr rfl) (z := uD p') (at_nth (k := 0) rfl) ?_
          walk_at "st"
          refine ⟨W6, _, List.Perm.refl _, a, _, p', m, kk, n, rfl, hd6, hp', by omega, by omega, by omega, by omega, by omega, fun r W7 hr hd7 => ?_⟩
          walk_at "st"
          exact ⟨by omega, r, q', m + 1, kk + 2, 2 * n + 6, W7, hr, hq'.up (by omega) (by omega) (by omega), by omega, by omega, by omega, by omega, by omega, DkA_mono hd7 (by omega), rfl, _, _, _, _, _, rfl⟩
        · obtain rfl : x = 1 := by omega
          refine bo_ixSq (.inr rfl) (z := uD q') (at_nth (k := 1) rfl) ?_
          walk_at "st"
          refine ⟨W6, _, List.Perm.refl _, a, _, q', m, kk, n, rfl, hd6, hq', by omega, by omega, by omega, by omega, by omega, fun r W7 hr hd7 => ?_⟩
          walk_at "st"
          exact ⟨by omega, p', r, m + 1, kk + 2, 2 * n + 6, W7, hp'.up (by omega) (by omega) (by omega), hr, by omega, by omega, by omega, by omega, by omega, DkA_mono hd7 (by omega), rfl, _, _, _, _, _, rfl⟩
      · rintro G' W' ⟨ht2, p', q', m, kk, n, Wd, hp', hq', hm, hkk, hn0, hn1, hn2, hdk, rfl, o3, o5, o7, o8, o9, rfl⟩
        rw [rng_len] at ht2 hm hkk hn0 hn1 hn2 hdk
        have hn : n ≤ 306 := by omega
        walk_at "st"
        refine hand0 ⟨p', q', rfl, rfl, hp'.up (by omega) (by omega) (by omega), hq'.up (by omega) (by omega) (by omega), ?_⟩
        try simp only [List.nil_append]
        try walk_at "st"
        walk_at "st"
        exact ⟨Wd, DkA_mono hdk (by omega), rfl, _, _, _, _, _, _, rfl⟩
    · rintro G' W' ⟨Wd, hdk, rfl, o3, o5, o6, o7, o8, o9, rfl⟩
      rw [rng_len] at hdk
      refine ⟨ws ++ [w], Wd, by simp [hws], fun u hu => ?_, DkA_mono hdk (by push_cast; omega), by simp, _, _, _, _, _, _, _, rfl⟩
      rcases List.mem_append.mp hu with h | h
      · exact hok u h
      · rw [List.mem_singleton] at h
        subst h
        exact hw
  · rintro G' W' ⟨ws, Wd, hws, hok, hdk, rfl, o3, o4, o5, o6, o7, o8, o9, rfl⟩
    rw [rng_len] at hws hdk
    have h5 : ws.length = 5 := hws
    walk_at "st"
    refine ev_lcM (ei_rng1 ?_)
    walk_at "st"
    refine ⟨by omega, by omega, towR.map rowD, fun t d e hd he => ?_, by simp [towR, rng_len], by simp [towR]; omega, ?_⟩
    · obtain ⟨ht, rfl⟩ := rng_get hd
      have ht : t < 200 := ht
      have hr : towR[t]? = some (if t = 0 then [] else [t - 1]) := by
        unfold towR
        rw [List.getElem?_map, List.getElem?_range ht]
        rfl
      rw [List.getElem?_map, hr] at he
      obtain rfl := Option.some.inj he
      refine tw_name (by simp) ?_
      walk_at "st"
      refine ⟨rfl, ?_⟩
      walk_at "st"
      refine bo_repTA (by simp) (by split <;> omega) (by split <;> omega) (by simp) ?_
      refine ⟨?_, rfl⟩
      by_cases h0 : t = 0
      · subst h0
        rfl
      · rw [if_neg h0, if_pos (decide_eq_true (by omega))]
        show D.tup [D.int _] = D.tup [D.int _]
        congr 3
        omega
    refine ea_nil (ca_tup (.inl (.inl rfl)) ?_)
    walk_at "st"
    refine bo_repTA (by simp) (by omega) (by omega) (by simp) ?_
    walk_at "st"
    refine hand0 ⟨rowsPy towR, lettersPy towL, by rw [uD_rows, uD_letters]; rfl, rfl, towR_u, towL_u, ?_⟩
    try simp only [List.nil_append]
    try walk_at "st"
    walk_at "st"
    refine bo_repTA (by simp) (by omega) (by omega) (by simp) ?_
    walk_at "st"
    refine bo_catA (by simp; omega) ?_
    walk_at "st"
    refine hand0 ⟨rowsPy towR, lettersPy towM, by rw [uD_rows, uD_letters]; rfl, rfl, towR_u, towM_u, ?_⟩
    try simp only [List.nil_append]
    try walk_at "st"
    walk_at "st"
    have hv : ∀ w ∈ ws ++ ws.take 1, w.ok := fun w h => (List.mem_append.mp h).elim (hok w) fun h => hok w (List.mem_of_mem_take h)
    have hvl : (ws ++ ws.take 1).length ≤ 6 := by rw [List.length_append, List.length_take]; omega
    have mem : (p1, OD.lst (ws.map pairW)) ∈ Wd ++ [(p1, OD.lst (ws.map pairW))] := List.mem_append_right _ List.mem_cons_self
    have ec : cutD (ws.map pairW) none (some 1) = (ws.take 1).map pairW := by rw [show (1 : Int) = ((1 : Nat) : Int) from rfl, cutD_pre, List.map_take]
    have cat : ∀ {R : D → Om → Prop}, R (.lst ((ws ++ ws.take 1).map pairW)) (Wd ++ [(p1, OD.lst (ws.map pairW))]) → Bo FK ⟨K, cl⟩ rCat (.adr p1) (.lst ((ws.take 1).map pairW)) (Wd ++ [(p1, OD.lst (ws.map pairW))]) R := fun r => bo_cat (.inr ⟨_, rfl, mem⟩) (.inl rfl) (by rw [List.length_map, List.length_map, List.length_take]; omega) (by rw [← List.map_append]; exact r)
    generalize (ws ++ ws.take 1) = vs at hv hvl cat
    generalize Wd ++ [(p1, OD.lst (ws.map pairW))] = Wn at mem cat
    refine ev_lcM (ei_list ?_)
    walk_at "st"
    refine ca_slF (.inr ⟨_, rfl, mem⟩) ?_
    rw [ec]
    refine cat ?_
    refine ⟨_, rfl, vs.map Wb.d, fun i d e hd he => ?_, by rw [List.length_map, List.length_map], by rw [List.length_map]; omega, ?_⟩
    · rw [List.getElem?_map] at hd he
      obtain ⟨w, hw, rfl⟩ := Option.map_eq_some_iff.mp hd
      rw [hw] at he
      obtain rfl := Option.some.inj he
      have ep : pairW w = .tup [rowsD w.below, atomsD w.atoms] := rfl
      refine tw_name (by simp) ?_
      rw [ep]
      walk_at "st"
      refine ⟨rfl, ?_⟩
      walk_at "st"
      refine ev_mkW ?_
      walk_at "st"
      exact ⟨hv w (List.mem_of_getElem? hw), rfl, rfl⟩
    walk_at "st"
    have same : ∀ {i : Nat} {e : D}, ((sameT vs).map fun r => D.lst (r.map D.bl))[i]? = some e → ∀ {w : Wb}, vs[i]? = some w → e = .lst ((vs.map fun u => sameW w u).map D.bl) := fun h w hw => by
      rw [sameD_row hw] at h
      exact (Option.some.inj h).symm
    have sl : (sameT vs).length = vs.length := List.length_map _
    refine ev_lcM (ei_list ?_)
    walk_at "st"
    refine ca_slF (.inr ⟨_, rfl, mem⟩) ?_
    rw [ec]
    refine cat ?_
    refine ⟨_, rfl, (sameT vs).map fun r => D.lst (r.map D.bl), fun i d e hd he => ?_, by rw [List.length_map, List.length_map, sl], by rw [List.length_map, sl]; omega, ?_⟩
    · rw [List.getElem?_map] at hd
      obtain ⟨w, hw, rfl⟩ := Option.map_eq_some_iff.mp hd
      obtain rfl := same he hw
      have hwo := hv w (List.mem_of_getElem? hw)
      refine tw_name (by simp) ?_
      walk_at "st"
      refine ⟨rfl, ?_⟩
      refine ev_lcM (ei_list ?_)
      walk_at "st"
      refine ca_slF (.inr ⟨_, rfl, mem⟩) ?_
      rw [ec]
      refine cat ?_
      refine ⟨_, rfl, (vs.map fun u => sameW w u).map D.bl, fun j d e hd he => ?_, by simp only [List.length_map], by simp only [List.length_map]; omega, rfl, rfl⟩
      rw [List.getElem?_map] at hd
      obtain ⟨u, hu, rfl⟩ := Option.map_eq_some_iff.mp hd
      rw [List.map_map, List.getElem?_map, hu] at he
      obtain rfl := Option.some.inj he
      refine tw_name (by simp) ?_
      walk_at "st"
      refine ⟨rfl, ?_⟩
      walk_at "st"
      refine bo_orL (bo_eqD (.inl (pair_pd w)) (.inl (pair_pd u)) (pair_shaped hwo) (pair_shaped (hv u (List.mem_of_getElem? hu))) ?_)
      rw [pair_eqv]
      exact ⟨rfl, rfl⟩
    walk_at "st"
    refine ev_lcM (ei_list ?_)
    walk_at "st"
    refine ⟨(sameT vs).map fun r => D.lst (r.map D.bl), fun i d e hd he => ?_, by rw [List.length_map, List.length_map, sl], by rw [List.length_map, sl]; omega, ?_⟩
    · rw [List.getElem?_map] at hd
      obtain ⟨w, hw, rfl⟩ := Option.map_eq_some_iff.mp hd
      obtain rfl := same he hw
      have hwo := hv w (List.mem_of_getElem? hw)
      refine tw_name (by simp) ?_
      walk_at "st"
      refine ⟨rfl, ?_⟩
      refine ev_lcM (ei_list ?_)
      walk_at "st"
      refine ⟨(vs.map fun u => sameW w u).map D.bl, fun j d e hd he => ?_, by simp only [List.length_map], by simp only [List.length_map]; omega, rfl, rfl⟩
      rw [List.getElem?_map] at hd
      obtain ⟨u, hu, rfl⟩ := Option.map_eq_some_iff.mp hd
      rw [List.map_map, List.getElem?_map, hu] at he
      obtain rfl := Option.some.inj he
      have huo := hv u (List.mem_of_getElem? hu)
      refine tw_name (by simp) ?_
      walk_at "st"
      refine ⟨rfl, ?_⟩
      walk_at "st"
      refine bo_orR (bo_eqO (inst_wb w) (inst_wb u) (hand0 ⟨w, u.d, rfl, rfl, hwo, .inl ⟨u, rfl, huo, ⟨_, rfl⟩, ?_⟩⟩))
      exact ⟨rfl, List.nil_append _⟩
    walk_at "st"
    refine bo_neD (.inl (same_pd vs)) (.inl (same_pd vs)) (same_shaped vs) (same_shaped vs) ?_
    rw [same_eqv]
    walk_at "st"
    refine ev_lcM (ei_list ?_)
    walk_at "st"
    refine ⟨(sameT vs).map fun r => D.lst (r.map D.bl), fun i d e hd he => ?_, by rw [List.length_map, List.length_map, sl], by rw [List.length_map, sl]; omega, ?_⟩
    · rw [List.getElem?_map] at hd
      obtain ⟨w, hw, rfl⟩ := Option.map_eq_some_iff.mp hd
      obtain rfl := same he hw
      have hwo := hv w (List.mem_of_getElem? hw)
      refine tw_name (by simp) ?_
      walk_at "st"
      refine ⟨rfl, ?_⟩
      refine ev_lcM (ei_list ?_)
      walk_at "st"
      refine ⟨(vs.map fun u => sameW w u).map D.bl, fun j d e hd he => ?_, by simp only [List.length_map], by simp only [List.length_map]; omega, rfl, rfl⟩
      rw [List.getElem?_map] at hd
      obtain ⟨u, hu, rfl⟩ := Option.map_eq_some_iff.mp hd
      rw [List.map_map, List.getElem?_map, hu] at he
      obtain rfl := Option.some.inj he
      have huo := hv u (List.mem_of_getElem? hu)
      refine tw_name (by simp) ?_
      walk_at "st"
      refine ⟨rfl, ?_⟩
      walk_at "st"
      refine bo_neO (inst_wb w) (inst_wb u) (hand0 ⟨w, u.d, rfl, rfl, hwo, .inl ⟨u, rfl, huo, _, rfl, ?_⟩⟩)
      refine ⟨_, rfl, ?_, List.nil_append _⟩
      show D.bl (!!_) = D.bl _
      rw [Bool.not_not]
      rfl
    walk_at "st"
    refine bo_neD (.inl (same_pd vs)) (.inl (same_pd vs)) (same_shaped vs) (same_shaped vs) ?_
    rw [same_eqv]
    walk_at "st"
    refine ev_lcP (ei_list ?_)
    walk_at "st"
    refine ⟨vs.map fun w => (false, w.d), fun i d e hd he => ?_, by rw [List.length_map, List.length_map], by rw [List.length_map]; omega, ?_⟩
    · rw [List.getElem?_map] at hd he
      obtain ⟨w, hw, rfl⟩ := Option.map_eq_some_iff.mp hd
      rw [hw] at he
      obtain rfl := Option.some.inj he
      have hwo := hv w (List.mem_of_getElem? hw)
      refine tw_name (by simp) ?_
      walk_at "st"
      refine bo_eqA (inst_wb w) tyd_tup Z.w1.nt (hand0 ⟨w, _, rfl, rfl, hwo, .inr ⟨.inl ⟨_, rfl⟩, ⟨_, rfl⟩, ?_⟩⟩)
      rw [List.nil_append]
      walk_at "st"
      refine ca_strO (inst_wb w) (hand0 ⟨w, rfl, rfl, hwo, ⟨_, rfl⟩, ?_⟩)
      rw [List.nil_append]
      walk_at "st"
      refine bo_eqA (inst_wb w) tyd_str Z.w1.ns (hand0 ⟨w, _, rfl, rfl, hwo, .inr ⟨.inr ⟨_, rfl⟩, ⟨_, rfl⟩, ?_⟩⟩)
      rw [List.nil_append]
      walk_at "st"
      refine bo_eqA (inst_wb w) tyd_tup Z.w1.nt (hand0 ⟨w, _, rfl, rfl, hwo, .inr ⟨.inl ⟨_, rfl⟩, ⟨_, rfl⟩, ?_⟩⟩)
      rw [List.nil_append]
      walk_at "st"
      exact ⟨rfl, if_not rfl rfl⟩
    walk_at "st"
    refine bo_eqE (.inl (.inl rfl)) (.inl (.inl rfl)) ?_
    rw [fltE, show (vs.map fun w => (false, w.d)).all (fun e => !e.1) = true from by rw [List.all_map, List.all_eq_true]; exact fun _ _ => rfl]
    exact k _
end
end N
set_option Elab.async false
set_option linter.all false
set_option maxRecDepth 100000
namespace N
open PySem PySem.Spec PyProof.Rows L2
open C8 (Cal Met Mak InsC)
set_option maxHeartbeats 4000000
theorem all_mk {P : Program} {w : World} {K : PySem.W.Frag} {h base : Heap} {mg : Str → Option Value} {fa : Addr} (X : K.In h) (G : h.Ns mainGlobals mg) (hfa : mg "law" = some (.ref fa)) (hw : w = w)
    {C0 : Addr} {C1 : Addr} {C13 : Addr}
    {t0 : PySem.Tok}
    {t1 : PySem.Tok}
    {t2 : PySem.Tok}
    {t3 : PySem.Tok}
    {t4 : PySem.Tok}
    {dd5 : Addr} {es5 : Array DictEntry} {en5 : Nat} {u5_0 : PySem.Tok} {u5_1 : PySem.Tok} {u5_2 : PySem.Tok} {u5_3 : PySem.Tok}
    {t6 : PySem.Tok}
    {t7 : PySem.Tok}
    {t8 : PySem.Tok}
    {t9 : PySem.Tok}
    {t10 : PySem.Tok}
    {t11 : PySem.Tok}
    
    {nme13 qne13 : Str} {NAe13 : Addr} {bse13 : List Value} {sne13 : List Str} {sube13 : List Value} {abe13 : Bool} {coe13 : Option Bool} {dde13 : Option Addr} {x0e13 x1e13 x2e13 x3e13 x5e13 : Option Value}
    {CW : Addr}
    {f1 : Addr} {od1 an1 : Option Addr} {sl1 : Array (Option Value)} {oc1 kV1 dc1 pm1 cd1 ct1 : Value}
    {f2 : Addr} {od2 an2 : Option Addr} {sl2 : Array (Option Value)} {oc2 kV2 dc2 pm2 cd2 ct2 : Value}
    {f3 : Addr} {od3 an3 : Option Addr} {sl3 : Array (Option Value)} {oc3 kV3 dc3 pm3 cd3 ct3 : Value}
    {f4 : Addr} {od4 an4 : Option Addr} {sl4 : Array (Option Value)} {oc4 kV4 dc4 pm4 cd4 ct4 : Value}
    {f5 : Addr} {od5 an5 : Option Addr} {sl5 : Array (Option Value)} {oc5 kV5 dc5 pm5 cd5 ct5 : Value}
    {f6 : Addr} {od6 an6 : Option Addr} {sl6 : Array (Option Value)} {oc6 kV6 dc6 pm6 cd6 ct6 : Value}
    {f7 : Addr} {od7 an7 : Option Addr} {sl7 : Array (Option Value)} {oc7 kV7 dc7 pm7 cd7 ct7 : Value}
    {f8 : Addr} {od8 an8 : Option Addr} {sl8 : Array (Option Value)} {oc8 kV8 dc8 pm8 cd8 ct8 : Value}
    {f9 : Addr} {od9 an9 : Option Addr} {sl9 : Array (Option Value)} {oc9 kV9 dc9 pm9 cd9 ct9 : Value}
    {f10 : Addr} {od10 an10 : Option Addr} {sl10 : Array (Option Value)} {oc10 kV10 dc10 pm10 cd10 ct10 : Value}
    {f11 : Addr} {od11 an11 : Option Addr} {sl11 : Array (Option Value)} {oc11 kV11 dc11 pm11 cd11 ct11 : Value}
    {f12 : Addr} {od12 an12 : Option Addr} {sl12 : Array (Option Value)} {oc12 kV12 dc12 pm12 cd12 ct12 : Value}
    {f13 : Addr} {od13 an13 : Option Addr} {sl13 : Array (Option Value)} {oc13 kV13 dc13 pm13 cd13 ct13 : Value}
    {f14 : Addr} {od14 an14 : Option Addr} {sl14 : Array (Option Value)} {oc14 kV14 dc14 pm14 cd14 ct14 : Value}
    {f15 : Addr} {od15 an15 : Option Addr} {sl15 : Array (Option Value)} {oc15 kV15 dc15 pm15 cd15 ct15 : Value}
    {f16 : Addr} {od16 an16 : Option Addr} {sl16 : Array (Option Value)} {oc16 kV16 dc16 pm16 cd16 ct16 : Value}
    {f17 : Addr} {od17 an17 : Option Addr} {sl17 : Array (Option Value)} {oc17 kV17 dc17 pm17 cd17 ct17 : Value}
    {f18 : Addr} {od18 an18 : Option Addr} {sl18 : Array (Option Value)} {oc18 kV18 dc18 pm18 cd18 ct18 : Value}
    {f19 : Addr} {od19 an19 : Option Addr} {sl19 : Array (Option Value)} {oc19 kV19 dc19 pm19 cd19 ct19 : Value}
    {f20 : Addr} {od20 an20 : Option Addr} {sl20 : Array (Option Value)} {oc20 kV20 dc20 pm20 cd20 ct20 : Value}
    {f21 : Addr} {od21 an21 : Option Addr} {sl21 : Array (Option Value)} {oc21 kV21 dc21 pm21 cd21 ct21 : Value}
    {f22 : Addr} {od22 an22 : Option Addr} {sl22 : Array (Option Value)} {oc22 kV22 dc22 pm22 cd22 ct22 : Value}
    {f23 : Addr} {od23 an23 : Option Addr} {sl23 : Array (Option Value)} {oc23 kV23 dc23 pm23 cd23 ct23 : Value}
    {f24 : Addr} {od24 an24 : Option Addr} {sl24 : Array (Option Value)} {oc24 kV24 dc24 pm24 cd24 ct24 : Value}
    {f25 : Addr} {od25 an25 : Option Addr} {sl25 : Array (Option Value)} {oc25 kV25 dc25 pm25 cd25 ct25 : Value}
    {f26 : Addr} {od26 an26 : Option Addr} {sl26 : Array (Option Value)} {oc26 kV26 dc26 pm26 cd26 ct26 : Value}
    {f27 : Addr} {od27 an27 : Option Addr} {sl27 : Array (Option Value)} {oc27 kV27 dc27 pm27 cd27 ct27 : Value}
    {f28 : Addr} {od28 an28 : Option Addr} {sl28 : Array (Option Value)} {oc28 kV28 dc28 pm28 cd28 ct28 : Value}
    (z0 : PySem.W.nsIn K mainGlobals "len" = some none)
    (z1 : PySem.W.nsIn K mainGlobals "int" = some none)
    (z2 : PySem.W.nsIn K mainGlobals "str" = some none)
    (z3 : PySem.W.nsIn K mainGlobals "range" = some none)
    (z4 : PySem.W.nsIn K mainGlobals "list" = some none)
    (z5 : PySem.W.nsIn K mainGlobals "tuple" = some none)
    (z6 : PySem.W.nsIn K mainGlobals "dict" = some none)
    (z7 : PySem.W.nsIn K mainGlobals "set" = some none)
    (z8 : PySem.W.nsIn K mainGlobals "sorted" = some none)
    (z9 : PySem.W.nsIn K mainGlobals "isinstance" = some none)
    (z10 : PySem.W.nsIn K mainGlobals "repr" = some none)
    (z11 : PySem.W.nsIn K mainGlobals "max" = some none)
    (z12 : PySem.W.nsIn K mainGlobals "min" = some none)
    (z13 : PySem.W.nsIn K mainGlobals "sum" = some none)
    (z14 : PySem.W.nsIn K mainGlobals "all" = some none)
    (z15 : PySem.W.nsIn K mainGlobals "any" = some none)
    (z16 : PySem.W.nsIn K mainGlobals "zip" = some none)
    (z17 : PySem.W.nsIn K mainGlobals "enumerate" = some none)
    (z18 : PySem.W.nsIn K mainGlobals "bool" = some none)
    (z19 : PySem.W.nsIn K mainGlobals "reversed" = some none)
    (z20 : PySem.W.nsIn K mainGlobals "type" = some none)
    (s0 : PySem.W.nsIn K mainGlobals "LETTERS" = some (some (.str "ABCDEFGHIJKLMNOPQRSTUVWXYZabcdefghijklmnopqrstuvwxyz" t0)))
    (s1 : PySem.W.nsIn K mainGlobals "ATOM" = some (some (.str "atom" t1)))
    (s2 : PySem.W.nsIn K mainGlobals "NO" = some (some (.str "no" t2)))
    (s3 : PySem.W.nsIn K mainGlobals "IF" = some (some (.str "if" t3)))
    (s4 : PySem.W.nsIn K mainGlobals "ALL" = some (some (.str "all" t4)))
    (aP5 : PySem.W.nsIn K mainGlobals "PARTS_OF" = some (some (.ref dd5)))
    (lP5 : K.lookup dd5 = some ⟨.type "dict", none, .dict es5 en5, #[]⟩)
    (lit5 : PySem.W.KeysLit w.params es5.toList)
    (low5 : (dd5 == sysModules) = false)
    (p5_0 : PySem.W.nsIn K dd5 "atom" = some (some (.int 1 u5_0)))
    (p5_1 : PySem.W.nsIn K dd5 "no" = some (some (.int 0 u5_1)))
    (p5_2 : PySem.W.nsIn K dd5 "if" = some (some (.int 2 u5_2)))
    (p5_3 : PySem.W.nsIn K dd5 "all" = some (some (.int 1 u5_3)))
    (s6 : PySem.W.nsIn K mainGlobals "ALL_AHEAD" = some (some (.str "all " t6)))
    (s7 : PySem.W.nsIn K mainGlobals "BETWEEN" = some (some (.str " > " t7)))
    (s8 : PySem.W.nsIn K mainGlobals "DIGITS" = some (some (.str "0123456789" t8)))
    (s9 : PySem.W.nsIn K mainGlobals "BARE" = some (some (.str "-" t9)))
    (s10 : PySem.W.nsIn K mainGlobals "BLANK" = some (some (.str " " t10)))
    (s11 : PySem.W.nsIn K mainGlobals "BREAK" = some (some (.str "\n" t11)))
    (aC0 : PySem.W.nsIn K mainGlobals "Formula" = some (some (.ref C0)))
    (pg0 : PySem.W.plainGet K C0 Str.empty = true)
    (hd0 : PySem.W.hasDictIn K C0 = true)
    (po0 : PySem.W.plainOver K C0 = true)
    (sa0 : PySem.W.findIn K (.ref C0) "__setattr__" = some (some (.builtin "object.__setattr__")))
    (mk0 : PySem.W.makesIn K C0 = true)
    (kc0 : PySem.W.keepIn K (.ref C0) = true)
    (n0_0 : PySem.W.findIn K (.ref C0) "kind" = some none)
    (n0_1 : PySem.W.findIn K (.ref C0) "parts" = some none)
    (n0_2 : PySem.W.findIn K (.ref C0) "many" = some none)
    (n0_3 : PySem.W.findIn K (.ref C0) "deepest" = some none)
    (n0_4 : PySem.W.findIn K (.ref C0) "atoms" = some none)
    (n0_5 : PySem.W.findIn K (.ref C0) "bare" = some none)
    (n0_6 : PySem.W.findIn K (.ref C0) "spelled" = some none)
    (n0_7 : PySem.W.findIn K (.ref C0) "alls_known" = some none)
    (ha0 : PySem.W.findIn K (.ref C0) "__class__" = some (some (.builtin "object.__class__")))
    (hn0 : PySem.W.specialIn K (.builtin "object.__class__") "__get__" = some (some (.builtin "getset_descriptor.__get__")))
    (htk0 : PySem.W.takesIn K (.builtin "object.__class__") = some true)
    (hmo0 : PySem.W.mroIn K C0 (.type "object") = some true)
    (me0 : PySem.W.kitOne K (.ref C0) (.ref C0) = some true)
    (sf0 : PySem.W.selfFirst K C0 = true)
    (is0 : PySem.W.kitOne K (.type "str") (.ref C0) = some false)
    (aC1 : PySem.W.nsIn K mainGlobals "Web" = some (some (.ref C1)))
    (pg1 : PySem.W.plainGet K C1 Str.empty = true)
    (hd1 : PySem.W.hasDictIn K C1 = true)
    (po1 : PySem.W.plainOver K C1 = true)
    (sa1 : PySem.W.findIn K (.ref C1) "__setattr__" = some (some (.builtin "object.__setattr__")))
    (mk1 : PySem.W.makesIn K C1 = true)
    (kc1 : PySem.W.keepIn K (.ref C1) = true)
    (n1_0 : PySem.W.findIn K (.ref C1) "below" = some none)
    (n1_1 : PySem.W.findIn K (.ref C1) "atoms" = some none)
    (n1_2 : PySem.W.findIn K (.ref C1) "all_beneath" = some none)
    (n1_3 : PySem.W.findIn K (.ref C1) "all_heights" = some none)
    (ha1 : PySem.W.findIn K (.ref C1) "__class__" = some (some (.builtin "object.__class__")))
    (hn1 : PySem.W.specialIn K (.builtin "object.__class__") "__get__" = some (some (.builtin "getset_descriptor.__get__")))
    (htk1 : PySem.W.takesIn K (.builtin "object.__class__") = some true)
    (hmo1 : PySem.W.mroIn K C1 (.type "object") = some true)
    (me1 : PySem.W.kitOne K (.ref C1) (.ref C1) = some true)
    (sf1 : PySem.W.selfFirst K C1 = true)
    (is1 : PySem.W.kitOne K (.type "str") (.ref C1) = some false)
    (ne1 : PySem.W.findIn K (.ref C1) "__ne__" = some (some (.builtin "object.__ne__")))
    (ea1 : PySem.W.notFirst K C1 (.type "tuple") = true)
    (eb1 : PySem.W.notFirst K C1 (.type "str") = true)
    (ei1 : PySem.W.kitOne K (.type "tuple") (.ref C1) = some false)
    (aC13 : PySem.W.nsIn K mainGlobals "BadWeb" = some (some (.ref C13)))
    (xL13 : K.lookup C13 = some (PySem.excClassObj nme13 qne13 C13 NAe13 bse13 [.ref CW, .type "Exception", .type "BaseException", .type "object"] true sne13 sube13 abe13 coe13 dde13 x0e13 x1e13 x2e13 x3e13 x5e13 "Exception.__new__"))
    (sa13 : PySem.W.findIn K (.ref C13) "__setattr__" = some (some (.builtin "object.__setattr__")))
    (eC13 : PySem.W.subIn K (.ref C13) (.type "BaseException") = some true)
    (tC13 : PySem.W.typeIn K (.ref C13) = some (.type "type"))
    (kc13 : PySem.W.keepIn K (.ref C13) = true)
    (ga13 : PySem.W.findIn K (.ref C13) "__getattribute__" = some (some (.builtin "BaseException.__getattribute__")))
    (gg13 : PySem.W.findIn K (.ref C13) "__getattr__" = some none)
    (hd13 : PySem.W.hasDictIn K C13 = true)
    (no13 : PySem.W.findIn K (.ref C13) "part" = some none)
    (xm13_13 : PySem.W.exmOne K (.ref C13) (.ref C13) = some true)
    (aCW : PySem.W.nsIn K mainGlobals "WebError" = some (some (.ref CW)))
    (rdW : PySem.W.readsIn K CW (.type "type") = true)
    (gaW : PySem.W.specialIn K (.ref CW) "__getattribute__" = some (some (.builtin "type.__getattribute__")))
    (inW : PySem.W.findCls K (.ref CW) (.type "type") "__init__" = some (.val (.builtin "Exception.__init__")))
    (a1 : PySem.W.nsIn K mainGlobals "is_atom" = some (some (.ref f1)))
    (l1 : K.lookup f1 = some ⟨oc1, od1, .func (PySem.W.fnOf "is_atom" "is_atom" (defArgs s_is_atom) (defBody s_is_atom) (defScope s_is_atom) .none kV1 dc1 pm1 an1 cd1 ct1), sl1⟩)
    (c1 : PySem.W.codeIn K cd1 "is_atom" = true)
    (k1 : PySem.W.keepIn K (.ref f1) = true)
    (a2 : PySem.W.findIn K (.ref C13) "__init__" = some (some (.ref f2)))
    (i2 : PySem.W.typeIn K (.ref f2) = some (.type "function"))
    (l2 : K.lookup f2 = some ⟨oc2, od2, .func (PySem.W.fnOf "__init__" "BadWeb.__init__" (defArgs s_BadWeb___init__) (defBody s_BadWeb___init__) (defScope s_BadWeb___init__) .none kV2 dc2 pm2 an2 cd2 ct2), sl2⟩)
    (c2 : PySem.W.codeIn K cd2 "BadWeb.__init__" = true)
    (k2 : PySem.W.keepIn K (.ref f2) = true)
    (a3 : PySem.W.nsIn K mainGlobals "is_ascending" = some (some (.ref f3)))
    (l3 : K.lookup f3 = some ⟨oc3, od3, .func (PySem.W.fnOf "is_ascending" "is_ascending" (defArgs s_is_ascending) (defBody s_is_ascending) (defScope s_is_ascending) .none kV3 dc3 pm3 an3 cd3 ct3), sl3⟩)
    (c3 : PySem.W.codeIn K cd3 "is_ascending" = true)
    (k3 : PySem.W.keepIn K (.ref f3) = true)
    (a4 : PySem.W.nsIn K mainGlobals "is_below" = some (some (.ref f4)))
    (l4 : K.lookup f4 = some ⟨oc4, od4, .func (PySem.W.fnOf "is_below" "is_below" (defArgs s_is_below) (defBody s_is_below) (defScope s_is_below) .none kV4 dc4 pm4 an4 cd4 ct4), sl4⟩)
    (c4 : PySem.W.codeIn K cd4 "is_below" = true)
    (k4 : PySem.W.keepIn K (.ref f4) = true)
    (a5 : PySem.W.nsIn K mainGlobals "are_below" = some (some (.ref f5)))
    (l5 : K.lookup f5 = some ⟨oc5, od5, .func (PySem.W.fnOf "are_below" "are_below" (defArgs s_are_below) (defBody s_are_below) (defScope s_are_below) .none kV5 dc5 pm5 an5 cd5 ct5), sl5⟩)
    (c5 : PySem.W.codeIn K cd5 "are_below" = true)
    (k5 : PySem.W.keepIn K (.ref f5) = true)
    (a6 : PySem.W.nsIn K mainGlobals "is_letters" = some (some (.ref f6)))
    (l6 : K.lookup f6 = some ⟨oc6, od6, .func (PySem.W.fnOf "is_letters" "is_letters" (defArgs s_is_letters) (defBody s_is_letters) (defScope s_is_letters) .none kV6 dc6 pm6 an6 cd6 ct6), sl6⟩)
    (c6 : PySem.W.codeIn K cd6 "is_letters" = true)
    (k6 : PySem.W.keepIn K (.ref f6) = true)
    (a7 : PySem.W.nsIn K mainGlobals "are_letters" = some (some (.ref f7)))
    (l7 : K.lookup f7 = some ⟨oc7, od7, .func (PySem.W.fnOf "are_letters" "are_letters" (defArgs s_are_letters) (defBody s_are_letters) (defScope s_are_letters) .none kV7 dc7 pm7 an7 cd7 ct7), sl7⟩)
    (c7 : PySem.W.codeIn K cd7 "are_letters" = true)
    (k7 : PySem.W.keepIn K (.ref f7) = true)
    (a8 : PySem.W.nsIn K mainGlobals "beneath_by" = some (some (.ref f8)))
    (l8 : K.lookup f8 = some ⟨oc8, od8, .func (PySem.W.fnOf "beneath_by" "beneath_by" (defArgs s_beneath_by) (defBody s_beneath_by) (defScope s_beneath_by) .none kV8 dc8 pm8 an8 cd8 ct8), sl8⟩)
    (c8 : PySem.W.codeIn K cd8 "beneath_by" = true)
    (k8 : PySem.W.keepIn K (.ref f8) = true)
    (a9 : PySem.W.nsIn K mainGlobals "heights_by" = some (some (.ref f9)))
    (l9 : K.lookup f9 = some ⟨oc9, od9, .func (PySem.W.fnOf "heights_by" "heights_by" (defArgs s_heights_by) (defBody s_heights_by) (defScope s_heights_by) .none kV9 dc9 pm9 an9 cd9 ct9), sl9⟩)
    (c9 : PySem.W.codeIn K cd9 "heights_by" = true)
    (k9 : PySem.W.keepIn K (.ref f9) = true)
    (a10 : PySem.W.findIn K (.ref C1) "__init__" = some (some (.ref f10)))
    (i10 : PySem.W.isFn K (.ref f10) = true)
    (l10 : K.lookup f10 = some ⟨oc10, od10, .func (PySem.W.fnOf "__init__" "Web.__init__" (defArgs s_Web___init__) (defBody s_Web___init__) (defScope s_Web___init__) .none kV10 dc10 pm10 an10 cd10 ct10), sl10⟩)
    (c10 : PySem.W.codeIn K cd10 "Web.__init__" = true)
    (k10 : PySem.W.keepIn K (.ref f10) = true)
    (a11 : PySem.W.findIn K (.ref C1) "__init__" = some (some (.ref f11)))
    (i11 : PySem.W.isFn K (.ref f11) = true)
    (l11 : K.lookup f11 = some ⟨oc11, od11, .func (PySem.W.fnOf "__init__" "Web.__init__" (defArgs s_Web___init__) (defBody s_Web___init__) (defScope s_Web___init__) .none kV11 dc11 pm11 an11 cd11 ct11), sl11⟩)
    (c11 : PySem.W.codeIn K cd11 "Web.__init__" = true)
    (k11 : PySem.W.keepIn K (.ref f11) = true)
    (a12 : PySem.W.nsIn K mainGlobals "line_of" = some (some (.ref f12)))
    (l12 : K.lookup f12 = some ⟨oc12, od12, .func (PySem.W.fnOf "line_of" "line_of" (defArgs s_line_of) (defBody s_line_of) (defScope s_line_of) .none kV12 dc12 pm12 an12 cd12 ct12), sl12⟩)
    (c12 : PySem.W.codeIn K cd12 "line_of" = true)
    (k12 : PySem.W.keepIn K (.ref f12) = true)
    (a13 : PySem.W.findIn K (.ref C1) "__str__" = some (some (.ref f13)))
    (i13 : PySem.W.isFn K (.ref f13) = true)
    (l13 : K.lookup f13 = some ⟨oc13, od13, .func (PySem.W.fnOf "__str__" "Web.__str__" (defArgs s_Web___str__) (defBody s_Web___str__) (defScope s_Web___str__) .none kV13 dc13 pm13 an13 cd13 ct13), sl13⟩)
    (c13 : PySem.W.codeIn K cd13 "Web.__str__" = true)
    (k13 : PySem.W.keepIn K (.ref f13) = true)
    (a14 : PySem.W.findIn K (.ref C1) "__len__" = some (some (.ref f14)))
    (i14 : PySem.W.isFn K (.ref f14) = true)
    (l14 : K.lookup f14 = some ⟨oc14, od14, .func (PySem.W.fnOf "__len__" "Web.__len__" (defArgs s_Web___len__) (defBody s_Web___len__) (defScope s_Web___len__) .none kV14 dc14 pm14 an14 cd14 ct14), sl14⟩)
    (c14 : PySem.W.codeIn K cd14 "Web.__len__" = true)
    (k14 : PySem.W.keepIn K (.ref f14) = true)
    (a15 : PySem.W.findIn K (.ref C1) "__eq__" = some (some (.ref f15)))
    (i15 : PySem.W.isFn K (.ref f15) = true)
    (l15 : K.lookup f15 = some ⟨oc15, od15, .func (PySem.W.fnOf "__eq__" "Web.__eq__" (defArgs s_Web___eq__) (defBody s_Web___eq__) (defScope s_Web___eq__) .none kV15 dc15 pm15 an15 cd15 ct15), sl15⟩)
    (c15 : PySem.W.codeIn K cd15 "Web.__eq__" = true)
    (k15 : PySem.W.keepIn K (.ref f15) = true)
    (a16 : PySem.W.nsIn K mainGlobals "_law_deck" = some (some (.ref f16)))
    (l16 : K.lookup f16 = some ⟨oc16, od16, .func (PySem.W.fnOf "_law_deck" "_law_deck" (defArgs s_law_deck) (defBody s_law_deck) (defScope s_law_deck) .none kV16 dc16 pm16 an16 cd16 ct16), sl16⟩)
    (c16 : PySem.W.codeIn K cd16 "_law_deck" = true)
    (k16 : PySem.W.keepIn K (.ref f16) = true)
    (a17 : PySem.W.nsIn K mainGlobals "_law_draw" = some (some (.ref f17)))
    (l17 : K.lookup f17 = some ⟨oc17, od17, .func (PySem.W.fnOf "_law_draw" "_law_draw" (defArgs s_law_draw) (defBody s_law_draw) (defScope s_law_draw) .none kV17 dc17 pm17 an17 cd17 ct17), sl17⟩)
    (c17 : PySem.W.codeIn K cd17 "_law_draw" = true)
    (k17 : PySem.W.keepIn K (.ref f17) = true)
    (a18 : PySem.W.nsIn K mainGlobals "_law_pick" = some (some (.ref f18)))
    (l18 : K.lookup f18 = some ⟨oc18, od18, .func (PySem.W.fnOf "_law_pick" "_law_pick" (defArgs s_law_pick) (defBody s_law_pick) (defScope s_law_pick) .none kV18 dc18 pm18 an18 cd18 ct18), sl18⟩)
    (c18 : PySem.W.codeIn K cd18 "_law_pick" = true)
    (k18 : PySem.W.keepIn K (.ref f18) = true)
    (a19 : PySem.W.nsIn K mainGlobals "_law_web" = some (some (.ref f19)))
    (l19 : K.lookup f19 = some ⟨oc19, od19, .func (PySem.W.fnOf "_law_web" "_law_web" (defArgs s_law_web) (defBody s_law_web) (defScope s_law_web) .none kV19 dc19 pm19 an19 cd19 ct19), sl19⟩)
    (c19 : PySem.W.codeIn K cd19 "_law_web" = true)
    (k19 : PySem.W.keepIn K (.ref f19) = true)
    (a20 : PySem.W.nsIn K mainGlobals "_law_is_rising" = some (some (.ref f20)))
    (l20 : K.lookup f20 = some ⟨oc20, od20, .func (PySem.W.fnOf "_law_is_rising" "_law_is_rising" (defArgs s_law_is_rising) (defBody s_law_is_rising) (defScope s_law_is_rising) .none kV20 dc20 pm20 an20 cd20 ct20), sl20⟩)
    (c20 : PySem.W.codeIn K cd20 "_law_is_rising" = true)
    (k20 : PySem.W.keepIn K (.ref f20) = true)
    (a21 : PySem.W.nsIn K mainGlobals "_law_is_row" = some (some (.ref f21)))
    (l21 : K.lookup f21 = some ⟨oc21, od21, .func (PySem.W.fnOf "_law_is_row" "_law_is_row" (defArgs s_law_is_row) (defBody s_law_is_row) (defScope s_law_is_row) .none kV21 dc21 pm21 an21 cd21 ct21), sl21⟩)
    (c21 : PySem.W.codeIn K cd21 "_law_is_row" = true)
    (k21 : PySem.W.keepIn K (.ref f21) = true)
    (a22 : PySem.W.nsIn K mainGlobals "_law_is_letters" = some (some (.ref f22)))
    (l22 : K.lookup f22 = some ⟨oc22, od22, .func (PySem.W.fnOf "_law_is_letters" "_law_is_letters" (defArgs s_law_is_letters) (defBody s_law_is_letters) (defScope s_law_is_letters) .none kV22 dc22 pm22 an22 cd22 ct22), sl22⟩)
    (c22 : PySem.W.codeIn K cd22 "_law_is_letters" = true)
    (k22 : PySem.W.keepIn K (.ref f22) = true)
    (a23 : PySem.W.nsIn K mainGlobals "_law_due" = some (some (.ref f23)))
    (l23 : K.lookup f23 = some ⟨oc23, od23, .func (PySem.W.fnOf "_law_due" "_law_due" (defArgs s_law_due) (defBody s_law_due) (defScope s_law_due) .none kV23 dc23 pm23 an23 cd23 ct23), sl23⟩)
    (c23 : PySem.W.codeIn K cd23 "_law_due" = true)
    (k23 : PySem.W.keepIn K (.ref f23) = true)
    (a24 : PySem.W.nsIn K mainGlobals "_law_odd" = some (some (.ref f24)))
    (l24 : K.lookup f24 = some ⟨oc24, od24, .func (PySem.W.fnOf "_law_odd" "_law_odd" (defArgs s_law_odd) (defBody s_law_odd) (defScope s_law_odd) .none kV24 dc24 pm24 an24 cd24 ct24), sl24⟩)
    (c24 : PySem.W.codeIn K cd24 "_law_odd" = true)
    (k24 : PySem.W.keepIn K (.ref f24) = true)
    (a25 : PySem.W.nsIn K mainGlobals "_law_bent" = some (some (.ref f25)))
    (l25 : K.lookup f25 = some ⟨oc25, od25, .func (PySem.W.fnOf "_law_bent" "_law_bent" (defArgs s_law_bent) (defBody s_law_bent) (defScope s_law_bent) .none kV25 dc25 pm25 an25 cd25 ct25), sl25⟩)
    (c25 : PySem.W.codeIn K cd25 "_law_bent" = true)
    (k25 : PySem.W.keepIn K (.ref f25) = true)
    (a26 : PySem.W.nsIn K mainGlobals "_law_heard" = some (some (.ref f26)))
    (l26 : K.lookup f26 = some ⟨oc26, od26, .func (PySem.W.fnOf "_law_heard" "_law_heard" (defArgs s_law_heard) (defBody s_law_heard) (defScope s_law_heard) .none kV26 dc26 pm26 an26 cd26 ct26), sl26⟩)
    (c26 : PySem.W.codeIn K cd26 "_law_heard" = true)
    (k26 : PySem.W.keepIn K (.ref f26) = true)
    (a27 : PySem.W.nsIn K mainGlobals "_law_right" = some (some (.ref f27)))
    (l27 : K.lookup f27 = some ⟨oc27, od27, .func (PySem.W.fnOf "_law_right" "_law_right" (defArgs s_law_right) (defBody s_law_right) (defScope s_law_right) .none kV27 dc27 pm27 an27 cd27 ct27), sl27⟩)
    (c27 : PySem.W.codeIn K cd27 "_law_right" = true)
    (k27 : PySem.W.keepIn K (.ref f27) = true)
    (a28 : PySem.W.nsIn K mainGlobals "law" = some (some (.ref f28)))
    (l28 : K.lookup f28 = some ⟨oc28, od28, .func (PySem.W.fnOf "law" "law" (defArgs s_law) (defBody s_law) (defScope s_law) .none kV28 dc28 pm28 an28 cd28 ct28), sl28⟩)
    (c28 : PySem.W.codeIn K cd28 "law" = true)
    (k28 : PySem.W.keepIn K (.ref f28) = true) :
    FnG P w K mg base 13 fa (spTop K) := by
  let cl : Nat → Addr := fun i => if i = 0 then C0 else if i = 1 then C1 else C13
  have B : Blt mg := ⟨PySem.W.mg_none_of X G z0, PySem.W.mg_none_of X G z1, PySem.W.mg_none_of X G z2, PySem.W.mg_none_of X G z3, PySem.W.mg_none_of X G z4, PySem.W.mg_none_of X G z5, PySem.W.mg_none_of X G z6, PySem.W.mg_none_of X G z7, PySem.W.mg_none_of X G z8, PySem.W.mg_none_of X G z9, PySem.W.mg_none_of X G z10, PySem.W.mg_none_of X G z11, PySem.W.mg_none_of X G z12, PySem.W.mg_none_of X G z13, PySem.W.mg_none_of X G z14, PySem.W.mg_none_of X G z15, PySem.W.mg_none_of X G z16, PySem.W.mg_none_of X G z17, PySem.W.mg_none_of X G z18, PySem.W.mg_none_of X G z19, PySem.W.mg_none_of X G z20⟩
  have cz0 : CZ K C0 fmNames := ⟨⟨pg0, hd0, po0, sa0⟩, fun n hn => by
    simp only [fmNames, List.mem_cons, List.not_mem_nil, or_false] at hn
    rcases hn with e | e | e | e | e | e | e | e
    · rw [e]; exact n0_0
    · rw [e]; exact n0_1
    · rw [e]; exact n0_2
    · rw [e]; exact n0_3
    · rw [e]; exact n0_4
    · rw [e]; exact n0_5
    · rw [e]; exact n0_6
    · rw [e]; exact n0_7, ⟨⟨pg0, hd0, po0, sa0⟩, ha0, hn0, htk0, hmo0, me0⟩, sf0, is0⟩
  have cz1 : CZ K C1 wbNames := ⟨⟨pg1, hd1, po1, sa1⟩, fun n hn => by
    simp only [wbNames, List.mem_cons, List.not_mem_nil, or_false] at hn
    rcases hn with e | e | e | e
    · rw [e]; exact n1_0
    · rw [e]; exact n1_1
    · rw [e]; exact n1_2
    · rw [e]; exact n1_3, ⟨⟨pg1, hd1, po1, sa1⟩, ha1, hn1, htk1, hmo1, me1⟩, sf1, is1⟩
  have ec13 : ErC K C13 "part" := ⟨⟨⟨_, _, _, _, _, _, _, _, _, _, _, _, _, _, _, xL13, rfl⟩, sa13, eC13, tC13, kc13⟩, ⟨ga13, gg13, eC13, hd13⟩, no13⟩
  have bw : BaseX K CW := ⟨⟨rdW, gaW⟩, inW⟩
  have gw := PySem.W.mg_of X G aCW
  have Z : ZZ K w mg cl := ⟨⟨_, PySem.W.mg_of X G s0, _, rfl⟩, ⟨_, PySem.W.mg_of X G s1, _, rfl⟩, ⟨_, PySem.W.mg_of X G s2, _, rfl⟩, ⟨_, PySem.W.mg_of X G s3, _, rfl⟩, ⟨_, PySem.W.mg_of X G s4, _, rfl⟩, dd5, es5, en5, PySem.W.mg_of X G aP5, ⟨lP5, lit5, low5⟩, ⟨_, p5_0⟩, ⟨_, p5_1⟩, ⟨_, p5_2⟩, ⟨_, p5_3⟩, ⟨_, PySem.W.mg_of X G s6, _, rfl⟩, ⟨_, PySem.W.mg_of X G s7, _, rfl⟩, ⟨_, PySem.W.mg_of X G s8, _, rfl⟩, ⟨_, PySem.W.mg_of X G s9, _, rfl⟩, ⟨_, PySem.W.mg_of X G s10, _, rfl⟩, ⟨_, PySem.W.mg_of X G s11, _, rfl⟩, PySem.W.mg_of X G aC0, cz0, PySem.W.mg_of X G aC1, cz1, ⟨ne1, hmo1⟩, ⟨ea1, eb1, ei1⟩, PySem.W.mg_of X G aC13, ec13, xm13_13⟩
  have F1 := fun_mk (st := s_is_atom) l1 c1 k1
  have q_c_is_atom := c_is_atom (P := P) (base := base) (cl := cl) (PySem.W.mg_of X G a1) B Z F1 
  have F2 := fun_mk (st := s_BadWeb___init__) l2 c2 k2
  have q_e_BadWeb := e_BadWeb (P := P) (base := base) (cl := cl) a2 i2 bw gw Z F2
  have F3 := fun_mk (st := s_is_ascending) l3 c3 k3
  have q_c_is_ascending := c_is_ascending (P := P) (base := base) (cl := cl) (PySem.W.mg_of X G a3) B Z F3 
  have F4 := fun_mk (st := s_is_below) l4 c4 k4
  have q_c_is_below := c_is_below (P := P) (base := base) (cl := cl) (PySem.W.mg_of X G a4) B Z F4 q_c_is_ascending
  have F5 := fun_mk (st := s_are_below) l5 c5 k5
  have q_c_are_below := c_are_below (P := P) (base := base) (cl := cl) (PySem.W.mg_of X G a5) B Z F5 q_c_is_below
  have F6 := fun_mk (st := s_is_letters) l6 c6 k6
  have q_c_is_letters := c_is_letters (P := P) (base := base) (cl := cl) (PySem.W.mg_of X G a6) B Z F6 q_c_is_atom q_c_is_ascending
  have F7 := fun_mk (st := s_are_letters) l7 c7 k7
  have q_c_are_letters := c_are_letters (P := P) (base := base) (cl := cl) (PySem.W.mg_of X G a7) B Z F7 q_c_is_letters
  have F8 := fun_mk (st := s_beneath_by) l8 c8 k8
  have q_c_beneath_by := c_beneath_by (P := P) (base := base) (cl := cl) (PySem.W.mg_of X G a8) B Z F8 
  have F9 := fun_mk (st := s_heights_by) l9 c9 k9
  have q_c_heights_by := c_heights_by (P := P) (base := base) (cl := cl) (PySem.W.mg_of X G a9) B Z F9 
  have F10 := fun_mk (st := s_Web___init__) l10 c10 k10
  have q_m_Web := m_Web (P := P) (base := base) (cl := cl) ⟨mk1, a10, i10, kc1⟩ B Z F10 q_c_are_below q_c_are_letters q_c_beneath_by q_c_heights_by
  have F11 := fun_mk (st := s_Web___init__) l11 c11 k11
  have q_mx_Web := mx_Web (P := P) (base := base) (cl := cl) ⟨mk1, a11, i11, kc1⟩ B Z F11 q_c_are_below q_c_are_letters q_c_beneath_by q_c_heights_by q_e_BadWeb
  have F12 := fun_mk (st := s_line_of) l12 c12 k12
  have q_c_line_of := c_line_of (P := P) (base := base) (cl := cl) (PySem.W.mg_of X G a12) B Z F12 
  have F13 := fun_mk (st := s_Web___str__) l13 c13 k13
  have q_o_str1 := o_str1 (P := P) (base := base) (cl := cl) ⟨a13, i13⟩ B Z F13 q_c_line_of
  have F14 := fun_mk (st := s_Web___len__) l14 c14 k14
  have q_o_len1 := o_len1 (P := P) (base := base) (cl := cl) ⟨a14, i14⟩ B Z F14 
  have F15 := fun_mk (st := s_Web___eq__) l15 c15 k15
  have q_o_eq1 := o_eq1 (P := P) (base := base) (cl := cl) ⟨a15, i15⟩ B Z F15 
  have F16 := fun_mk (st := s_law_deck) l16 c16 k16
  have q_c_law_deck := c_law_deck (P := P) (base := base) (cl := cl) (PySem.W.mg_of X G a16) B Z F16 
  have F17 := fun_mk (st := s_law_draw) l17 c17 k17
  have q_c_law_draw := c_law_draw (P := P) (base := base) (cl := cl) (PySem.W.mg_of X G a17) B Z F17 
  have F18 := fun_mk (st := s_law_pick) l18 c18 k18
  have q_c_law_pick := c_law_pick (P := P) (base := base) (cl := cl) (PySem.W.mg_of X G a18) B Z F18 q_c_law_draw
  have F19 := fun_mk (st := s_law_web) l19 c19 k19
  have q_c_law_web := c_law_web (P := P) (base := base) (cl := cl) (PySem.W.mg_of X G a19) B Z F19 q_c_law_draw
  have F20 := fun_mk (st := s_law_is_rising) l20 c20 k20
  have q_c_law_is_rising := c_law_is_rising (P := P) (base := base) (cl := cl) (PySem.W.mg_of X G a20) B Z F20 
  have F21 := fun_mk (st := s_law_is_row) l21 c21 k21
  have q_c_law_is_row := c_law_is_row (P := P) (base := base) (cl := cl) (PySem.W.mg_of X G a21) B Z F21 q_c_law_is_rising
  have F22 := fun_mk (st := s_law_is_letters) l22 c22 k22
  have q_c_law_is_letters := c_law_is_letters (P := P) (base := base) (cl := cl) (PySem.W.mg_of X G a22) B Z F22 q_c_law_is_rising
  have F23 := fun_mk (st := s_law_due) l23 c23 k23
  have q_c_law_due := c_law_due (P := P) (base := base) (cl := cl) (PySem.W.mg_of X G a23) B Z F23 q_c_law_is_row q_c_law_is_letters
  have F24 := fun_mk (st := s_law_odd) l24 c24 k24
  have q_c_law_odd := c_law_odd (P := P) (base := base) (cl := cl) (PySem.W.mg_of X G a24) B Z F24 q_c_law_pick
  have F25 := fun_mk (st := s_law_bent) l25 c25 k25
  have q_c_law_bent := c_law_bent (P := P) (base := base) (cl := cl) (PySem.W.mg_of X G a25) B Z F25 q_c_law_draw q_c_law_pick q_c_law_odd
  have F26 := fun_mk (st := s_law_heard) l26 c26 k26
  have q_c_law_heard := c_law_heard (P := P) (base := base) (cl := cl) (PySem.W.mg_of X G a26) B Z F26 q_mx_Web q_o_len1
  have F27 := fun_mk (st := s_law_right) l27 c27 k27
  have q_c_law_right := c_law_right (P := P) (base := base) (cl := cl) (PySem.W.mg_of X G a27) B Z F27 q_c_law_due q_c_law_heard
  have F28 := fun_mk (st := s_law) l28 c28 k28
  have q_c_law := c_law (P := P) (base := base) (cl := cl) (PySem.W.mg_of X G a28) B Z F28 q_c_law_deck q_c_law_pick q_c_law_draw q_c_law_web q_c_law_odd (q_c_law_bent 8) q_c_law_right q_m_Web q_o_eq1 q_o_str1
  obtain ⟨f, hf, hm, _⟩ := q_c_law.ex
  have e := hfa.symm.trans hm
  cases e
  exact fun A outer s H us vs Q hg hr e0 r hsp => hf A outer s H us vs Q hg hr e0 r (top_sp hsp)
end N
open PySem PySem.W PyProof.Rows
set_option maxRecDepth 100000 in
set_option maxHeartbeats 0 in
theorem PySem.Challenge.cw_allbeneath_k08_webs_of_any_values_holds : PySem.Challenge.rw_allbeneath_k08_webs_of_any_values.Holds := by
  w_on; o_law; k_head; (case hw => w_witness2)
  k_fill
  refine N.walkG (l := PySem.Challenge.rw_allbeneath_k08_webs_of_any_values) (n := 63) (k := 13) (sp := N.spTop) rfl (by decide) rfl ?hr (fun w h Y => PySem.W.kIn_of Y) ?F ?G
  case hr => exact ⟨rfl, by decide, by decide⟩
  case G => exact fun K H a ns hl _ hS => ⟨a, ns, rfl, hS, hl, fun _ => rfl⟩
  case F =>
    intro w mg fa h KX G hmg base KB GB
    refine' N.all_mk KX G hmg (rfl : w = w) ?z0 ?z1 ?z2 ?z3 ?z4 ?z5 ?z6 ?z7 ?z8 ?z9 ?z10 ?z11 ?z12 ?z13 ?z14 ?z15 ?z16 ?z17 ?z18 ?z19 ?z20 ?s0 ?s1 ?s2 ?s3 ?s4 ?aP5 ?lP5 ?lit5 ?low5 ?p5_0 ?p5_1 ?p5_2 ?p5_3 ?s6 ?s7 ?s8 ?s9 ?s10 ?s11 ?aC0 ?pg0 ?hd0 ?po0 ?sa0 ?mk0 ?kc0 ?n0_0 ?n0_1 ?n0_2 ?n0_3 ?n0_4 ?n0_5 ?n0_6 ?n0_7 ?ha0 ?hn0 ?htk0 ?hmo0 ?me0 ?sf0 ?is0 ?aC1 ?pg1 ?hd1 ?po1 ?sa1 ?mk1 ?kc1 ?n1_0 ?n1_1 ?n1_2 ?n1_3 ?ha1 ?hn1 ?htk1 ?hmo1 ?me1 ?sf1 ?is1 ?ne1 ?ea1 ?eb1 ?ei1 ?aC13 ?xL13 ?sa13 ?eC13 ?tC13 ?kc13 ?ga13 ?gg13 ?hd13 ?no13 ?xm13_13 ?aCW ?rdW ?gaW ?inW ?a1 ?l1 ?c1 ?k1 ?a2 ?i2 ?l2 ?c2 ?k2 ?a3 ?l3 ?c3 ?k3 ?a4 ?l4 ?c4 ?k4 ?a5 ?l5 ?c5 ?k5 ?a6 ?l6 ?c6 ?k6 ?a7 ?l7 ?c7 ?k7 ?a8 ?l8 ?c8 ?k8 ?a9 ?l9 ?c9 ?k9 ?a10 ?i10 ?l10 ?c10 ?k10 ?a11 ?i11 ?l11 ?c11 ?k11 ?a12 ?l12 ?c12 ?k12 ?a13 ?i13 ?l13 ?c13 ?k13 ?a14 ?i14 ?l14 ?c14 ?k14 ?a15 ?i15 ?l15 ?c15 ?k15 ?a16 ?l16 ?c16 ?k16 ?a17 ?l17 ?c17 ?k17 ?a18 ?l18 ?c18 ?k18 ?a19 ?l19 ?c19 ?k19 ?a20 ?l20 ?c20 ?k20 ?a21 ?l21 ?c21 ?k21 ?a22 ?l22 ?c22 ?k22 ?a23 ?l23 ?c23 ?k23 ?a24 ?l24 ?c24 ?k24 ?a25 ?l25 ?c25 ?k25 ?a26 ?l26 ?c26 ?k26 ?a27 ?l27 ?c27 ?k27 ?a28 ?l28 ?c28 ?k28
    (case z0 => first | k_is | rfl | decide)
    (case z1 => first | k_is | rfl | decide)
    (case z2 => first | k_is | rfl | decide)
    (case z3 => first | k_is | rfl | decide)
    (case z4 => first | k_is | rfl | decide)
    (case z5 => first | k_is | rfl | decide)
    (case z6 => first | k_is | rfl | decide)
    (case z7 => first | k_is | rfl | decide)
    (case z8 => first | k_is | rfl | decide)
    (case z9 => first | k_is | rfl | decide)
    (case z10 => first | k_is | rfl | decide)
    (case z11 => first | k_is | rfl | decide)
    (case z12 => first | k_is | rfl | decide)
    (case z13 => first | k_is | rfl | decide)
    (case z14 => first | k_is | rfl | decide)
    (case z15 => first | k_is | rfl | decide)
    (case z16 => first | k_is | rfl | decide)
    (case z17 => first | k_is | rfl | decide)
    (case z18 => first | k_is | rfl | decide)
    (case z19 => first | k_is | rfl | decide)
    (case z20 => first | k_is | rfl | decide)
    (case s0 => first | k_is | rfl | decide)
    (case s1 => first | k_is | rfl | decide)
    (case s2 => first | k_is | rfl | decide)
    (case s3 => first | k_is | rfl | decide)
    (case s4 => first | k_is | rfl | decide)
    (case aP5 => first | k_is | rfl | decide)
    (case lP5 => first | k_is | rfl | decide)
    (case lit5 => exact ⟨⟨_, _, rfl, rfl⟩, ⟨_, _, rfl, rfl⟩, ⟨_, _, rfl, rfl⟩, ⟨_, _, rfl, rfl⟩, trivial⟩)
    (case low5 => first | k_is | rfl | decide)
    (case p5_0 => first | k_is | rfl | decide)
    (case p5_1 => first | k_is | rfl | decide)
    (case p5_2 => first | k_is | rfl | decide)
    (case p5_3 => first | k_is | rfl | decide)
    (case s6 => first | k_is | rfl | decide)
    (case s7 => first | k_is | rfl | decide)
    (case s8 => first | k_is | rfl | decide)
    (case s9 => first | k_is | rfl | decide)
    (case s10 => first | k_is | rfl | decide)
    (case s11 => first | k_is | rfl | decide)
    (case aC0 => first | k_is | rfl | decide)
    (case pg0 => first | k_is | rfl | decide)
    (case hd0 => first | k_is | rfl | decide)
    (case po0 => first | k_is | rfl | decide)
    (case sa0 => first | k_is | rfl | decide)
    (case mk0 => first | k_is | rfl | decide)
    (case kc0 => first | k_is | rfl | decide)
    (case n0_0 => first | k_is | rfl | decide)
    (case n0_1 => first | k_is | rfl | decide)
    (case n0_2 => first | k_is | rfl | decide)
    (case n0_3 => first | k_is | rfl | decide)
    (case n0_4 => first | k_is | rfl | decide)
    (case n0_5 => first | k_is | rfl | decide)
    (case n0_6 => first | k_is | rfl | decide)
    (case n0_7 => first | k_is | rfl | decide)
    (case ha0 => first | k_is | rfl | decide)
    (case hn0 => first | k_is | rfl | decide)
    (case htk0 => first | k_is | rfl | decide)
    (case hmo0 => first | k_is | rfl | decide)
    (case me0 => first | k_is | rfl | decide)
    (case sf0 => first | k_is | rfl | decide)
    (case is0 => first | k_is | rfl | decide)
    (case aC1 => first | k_is | rfl | decide)
    (case pg1 => first | k_is | rfl | decide)
    (case hd1 => first | k_is | rfl | decide)
    (case po1 => first | k_is | rfl | decide)
    (case sa1 => first | k_is | rfl | decide)
    (case mk1 => first | k_is | rfl | decide)
    (case kc1 => first | k_is | rfl | decide)
    (case n1_0 => first | k_is | rfl | decide)
    (case n1_1 => first | k_is | rfl | decide)
    (case n1_2 => first | k_is | rfl | decide)
    (case n1_3 => first | k_is | rfl | decide)
    (case ha1 => first | k_is | rfl | decide)
    (case hn1 => first | k_is | rfl | decide)
    (case htk1 => first | k_is | rfl | decide)
    (case hmo1 => first | k_is | rfl | decide)
    (case me1 => first | k_is | rfl | decide)
    (case sf1 => first | k_is | rfl | decide)
    (case is1 => first | k_is | rfl | decide)
    (case ne1 => first | k_is | rfl | decide)
    (case ea1 => first | k_is | rfl | decide)
    (case eb1 => first | k_is | rfl | decide)
    (case ei1 => first | k_is | rfl | decide)
    (case aC13 => first | k_is | rfl | decide)
    (case xL13 => first | k_is | rfl | decide)
    (case sa13 => first | k_is | rfl | decide)
    (case eC13 => first | k_is | rfl | decide)
    (case tC13 => first | k_is | rfl | decide)
    (case kc13 => first | k_is | rfl | decide)
    (case ga13 => first | k_is | rfl | decide)
    (case gg13 => first | k_is | rfl | decide)
    (case hd13 => first | k_is | rfl | decide)
    (case no13 => first | k_is | rfl | decide)
    (case xm13_13 => first | k_is | rfl | decide)
    (case aCW => first | k_is | rfl | decide)
    (case rdW => first | k_is | rfl | decide)
    (case gaW => first | k_is | rfl | decide)
    (case inW => first | k_is | rfl | decide)
    (case a1 => first | k_is | rfl | decide)
    (case l1 => first | k_is | rfl | decide)
    (case c1 => first | k_is | rfl | decide)
    (case k1 => first | k_is | rfl | decide)
    (case a2 => first | k_is | rfl | decide)
    (case i2 => first | k_is | rfl | decide)
    (case l2 => first | k_is | rfl | decide)
    (case c2 => first | k_is | rfl | decide)
    (case k2 => first | k_is | rfl | decide)
    (case a3 => first | k_is | rfl | decide)
    (case l3 => first | k_is | rfl | decide)
    (case c3 => first | k_is | rfl | decide)
    (case k3 => first | k_is | rfl | decide)
    (case a4 => first | k_is | rfl | decide)
    (case l4 => first | k_is | rfl | decide)
    (case c4 => first | k_is | rfl | decide)
    (case k4 => first | k_is | rfl | decide)
    (case a5 => first | k_is | rfl | decide)
    (case l5 => first | k_is | rfl | decide)
    (case c5 => first | k_is | rfl | decide)
    (case k5 => first | k_is | rfl | decide)
    (case a6 => first | k_is | rfl | decide)
    (case l6 => first | k_is | rfl | decide)
    (case c6 => first | k_is | rfl | decide)
    (case k6 => first | k_is | rfl | decide)
    (case a7 => first | k_is | rfl | decide)
    (case l7 => first | k_is | rfl | decide)
    (case c7 => first | k_is | rfl | decide)
    (case k7 => first | k_is | rfl | decide)
    (case a8 => first | k_is | rfl | decide)
    (case l8 => first | k_is | rfl | decide)
    (case c8 => first | k_is | rfl | decide)
    (case k8 => first | k_is | rfl | decide)
    (case a9 => first | k_is | rfl | decide)
    (case l9 => first | k_is | rfl | decide)
    (case c9 => first | k_is | rfl | decide)
    (case k9 => first | k_is | rfl | decide)
    (case a10 => first | k_is | rfl | decide)
    (case i10 => first | k_is | rfl | decide)
    (case l10 => first | k_is | rfl | decide)
    (case c10 => first | k_is | rfl | decide)
    (case k10 => first | k_is | rfl | decide)
    (case a11 => first | k_is | rfl | decide)
    (case i11 => first | k_is | rfl | decide)
    (case l11 => first | k_is | rfl | decide)
    (case c11 => first | k_is | rfl | decide)
    (case k11 => first | k_is | rfl | decide)
    (case a12 => first | k_is | rfl | decide)
    (case l12 => first | k_is | rfl | decide)
    (case c12 => first | k_is | rfl | decide)
    (case k12 => first | k_is | rfl | decide)
    (case a13 => first | k_is | rfl | decide)
    (case i13 => first | k_is | rfl | decide)
    (case l13 => first | k_is | rfl | decide)
    (case c13 => first | k_is | rfl | decide)
    (case k13 => first | k_is | rfl | decide)
    (case a14 => first | k_is | rfl | decide)
    (case i14 => first | k_is | rfl | decide)
    (case l14 => first | k_is | rfl | decide)
    (case c14 => first | k_is | rfl | decide)
    (case k14 => first | k_is | rfl | decide)
    (case a15 => first | k_is | rfl | decide)
    (case i15 => first | k_is | rfl | decide)
    (case l15 => first | k_is | rfl | decide)
    (case c15 => first | k_is | rfl | decide)
    (case k15 => first | k_is | rfl | decide)
    (case a16 => first | k_is | rfl | decide)
    (case l16 => first | k_is | rfl | decide)
    (case c16 => first | k_is | rfl | decide)
    (case k16 => first | k_is | rfl | decide)
    (case a17 => first | k_is | rfl | decide)
    (case l17 => first | k_is | rfl | decide)
    (case c17 => first | k_is | rfl | decide)
    (case k17 => first | k_is | rfl | decide)
    (case a18 => first | k_is | rfl | decide)
    (case l18 => first | k_is | rfl | decide)
    (case c18 => first | k_is | rfl | decide)
    (case k18 => first | k_is | rfl | decide)
    (case a19 => first | k_is | rfl | decide)
    (case l19 => first | k_is | rfl | decide)
    (case c19 => first | k_is | rfl | decide)
    (case k19 => first | k_is | rfl | decide)
    (case a20 => first | k_is | rfl | decide)
    (case l20 => first | k_is | rfl | decide)
    (case c20 => first | k_is | rfl | decide)
    (case k20 => first | k_is | rfl | decide)
    (case a21 => first | k_is | rfl | decide)
    (case l21 => first | k_is | rfl | decide)
    (case c21 => first | k_is | rfl | decide)
    (case k21 => first | k_is | rfl | decide)
    (case a22 => first | k_is | rfl | decide)
    (case l22 => first | k_is | rfl | decide)
    (case c22 => first | k_is | rfl | decide)
    (case k22 => first | k_is | rfl | decide)
    (case a23 => first | k_is | rfl | decide)
    (case l23 => first | k_is | rfl | decide)
    (case c23 => first | k_is | rfl | decide)
    (case k23 => first | k_is | rfl | decide)
    (case a24 => first | k_is | rfl | decide)
    (case l24 => first | k_is | rfl | decide)
    (case c24 => first | k_is | rfl | decide)
    (case k24 => first | k_is | rfl | decide)
    (case a25 => first | k_is | rfl | decide)
    (case l25 => first | k_is | rfl | decide)
    (case c25 => first | k_is | rfl | decide)
    (case k25 => first | k_is | rfl | decide)
    (case a26 => first | k_is | rfl | decide)
    (case l26 => first | k_is | rfl | decide)
    (case c26 => first | k_is | rfl | decide)
    (case k26 => first | k_is | rfl | decide)
    (case a27 => first | k_is | rfl | decide)
    (case l27 => first | k_is | rfl | decide)
    (case c27 => first | k_is | rfl | decide)
    (case k27 => first | k_is | rfl | decide)
    (case a28 => first | k_is | rfl | decide)
    (case l28 => first | k_is | rfl | decide)
    (case c28 => first | k_is | rfl | decide)
    (case k28 => first | k_is | rfl | decide)
