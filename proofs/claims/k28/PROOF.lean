import PyProof.Rows.All
import Wide.All
import OpenK.AllK
import Wide.FinOn
import HandS.ForMost
import HandS.DictComp
import HandS.FStr
import HandS.Star
import HandS.Property
import HandS.TupAny
import HandS.Codes
import HandS.More
import HandS.Conv
import HandS.Strs
import HandS.Style
import HandS.IsInst
import HandS.Defaults
import HandS.Flow
import HandS.MakeKwOnly
import HandS.SortKw
import HandS.WrittenGet
import HandS.MethStar
import KE.KOpsOwn
import KE.KCallOwn
import OpenK.KOps
import KE.DatumIndex
import PyProof.ReprRoads
import PyProof.ReprBulk
import HandS.RaiseMore
import PyProof.Rows.StrMeet
import KE.KEqDict
import HandS.SetFor
import PyProof.Rows.RegFStrParts
import PySem.Challenge.RW_allbeneath_k28_great_heights
set_option Elab.async false
set_option linter.all false
set_option maxRecDepth 100000
/-! A logic of plain data over the hand layer: values as trees, owned cells apart. -/
namespace N
open PySem L2

/-- formulas -/
inductive Fm where
  | at (c : Nat) | no | imp (a b : Fm) | all (a : Fm)
  deriving DecidableEq

/-- plain data -/
inductive D where
  | vl (v : V)
  | tup (l : List D)
  | lst (l : List D)
  | dct (ks : List Key) (l : List D)
  | obj (c : Nat) (ns : List Str) (l : List D)
  | fm (f : Fm)
@[reducible] def D.int (i : Int) : D := .vl (.int i)
@[reducible] def D.bl (b : Bool) : D := .vl (.bl b)
@[reducible] def D.str (s : Str) : D := .vl (.str s)
@[reducible] def D.non : D := .vl .non
@[reducible] def D.adr (a : Addr) : D := .vl (.ref a)

/-- the module's written part, the classes' places -/
structure Kx where
  K : PySem.W.Frag
  cl : Nat → Addr

/-! ### formulas in the heap -/
/-- what is kept of a formula: filled in by the texts that speak of formulas -/
structure FmKit where
  kind : Fm → Str
  many : Fm → Int
  deep : Fm → Int
  atoms : Fm → Str
  bare : Fm → Str
  spell : Fm → Str
  alls : Fm → List Fm

def AllR (R : Addr → Fm → Prop) : List Addr → List Fm → Prop
  | [], fs => fs = []
  | a :: as, fs => ∃ f r, fs = f :: r ∧ R a f ∧ AllR R as r
theorem AllR.imp {R S : Addr → Fm → Prop} (h : ∀ a f, R a f → S a f) : ∀ {as : List Addr} {fs : List Fm}, AllR R as fs → AllR S as fs
  | [], _, e => e
  | _ :: _, _, ⟨f, r, e, x, t⟩ => ⟨f, r, e, h _ _ x, AllR.imp h t⟩
def PartsR (R : Addr → Fm → Prop) : Fm → List V → Prop
  | .at c, ps => ps = [.str ⟨#[c]⟩]
  | .no, ps => ps = []
  | .imp a b, ps => ∃ p q, ps = [.ref p, .ref q] ∧ R p a ∧ R q b
  | .all a, ps => ∃ p, ps = [.ref p] ∧ R p a
theorem PartsR.imp {R S : Addr → Fm → Prop} (h : ∀ a f, R a f → S a f) : ∀ {f : Fm} {ps : List V}, PartsR R f ps → PartsR S f ps
  | .at _, _, e => e
  | .no, _, e => e
  | .imp _ _, _, ⟨p, q, e, x, y⟩ => ⟨p, q, e, h _ _ x, h _ _ y⟩
  | .all _, _, ⟨p, e, x⟩ => ⟨p, e, h _ _ x⟩

section
variable (F : FmKit) (T : Kx)
def fmNames : List Str := ["kind", "parts", "many", "deepest", "atoms", "bare", "spelled", "alls_known"]
def fmFields (f : Fm) (pa al : Addr) : List (Str × V) :=
  [("kind", .str (F.kind f)), ("parts", .ref pa), ("many", .int (F.many f)), ("deepest", .int (F.deep f)), ("atoms", .str (F.atoms f)), ("bare", .str (F.bare f)), ("spelled", .str (F.spell f)), ("alls_known", .ref al)]
def FStep (H : Hp) (R : Addr → Fm → Prop) (a : Addr) (f : Fm) : Prop :=
  ∃ dx pa ps al as, H a = some (.ins (T.cl 0) dx (fmFields F f pa al)) ∧ SqT T.K H pa ps ∧ PartsR R f ps ∧ SqT T.K H al (as.map V.ref) ∧ AllR R as (F.alls f)
def FormAt (H : Hp) (a : Addr) (f : Fm) : Prop := ∃ R : Addr → Fm → Prop, (∀ b g, R b g → FStep F T H R b g) ∧ R a f
end

theorem Same.sqT {K : PySem.W.Frag} {H H' : Hp} {a : Addr} {xs : List V} (e : Same H H') (h : SqT K H a xs) : SqT K H' a xs := by
  rcases h with (h | ⟨o, h⟩) | h
  · exact .inl (.inl (e _ _ h))
  · exact .inl (.inr ⟨o, e _ _ h⟩)
  · exact .inr h
section
variable {F : FmKit} {T : Kx} {H H' : Hp} {R S : Addr → Fm → Prop} {a : Addr} {f : Fm}
theorem FStep.imp (h : ∀ a f, R a f → S a f) (e : Same H H') (x : FStep F T H R a f) : FStep F T H' S a f := by
  obtain ⟨dx, pa, ps, al, as, h1, h2, h3, h4, h5⟩ := x
  exact ⟨dx, pa, ps, al, as, e _ _ h1, Same.sqT e h2, h3.imp h, Same.sqT e h4, h5.imp h⟩
theorem FormAt.mono (e : Same H H') (x : FormAt F T H a f) : FormAt F T H' a f := by
  obtain ⟨R, h, r⟩ := x
  exact ⟨R, fun b g y => (h b g y).imp (fun _ _ z => z) e, r⟩
theorem FormAt.out (x : FormAt F T H a f) : FStep F T H (FormAt F T H) a f := by
  obtain ⟨R, h, r⟩ := x
  exact (h a f r).imp (fun b g y => ⟨R, h, y⟩) (Same.refl _)
theorem FormAt.mk (x : FStep F T H (fun b g => FormAt F T H b g ∨ (b = a ∧ g = f)) a f) : FormAt F T H a f := by
  refine ⟨fun b g => FormAt F T H b g ∨ (b = a ∧ g = f), fun b g y => ?_, .inr ⟨rfl, rfl⟩⟩
  rcases y with y | ⟨rfl, rfl⟩
  · exact y.out.imp (fun _ _ z => .inl z) (Same.refl _)
  · exact x
end

/-! ### what a datum says of a value -/
section
variable (F : FmKit) (T : Kx) (H : Hp)
mutual
def Den : D → V → Prop
  | .vl w, v => v = w
  | .tup l, v => ∃ a xs, v = .ref a ∧ SqT T.K H a xs ∧ DenL l xs
  | .lst l, v => ∃ a xs, v = .ref a ∧ SqL T.K H a xs ∧ DenL l xs
  | .dct ks l, v => ∃ a kvs, v = .ref a ∧ H a = some (.dK kvs) ∧ kvs.map (·.1) = ks ∧ ks.Nodup ∧ DenL l (kvs.map (·.2))
  | .obj c ns l, v => ∃ a dx fs, v = .ref a ∧ H a = some (.ins (T.cl c) dx fs) ∧ fs.map (·.1) = ns ∧ DenL l (fs.map (·.2))
  | .fm f, v => ∃ a, v = .ref a ∧ FormAt F T H a f
def DenL : List D → List V → Prop
  | [], vs => vs = []
  | d :: l, vs => ∃ v r, vs = v :: r ∧ Den d v ∧ DenL l r
end
end

section
variable {F : FmKit} {T : Kx} {H H' : Hp}
mutual
theorem Den.mono (e : Same H H') : ∀ (d : D) (v : V), Den F T H d v → Den F T H' d v
  | .vl _, _, h => h
  | .tup l, _, ⟨a, xs, h1, h2, h3⟩ => ⟨a, xs, h1, Same.sqT e h2, DenL.mono e l xs h3⟩
  | .lst l, _, ⟨a, xs, h1, h2, h3⟩ => ⟨a, xs, h1, e.seq h2, DenL.mono e l xs h3⟩
  | .dct ks l, _, ⟨a, kvs, h1, h2, h3, h4, h5⟩ => ⟨a, kvs, h1, e _ _ h2, h3, h4, DenL.mono e l _ h5⟩
  | .obj c ns l, _, ⟨a, dx, fs, h1, h2, h3, h4⟩ => ⟨a, dx, fs, h1, e _ _ h2, h3, DenL.mono e l _ h4⟩
  | .fm f, _, ⟨a, h1, h2⟩ => ⟨a, h1, h2.mono e⟩
theorem DenL.mono (e : Same H H') : ∀ (l : List D) (vs : List V), DenL F T H l vs → DenL F T H' l vs
  | [], _, h => h
  | d :: l, _, ⟨v, r, h1, h2, h3⟩ => ⟨v, r, h1, Den.mono e d v h2, DenL.mono e l r h3⟩
end
theorem DenL.len : ∀ {l : List D} {vs : List V}, DenL F T H l vs → vs.length = l.length
  | [], _, h => by
    have h : _ = [] := h
    rw [h]
    rfl
  | d :: l, _, ⟨v, r, h1, _, h3⟩ => by
    rw [h1, List.length_cons, List.length_cons, DenL.len h3]
theorem DenL.get : ∀ {l : List D} {vs : List V} {i : Nat} {d : D}, DenL F T H l vs → l[i]? = some d → ∃ v, vs[i]? = some v ∧ Den F T H d v
  | [], _, i, d, _, e => by simp at e
  | x :: l, _, 0, d, ⟨v, r, h1, h2, _⟩, e => by
    subst h1
    have e : x = d := Option.some.inj e
    subst e
    exact ⟨v, rfl, h2⟩
  | x :: l, _, i + 1, d, ⟨v, r, h1, _, h3⟩, e => by
    subst h1
    exact DenL.get (i := i) (d := d) h3 e
theorem DenL.at : ∀ {l : List D} {vs : List V} {i : Nat} {v : V}, DenL F T H l vs → vs[i]? = some v → ∃ d, l[i]? = some d ∧ Den F T H d v
  | [], _, i, v, h, e => by
    have h : _ = [] := h
    rw [h] at e
    simp at e
  | x :: l, _, 0, v, ⟨u, r, h1, h2, _⟩, e => by
    subst h1
    have e : u = v := Option.some.inj e
    subst e
    exact ⟨x, rfl, h2⟩
  | x :: l, _, i + 1, v, ⟨u, r, h1, _, h3⟩, e => by
    subst h1
    exact DenL.at (i := i) (v := v) h3 e
theorem DenL.app : ∀ {l m : List D} {vs us : List V}, DenL F T H l vs → DenL F T H m us → DenL F T H (l ++ m) (vs ++ us)
  | [], m, _, us, h, k => by
    have h : _ = [] := h
    subst h
    exact k
  | d :: l, m, _, us, ⟨v, r, h1, h2, h3⟩, k => by
    subst h1
    exact ⟨v, r ++ us, rfl, h2, DenL.app h3 k⟩
theorem DenL.app_inv : ∀ {l m : List D} {vs : List V}, DenL F T H (l ++ m) vs → ∃ us ws, vs = us ++ ws ∧ DenL F T H l us ∧ DenL F T H m ws
  | [], m, vs, h => ⟨[], vs, rfl, rfl, h⟩
  | d :: l, m, _, ⟨v, r, h1, h2, h3⟩ => by
    obtain ⟨us, ws, e, p, q⟩ := DenL.app_inv (l := l) h3
    exact ⟨v :: us, ws, by rw [h1, e] <;> rfl, ⟨v, us, rfl, h2, p⟩, q⟩
theorem DenL.set : ∀ {l : List D} {vs : List V} {i : Nat} {d : D} {v : V}, DenL F T H l vs → Den F T H d v → DenL F T H (l.set i d) (vs.set i v)
  | [], _, i, d, v, h, _ => by
    have h : _ = [] := h
    subst h
    rfl
  | x :: l, _, 0, d, v, ⟨u, r, h1, _, h3⟩, k => by
    subst h1
    exact ⟨v, r, rfl, k, h3⟩
  | x :: l, _, i + 1, d, v, ⟨u, r, h1, h2, h3⟩, k => by
    subst h1
    exact ⟨u, r.set i v, rfl, h2, DenL.set h3 k⟩
theorem DenL.one {d : D} {v : V} (h : Den F T H d v) : DenL F T H [d] [v] := ⟨v, [], rfl, h, rfl⟩
theorem DenL.vls (vs : List V) : DenL F T H (vs.map D.vl) vs := by
  induction vs with
  | nil => rfl
  | cons v r ih => exact ⟨v, r, rfl, rfl, ih⟩
theorem DenL.vls_inv : ∀ {ws vs : List V}, DenL F T H (ws.map D.vl) vs → vs = ws
  | [], _, h => h
  | w :: ws, _, ⟨v, r, h1, h2, h3⟩ => by
    have h2 : v = w := h2
    rw [h1, h2, DenL.vls_inv (ws := ws) h3]
theorem DenL.reverse : ∀ {l : List D} {vs : List V}, DenL F T H l vs → DenL F T H l.reverse vs.reverse
  | [], _, h => by
    have h : _ = [] := h
    subst h
    rfl
  | d :: l, _, ⟨v, r, h1, h2, h3⟩ => by
    subst h1
    rw [List.reverse_cons, List.reverse_cons]
    exact (DenL.reverse h3).app (DenL.one h2)
theorem DenL.take : ∀ {l : List D} {vs : List V} (n : Nat), DenL F T H l vs → DenL F T H (l.take n) (vs.take n)
  | l, vs, 0, _ => by
    rw [List.take_zero, List.take_zero]
    rfl
  | [], _, n + 1, h => by
    have h : _ = [] := h
    subst h
    rfl
  | d :: l, _, n + 1, ⟨v, r, h1, h2, h3⟩ => by
    subst h1
    exact ⟨v, r.take n, rfl, h2, DenL.take n h3⟩
theorem DenL.drop : ∀ {l : List D} {vs : List V} (n : Nat), DenL F T H l vs → DenL F T H (l.drop n) (vs.drop n)
  | l, vs, 0, h => h
  | [], _, n + 1, h => by
    have h : _ = [] := h
    subst h
    rfl
  | d :: l, _, n + 1, ⟨v, r, h1, h2, h3⟩ => by
    subst h1
    exact DenL.drop n h3
end

/-! ### two heaps, one over the other -/
def ov (O H : Hp) : Hp := fun b => match O b with | some o => some o | none => H b
def Dis (O H : Hp) : Prop := ∀ b o, O b = some o → H b = none
section
variable {O O' H H' : Hp} {a b : Addr} {o u : HO}
theorem ov_own (h : O b = some o) : ov O H b = some o := by
  unfold ov
  rw [h]
theorem ov_fro (h : O b = none) : ov O H b = H b := by
  unfold ov
  rw [h]
theorem ov_none (h : ov O H b = none) : O b = none ∧ H b = none := by
  unfold ov at h
  cases e : O b with
  | none =>
    rw [e] at h
    exact ⟨rfl, h⟩
  | some o =>
    rw [e] at h
    cases h
theorem Dis.same (d : Dis O H) : Same H (ov O H) := fun b o h => by
  cases e : O b with
  | none => rw [ov_fro e, h]
  | some x =>
    rw [d b x e] at h
    cases h
theorem same_own : Same O (ov O H) := fun _ _ h => ov_own h
theorem Dis.fro (d : Dis O H) (h : H a = some o) : O a = none := by
  cases e : O a with
  | none => rfl
  | some x =>
    rw [d a x e] at h
    cases h
theorem ov_updH (h : O a = none) : upd (ov O H) a o = ov O (upd H a o) := by
  funext b
  by_cases e : b = a
  · subst e
    rw [upd_same, ov_fro h, upd_same]
  · rw [upd_ne e]
    unfold ov
    rw [upd_ne e]
theorem ov_updO : upd (ov O H) a o = ov (upd O a o) H := by
  funext b
  by_cases e : b = a
  · subst e
    rw [upd_same, ov_own upd_same]
  · rw [upd_ne e]
    unfold ov
    rw [upd_ne e]
theorem Dis.updH (d : Dis O H) (h : O a = none) : Dis O (upd H a o) := fun b x e => by
  have n : b ≠ a := fun q => by
    subst q
    rw [h] at e
    cases e
  rw [upd_ne n]
  exact d b x e
theorem Dis.updO (d : Dis O H) (h : H a = none) : Dis (upd O a o) H := fun b x e => by
  by_cases q : b = a
  · subst q
    exact h
  · rw [upd_ne q] at e
    exact d b x e
theorem same_upd (h : H a = none) : Same H (upd H a o) := fun b x e => by
  rw [upd_ne (ne_of_none e h)]
  exact e
/-- a cell taken out -/
def del (O : Hp) (a : Addr) : Hp := fun b => if b = a then none else O b
theorem del_same : del O a a = none := by
  unfold del
  rw [if_pos rfl]
theorem del_ne (h : b ≠ a) : del O a b = O b := by
  unfold del
  rw [if_neg h]
theorem ov_freeze (h : O a = some o) : ov O H = ov (del O a) (upd H a o) := by
  funext b
  by_cases e : b = a
  · subst e
    rw [ov_own h, ov_fro del_same, upd_same]
  · unfold ov
    rw [del_ne e, upd_ne e]
theorem Dis.freeze (d : Dis O H) : Dis (del O a) (upd H a o) := fun b x e => by
  by_cases q : b = a
  · subst q
    rw [del_same] at e
    cases e
  · rw [del_ne q] at e
    rw [upd_ne q]
    exact d b x e
/-- everything but what is in the way stays behind -/
def minus (H C : Hp) : Hp := fun b => match C b with | some _ => none | none => H b
theorem ov_minus (h : Same O H) : ov O (minus H O) = H := by
  funext b
  unfold ov minus
  cases e : O b with
  | none => rfl
  | some o => exact (h b o e).symm
theorem dis_minus : Dis O (minus H O) := fun b o e => by
  unfold minus
  rw [e]
end
end N

set_option Elab.async false
set_option linter.all false
set_option maxRecDepth 100000
/-! The judgements over plain data: expressions, tests, arguments, statements. -/
namespace N
open PySem L2

/-- what an owned cell holds -/
inductive OD where
  | lst (l : List D)
  | dct (ks : List Key) (l : List D)
  | ins (c : Nat) (ns : List Str) (l : List D)
  | any (o : HO)
abbrev Gm := List (Option D)
abbrev Om := List (Addr × OD)
def akeys (W : Om) : List Addr := W.map (·.1)

section
variable (F : FmKit) (T : Kx)
def OdAt (H : Hp) (x : Option HO) : OD → Prop
  | .lst l => ∃ xs, x = some (.lst xs) ∧ DenL F T H l xs
  | .dct ks l => ∃ kvs, x = some (.dK kvs) ∧ kvs.map (·.1) = ks ∧ ks.Nodup ∧ DenL F T H l (kvs.map (·.2))
  | .ins c ns l => ∃ dx fs, x = some (.ins (T.cl c) dx fs) ∧ fs.map (·.1) = ns ∧ DenL F T H l (fs.map (·.2))
  | .any o => x = some o
/-- the slots -/
structure Lo (H : Hp) (G : Gm) (σ : St) : Prop where
  len : σ.length = G.length
  at_ : ∀ (i : Nat) (d : D), G[i]? = some (some d) → ∃ v, σ[i]? = some (some v) ∧ Den F T H d v
structure Ow (H C O : Hp) (W : Om) : Prop where
  nd : (akeys W).Nodup
  at_ : ∀ a od, (a, od) ∈ W → C a = none ∧ OdAt F T H (O a) od
/-- frozen H, owned O (the callers' part C of it), slots, owned cells -/
structure Wd (C : Hp) (G : Gm) (W : Om) (H O : Hp) (σ : St) : Prop where
  dis : Dis O H
  oc : Same C O
  loc : Lo F T H G σ
  own : Ow F T H C O W
/-- behind a step -/
structure Nx (C : Hp) (W : Om) (H H' O' : Hp) : Prop where
  ext : Same H H'
  dis : Dis O' H'
  oc : Same C O'
  own : Ow F T H' C O' W
end

section
variable {F : FmKit} {T : Kx} {H H' H1 C O O' : Hp} {G : Gm} {W W' : Om} {σ : St}
theorem OdAt.mono {x : Option HO} (e : Same H H') : ∀ {od : OD}, OdAt F T H x od → OdAt F T H' x od
  | .lst l, ⟨xs, h, k⟩ => ⟨xs, h, k.mono e⟩
  | .dct ks l, ⟨kvs, h, n, d, k⟩ => ⟨kvs, h, n, d, k.mono e⟩
  | .ins c ns l, ⟨dx, fs, h, n, k⟩ => ⟨dx, fs, h, n, k.mono e⟩
  | .any o, h => h
theorem OdAt.some {x : Option HO} : ∀ {od : OD}, OdAt F T H x od → ∃ o, x = some o
  | .lst l, ⟨xs, h, k⟩ => ⟨_, h⟩
  | .dct ks l, ⟨kvs, h, n, d, k⟩ => ⟨_, h⟩
  | .ins c ns l, ⟨dx, fs, h, n, k⟩ => ⟨_, h⟩
  | .any o, h => ⟨_, h⟩
theorem Lo.mono (e : Same H H') (l : Lo F T H G σ) : Lo F T H' G σ :=
  ⟨l.len, fun i d h => let ⟨v, a, b⟩ := l.at_ i d h; ⟨v, a, b.mono e⟩⟩
theorem Lo.set {i : Nat} {d : D} {v : V} (l : Lo F T H G σ) (h : Den F T H d v) : Lo F T H (G.set i (some d)) (σ.set i (some v)) := by
  refine ⟨by rw [List.length_set, List.length_set]; exact l.len, fun j d' e => ?_⟩
  by_cases q : i = j
  · subst q
    have hi : i < G.length := by
      have := (List.getElem?_eq_some_iff.mp e).1
      rwa [List.length_set] at this
    rw [List.getElem?_set_self hi] at e
    have e : d = d' := Option.some.inj (Option.some.inj e)
    subst e
    exact ⟨v, by rw [List.getElem?_set_self (by rw [l.len]; exact hi)], h⟩
  · rw [List.getElem?_set_ne q] at e
    rw [List.getElem?_set_ne q]
    exact l.at_ j d' e
theorem Lo.forget {i : Nat} (l : Lo F T H G σ) (x : Option V) : Lo F T H (G.set i none) (σ.set i x) := by
  refine ⟨by rw [List.length_set, List.length_set]; exact l.len, fun j d' e => ?_⟩
  by_cases q : i = j
  · subst q
    have hi : i < G.length := by
      have := (List.getElem?_eq_some_iff.mp e).1
      rwa [List.length_set] at this
    rw [List.getElem?_set_self hi] at e
    cases e
  · rw [List.getElem?_set_ne q] at e
    rw [List.getElem?_set_ne q]
    exact l.at_ j d' e
theorem Ow.mono (e : Same H H') (o : Ow F T H C O W) : Ow F T H' C O W := ⟨o.nd, fun a od h => ⟨(o.at_ a od h).1, (o.at_ a od h).2.mono e⟩⟩
theorem Ow.notin {a : Addr} (o : Ow F T H C O W) (h : O a = none) : a ∉ akeys W := fun z => by
  obtain ⟨p, hp, e⟩ := List.mem_map.mp z
  obtain ⟨x, q⟩ := (o.at_ p.1 p.2 hp).2.some
  rw [e, h] at q
  cases q
theorem Nx.refl (d : Dis O H) (oc : Same C O) (o : Ow F T H C O W) : Nx F T C W H H O := ⟨Same.refl _, d, oc, o⟩
theorem Wd.nx (w : Wd F T C G W H O σ) : Nx F T C W H H O := ⟨Same.refl _, w.dis, w.oc, w.own⟩
theorem Nx.trans (a : Nx F T C W H H1 O) (b : Nx F T C W' H1 H' O') : Nx F T C W' H H' O' := ⟨a.ext.trans b.ext, b.dis, b.oc, b.own⟩
theorem Wd.step (w : Wd F T C G W H O σ) (n : Nx F T C W' H H' O') : Wd F T C G W' H' O' σ := ⟨n.dis, n.oc, w.loc.mono n.ext, n.own⟩
/-- an owned cell's content is known in the whole heap -/
theorem Wd.real (w : Wd F T C G W H O σ) : Same H (ov O H) := w.dis.same
end

/-! ### the judgements -/
section
variable (F : FmKit) (T : Kx)
/-- te, at the slots G and the owned cells W, gives a d and leaves owned cells so that R -/
def Ev (te : TE) (G : Gm) (W : Om) (R : D → Om → Prop) : Prop :=
  ∀ (C H O : Hp) (σ : St), Wd F T C G W H O σ → ∀ Q : VK, (∀ d W' H' O' v, R d W' → Nx F T C W' H H' O' → Den F T H' d v → Q v (ov O' H')) → te σ (ov O H) Q
def EvT (t : TT) (G : Gm) (W : Om) (R : Bool → Om → Prop) : Prop :=
  ∀ (C H O : Hp) (σ : St), Wd F T C G W H O σ → ∀ Q : Bool → Hp → Prop, (∀ b W' H' O', R b W' → Nx F T C W' H H' O' → Q b (ov O' H')) → t σ (ov O H) Q
def EvA (ta : TA) (G : Gm) (W : Om) (R : List D → Om → Prop) : Prop :=
  ∀ (C H O : Hp) (σ : St), Wd F T C G W H O σ → ∀ Q : List V → Hp → Prop, (∀ ds W' H' O' vs, R ds W' → Nx F T C W' H H' O' → DenL F T H' ds vs → Q vs (ov O' H')) → ta σ (ov O H) Q
def EvO (to : TO) (G : Gm) (W : Om) (R : Option Int → Om → Prop) : Prop :=
  ∀ (C H O : Hp) (σ : St), Wd F T C G W H O σ → ∀ Q : Option Int → Hp → Prop, (∀ i W' H' O', R i W' → Nx F T C W' H H' O' → Q i (ov O' H')) → to σ (ov O H) Q
/-- an operation on two data -/
def Bo (r : R2) (d1 d2 : D) (W : Om) (R : D → Om → Prop) : Prop :=
  ∀ (C H O : Hp), Dis O H → Same C O → Ow F T H C O W → ∀ x y, Den F T H d1 x → Den F T H d2 y → ∀ Q : VK, (∀ d W' H' O' v, R d W' → Nx F T C W' H H' O' → Den F T H' d v → Q v (ov O' H')) → r x y (ov O H) Q
/-- a call on data -/
def Ca (r : List V → Hp → VK → Prop) (ds : List D) (W : Om) (R : D → Om → Prop) : Prop :=
  ∀ (C H O : Hp), Dis O H → Same C O → Ow F T H C O W → ∀ vs, DenL F T H ds vs → ∀ Q : VK, (∀ d W' H' O' v, R d W' → Nx F T C W' H H' O' → Den F T H' d v → Q v (ov O' H')) → r vs (ov O H) Q
structure En where
  nx : Gm → Om → Prop
  rt : D → Om → Prop
  bk : Gm → Om → Prop := fun _ _ => False
  ct : Gm → Om → Prop := fun _ _ => False
/-- the ends at heaps are met by the ends at data -/
structure EnOk (C H : Hp) (E : En) (B : Ends) : Prop where
  nx : ∀ G W H' O' σ', E.nx G W → Nx F T C W H H' O' → Lo F T H' G σ' → B.nx σ' (ov O' H')
  rt : ∀ d W H' O' v, E.rt d W → Nx F T C W H H' O' → Den F T H' d v → B.rt v (ov O' H')
  bk : ∀ G W H' O' σ', E.bk G W → Nx F T C W H H' O' → Lo F T H' G σ' → B.bk σ' (ov O' H')
  ct : ∀ G W H' O' σ', E.ct G W → Nx F T C W H H' O' → Lo F T H' G σ' → B.ct σ' (ov O' H')
def Sw (ts : TS) (G : Gm) (W : Om) (E : En) : Prop :=
  ∀ (C H O : Hp) (σ : St), Wd F T C G W H O σ → ∀ B : Ends, EnOk F T C H E B → ts B σ (ov O H)
/-- a target of names -/
def Tg (g : TG) (d : D) (G : Gm) (R : Gm → Prop) : Prop :=
  ∀ (H H1 : Hp) (σ : St) (v : V), Lo F T H G σ → Same H H1 → Den F T H d v → ∀ Q : St → Hp → Prop, (∀ G' σ', R G' → Lo F T H G' σ' → Q σ' H1) → g v σ H1 Q
/-- an iterator over data -/
def Wk (J : It) (H0 : Hp) (ds : List D) : Prop :=
  ∀ (i : Nat) (H O : Hp), Same H0 H → Dis O H →
    (∀ d, ds[i]? = some d → J.go i (ov O H) ∧ ∀ x H2, J.yld i (ov O H) x H2 → ∃ H', Same H H' ∧ Dis O H' ∧ H2 = ov O H' ∧ Den F T H' d x) ∧ (i = ds.length → J.stop i (ov O H))
def EvI (wi : TI) (G : Gm) (W : Om) (R : List D → Om → Prop) : Prop :=
  ∀ (C H O : Hp) (σ : St), Wd F T C G W H O σ → ∀ Q : It → Hp → Prop, (∀ J ds W' H' O', R ds W' → Nx F T C W' H H' O' → Wk F T J H' ds → Q J (ov O' H')) → wi σ (ov O H) Q
end
def E_ (post : D → Om → Prop) : En := { nx := fun _ W => post .non W, rt := post }

section
variable {F : FmKit} {T : Kx} {C H H' O O' : Hp} {G : Gm} {W W' : Om} {σ : St} {E E' : En} {B : Ends}
theorem EnOk.up (h : EnOk F T C H E B) (e : Same H H') : EnOk F T C H' E B :=
  ⟨fun G W H2 O' σ' a n l => h.nx G W H2 O' σ' a ⟨e.trans n.ext, n.dis, n.oc, n.own⟩ l, fun d W H2 O' v a n l => h.rt d W H2 O' v a ⟨e.trans n.ext, n.dis, n.oc, n.own⟩ l,
   fun G W H2 O' σ' a n l => h.bk G W H2 O' σ' a ⟨e.trans n.ext, n.dis, n.oc, n.own⟩ l, fun G W H2 O' σ' a n l => h.ct G W H2 O' σ' a ⟨e.trans n.ext, n.dis, n.oc, n.own⟩ l⟩

/-! ### weakening -/
variable {te ta tb : TE} {t u : TT} {R R' : D → Om → Prop} {S S' : Bool → Om → Prop} {tr : TA} {ts tz : TS}
theorem Ev.imp (h : Ev F T te G W R) (i : ∀ d W', R d W' → R' d W') : Ev F T te G W R' := fun C H O σ w Q q => h C H O σ w Q fun d W' H' O' v r n k => q d W' H' O' v (i d W' r) n k
theorem EvT.imp (h : EvT F T t G W S) (i : ∀ b W', S b W' → S' b W') : EvT F T t G W S' := fun C H O σ w Q q => h C H O σ w Q fun d W' H' O' r n => q d W' H' O' (i d W' r) n
theorem Sw.imp (h : Sw F T ts G W E) (h1 : ∀ G W, E.nx G W → E'.nx G W) (h2 : ∀ d W, E.rt d W → E'.rt d W) (h3 : ∀ G W, E.bk G W → E'.bk G W) (h4 : ∀ G W, E.ct G W → E'.ct G W) : Sw F T ts G W E' :=
  fun C H O σ w B b => h C H O σ w B ⟨fun G W H' O' σ' a => b.nx G W H' O' σ' (h1 G W a), fun d W H' O' v a => b.rt d W H' O' v (h2 d W a), fun G W H' O' σ' a => b.bk G W H' O' σ' (h3 G W a), fun G W H' O' σ' a => b.ct G W H' O' σ' (h4 G W a)⟩

/-! ### expressions -/
theorem ev_var {i : Nat} {d : D} (h : G[i]? = some (some d)) (r : R d W) : Ev F T (tVar i) G W R := fun C H O σ w Q q =>
  let ⟨v, e, k⟩ := w.loc.at_ i d h
  ⟨v, e, q d W H O v r w.nx k⟩
theorem ev_c {v : V} (r : R (.vl v) W) : Ev F T (tC v) G W R := fun C H O σ w Q q => q (.vl v) W H O v r w.nx rfl
theorem ev_op {r : R2} (h : Ev F T ta G W fun d1 W1 => Ev F T tb G W1 fun d2 W2 => Bo F T r d1 d2 W2 R) : Ev F T (tOp r ta tb) G W R := fun C H O σ w Q q =>
  h C H O σ w _ fun d1 W1 H1 O1 x h1 n1 k1 => h1 C H1 O1 σ (w.step n1) _ fun d2 W2 H2 O2 y h2 n2 k2 =>
    h2 C H2 O2 n2.dis n2.oc n2.own x y (k1.mono n2.ext) k2 Q fun d W' H' O' v rr n k => q d W' H' O' v rr ((n1.trans n2).trans n) k
theorem ev_cb {r : List V → Hp → VK → Prop} (h : EvA F T tr G W fun ds W1 => Ca F T r ds W1 R) : Ev F T (tCB r tr) G W R := fun C H O σ w Q q =>
  h C H O σ w _ fun ds W1 H1 O1 vs h1 n1 k1 => h1 C H1 O1 n1.dis n1.oc n1.own vs k1 Q fun d W' H' O' v rr n k => q d W' H' O' v rr (n1.trans n) k
theorem ea_nil {Z : List D → Om → Prop} (r : Z [] W) : EvA F T tNil G W Z := fun C H O σ w Q q => q [] W H O [] r w.nx rfl
theorem ea_cons {Z : List D → Om → Prop} (h : Ev F T ta G W fun d W1 => EvA F T tr G W1 fun ds W2 => Z (d :: ds) W2) : EvA F T (tCons ta tr) G W Z := fun C H O σ w Q q =>
  h C H O σ w _ fun d W1 H1 O1 x h1 n1 k1 => h1 C H1 O1 σ (w.step n1) _ fun ds W2 H2 O2 vs h2 n2 k2 => q (d :: ds) W2 H2 O2 (x :: vs) h2 (n1.trans n2) ⟨x, vs, rfl, k1.mono n2.ext, k2⟩
theorem et_test (h : Ev F T te G W fun d W1 => ∃ b, d = .bl b ∧ S b W1) : EvT F T (tTest te) G W S := fun C H O σ w Q q =>
  h C H O σ w _ fun d W1 H1 O1 x ⟨b, e, s⟩ n k => by
    subst e
    have k : x = .bl b := k
    exact ⟨b, k, q b W1 H1 O1 s n⟩
theorem et_B (h : Ev F T te G W fun d W1 => ∃ b, d = .bl b ∧ S b W1) : EvT F T (tB te) G W S := et_test h
theorem et_not (h : EvT F T t G W fun b W1 => S (!b) W1) : EvT F T (tNot t) G W S := fun C H O σ w Q q => h C H O σ w _ fun b W1 H1 O1 s n => q (!b) W1 H1 O1 s n
theorem et_and (h : EvT F T t G W fun b W1 => if b = true then EvT F T u G W1 S else S false W1) : EvT F T (tAnd t u) G W S := fun C H O σ w Q q =>
  h C H O σ w _ fun b W1 H1 O1 s n => by
    cases b with
    | true => exact s C H1 O1 σ (w.step n) _ fun b W2 H2 O2 s2 n2 => q b W2 H2 O2 s2 (n.trans n2)
    | false => exact q false W1 H1 O1 s n
theorem et_or (h : EvT F T t G W fun b W1 => if b = true then S true W1 else EvT F T u G W1 S) : EvT F T (tOr t u) G W S := fun C H O σ w Q q =>
  h C H O σ w _ fun b W1 H1 O1 s n => by
    cases b with
    | true => exact q true W1 H1 O1 s n
    | false => exact s C H1 O1 σ (w.step n) _ fun b W2 H2 O2 s2 n2 => q b W2 H2 O2 s2 (n.trans n2)
theorem ev_andV (h : Ev F T ta G W fun d W1 => ∃ b, d = .bl b ∧ if b = true then Ev F T tb G W1 R else R (.bl false) W1) : Ev F T (tAndV ta tb) G W R := fun C H O σ w Q q =>
  h C H O σ w _ fun d W1 H1 O1 x ⟨b, e, s⟩ n k => by
    subst e
    have k : x = .bl b := k
    refine ⟨b, k, ?_⟩
    cases b with
    | true => exact s C H1 O1 σ (w.step n) _ fun d W2 H2 O2 v s2 n2 k2 => q d W2 H2 O2 v s2 (n.trans n2) k2
    | false => exact q _ W1 H1 O1 _ s n rfl
theorem ev_orV (h : Ev F T ta G W fun d W1 => ∃ b, d = .bl b ∧ if b = true then R (.bl true) W1 else Ev F T tb G W1 R) : Ev F T (tOrV ta tb) G W R := fun C H O σ w Q q =>
  h C H O σ w _ fun d W1 H1 O1 x ⟨b, e, s⟩ n k => by
    subst e
    have k : x = .bl b := k
    refine ⟨b, k, ?_⟩
    cases b with
    | true => exact q _ W1 H1 O1 _ s n rfl
    | false => exact s C H1 O1 σ (w.step n) _ fun d W2 H2 O2 v s2 n2 k2 => q d W2 H2 O2 v s2 (n.trans n2) k2
theorem ev_notV (h : Ev F T ta G W fun d W1 => ∃ b, d = .bl b ∧ R (.bl (!b)) W1) : Ev F T (tNotV ta) G W R := fun C H O σ w Q q =>
  h C H O σ w _ fun d W1 H1 O1 x ⟨b, e, s⟩ n k => by
    subst e
    have k : x = .bl b := k
    exact ⟨b, k, q _ W1 H1 O1 _ s n rfl⟩
theorem ev_if (h : EvT F T t G W fun b W1 => if b = true then Ev F T ta G W1 R else Ev F T tb G W1 R) : Ev F T (tIf t ta tb) G W R := fun C H O σ w Q q =>
  h C H O σ w _ fun b W1 H1 O1 s n => by
    cases b with
    | true => exact s C H1 O1 σ (w.step n) _ fun d W2 H2 O2 v s2 n2 k2 => q d W2 H2 O2 v s2 (n.trans n2) k2
    | false => exact s C H1 O1 σ (w.step n) _ fun d W2 H2 O2 v s2 n2 k2 => q d W2 H2 O2 v s2 (n.trans n2) k2
theorem ev_isN (h : Ev F T ta G W fun d W1 => ∃ b, (∀ H v, Den F T H d v → decide (v = .non) = b) ∧ R (.bl b) W1) : Ev F T (tIsN ta) G W R := fun C H O σ w Q q =>
  h C H O σ w _ fun d W1 H1 O1 x ⟨b, e, s⟩ n k => by
    show Q (.bl (decide (x = .non))) _
    rw [e _ _ k]
    exact q _ W1 H1 O1 _ s n rfl
theorem ev_notN (h : Ev F T ta G W fun d W1 => ∃ b, (∀ H v, Den F T H d v → decide (v = .non) = b) ∧ R (.bl (!b)) W1) : Ev F T (tNotN ta) G W R := fun C H O σ w Q q =>
  h C H O σ w _ fun d W1 H1 O1 x ⟨b, e, s⟩ n k => by
    show Q (.bl (!decide (x = .non))) _
    rw [e _ _ k]
    exact q _ W1 H1 O1 _ s n rfl

/-! ### operations on plain values -/
theorem op_sc {r : R2} {x y : V} (h : ∀ (H : Hp) (Q : VK), (∀ z, R (.vl z) W → Q z H) → r x y H Q) : Bo F T r (.vl x) (.vl y) W R := fun C H O dis oc own x' y' hx hy Q q => by
  have hx : x' = x := hx
  have hy : y' = y := hy
  subst hx hy
  exact h _ Q fun z rz => q (.vl z) W H O z rz (.refl dis oc own) rfl
theorem cl_sc {r : List V → Hp → VK → Prop} {xs : List V} (h : ∀ (H : Hp) (Q : VK), (∀ z, R (.vl z) W → Q z H) → r xs H Q) : Ca F T r (xs.map D.vl) W R := fun C H O dis oc own vs hv Q q => by
  have hv := DenL.vls_inv hv
  subst hv
  exact h _ Q fun z rz => q (.vl z) W H O z rz (.refl dis oc own) rfl

/-! ### statements -/
theorem sw_next (h : E.nx G W) : Sw F T tNext G W E := fun C H O σ w B b => b.nx G W H O σ h w.nx w.loc
theorem sw_brk (h : E.bk G W) : Sw F T tBreak G W E := fun C H O σ w B b => b.bk G W H O σ h w.nx w.loc
theorem sw_cont (h : E.ct G W) : Sw F T tCont G W E := fun C H O σ w B b => b.ct G W H O σ h w.nx w.loc
theorem sw_seq (h : Sw F T ts G W { E with nx := fun G' W' => Sw F T tz G' W' E }) : Sw F T (tSeq ts tz) G W E := fun C H O σ w B b =>
  h C H O σ w { B with nx := tz B } ⟨fun G' W' H' O' σ' a n l => a C H' O' σ' ⟨n.dis, n.oc, l, n.own⟩ B (b.up n.ext), b.rt, b.bk, b.ct⟩
theorem sw_drop (h : Ev F T te G W fun _ W' => E.nx G W') : Sw F T (tDrop te) G W E := fun C H O σ w B b =>
  h C H O σ w _ fun d W' H' O' v r n k => b.nx G W' H' O' σ r n (w.loc.mono n.ext)
theorem sw_ret (h : Ev F T te G W E.rt) : Sw F T (tRet te) G W E := fun C H O σ w B b =>
  h C H O σ w _ fun d W' H' O' v r n k => b.rt d W' H' O' v r n k
theorem sw_retN (h : E.rt .non W) : Sw F T tRetN G W E := fun C H O σ w B b => b.rt .non W H O .non h w.nx rfl
theorem sw_if (h : EvT F T t G W fun c W' => if c = true then Sw F T ts G W' E else Sw F T tz G W' E) : Sw F T (tIfS t ts tz) G W E := fun C H O σ w B b =>
  h C H O σ w _ fun c W' H' O' r n => by
    cases c with
    | true => exact r C H' O' σ (w.step n) B (b.up n.ext)
    | false => exact r C H' O' σ (w.step n) B (b.up n.ext)
theorem sw_set {i : Nat} (h : Ev F T te G W fun d W' => E.nx (G.set i (some d)) W') : Sw F T (tAsg te (gName i)) G W E := fun C H O σ w B b =>
  h C H O σ w _ fun d W' H' O' v r n k => b.nx _ W' H' O' _ r n ((w.loc.mono n.ext).set k)
theorem sw_asg {g : TG} (h : Ev F T te G W fun d W' => Tg F T g d G fun G' => E.nx G' W') : Sw F T (tAsg te g) G W E := fun C H O σ w B b =>
  h C H O σ w _ fun d W' H' O' v r n k => r H' _ σ v (w.loc.mono n.ext) n.dis.same k _ fun G' σ' rr l => b.nx G' W' H' O' σ' rr n l
theorem sw_par {i j : Nat} {ta : TA} (h : EvA F T ta G W fun ds W' => ∃ d1 d2, ds = [d1, d2] ∧ E.nx ((G.set i (some d1)).set j (some d2)) W') : Sw F T (tPar i j ta) G W E := fun C H O σ w B b =>
  h C H O σ w _ fun ds W' H' O' vs ⟨d1, d2, e, r⟩ n k => by
    subst e
    obtain ⟨v1, r1, e1, k1, v2, r2, e2, k2, e3⟩ := k
    have e3 : r2 = [] := e3
    subst e3 e2 e1
    exact ⟨v1, v2, rfl, b.nx _ W' H' O' _ r n (((w.loc.mono n.ext).set k1).set k2)⟩
theorem sw_aug {i : Nat} {ti : TIp} {d0 : D} (h0 : G[i]? = some (some d0)) (h : Ev F T te G W fun d W' => Bo F T ti d0 d W' fun d' W2 => E.nx (G.set i (some d')) W2) : Sw F T (tAug i te ti) G W E := fun C H O σ w B b => by
  obtain ⟨v, e, k⟩ := w.loc.at_ i d0 h0
  refine ⟨v, e, h C H O σ w _ fun d W' H' O' y r n k2 => r C H' O' n.dis n.oc n.own v y (k.mono n.ext) k2 _ fun d' W2 H2 O2 z rr n2 k3 => ?_⟩
  exact b.nx _ W2 H2 O2 _ rr (n.trans n2) ((w.loc.mono (n.trans n2).ext).set k3)

/-! ### targets -/
theorem tg_name {i : Nat} {d : D} {Z : Gm → Prop} (h : Z (G.set i (some d))) : Tg F T (gName i) d G Z := fun H H1 σ v l _ k Q q => q _ _ h (l.set k)
def Tgs (F : FmKit) (T : Kx) (g : TGs) (ds : List D) (G : Gm) (R : Gm → Prop) : Prop :=
  ∀ (H H1 : Hp) (σ : St) (vs : List V), Lo F T H G σ → Same H H1 → DenL F T H ds vs → ∀ Q : St → Hp → Prop, (∀ G' σ', R G' → Lo F T H G' σ' → Q σ' H1) → g vs σ H1 Q
theorem tgs_nil {Z : Gm → Prop} (h : Z G) : Tgs F T gNil [] G Z := fun H H1 σ v l _ k Q q => ⟨k, q _ _ h l⟩
theorem tgs_cons {g : TG} {gs : TGs} {d : D} {ds : List D} {Z : Gm → Prop} (h : Tg F T g d G fun G' => Tgs F T gs ds G' Z) : Tgs F T (gCons g gs) (d :: ds) G Z := fun H H1 σ vs l e k Q q => by
  obtain ⟨v, r, ev, k1, k2⟩ := k
  exact ⟨v, r, ev, h H H1 σ v l e k1 _ fun G' σ' hh l' => hh H H1 σ' r l' e k2 Q q⟩
theorem tg_tup {n : Nat} {gs : TGs} {ds : List D} {Z : Gm → Prop} (hn : ds.length = n) (h : Tgs F T gs ds G Z) : Tg F T (gTup T.K n gs) (.tup ds) G Z := fun H H1 σ v l e k Q q => by
  obtain ⟨a, xs, ev, hs, kl⟩ := k
  exact ⟨a, xs, ev, Same.sqT e hs, by rw [kl.len, hn], h H H1 σ xs l e kl Q q⟩

/-! ### a loop over data -/
theorem sw_for {wi : TI} {g : TG} (h : EvI F T wi G W fun ds W1 => ∃ I : Nat → Gm → Om → Prop, I 0 G W1 ∧
      (∀ i d G' W', ds[i]? = some d → I i G' W' → Tg F T g d G' fun G2 => Sw F T ts G2 W' { E with nx := I (i + 1), ct := I (i + 1), bk := E.nx }) ∧ (∀ G' W', I ds.length G' W' → E.nx G' W')) :
    Sw F T (tFor wi g ts) G W E := fun C H O σ w B b =>
  h C H O σ w _ fun J ds W1 H1 O1 ⟨I, i0, turn, fin⟩ n1 wk => by
    refine ⟨fun i m σ' X => m = ds.length - i ∧ i ≤ ds.length ∧ ∃ G' W' H' O', X = ov O' H' ∧ Nx F T C W' H1 H' O' ∧ Lo F T H' G' σ' ∧ I i G' W', ⟨ds.length, by simp, Nat.zero_le _, G, W1, H1, O1, rfl, ⟨Same.refl _, n1.dis, n1.oc, n1.own⟩, w.loc.mono n1.ext, i0⟩, ?_⟩
    rintro i m σ' X ⟨rfl, hi, G', W', H', O', rfl, n, l, ii⟩
    have k := wk i H' O' n.ext n.dis
    by_cases hlt : i < ds.length
    · obtain ⟨k1, k2⟩ := k.1 ds[i] (by simp [hlt])
      refine .inr ⟨k1, fun σ2 X2 => ∃ G2 W2 H2 O2, X2 = ov O2 H2 ∧ Nx F T C W2 H1 H2 O2 ∧ Lo F T H2 G2 σ2 ∧ I (i + 1) G2 W2, fun σ2 X2 ⟨G2, W2, H2, O2, e, n2, l2, i2⟩ => ⟨ds.length - (i + 1), by omega, rfl, hlt, G2, W2, H2, O2, e, n2, l2, i2⟩, fun x X2 y => ?_⟩
      obtain ⟨H2, s2, d2, rfl, kx⟩ := k2 x X2 y
      refine turn i ds[i] G' W' (by simp [hlt]) ii H2 _ σ' x (l.mono s2) d2.same kx _ fun G3 σ3 sw l3 => ?_
      refine sw C H2 O' σ3 ⟨d2, n.oc, l3, n.own.mono s2⟩ _ ⟨fun G4 W4 H4 O4 σ4 a n4 l4 => ⟨G4, W4, H4, O4, rfl, ⟨(n.ext.trans s2).trans n4.ext, n4.dis, n4.oc, n4.own⟩, l4, a⟩, ?_, ?_, fun G4 W4 H4 O4 σ4 a n4 l4 => ⟨G4, W4, H4, O4, rfl, ⟨(n.ext.trans s2).trans n4.ext, n4.dis, n4.oc, n4.own⟩, l4, a⟩⟩
      · exact fun d W4 H4 O4 v a n4 k4 => b.rt d W4 H4 O4 v a ⟨((n1.ext.trans n.ext).trans s2).trans n4.ext, n4.dis, n4.oc, n4.own⟩ k4
      · exact fun G4 W4 H4 O4 σ4 a n4 l4 => b.nx G4 W4 H4 O4 σ4 a ⟨((n1.ext.trans n.ext).trans s2).trans n4.ext, n4.dis, n4.oc, n4.own⟩ l4
    · have e : i = ds.length := by omega
      subst e
      exact .inl ⟨k.2 rfl, b.nx G' W' H' O' σ' (fin G' W' ii) ⟨n1.ext.trans n.ext, n.dis, n.oc, n.own⟩ l⟩
/-- while, by a measure -/
theorem sw_while (I : Nat → Gm → Om → Prop) (m0 : Nat) (i0 : I m0 G W)
    (turn : ∀ m G' W', I m G' W' → EvT F T t G' W' fun c W2 => if c = true then Sw F T ts G' W2 { E with nx := fun G3 W3 => ∃ m', m' < m ∧ I m' G3 W3, ct := fun G3 W3 => ∃ m', m' < m ∧ I m' G3 W3, bk := E.nx } else E.nx G' W2) :
    Sw F T (tWhile t ts) G W E := fun C H O σ w B b => by
  refine ⟨fun m σ' X => ∃ G' W' H' O', X = ov O' H' ∧ Nx F T C W' H H' O' ∧ Lo F T H' G' σ' ∧ I m G' W', ⟨m0, G, W, H, O, rfl, w.nx, w.loc, i0⟩, ?_⟩
  rintro m σ' X ⟨G', W', H', O', rfl, n, l, ii⟩
  refine turn m G' W' ii C H' O' σ' ⟨n.dis, n.oc, l, n.own⟩ _ fun c W2 H2 O2 r n2 => ?_
  cases c with
  | true =>
    refine ⟨fun σ3 X3 => ∃ G3 W3 H3 O3, X3 = ov O3 H3 ∧ Nx F T C W3 H H3 O3 ∧ Lo F T H3 G3 σ3 ∧ ∃ m', m' < m ∧ I m' G3 W3, fun σ3 X3 ⟨G3, W3, H3, O3, e, n3, l3, m', hm, i3⟩ => ⟨m', hm, G3, W3, H3, O3, e, n3, l3, i3⟩, ?_⟩
    exact r C H2 O2 σ' ⟨n2.dis, n2.oc, l.mono n2.ext, n2.own⟩ _ ⟨fun G4 W4 H4 O4 σ4 a n4 l4 => ⟨G4, W4, H4, O4, rfl, (n.trans n2).trans n4, l4, a⟩, fun d W4 H4 O4 v a n4 k4 => b.rt d W4 H4 O4 v a ((n.trans n2).trans n4) k4,
      fun G4 W4 H4 O4 σ4 a n4 l4 => b.nx G4 W4 H4 O4 σ4 a ((n.trans n2).trans n4) l4, fun G4 W4 H4 O4 σ4 a n4 l4 => ⟨G4, W4, H4, O4, rfl, (n.trans n2).trans n4, l4, a⟩⟩
  | false => exact b.nx G' W2 H2 O2 σ' r (n.trans n2) (l.mono n2.ext)
end
end N

set_option Elab.async false
set_option linter.all false
set_option maxRecDepth 100000
/-! Rules over plain data: new things, what is owned, calls, walks. -/
namespace N
open PySem L2

section
variable {F : FmKit} {T : Kx} {C H H' O O' : Hp} {G : Gm} {W W' : Om} {σ : St} {a p : Addr} {od : OD} {d : D} {l : List D}

/-! ### owned cells -/
theorem Ow.sub {W2 : Om} (o : Ow F T H C O W) (h : W2.Sublist W) : Ow F T H C O W2 := ⟨o.nd.sublist (h.map _), fun a od m => o.at_ a od (h.subset m)⟩
theorem Ow.perm {W2 : Om} (o : Ow F T H C O W) (h : W.Perm W2) : Ow F T H C O W2 := ⟨(h.map _).nodup_iff.mp o.nd, fun a od m => o.at_ a od (h.mem_iff.mpr m)⟩
theorem Ow.tail {x : Addr × OD} (o : Ow F T H C O (x :: W)) : Ow F T H C O W := o.sub (List.sublist_cons_self x W)
theorem akeys_cons {x : Addr × OD} : akeys (x :: W) = x.1 :: akeys W := rfl
theorem mem_akeys {x : Addr × OD} (h : x ∈ W) : x.1 ∈ akeys W := List.mem_map.mpr ⟨x, h, rfl⟩
/-- a new owned cell -/
theorem Nx.newO {o : HO} (n : Nx F T C W H H' O') (hp : ov O' H' p = none) (h : OdAt F T H' (some o) od) : Nx F T C ((p, od) :: W) H H' (upd O' p o) ∧ upd (ov O' H') p o = ov (upd O' p o) H' ∧ p ∉ akeys W := by
  obtain ⟨h1, h2⟩ := ov_none hp
  have np := n.own.notin h1
  have cp : C p = none := by
    cases e : C p with
    | none => rfl
    | some x =>
      rw [n.oc p x e] at h1
      cases h1
  refine ⟨⟨n.ext, n.dis.updO h2, fun b x e => ?_, ⟨List.nodup_cons.mpr ⟨np, n.own.nd⟩, fun b ob m => ?_⟩⟩, ov_updO, np⟩
  · rw [upd_ne (ne_of_none e cp)]
    exact n.oc b x e
  · rcases List.mem_cons.mp m with e | m
    · obtain ⟨rfl, rfl⟩ := Prod.mk.inj e
      rw [upd_same]
      exact ⟨cp, h⟩
    · have : b ≠ p := fun q => np (q ▸ mem_akeys (x := (b, ob)) m)
      rw [upd_ne this]
      exact n.own.at_ b ob m
/-- a new frozen cell -/
theorem Nx.newF {o : HO} (n : Nx F T C W H H' O') (hp : ov O' H' p = none) : Nx F T C W H (upd H' p o) O' ∧ upd (ov O' H') p o = ov O' (upd H' p o) ∧ Same H' (upd H' p o) := by
  obtain ⟨h1, h2⟩ := ov_none hp
  have e := same_upd (o := o) h2
  exact ⟨⟨n.ext.trans e, n.dis.updH h1, n.oc, n.own.mono e⟩, ov_updH h1, e⟩
/-- an owned cell is written -/
theorem Nx.write {o : HO} {od2 : OD} {W1 W2 : Om} (n : Nx F T C (W1 ++ (p, od) :: W2) H H' O') (h : OdAt F T H' (some o) od2) : Nx F T C (W1 ++ (p, od2) :: W2) H H' (upd O' p o) ∧ upd (ov O' H') p o = ov (upd O' p o) H' := by
  have hm : (p, od) ∈ W1 ++ (p, od) :: W2 := by simp
  obtain ⟨cp, x⟩ := n.own.at_ p od hm
  obtain ⟨u, eu⟩ := x.some
  have nd := n.own.nd
  have ndk : (akeys (W1 ++ (p, od2) :: W2)) = akeys (W1 ++ (p, od) :: W2) := by simp [akeys]
  refine ⟨⟨n.ext, n.dis.updO (n.dis p u eu), fun b x e => ?_, ⟨by rw [ndk]; exact nd, fun b ob m => ?_⟩⟩, ov_updO⟩
  · rw [upd_ne (ne_of_none e cp)]
    exact n.oc b x e
  · by_cases q : b = p
    · subst q
      have : ob = od2 := by
        have nd2 : (akeys (W1 ++ (b, od2) :: W2)).Nodup := by rw [ndk]; exact nd
        have hu : ∀ (W : Om) (x y : OD), (akeys W).Nodup → (b, x) ∈ W → (b, y) ∈ W → x = y := by
          intro W
          induction W with
          | nil => intro x y _ h; simp at h
          | cons z W ih =>
            intro x y hn hx hy
            rw [akeys_cons, List.nodup_cons] at hn
            rcases List.mem_cons.mp hx with ex | hx
            · rcases List.mem_cons.mp hy with ey | hy
              · rw [← ex] at ey
                exact (Prod.mk.inj ey).2.symm
              · exact absurd (by rw [← ex]; exact mem_akeys (x := (b, y)) hy) hn.1
            · rcases List.mem_cons.mp hy with ey | hy
              · exact absurd (by rw [← ey]; exact mem_akeys (x := (b, x)) hx) hn.1
              · exact ih x y hn.2 hx hy
        exact hu _ ob od2 nd2 m (by simp)
      subst this
      rw [upd_same]
      exact ⟨cp, h⟩
    · rw [upd_ne q]
      refine n.own.at_ b ob ?_
      rcases List.mem_append.mp m with m | m
      · exact List.mem_append_left _ m
      · rcases List.mem_cons.mp m with e | m
        · exact absurd (Prod.mk.inj e).1 q
        · exact List.mem_append_right _ (List.mem_cons_of_mem _ m)

/-! ### freezing -/
def partsD : Fm → List D
  | .at c => [.str ⟨#[c]⟩]
  | .no => []
  | .imp a b => [.fm a, .fm b]
  | .all a => [.fm a]
def AllsD (a : Addr) (f : Fm) : List D → List Fm → Prop
  | [], fs => fs = []
  | d :: ds, fs => ∃ g r, fs = g :: r ∧ (d = .fm g ∨ (d = .adr a ∧ g = f)) ∧ AllsD a f ds r
inductive Fzd (F : FmKit) (a : Addr) : OD → D → Prop
  | lst (l : List D) : Fzd F a (.lst l) (.lst l)
  | dct (ks : List Key) (l : List D) : Fzd F a (.dct ks l) (.dct ks l)
  | obj (c : Nat) (ns : List Str) (l : List D) : Fzd F a (.ins c ns l) (.obj c ns l)
  | fm (f : Fm) (al : List D) : AllsD a f al (F.alls f) → Fzd F a (.ins 0 fmNames [.str (F.kind f), .tup (partsD f), .int (F.many f), .int (F.deep f), .str (F.atoms f), .str (F.bare f), .str (F.spell f), .tup al]) (.fm f)
theorem parts_of {R : Addr → Fm → Prop} (hR : ∀ b g, FormAt F T H b g → R b g) : ∀ {f : Fm} {xs : List V}, DenL F T H (partsD f) xs → PartsR R f xs
  | .at c, xs, h => DenL.vls_inv (ws := [.str ⟨#[c]⟩]) h
  | .no, xs, h => h
  | .imp a b, xs, ⟨v, r, e, ⟨p, e1, h1⟩, u, s, e2, ⟨q, e3, h3⟩, e4⟩ => by
    have e4 : s = [] := e4
    subst e e1 e2 e3 e4
    exact ⟨p, q, rfl, hR _ _ h1, hR _ _ h3⟩
  | .all a, xs, ⟨v, r, e, ⟨p, e1, h1⟩, e2⟩ => by
    have e2 : r = [] := e2
    subst e e1 e2
    exact ⟨p, rfl, hR _ _ h1⟩
theorem alls_of {R : Addr → Fm → Prop} {f : Fm} (hR : ∀ b g, FormAt F T H b g → R b g) (ha : R a f) : ∀ {al : List D} {xs : List V} {fs : List Fm}, AllsD a f al fs → DenL F T H al xs → ∃ as : List Addr, xs = as.map V.ref ∧ AllR R as fs
  | [], xs, fs, h, k => ⟨[], k, h⟩
  | d :: ds, xs, fs, ⟨g, r, e, hd, ht⟩, ⟨v, rv, e1, k1, k2⟩ => by
    obtain ⟨as, e2, h2⟩ := alls_of hR ha ht k2
    subst e e1 e2
    rcases hd with hd | ⟨hd, hg⟩
    · subst hd
      obtain ⟨b, e3, h3⟩ := k1
      subst e3
      exact ⟨b :: as, rfl, g, r, rfl, hR _ _ h3, h2⟩
    · subst hd hg
      have k1 : v = .ref a := k1
      subst k1
      exact ⟨a :: as, rfl, g, r, rfl, ha, h2⟩
theorem lcons {α : Type} {n : α} {ns : List α} : ∀ {fs : List (α × V)}, fs.map (·.1) = n :: ns → ∃ v r, fs = (n, v) :: r ∧ r.map (·.1) = ns
  | [], h => by simp at h
  | (m, v) :: r, h => by
    rw [List.map_cons] at h
    injection h with h1 h2
    exact ⟨v, r, by rw [← h1], h2⟩
theorem Fzd.den (z : Fzd F a od d) (h : OdAt F T H (O a) od) (hn : H a = none) : ∃ o, O a = some o ∧ Den F T (upd H a o) d (.ref a) := by
  cases z with
  | lst l =>
    obtain ⟨xs, e, k⟩ := h
    exact ⟨_, e, a, xs, rfl, SqL.of upd_same, k.mono (same_upd hn)⟩
  | dct ks l =>
    obtain ⟨kvs, e, h1, h2, k⟩ := h
    exact ⟨_, e, a, kvs, rfl, upd_same, h1, h2, k.mono (same_upd hn)⟩
  | obj c ns l =>
    obtain ⟨dx, fs, e, h1, k⟩ := h
    exact ⟨_, e, a, dx, fs, rfl, upd_same, h1, k.mono (same_upd hn)⟩
  | fm f al hal =>
    obtain ⟨dx, fs, e, h1, k⟩ := h
    refine ⟨_, e, a, rfl, ?_⟩
    obtain ⟨v1, r1, g1, w1⟩ := lcons h1
    subst g1
    obtain ⟨v2, r2, g2, w2⟩ := lcons w1
    subst g2
    obtain ⟨v3, r3, g3, w3⟩ := lcons w2
    subst g3
    obtain ⟨v4, r4, g4, w4⟩ := lcons w3
    subst g4
    obtain ⟨v5, r5, g5, w5⟩ := lcons w4
    subst g5
    obtain ⟨v6, r6, g6, w6⟩ := lcons w5
    subst g6
    obtain ⟨v7, r7, g7, w7⟩ := lcons w6
    subst g7
    obtain ⟨v8, r8, g8, w8⟩ := lcons w7
    subst g8
    have w9 : r8 = [] := List.map_eq_nil_iff.mp w8
    subst w9
    have k := k.mono (same_upd (o := .ins (T.cl 0) dx [("kind", v1), ("parts", v2), ("many", v3), ("deepest", v4), ("atoms", v5), ("bare", v6), ("spelled", v7), ("alls_known", v8)]) hn)
    obtain ⟨_, _, q1, k1, _, _, q2, k2, _, _, q3, k3, _, _, q4, k4, _, _, q5, k5, _, _, q6, k6, _, _, q7, k7, _, _, q8, k8, _⟩ := k
    simp only [List.map_cons, List.map_nil, List.cons.injEq] at q1 q2 q3 q4 q5 q6 q7 q8
    obtain ⟨rfl, rfl⟩ := q1
    obtain ⟨rfl, rfl⟩ := q2
    obtain ⟨rfl, rfl⟩ := q3
    obtain ⟨rfl, rfl⟩ := q4
    obtain ⟨rfl, rfl⟩ := q5
    obtain ⟨rfl, rfl⟩ := q6
    obtain ⟨rfl, rfl⟩ := q7
    obtain ⟨rfl, rfl⟩ := q8
    have k1 : v1 = .str (F.kind f) := k1
    obtain ⟨pa, ps, ep, hp, kp⟩ := k2
    have k3 : v3 = .int (F.many f) := k3
    have k4 : v4 = .int (F.deep f) := k4
    have k5 : v5 = .str (F.atoms f) := k5
    have k6 : v6 = .str (F.bare f) := k6
    have k7 : v7 = .str (F.spell f) := k7
    obtain ⟨aa, as, ea, ha, ka⟩ := k8
    subst k1 ep k3 k4 k5 k6 k7 ea
    obtain ⟨bs, eb, hb⟩ := alls_of (R := fun b g => FormAt F T (upd H a (.ins (T.cl 0) dx (fmFields F f pa aa))) b g ∨ (b = a ∧ g = f)) (fun b g x => .inl x) (.inr ⟨rfl, rfl⟩) hal ka
    subst eb
    exact FormAt.mk ⟨dx, pa, ps, aa, bs, upd_same, hp, parts_of (fun b g x => .inl x) kp, ha, hb⟩
/-- what may be taken in the place of d -/
def Fz (F : FmKit) (R : D → Om → Prop) : D → Om → Prop := fun d W => ∃ a od W2 d', d = .adr a ∧ W.Perm ((a, od) :: W2) ∧ Fzd F a od d' ∧ R d' W2
theorem Nx.freeze {W2 : Om} {d' : D} (n : Nx F T C W H H' O') (hp : W.Perm ((a, od) :: W2)) (z : Fzd F a od d') : ∃ o, O' a = some o ∧ Nx F T C W2 H (upd H' a o) (del O' a) ∧ ov O' H' = ov (del O' a) (upd H' a o) ∧ Den F T (upd H' a o) d' (.ref a) ∧ Same H' (upd H' a o) := by
  have ow := n.own.perm hp
  obtain ⟨ca, oa⟩ := ow.at_ a od (by simp)
  obtain ⟨u, eu⟩ := oa.some
  have hn : H' a = none := n.dis a u eu
  obtain ⟨o, eo, k⟩ := z.den (O := O') oa hn
  have e := same_upd (o := o) hn
  have nd := ow.nd
  rw [akeys_cons, List.nodup_cons] at nd
  refine ⟨o, eo, ⟨n.ext.trans e, n.dis.freeze, fun b x q => ?_, ⟨nd.2, fun b ob m => ?_⟩⟩, ov_freeze eo, k, e⟩
  · rw [del_ne (ne_of_none q ca)]
    exact n.oc b x q
  · have hb : b ≠ a := fun q => nd.1 (q ▸ mem_akeys (x := (b, ob)) m)
    rw [del_ne hb]
    obtain ⟨h1, h2⟩ := ow.at_ b ob (List.mem_cons_of_mem _ m)
    exact ⟨h1, h2.mono e⟩
end

section
variable {F : FmKit} {T : Kx} {C H H' O O' : Hp} {G : Gm} {W W' : Om} {σ : St} {a p : Addr} {od : OD} {d : D} {l : List D}
  {te ta tb : TE} {t u : TT} {R R' : D → Om → Prop} {S S' : Bool → Om → Prop} {tr : TA} {ts tz : TS} {E E' : En}
theorem ev_fz (h : Ev F T te G W (Fz F R)) : Ev F T te G W R := fun C H O σ w Q q => h C H O σ w Q fun d W' H' O' v ⟨a, od, W2, d', e, hp, z, r⟩ n k => by
  subst e
  have k : v = .ref a := k
  subst k
  obtain ⟨o, _, n2, eo, k2, _⟩ := n.freeze hp z
  rw [eo]
  exact q d' W2 _ _ _ r n2 k2
theorem bo_fz {r : R2} {d1 d2 : D} (h : Bo F T r d1 d2 W (Fz F R)) : Bo F T r d1 d2 W R := fun C H O di oc ow x y hx hy Q q => h C H O di oc ow x y hx hy Q fun d W' H' O' v ⟨a, od, W2, d', e, hp, z, r⟩ n k => by
  subst e
  have k : v = .ref a := k
  subst k
  obtain ⟨o, _, n2, eo, k2, _⟩ := n.freeze hp z
  rw [eo]
  exact q d' W2 _ _ _ r n2 k2
theorem ca_fz {r : List V → Hp → VK → Prop} {ds : List D} (h : Ca F T r ds W (Fz F R)) : Ca F T r ds W R := fun C H O di oc ow xs hx Q q => h C H O di oc ow xs hx Q fun d W' H' O' v ⟨a, od, W2, d', e, hp, z, r⟩ n k => by
  subst e
  have k : v = .ref a := k
  subst k
  obtain ⟨o, _, n2, eo, k2, _⟩ := n.freeze hp z
  rw [eo]
  exact q d' W2 _ _ _ r n2 k2
/-- a slot's owned cell is frozen -/
theorem sw_fz {i : Nat} {d' : D} {W2 : Om} (hi : G[i]? = some (some (.adr a))) (hp : W.Perm ((a, od) :: W2)) (z : Fzd F a od d') (h : Sw F T ts (G.set i (some d')) W2 E) : Sw F T ts G W E := fun C H O σ w B b => by
  obtain ⟨o, _, n2, eo, k2, e2⟩ := w.nx.freeze hp z
  obtain ⟨v, ev, kv⟩ := w.loc.at_ i _ hi
  have kv : v = .ref a := kv
  subst kv
  rw [eo]
  have l2 := (w.loc.mono e2).set (i := i) k2
  have es : σ.set i (some (.ref a)) = σ := by
    apply List.ext_getElem?
    intro j
    by_cases q : i = j
    · subst q
      have hl : i < σ.length := (List.getElem?_eq_some_iff.mp ev).1
      rw [List.getElem?_set_self hl, ev]
    · rw [List.getElem?_set_ne q]
  rw [es] at l2
  exact h C _ _ σ ⟨n2.dis, n2.oc, l2, n2.own⟩ B (b.up n2.ext)
theorem sw_drp {W2 : Om} (hs : W2.Sublist W) (h : Sw F T ts G W2 E) : Sw F T ts G W E := fun C H O σ w B b => h C H O σ ⟨w.dis, w.oc, w.loc, w.own.sub hs⟩ B b
theorem sw_perm {W2 : Om} (hs : W.Perm W2) (h : Sw F T ts G W2 E) : Sw F T ts G W E := fun C H O σ w B b => h C H O σ ⟨w.dis, w.oc, w.loc, w.own.perm hs⟩ B b
theorem ev_perm {W2 : Om} (hs : W.Perm W2) (h : Ev F T te G W2 R) : Ev F T te G W R := fun C H O σ w B b => h C H O σ ⟨w.dis, w.oc, w.loc, w.own.perm hs⟩ B b

/-! ### new tuples, lists -/
theorem ev_tup (h : EvA F T tr G W fun ds W1 => ds.length ≤ sizeLine ∧ R (.tup ds) W1) : Ev F T (tTup tr) G W R := fun C H O σ w Q q =>
  h C H O σ w _ fun ds W1 H1 O1 vs ⟨hl, r⟩ n k => ⟨by rw [k.len]; exact hl, fun p hp => by
    obtain ⟨n2, e, s⟩ := n.newF (o := .tup vs) hp
    rw [e]
    exact q (.tup ds) W1 _ _ _ r n2 ⟨p, vs, rfl, SqT.of upd_same, k.mono s⟩⟩
theorem ev_lst (h : EvA F T tr G W fun ds W1 => ds.length ≤ sizeLine ∧ ∀ p, p ∉ akeys W1 → R (.adr p) ((p, .lst ds) :: W1)) : Ev F T (tLst tr) G W R := fun C H O σ w Q q =>
  h C H O σ w _ fun ds W1 H1 O1 vs ⟨hl, r⟩ n k => ⟨by rw [k.len]; exact hl, fun p hp => by
    obtain ⟨n2, e, np⟩ := n.newO (od := .lst ds) (o := .lst vs) hp ⟨vs, rfl, k⟩
    rw [e]
    exact q (.adr p) _ _ _ _ (r p np) n2 rfl⟩
/-- .. frozen at once -/
theorem ev_lstF (h : EvA F T tr G W fun ds W1 => ds.length ≤ sizeLine ∧ R (.lst ds) W1) : Ev F T (tLst tr) G W R := fun C H O σ w Q q =>
  h C H O σ w _ fun ds W1 H1 O1 vs ⟨hl, r⟩ n k => ⟨by rw [k.len]; exact hl, fun p hp => by
    obtain ⟨n2, e, s⟩ := n.newF (o := .lst vs) hp
    rw [e]
    exact q (.lst ds) W1 _ _ _ r n2 ⟨p, vs, rfl, SqL.of upd_same, k.mono s⟩⟩

/-! ### what a sequence holds -/
/-- d is a list of l: frozen, or owned -/
def Vl (W : Om) (d : D) (l : List D) : Prop := d = .lst l ∨ ∃ a, d = .adr a ∧ (a, .lst l) ∈ W
def Vs (W : Om) (d : D) (l : List D) : Prop := Vl W d l ∨ d = .tup l
theorem Vl.sq {x : V} (o : Ow F T H C O W) (di : Dis O H) (h : Vl W d l) (k : Den F T H d x) : ∃ a xs, x = .ref a ∧ SqL T.K (ov O H) a xs ∧ DenL F T H l xs := by
  rcases h with rfl | ⟨a, rfl, m⟩
  · obtain ⟨a, xs, e, hs, kl⟩ := k
    exact ⟨a, xs, e, di.same.seq hs, kl⟩
  · obtain ⟨_, xs, e, kl⟩ := o.at_ a _ m
    exact ⟨a, xs, k, SqL.of (ov_own e), kl⟩
theorem Vs.sq {x : V} (o : Ow F T H C O W) (di : Dis O H) (h : Vs W d l) (k : Den F T H d x) : ∃ a xs, x = .ref a ∧ (SqL T.K (ov O H) a xs ∨ SqT T.K (ov O H) a xs) ∧ DenL F T H l xs := by
  rcases h with h | rfl
  · obtain ⟨a, xs, e, hs, kl⟩ := h.sq o di k
    exact ⟨a, xs, e, .inl hs, kl⟩
  · obtain ⟨a, xs, e, hs, kl⟩ := k
    exact ⟨a, xs, e, .inr (Same.sqT di.same hs), kl⟩
theorem ca_one {r : List V → Hp → VK → Prop} {d : D} (h : ∀ (C H O : Hp), Dis O H → Same C O → Ow F T H C O W → ∀ x, Den F T H d x → ∀ Q : VK, (∀ d W' H' O' v, R d W' → Nx F T C W' H H' O' → Den F T H' d v → Q v (ov O' H')) → r [x] (ov O H) Q) : Ca F T r [d] W R := fun C H O di oc ow vs k Q q => by
  obtain ⟨v, r', e, k1, e2⟩ := k
  have e2 : r' = [] := e2
  subst e e2
  exact h C H O di oc ow v k1 Q q
theorem ca_two {r : List V → Hp → VK → Prop} {d e : D} (h : ∀ (C H O : Hp), Dis O H → Same C O → Ow F T H C O W → ∀ x y, Den F T H d x → Den F T H e y → ∀ Q : VK, (∀ d W' H' O' v, R d W' → Nx F T C W' H H' O' → Den F T H' d v → Q v (ov O' H')) → r [x, y] (ov O H) Q) : Ca F T r [d, e] W R := fun C H O di oc ow vs k Q q => by
  obtain ⟨v, r', e1, k1, u, r2, e2, k2, e3⟩ := k
  have e3 : r2 = [] := e3
  subst e3 e2 e1
  exact h C H O di oc ow v u k1 k2 Q q
/-- len of a list or a tuple -/
theorem ca_len (hv : Vs W d l) (r : R (.int l.length) W) : Ca F T (fun xs H Q => ∃ x n, xs = [x] ∧ LenV T.K x H n ∧ Q (.int (n : Nat)) H) [d] W R := ca_one fun C H O di oc ow x k Q q => by
  obtain ⟨a, xs, e, hs, kl⟩ := hv.sq ow di k
  subst e
  refine ⟨_, xs.length, rfl, ?_, ?_⟩
  · exact hs.elim (fun h => .inl ⟨xs, h, rfl⟩) fun h => .inr ⟨xs, h, rfl⟩
  · rw [kl.len]
    exact q (.int l.length) W H O _ r (.refl di oc ow) rfl
theorem ca_lenS {s : Str} (hl : s.length ≤ sizeLine) (r : R (.int s.length) W) : Ca F T (fun xs H Q => ∃ x n, xs = [x] ∧ LenV T.K x H n ∧ Q (.int (n : Nat)) H) [.str s] W R := ca_one fun C H O di oc ow x k Q q => by
  have k : x = .str s := k
  subst k
  exact ⟨_, s.length, rfl, ⟨hl, rfl⟩, q (.int s.length) W H O _ r (.refl di oc ow) rfl⟩
/-- list(..) -/
theorem ca_list (hv : Vs W d l) (r : ∀ p, p ∉ akeys W → R (.adr p) ((p, .lst l) :: W)) : Ca F T (fun xs H Q => ∃ p ys, xs = [.ref p] ∧ (SqL T.K H p ys ∨ SqT T.K H p ys) ∧ ∀ q, H q = none → Q (.ref q) (upd H q (.lst ys))) [d] W R := ca_one fun C H O di oc ow x k Q q => by
  obtain ⟨a, xs, e, hs, kl⟩ := hv.sq ow di k
  subst e
  refine ⟨a, xs, rfl, hs, fun p hp => ?_⟩
  obtain ⟨n2, e, np⟩ := (Nx.refl di oc ow).newO (od := .lst l) (o := .lst xs) hp ⟨xs, rfl, kl⟩
  rw [e]
  exact q (.adr p) _ _ _ _ (r p np) n2 rfl
/-- tuple(list) -/
theorem ca_tup (hv : Vl W d l) (r : R (.tup l) W) : Ca F T (fun xs H Q => ∃ p ys, xs = [.ref p] ∧ ((SqL T.K H p ys ∧ ∀ q, H q = none → Q (.ref q) (upd H q (.tup ys))) ∨ (SqT T.K H p ys ∧ Q (.ref p) H))) [d] W R := ca_one fun C H O di oc ow x k Q q => by
  obtain ⟨a, xs, e, hs, kl⟩ := hv.sq ow di k
  subst e
  refine ⟨a, xs, rfl, .inl ⟨hs, fun p hp => ?_⟩⟩
  obtain ⟨n2, e, s⟩ := (Nx.refl di oc ow).newF (o := .tup xs) hp
  rw [e]
  exact q (.tup l) W _ _ _ r n2 ⟨p, xs, rfl, SqT.of upd_same, kl.mono s⟩
theorem ca_tupT (r : R (.tup l) W) : Ca F T (fun xs H Q => ∃ p ys, xs = [.ref p] ∧ ((SqL T.K H p ys ∧ ∀ q, H q = none → Q (.ref q) (upd H q (.tup ys))) ∨ (SqT T.K H p ys ∧ Q (.ref p) H))) [.tup l] W R := ca_one fun C H O di oc ow x k Q q => by
  obtain ⟨a, xs, e, hs, kl⟩ := id k
  subst e
  exact ⟨a, xs, rfl, .inr ⟨Same.sqT di.same hs, q (.tup l) W H O _ r (.refl di oc ow) k⟩⟩

/-! ### subscripts -/
theorem atI_len {α β : Type} {xs : List α} {ys : List β} {i : Int} {y : β} (hl : xs.length = ys.length) (h : atI ys i = some y) : ∃ j : Nat, ys[j]? = some y ∧ ∀ x, xs[j]? = some x → atI xs i = some x := by
  unfold atI at h ⊢
  rw [hl]
  cases e : ixN ys.length i with
  | none =>
    rw [e] at h
    cases h
  | some j =>
    rw [e] at h
    exact ⟨j, h, fun x hx => hx⟩
theorem DenL.atI {l : List D} {xs : List V} {i : Int} {d : D} (k : DenL F T H l xs) (h : atI l i = some d) : ∃ v, L2.atI xs i = some v ∧ Den F T H d v := by
  obtain ⟨j, hj, f⟩ := atI_len (xs := xs) k.len h
  obtain ⟨v, hv, kv⟩ := k.get hj
  exact ⟨v, f v hv, kv⟩
theorem bo_ixL {i : Int} {z : D} (hv : Vl W d l) (hi : atI l i = some z) (r : R z W) : Bo F T (rIxL T.K) d (.int i) W R := fun C H O di oc ow x y hx hy Q q => by
  obtain ⟨a, xs, e, hs, kl⟩ := hv.sq ow di hx
  have hy : y = .int i := hy
  obtain ⟨v, ev, kv⟩ := kl.atI hi
  subst e hy
  exact ⟨a, xs, i, v, rfl, rfl, hs, ev, q z W H O v r (.refl di oc ow) kv⟩
theorem bo_ixT {i : Int} {z : D} (hi : atI l i = some z) (r : R z W) : Bo F T (rIxT T.K) (.tup l) (.int i) W R := fun C H O di oc ow x y hx hy Q q => by
  obtain ⟨a, xs, e, hs, kl⟩ := hx
  have hy : y = .int i := hy
  obtain ⟨v, ev, kv⟩ := kl.atI hi
  subst e hy
  exact ⟨a, xs, i, v, rfl, rfl, Same.sqT di.same hs, ev, q z W H O v r (.refl di oc ow) kv⟩

/-! ### methods of owned lists -/
theorem ev_bm {Ty : String} {r : V → List V → Hp → VK → Prop} {to : TE}
    (h : Ev F T to G W fun d W1 => (∀ (C H O : Hp), Dis O H → Same C O → Ow F T H C O W1 → ∀ x, Den F T H d x → tyV T.K Ty x (ov O H)) ∧ EvA F T tr G W1 fun ds W2 =>
      ∀ (C H O : Hp), Dis O H → Same C O → Ow F T H C O W2 → ∀ x vs, Den F T H d x → DenL F T H ds vs → ∀ Q : VK, (∀ d W' H' O' v, R d W' → Nx F T C W' H H' O' → Den F T H' d v → Q v (ov O' H')) → r x vs (ov O H) Q) : Ev F T (tBM T.K Ty r to tr) G W R := fun C H O σ w Q q =>
  h C H O σ w _ fun d W1 H1 O1 x ⟨ht, ha⟩ n1 k1 => ⟨ht C H1 O1 n1.dis n1.oc n1.own x k1, ha C H1 O1 σ (w.step n1) _ fun ds W2 H2 O2 vs r2 n2 k2 =>
    r2 C H2 O2 n2.dis n2.oc n2.own x vs (k1.mono n2.ext) k2 Q fun d W' H' O' v rr n k => q d W' H' O' v rr ((n1.trans n2).trans n) k⟩
theorem ev_bm0 {Ty : String} {r : V → List V → Hp → VK → Prop} {to : TE}
    (h : Ev F T to G W fun d W1 => ∀ (C H O : Hp), Dis O H → Same C O → Ow F T H C O W1 → ∀ x, Den F T H d x → tyV T.K Ty x (ov O H) ∧
      ∀ Q : VK, (∀ d W' H' O' v, R d W' → Nx F T C W' H H' O' → Den F T H' d v → Q v (ov O' H')) → r x [] (ov O H) Q) : Ev F T (tBM0 T.K Ty r to) G W R := fun C H O σ w Q q =>
  h C H O σ w _ fun d W1 H1 O1 x r1 n1 k1 => let ⟨ht, r2⟩ := r1 C H1 O1 n1.dis n1.oc n1.own x k1
    ⟨ht, r2 Q fun d W' H' O' v rr n k => q d W' H' O' v rr (n1.trans n) k⟩
theorem own_lst {W1 W2 : Om} (ow : Ow F T H C O (W1 ++ (a, .lst l) :: W2)) : ∃ xs, O a = some (.lst xs) ∧ DenL F T H l xs := (ow.at_ a (.lst l) (by simp)).2
/-- l.append(e) -/
theorem ev_append {to : TE} (h : Ev F T to G W fun d W0 => ∃ a l0 W01 W02, d = .adr a ∧ W0 = W01 ++ (a, .lst l0) :: W02 ∧ EvA F T tr G W0 fun ds W' => ∃ l W1 W2 z, W' = W1 ++ (a, .lst l) :: W2 ∧ ds = [z] ∧ l.length < sizeLine ∧ R .non (W1 ++ (a, .lst (l ++ [z])) :: W2)) :
    Ev F T (tBM T.K "list" rAppend to tr) G W R := ev_bm (h.imp fun d W0 ⟨a, l0, W01, W02, e1, e2, ha⟩ => by
  subst e1
  refine ⟨fun C H O di oc ow x kx => ?_, ?_⟩
  · have kx : x = .ref a := kx
    subst kx e2
    obtain ⟨xs, e, _⟩ := own_lst ow
    exact .inl ⟨rfl, xs, SqL.of (ov_own e)⟩
  · refine fun C H O σ w Q q => ha C H O σ w Q fun ds W' H' O' vs ⟨l, W1, W2, z, e3, e4, hl, r⟩ n k => q ds W' H' O' vs ?_ n k
    subst e3 e4
    intro C H O di oc ow x vs kx kv Q q
    have kx : x = .ref a := kx
    obtain ⟨v, r', ev, k1, er⟩ := kv
    have er : r' = [] := er
    subst kx ev er
    obtain ⟨xs, e, kl⟩ := own_lst ow
    refine ⟨a, xs, v, rfl, rfl, ov_own e, by rw [kl.len]; exact hl, ?_⟩
    obtain ⟨n2, e2⟩ := (Nx.refl di oc ow).write (o := .lst (xs ++ [v])) (od2 := .lst (l ++ [z])) ⟨_, rfl, kl.app (.one k1)⟩
    rw [e2]
    exact q .non _ _ _ _ r n2 rfl)
/-- l.pop() -/
theorem ev_pop {to : TE} (h : Ev F T to G W fun d W0 => ∃ a l W1 W2 z, d = .adr a ∧ W0 = W1 ++ (a, .lst (l ++ [z])) :: W2 ∧ R z (W1 ++ (a, .lst l) :: W2)) : Ev F T (tBM0 T.K "list" rPop to) G W R :=
  ev_bm0 (h.imp fun d W0 ⟨a, l, W1, W2, z, e1, e2, r⟩ => by
    subst e1 e2
    intro C H O di oc ow x kx
    have kx : x = .ref a := kx
    subst kx
    obtain ⟨xs, e, kl⟩ := own_lst ow
    refine ⟨.inl ⟨rfl, xs, SqL.of (ov_own e)⟩, fun Q q => ?_⟩
    obtain ⟨us, ws, e3, k1, k2⟩ := kl.app_inv
    obtain ⟨v, r', ev, kv, er⟩ := k2
    have er : r' = [] := er
    subst er ev e3
    refine ⟨a, _, v, rfl, rfl, ov_own e, by simp, ?_⟩
    rw [List.dropLast_concat]
    obtain ⟨n2, e2⟩ := (Nx.refl di oc ow).write (o := .lst us) (od2 := .lst l) ⟨_, rfl, k1⟩
    rw [e2]
    exact q z _ _ _ _ r n2 kv)
/-- l[i] = e -/
theorem sw_setL {to ti : TE} (h : Ev F T te G W fun z W1 => Ev F T to G W1 fun d W2 => Ev F T ti G W2 fun i W3 => ∃ a l j k Wa Wb, d = .adr a ∧ i = .int k ∧ W3 = Wa ++ (a, .lst l) :: Wb ∧ ixN l.length k = some j ∧ E.nx G (Wa ++ (a, .lst (l.set j z)) :: Wb)) :
    Sw F T (tAsg te (gSub to ti rSetL)) G W E := fun C H O σ w B b =>
  h C H O σ w _ fun z W1 H1 O1 v h1 n1 k1 => h1 C H1 O1 σ (w.step n1) _ fun d W2 H2 O2 x h2 n2 k2 => h2 C H2 O2 σ ((w.step n1).step n2) _ fun i W3 H3 O3 y ⟨a, l, j, k, Wa, Wb, e1, e2, e3, hj, r⟩ n3 k3 => by
    subst e1 e2 e3
    have k2 : x = .ref a := k2
    have k3 : y = .int k := k3
    subst k2 k3
    obtain ⟨xs, e, kl⟩ := own_lst n3.own
    refine ⟨a, xs, k, j, rfl, rfl, ov_own e, by rw [kl.len]; exact hj, ?_⟩
    have nn := (n1.trans n2).trans n3
    obtain ⟨n4, e4⟩ := nn.write (o := .lst (xs.set j v)) (od2 := .lst (l.set j z)) ⟨_, rfl, kl.set ((k1.mono n2.ext).mono n3.ext)⟩
    rw [e4]
    exact b.nx _ _ _ _ _ r n4 (w.loc.mono nn.ext)

/-! ### iterators -/
theorem ei_list {tl : TE} {Z : List D → Om → Prop} (h : Ev F T tl G W fun d W1 => ∃ l, d = .lst l ∧ Z l W1) : EvI F T (iList T.K tl) G W Z := fun C H O σ w Q q =>
  h C H O σ w _ fun d W1 H1 O1 x ⟨l, e, z⟩ n k => by
    subst e
    obtain ⟨a, xs, ea, hs, kl⟩ := k
    subst ea
    refine ⟨a, rfl, ⟨xs, n.dis.same.seq hs⟩, q _ l W1 H1 O1 z n fun i H2 O2 s di => ⟨fun d hd => ?_, fun e => ⟨xs, di.same.seq (s.seq hs), by rw [kl.len, e]; exact Nat.le_refl _⟩⟩⟩
    obtain ⟨v, hv, kv⟩ := kl.get hd
    have hq : SqL T.K (ov O2 H2) a xs := di.same.seq (s.seq hs)
    refine ⟨⟨xs, v, hq, hv⟩, fun x X ⟨e, y⟩ => ⟨H2, Same.refl _, di, e, ?_⟩⟩
    have := y xs hq
    rw [hv] at this
    cases this
    exact kv.mono s
theorem ei_tup {tl : TE} {Z : List D → Om → Prop} (h : Ev F T tl G W fun d W1 => ∃ l, d = .tup l ∧ Z l W1) : EvI F T (iTup T.K tl) G W Z := fun C H O σ w Q q =>
  h C H O σ w _ fun d W1 H1 O1 x ⟨l, e, z⟩ n k => by
    subst e
    obtain ⟨a, xs, ea, hs, kl⟩ := k
    subst ea
    refine ⟨a, rfl, ⟨xs, Same.sqT n.dis.same hs⟩, q _ l W1 H1 O1 z n fun i H2 O2 s di => ⟨fun d hd => ?_, fun e => ⟨xs, Same.sqT di.same (Same.sqT s hs), by rw [kl.len, e]; exact Nat.le_refl _⟩⟩⟩
    obtain ⟨v, hv, kv⟩ := kl.get hd
    have hq : SqT T.K (ov O2 H2) a xs := Same.sqT di.same (Same.sqT s hs)
    refine ⟨⟨xs, v, hq, hv⟩, fun x X ⟨e, y⟩ => ⟨H2, Same.refl _, di, e, ?_⟩⟩
    have := y xs hq
    rw [hv] at this
    cases this
    exact kv.mono s
def rng (lo : Int) (n : Nat) : List D := (List.range n).map fun k => .int (lo + (k : Nat))
theorem rng_len (lo : Int) (n : Nat) : (rng lo n).length = n := by simp [rng]
theorem rng_get {lo : Int} {n i : Nat} {d : D} (h : (rng lo n)[i]? = some d) : i < n ∧ d = .int (lo + (i : Nat)) := by
  have hi : i < (rng lo n).length := (List.getElem?_eq_some_iff.mp h).1
  rw [rng_len] at hi
  refine ⟨hi, ?_⟩
  unfold rng at h
  rw [List.getElem?_map, List.getElem?_range hi] at h
  exact (Option.some.inj h).symm
theorem wk_rng {lo : Int} {n : Nat} : Wk F T (Itr lo n) H (rng lo n) := fun i H2 O2 s di => ⟨fun d hd => by
  obtain ⟨hi, e⟩ := rng_get hd
  subst e
  exact ⟨hi, fun x X ⟨e1, e2⟩ => ⟨H2, Same.refl _, di, e1, e2⟩⟩, fun e => by
  rw [rng_len] at e
  show n ≤ i
  omega⟩
theorem ei_rng1 {Z : List D → Om → Prop} (h : EvA F T tr G W fun ds W1 => ∃ j : Int, ds = [.int j] ∧ -(2 ^ 62) ≤ j ∧ j < 2 ^ 62 ∧ Z (rng 0 j.toNat) W1) : EvI F T (iRng1 tr) G W Z := fun C H O σ w Q q =>
  h C H O σ w _ fun ds W1 H1 O1 vs ⟨j, e, h1, h2, z⟩ n k => by
    subst e
    have k := DenL.vls_inv (ws := [.int j]) k
    subst k
    exact ⟨j, rfl, h1, h2, q _ _ W1 H1 O1 z n wk_rng⟩
theorem ei_rng2 {Z : List D → Om → Prop} (h : EvA F T tr G W fun ds W1 => ∃ i j : Int, ds = [.int i, .int j] ∧ (-(2 ^ 62) ≤ i ∧ i < 2 ^ 62 ∧ -(2 ^ 62) ≤ j ∧ j < 2 ^ 62) ∧ Z (rng i (j - i).toNat) W1) : EvI F T (iRng2 tr) G W Z := fun C H O σ w Q q =>
  h C H O σ w _ fun ds W1 H1 O1 vs ⟨i, j, e, h1, z⟩ n k => by
    subst e
    have k := DenL.vls_inv (ws := [.int i, .int j]) k
    subst k
    exact ⟨i, j, rfl, h1, q _ _ W1 H1 O1 z n wk_rng⟩
end
end N

set_option Elab.async false
set_option linter.all false
set_option maxRecDepth 100000
/-! Promises over plain data, calls, attributes, comprehensions. -/
namespace N
open PySem L2

/-- a promise: data of the arguments, owned cells handed in, what is wanted behind -/
abbrev FS := List D → Om → (D → Om → Prop) → Prop
section
variable (F : FmKit) (T : Kx)
def spN (S : FS) : Sp := fun vs X Q _ => ∃ (ds : List D) (W : Om) (C H O : Hp) (post : D → Om → Prop), X = ov O H ∧ Dis O H ∧ Same C O ∧ Ow F T H C O W ∧ DenL F T H ds vs ∧ S ds W post ∧
  ∀ d W' H' O' v, post d W' → Nx F T C W' H H' O' → Den F T H' d v → Q v (ov O' H')
end

section
variable {F : FmKit} {T : Kx} {C H H' O O' : Hp} {G : Gm} {W W' : Om} {σ : St} {a p : Addr} {od : OD} {d : D} {l : List D}
  {te ta tb : TE} {t u : TT} {R R' : D → Om → Prop} {Z : Bool → Om → Prop} {tr tk : TA} {ts tz : TS} {E : XK} {En1 : En} {S : FS}
/-- a part of what is owned is handed in, the rest stands behind -/
theorem run_sp {ds : List D} {vs : List V} {Wc Wf : Om} {Q : VK} (di : Dis O H) (oc : Same C O) (ow : Ow F T H C O (Wc ++ Wf)) (k : DenL F T H ds vs) (h : S ds Wc fun d W' => R d (W' ++ Wf))
    (q : ∀ d W' H' O' v, R d W' → Nx F T C W' H H' O' → Den F T H' d v → Q v (ov O' H')) : spN F T S vs (ov O H) Q E := by
  have nd := ow.nd
  have nd2 : (akeys Wc ++ akeys Wf).Nodup := by
    have e : akeys (Wc ++ Wf) = akeys Wc ++ akeys Wf := by simp [akeys]
    rw [← e]
    exact nd
  rw [List.nodup_append] at nd2
  obtain ⟨ndc, ndf, dj⟩ := nd2
  have inF : ∀ b, b ∈ akeys Wf → ∃ od, (b, od) ∈ Wf := fun b hb => by
    obtain ⟨x, hx, e⟩ := List.mem_map.mp hb
    exact ⟨x.2, by rw [← e]; exact hx⟩
  have atF : ∀ b od, (b, od) ∈ Wf → C b = none ∧ OdAt F T H (O b) od := fun b od m => ow.at_ b od (List.mem_append_right _ m)
  refine ⟨ds, Wc, fun b => if b ∈ akeys Wf then O b else C b, H, O, _, rfl, di, fun b o e => ?_, ⟨ndc, fun a od m => ?_⟩, k, h, fun d W' H' O' v r n kd => q d (W' ++ Wf) H' O' v r ⟨n.ext, n.dis, fun b o e => ?_, ⟨?_, fun a od m => ?_⟩⟩ kd⟩
  · by_cases hb : b ∈ akeys Wf
    · simp only [if_pos hb] at e
      exact e
    · simp only [if_neg hb] at e
      exact oc b o e
  · have hn : a ∉ akeys Wf := fun z => dj a (mem_akeys m) a z rfl
    rw [if_neg hn]
    exact ow.at_ a od (List.mem_append_left _ m)
  · refine n.oc b o ?_
    by_cases hb : b ∈ akeys Wf
    · obtain ⟨od, m⟩ := inF b hb
      rw [(atF b od m).1] at e
      cases e
    · rw [if_neg hb]
      exact e
  · have e : akeys (W' ++ Wf) = akeys W' ++ akeys Wf := by simp [akeys]
    rw [e, List.nodup_append]
    refine ⟨n.own.nd, ndf, fun x hx y hy exy => ?_⟩
    subst exy
    obtain ⟨z, hz, ez⟩ := List.mem_map.mp hx
    have h1 := (n.own.at_ z.1 z.2 hz).1
    rw [ez, if_pos hy] at h1
    obtain ⟨od, m⟩ := inF _ hy
    obtain ⟨o, eo⟩ := (atF _ od m).2.some
    rw [h1] at eo
    cases eo
  · rcases List.mem_append.mp m with m | m
    · obtain ⟨h1, h2⟩ := n.own.at_ a od m
      refine ⟨?_, h2⟩
      by_cases hb : a ∈ akeys Wf
      · obtain ⟨od', m'⟩ := inF a hb
        exact (atF a od' m').1
      · rw [if_neg hb] at h1
        exact h1
    · obtain ⟨h1, h2⟩ := atF a od m
      obtain ⟨o, eo⟩ := h2.some
      have e2 : O' a = some o := n.oc a o (by rw [if_pos (mem_akeys (x := (a, od)) m)]; exact eo)
      rw [eo] at h2
      rw [e2]
      exact ⟨h1, h2.mono n.ext⟩
/-- what a call asks: the part of the owned cells that is handed in, the promise -/
def Hand (S : FS) (ds : List D) (W : Om) (R : D → Om → Prop) : Prop := ∃ Wc Wf, W.Perm (Wc ++ Wf) ∧ S ds Wc fun d W' => R d (W' ++ Wf)
theorem hand0 {ds : List D} (h : S ds [] fun d W' => R d (W' ++ W)) : Hand S ds W R := ⟨[], W, List.Perm.refl _, h⟩
theorem handA {ds : List D} (h : S ds W R) : Hand S ds W R := ⟨W, [], by rw [List.append_nil], by simpa only [List.append_nil] using h⟩
theorem Hand.run {ds : List D} {vs : List V} {Q : VK} (h : Hand S ds W R) (di : Dis O H) (oc : Same C O) (ow : Ow F T H C O W) (k : DenL F T H ds vs) (q : ∀ d W' H' O' v, R d W' → Nx F T C W' H H' O' → Den F T H' d v → Q v (ov O' H')) :
    spN F T S vs (ov O H) Q E := by
  obtain ⟨Wc, Wf, hp, hs⟩ := h
  exact run_sp di oc (ow.perm hp) k hs q
theorem ev_call {dvs : List V} (h : EvA F T tr G W fun ds W1 => Hand S (ds ++ dvs.map D.vl) W1 R) : Ev F T (tCall (spN F T S) dvs E tr) G W R := fun C H O σ w Q q =>
  h C H O σ w _ fun ds W1 H1 O1 vs h1 n k => h1.run n.dis n.oc n.own (k.app (.vls dvs)) fun d W' H' O' v r n2 kd => q d W' H' O' v r (n.trans n2) kd
theorem ev_callK {gV : List V → List V → List V} (h : EvA F T tr G W fun ds W1 => EvA F T tk G W1 fun es W2 => ∃ as, (∀ H vs zs, DenL F T H ds vs → DenL F T H es zs → DenL F T H as (gV vs zs)) ∧ Hand S as W2 R) : Ev F T (tCallK (spN F T S) gV E tr tk) G W R := fun C H O σ w Q q =>
  h C H O σ w _ fun ds W1 H1 O1 vs h1 n1 k1 => h1 C H1 O1 σ (w.step n1) _ fun es W2 H2 O2 zs ⟨as, ha, h2⟩ n2 k2 => h2.run n2.dis n2.oc n2.own (ha H2 vs zs (k1.mono n2.ext) k2) fun d W' H' O' v r n3 kd => q d W' H' O' v r ((n1.trans n2).trans n3) kd
theorem ev_callN {n m : Nat} {gV : List V → List V → List V} (h : EvA F T tr G W fun ds W1 => EvA F T tk G W1 fun es W2 => ds.length = n ∧ es.length = m ∧ ∃ as, (∀ H vs zs, DenL F T H ds vs → DenL F T H es zs → DenL F T H as (gV vs zs)) ∧ Hand S as W2 R) :
    Ev F T (fun σ H Q => tr σ H fun vs H1 => tk σ H1 fun zs H2 => vs.length = n ∧ zs.length = m ∧ spN F T S (gV vs zs) H2 Q E) G W R := fun C H O σ w Q q =>
  h C H O σ w _ fun ds W1 H1 O1 vs h1 n1 k1 => h1 C H1 O1 σ (w.step n1) _ fun es W2 H2 O2 zs ⟨l1, l2, as, ha, h2⟩ n2 k2 => ⟨by rw [k1.len]; exact l1, by rw [k2.len]; exact l2, h2.run n2.dis n2.oc n2.own (ha H2 vs zs (k1.mono n2.ext) k2) fun d W' H' O' v r n3 kd => q d W' H' O' v r ((n1.trans n2).trans n3) kd⟩

/-! ### instances -/
def fmVals (F : FmKit) (f : Fm) : List D := [.str (F.kind f), .tup (partsD f), .int (F.many f), .int (F.deep f), .str (F.atoms f), .str (F.bare f), .str (F.spell f), .tup ((F.alls f).map .fm)]
inductive Inst (F : FmKit) (W : Om) : D → Nat → List Str → List D → Prop
  | fm (f : Fm) : Inst F W (.fm f) 0 fmNames (fmVals F f)
  | obj (c : Nat) (ns : List Str) (l : List D) : Inst F W (.obj c ns l) c ns l
  | own (a : Addr) (c : Nat) (ns : List Str) (l : List D) : (a, .ins c ns l) ∈ W → Inst F W (.adr a) c ns l
theorem parts_den : ∀ {f : Fm} {ps : List V}, PartsR (FormAt F T H) f ps → DenL F T H (partsD f) ps
  | .at c, _, h => by
    have h : _ = _ := h
    subst h
    exact .one rfl
  | .no, _, h => h
  | .imp a b, _, ⟨p, q, e, h1, h2⟩ => by
    subst e
    exact ⟨_, _, rfl, ⟨p, rfl, h1⟩, .one ⟨q, rfl, h2⟩⟩
  | .all a, _, ⟨p, e, h1⟩ => by
    subst e
    exact .one ⟨p, rfl, h1⟩
theorem alls_den : ∀ {as : List Addr} {fs : List Fm}, AllR (FormAt F T H) as fs → DenL F T H (fs.map .fm) (as.map V.ref)
  | [], _, h => by
    have h : _ = _ := h
    subst h
    rfl
  | a :: as, _, ⟨f, r, e, h1, h2⟩ => by
    subst e
    exact ⟨_, _, rfl, ⟨a, rfl, h1⟩, alls_den h2⟩
theorem Inst.at {c : Nat} {ns : List Str} {x : V} (i : Inst F W d c ns l) (di : Dis O H) (ow : Ow F T H C O W) (k : Den F T H d x) : ∃ a dx fs, x = .ref a ∧ ov O H a = some (.ins (T.cl c) dx fs) ∧ fs.map (·.1) = ns ∧ DenL F T H l (fs.map (·.2)) := by
  cases i with
  | fm f =>
    obtain ⟨a, e, fa⟩ := k
    obtain ⟨dx, pa, ps, al, as, h1, h2, h3, h4, h5⟩ := fa.out
    exact ⟨a, dx, _, e, di.same _ _ h1, rfl, _, _, rfl, rfl, _, _, rfl, ⟨pa, ps, rfl, h2, parts_den h3⟩, _, _, rfl, rfl, _, _, rfl, rfl, _, _, rfl, rfl, _, _, rfl, rfl, _, _, rfl, rfl, _, _, rfl, ⟨al, _, rfl, h4, alls_den h5⟩, rfl⟩
  | obj c ns l =>
    obtain ⟨a, dx, fs, e, h1, h2, h3⟩ := k
    exact ⟨a, dx, fs, e, di.same _ _ h1, h2, h3⟩
  | own a c ns l m =>
    obtain ⟨_, dx, fs, h1, h2, h3⟩ := ow.at_ a _ m
    exact ⟨a, dx, fs, k, ov_own h1, h2, h3⟩
theorem look_zip : ∀ {fs : List (Str × V)} {l : List D} {n : Str} {z : D}, DenL F T H l (fs.map (·.2)) → ((fs.map (·.1)).zip l).lookup n = some z → ∃ v, fs.lookup n = some v ∧ Den F T H z v
  | [], l, n, z, _, e => by simp at e
  | (m, v) :: fs, [], n, z, k, e => by simp at e
  | (m, v) :: fs, d :: l, n, z, ⟨w, r, e1, k1, k2⟩, e => by
    rw [List.map_cons] at e1
    obtain ⟨rfl, rfl⟩ := List.cons.inj e1
    rw [List.map_cons, List.zip_cons_cons, List.lookup_cons] at e
    rw [List.lookup_cons]
    cases q : n == m with
    | true =>
      rw [q] at e
      have e : d = z := Option.some.inj e
      subst e
      exact ⟨v, rfl, k1⟩
    | false =>
      rw [q] at e
      exact look_zip k2 e
theorem look_none : ∀ {fs : List (Str × V)} {n : Str}, n ∉ fs.map (·.1) → fs.lookup n = none
  | [], _, _ => rfl
  | (m, v) :: fs, n, h => by
    rw [List.map_cons, List.mem_cons, not_or] at h
    rw [List.lookup_cons, beq_eq_false_iff_ne.mpr h.1]
    exact look_none h.2
/-- o.f -/
theorem ev_fld {n : Str} (h : Ev F T ta G W fun d W1 => ∃ c ns l z, Inst F W1 d c ns l ∧ Cls T.K (T.cl c) ∧ NoAttr T.K (T.cl c) n ∧ (ns.zip l).lookup n = some z ∧ R z W1) : Ev F T (tFld T.K ta n) G W R := fun C H O σ w Q q =>
  h C H O σ w _ fun d W1 H1 O1 x ⟨c, ns, l, z, i, hc, hn, hl, r⟩ n1 k => by
    obtain ⟨a, dx, fs, e, h1, h2, h3⟩ := i.at n1.dis n1.own k
    subst h2
    obtain ⟨v, hv, kv⟩ := look_zip h3 hl
    exact ⟨a, _, dx, fs, v, e, h1, hc, hn, hv, q z W1 H1 O1 v r n1 kv⟩
/-- o.m(..) -/
theorem ev_meth {c : Nat} {m : Str} {dvs : List V} (h : Ev F T ta G W fun d W1 => ∃ ns l, Inst F W1 d c ns l ∧ m ∉ ns ∧ EvA F T tr G W1 fun ds W2 => Hand S (d :: (ds ++ dvs.map D.vl)) W2 R) : Ev F T (tMeth (T.cl c) m (spN F T S) dvs E ta tr) G W R := fun C H O σ w Q q =>
  h C H O σ w _ fun d W1 H1 O1 x ⟨ns, l, i, hm, ha⟩ n1 k1 => by
    obtain ⟨a, dx, fs, e, h1, h2, h3⟩ := i.at n1.dis n1.own k1
    refine ⟨a, dx, fs, e, h1, look_none (by rw [h2]; exact hm), ha C H1 O1 σ (w.step n1) _ fun ds W2 H2 O2 vs hh n2 k2 => ?_⟩
    exact hh.run n2.dis n2.oc n2.own ⟨x, _, rfl, k1.mono n2.ext, k2.app (.vls dvs)⟩ fun d W' H' O' v r n3 kd => q d W' H' O' v r ((n1.trans n2).trans n3) kd
theorem ev_prop {c : Nat} {dvs : List V} (h : Ev F T ta G W fun d W1 => ∃ ns l, Inst F W1 d c ns l ∧ Hand S (d :: dvs.map D.vl) W1 R) : Ev F T (tProp (T.cl c) (spN F T S) dvs E ta) G W R := fun C H O σ w Q q =>
  h C H O σ w _ fun d W1 H1 O1 x ⟨ns, l, i, hh⟩ n1 k1 => by
    obtain ⟨a, dx, fs, e, h1, h2, h3⟩ := i.at n1.dis n1.own k1
    subst e
    exact ⟨a, dx, fs, rfl, h1, hh.run n1.dis n1.oc n1.own ⟨_, _, rfl, k1, .vls dvs⟩ fun d W' H' O' v r n3 kd => q d W' H' O' v r (n1.trans n3) kd⟩
/-- C(..) -/
theorem run_make {c : Nat} {ds : List D} {vs : List V} {x dx : Addr} {Q : VK} (n : Nx F T C W H H' O') (k : DenL F T H' ds vs) (h : ∀ x, x ∉ akeys W → Hand S (.adr x :: ds) ((x, .ins c [] []) :: W) fun d W' => d = .non ∧ R (.adr x) W')
    (hx : ov O' H' x = none) (hdx : ov O' H' dx = none) (ne : dx ≠ x) (q : ∀ d W2 H2 O2 v, R d W2 → Nx F T C W2 H H2 O2 → Den F T H2 d v → Q v (ov O2 H2)) :
    spN F T S (.ref x :: vs) (upd (upd (ov O' H') dx (.own x)) x (.ins (T.cl c) dx [])) (fun v H2 => v = .non ∧ Q (.ref x) H2) E := by
  obtain ⟨n2, e2, s2⟩ := n.newF (o := .own x) hdx
  rw [e2]
  have hx2 : ov O' (upd H' dx (.own x)) x = none := by rw [← e2, upd_ne ne.symm]; exact hx
  obtain ⟨n3, e3, np⟩ := n2.newO (od := .ins c [] []) (o := .ins (T.cl c) dx []) hx2 ⟨dx, [], rfl, rfl, rfl⟩
  rw [e3]
  refine (h x np).run n3.dis n3.oc n3.own ⟨_, _, rfl, rfl, k.mono s2⟩ fun d W' H2 O2 v ⟨e, r⟩ n4 kd => ?_
  subst e
  exact ⟨kd, q (.adr x) W' H2 O2 _ r (n3.trans n4) rfl⟩
theorem ev_make {c : Nat} {dvs : List V} (h : EvA F T tr G W fun ds W1 => ∀ x, x ∉ akeys W1 → Hand S (.adr x :: (ds ++ dvs.map D.vl)) ((x, .ins c [] []) :: W1) fun d W' => d = .non ∧ R (.adr x) W') : Ev F T (tMake (T.cl c) (spN F T S) dvs E tr) G W R := fun C H O σ w Q q =>
  h C H O σ w _ fun ds W1 H1 O1 vs h1 n k x dx hx hdx ne => run_make n (k.app (.vls dvs)) h1 hx hdx ne q
theorem ev_makeR {c : Nat} (h : EvA F T tr G W fun ds W1 => ∀ x, x ∉ akeys W1 → Hand S (.adr x :: ds) ((x, .ins c [] []) :: W1) fun d W' => d = .non ∧ R (.adr x) W') : Ev F T (StX.tMakeR (T.cl c) (spN F T S) E tr) G W R := fun C H O σ w Q q =>
  h C H O σ w _ fun ds W1 H1 O1 vs h1 n k x dx hx hdx ne => run_make n k h1 hx hdx ne q

/-! ### attributes are stored -/
theorem putF_new : ∀ {fs : List (Str × V)} {n : Str} {v : V}, n ∉ fs.map (·.1) → putF n v fs = fs ++ [(n, v)]
  | [], _, _, _ => rfl
  | (m, x) :: fs, n, v, h => by
    rw [List.map_cons, List.mem_cons, not_or] at h
    unfold putF
    rw [if_neg (fun e => h.1 e.symm), putF_new h.2]
    rfl
theorem putF_at : ∀ {fs : List (Str × V)} {n : Str} {v : V} {j : Nat}, (fs.map (·.1)).Nodup → (fs.map (·.1))[j]? = some n → (putF n v fs).map (·.1) = fs.map (·.1) ∧ (putF n v fs).map (·.2) = (fs.map (·.2)).set j v
  | [], _, _, j, _, e => by simp at e
  | (m, x) :: fs, n, v, 0, nd, e => by
    have e : m = n := Option.some.inj e
    unfold putF
    rw [if_pos e]
    exact ⟨rfl, rfl⟩
  | (m, x) :: fs, n, v, j + 1, nd, e => by
    rw [List.map_cons, List.nodup_cons] at nd
    rw [List.map_cons, List.getElem?_cons_succ] at e
    have hne : m ≠ n := fun q => nd.1 (by rw [q]; exact List.mem_of_getElem? e)
    obtain ⟨h1, h2⟩ := putF_at (v := v) nd.2 e
    unfold putF
    rw [if_neg hne]
    refine ⟨?_, ?_⟩
    · rw [List.map_cons, List.map_cons, h1]
    · rw [List.map_cons, List.map_cons, h2]
      rfl
/-- n of an instance set: a new attribute, or the j-th one -/
inductive Put (n : Str) (z : D) : List Str → List D → List Str → List D → Prop
  | new (ns : List Str) (l : List D) : n ∉ ns → Put n z ns l (ns ++ [n]) (l ++ [z])
  | at (ns : List Str) (l : List D) (j : Nat) : ns.Nodup → ns[j]? = some n → Put n z ns l ns (l.set j z)
theorem Put.odat {n : Str} {z : D} {ns ns' : List Str} {l' : List D} {c : Nat} {dx : Addr} {fs : List (Str × V)} {v : V} (h : Put n z ns l ns' l') (e : fs.map (·.1) = ns) (k : DenL F T H l (fs.map (·.2))) (kz : Den F T H z v) : OdAt F T H (some (.ins (T.cl c) dx (putF n v fs))) (.ins c ns' l') := by
  cases h with
  | new hn =>
    refine ⟨dx, _, rfl, ?_, ?_⟩
    · rw [putF_new (by rw [e]; exact hn), List.map_append, e]
      rfl
    · rw [putF_new (by rw [e]; exact hn), List.map_append]
      exact k.app (.one kz)
  | «at» j nd hj =>
    obtain ⟨h1, h2⟩ := putF_at (v := v) (by rw [e]; exact nd) (by rw [e]; exact hj)
    refine ⟨dx, _, rfl, by rw [h1, e], ?_⟩
    rw [h2]
    exact k.set kz
def gFld (K : PySem.W.Frag) (ta : TE) (f : Str) : TG := fun y σ H Q => ta σ H fun x H2 => ∃ a C dx fs, x = .ref a ∧ H2 a = some (.ins C dx fs) ∧ Cls K C ∧ NoAttr K C f ∧ fs.length < 1000 ∧ Q σ (upd H2 a (.ins C dx (putF f y fs)))
/-- the receiver of a store -/
def Rcv (F : FmKit) (T : Kx) (d z : D) (n : Str) (W : Om) (R : Om → Prop) : Prop := ∃ a c ns l W1 W2 ns' l', d = .adr a ∧ W = W1 ++ (a, .ins c ns l) :: W2 ∧ Cls T.K (T.cl c) ∧ NoAttr T.K (T.cl c) n ∧ ns.length < 1000 ∧ Put n z ns l ns' l' ∧ R (W1 ++ (a, .ins c ns' l') :: W2)
theorem Rcv.run {x y : V} {z : D} {n : Str} {RW : Om → Prop} (h : Rcv F T d z n W RW) (nx : Nx F T C W H H' O') (kx : Den F T H' d x) (ky : Den F T H' z y) : ∃ a C' dx fs, x = .ref a ∧ ov O' H' a = some (.ins C' dx fs) ∧ Cls T.K C' ∧ NoAttr T.K C' n ∧ fs.length < 1000 ∧
    ∃ W2 O2, RW W2 ∧ Nx F T C W2 H H' O2 ∧ upd (ov O' H') a (.ins C' dx (putF n y fs)) = ov O2 H' := by
  obtain ⟨a, c, ns, l, W1, W2, ns', l', e1, e2, hc, hn, hl, hp, r⟩ := h
  subst e1 e2
  have kx : x = .ref a := kx
  obtain ⟨_, dx, fs, h1, h2, h3⟩ := nx.own.at_ a _ (List.mem_append_right _ List.mem_cons_self)
  obtain ⟨n2, e⟩ := nx.write (o := .ins (T.cl c) dx (putF n y fs)) (hp.odat h2 h3 ky)
  have hl2 : fs.length = ns.length := by rw [← h2, List.length_map]
  exact ⟨a, _, dx, fs, kx, ov_own h1, hc, hn, by rw [hl2]; exact hl, _, _, r, n2, e⟩
/-- o.f = e -/
theorem sw_fld {n : Str} (h : Ev F T tb G W fun z W1 => Ev F T ta G W1 fun d W2 => Rcv F T d z n W2 (En1.nx G)) : Sw F T (sFld T.K ta tb n) G W En1 := fun C H O σ w B b =>
  h C H O σ w _ fun z W1 H1 O1 y h1 n1 k1 => h1 C H1 O1 σ (w.step n1) _ fun d W2 H2 O2 x hr n2 k2 => by
    obtain ⟨a, C', dx, fs, e, h1, hc, hn, hl, W3, O3, r, n3, e3⟩ := hr.run (n1.trans n2) k2 (k1.mono n2.ext)
    refine ⟨a, C', dx, fs, e, h1, hc, hn, hl, ?_⟩
    rw [e3]
    exact b.nx G W3 _ _ σ r n3 (w.loc.mono (n1.trans n2).ext)
/-- a target of any form: slots and owned cells may change -/
def Ta (F : FmKit) (T : Kx) (g : TG) (d : D) (G : Gm) (W : Om) (R : Gm → Om → Prop) : Prop :=
  ∀ (C H O : Hp) (σ : St), Wd F T C G W H O σ → ∀ v, Den F T H d v → ∀ Q : St → Hp → Prop, (∀ G' W' H' O' σ', R G' W' → Nx F T C W' H H' O' → Lo F T H' G' σ' → Q σ' (ov O' H')) → g v σ (ov O H) Q
def Tas (F : FmKit) (T : Kx) (g : TGs) (ds : List D) (G : Gm) (W : Om) (R : Gm → Om → Prop) : Prop :=
  ∀ (C H O : Hp) (σ : St), Wd F T C G W H O σ → ∀ vs, DenL F T H ds vs → ∀ Q : St → Hp → Prop, (∀ G' W' H' O' σ', R G' W' → Nx F T C W' H H' O' → Lo F T H' G' σ' → Q σ' (ov O' H')) → g vs σ (ov O H) Q
theorem ta_fld {n : Str} {RR : Gm → Om → Prop} (h : Ev F T ta G W fun x W2 => Rcv F T x d n W2 (RR G)) : Ta F T (gFld T.K ta n) d G W RR := fun C H O σ w v k Q q =>
  h C H O σ w _ fun x W2 H2 O2 y hr n2 k2 => by
    obtain ⟨a, C', dx, fs, e, h1, hc, hn, hl, W3, O3, r, n3, e3⟩ := hr.run n2 k2 (k.mono n2.ext)
    refine ⟨a, C', dx, fs, e, h1, hc, hn, hl, ?_⟩
    rw [e3]
    exact q G W3 _ _ σ r n3 (w.loc.mono n2.ext)
theorem ta_tg {g : TG} {RR : Gm → Om → Prop} (h : Tg F T g d G fun G' => RR G' W) : Ta F T g d G W RR := fun C H O σ w v k Q q =>
  h H _ σ v w.loc w.dis.same k _ fun G' σ' r l => q G' W H O σ' r w.nx l
theorem ta_name {i : Nat} {RR : Gm → Om → Prop} (h : RR (G.set i (some d)) W) : Ta F T (gName i) d G W RR := ta_tg (tg_name h)
theorem tas_nil {RR : Gm → Om → Prop} (h : RR G W) : Tas F T gNil [] G W RR := fun C H O σ w v k Q q => ⟨k, q G W H O σ h w.nx w.loc⟩
theorem tas_cons {g : TG} {gs : TGs} {ds : List D} {RR : Gm → Om → Prop} (h : Ta F T g d G W fun G' W' => Tas F T gs ds G' W' RR) : Tas F T (gCons g gs) (d :: ds) G W RR := fun C H O σ w vs k Q q => by
  obtain ⟨v, r, ev, k1, k2⟩ := k
  exact ⟨v, r, ev, h C H O σ w v k1 _ fun G1 W1 H1 O1 σ1 hh n1 l1 => hh C H1 O1 σ1 ⟨n1.dis, n1.oc, l1, n1.own⟩ r (k2.mono n1.ext) Q fun G2 W2 H2 O2 σ2 r2 n2 l2 => q G2 W2 H2 O2 σ2 r2 (n1.trans n2) l2⟩
theorem ta_tup {n : Nat} {gs : TGs} {ds : List D} {RR : Gm → Om → Prop} (hn : ds.length = n) (h : Tas F T gs ds G W RR) : Ta F T (gTup T.K n gs) (.tup ds) G W RR := fun C H O σ w v k Q q => by
  obtain ⟨a, xs, ev, hs, kl⟩ := k
  exact ⟨a, xs, ev, Same.sqT w.dis.same hs, by rw [kl.len, hn], h C H O σ w xs kl Q q⟩
theorem sw_asgA {g : TG} (h : Ev F T te G W fun d W' => Ta F T g d G W' fun G2 W2 => En1.nx G2 W2) : Sw F T (tAsg te g) G W En1 := fun C H O σ w B b =>
  h C H O σ w _ fun d W' H' O' v r n k => r C H' O' σ (w.step n) v k _ fun G2 W2 H2 O2 σ2 r2 n2 l2 => b.nx G2 W2 H2 O2 σ2 r2 (n.trans n2) l2
theorem sw_asg2 {g1 g2 : TG} (h : Ev F T te G W fun d W' => Ta F T g1 d G W' fun G2 W2 => Ta F T g2 d G2 W2 fun G3 W3 => En1.nx G3 W3) : Sw F T (tAsg2 te g1 g2) G W En1 := fun C H O σ w B b =>
  h C H O σ w _ fun d W' H' O' v r n k => r C H' O' σ (w.step n) v k _ fun G2 W2 H2 O2 σ2 r2 n2 l2 => r2 C H2 O2 σ2 ⟨n2.dis, n2.oc, l2, n2.own⟩ v (k.mono n2.ext) _ fun G3 W3 H3 O3 σ3 r3 n3 l3 => b.nx G3 W3 H3 O3 σ3 r3 ((n.trans n2).trans n3) l3
theorem sw_asg3 {g1 g2 g3 : TG} (h : Ev F T te G W fun d W' => Ta F T g1 d G W' fun G2 W2 => Ta F T g2 d G2 W2 fun G3 W3 => Ta F T g3 d G3 W3 fun G4 W4 => En1.nx G4 W4) : Sw F T (tAsg3 te g1 g2 g3) G W En1 := fun C H O σ w B b =>
  h C H O σ w _ fun d W' H' O' v r n k => r C H' O' σ (w.step n) v k _ fun G2 W2 H2 O2 σ2 r2 n2 l2 => r2 C H2 O2 σ2 ⟨n2.dis, n2.oc, l2, n2.own⟩ v (k.mono n2.ext) _ fun G3 W3 H3 O3 σ3 r3 n3 l3 =>
    r3 C H3 O3 σ3 ⟨n3.dis, n3.oc, l3, n3.own⟩ v ((k.mono n2.ext).mono n3.ext) _ fun G4 W4 H4 O4 σ4 r4 n4 l4 => b.nx G4 W4 H4 O4 σ4 r4 (((n.trans n2).trans n3).trans n4) l4
end
end N

set_option Elab.async false
set_option linter.all false
set_option maxRecDepth 100000
/-! Comprehensions, dicts, further walks. -/
namespace N
open PySem L2

/-! ### names of a comprehension -/
def wipeG (G : Gm) : List Nat → Gm
  | [] => G
  | v :: vs => (wipeG G vs).set v none
theorem wipe_at {σ : St} {i : Nat} : ∀ {vs : List Nat}, (wipe σ vs)[i]? = if i ∈ vs then (σ[i]?).map (fun _ => none) else σ[i]?
  | [] => by simp [wipe]
  | v :: vs => by
    unfold wipe
    have ih := wipe_at (σ := σ) (i := i) (vs := vs)
    rw [List.getElem?_set]
    by_cases h : v = i
    · subst h
      rw [if_pos rfl, if_pos (List.mem_cons_self)]
      rw [wipe_length]
      by_cases hl : v < σ.length
      · rw [if_pos hl, List.getElem?_eq_getElem hl]
        rfl
      · rw [if_neg hl, List.getElem?_eq_none (by omega)]
        rfl
    · rw [if_neg h, ih]
      have : (i ∈ v :: vs) ↔ (i ∈ vs) := by
        rw [List.mem_cons]
        exact ⟨fun z => z.elim (fun q => absurd q.symm h) id, .inr⟩
      by_cases hm : i ∈ vs
      · rw [if_pos hm, if_pos (this.mpr hm)]
      · rw [if_neg hm, if_neg (fun z => hm (this.mp z))]
theorem wipe_wipe {σ : St} {vs : List Nat} : wipe (wipe σ vs) vs = wipe σ vs := by
  apply List.ext_getElem?
  intro i
  rw [wipe_at, wipe_at]
  by_cases h : i ∈ vs
  · simp [h]
    rfl
  · simp [h]
theorem wipe_set {σ : St} {vs : List Nat} {i : Nat} {x : Option V} (h : i ∈ vs) : wipe (σ.set i x) vs = wipe σ vs := by
  apply List.ext_getElem?
  intro j
  rw [wipe_at, wipe_at]
  by_cases hj : j ∈ vs
  · rw [if_pos hj, if_pos hj, List.getElem?_set]
    by_cases e : i = j
    · subst e
      rw [if_pos rfl]
      by_cases hl : i < σ.length
      · rw [if_pos hl, List.getElem?_eq_getElem hl]
        rfl
      · rw [if_neg hl, List.getElem?_eq_none (by omega)]
    · rw [if_neg e]
  · rw [if_neg hj, if_neg hj, List.getElem?_set_ne (fun (e : i = j) => hj (e ▸ h))]
section
variable {F : FmKit} {T : Kx} {C H H' O O' : Hp} {G : Gm} {W W' : Om} {σ : St} {a p : Addr} {d : D} {l : List D}
  {te ta tb tv : TE} {t u : TT} {R R' : D → Om → Prop} {Z : Bool → Om → Prop} {tr tk : TA} {ts tz : TS}
theorem Lo.wipe (lo : Lo F T H G σ) : ∀ vs : List Nat, Lo F T H (wipeG G vs) (wipe σ vs)
  | [] => lo
  | v :: vs => (Lo.wipe lo vs).forget none
/-- a target of the comprehension's own names -/
def Tw (F : FmKit) (T : Kx) (vs : List Nat) (g : TG) (d : D) (G : Gm) (R : Gm → Prop) : Prop :=
  ∀ (H H1 : Hp) (σ : St) (v : V), Lo F T H G σ → Same H H1 → Den F T H d v → ∀ Q : St → Hp → Prop, (∀ G' σ', R G' → Lo F T H G' σ' → wipe σ' vs = wipe σ vs → Q σ' H1) → g v σ H1 Q
def Tws (F : FmKit) (T : Kx) (vs : List Nat) (g : TGs) (ds : List D) (G : Gm) (R : Gm → Prop) : Prop :=
  ∀ (H H1 : Hp) (σ : St) (us : List V), Lo F T H G σ → Same H H1 → DenL F T H ds us → ∀ Q : St → Hp → Prop, (∀ G' σ', R G' → Lo F T H G' σ' → wipe σ' vs = wipe σ vs → Q σ' H1) → g us σ H1 Q
variable {vs : List Nat} {Y : Gm → Prop}
theorem tw_name {i : Nat} (hi : i ∈ vs) (h : Y (G.set i (some d))) : Tw F T vs (gName i) d G Y := fun H H1 σ v l _ k Q q => q _ _ h (l.set k) (wipe_set hi)
theorem tws_nil (h : Y G) : Tws F T vs gNil [] G Y := fun H H1 σ v l _ k Q q => ⟨k, q _ _ h l rfl⟩
theorem tws_cons {g : TG} {gs : TGs} {ds : List D} (h : Tw F T vs g d G fun G' => Tws F T vs gs ds G' Y) : Tws F T vs (gCons g gs) (d :: ds) G Y := fun H H1 σ us l e k Q q => by
  obtain ⟨v, r, ev, k1, k2⟩ := k
  exact ⟨v, r, ev, h H H1 σ v l e k1 _ fun G' σ' hh l' w1 => hh H H1 σ' r l' e k2 Q fun G2 σ2 r2 l2 w2 => q G2 σ2 r2 l2 (w2.trans w1)⟩
theorem tw_tup {n : Nat} {gs : TGs} {ds : List D} (hn : ds.length = n) (h : Tws F T vs gs ds G Y) : Tw F T vs (gTup T.K n gs) (.tup ds) G Y := fun H H1 σ v l e k Q q => by
  obtain ⟨a, xs, ev, hs, kl⟩ := k
  exact ⟨a, xs, ev, Same.sqT e hs, by rw [kl.len, hn], h H H1 σ xs l e kl Q q⟩
/-- a hidden cell -/
theorem Nx.hide {o : HO} {Dp : Addr} {W1 : Om} {H1 : Hp} (n : Nx F T C W1 H H1 O') (hD : ov O' H1 Dp = none) : Nx F T (upd C Dp o) W1 H1 H1 (upd O' Dp o) ∧ upd (ov O' H1) Dp o = ov (upd O' Dp o) H1 ∧ C Dp = none := by
  obtain ⟨h1, h2⟩ := ov_none hD
  have cp : C Dp = none := by
    cases e : C Dp with
    | none => rfl
    | some x =>
      rw [n.oc Dp x e] at h1
      cases h1
  refine ⟨⟨Same.refl _, n.dis.updO h2, fun b x e => ?_, ⟨n.own.nd, fun b ob m => ?_⟩⟩, ov_updO, cp⟩
  · by_cases q : b = Dp
    · subst q
      rw [upd_same] at e ⊢
      exact e
    · rw [upd_ne q] at e ⊢
      exact n.oc b x e
  · have : b ≠ Dp := fun q => n.own.notin h1 (q ▸ mem_akeys (x := (b, ob)) m)
    rw [upd_ne this, upd_ne this]
    exact n.own.at_ b ob m
/-- the hidden cell is written -/
theorem Nx.rehide {o o' : HO} {Dp : Addr} {W2 : Om} {H1 H2 O2 : Hp} (n : Nx F T (upd C Dp o) W2 H1 H2 O2) (cp : C Dp = none) : Nx F T (upd C Dp o') W2 H1 H2 (upd O2 Dp o') ∧ upd (ov O2 H2) Dp o' = ov (upd O2 Dp o') H2 := by
  have hO : O2 Dp = some o := n.oc Dp o upd_same
  refine ⟨⟨n.ext, n.dis.updO (n.dis Dp o hO), fun b x e => ?_, ⟨n.own.nd, fun b ob m => ?_⟩⟩, ov_updO⟩
  · by_cases q : b = Dp
    · subst q
      rw [upd_same] at e ⊢
      exact e
    · rw [upd_ne q] at e
      rw [upd_ne q]
      exact n.oc b x (by rw [upd_ne q]; exact e)
  · obtain ⟨c1, c2⟩ := n.own.at_ b ob m
    have hb : b ≠ Dp := fun q => by
      rw [q, upd_same] at c1
      cases c1
    rw [upd_ne hb] at c1
    rw [upd_ne hb, upd_ne hb]
    exact ⟨c1, c2⟩
/-- the hidden cell comes out as an owned one -/
theorem Nx.show {o : HO} {od : OD} {Dp : Addr} {W2 : Om} {H1 H2 O2 : Hp} (n : Nx F T (upd C Dp o) W2 H1 H2 O2) (cp : C Dp = none) (h : OdAt F T H2 (some o) od) : Nx F T C ((Dp, od) :: W2) H1 H2 O2 ∧ Dp ∉ akeys W2 := by
  have hO : O2 Dp = some o := n.oc Dp o upd_same
  have nin : Dp ∉ akeys W2 := fun z => by
    obtain ⟨x, hx, e⟩ := List.mem_map.mp z
    have := (n.own.at_ x.1 x.2 hx).1
    rw [e, upd_same] at this
    cases this
  refine ⟨⟨n.ext, n.dis, fun b x e => n.oc b x (by rw [upd_ne (ne_of_none e cp)]; exact e), ⟨List.nodup_cons.mpr ⟨nin, n.own.nd⟩, fun b ob m => ?_⟩⟩, nin⟩
  rcases List.mem_cons.mp m with e | m
  · obtain ⟨rfl, rfl⟩ := Prod.mk.inj e
    rw [hO]
    exact ⟨cp, h⟩
  · obtain ⟨c1, c2⟩ := n.own.at_ b ob m
    have hb : b ≠ Dp := fun q => by
      rw [q, upd_same] at c1
      cases c1
    rw [upd_ne hb] at c1
    exact ⟨c1, c2⟩

/-- [e for .. in .. if ..] -/
theorem ev_lc {wi : TI} {g : TG} (h : EvI F T wi G W fun ds W1 => ∃ I : Nat → List D → Om → Prop, I 0 [] W1 ∧
      (∀ i d acc W', ds[i]? = some d → I i acc W' → Tw F T vs g d (wipeG G vs) fun G2 => EvT F T t G2 W' fun b W2 => if b = true then Ev F T te G2 W2 (fun z W3 => acc.length < sizeLine ∧ I (i + 1) (acc ++ [z]) W3) else I (i + 1) acc W2) ∧
      (∀ acc W', I ds.length acc W' → ∀ p, p ∉ akeys W' → R (.adr p) ((p, .lst acc) :: W'))) : Ev F T (tLc wi g t te vs) G W R := fun C H O σ w Q q =>
  h C H O σ w _ fun J ds W1 H1 O1 ⟨I, i0, turn, fin⟩ n1 wk Dp hD => by
    obtain ⟨n0, e0, cp⟩ := n1.hide (o := .lst []) hD
    refine ⟨fun i m X => m = ds.length - i ∧ i ≤ ds.length ∧ ∃ acc av W' H' O', X = ov O' H' ∧ Nx F T (upd C Dp (.lst av)) W' H1 H' O' ∧ DenL F T H' acc av ∧ I i acc W', ⟨ds.length, by simp, Nat.zero_le _, [], [], W1, H1, _, e0, n0, rfl, i0⟩, ?_⟩
    rintro i m X ⟨rfl, hi, acc, av, W', H', O', rfl, n, ka, ii⟩
    have k := wk i H' O' n.ext n.dis
    have lo1 := (w.loc.mono n1.ext).mono n.ext
    by_cases hlt : i < ds.length
    · obtain ⟨k1, k2⟩ := k.1 ds[i] (by simp [hlt])
      refine .inr ⟨k1, fun X2 => ∃ acc av W2 H2 O2, X2 = ov O2 H2 ∧ Nx F T (upd C Dp (.lst av)) W2 H1 H2 O2 ∧ DenL F T H2 acc av ∧ I (i + 1) acc W2, fun X2 y => ⟨ds.length - (i + 1), by omega, rfl, hlt, y⟩, fun x X2 y => ?_⟩
      obtain ⟨H2, s2, d2, rfl, kx⟩ := k2 x X2 y
      refine turn i ds[i] acc W' (by simp [hlt]) ii H2 _ _ x ((lo1.mono s2).wipe vs) d2.same kx _ fun G3 σ3 et l3 wz => ⟨wz.trans wipe_wipe, ?_⟩
      refine et (upd C Dp (.lst av)) H2 O' σ3 ⟨d2, n.oc, l3, n.own.mono s2⟩ _ fun b W3 H3 O3 r3 n3 => ?_
      have n03 : Nx F T (upd C Dp (.lst av)) W3 H1 H3 O3 := ⟨(n.ext.trans s2).trans n3.ext, n3.dis, n3.oc, n3.own⟩
      cases b with
      | false => exact ⟨acc, av, W3, H3, O3, rfl, n03, (ka.mono s2).mono n3.ext, r3⟩
      | true =>
        refine r3 (upd C Dp (.lst av)) H3 O3 σ3 ⟨n3.dis, n3.oc, l3.mono n3.ext, n3.own⟩ _ fun z W4 H4 O4 v ⟨hz, i4⟩ n4 k4 => ?_
        have hO : ov O4 H4 Dp = some (.lst av) := ov_own (n4.oc Dp _ upd_same)
        have ka4 := ((ka.mono s2).mono n3.ext).mono n4.ext
        refine ⟨av, hO, by rw [ka.len]; exact hz, ?_⟩
        obtain ⟨n5, e5⟩ := Nx.rehide (o' := .lst (av ++ [v])) (n03.trans n4) cp
        exact ⟨acc ++ [z], av ++ [v], W4, H4, _, e5, n5, ka4.app (.one k4), i4⟩
    · have e : i = ds.length := by omega
      subst e
      refine .inl ⟨k.2 rfl, ?_⟩
      obtain ⟨n6, np⟩ := n.show (od := .lst acc) cp ⟨av, rfl, ka⟩
      exact q (.adr Dp) _ H' O' _ (fin acc W' ii Dp np) (Nx.trans ⟨n1.ext, n1.dis, n1.oc, n1.own⟩ n6) rfl
theorem et_yes (h : Z true W) : EvT F T tYes G W Z := fun C H O σ w Q q => q true W H O h w.nx

/-! ### dicts -/
def putG {α : Type} (ps : List (Key × α)) (k : Key) (z : α) : List (Key × α) := if (ps.any fun q => decide (q.1 = k)) = true then ps.map (fun q => if q.1 = k then (q.1, z) else q) else ps ++ [(k, z)]
theorem putG_V (kvs : List (Key × V)) (k : Key) (z : V) : putG kvs k z = putK kvs k z := rfl
/-- a dict of pairs -/
@[reducible] def OD.dp (ps : List (Key × D)) : OD := .dct (ps.map (·.1)) (ps.map (·.2))
@[reducible] def D.dp (ps : List (Key × D)) : D := .dct (ps.map (·.1)) (ps.map (·.2))
theorem any_keys {α β : Type} {k : Key} : ∀ {ps : List (Key × α)} {qs : List (Key × β)}, ps.map (·.1) = qs.map (·.1) → (ps.any fun q => decide (q.1 = k)) = qs.any fun q => decide (q.1 = k)
  | [], [], _ => rfl
  | [], q :: qs, h => by simp at h
  | p :: ps, [], h => by simp at h
  | p :: ps, q :: qs, h => by
    rw [List.map_cons, List.map_cons] at h
    obtain ⟨h1, h2⟩ := List.cons.inj h
    rw [List.any_cons, List.any_cons, any_keys h2, h1]
theorem putG_keys {α β : Type} {k : Key} {z : α} {y : β} {ps : List (Key × α)} {qs : List (Key × β)} (h : ps.map (·.1) = qs.map (·.1)) : (putG ps k z).map (·.1) = (putG qs k y).map (·.1) := by
  unfold putG
  rw [any_keys h]
  split
  · rw [List.map_map, List.map_map]
    have e1 : ∀ (α : Type) (z : α) (l : List (Key × α)), l.map ((·.1) ∘ fun q => if q.1 = k then (q.1, z) else q) = l.map (·.1) := fun α z l => List.map_congr_left fun q _ => by
      show (if q.1 = k then (q.1, z) else q).1 = q.1
      split <;> rfl
    rw [e1, e1, h]
  · rw [List.map_append, List.map_append, h]
    rfl
theorem putG_den {k : Key} {z : D} {y : V} (hz : Den F T H z y) : ∀ {ps : List (Key × D)} {kvs : List (Key × V)}, kvs.map (·.1) = ps.map (·.1) → DenL F T H (ps.map (·.2)) (kvs.map (·.2)) → DenL F T H ((putG ps k z).map (·.2)) ((putG kvs k y).map (·.2)) := by
  intro ps kvs h kl
  unfold putG
  rw [any_keys h]
  split
  · rename_i hh
    clear hh
    induction ps generalizing kvs with
    | nil =>
      cases kvs with
      | nil => exact kl
      | cons _ _ => simp at h
    | cons p ps ih =>
      cases kvs with
      | nil => simp at h
      | cons q qs =>
        rw [List.map_cons, List.map_cons] at h
        obtain ⟨h1, h2⟩ := List.cons.inj h
        obtain ⟨v, r, e, k1, k2⟩ := kl
        rw [List.map_cons] at e
        obtain ⟨e1, e2⟩ := List.cons.inj e
        subst e2
        refine ⟨_, _, rfl, ?_, ih h2 k2⟩
        show Den F T H (if p.1 = k then (p.1, z) else p).2 (if q.1 = k then (q.1, y) else q).2
        rw [h1]
        by_cases e : p.1 = k
        · rw [if_pos e, if_pos e]
          exact hz
        · rw [if_neg e, if_neg e, e1]
          exact k1
  · rw [List.map_append, List.map_append]
    exact kl.app (.one hz)
theorem putG_nodup {α : Type} {k : Key} {z : α} {ps : List (Key × α)} (h : (ps.map (·.1)).Nodup) : ((putG ps k z).map (·.1)).Nodup := by
  unfold putG
  split
  · rw [List.map_map]
    have e1 : ps.map ((·.1) ∘ fun q => if q.1 = k then (q.1, z) else q) = ps.map (·.1) := List.map_congr_left fun q _ => by
      show (if q.1 = k then (q.1, z) else q).1 = q.1
      split <;> rfl
    rw [e1]
    exact h
  · rename_i hn
    rw [List.map_append, List.nodup_append]
    refine ⟨h, by simp, fun x hx y hy e => hn ?_⟩
    have hy : y = k := by simpa using hy
    obtain ⟨q, hq, eq⟩ := List.mem_map.mp hx
    rw [List.any_eq_true]
    exact ⟨q, hq, by rw [eq, e, hy]; simp⟩
/-- what a dict gives -/
def getG {α : Type} (ps : List (Key × α)) (k : Key) : Option α := (ps.find? fun q => decide (q.1 = k)).map (·.2)
theorem getG_den {k : Key} : ∀ {ps : List (Key × D)} {kvs : List (Key × V)}, kvs.map (·.1) = ps.map (·.1) → DenL F T H (ps.map (·.2)) (kvs.map (·.2)) → (getG ps k = none ∧ valV kvs k = none) ∨ ∃ z v, getG ps k = some z ∧ valV kvs k = some v ∧ Den F T H z v
  | [], [], _, _ => .inl ⟨rfl, rfl⟩
  | [], q :: qs, h, _ => by simp at h
  | p :: ps, [], h, _ => by simp at h
  | p :: ps, q :: qs, h, kl => by
    rw [List.map_cons, List.map_cons] at h
    obtain ⟨h1, h2⟩ := List.cons.inj h
    obtain ⟨v, r, e, k1, k2⟩ := kl
    rw [List.map_cons] at e
    obtain ⟨e1, e2⟩ := List.cons.inj e
    subst e2
    unfold getG valV
    rw [List.find?_cons, List.find?_cons, h1]
    by_cases e : p.1 = k
    · rw [decide_eq_true e]
      exact .inr ⟨p.2, q.2, rfl, rfl, by rw [e1]; exact k1⟩
    · rw [decide_eq_false e]
      exact getG_den h2 k2
/-- d is a dict of ps: frozen, or owned -/
def Vd (W : Om) (d : D) (ps : List (Key × D)) : Prop := d = .dp ps ∨ ∃ a, d = .adr a ∧ (a, .dp ps) ∈ W
theorem Vd.at {x : V} {ps : List (Key × D)} (h : Vd W d ps) (di : Dis O H) (ow : Ow F T H C O W) (k : Den F T H d x) : ∃ a kvs, x = .ref a ∧ ov O H a = some (.dK kvs) ∧ kvs.map (·.1) = ps.map (·.1) ∧ (ps.map (·.1)).Nodup ∧ DenL F T H (ps.map (·.2)) (kvs.map (·.2)) := by
  rcases h with rfl | ⟨a, rfl, m⟩
  · obtain ⟨a, kvs, e, h1, h2, h3, h4⟩ := k
    exact ⟨a, kvs, e, di.same _ _ h1, h2, h3, h4⟩
  · obtain ⟨_, kvs, h1, h2, h3, h4⟩ := ow.at_ a _ m
    exact ⟨a, kvs, k, ov_own h1, h2, h3, h4⟩
/-- a key as a datum -/
def kD (k : Key) : D := .vl (kV k)
theorem ev_dnew (h : ∀ p, p ∉ akeys W → R (.adr p) ((p, .dp []) :: W)) : Ev F T tDNewK G W R := fun C H O σ w Q q p hp => by
  obtain ⟨n2, e, np⟩ := w.nx.newO (od := .dp []) (o := .dK []) hp ⟨[], rfl, rfl, List.nodup_nil, rfl⟩
  rw [e]
  exact q (.adr p) _ _ _ _ (h p np) n2 rfl
/-- d[k] -/
theorem ev_dget (h : Ev F T ta G W fun d W1 => Ev F T tb G W1 fun y W2 => ∃ ps k z, Vd W2 d ps ∧ y = kD k ∧ getG ps k = some z ∧ R z W2) : Ev F T (tDGet ta tb) G W R := fun C H O σ w Q q =>
  h C H O σ w _ fun d W1 H1 O1 x h1 n1 k1 => h1 C H1 O1 σ (w.step n1) _ fun y W2 H2 O2 yv ⟨ps, k, z, hv, ey, hg, r⟩ n2 k2 => by
    subst ey
    obtain ⟨a, kvs, ex, ha, e1, e2, kl⟩ := hv.at n2.dis n2.own (k1.mono n2.ext)
    have k2 : yv = kV k := k2
    subst ex k2
    rcases getG_den (k := k) e1 kl with ⟨g1, _⟩ | ⟨z', v, g1, g2, kz⟩
    · rw [g1] at hg
      cases hg
    · rw [g1] at hg
      cases hg
      exact ⟨a, v, rfl, .inl ⟨kvs, k, .inl ha, rfl, g2.symm⟩, q z W2 H2 O2 v r (n1.trans n2) kz⟩
/-- k in d, k not in d -/
theorem run_din {ps : List (Key × D)} {k : Key} {x yv : V} (hv : Vd W d ps) (di : Dis O H) (ow : Ow F T H C O W) (k2 : Den F T H d x) (k1 : yv = kV k) : ∃ a o, x = .ref a ∧ DGet (ov O H) a yv o ∧ o.isSome = (getG ps k).isSome := by
  obtain ⟨a, kvs, ex, ha, e1, e2, kl⟩ := hv.at di ow k2
  subst ex k1
  refine ⟨a, valV kvs k, rfl, .inl ⟨kvs, k, .inl ha, rfl, rfl⟩, ?_⟩
  rcases getG_den (k := k) e1 kl with ⟨g1, g2⟩ | ⟨z', v, g1, g2, kz⟩
  · rw [g1, g2]
    rfl
  · rw [g1, g2]
    rfl
theorem ev_din (h : Ev F T tb G W fun y W1 => Ev F T ta G W1 fun d W2 => ∃ ps k, Vd W2 d ps ∧ y = kD k ∧ R (.bl (getG ps k).isSome) W2) : Ev F T (tDIn tb ta) G W R := fun C H O σ w Q q =>
  h C H O σ w _ fun y W1 H1 O1 yv h1 n1 k1 => h1 C H1 O1 σ (w.step n1) _ fun d W2 H2 O2 x ⟨ps, k, hv, ey, r⟩ n2 k2 => by
    subst ey
    obtain ⟨a, o, ex, g, e⟩ := run_din hv n2.dis n2.own k2 k1
    refine ⟨a, o, ex, g, ?_⟩
    rw [e]
    exact q _ W2 H2 O2 _ r (n1.trans n2) rfl
theorem ev_dnotin (h : Ev F T tb G W fun y W1 => Ev F T ta G W1 fun d W2 => ∃ ps k, Vd W2 d ps ∧ y = kD k ∧ R (.bl (!(getG ps k).isSome)) W2) : Ev F T (tDNotIn tb ta) G W R := fun C H O σ w Q q =>
  h C H O σ w _ fun y W1 H1 O1 yv h1 n1 k1 => h1 C H1 O1 σ (w.step n1) _ fun d W2 H2 O2 x ⟨ps, k, hv, ey, r⟩ n2 k2 => by
    subst ey
    obtain ⟨a, o, ex, g, e⟩ := run_din hv n2.dis n2.own k2 k1
    refine ⟨a, o, ex, g, ?_⟩
    rw [e]
    exact q _ W2 H2 O2 _ r (n1.trans n2) rfl
/-- d[k] = e -/
theorem sw_dput {td ty tv : TE} {Ed : En} (h : Ev F T tv G W fun z W1 => Ev F T td G W1 fun d W2 => Ev F T ty G W2 fun y W3 => ∃ a ps k Wa Wb, d = .adr a ∧ W3 = Wa ++ (a, .dp ps) :: Wb ∧ y = kD k ∧ ps.length < sizeLine ∧ Ed.nx G (Wa ++ (a, .dp (putG ps k z)) :: Wb)) : Sw F T (sDPut td ty tv) G W Ed := fun C H O σ w B b =>
  h C H O σ w _ fun z W1 H1 O1 zv h1 n1 k1 => h1 C H1 O1 σ (w.step n1) _ fun d W2 H2 O2 x h2 n2 k2 => h2 C H2 O2 σ ((w.step n1).step n2) _ fun y W3 H3 O3 yv ⟨a, ps, k, Wa, Wb, e1, e2, e3, hl, r⟩ n3 k3 => by
    subst e1 e2 e3
    have k2 : x = .ref a := k2
    have k3 : yv = kV k := k3
    subst k2 k3
    obtain ⟨_, kvs, ha, f1, f2, kl⟩ := n3.own.at_ a _ (List.mem_append_right _ List.mem_cons_self)
    have nn := (n1.trans n2).trans n3
    have hl2 : kvs.length = ps.length := by
      have := congrArg List.length f1
      rwa [List.length_map, List.length_map] at this
    refine ⟨a, _, rfl, DPut.k (ov_own ha) (by rw [hl2]; exact hl), ?_⟩
    obtain ⟨n4, e4⟩ := nn.write (o := .dK (putK kvs k zv)) (od2 := .dp (putG ps k z)) ⟨_, rfl, (putG_V kvs k zv) ▸ putG_keys (z := zv) (y := z) f1, putG_nodup f2, (putG_V kvs k zv) ▸ putG_den ((k1.mono n2.ext).mono n3.ext) f1 kl⟩
    rw [e4]
    exact b.nx _ _ _ _ _ r n4 (w.loc.mono nn.ext)
/-- {k: e for .. in .. if ..} -/
theorem ev_dc {wi : TI} {g : TG} (h : EvI F T wi G W fun ds W1 => ∃ I : Nat → List (Key × D) → Om → Prop, I 0 [] W1 ∧
      (∀ i d acc W', ds[i]? = some d → I i acc W' → Tw F T vs g d (wipeG G vs) fun G2 => EvT F T t G2 W' fun b W2 => if b = true then Ev F T te G2 W2 (fun y W3 => Ev F T tv G2 W3 fun z W4 => ∃ k, y = kD k ∧ acc.length < sizeLine ∧ I (i + 1) (putG acc k z) W4) else I (i + 1) acc W2) ∧
      (∀ acc W', I ds.length acc W' → ∀ p, p ∉ akeys W' → R (.adr p) ((p, .dp acc) :: W'))) : Ev F T (tDc wi g t te tv vs) G W R := fun C H O σ w Q q =>
  h C H O σ w _ fun J ds W1 H1 O1 ⟨I, i0, turn, fin⟩ n1 wk Dp hD => by
    obtain ⟨n0, e0, cp⟩ := n1.hide (o := .dK []) hD
    refine ⟨fun i m X => m = ds.length - i ∧ i ≤ ds.length ∧ ∃ acc av W' H' O', X = ov O' H' ∧ Nx F T (upd C Dp (.dK av)) W' H1 H' O' ∧ (av.map (·.1) = acc.map (·.1) ∧ (acc.map (·.1)).Nodup ∧ DenL F T H' (acc.map (·.2)) (av.map (·.2))) ∧ I i acc W', ⟨ds.length, by simp, Nat.zero_le _, [], [], W1, H1, _, e0, n0, ⟨rfl, List.nodup_nil, (show DenL F T H1 (([] : List (Key × D)).map (·.2)) (([] : List (Key × V)).map (·.2)) from rfl)⟩, i0⟩, ?_⟩
    rintro i m X ⟨rfl, hi, acc, av, W', H', O', rfl, n, ⟨ka1, ka2, ka⟩, ii⟩
    have k := wk i H' O' n.ext n.dis
    have lo1 := (w.loc.mono n1.ext).mono n.ext
    by_cases hlt : i < ds.length
    · obtain ⟨k1, k2⟩ := k.1 ds[i] (by simp [hlt])
      refine .inr ⟨k1, fun X2 => ∃ acc av W2 H2 O2, X2 = ov O2 H2 ∧ Nx F T (upd C Dp (.dK av)) W2 H1 H2 O2 ∧ (av.map (·.1) = acc.map (·.1) ∧ (acc.map (·.1)).Nodup ∧ DenL F T H2 (acc.map (·.2)) (av.map (·.2))) ∧ I (i + 1) acc W2, fun X2 y => ⟨ds.length - (i + 1), by omega, rfl, hlt, y⟩, fun x X2 y => ?_⟩
      obtain ⟨H2, s2, d2, rfl, kx⟩ := k2 x X2 y
      refine turn i ds[i] acc W' (by simp [hlt]) ii H2 _ _ x ((lo1.mono s2).wipe vs) d2.same kx _ fun G3 σ3 et l3 wz => ⟨wz.trans wipe_wipe, ?_⟩
      refine et (upd C Dp (.dK av)) H2 O' σ3 ⟨d2, n.oc, l3, n.own.mono s2⟩ _ fun b W3 H3 O3 r3 n3 => ?_
      have n03 : Nx F T (upd C Dp (.dK av)) W3 H1 H3 O3 := ⟨(n.ext.trans s2).trans n3.ext, n3.dis, n3.oc, n3.own⟩
      cases b with
      | false => exact ⟨acc, av, W3, H3, O3, rfl, n03, ⟨ka1, ka2, (ka.mono s2).mono n3.ext⟩, r3⟩
      | true =>
        have w3 : Wd F T (upd C Dp (.dK av)) G3 W3 H3 O3 σ3 := ⟨n3.dis, n3.oc, l3.mono n3.ext, n3.own⟩
        refine r3 (upd C Dp (.dK av)) H3 O3 σ3 w3 _ fun y W4 H4 O4 yv r4 n4 k4 => ?_
        refine r4 (upd C Dp (.dK av)) H4 O4 σ3 (w3.step n4) _ fun z W5 H5 O5 zv ⟨k', ey, hz, i5⟩ n5 k5 => ?_
        subst ey
        have k4 : yv = kV k' := k4
        subst k4
        have hO : ov O5 H5 Dp = some (.dK av) := ov_own (n5.oc Dp _ upd_same)
        have ka5 := (((ka.mono s2).mono n3.ext).mono n4.ext).mono n5.ext
        have hl2 : av.length = acc.length := by
          have := congrArg List.length ka1
          rwa [List.length_map, List.length_map] at this
        refine ⟨av, k', rfl, hO, by rw [hl2]; exact hz, ?_⟩
        obtain ⟨n6, e6⟩ := Nx.rehide (o' := .dK (putK av k' zv)) ((n03.trans n4).trans n5) cp
        exact ⟨putG acc k' z, putK av k' zv, W5, H5, _, e6, n6, ⟨(putG_V av k' zv) ▸ putG_keys (z := zv) (y := z) ka1, putG_nodup ka2, (putG_V av k' zv) ▸ putG_den k5 ka1 ka5⟩, i5⟩
    · have e : i = ds.length := by omega
      subst e
      refine .inl ⟨k.2 rfl, ?_⟩
      obtain ⟨n6, np⟩ := n.show (od := .dp acc) cp ⟨av, rfl, ka1, ka2, ka⟩
      exact q (.adr Dp) _ H' O' _ (fin acc W' ii Dp np) (Nx.trans ⟨n1.ext, n1.dis, n1.oc, n1.own⟩ n6) rfl

/-! ### further walks -/
def pairsD : Nat → List D → List D
  | _, [] => []
  | n, d :: l => .tup [.int (n : Nat), d] :: pairsD (n + 1) l
theorem pairsD_len : ∀ {l : List D} {n : Nat}, (pairsD n l).length = l.length
  | [], _ => rfl
  | d :: l, n => by
    show (pairsD (n + 1) l).length + 1 = l.length + 1
    rw [pairsD_len]
theorem pairsD_get : ∀ {l : List D} {n i : Nat} {z : D}, (pairsD n l)[i]? = some z → ∃ d, l[i]? = some d ∧ z = .tup [.int ((n + i : Nat) : Int), d]
  | [], _, i, z, h => by simp [pairsD] at h
  | d :: l, n, 0, z, h => ⟨d, rfl, (Option.some.inj h).symm⟩
  | d :: l, n, i + 1, z, h => by
    have h : (pairsD (n + 1) l)[i]? = some z := h
    obtain ⟨e, h1, h2⟩ := pairsD_get h
    refine ⟨e, h1, ?_⟩
    rw [h2]
    have : n + 1 + i = n + (i + 1) := by omega
    rw [this]
theorem ei_enum {Y : List D → Om → Prop} (h : EvA F T tr G W fun es W1 => ∃ l, es = [.lst l] ∧ Y (pairsD 0 l) W1) : EvI F T (iEnum T.K tr) G W Y := fun C H O σ w Q q =>
  h C H O σ w _ fun es W1 H1 O1 us ⟨l, e, z⟩ n k => by
    subst e
    obtain ⟨x, r, e1, k1, e2⟩ := k
    have e2 : r = [] := e2
    obtain ⟨a, xs, ea, hs, kl⟩ := k1
    subst e1 e2 ea
    refine ⟨a, xs, rfl, n.dis.same.seq hs, q _ _ W1 H1 O1 z n fun i H2 O2 s di => ⟨fun d hd => ?_, fun e => ⟨xs, di.same.seq (s.seq hs), by rw [kl.len, e, pairsD_len]; exact Nat.le_refl _⟩⟩⟩
    obtain ⟨y, hy, ed⟩ := pairsD_get hd
    obtain ⟨v, hv, kv⟩ := kl.get hy
    have hq : SqL T.K (ov O2 H2) a xs := di.same.seq (s.seq hs)
    refine ⟨⟨xs, v, hq, hv⟩, fun x X ⟨Tp, u, e1, e2, e3, e4⟩ => ?_⟩
    have hu := e4 xs hq
    rw [hv] at hu
    cases hu
    obtain ⟨h1, h2⟩ := ov_none e2
    have sm := same_upd (o := .tup [.int (i : Nat), v]) h2
    refine ⟨upd H2 Tp (.tup [.int (i : Nat), v]), sm, di.updH h1, by rw [e3, ov_updH h1], ?_⟩
    subst ed
    exact ⟨Tp, _, e1, SqT.of upd_same, _, _, rfl, by rw [Nat.zero_add]; rfl, .one ((kv.mono s).mono sm)⟩
theorem ei_str {Y : List D → Om → Prop} (h : Ev F T te G W fun d W1 => ∃ z : Str, d = .str z ∧ Y (z.cps.toList.map fun c => .str ⟨#[c]⟩) W1) : EvI F T (iStr te) G W Y := fun C H O σ w Q q =>
  h C H O σ w _ fun d W1 H1 O1 v ⟨z, e, y⟩ n k => by
    subst e
    have k : v = .str z := k
    refine ⟨z, k, q _ _ W1 H1 O1 y n fun i H2 O2 s di => ⟨fun d hd => ?_, fun e => ?_⟩⟩
    · rw [List.getElem?_map] at hd
      cases hc : z.cps.toList[i]? with
      | none =>
        rw [hc] at hd
        cases hd
      | some c =>
        rw [hc] at hd
        have hd : D.str ⟨#[c]⟩ = d := Option.some.inj hd
        subst hd
        have hc' : z.cps[i]? = some c := by simpa using hc
        refine ⟨(Array.getElem?_eq_some_iff.mp hc').1, fun x X ⟨e1, c2, e2, e3⟩ => ⟨H2, Same.refl _, di, e1, ?_⟩⟩
        rw [hc'] at e2
        cases e2
        exact e3
    · rw [List.length_map, Array.length_toList] at e
      show z.cps.size ≤ i
      omega
end
end N

set_option Elab.async false
set_option linter.all false
set_option maxRecDepth 100000
/-! Rules of the machine that the layer lacks: own operators, stores to attributes in any target, calls by keywords alone. -/
namespace N
open PySem PySem.Spec PyProof.Rows L2

section
variable {X : Cx} {CX : CXT} {k : Nat} {C f : Addr} {fd : FuncData} {ps ks : List Str} {sp : Sp} {E : XK} {pins : List (Addr × Obj)} {σ : L2.St} {H : Hp} {s : Shared}
/-- a def is called from anywhere within the body -/
theorem run_at {A : Around} {vs : List V} {us : List Value} {Q : VK} (F : FnOk X.prog X.w X.K X.mg X.base CX k f fd ps sp) (hr : Room k A) (fr : A.frames = X.A.frames) (hb : Binds X.K fd ps []) (hx : Passes CX X E) (I : Inv X pins σ H s) (r : Vals vs us) (h : sp vs H Q E) :
    wpAny (model X.prog X.w) A (call (.ref f) us) (EP X pins σ Q) X.xe s := by
  have e := I.env0
  have e0 : Env0 X.prog X.w X.K X.mg X.base A X.stack s H := ⟨by rw [fr]; exact e.frames, e.mod, e.bs, e.bsz, e.funs, e.frf, e.hok, e.bare⟩
  have hl : us.length = ps.length := by rw [← r.length]; exact F.len _ _ _ _ h
  have hb' := hb s us I.kIn (by simpa using hl)
  simp only [List.append_nil] at hb'
  refine wpAny_call (codeAny_mono (F.run A X.stack s H ⟨us, []⟩ us vs Q E hr e0 hb' r h) fun r s' hq => ?_)
  cases r with
  | error e => exact hx pins σ H s e s' I hq
  | ok fl =>
    cases fl with
    | ret u => exact I.after hq
    | next => exact False.elim hq
    | brk => exact False.elim hq
    | cont => exact False.elim hq
/-- an instance's method of the class, by a name between two underscores -/
structure Own2 (K : PySem.W.Frag) (C : Addr) (m : Str) (f : Addr) : Prop where
  at_ : PySem.W.findIn K (.ref C) m = some (some (.ref f))
  fn : PySem.W.isFn K (.ref f) = true
def rOwn1 (C : Addr) (sp : Sp) (E : XK) : V → Hp → VK → Prop := fun x H Q => ∃ a dx fs, x = .ref a ∧ H a = some (.ins C dx fs) ∧ sp [x] H Q E
def rOwn2 (C : Addr) (sp : Sp) (E : XK) : R2 := fun x y H Q => ∃ a b dx dy fs gs, x = .ref a ∧ y = .ref b ∧ H a = some (.ins C dx fs) ∧ H b = some (.ins C dy gs) ∧ sp [x, y] H Q E
theorem inst_of {a dx : Addr} {fs : List (Str × V)} (I : Inv X pins σ H s) (e : H a = some (.ins C dx fs)) : ∃ od, PySem.W.InstAt s.heap a (PySem.W.instObj C dx) C (some od) := by
  obtain ⟨mA, J, _⟩ := ins_get I.hok e
  obtain ⟨od, J, _⟩ := J.look
  exact ⟨od, J⟩
theorem back_of {Q : VK} {v : Value} {s' : Shared} (h : EP X pins σ Q v s') : PySem.W.CmpBack (EP X pins σ Q) v s' := by
  obtain ⟨x, H', I', r, q⟩ := id h
  cases x with
  | non => cases r; exact h
  | bl _ => cases r; exact h
  | int _ => obtain ⟨t, rfl⟩ := r; exact h
  | str _ => obtain ⟨t, rfl⟩ := r; exact h
  | byt _ => obtain ⟨t, rfl⟩ := r; exact h
  | flt _ => obtain ⟨t, rfl⟩ := r; exact h
  | ref _ => cases r; exact h
  | ty _ => cases r; exact h
/-- x op y by the own method, both of the class -/
theorem op_own {op : Operator} (F : FnOk X.prog X.w X.K X.mg X.base CX k f fd ps sp) (hr : Room k X.A) (o : Own2 X.K C (PySem.dunder op.info.2) f) (hc : PySem.W.selfFirst X.K C = true) (hb : Binds X.K fd ps []) (hx : Passes CX X E) : OpR X (binaryOp op) (rOwn2 C sp E) := by
  intro pins s σ H x y v u Q I rx ry hq
  obtain ⟨a, b, dx, dy, fs, gs, rfl, rfl, ha, hb', q⟩ := hq
  cases rx
  cases ry
  obtain ⟨od, J⟩ := inst_of I ha
  obtain ⟨od', J'⟩ := inst_of I hb'
  obtain ⟨m, hF⟩ := I.fr
  refine PySem.W.binop_K hF I.ok.mod.kin J J'.type hc o.at_ o.fn ?_
  exact thn (run_at F hr rfl hb hx I (vs := [V.ref a, V.ref b]) (.cons rfl (.cons rfl .nil)) q) fun v s' h => back_of h
theorem un_own_inv (F : FnOk X.prog X.w X.K X.mg X.base CX k f fd ps sp) (hr : Room k X.A) (o : Own2 X.K C "__invert__" f) (hb : Binds X.K fd ps []) (hx : Passes CX X E) : UnR X (unaryOp .Invert) (rOwn1 C sp E) := by
  intro pins s σ H x v Q I rx hq
  obtain ⟨a, dx, fs, rfl, ha, q⟩ := hq
  cases rx
  obtain ⟨od, J⟩ := inst_of I ha
  obtain ⟨m, hF⟩ := I.fr
  exact PySem.W.ksp_inv hF I.ok.mod.kin J o.at_ o.fn (run_at F hr rfl hb hx I (vs := [V.ref a]) (.cons rfl .nil) q)
/-- str(x) by the own method -/
theorem call_own_str (F : FnOk X.prog X.w X.K X.mg X.base CX k f fd ps sp) (hr : Room (k + 2) X.A) (o : Own2 X.K C "__str__" f) (hb : Binds X.K fd ps []) (hx : Passes CX X E) :
    CallR X (.type "str") (fun xs H Q => ∃ a dx fs, xs = [.ref a] ∧ H a = some (.ins C dx fs) ∧ sp [.ref a] H (fun v H' => (∃ z, v = .str z) ∧ Q v H') E) := by
  intro pins s σ H xs us Q I r hq
  obtain ⟨a, dx, fs, rfl, ha, q⟩ := hq
  obtain ⟨u, rfl, rx⟩ := vals1 r
  cases rx
  obtain ⟨od, J⟩ := inst_of I ha
  have h1 := hr.in1
  have h2 := h1.in1
  refine PySem.W.kso_call h2.units0 I.kIn J o.at_ o.fn (thn (run_at F h2 rfl hb hx I (vs := [V.ref a]) (.cons rfl .nil) q) fun v s' h => ?_)
  obtain ⟨x, H', I', rx, ⟨z, ez⟩, q'⟩ := h
  subst ez
  obtain ⟨t, rfl⟩ := rx
  exact ⟨.str z, H', I', ⟨t, rfl⟩, q'⟩
/-- len(x) by the own method -/
theorem call_own_len (F : FnOk X.prog X.w X.K X.mg X.base CX k f fd ps sp) (hr : Room (k + 1) X.A) (o : Own2 X.K C "__len__" f) (hb : Binds X.K fd ps []) (hx : Passes CX X E) :
    CallR X (.builtin "len") (fun xs H Q => ∃ a dx fs, xs = [.ref a] ∧ H a = some (.ins C dx fs) ∧ sp [.ref a] H (fun v H' => (∃ n : Int, v = .int n ∧ 0 ≤ n ∧ n < 2 ^ 63) ∧ Q v H') E) := by
  intro pins s σ H xs us Q I r hq
  obtain ⟨a, dx, fs, rfl, ha, q⟩ := hq
  obtain ⟨u, rfl, rx⟩ := vals1 r
  cases rx
  obtain ⟨od, J⟩ := inst_of I ha
  obtain ⟨m, hF⟩ := I.fr
  refine PySem.W.len_K hF I.ok.mod.kin J o.at_ o.fn (thn (run_at F hr.in1 rfl hb hx I (vs := [V.ref a]) (.cons rfl .nil) q) fun v s' h => ?_)
  obtain ⟨x, H', I', rx, ⟨n, ez, h0, h1⟩, q'⟩ := h
  subst ez
  obtain ⟨t, rfl⟩ := rx
  exact ⟨⟨h0, h1⟩, .int n, H', I'.tok _, ⟨_, rfl⟩, q'⟩
/-- o.f as a target -/
theorem pg_fld {o : Expr} {g : Str} {pos : Pos} {ta : TE} (ha : PE X o ta) : PG X (.Attribute o g pos) (gFld X.K ta g) := by
  refine ⟨fun pins s σ H v u Q I r h => ?_⟩
  rw [assign_Attribute]
  refine wpAny_bind (wpAny_holding (thn (ha.run pins s σ H _ I h) fun ov s1 ⟨x, H1, I1, r1, a, C, dx, fs, ex, ea, c, n, l, q⟩ => ?_))
  subst ex
  obtain rfl : ov = Value.ref a := r1
  refine wpAny_bind (wpAny_standAt (wpAny_bind (wpAny_holding (setattr_ok I1 ea c n l r fun s3 I3 => ?_))))
  exact wpAny_release ⟨σ, _, I3, q⟩
/-- f(k = v, ..), by keywords alone -/
theorem pe_callN0 {x : Str} {p pos : Pos} {kws : List Keyword} {tk : TA} {g : List Value → List Value → List Value} {gV : List V → List V → List V} (F : FnOk X.prog X.w X.K X.mg X.base CX k f fd ps sp) (hr : Room k X.A) (hg : Gl X x) (hm : X.mg x = some (.ref f)) (hk : PySem.W.keepIn X.K (.ref f) = true)
    (hb : KBn X.K fd ps 0 ks g gV) (hx : Passes CX X E) (hkw : PK X kws tk)
    (hall : (backToKw pos (keywordEach kws X.env)).all (·.1.isSome) = true := by rfl) (hks : (backToKw pos (keywordEach kws X.env)).filterMap (·.1) = ks := by rfl)
    (hdb : (x == ("__debug__" : Str)) = false := by decide)
    (hpl : ((backTo pos (starEach [] X.env)).any (·.1) || (backToKw pos (keywordEach kws X.env)).any (·.1.isNone)) = false := by rfl) :
    PE X (.Call (.Name x p) [] kws pos) (fun σ H Q => tk σ H fun zs H2 => zs.length = ks.length ∧ sp (gV [] zs) H2 Q E) := by
  refine ⟨fun pins s σ H Q I h => ?_⟩
  refine wpAny_Call_Name_kw (ld_glob I hg hm ?_ hdb)
  refine PySem.W.callWith_KW0 (h₀ := X.base) I.ok.mod.kin hk hall ?_ hpl
  refine thn (hkw.run pos pins s σ H _ I h) fun ws s2 ⟨zs, H2, I2, rz, l2, q2⟩ => ⟨I2.kIn, ?_⟩
  rw [hks]
  exact run_fnN (us := []) (vs := []) F hr hb hx I2 .nil rz rfl l2 q2
end
end N

set_option Elab.async false
set_option linter.all false
set_option maxRecDepth 100000
/-! Plain data as the model's own data: ==, repr; defs that know what guards run; the end of a law. -/
namespace N
open PySem PySem.Spec PyProof.Rows L2

mutual
def D.pd : D → Option PyData
  | .vl .non => some .none
  | .vl (.bl b) => some (.bool b)
  | .vl (.int i) => some (.int i)
  | .vl (.str s) => some (.str s)
  | .vl _ => none
  | .tup l => (pdL l).map .tuple
  | .lst l => (pdL l).map .list
  | .dct _ _ => none
  | .obj _ _ _ => none
  | .fm _ => none
def pdL : List D → Option (List PyData)
  | [] => some []
  | d :: l => match D.pd d, pdL l with
    | some p, some r => some (p :: r)
    | _, _ => none
end
theorem pdL_cons {d : D} {l : List D} {p : PyData} {r : List PyData} (h1 : d.pd = some p) (h2 : pdL l = some r) : pdL (d :: l) = some (p :: r) := by
  simp only [pdL, h1, h2]
theorem pdL_map {α : Type} (f : α → D) (g : α → PyData) (h : ∀ x, (f x).pd = some (g x)) : ∀ l : List α, pdL (l.map f) = some (l.map g)
  | [] => rfl
  | x :: l => pdL_cons (h x) (pdL_map f g h l)
theorem pd_tup {l : List D} {r : List PyData} (h : pdL l = some r) : (D.tup l).pd = some (.tuple r) := by simp only [D.pd, h, Option.map_some]
theorem pd_lst {l : List D} {r : List PyData} (h : pdL l = some r) : (D.lst l).pd = some (.list r) := by simp only [D.pd, h, Option.map_some]
section
variable {F : FmKit} {T : Kx} {C H H' O O' : Hp} {G : Gm} {W W' : Om} {R R' : D → Om → Prop}
mutual
theorem Den.dp : ∀ (d : D) (v : V) (p : PyData), Den F T H d v → d.pd = some p → Dp T.K H v p
  | .vl .non, _, p, h, e => by
    have h : _ = _ := h
    simp only [D.pd, Option.some.injEq] at e
    subst h e
    exact .non
  | .vl (.bl b), _, p, h, e => by
    have h : _ = _ := h
    simp only [D.pd, Option.some.injEq] at e
    subst h e
    exact .bl b
  | .vl (.int i), _, p, h, e => by
    have h : _ = _ := h
    simp only [D.pd, Option.some.injEq] at e
    subst h e
    exact .int i
  | .vl (.str s), _, p, h, e => by
    have h : _ = _ := h
    simp only [D.pd, Option.some.injEq] at e
    subst h e
    exact .str s
  | .vl (.byt _), _, p, _, e => by simp only [D.pd] at e; cases e
  | .vl (.flt _), _, p, _, e => by simp only [D.pd] at e; cases e
  | .vl (.ref _), _, p, _, e => by simp only [D.pd] at e; cases e
  | .vl (.ty _), _, p, _, e => by simp only [D.pd] at e; cases e
  | .tup l, _, p, ⟨a, xs, h1, h2, h3⟩, e => by
    subst h1
    simp only [D.pd] at e
    cases q : pdL l with
    | none =>
      rw [q] at e
      cases e
    | some r =>
      rw [q] at e
      cases e
      exact .tup h2 (DenL.dp l xs r h3 q)
  | .lst l, _, p, ⟨a, xs, h1, h2, h3⟩, e => by
    subst h1
    simp only [D.pd] at e
    cases q : pdL l with
    | none =>
      rw [q] at e
      cases e
    | some r =>
      rw [q] at e
      cases e
      exact .lst h2 (DenL.dp l xs r h3 q)
  | .dct _ _, _, p, _, e => by simp only [D.pd] at e; cases e
  | .obj _ _ _, _, p, _, e => by simp only [D.pd] at e; cases e
  | .fm _, _, p, _, e => by simp only [D.pd] at e; cases e
theorem DenL.dp : ∀ (l : List D) (vs : List V) (ps : List PyData), DenL F T H l vs → pdL l = some ps → DpAll T.K H vs ps
  | [], _, ps, h, e => by
    have h : _ = _ := h
    simp only [pdL, Option.some.injEq] at e
    subst h e
    exact .nil
  | d :: l, _, ps, ⟨v, r, h1, h2, h3⟩, e => by
    subst h1
    simp only [pdL] at e
    cases q : D.pd d with
    | none =>
      rw [q] at e
      cases e
    | some p =>
      cases q2 : pdL l with
      | none =>
        rw [q, q2] at e
        cases e
      | some rs =>
        rw [q, q2] at e
        cases e
        exact .cons (Den.dp d v p h2 q) (DenL.dp l r rs h3 q2)
end
/-- d is the datum p: frozen, or an owned list of such -/
def Vp (W : Om) (d : D) (p : PyData) : Prop := d.pd = some p ∨ ∃ l, Vl W d l ∧ (D.lst l).pd = some p
theorem Vp.at {d : D} {p : PyData} {x : V} (h : Vp W d p) (di : Dis O H) (ow : Ow F T H C O W) (k : Den F T H d x) : Dp T.K (ov O H) x p := by
  rcases h with h | ⟨l, hv, h⟩
  · exact Den.dp d x p (k.mono di.same) h
  · obtain ⟨a, xs, e, hs, kl⟩ := hv.sq ow di k
    exact Den.dp (H := ov O H) (.lst l) x p ⟨a, xs, e, hs, kl.mono di.same⟩ h
theorem bo_eqD {d1 d2 : D} {p q : PyData} (h1 : Vp W d1 p) (h2 : Vp W d2 q) (s1 : SeqAt.shaped p = true) (s2 : SeqAt.shaped q = true) (r : R (.bl (PyData.eqv p q)) W) : Bo F T (rEqD T.K) d1 d2 W R := fun C H O di oc ow x y hx hy Q k =>
  ⟨p, q, h1.at di ow hx, h2.at di ow hy, s1, s2, k _ W H O _ r (.refl di oc ow) rfl⟩
theorem bo_neD {d1 d2 : D} {p q : PyData} (h1 : Vp W d1 p) (h2 : Vp W d2 q) (s1 : SeqAt.shaped p = true) (s2 : SeqAt.shaped q = true) (r : R (.bl (!PyData.eqv p q)) W) : Bo F T (rNeD T.K) d1 d2 W R := fun C H O di oc ow x y hx hy Q k =>
  ⟨p, q, h1.at di ow hx, h2.at di ow hy, s1, s2, k _ W H O _ r (.refl di oc ow) rfl⟩
end

/-! ### repr -/
structure Shw (p : PyData) : Prop where
  sh : p.showable = true
  nd : p.hasDict = false
  dp : p.depth ≤ 30
  sz : p.shown.length ≤ sizeLine
def rRep (K : PySem.W.Frag) : List V → Hp → VK → Prop := fun xs H Q => ∃ x p, xs = [x] ∧ Dp K H x p ∧ Shw p ∧ Q (.str p.shown) H
theorem call_repr_data {X : Cx} (hg : X.A.guards = some []) (hu : X.A.units + 64 < cLine) : CallR X (.builtin "repr") (rRep X.K) := by
  intro pins s σ H xs us Q I r h
  obtain ⟨x, p, rfl, hp, hs, q⟩ := h
  obtain ⟨u, rfl, rx⟩ := vals1 r
  have fin : ∀ t tk, EP X pins σ Q (.str p.shown t) { s with toks := tk } := fun t tk => ⟨.str p.shown, H, I.tok _, ⟨_, rfl⟩, q⟩
  have viaRef : ∀ a, u = .ref a → wpAny (model X.prog X.w) X.A (call (.builtin "repr") [u]) (EP X pins σ Q) X.xe s := fun a e => by
    subst e
    obtain ⟨as, rd⟩ := Dp.reads I p x _ hp rx
    have := hs.dp
    exact repr_of_reads' rd hs.sh (fun z => by rw [hs.nd] at z; cases z) hg (by omega) (fun _ _ e => e) (fun h' u tk hk => ⟨.str p.shown, H, I.kept (t' := tk) hk, ⟨_, rfl⟩, q⟩) hs.sz
  cases hp with
  | non =>
    cases rx
    exact PySem.P.repr_of_none (fin _ _)
  | bl b =>
    cases rx
    refine PySem.P.repr_of_bool ?_
    have e : (if b then "True" else "False" : Str) = (PyData.bool b).shown := by cases b <;> rfl
    exact fin _ _
  | int i =>
    obtain ⟨t, rfl⟩ := rx
    have h1 : i.natAbs.log2 < 1920 := by simpa [PyData.showable] using hs.sh
    exact PySem.P.repr_of_int h1 (fin _ _)
  | str z =>
    obtain ⟨t, rfl⟩ := rx
    exact PySem.P.repr_of_str (fin _ _) (by simpa [PyData.shown] using hs.sz)
  | lst h1 h2 =>
    cases rx
    exact viaRef _ rfl
  | tup h1 h2 =>
    cases rx
    exact viaRef _ rfl
section
variable {F : FmKit} {T : Kx} {W : Om} {R : D → Om → Prop}
theorem ca_repr {d : D} {p : PyData} (h : Vp W d p) (hs : Shw p) (r : R (.str p.shown) W) : Ca F T (rRep T.K) [d] W R := ca_one fun C H O di oc ow x k Q q =>
  ⟨x, p, rfl, h.at di ow k, hs, q _ W H O _ r (.refl di oc ow) rfl⟩
end

/-! ### defs that know that no guard runs -/
def FnG (P : Program) (w : World) (K : PySem.W.Frag) (mg : Str → Option Value) (base : Heap) (k : Nat) (f : Addr) (sp : Sp) : Prop :=
  ∀ (A : Around) (outer : List Env) (s : Shared) (H : Hp) (us : List Value) (vs : List V) (Q : VK), A.guards = some [] → Room k A → Env0 P w K mg base A outer s H → Vals vs us → sp vs H Q E0 → codeAny (model P w) A (.call (.ref f) ⟨us, []⟩) (CR CX0 outer P w H s Q E0) s
section
variable {P : Program} {w : World} {K : PySem.W.Frag} {mg : Str → Option Value} {base : Heap}
theorem Fun.okG {x qual : Str} {st : Stmt} {f : Addr} {fd : FuncData} {N ps : List Str} {k : Nat} {sp : Sp} (Fn : Fun K x qual st f fd) (S : FnScope N ps (defScope st)) (len : ∀ vs H Q E, sp vs H Q E → vs.length = ps.length)
    (hb : ∀ (kV doc pm : Value) (an : Option Addr) (cdv ct : Value) (us : List Value), us.length = ps.length → bindArgs (PySem.W.fnOf x qual (defArgs st) (defBody st) (defScope st) .none kV doc pm an cdv ct) ⟨us, []⟩ = pure (ps.zip us))
    (hbody : ∀ (cdv : Value) (A : Around) (outer : List Env) (s : Shared) (H : Hp) (vs : List V) (Q : VK), (A.deeper (envOfC qual (defScope st) s.heap.objs.size f cdv)).guards = some [] → Room k (A.deeper (envOfC qual (defScope st) s.heap.objs.size f cdv)) → sp vs H Q E0 →
      ∃ t, PSs (cxOf CX0 P w K mg base N qual (defScope st) f cdv A outer s H E0).nox (defBody st) t ∧ t { nx := fun _ H' => Q .non H', rt := Q } (start N vs) H) : FnG P w K mg base (k + 1) f sp := by
  obtain ⟨oc, od, kV, doc, pm, an, cdv, ct, osl, rfl, lk, hcd⟩ := Fn.ex
  intro A outer s H us vs Q hg hr e0 r hsp
  have hl := len _ _ _ _ hsp
  refine StX.run_bnd lk hcd S hr e0 (G := fun xs H2 => xs = vs ∧ H2 = H) (fun A' Ex Q' h => ?_) fun s2 H2 xs ⟨e1, e2⟩ hr' => ?_
  · rw [hb kV doc pm an cdv ct us (by rw [← r.length]; exact hl)]
    exact wpAny_pure (h s H vs us e0 Un.refl rfl (fun _ _ z => z) r hl ⟨rfl, rfl⟩)
  · subst e1 e2
    obtain ⟨t, ht, q⟩ := hbody cdv A outer s2 _ _ Q hg hr' hsp
    exact ⟨t, ht.nox, q⟩
theorem run_fnG {X : Cx} {k : Nat} {f : Addr} {sp : Sp} {pins : List (Addr × Obj)} {σ : L2.St} {H : Hp} {s : Shared} {us : List Value} {vs : List V} {Q : VK} (Fn : FnG X.prog X.w X.K X.mg X.base k f sp) (hg : X.A.guards = some []) (hr : Room k X.A) (I : Inv X pins σ H s) (r : Vals vs us) (h : sp vs H Q E0) :
    wpAny (model X.prog X.w) X.A (call (.ref f) us) (EP X pins σ Q) X.xe s := by
  refine wpAny_call (codeAny_mono (Fn X.A X.stack s H us vs Q hg hr I.env0 r h) fun r s' hq => ?_)
  cases r with
  | error e => exact False.elim hq
  | ok fl =>
    cases fl with
    | ret u => exact I.after hq
    | next => exact False.elim hq
    | brk => exact False.elim hq
    | cont => exact False.elim hq
/-- f(e, ..), f such a def -/
theorem pe_callG {X : Cx} {k : Nat} {f : Addr} {sp : Sp} {x : Str} {p pos : Pos} {e : Expr} {es : List Expr} {t : TA} (Fn : FnG X.prog X.w X.K X.mg X.base k f sp) (hgd : X.A.guards = some []) (hr : Room k X.A) (hg : Gl X x) (hm : X.mg x = some (.ref f)) (hk : PySem.W.keepIn X.K (.ref f) = true)
    (ha : PA X (e :: es) t) (hdb : (x == ("__debug__" : Str)) = false := by decide)
    (he : starEach (e :: es) X.env = (false, eval e X.env) :: starEach es X.env := by rfl) (hpl : (backTo pos (starEach es X.env)).any (·.1) = false := by rfl) : PE X (.Call (.Name x p) (e :: es) [] pos) (tCall sp [] E0 t) := by
  refine ⟨fun pins s σ H Q I h => ?_⟩
  refine wpAny_Call_Name_kw (ld_glob I hg hm ?_ hdb)
  refine PySem.W.callWith_K (h₀ := X.base) I.ok.mod.kin hk (thn (ha.run pos pins s σ H _ I h) fun us s1 ⟨vs, H1, I1, r, q⟩ => ⟨I1.kIn, ?_⟩) he hpl
  have q : sp (vs ++ []) H1 Q E0 := q
  rw [List.append_nil] at q
  exact run_fnG Fn hgd hr I1 r q
end

/-! ### the end of a law -/
theorem lawG {P : Program} {w : World} {K : PySem.W.Frag} {mg mb : Str → Option Value} {k : Nat} {fa a : Addr} {sp : Sp} {s1 : Shared} {vs : List Value} {ns : List Int}
    (KX : K.In s1.heap) (hns : s1.heap.Ns mainGlobals mg) (hb : s1.heap.Ns builtinsNs mb) (hbb : ∀ x : Str, x ≠ "__name__" → mb x = bootBuiltins x) (hlim : s1.heap.NoLimit) (hg : s1.gens = #[])
    (ha : s1.heap.get? a = some { cls := .type "list", data := .seq vs.toArray }) (hi : IntsAre vs ns) (hl : ns.length ≤ sizeLine) (hr : Room k callerA)
    (Fn : ∀ base : Heap, K.In base → base.Ns mainGlobals mg → FnG P w K mg base k fa sp)
    (hsp : ∀ H : Hp, Only H → SqL K H a (ns.map V.int) → sp [.ref a] H (fun v _ => v = .bl true) E0) :
    codeAny (model P w) callerA (.call (.ref fa) ⟨[.ref a], []⟩) (fun r s' => r = .ok (.ret (.bool true)) ∧ OldK s1.heap s'.heap ∧ s'.os = s1.os ∧ AllBare s'.gens) s1 := by
  have rv := vals_ints hi
  have lenV := hi.length
  have core : ∀ H : Hp, Only H → SqL K H a (ns.map V.int) → HOk P w H s1.heap → (∀ b, H b ≠ none → b = a) → (H a ≠ none → K.lookup a = none) →
      codeAny (model P w) callerA (.call (.ref fa) ⟨[.ref a], []⟩) (fun r s' => r = .ok (.ret (.bool true)) ∧ OldK s1.heap s'.heap ∧ s'.os = s1.os ∧ AllBare s'.gens) s1 := by
    intro H hO hS hok hA hK
    have one : ∀ {b : Addr}, H b ≠ none → b = a := fun z => hA _ z
    have free : ∀ {b : Addr}, (b = a → False) → H b = none := fun {b} z => by
      cases q : H b with
      | none => rfl
      | some u => exact (z (one (by rw [q]; simp))).elim
    have notA : ∀ {b : Addr} {o : Obj} {es : Array DictEntry} {ep : Nat}, s1.heap.get? b = some o → o.data = .dict es ep → H b = none := fun {b o es ep} e d => free fun z => by
      subst z
      rw [ha] at e
      cases e
      cases (show Data.seq vs.toArray _ = Data.dict es ep from d)
    have nsK : ∀ {b : Addr} {m : Str → Option Value}, s1.heap.Ns b m → (hidT s1.heap H).Ns b m := fun ⟨o, es, ep, e, d, r⟩ => ⟨o, es, ep, hidT_get e (notA e d), d, r⟩
    have hKb : K.In (hidT s1.heap H) := fun b o e => hidT_get (KX b o e) (by
      cases q : H b with
      | none => rfl
      | some u =>
        have eb : b = a := one (by rw [q]; simp)
        subst eb
        rw [hK (by rw [q]; simp)] at e
        cases e)
    have hM : Mod K mg (hidT s1.heap H) := ⟨hKb, nsK hns, ⟨mb, nsK hb, hbb⟩, let ⟨mc, h1, h2⟩ := hlim; ⟨mc, nsK h1, h2⟩⟩
    have e0 : Env0 P w K mg (hidT s1.heap H) callerA [] s1 H := ⟨rfl, hM, fun b o e => of_hidT e, Nat.le_of_eq (hidT_size _ _), trivial, fun b hb => absurd (show b ∈ ([] : List Addr) from hb) (by simp), hok, .of_eq hg⟩
    refine codeAny_mono (Fn _ hKb (nsK hns) callerA [] s1 H [.ref a] [.ref a] _ rfl hr e0 (.cons rfl .nil) (hsp H hO hS)) fun r s' h => ?_
    cases r with
    | error e => exact False.elim h
    | ok fl =>
      cases fl with
      | next => exact False.elim h
      | brk => exact False.elim h
      | cont => exact False.elim h
      | ret u =>
        obtain ⟨v, H', os, bare, un, hok', r', q⟩ := h
        have ev : v = .bl true := q
        subst ev
        obtain rfl : u = Value.bool true := r'
        refine ⟨rfl, OldK.of_keep fun b o e => ?_, os, bare⟩
        cases q : H b with
        | none => exact un.keep b o e q (by intro z; exact absurd (show b ∈ ([] : List Addr) from z) (by simp)) (by simp)
        | some u =>
          rcases hO b with z | ⟨ob, xs, z⟩
          · rw [q] at z
            cases z
          · obtain ⟨e1, _⟩ := hok b _ z
            obtain ⟨e2, _⟩ := hok' b _ (un.frzs b ob _ z)
            rw [e] at e1
            cases e1
            exact e2
  cases hk : K.lookup a with
  | some o =>
    have e := KX a o hk
    rw [ha] at e
    cases e
    exact core (fun _ => none) (fun _ => .inl rfl) (.inr ⟨_, vs.toArray, _, hk, rfl, rfl, rfl, by rw [List.size_toArray, lenV]; exact hl, by simpa using rv⟩) (fun b u z => nomatch (show (none : Option HO) = some u from z)) (fun b z => absurd rfl z) fun z => absurd rfl z
  | none =>
    refine core (fun b => if b = a then some (.frz { cls := .type "list", data := .seq vs.toArray } (.lst (ns.map V.int))) else none) (fun b => ?_) (.inl (.inr ⟨{ cls := .type "list", data := .seq vs.toArray }, if_pos rfl⟩)) (fun b u z => ?_) (fun b z => ?_) fun _ => hk
    · by_cases hb : b = a
      · exact .inr ⟨_, _, if_pos hb⟩
      · exact .inl (if_neg hb)
    · by_cases hb : b = a
      · have e := (if_pos hb).symm.trans z
        cases e
        subst hb
        exact ⟨ha, by rw [List.length_map]; exact hl, vs, _, rv, ha⟩
      · cases (if_neg hb).symm.trans z
    · by_cases hb : b = a
      · exact hb
      · exact absurd (if_neg hb) z
theorem walkG {l : PySem.W.OpenLaw} {n k : Nat} {q : Program} {loose : List Str} {XP : (Str → Option Value) → Heap → Prop} {YP : World → Heap → Prop} {d : DefRec} {K : Params → PySem.W.Frag} {sp : PySem.W.Frag → Sp}
    (hn : l.most = some n) (hn2 : n ≤ sizeLine) (hdf : d.params.defaults = []) (hr : Room k callerA) (hY : ∀ (w : World) (h : Heap), YP w h → (K w.params).In h)
    (Fn : ∀ (w : World) (mg : Str → Option Value) (fa : Addr) (h : Heap), (K w.params).In h → h.Ns mainGlobals mg → mg d.name = some (.ref fa) → ∀ base : Heap, (K w.params).In base → base.Ns mainGlobals mg → FnG l.prog w (K w.params) mg base k fa (sp (K w.params)))
    (hsp : ∀ (K : PySem.W.Frag) (H : Hp) (a : Addr) (ns : List Int), ns.length ≤ n → Only H → SqL K H a (ns.map V.int) → sp K [.ref a] H (fun v _ => v = .bl true) E0) :
    PySem.W.WalkO q loose XP YP l.row.toRowW d [] (fun f vs => PySem.call f vs) := by
  refine Att.attach_call hn hdf fun w s0 s1 mg mb fa o pm cd doc a vs ns G Y ho hd hcd hmg hobj hints hlen hg => ?_
  have KX := hY w _ Y
  exact lawG KX G.T.g G.T.b G.T.builtins G.T.nolimit hg hobj hints (Nat.le_trans hlen hn2) hr (Fn w mg fa _ KX G.T.g hmg) fun H hO hS => hsp (K w.params) H a ns hlen hO hS
end N

set_option Elab.async false
set_option linter.all false
set_option maxRecDepth 100000
/-! From a body over plain data to a def's promise. -/
namespace N
open PySem PySem.Spec PyProof.Rows L2

def startD (N : List Str) (ds : List D) : Gm := ds.map some ++ List.replicate (N.length - ds.length) none
section
variable {F : FmKit} {T : Kx} {H : Hp}
theorem DenL.lo {N : List Str} {ds : List D} {vs : List V} (k : DenL F T H ds vs) : Lo F T H (startD N ds) (L2.start N vs) := by
  refine ⟨?_, fun i d h => ?_⟩
  · unfold L2.start startD
    simp [k.len]
  · unfold startD at h
    unfold L2.start
    by_cases hi : i < ds.length
    · rw [List.getElem?_append_left (by simpa using hi), List.getElem?_map] at h
      cases e : ds[i]? with
      | none =>
        rw [e] at h
        cases h
      | some d' =>
        rw [e] at h
        cases h
        obtain ⟨v, hv, kv⟩ := k.get e
        refine ⟨v, ?_, kv⟩
        rw [List.getElem?_append_left (by rw [List.length_map, k.len]; exact hi), List.getElem?_map, hv]
        rfl
    · rw [List.getElem?_append_right (by simpa using hi), List.getElem?_replicate] at h
      split at h <;> cases h
end
section
variable {P : Program} {w : World} {K : PySem.W.Frag} {mg : Str → Option Value} {base : Heap} {F : FmKit} {cl : Nat → Addr} {S : FS}
theorem spN_len {n : Nat} (len : ∀ ds W post, S ds W post → ds.length = n) : ∀ vs H Q E, spN F ⟨K, cl⟩ S vs H Q E → vs.length = n := fun vs H Q E ⟨ds, W, C, H1, O, post, _, _, _, _, k, h, _⟩ => by
  rw [k.len]
  exact len ds W post h
/-- the end of a body meets the wish of the call -/
theorem body_run {N : List Str} {t : TS} {vs : List V} {H : Hp} {Q : VK} {E : XK} (h : spN F ⟨K, cl⟩ S vs H Q E) (b : ∀ ds W post, S ds W post → Sw F ⟨K, cl⟩ t (startD N ds) W (E_ post)) : t { nx := fun _ H' => Q .non H', rt := Q } (L2.start N vs) H := by
  obtain ⟨ds, W, C, H1, O, post, e, di, oc, ow, k, hs, q⟩ := h
  subst e
  exact b ds W post hs C H1 O _ ⟨di, oc, k.lo, ow⟩ _ ⟨fun G W' H' O' σ' r n l => q .non W' H' O' .non r n rfl, fun d W' H' O' v r n kd => q d W' H' O' v r n kd, fun _ _ _ _ _ z => z.elim, fun _ _ _ _ _ z => z.elim⟩
theorem okD {x qual : Str} {st : Stmt} {f : Addr} {fd : FuncData} {N ps : List Str} {k : Nat} (Fn : Fun K x qual st f fd) (Sc : FnScope N ps (defScope st)) (len : ∀ ds W post, S ds W post → ds.length = ps.length)
    (body : ∀ (cdv : Value) (A : Around) (outer : List Env) (s : Shared) (H : Hp) (E : XK), Room k (A.deeper (envOfC qual (defScope st) s.heap.objs.size f cdv)) →
      ∃ t, PSs (cxOf CX0 P w K mg base N qual (defScope st) f cdv A outer s H E).nox (defBody st) t ∧ ∀ ds W post, S ds W post → Sw F ⟨K, cl⟩ t (startD N ds) W (E_ post)) : FnOk P w K mg base CX0 (k + 1) f fd ps (spN F ⟨K, cl⟩ S) :=
  Fn.ok Sc (spN_len len) fun cdv A outer s H vs Q E hr h => let ⟨t, ht, b⟩ := body cdv A outer s H E hr; ⟨t, ht, body_run h b⟩
theorem okG {x qual : Str} {st : Stmt} {f : Addr} {fd : FuncData} {N ps : List Str} {k : Nat} (Fn : Fun K x qual st f fd) (Sc : FnScope N ps (defScope st)) (len : ∀ ds W post, S ds W post → ds.length = ps.length)
    (hb : ∀ (kV doc pm : Value) (an : Option Addr) (cdv ct : Value) (us : List Value), us.length = ps.length → bindArgs (PySem.W.fnOf x qual (defArgs st) (defBody st) (defScope st) .none kV doc pm an cdv ct) ⟨us, []⟩ = pure (ps.zip us))
    (body : ∀ (cdv : Value) (A : Around) (outer : List Env) (s : Shared) (H : Hp), (A.deeper (envOfC qual (defScope st) s.heap.objs.size f cdv)).guards = some [] → Room k (A.deeper (envOfC qual (defScope st) s.heap.objs.size f cdv)) →
      ∃ t, PSs (cxOf CX0 P w K mg base N qual (defScope st) f cdv A outer s H E0).nox (defBody st) t ∧ ∀ ds W post, S ds W post → Sw F ⟨K, cl⟩ t (startD N ds) W (E_ post)) : FnG P w K mg base (k + 1) f (spN F ⟨K, cl⟩ S) :=
  Fun.okG Fn Sc (spN_len len) hb fun cdv A outer s H vs Q hg hr h => let ⟨t, ht, b⟩ := body cdv A outer s H hg hr; ⟨t, ht, body_run h b⟩
/-- a def with a star behind n names -/
def starS (n : Nat) (S : FS) : FS := fun ds W post => n ≤ ds.length ∧ ds.length ≤ 1000 ∧ S (ds.take n ++ [.tup (ds.drop n)]) W post
theorem okS {x qual : Str} {st : Stmt} {f : Addr} {fd : FuncData} {N ps : List Str} {k : Nat} {pv : Str} (Fn : Fun K x qual st f fd) (Sc : FnScope N (ps ++ [pv]) (defScope st))
    (hb : ∀ (kV doc pm : Value) (an : Option Addr) (cdv ct : Value) (us rest : List Value), us.length = ps.length → bindArgs (PySem.W.fnOf x qual (defArgs st) (defBody st) (defScope st) .none kV doc pm an cdv ct) ⟨us ++ rest, []⟩ = (newTuple rest >>= fun t => pure (ps.zip us ++ [(pv, t)])))
    (body : ∀ (cdv : Value) (A : Around) (outer : List Env) (s : Shared) (H : Hp) (E : XK), Room k (A.deeper (envOfC qual (defScope st) s.heap.objs.size f cdv)) →
      ∃ t, PSs (cxOf CX0 P w K mg base N qual (defScope st) f cdv A outer s H E) (defBody st) t ∧ ∀ ds W post, S ds W post → Sw F ⟨K, cl⟩ t (startD N ds) W (E_ post)) : FnR P w K mg base CX0 (k + 1) f (spN F ⟨K, cl⟩ (starS ps.length S)) := by
  obtain ⟨oc, od, kV, doc, pm, an, cdv, ct, osl, rfl, lk, hcd⟩ := Fn.ex
  have h := StX.fn_star (CX := CX0) (P := P) (w := w) (mg := mg) (base := base) (k := k) (N := N) (ps := ps) (sp := spN F ⟨K, cl⟩ S) lk hcd Sc StX.cxUp_none (hb kV doc pm an cdv ct) (fun A outer s H vs Q E hr h => let ⟨t, ht, b⟩ := body cdv A outer s H E hr; ⟨t, ht, body_run h b⟩)
  refine fun A outer s H us vs Q E hr e0 r hsp => h A outer s H us vs Q E hr e0 r ?_
  obtain ⟨ds, W, C, H1, O, post, e, di, oc, ow, kl, ⟨h1, h2, h3⟩, q⟩ := hsp
  have hl := kl.len
  refine ⟨vs.take ps.length, vs.drop ps.length, (List.take_append_drop _ _).symm, by rw [List.length_take, hl]; omega, ?_, fun p hp => ?_⟩
  · have := sizeLine_eq
    rw [List.length_drop, hl]
    omega
  · subst e
    obtain ⟨n2, e2, s2⟩ := (Nx.refl (F := F) (T := ⟨K, cl⟩) di oc ow).newF (o := .tup (vs.drop ps.length)) hp
    rw [e2]
    exact ⟨_, W, C, _, O, post, rfl, n2.dis, n2.oc, n2.own, ((kl.take ps.length).mono s2).app (.one (d := .tup (ds.drop ps.length)) ⟨p, _, rfl, SqT.of upd_same, (kl.drop ps.length).mono s2⟩), h3, fun d W' H' O' v r n k => q d W' H' O' v r (n2.trans n) k⟩
end
end N

set_option Elab.async false
set_option linter.all false
set_option maxRecDepth 100000
/-! Short words: defs and classes by their promises; the built-in names. -/
namespace N
open PySem PySem.Spec PyProof.Rows L2
open C8 (Cal Met Mak pe_c pe_mt pe_mt0 pe_mk)

/-- the built-in names that a text uses are not hidden -/
structure Blt (mg : Str → Option Value) : Prop where
  len : mg "len" = none
  int : mg "int" = none
  str : mg "str" = none
  range : mg "range" = none
  list : mg "list" = none
  tuple : mg "tuple" = none
  dict : mg "dict" = none
  set : mg "set" = none
  sorted : mg "sorted" = none
  isinstance : mg "isinstance" = none
  repr : mg "repr" = none
  max : mg "max" = none
  min : mg "min" = none
  sum : mg "sum" = none
  all : mg "all" = none
  any : mg "any" = none
  zip : mg "zip" = none
  enumerate : mg "enumerate" = none
theorem bt_int : bootBuiltins "int" = some (.type "int") := by decide +kernel
theorem bt_str : bootBuiltins "str" = some (.type "str") := by decide +kernel
theorem bt_list : bootBuiltins "list" = some (.type "list") := by decide +kernel
theorem bt_tuple : bootBuiltins "tuple" = some (.type "tuple") := by decide +kernel
theorem bt_set : bootBuiltins "set" = some (.type "set") := by decide +kernel
theorem bt_dict : bootBuiltins "dict" = some (.type "dict") := by decide +kernel
theorem bt_len : bootBuiltins "len" = some (.builtin "len") := by decide +kernel
theorem bt_sorted : bootBuiltins "sorted" = some (.builtin "sorted") := by decide +kernel
theorem bt_isinstance : bootBuiltins "isinstance" = some (.builtin "isinstance") := by decide +kernel
theorem bt_repr : bootBuiltins "repr" = some (.builtin "repr") := by decide +kernel
theorem bt_max : bootBuiltins "max" = some (.builtin "max") := by decide +kernel
theorem bt_min : bootBuiltins "min" = some (.builtin "min") := by decide +kernel
theorem bt_sum : bootBuiltins "sum" = some (.builtin "sum") := by decide +kernel
theorem bt_all : bootBuiltins "all" = some (.builtin "all") := by decide +kernel
theorem bt_any : bootBuiltins "any" = some (.builtin "any") := by decide +kernel

section
variable {P : Program} {w : World} {K : PySem.W.Frag} {mg : Str → Option Value} {base : Heap} {F : FmKit} {cl : Nat → Addr} {S : FS}
/-- a def of the module, by its promise -/
theorem calD {x : Str} {st : Stmt} {f : Addr} {fd : FuncData} {N ps : List Str} {k : Nat} (hm : mg x = some (.ref f)) (Fn : Fun K x x st f fd) (Sc : FnScope N ps (defScope st)) (len : ∀ ds W post, S ds W post → ds.length = ps.length)
    (hb : ∀ (kV doc pm : Value) (an : Option Addr) (cdv ct : Value) (us : List Value), us.length = ps.length → bindArgs (PySem.W.fnOf x x (defArgs st) (defBody st) (defScope st) .none kV doc pm an cdv ct) ⟨us, []⟩ = pure (ps.zip us))
    (body : ∀ (cdv : Value) (A : Around) (outer : List Env) (s : Shared) (H : Hp) (E : XK), Room k (A.deeper (envOfC x (defScope st) s.heap.objs.size f cdv)) →
      ∃ t, PSs (cxOf CX0 P w K mg base N x (defScope st) f cdv A outer s H E).nox (defBody st) t ∧ ∀ ds W post, S ds W post → Sw F ⟨K, cl⟩ t (startD N ds) W (E_ post)) : Cal P w K mg base (k + 1) x (spN F ⟨K, cl⟩ S) [] :=
  ⟨f, fd, ps, [], okD Fn Sc len body, hm, Fn.kp, Fn.binds hb, .nil⟩
/-- .. that knows that no guard runs -/
structure CalG (P : Program) (w : World) (K : PySem.W.Frag) (mg : Str → Option Value) (base : Heap) (k : Nat) (x : Str) (sp : Sp) : Prop where
  ex : ∃ f : Addr, FnG P w K mg base k f sp ∧ mg x = some (.ref f) ∧ PySem.W.keepIn K (.ref f) = true
theorem calG {x : Str} {st : Stmt} {f : Addr} {fd : FuncData} {N ps : List Str} {k : Nat} (hm : mg x = some (.ref f)) (Fn : Fun K x x st f fd) (Sc : FnScope N ps (defScope st)) (len : ∀ ds W post, S ds W post → ds.length = ps.length)
    (hb : ∀ (kV doc pm : Value) (an : Option Addr) (cdv ct : Value) (us : List Value), us.length = ps.length → bindArgs (PySem.W.fnOf x x (defArgs st) (defBody st) (defScope st) .none kV doc pm an cdv ct) ⟨us, []⟩ = pure (ps.zip us))
    (body : ∀ (cdv : Value) (A : Around) (outer : List Env) (s : Shared) (H : Hp), (A.deeper (envOfC x (defScope st) s.heap.objs.size f cdv)).guards = some [] → Room k (A.deeper (envOfC x (defScope st) s.heap.objs.size f cdv)) →
      ∃ t, PSs (cxOf CX0 P w K mg base N x (defScope st) f cdv A outer s H E0).nox (defBody st) t ∧ ∀ ds W post, S ds W post → Sw F ⟨K, cl⟩ t (startD N ds) W (E_ post)) : CalG P w K mg base (k + 1) x (spN F ⟨K, cl⟩ S) :=
  ⟨f, okG Fn Sc len hb body, hm, Fn.kp⟩
/-- a method of the class C -/
theorem metD {m qual : Str} {C : Addr} {st : Stmt} {f : Addr} {fd : FuncData} {N ps : List Str} {k : Nat} (c : Cls K C) (me : Meth K C m f) (Fn : Fun K m qual st f fd) (Sc : FnScope N ps (defScope st)) (len : ∀ ds W post, S ds W post → ds.length = ps.length)
    (hb : ∀ (kV doc pm : Value) (an : Option Addr) (cdv ct : Value) (us : List Value), us.length = ps.length → bindArgs (PySem.W.fnOf m qual (defArgs st) (defBody st) (defScope st) .none kV doc pm an cdv ct) ⟨us, []⟩ = pure (ps.zip us))
    (body : ∀ (cdv : Value) (A : Around) (outer : List Env) (s : Shared) (H : Hp) (E : XK), Room k (A.deeper (envOfC qual (defScope st) s.heap.objs.size f cdv)) →
      ∃ t, PSs (cxOf CX0 P w K mg base N qual (defScope st) f cdv A outer s H E).nox (defBody st) t ∧ ∀ ds W post, S ds W post → Sw F ⟨K, cl⟩ t (startD N ds) W (E_ post)) : Met P w K mg base (k + 1) C m (spN F ⟨K, cl⟩ S) [] :=
  ⟨f, fd, ps, [], c, me, okD Fn Sc len body, Fn.binds hb, .nil⟩
/-- an own method by its promise: operators, str, len -/
structure Opn (P : Program) (w : World) (K : PySem.W.Frag) (mg : Str → Option Value) (base : Heap) (k : Nat) (C : Addr) (m : Str) (sp : Sp) : Prop where
  ex : ∃ (f : Addr) (fd : FuncData) (ps : List Str), Own2 K C m f ∧ FnOk P w K mg base CX0 k f fd ps sp ∧ Binds K fd ps []
theorem opnD {m qual : Str} {C : Addr} {st : Stmt} {f : Addr} {fd : FuncData} {N ps : List Str} {k : Nat} (o : Own2 K C m f) (Fn : Fun K m qual st f fd) (Sc : FnScope N ps (defScope st)) (len : ∀ ds W post, S ds W post → ds.length = ps.length)
    (hb : ∀ (kV doc pm : Value) (an : Option Addr) (cdv ct : Value) (us : List Value), us.length = ps.length → bindArgs (PySem.W.fnOf m qual (defArgs st) (defBody st) (defScope st) .none kV doc pm an cdv ct) ⟨us, []⟩ = pure (ps.zip us))
    (body : ∀ (cdv : Value) (A : Around) (outer : List Env) (s : Shared) (H : Hp) (E : XK), Room k (A.deeper (envOfC qual (defScope st) s.heap.objs.size f cdv)) →
      ∃ t, PSs (cxOf CX0 P w K mg base N qual (defScope st) f cdv A outer s H E).nox (defBody st) t ∧ ∀ ds W post, S ds W post → Sw F ⟨K, cl⟩ t (startD N ds) W (E_ post)) : Opn P w K mg base (k + 1) C m (spN F ⟨K, cl⟩ S) :=
  ⟨f, fd, ps, o, okD Fn Sc len body, Fn.binds hb⟩
/-- a class whose __init__ has a star -/
structure MakR (P : Program) (w : World) (K : PySem.W.Frag) (mg : Str → Option Value) (base : Heap) (k : Nat) (x : Str) (C : Addr) (sp : Sp) : Prop where
  ex : ∃ f : Addr, Mk K C f ∧ FnR P w K mg base CX0 k f sp ∧ mg x = some (.ref C)
end
section
variable {X : Cx} {k j : Nat} {x : Str} {C : Addr} {sp : Sp} {e : Expr} {es : List Expr} {t : TA} {p pos : Pos} {F : FmKit} {T : Kx} {S : FS}
theorem pe_cg (c : CalG X.prog X.w X.K X.mg X.base k x sp) (hgd : X.A.guards = some []) (hr : Room j X.A) (hk : k ≤ j) (hg : Gl X x) (ha : PA X (e :: es) t) (hdb : (x == ("__debug__" : Str)) = false := by decide)
    (he : starEach (e :: es) X.env = (false, eval e X.env) :: starEach es X.env := by rfl) (hpl : (backTo pos (starEach es X.env)).any (·.1) = false := by rfl) : PE X (.Call (.Name x p) (e :: es) [] pos) (tCall sp [] E0 t) := by
  obtain ⟨f, h, hm, hk'⟩ := c.ex
  exact pe_callG h hgd (hr.mono hk) hg hm hk' ha hdb he hpl
theorem pe_c0 {dvs : List V} (c : Cal X.prog X.w X.K X.mg X.base k x sp dvs) (hr : Room j X.A) (hk : k ≤ j) (hg : Gl X x) (hdb : (x == ("__debug__" : Str)) = false := by decide) : PE X (.Call (.Name x p) [] [] pos) (tCall sp dvs E0 tNil) := by
  obtain ⟨f, fd, ps, ds, h, hm, kp, b, d⟩ := c.ex
  exact pe_call0 h (hr.mono hk) hg hm kp b d pass0 hdb
theorem pe_mkR (c : MakR X.prog X.w X.K X.mg X.base k x C sp) (hr : Room j X.A) (hk : k + 1 ≤ j) (hg : Gl X x) (ha : PA X (e :: es) t) (hdb : (x == ("__debug__" : Str)) = false := by decide)
    (he : starEach (e :: es) X.env = (false, eval e X.env) :: starEach es X.env := by rfl) (hpl : (backTo pos (starEach es X.env)).any (·.1) = false := by rfl) : PE X (.Call (.Name x p) (e :: es) [] pos) (StX.tMakeR C sp E0 t) := by
  obtain ⟨f, m, h, hm⟩ := c.ex
  exact StX.pe_makeR m h (hr.mono hk) hg hm pass0 ha hdb he hpl
theorem op_opn {op : Operator} (o : Opn X.prog X.w X.K X.mg X.base k C (PySem.dunder op.info.2) sp) (hr : Room j X.A) (hk : k ≤ j) (hc : PySem.W.selfFirst X.K C = true) : OpR X (binaryOp op) (rOwn2 C sp E0) := by
  obtain ⟨f, fd, ps, o2, h, b⟩ := o.ex
  exact op_own h (hr.mono hk) o2 hc b pass0
theorem un_opn (o : Opn X.prog X.w X.K X.mg X.base k C "__invert__" sp) (hr : Room j X.A) (hk : k ≤ j) : UnR X (unaryOp .Invert) (rOwn1 C sp E0) := by
  obtain ⟨f, fd, ps, o2, h, b⟩ := o.ex
  exact un_own_inv h (hr.mono hk) o2 b pass0
def rStrO (C : Addr) (sp : Sp) : List V → Hp → VK → Prop := fun xs H Q => ∃ a dx fs, xs = [.ref a] ∧ H a = some (.ins C dx fs) ∧ sp [.ref a] H (fun v H' => (∃ z, v = .str z) ∧ Q v H') E0
theorem call_str_opn (o : Opn X.prog X.w X.K X.mg X.base k C "__str__" sp) (hr : Room j X.A) (hk : k + 2 ≤ j) : CallR X (.type "str") (rStrO C sp) := by
  obtain ⟨f, fd, ps, o2, h, b⟩ := o.ex
  exact call_own_str h (hr.mono hk) o2 b pass0
def rLenO (C : Addr) (sp : Sp) : List V → Hp → VK → Prop := fun xs H Q => ∃ a dx fs, xs = [.ref a] ∧ H a = some (.ins C dx fs) ∧ sp [.ref a] H (fun v H' => (∃ n : Int, v = .int n ∧ 0 ≤ n ∧ n < 2 ^ 63) ∧ Q v H') E0
theorem call_len_opn (o : Opn X.prog X.w X.K X.mg X.base k C "__len__" sp) (hr : Room j X.A) (hk : k + 1 ≤ j) : CallR X (.builtin "len") (rLenO C sp) := by
  obtain ⟨f, fd, ps, o2, h, b⟩ := o.ex
  exact call_own_len h (hr.mono hk) o2 b pass0
end

section
variable {F : FmKit} {T : Kx} {C H H' O O' : Hp} {G : Gm} {W W' : Om} {R : D → Om → Prop} {S : FS} {ta : TE} {c : Nat}
/-- an operator of the own class -/
theorem bo_own {d e : D} {ns ms : List Str} {l m : List D} (i1 : Inst F W d c ns l) (i2 : Inst F W e c ms m) (h : Hand S [d, e] W R) : Bo F T (rOwn2 (T.cl c) (spN F T S) E0) d e W R := fun C H O di oc ow x y hx hy Q q => by
  obtain ⟨a, dx, fs, ex, ha, _⟩ := i1.at di ow hx
  obtain ⟨b, dy, gs, ey, hb, _⟩ := i2.at di ow hy
  exact ⟨a, b, dx, dy, fs, gs, ex, ey, ha, hb, h.run di oc ow ⟨x, _, rfl, hx, .one hy⟩ q⟩
theorem ev_un {r : V → Hp → VK → Prop} (h : Ev F T ta G W fun d W1 => Ca F T (fun xs H Q => ∃ x, xs = [x] ∧ r x H Q) [d] W1 R) : Ev F T (tUn r ta) G W R := fun C H O σ w Q q =>
  h C H O σ w _ fun d W1 H1 O1 x h1 n1 k1 => by
    obtain ⟨y, e, hr⟩ := h1 C H1 O1 n1.dis n1.oc n1.own [x] (.one k1) Q fun d W' H' O' v rr n k => q d W' H' O' v rr (n1.trans n) k
    cases e
    exact hr
theorem ca_own1 {d : D} {ns : List Str} {l : List D} (i1 : Inst F W d c ns l) (h : Hand S [d] W R) : Ca F T (fun xs H Q => ∃ x, xs = [x] ∧ rOwn1 (T.cl c) (spN F T S) E0 x H Q) [d] W R := ca_one fun C H O di oc ow x k Q q => by
  obtain ⟨a, dx, fs, ex, ha, _⟩ := i1.at di ow k
  exact ⟨x, rfl, a, dx, fs, ex, ha, h.run di oc ow (.one k) q⟩
theorem ca_strO {d : D} {ns : List Str} {l : List D} (i1 : Inst F W d c ns l) (h : Hand S [d] W fun d' W' => (∃ z, d' = .str z) ∧ R d' W') : Ca F T (rStrO (T.cl c) (spN F T S)) [d] W R := ca_one fun C H O di oc ow x k Q q => by
  obtain ⟨a, dx, fs, ex, ha, _⟩ := i1.at di ow k
  subst ex
  refine ⟨a, dx, fs, rfl, ha, h.run di oc ow (.one k) fun d' W' H' O' v ⟨⟨z, ez⟩, r⟩ n kd => ⟨⟨z, ?_⟩, q d' W' H' O' v r n kd⟩⟩
  subst ez
  exact kd
theorem ca_lenO {d : D} {ns : List Str} {l : List D} (i1 : Inst F W d c ns l) (h : Hand S [d] W fun d' W' => (∃ n : Int, d' = .int n ∧ 0 ≤ n ∧ n < 2 ^ 63) ∧ R d' W') : Ca F T (rLenO (T.cl c) (spN F T S)) [d] W R := ca_one fun C H O di oc ow x k Q q => by
  obtain ⟨a, dx, fs, ex, ha, _⟩ := i1.at di ow k
  subst ex
  refine ⟨a, dx, fs, rfl, ha, h.run di oc ow (.one k) fun d' W' H' O' v ⟨⟨z, ez, h0, h1⟩, r⟩ n kd => ⟨⟨z, ?_, h0, h1⟩, q d' W' H' O' v r n kd⟩⟩
  subst ez
  exact kd
end
end N

set_option Elab.async false
set_option linter.all false
set_option maxRecDepth 100000
/-! Rules in the forms that the walk tries. -/
namespace N
open PySem PySem.Spec PyProof.Rows L2
section
variable {F : FmKit} {T : Kx} {C H H' O O' : Hp} {G : Gm} {W W' : Om} {R : D → Om → Prop} {S : FS} {ta tb te : TE} {tr : TA} {c : Nat} {t u : TT} {Z : Bool → Om → Prop} {ts tz : TS} {E : En}
theorem bo_I0 {g : Int → Int → V} {i j : Int} (h : R (.vl (g i j)) W) : Bo F T (rI0 g) (.int i) (.int j) W R := op_sc fun H Q k => ⟨i, j, rfl, rfl, k _ h⟩
theorem bo_I {Cc : Int → Int → Prop} {g : Int → Int → V} {i j : Int} (hc : Cc i j) (h : R (.vl (g i j)) W) : Bo F T (rI Cc g) (.int i) (.int j) W R := op_sc fun H Q k => ⟨i, j, rfl, rfl, hc, k _ h⟩
theorem bo_eq {x y : V} (hs : scal x y = true) (h : R (.bl (decide (x = y))) W) : Bo F T rEq (.vl x) (.vl y) W R := op_sc fun H Q k => ⟨hs, k _ h⟩
theorem bo_ne {x y : V} (hs : scal x y = true) (h : R (.bl (!decide (x = y))) W) : Bo F T rNe (.vl x) (.vl y) W R := op_sc fun H Q k => ⟨hs, k _ h⟩
theorem dec_int (i j : Int) : decide (V.int i = V.int j) = decide (i = j) := by
  by_cases h : i = j
  · subst h
    simp
  · rw [decide_eq_false h, decide_eq_false (fun e => h (V.int.inj e))]
theorem dec_str (i j : Str) : decide (V.str i = V.str j) = decide (i = j) := by
  by_cases h : i = j
  · subst h
    simp
  · rw [decide_eq_false h, decide_eq_false (fun e => h (V.str.inj e))]
theorem dec_bl (i j : Bool) : decide (V.bl i = V.bl j) = decide (i = j) := by cases i <;> cases j <;> decide
theorem bo_eqI {i j : Int} (h : R (.bl (decide (i = j))) W) : Bo F T rEq (.int i) (.int j) W R := bo_eq rfl (by rw [dec_int]; exact h)
theorem bo_neI {i j : Int} (h : R (.bl (!decide (i = j))) W) : Bo F T rNe (.int i) (.int j) W R := bo_ne rfl (by rw [dec_int]; exact h)
theorem bo_eqS {i j : Str} (h : R (.bl (decide (i = j))) W) : Bo F T rEq (.str i) (.str j) W R := bo_eq rfl (by rw [dec_str]; exact h)
theorem bo_neS {i j : Str} (h : R (.bl (!decide (i = j))) W) : Bo F T rNe (.str i) (.str j) W R := bo_ne rfl (by rw [dec_str]; exact h)
theorem bo_eqB {i j : Bool} (h : R (.bl (decide (i = j))) W) : Bo F T rEq (.bl i) (.bl j) W R := bo_eq rfl (by rw [dec_bl]; exact h)
theorem bo_neB {i j : Bool} (h : R (.bl (!decide (i = j))) W) : Bo F T rNe (.bl i) (.bl j) W R := bo_ne rfl (by rw [dec_bl]; exact h)
theorem ca_int {i : Int} (h : R (.int i) W) : Ca F T (fun xs H Q => (∃ i, xs = [.int i] ∧ Q (.int i) H) ∨ ∃ k, xs = [.bl k] ∧ Q (.int (if k then 1 else 0)) H) [.int i] W R := cl_sc (xs := [.int i]) fun H Q k => .inl ⟨i, rfl, k _ h⟩
theorem ca_intB {b : Bool} (h : R (.int (if b then 1 else 0)) W) : Ca F T (fun xs H Q => (∃ i, xs = [.int i] ∧ Q (.int i) H) ∨ ∃ k, xs = [.bl k] ∧ Q (.int (if k then 1 else 0)) H) [.bl b] W R := cl_sc (xs := [.bl b]) fun H Q k => .inr ⟨b, rfl, k _ h⟩
theorem ca_max2 {i j : Int} (h : R (.int (if j > i then j else i)) W) : Ca F T (fun xs H Q => ∃ i j, xs = [.int i, .int j] ∧ Q (.int (if j > i then j else i)) H) [.int i, .int j] W R := cl_sc (xs := [.int i, .int j]) fun H Q k => ⟨i, j, rfl, k _ h⟩
theorem ca_min2 {i j : Int} (h : R (.int (if j < i then j else i)) W) : Ca F T (fun xs H Q => ∃ i j, xs = [.int i, .int j] ∧ Q (.int (if j < i then j else i)) H) [.int i, .int j] W R := cl_sc (xs := [.int i, .int j]) fun H Q k => ⟨i, j, rfl, k _ h⟩
theorem et_bl {b : Bool} (h : Z b W) : ∃ b', D.bl b = .bl b' ∧ Z b' W := ⟨b, rfl, h⟩
/-- a chain of comparisons -/
theorem ev_chain {r r' : R2} {tc : TE} (h : Ev F T ta G W fun d1 W1 => Ev F T tb G W1 fun d2 W2 => Bo F T r d1 d2 W2 fun z W3 => ∃ b, z = .bl b ∧ if b = true then Ev F T tc G W3 fun d3 W4 => Bo F T r' d2 d3 W4 R else R (.bl false) W3) : Ev F T (tChain r r' ta tb tc) G W R := fun C H O σ w Q q =>
  h C H O σ w _ fun d1 W1 H1 O1 x h1 n1 k1 => h1 C H1 O1 σ (w.step n1) _ fun d2 W2 H2 O2 y h2 n2 k2 =>
    h2 C H2 O2 n2.dis n2.oc n2.own x y (k1.mono n2.ext) k2 _ fun z W3 H3 O3 v ⟨b, ez, hb⟩ n3 k3 => by
      subst ez
      have k3 : v = .bl b := k3
      refine ⟨b, k3, ?_⟩
      cases b with
      | true => exact hb C H3 O3 σ (((w.step n1).step n2).step n3) _ fun d3 W4 H4 O4 zv h4 n4 k4 => h4 C H4 O4 n4.dis n4.oc n4.own y zv ((k2.mono n3.ext).mono n4.ext) k4 Q fun d W' H' O' v rr n k => q d W' H' O' v rr ((((n1.trans n2).trans n3).trans n4).trans n) k
      | false => exact q _ W3 H3 O3 _ hb ((n1.trans n2).trans n3) rfl
theorem et_chain {r r' : R2} {tc : TE} (h : Ev F T (tChain r r' ta tb tc) G W fun d W1 => ∃ b, d = .bl b ∧ Z b W1) : EvT F T (tTest (tChain r r' ta tb tc)) G W Z := et_test h
theorem if_so {c : Bool} {A B : Prop} (hc : c = true) (h : A) : if c = true then A else B := by rw [if_pos hc]; exact h
theorem if_not {c : Bool} {A B : Prop} (hc : c = false) (h : B) : if c = true then A else B := by rw [if_neg (by rw [hc]; exact Bool.false_ne_true)]; exact h
theorem if_dec {p A B : Prop} [Decidable p] (h1 : p → A) (h2 : ¬ p → B) : if decide p = true then A else B := by
  by_cases h : p
  · exact if_so (decide_eq_true h) (h1 h)
  · exact if_not (decide_eq_false h) (h2 h)
theorem if_ndec {p A B : Prop} [Decidable p] (h1 : ¬ p → A) (h2 : p → B) : if (!decide p) = true then A else B := by
  by_cases h : p
  · exact if_not (by rw [decide_eq_true h]; rfl) (h2 h)
  · exact if_so (by rw [decide_eq_false h]; rfl) (h1 h)
theorem if_bl {c : Bool} {A B : Prop} (h1 : c = true → A) (h2 : c = false → B) : if c = true then A else B := by
  cases c with
  | true => exact if_so rfl (h1 rfl)
  | false => exact if_not rfl (h2 rfl)
/-- slices of lists, in plain data -/
def cutD (xs : List D) (lo hi : Option Int) : List D := (xs.drop (HT.sIx xs.length 0 lo)).take (HT.sIx xs.length xs.length hi - HT.sIx xs.length 0 lo)
theorem DenL.cut {l : List D} {xs : List V} (k : DenL F T H l xs) (lo hi : Option Int) : DenL F T H (cutD l lo hi) (cutV xs lo hi) := by
  unfold cutD cutV
  rw [k.len]
  exact (k.drop _).take _
theorem eo_none {Y : Option Int → Om → Prop} (h : Y none W) : EvO F T tNoPart G W Y := fun C H O σ w Q q => q none W H O h w.nx
theorem eo_some {Y : Option Int → Om → Prop} (h : Ev F T te G W fun d W1 => ∃ i, d = .int i ∧ Y (some i) W1) : EvO F T (tPart te) G W Y := fun C H O σ w Q q =>
  h C H O σ w _ fun d W1 H1 O1 x ⟨i, e, y⟩ n k => by
    subst e
    exact ⟨i, k, q (some i) W1 H1 O1 y n⟩
theorem ev_sl {r : V → Option Int → Option Int → Hp → VK → Prop} {tl th : TO} (h : Ev F T te G W fun d W1 => EvO F T tl G W1 fun lo W2 => EvO F T th G W2 fun hi W3 => Ca F T (fun xs H Q => ∃ x, xs = [x] ∧ r x lo hi H Q) [d] W3 R) : Ev F T (tSl r te tl th) G W R := fun C H O σ w Q q =>
  h C H O σ w _ fun d W1 H1 O1 x h1 n1 k1 => h1 C H1 O1 σ (w.step n1) _ fun lo W2 H2 O2 h2 n2 => h2 C H2 O2 σ ((w.step n1).step n2) _ fun hi W3 H3 O3 h3 n3 => by
    obtain ⟨y, e, hr⟩ := h3 C H3 O3 n3.dis n3.oc n3.own [x] (.one ((k1.mono n2.ext).mono n3.ext)) Q fun d W' H' O' v rr n k => q d W' H' O' v rr (((n1.trans n2).trans n3).trans n) k
    cases e
    exact hr
theorem ca_slL {d : D} {l : List D} {lo hi : Option Int} (hv : Vl W d l) (r : ∀ p, p ∉ akeys W → R (.adr p) ((p, .lst (cutD l lo hi)) :: W)) : Ca F T (fun xs H Q => ∃ x, xs = [x] ∧ rSlL T.K x lo hi H Q) [d] W R := ca_one fun C H O di oc ow x k Q q => by
  obtain ⟨a, xs, e, hs, kl⟩ := hv.sq ow di k
  subst e
  refine ⟨_, rfl, a, xs, rfl, hs, fun p hp => ?_⟩
  obtain ⟨n2, e, np⟩ := (Nx.refl di oc ow).newO (od := .lst (cutD l lo hi)) (o := .lst (cutV xs lo hi)) hp ⟨_, rfl, kl.cut lo hi⟩
  rw [e]
  exact q (.adr p) _ _ _ _ (r p np) n2 rfl
theorem ev_revL (h : Ev F T te G W fun d W1 => ∃ l, Vl W1 d l ∧ ∀ p, p ∉ akeys W1 → R (.adr p) ((p, .lst l.reverse) :: W1)) : Ev F T (tRevL T.K te) G W R := fun C H O σ w Q q =>
  h C H O σ w _ fun d W1 H1 O1 x ⟨l, hv, r⟩ n k => by
    obtain ⟨a, xs, e, hs, kl⟩ := hv.sq n.own n.dis k
    subst e
    refine ⟨a, xs, rfl, hs, fun p hp => ?_⟩
    obtain ⟨n2, e, np⟩ := n.newO (od := .lst l.reverse) (o := .lst xs.reverse) hp ⟨_, rfl, kl.reverse⟩
    rw [e]
    exact q (.adr p) _ _ _ _ (r p np) n2 rfl
/-- list(range(..)) -/
theorem ev_listRg1 (h : Ev F T ta G W fun d W1 => ∃ n : Int, d = .int n ∧ RgOk 0 n ∧ ∀ p, p ∉ akeys W1 → R (.adr p) ((p, .lst ((rgV 0 n).map .vl)) :: W1)) : Ev F T (tLstRg (tRg1 ta)) G W R := fun C H O σ w Q q =>
  h C H O σ w _ fun d W1 H1 O1 x ⟨n, ed, ok, r⟩ n1 k => by
    subst ed
    refine ⟨n, k, ok, fun p hp => ?_⟩
    obtain ⟨n2, e, np⟩ := n1.newO (od := .lst ((rgV 0 n).map .vl)) (o := .lst (rgV 0 n)) hp ⟨_, rfl, .vls _⟩
    rw [e]
    exact q (.adr p) _ _ _ _ (r p np) n2 rfl
theorem ev_listRg2 (h : Ev F T ta G W fun d W1 => Ev F T tb G W1 fun e W2 => ∃ i j : Int, d = .int i ∧ e = .int j ∧ RgOk i j ∧ ∀ p, p ∉ akeys W2 → R (.adr p) ((p, .lst ((rgV i j).map .vl)) :: W2)) : Ev F T (tLstRg (tRg2 ta tb)) G W R := fun C H O σ w Q q =>
  h C H O σ w _ fun d W1 H1 O1 x h1 n1 k1 => h1 C H1 O1 σ (w.step n1) _ fun e W2 H2 O2 y ⟨i, j, ed, ee, ok, r⟩ n2 k2 => by
    subst ed ee
    have k1 : x = .int i := k1
    have k2 : y = .int j := k2
    refine ⟨i, j, k1, k2, ok, fun p hp => ?_⟩
    obtain ⟨n3, e, np⟩ := (n1.trans n2).newO (od := .lst ((rgV i j).map .vl)) (o := .lst (rgV i j)) hp ⟨_, rfl, .vls _⟩
    rw [e]
    exact q (.adr p) _ _ _ _ (r p np) n3 rfl
/-- membership in a flat sequence -/
theorem bo_in {neg : Bool} {x : V} {d : D} {xs : List V} (hv : Vs W d (xs.map .vl)) (hx : flatV x = true) (ha : xs.all flatV = true) (r : R (.bl (if neg then !inV x xs else inV x xs)) W) : Bo F T (rIn T.K neg) (.vl x) d W R := fun C H O di oc ow x' y hx' hy Q q => by
  have hx' : x' = x := hx'
  subst hx'
  obtain ⟨a, ys, e, hs, kl⟩ := hv.sq ow di hy
  have kl := DenL.vls_inv kl
  subst kl
  exact ⟨a, ys, e, hs, hx, ha, q _ W H O _ r (.refl di oc ow) rfl⟩
end
theorem canLay_ints : ∀ ns : List Int, PyData.canLayAll0 (ns.map .int) = true
  | [] => rfl
  | n :: ns => by
    rw [List.map_cons, PyData.canLayAll0, canLay_ints ns]
    rfl
theorem depth_ints : ∀ ns : List Int, PyData.depthAll (ns.map .int) = 0
  | [] => rfl
  | n :: ns => by
    rw [List.map_cons, PyData.depthAll, depth_ints ns]
    rfl
theorem shaped_ints (ns : List Int) : SeqAt.shaped (.list (ns.map .int)) = true := by
  unfold SeqAt.shaped
  rw [PyData.canLay0, canLay_ints, PyData.depth, depth_ints]
  decide
theorem eqv_nil {ds : List PyData} : (PyData.list ds).eqv (.list []) = ds.isEmpty := by
  cases ds with
  | nil => simp [PyData.eqv, PyData.eqvAll]
  | cons d ds => simp [PyData.eqv, PyData.eqvAll]
theorem vp_ints {W : Om} {d : D} {ns : List Int} (h : Vl W d (ns.map D.int)) : Vp W d (.list (ns.map .int)) := .inr ⟨_, h, pd_lst (pdL_map D.int .int (fun _ => rfl) ns)⟩
theorem vp_nil {W : Om} : Vp W (.lst []) (.list []) := .inl rfl
end N

set_option Elab.async false
set_option linter.all false
set_option maxRecDepth 100000
/-! Formulas, plainly: texts, what is kept of them, their order. -/
namespace N
open PySem PySem.Spec PyProof.Rows L2

/-! ### texts -/
theorem str_ext {x y : Str} (h : x.cps.toList = y.cps.toList) : x = y := by
  cases x
  cases y
  congr 1
  exact Array.toList_inj.mp h
theorem str_app (x y : Str) : (x ++ y).cps.toList = x.cps.toList ++ y.cps.toList := by
  show (x.cps ++ y.cps).toList = _
  rw [Array.toList_append]
theorem str_len (x : Str) : x.length = x.cps.toList.length := by
  show x.cps.size = _
  rw [Array.length_toList]
theorem str_app_len (x y : Str) : (x ++ y).length = x.length + y.length := by rw [str_len, str_app, List.length_append, ← str_len, ← str_len]
def ltS (x y : Str) : Bool := ltCps x.cps.toList y.cps.toList
theorem ltCps_irrefl : ∀ a : List Nat, ltCps a a = false
  | [] => rfl
  | a :: r => by simp [ltCps, ltCps_irrefl r]
theorem ltCps_trans : ∀ {a b c : List Nat}, ltCps a b = true → ltCps b c = true → ltCps a c = true
  | [], [], c, h, _ => by simp [ltCps] at h
  | [], _ :: _, [], _, h => by simp [ltCps] at h
  | [], _ :: _, _ :: _, _, _ => rfl
  | _ :: _, [], _, h, _ => by simp [ltCps] at h
  | _ :: _, _ :: _, [], _, h => by simp [ltCps] at h
  | x :: a, y :: b, z :: c, h1, h2 => by
    simp only [ltCps, Bool.or_eq_true, decide_eq_true_eq, Bool.and_eq_true, beq_iff_eq] at h1 h2 ⊢
    rcases h1 with h1 | ⟨h1, h3⟩ <;> rcases h2 with h2 | ⟨h2, h4⟩
    · exact .inl (by omega)
    · exact .inl (by omega)
    · exact .inl (by omega)
    · exact .inr ⟨by omega, ltCps_trans h3 h4⟩
theorem ltCps_total : ∀ {a b : List Nat}, ltCps a b = false → ltCps b a = false → a = b
  | [], [], _, _ => rfl
  | [], _ :: _, h, _ => by simp [ltCps] at h
  | _ :: _, [], _, h => by simp [ltCps] at h
  | x :: a, y :: b, h1, h2 => by
    simp only [ltCps, Bool.or_eq_false_iff, decide_eq_false_iff_not, Bool.and_eq_false_iff, beq_eq_false_iff_ne] at h1 h2
    have e : x = y := by omega
    subst e
    rw [ltCps_total (h1.2.resolve_left (by simp)) (h2.2.resolve_left (by simp))]
theorem ltS_irrefl (x : Str) : ltS x x = false := ltCps_irrefl _
theorem ltS_trans {x y z : Str} (h : ltS x y = true) (k : ltS y z = true) : ltS x z = true := ltCps_trans h k
theorem ltS_total {x y : Str} (h : ltS x y = false) (k : ltS y x = false) : x = y := str_ext (ltCps_total h k)
theorem ltS_of {x y : Str} (h : ltS y x = false) (ne : x ≠ y) : ltS x y = true := by
  cases e : ltS x y with
  | true => rfl
  | false => exact absurd (ltS_total e h) ne
theorem rising_all : ∀ {l : List Str} {p : Str}, risingS p l = true → (p :: l).Nodup → (p :: l).Pairwise (fun a b => ltS a b = true)
  | [], p, _, _ => by simp
  | x :: l, p, h, nd => by
    unfold risingS at h
    rw [Bool.and_eq_true] at h
    have h1 : ltS x p = false := by simpa [ltS] using h.1
    rw [List.nodup_cons] at nd
    have ih := rising_all h.2 nd.2
    have px : ltS p x = true := ltS_of h1 (fun e => nd.1 (by rw [e]; exact List.mem_cons_self))
    rw [List.pairwise_cons]
    refine ⟨fun y hy => ?_, ih⟩
    rcases List.mem_cons.mp hy with e | e
    · subst e
      exact px
    · exact ltS_trans px ((List.pairwise_cons.mp ih).1 y e)
theorem sorted_all : ∀ {l : List Str}, sortedS l = true → l.Nodup → l.Pairwise (fun a b => ltS a b = true)
  | [], _, _ => List.Pairwise.nil
  | _ :: _, h, nd => rising_all h nd
/-- two strictly ascending lists with the same members are one -/
theorem asc_ext {α : Type} {lt : α → α → Prop} (ir : ∀ a, ¬ lt a a) (tr : ∀ a b c, lt a b → lt b c → lt a c) : ∀ {l m : List α}, l.Pairwise lt → m.Pairwise lt → (∀ x, x ∈ l ↔ x ∈ m) → l = m
  | [], [], _, _, _ => rfl
  | [], b :: m, _, _, h => absurd ((h b).mpr List.mem_cons_self) (by simp)
  | a :: l, [], _, _, h => absurd ((h a).mp List.mem_cons_self) (by simp)
  | a :: l, b :: m, hl, hm, h => by
    rw [List.pairwise_cons] at hl hm
    have e : a = b := by
      rcases List.mem_cons.mp ((h a).mp List.mem_cons_self) with e | e
      · exact e
      · rcases List.mem_cons.mp ((h b).mpr List.mem_cons_self) with e2 | e2
        · exact e2.symm
        · exact absurd (tr _ _ _ (hl.1 _ e2) (hm.1 _ e)) (ir a)
    subst e
    congr 1
    refine asc_ext ir tr hl.2 hm.2 fun x => ⟨fun hx => ?_, fun hx => ?_⟩
    · rcases List.mem_cons.mp ((h x).mp (List.mem_cons_of_mem _ hx)) with e | e
      · subst e
        exact absurd (hl.1 _ hx) (ir x)
      · exact e
    · rcases List.mem_cons.mp ((h x).mpr (List.mem_cons_of_mem _ hx)) with e | e
      · subst e
        exact absurd (hm.1 _ hx) (ir x)
      · exact e
theorem perm_map_inv {α β : Type} {f : α → β} : ∀ {l : List α} {ys : List β}, ys.Perm (l.map f) → ∃ l' : List α, l'.Perm l ∧ ys = l'.map f
  | [], ys, h => ⟨[], List.Perm.refl _, by simpa using h⟩
  | a :: l, ys, h => by
    have hm : f a ∈ ys := h.mem_iff.mpr (by simp)
    obtain ⟨s, t, e⟩ := List.append_of_mem hm
    subst e
    have h2 : (s ++ t).Perm (l.map f) := by
      have h3 : (f a :: (s ++ t)).Perm (f a :: l.map f) := List.perm_middle.symm.trans (by simpa using h)
      exact (List.perm_cons _).mp h3
    obtain ⟨l', p, e⟩ := perm_map_inv h2
    obtain ⟨l1, l2, e1, e2, e3⟩ := List.map_eq_append_iff.mp e.symm
    subst e1 e2 e3
    exact ⟨l1 ++ a :: l2, List.perm_middle.trans ((List.perm_cons _).mpr p), by simp⟩

/-! ### what is kept of a formula -/
def insN (n : Nat) : List Nat → List Nat
  | [] => [n]
  | m :: r => if n = m then m :: r else if n < m then n :: m :: r else m :: insN n r
def unite (x y : Str) : Str := if x = y then x else ⟨((x.cps.toList ++ y.cps.toList).foldr insN []).toArray⟩
namespace Fm
def kind : Fm → Str
  | .at _ => "atom"
  | .no => "no"
  | .imp _ _ => "if"
  | .all _ => "all"
def many : Fm → Nat
  | .at _ => 1
  | .no => 1
  | .imp a b => 1 + a.many + b.many
  | .all a => 1 + a.many
def deep : Fm → Nat
  | .at _ => 0
  | .no => 0
  | .imp a b => max a.deep b.deep
  | .all a => 1 + a.deep
def atoms : Fm → Str
  | .at c => ⟨#[c]⟩
  | .no => ""
  | .imp a b => unite a.atoms b.atoms
  | .all a => a.atoms
/-- the atoms outside of all all-parts -/
def outer : Fm → Str
  | .at c => ⟨#[c]⟩
  | .no => ""
  | .imp a b => unite a.outer b.outer
  | .all _ => ""
def spell : Fm → Str
  | .at c => ⟨#[c]⟩
  | .no => "no"
  | .imp a b => "(" ++ a.spell ++ " > " ++ b.spell ++ ")"
  | .all a => "all " ++ a.spell
def ins (g : Fm) : List Fm → List Fm
  | [] => [g]
  | h :: r => if g = h then h :: r else if ltS g.spell h.spell then g :: h :: r else h :: ins g r
def merge (xs ys : List Fm) : List Fm := if xs = [] then ys else if ys = [] then xs else (xs ++ ys).foldr ins []
def alls : Fm → List Fm
  | .at _ => []
  | .no => []
  | .imp a b => merge a.alls b.alls
  | .all a => merge a.alls [.all a]
/-- the length of the text -/
def sz : Fm → Nat
  | .at _ => 1
  | .no => 2
  | .imp a b => 5 + a.sz + b.sz
  | .all a => 4 + a.sz
/-- no atom in it -/
def bare : Fm → Prop
  | .at _ => False
  | .no => True
  | .imp a b => a.bare ∧ b.bare
  | .all a => a.bare
theorem spell_len : ∀ f : Fm, f.spell.length = f.sz
  | .at _ => rfl
  | .no => rfl
  | .imp a b => by
    have h1 : ("(" : Str).length = 1 := rfl
    have h2 : (" > " : Str).length = 3 := rfl
    have h3 : (")" : Str).length = 1 := rfl
    simp only [spell, sz, str_app_len, spell_len a, spell_len b, h1, h2, h3]
    omega
  | .all a => by
    have h1 : ("all " : Str).length = 4 := rfl
    simp only [spell, sz, str_app_len, spell_len a, h1]
def ltF (f g : Fm) : Prop := ltS f.spell g.spell = true
def cs (f : Fm) : List Nat := f.spell.cps.toList
theorem cs_imp (a b : Fm) : cs (.imp a b) = 40 :: (a.cs ++ (32 :: 62 :: 32 :: (b.cs ++ [41]))) := by
  have h1 : ("(" : Str).cps.toList = [40] := rfl
  have h2 : (" > " : Str).cps.toList = [32, 62, 32] := rfl
  have h3 : (")" : Str).cps.toList = [41] := rfl
  simp [cs, spell, str_app, h1, h2, h3]
theorem cs_all (a : Fm) : cs (.all a) = 97 :: 108 :: 108 :: 32 :: a.cs := by
  have h1 : ("all " : Str).cps.toList = [97, 108, 108, 32] := rfl
  simp [cs, spell, str_app, h1]
theorem cs_no : cs .no = [110, 111] := rfl
theorem cs_at (c : Nat) : cs (.at c) = [c] := rfl
/-- behind a formula stands nothing, a blank or a bracket -/
def stop (r : List Nat) : Prop := ∀ c t, r = c :: t → c = 32 ∨ c = 41
/-- letters -/
def okL : Fm → Prop
  | .at c => (65 ≤ c ∧ c ≤ 90) ∨ (97 ≤ c ∧ c ≤ 122)
  | .no => True
  | .imp a b => a.okL ∧ b.okL
  | .all a => a.okL
theorem bare_atoms : ∀ {f : Fm}, f.bare → f.atoms = "" ∧ f.outer = ""
  | .at _, h => h.elim
  | .no, _ => ⟨rfl, rfl⟩
  | .imp _ _, h => by
    obtain ⟨h1, h2⟩ := bare_atoms h.1
    obtain ⟨h3, h4⟩ := bare_atoms h.2
    exact ⟨by simp [atoms, h1, h3, unite], by simp [outer, h2, h4, unite]⟩
  | .all a, h => ⟨(bare_atoms (f := a) h).1, rfl⟩
theorem bare_ok : ∀ {f : Fm}, f.bare → f.okL
  | .at _, h => h.elim
  | .no, _ => trivial
  | .imp _ _, h => ⟨bare_ok h.1, bare_ok h.2⟩
  | .all a, h => bare_ok (f := a) h
theorem cs_inj : ∀ (f g : Fm), f.okL → g.okL → ∀ r s : List Nat, stop r → stop s → f.cs ++ r = g.cs ++ s → f = g ∧ r = s
  | .at c, .at d, _, _, r, s, _, _, h => by
    rw [cs_at, cs_at] at h
    injection h with h1 h2
    exact ⟨by rw [h1], h2⟩
  | .at c, .no, _, _, r, s, hr, _, h => by
    rw [cs_at, cs_no] at h
    injection h with h1 h2
    rcases hr 111 s h2 with e | e <;> cases e
  | .at c, .imp a b, hc, _, r, s, hr, _, h => by
    rw [cs_at, cs_imp] at h
    injection h with h1 h2
    simp only [okL] at hc
    omega
  | .at c, .all a, _, _, r, s, hr, _, h => by
    rw [cs_at, cs_all] at h
    injection h with h1 h2
    rcases hr _ _ h2 with e | e <;> cases e
  | .no, .at d, _, _, r, s, _, hs, h => by
    rw [cs_at, cs_no] at h
    injection h with h1 h2
    rcases hs 111 r h2.symm with e | e <;> cases e
  | .no, .no, _, _, r, s, _, _, h => by
    rw [cs_no] at h
    simp at h
    exact ⟨rfl, h⟩
  | .no, .imp a b, _, _, r, s, _, _, h => by
    rw [cs_no, cs_imp] at h
    injection h with h1 h2
    cases h1
  | .no, .all a, _, _, r, s, _, _, h => by
    rw [cs_no, cs_all] at h
    injection h with h1 h2
    cases h1
  | .imp a b, .at d, _, hd, r, s, _, hs, h => by
    rw [cs_at, cs_imp] at h
    injection h with h1 h2
    simp only [okL] at hd
    omega
  | .imp a b, .no, _, _, r, s, _, _, h => by
    rw [cs_no, cs_imp] at h
    injection h with h1 h2
    cases h1
  | .imp a b, .all c, _, _, r, s, _, _, h => by
    rw [cs_all, cs_imp] at h
    injection h with h1 h2
    cases h1
  | .all a, .at d, _, _, r, s, _, hs, h => by
    rw [cs_at, cs_all] at h
    injection h with h1 h2
    rcases hs _ _ h2.symm with e | e <;> cases e
  | .all a, .no, _, _, r, s, _, _, h => by
    rw [cs_no, cs_all] at h
    injection h with h1 h2
    cases h1
  | .all a, .imp b c, _, _, r, s, _, _, h => by
    rw [cs_all, cs_imp] at h
    injection h with h1 h2
    cases h1
  | .all a, .all b, ha, hb, r, s, hr, hs, h => by
    rw [cs_all, cs_all] at h
    simp only [List.cons_append, List.cons.injEq, true_and] at h
    obtain ⟨e, e2⟩ := cs_inj a b ha hb r s hr hs h
    exact ⟨by rw [e], e2⟩
  | .imp a b, .imp c d, ha, hb, r, s, hr, hs, h => by
    rw [cs_imp, cs_imp] at h
    simp only [List.cons_append, List.append_assoc, List.cons.injEq, true_and] at h
    obtain ⟨e, e2⟩ := cs_inj a c ha.1 hb.1 _ _ (by intro c t e; injection e with e; exact .inl e.symm) (by intro c t e; injection e with e; exact .inl e.symm) h
    subst e
    simp only [List.cons.injEq, true_and] at e2
    obtain ⟨e3, e4⟩ := cs_inj b d ha.2 hb.2 _ _ (by intro c t e; injection e with e; exact .inr e.symm) (by intro c t e; injection e with e; exact .inr e.symm) e2
    subst e3
    simp at e4
    exact ⟨rfl, e4⟩
theorem spell_inj {f g : Fm} (hf : f.okL) (hg : g.okL) (h : f.spell = g.spell) : f = g := by
  refine (cs_inj f g hf hg [] [] (by intro c t e; cases e) (by intro c t e; cases e) ?_).1
  simp [cs, h]
/-! ### ascending lists of formulas -/
def asc (l : List Fm) : Prop := l.Pairwise ltF
theorem ltF_irrefl (f : Fm) : ¬ ltF f f := by
  unfold ltF
  rw [ltS_irrefl]
  exact Bool.false_ne_true
theorem ltF_trans (f g h : Fm) : ltF f g → ltF g h → ltF f h := fun a b => ltS_trans a b
theorem asc_eq {l m : List Fm} (h : asc l) (k : asc m) (e : ∀ x, x ∈ l ↔ x ∈ m) : l = m := asc_ext ltF_irrefl ltF_trans h k e
theorem mem_ins {g x : Fm} : ∀ {l : List Fm}, x ∈ ins g l ↔ x = g ∨ x ∈ l
  | [] => by simp [ins]
  | h :: r => by
    unfold ins
    split
    · rename_i e
      subst e
      simp
    · split
      · simp
      · rw [List.mem_cons, mem_ins, List.mem_cons]
        constructor
        · rintro (h | h | h)
          · exact .inr (.inl h)
          · exact .inl h
          · exact .inr (.inr h)
        · rintro (h | h | h)
          · exact .inr (.inl h)
          · exact .inl h
          · exact .inr (.inr h)
theorem asc_ins {g : Fm} (hg : g.okL) : ∀ {l : List Fm}, asc l → (∀ x ∈ l, okL x) → asc (ins g l)
  | [], _, _ => by simp [ins, asc]
  | h :: r, hl, ho => by
    unfold asc at hl
    rw [List.pairwise_cons] at hl
    unfold ins
    split
    · exact List.pairwise_cons.mpr hl
    · rename_i ne
      split
      · rename_i lt
        refine List.pairwise_cons.mpr ⟨fun y hy => ?_, List.pairwise_cons.mpr hl⟩
        rcases List.mem_cons.mp hy with e | e
        · subst e
          exact lt
        · exact ltF_trans _ _ _ lt (hl.1 y e)
      · rename_i nlt
        refine List.pairwise_cons.mpr ⟨fun y hy => ?_, asc_ins hg hl.2 fun x hx => ho x (List.mem_cons_of_mem _ hx)⟩
        rcases mem_ins.mp hy with e | e
        · subst e
          refine ltS_of (by simpa using nlt) fun e => ne ?_
          exact (spell_inj (ho _ List.mem_cons_self) hg e).symm
        · exact hl.1 y e
theorem mem_fold {x : Fm} : ∀ {l : List Fm}, x ∈ l.foldr ins [] ↔ x ∈ l
  | [] => by simp
  | g :: l => by rw [List.foldr_cons, mem_ins, mem_fold, List.mem_cons]
theorem asc_fold : ∀ {l : List Fm}, (∀ x ∈ l, okL x) → asc (l.foldr ins [])
  | [], _ => List.Pairwise.nil
  | g :: l, h => asc_ins (h g List.mem_cons_self) (asc_fold fun x hx => h x (List.mem_cons_of_mem _ hx)) fun x hx => h x (List.mem_cons_of_mem _ (mem_fold.mp hx))
theorem mem_merge {x : Fm} {l m : List Fm} : x ∈ merge l m ↔ x ∈ l ∨ x ∈ m := by
  unfold merge
  split
  · rename_i e
    subst e
    simp
  · split
    · rename_i e
      subst e
      simp
    · rw [mem_fold, List.mem_append]
theorem asc_merge {l m : List Fm} (hl : asc l) (hm : asc m) (ol : ∀ x ∈ l, okL x) (om : ∀ x ∈ m, okL x) : asc (merge l m) := by
  unfold merge
  split
  · exact hm
  · split
    · exact hl
    · refine asc_fold fun x hx => ?_
      rcases List.mem_append.mp hx with h | h
      · exact ol x h
      · exact om x h
theorem alls_sub : ∀ {f : Fm}, f.okL → (∀ x ∈ f.alls, okL x) ∧ asc f.alls
  | .at _, _ => ⟨fun _ h => by simp [alls] at h, List.Pairwise.nil⟩
  | .no, _ => ⟨fun _ h => by simp [alls] at h, List.Pairwise.nil⟩
  | .imp a b, h => by
    obtain ⟨h1, h2⟩ := alls_sub h.1
    obtain ⟨h3, h4⟩ := alls_sub h.2
    exact ⟨fun x hx => (mem_merge.mp hx).elim (h1 x) (h3 x), asc_merge h2 h4 h1 h3⟩
  | .all a, h => by
    obtain ⟨h1, h2⟩ := alls_sub (f := a) h
    have h3 : ∀ x ∈ [Fm.all a], okL x := fun x hx => by
      rw [List.mem_singleton] at hx
      subst hx
      exact h
    exact ⟨fun x hx => (mem_merge.mp hx).elim (h1 x) (h3 x), asc_merge h2 (by simp [asc]) h1 h3⟩
end Fm
/-- the kit of formulas -/
@[reducible] def FK : FmKit where
  kind := Fm.kind
  many f := (f.many : Nat)
  deep f := (f.deep : Nat)
  atoms := Fm.atoms
  bare := Fm.outer
  spell := Fm.spell
  alls := Fm.alls
end N

set_option Elab.async false
set_option linter.all false
set_option maxRecDepth 100000
/-! Further rules: dead parts, isinstance, texts, tuples joined, tables of the module, sorted keys, dicts of bools. -/
namespace N
open PySem PySem.Spec PyProof.Rows L2
open C8 (InsC)

theorem len_ok {n : Nat} (h : n ≤ 1000) : n ≤ sizeLine := by
  have := sizeLine_eq
  omega
/-! ### what is never reached -/
def tDead : TE := fun _ _ _ => False
theorem pt_dead {X : Cx} {e : Expr} : PT X e (fun _ _ _ => False) := ⟨fun _ _ _ _ _ _ h => h.elim⟩
theorem pe_dead {X : Cx} {e : Expr} : PE X e tDead := ⟨fun _ _ _ _ _ _ h => h.elim⟩

section
variable {F : FmKit} {T : Kx} {C H H' O O' : Hp} {G : Gm} {W W' : Om} {σ : L2.St} {a p : Addr} {d : D} {l : List D}
  {te ta tb : TE} {t u : TT} {R R' : D → Om → Prop} {Z : Bool → Om → Prop} {tr tk : TA} {ts tz : TS}
/-- an owned cell is let go -/
theorem ev_drp (h : Ev F T te G W fun d W' => ∃ W2, W2.Sublist W' ∧ R d W2) : Ev F T te G W R := fun C H O σ w Q q => h C H O σ w Q fun d W' H' O' v ⟨W2, s, r⟩ n k => q d W2 H' O' v r ⟨n.ext, n.dis, n.oc, n.own.sub s⟩ k
theorem bo_drp {r : R2} {d1 d2 : D} (h : Bo F T r d1 d2 W fun d W' => ∃ W2, W2.Sublist W' ∧ R d W2) : Bo F T r d1 d2 W R := fun C H O di oc ow x y hx hy Q q => h C H O di oc ow x y hx hy Q fun d W' H' O' v ⟨W2, s, r⟩ n k => q d W2 H' O' v r ⟨n.ext, n.dis, n.oc, n.own.sub s⟩ k
theorem ca_drp {r : List V → Hp → VK → Prop} {ds : List D} (h : Ca F T r ds W fun d W' => ∃ W2, W2.Sublist W' ∧ R d W2) : Ca F T r ds W R := fun C H O di oc ow xs hx Q q => h C H O di oc ow xs hx Q fun d W' H' O' v ⟨W2, s, r⟩ n k => q d W2 H' O' v r ⟨n.ext, n.dis, n.oc, n.own.sub s⟩ k

/-! ### isinstance -/
def TyD (F : FmKit) (T : Kx) (W : Om) (d : D) (t : Value) : Prop := ∀ (C H O : Hp), Dis O H → Ow F T H C O W → ∀ x, Den F T H d x → TyX T.K (ov O H) x t
theorem ca_isi {c : V} {t u : Value} {b : Bool} (hc : ClsV c u) (ht : TyD F T W d t) (e : PySem.W.kitOne T.K t u = some b) (r : R (.bl b) W) : Ca F T (rIsi T.K) [d, .vl c] W R := ca_two fun C H O di oc ow x y hx hy Q q => by
  have hy : y = c := hy
  subst hy
  exact ⟨x, y, t, u, b, rfl, hc, ht C H O di ow x hx, e, q _ W H O _ r (.refl di oc ow) rfl⟩
theorem tyd_str {s : Str} : TyD F T W (.str s) (.type "str") := fun C H O di ow x k => by
  have k : x = .str s := k
  subst k
  exact .base (.str s)
theorem tyd_int {i : Int} : TyD F T W (.int i) (.type "int") := fun C H O di ow x k => by
  have k : x = .int i := k
  subst k
  exact .base (.int i)
theorem tyd_bl {i : Bool} : TyD F T W (.bl i) (.type "bool") := fun C H O di ow x k => by
  have k : x = .bl i := k
  subst k
  exact .base (.bl i)
theorem tyd_ins {c : Nat} {ns : List Str} (i : Inst F W d c ns l) (z : InsC T.K (T.cl c)) : TyD F T W d (.ref (T.cl c)) := fun C H O di ow x k => by
  obtain ⟨a, dx, fs, e, h1, h2, h3⟩ := i.at di ow k
  subst e
  exact .base (.ins h1 z.cl z.ha z.hn z.htk z.hm)
theorem isi_str {R : D → Om → Prop} {s : Str} (r : R (.bl true) W) : Ca F T (rIsi T.K) [.str s, .vl (.ty "str")] W R := ca_isi (.ty "str") tyd_str (by unfold PySem.W.kitOne; rfl) r
theorem isi_ins {c : Nat} {ns : List Str} (i : Inst F W d c ns l) (z : InsC T.K (T.cl c)) (r : R (.bl true) W) : Ca F T (rIsi T.K) [d, .adr (T.cl c)] W R := ca_isi (.own _) (tyd_ins i z) z.me r

/-! ### texts -/
theorem bo_addS {x y : Str} (hl : x.length + y.length ≤ sizeLine) (r : R (.str (x ++ y)) W) : Bo F T (fun x y H Q => ∃ i j, x = .str i ∧ y = .str j ∧ i.length + j.length ≤ sizeLine ∧ Q (.str (i ++ j)) H) (.str x) (.str y) W R :=
  op_sc fun H Q k => ⟨x, y, rfl, rfl, hl, k _ r⟩
theorem ev_fmt (h : Ev F T te G W fun d W1 => ∃ y : Str, d = .str y ∧ y.length ≤ sizeLine ∧ R (.str y) W1) : Ev F T (tFmt te) G W R := fun C H O σ w Q q =>
  h C H O σ w _ fun d W1 H1 O1 x ⟨y, e, hl, r⟩ n k => by
    subst e
    have k : x = .str y := k
    exact .inl ⟨y, k, hl, q _ W1 H1 O1 _ r n rfl⟩
theorem ev_fmtI (h : Ev F T te G W fun d W1 => ∃ i : Int, d = .int i ∧ i.natAbs.log2 < 1920 ∧ R (.str (Str.ofString (toString i))) W1) : Ev F T (tFmt te) G W R := fun C H O σ w Q q =>
  h C H O σ w _ fun d W1 H1 O1 x ⟨y, e, hl, r⟩ n k => by
    subst e
    have k : x = .int y := k
    exact .inr ⟨y, k, hl, q _ W1 H1 O1 _ r n rfl⟩
/-- the parts of an f-string -/
def EvJ (F : FmKit) (T : Kx) : List TE → Str → Gm → Om → (Str → Om → Prop) → Prop
  | [], acc, _, W, Y => Y acc W
  | te :: ts, acc, G, W, Y => Ev F T te G W fun d W1 => ∃ y : Str, d = .str y ∧ (acc ++ y).length ≤ sizeLine ∧ EvJ F T ts (acc ++ y) G W1 Y
theorem EvJ.run {Y : Str → Om → Prop} : ∀ {ts : List TE} {acc : Str} {W : Om} {H O : Hp}, EvJ F T ts acc G W Y → Wd F T C G W H O σ → ∀ Q : Str → Hp → Prop, (∀ z W' H' O', Y z W' → Nx F T C W' H H' O' → Q z (ov O' H')) → tJs ts acc σ (ov O H) Q
  | [], acc, W, H, O, h, w, Q, q => q acc W H O h w.nx
  | te :: ts, acc, W, H, O, h, w, Q, q => h C H O σ w _ fun d W1 H1 O1 x ⟨y, e, hl, r⟩ n k => by
    subst e
    have k : x = .str y := k
    exact ⟨y, k, hl, EvJ.run r (w.step n) Q fun z W' H' O' yy n2 => q z W' H' O' yy (n.trans n2)⟩
theorem ev_joined {es : List TE} (h : EvJ F T es Str.empty G W fun z W' => R (.str z) W') : Ev F T (fun σ H Q => tJs es Str.empty σ H fun out H1 => Q (.str out) H1) G W R := fun C H O σ w Q q =>
  h.run w _ fun z W' H' O' y n => q _ W' H' O' _ y n rfl

/-! ### tuples joined -/
theorem bo_catA {xs ys : List D} (hl : xs.length + ys.length ≤ sizeLine) (r : R (.tup (xs ++ ys)) W) : Bo F T (rCatA T.K) (.tup xs) (.tup ys) W R := fun C H O di oc ow x y hx hy Q q => by
  obtain ⟨a, us, ex, hs, kl⟩ := hx
  obtain ⟨b, vs, ey, ht, km⟩ := hy
  have n := Nx.refl di oc ow
  refine ⟨a, b, us, vs, ex, ey, Same.sqT di.same hs, Same.sqT di.same ht, by rw [kl.len, km.len]; exact hl, fun e => ?_, fun _ e => ?_, fun _ _ p hp => ?_⟩
  · subst e
    have e : xs = [] := by
      have := kl.len
      simpa using this.symm
    subst e
    exact q _ W H O _ r n ⟨b, vs, rfl, ht, km⟩
  · subst e
    have e : ys = [] := by
      have := km.len
      simpa using this.symm
    subst e
    exact q _ W H O _ r n ⟨a, us, rfl, hs, by rw [List.append_nil]; exact kl⟩
  · obtain ⟨n2, e2, s2⟩ := n.newF (o := .tup (us ++ vs)) hp
    rw [e2]
    exact q _ W _ O _ r n2 ⟨p, _, rfl, SqT.of upd_same, (kl.mono s2).app (km.mono s2)⟩

/-! ### a table of the module -/
theorem bo_knin {dd : Addr} {z : Str} {r0 : Option Value} (e : PySem.W.nsIn T.K dd z = some r0) (r : R (.bl (!r0.isSome)) W) :
    Bo F T (fun x y H Q => ∃ (z : Str) (r : Option Value), x = .str z ∧ y = .ref dd ∧ PySem.W.nsIn T.K dd z = some r ∧ Q (.bl (!r.isSome)) H) (.str z) (.adr dd) W R := op_sc fun H Q k => ⟨z, r0, rfl, rfl, e, k _ r⟩
theorem bo_kix {w : World} {dd : Addr} {z : Str} {v : V} (e : KDct T.K w dd z v) (r : R (.vl v) W) : Bo F T (rIxD T.K w) (.adr dd) (.str z) W R := op_sc fun H Q k => ⟨dd, z, v, rfl, rfl, e, k _ r⟩

/-! ### sorted(d) -/
theorem keys_inr {kvs : List (Key × V)} {ps : List (Key × D)} {ks : List Str} (h : kvs.map (·.1) = ps.map (·.1)) (k : ps.map (·.1) = ks.map Sum.inr) : kvs.map (·.1) = ks.map Sum.inr := h.trans k
theorem ca_sortedD {ps : List (Key × D)} {ks : List Str} (hv : Vd W d ps) (hk : ps.map (·.1) = ks.map Sum.inr) (hl : ks.length < 64) (r : ∀ ys : List Str, ys.Perm ks → sortedS ys = true → R (.lst (ys.map D.str)) W) :
    Ca F T (fun xs H Q => ∃ (a : Addr) (kvs : List (Key × V)) (ks : List Str), xs = [.ref a] ∧ Rd H a (.dK kvs) ∧ kvs.map (·.1) = ks.map Sum.inr ∧ ks.length < 64 ∧
      ∀ ys p, ys.Perm ks → sortedS ys = true → H p = none → Q (.ref p) (upd H p (.lst (ys.map V.str)))) [d] W R := ca_one fun C H O di oc ow x k Q q => by
  obtain ⟨a, kvs, e, h1, h2, h3, h4⟩ := hv.at di ow k
  refine ⟨a, kvs, ks, by rw [e], .inl h1, h2.trans hk, hl, fun ys p hp hs hn => ?_⟩
  obtain ⟨n2, e2, s2⟩ := (Nx.refl (F := F) (T := T) di oc ow).newF (o := .lst (ys.map V.str)) hn
  rw [e2]
  refine q _ W _ O _ (r ys hp hs) n2 ⟨p, _, rfl, .of upd_same, ?_⟩
  have := DenL.vls (F := F) (T := T) (H := upd H p (.lst (ys.map V.str))) (ys.map V.str)
  rw [List.map_map] at this
  exact this

/-! ### dicts of bools compared -/
def eqDB (ks ls : List (Key × Bool)) : Bool := ks.all fun p => decide (getG ls p.1 = some p.2)
def blV (ks : List (Key × Bool)) : List (Key × V) := ks.map fun p => (p.1, V.bl p.2)
theorem valV_bl {k : Key} : ∀ {ls : List (Key × Bool)}, valV (blV ls) k = (getG ls k).map V.bl
  | [] => rfl
  | (j, b) :: r => by
    have ih := valV_bl (k := k) (ls := r)
    unfold valV getG blV at *
    rw [List.map_cons, List.find?_cons, List.find?_cons]
    by_cases h : j = k
    · simp [h]
    · simp only [h, decide_false]
      exact ih
theorem bl_of {b : Bool} {u : Value} (h : RelV (.bl b) u) : u = .bool b := h
theorem hits_bl {A : Around} {s : Shared} {ls : List (Key × Bool)} {vb : List (Key × Value)} (rb : KV (blV ls) vb) : ∀ {ks : List (Key × Bool)} {va : List (Key × Value)} (ra : KV (blV ks) va), PySem.W.KeqHits A s vb va (eqDB ks ls)
  | [], va, ra => by
    cases ra
    exact .nil
  | (k, b) :: ks, va, ra => by
    cases ra with
    | @cons _ q _ qs h t =>
      obtain ⟨h1, h2⟩ := h
      obtain ⟨k', v⟩ := q
      have h1 : k = k' := h1
      subst h1
      have h2 : v = .bool b := bl_of h2
      subst h2
      have ih := hits_bl (A := A) (s := s) rb (ks := ks) t
      have rr : RelO (valV (blV ls) k) (valueAt vb k) := rb.val k
      rw [valV_bl] at rr
      cases e : getG ls k with
      | none =>
        rw [e] at rr
        have hn : valueAt vb k = none := by
          cases hv : valueAt vb k with
          | none => rfl
          | some y =>
            rw [hv] at rr
            exact absurd rr (by intro z; cases z)
        have : eqDB ((k, b) :: ks) ls = false := by simp [eqDB, e]
        rw [this]
        exact .miss hn
      | some b' =>
        rw [e] at rr
        obtain ⟨y, hy, ry⟩ := rr.some_of
        have ry : y = .bool b' := bl_of ry
        subst ry
        have : eqDB ((k, b) :: ks) ls = (PyData.eqv (.bool b) (.bool b') && eqDB ks ls) := by
          have e3 : PyData.eqv (.bool b) (.bool b') = decide (some b' = some b) := by cases b <;> cases b' <;> decide
          rw [e3]
          simp [eqDB, e]
        rw [this]
        exact .hit hy (PySem.W.keq_flat (.bool b) (.bool b')) ih
def rNeDB : R2 := fun x y H Q => ∃ a b ks ls, x = .ref a ∧ y = .ref b ∧ H a = some (.dK (blV ks)) ∧ H b = some (.dK (blV ls)) ∧ ks.length = ls.length ∧ Q (.bl (!eqDB ks ls)) H
theorem op_ne_dictB {X : Cx} (hu : X.A.units < cLine) : OpR X (compareOp .NotEq) rNeDB := by
  intro pins s σ H x y v u Q I rx ry h
  obtain ⟨a, b, ks, ls, rfl, rfl, ea, eb, hlen, q⟩ := h
  obtain rfl : v = Value.ref a := rx
  obtain rfl : u = Value.ref b := ry
  obtain ⟨_, ya, va, ra, da⟩ := (show ObjOk X.prog X.w H s.heap a (.dK (blV ks)) from I.hok a _ ea)
  obtain ⟨_, yb, vb, rb, db⟩ := (show ObjOk X.prog X.w H s.heap b (.dK (blV ls)) from I.hok b _ eb)
  have hl : va.length = vb.length := by
    rw [← ra.length, ← rb.length]
    simp [blV, hlen]
  exact PySem.W.keq_ne (knd := mixKind X.prog X.w) (r := eqDB ks ls) ya yb da db hu (fun _ => hits_bl rb ra) (fin_bl I q (by simp [hl]))
@[reducible] def blD (ks : List (Key × Bool)) : List (Key × D) := ks.map fun p => (p.1, D.bl p.2)
theorem blV_of : ∀ {ks : List (Key × Bool)} {kvs : List (Key × V)}, kvs.map (·.1) = (blD ks).map (·.1) → DenL F T H ((blD ks).map (·.2)) (kvs.map (·.2)) → kvs = blV ks
  | [], [], _, _ => rfl
  | [], _ :: _, h, _ => by simp at h
  | _ :: _, [], h, _ => by simp at h
  | (k, b) :: ks, (j, v) :: kvs, h, ⟨w, r, e, k1, k2⟩ => by
    simp only [blD, List.map_cons, List.cons.injEq] at h e
    obtain ⟨e1, e2⟩ := e
    obtain ⟨h1, h2⟩ := h
    subst e1 e2
    have k1 : v = .bl b := k1
    have ih := blV_of (ks := ks) h2 k2
    subst k1 ih h1
    rfl
theorem bo_neDB {d1 d2 : D} {ks ls : List (Key × Bool)} (h1 : Vd W d1 (blD ks)) (h2 : Vd W d2 (blD ls)) (hl : ks.length = ls.length) (r : R (.bl (!eqDB ks ls)) W) : Bo F T rNeDB d1 d2 W R := fun C H O di oc ow x y hx hy Q q => by
  obtain ⟨a, kvs, e1, a1, a2, a3, a4⟩ := h1.at di ow hx
  obtain ⟨b, lvs, e2, b1, b2, b3, b4⟩ := h2.at di ow hy
  rw [blV_of a2 a4] at a1
  rw [blV_of b2 b4] at b1
  exact ⟨a, b, ks, ls, e1, e2, a1, b1, hl, q _ W H O _ r (.refl di oc ow) rfl⟩
end
end N

set_option Elab.async false
set_option linter.all false
set_option maxRecDepth 100000
/-! Formulas over the layer: what the walk asks of the class, its fields, the promises. -/
namespace N
open PySem PySem.Spec PyProof.Rows L2
open C8 (InsC)
/-- the class Formula as the top has made it -/
structure FZ (K : PySem.W.Frag) (C : Addr) : Prop where
  cls : Cls K C
  nos : ∀ n ∈ fmNames, NoAttr K C n
  ins : InsC K C
  sf : PySem.W.selfFirst K C = true
inductive FldF : Str → Fm → D → Prop
  | kind (f : Fm) : FldF "kind" f (.str f.kind)
  | parts (f : Fm) : FldF "parts" f (.tup (partsD f))
  | many (f : Fm) : FldF "many" f (.int (f.many : Nat))
  | deep (f : Fm) : FldF "deepest" f (.int (f.deep : Nat))
  | atoms (f : Fm) : FldF "atoms" f (.str f.atoms)
  | bare (f : Fm) : FldF "bare" f (.str f.outer)
  | spell (f : Fm) : FldF "spelled" f (.str f.spell)
  | alls (f : Fm) : FldF "alls_known" f (.tup (f.alls.map .fm))
theorem FldF.look {n : Str} {f : Fm} {z : D} (h : FldF n f z) : n ∈ fmNames ∧ (fmNames.zip (fmVals FK f)).lookup n = some z := by
  cases h <;> exact ⟨by decide +kernel, rfl⟩
section
variable {T : Kx} {C H H' O O' : Hp} {G : Gm} {W W' : Om} {σ : L2.St} {a p : Addr} {d : D} {l : List D} {ta : TE} {R : D → Om → Prop}
theorem ev_fmF {n : Str} (zf : FZ T.K (T.cl 0)) (h : Ev FK T ta G W fun d W1 => ∃ f z, d = .fm f ∧ FldF n f z ∧ R z W1) : Ev FK T (tFld T.K ta n) G W R :=
  ev_fld (h.imp fun d W1 ⟨f, z, e, k, r⟩ => by
    subst e
    exact ⟨0, fmNames, fmVals FK f, z, .fm f, zf.cls, zf.nos n k.look.1, k.look.2, r⟩)
/-- something with a text -/
def Spl (W : Om) (d : D) (g : Fm) : Prop := ∃ ns l, Inst FK W d 0 ns l ∧ (ns.zip l).lookup ("spelled" : Str) = some (.str g.spell)
theorem spl_fm (f : Fm) : Spl W (.fm f) f := ⟨_, _, .fm f, (FldF.spell f).look.2⟩
theorem Spl.up {W2 : Om} {g : Fm} (h : Spl W d g) (s : ∀ x ∈ W, x ∈ W2) : Spl W2 d g := by
  obtain ⟨ns, l, i, e⟩ := h
  refine ⟨ns, l, ?_, e⟩
  cases i with
  | fm f => exact .fm f
  | obj c ns l => exact .obj _ _ _
  | own a c ns l m => exact .own _ _ _ _ (s _ m)
theorem ev_spl {g : Fm} (zf : FZ T.K (T.cl 0)) (h : Ev FK T ta G W fun d W1 => Spl W1 d g ∧ R (.str g.spell) W1) : Ev FK T (tFld T.K ta "spelled") G W R :=
  ev_fld (h.imp fun d W1 ⟨⟨ns, l, i, e⟩, r⟩ => ⟨0, ns, l, _, i, zf.cls, zf.nos "spelled" (by decide +kernel), e, r⟩)
end
namespace Fm
theorem nodup_asc {l : List Fm} (h : asc l) : l.Nodup := h.imp fun {a b} k e => by
  subst e
  exact ltF_irrefl _ k
theorem len_le {l m : List Fm} (h : l.Nodup) (s : ∀ x ∈ l, x ∈ m) : l.length ≤ m.length := by
  induction l generalizing m with
  | nil => exact Nat.zero_le _
  | cons a l ih =>
    rw [List.nodup_cons] at h
    obtain ⟨p, q, e⟩ := List.append_of_mem (s a List.mem_cons_self)
    subst e
    have := ih (m := p ++ q) h.2 fun x hx => by
      have h1 := s x (List.mem_cons_of_mem _ hx)
      rw [List.mem_append, List.mem_cons] at h1
      rw [List.mem_append]
      rcases h1 with h1 | h1 | h1
      · exact .inl h1
      · subst h1
        exact absurd hx h.1
      · exact .inr h1
    simp at this ⊢
    omega
/-- small enough for the walk -/
structure okF (f : Fm) : Prop where
  bare : f.bare
  sz : f.sz ≤ 1000000
  alls : f.alls.length < 64
theorem okF.ok {f : Fm} (h : okF f) : f.okL := bare_ok h.bare
theorem okF.l {a b : Fm} (h : okF (.imp a b)) : okF a := ⟨h.bare.1, by have := h.sz; unfold Fm.sz at this; omega, Nat.lt_of_le_of_lt (len_le (nodup_asc (alls_sub (bare_ok h.bare.1)).2) fun x hx => mem_merge.mpr (.inl hx)) h.alls⟩
theorem okF.r {a b : Fm} (h : okF (.imp a b)) : okF b := ⟨h.bare.2, by have := h.sz; unfold Fm.sz at this; omega, Nat.lt_of_le_of_lt (len_le (nodup_asc (alls_sub (bare_ok h.bare.2)).2) fun x hx => mem_merge.mpr (.inr hx)) h.alls⟩
theorem okF.a {a : Fm} (h : okF (.all a)) : okF a := ⟨h.bare, by have := h.sz; unfold Fm.sz at this; omega, Nat.lt_of_le_of_lt (len_le (nodup_asc (alls_sub (f := a) (bare_ok (f := a) h.bare)).2) fun x hx => mem_merge.mpr (.inl hx)) h.alls⟩
end Fm
theorem parts_bare : ∀ {f : Fm}, f.bare → ∀ d ∈ partsD f, ∃ g, d = .fm g
  | .at _, h, _, _ => h.elim
  | .no, _, d, h => by simp [partsD] at h
  | .imp a b, _, d, h => by
    simp [partsD] at h
    rcases h with h | h
    · exact ⟨a, h⟩
    · exact ⟨b, h⟩
  | .all a, _, d, h => by
    simp [partsD] at h
    exact ⟨a, h⟩
theorem kind_bare : ∀ {f : Fm}, f.bare → ¬ f.kind = ("atom" : Str)
  | .at _, h => h.elim
  | .no, _ => by decide +kernel
  | .imp _ _, _ => by
    show ¬ ("if" : Str) = "atom"
    decide +kernel
  | .all _, _ => by
    show ¬ ("all" : Str) = "atom"
    decide +kernel
/-! ### the object that is made: its attributes one by one -/
section
variable {T : Kx} {x : Addr} {n : Str} {z : D} {ns : List Str} {l : List D} {R : Om → Prop}
theorem rcv_new (zf : FZ T.K (T.cl 0)) (hn : n ∈ fmNames) (h : n ∉ ns) (hl : ns.length < 1000) (r : R [(x, .ins 0 (ns ++ [n]) (l ++ [z]))]) : Rcv FK T (.adr x) z n [(x, .ins 0 ns l)] R :=
  ⟨x, 0, ns, l, [], [], _, _, rfl, rfl, zf.cls, zf.nos n hn, hl, .new ns l h, r⟩
theorem rcv_at (j : Nat) (zf : FZ T.K (T.cl 0)) (hn : n ∈ fmNames) (h : ns.Nodup) (hj : ns[j]? = some n) (hl : ns.length < 1000) (r : R [(x, .ins 0 ns (l.set j z))]) : Rcv FK T (.adr x) z n [(x, .ins 0 ns l)] R :=
  ⟨x, 0, ns, l, [], [], _, _, rfl, rfl, zf.cls, zf.nos n hn, hl, .at ns l j h hj, r⟩
end
theorem allsD_of {x : Addr} {f : Fm} : ∀ {e : List (D × Fm)}, (∀ p ∈ e, p.1 = .fm p.2 ∨ (p.1 = .adr x ∧ p.2 = f)) → AllsD x f (e.map (·.1)) (e.map (·.2))
  | [], _ => rfl
  | p :: e, h => ⟨p.2, _, rfl, h p List.mem_cons_self, allsD_of fun q hq => h q (List.mem_cons_of_mem _ hq)⟩
theorem fm_map (l : List Fm) : (l.map fun g => (D.fm g, g)).map (·.1) = l.map .fm := by rw [List.map_map]; rfl
theorem fm_map2 (l : List Fm) : (l.map fun g => (D.fm g, g)).map (·.2) = l := by rw [List.map_map]; exact List.map_id l
theorem max_int (m n : Nat) : (if (n : Int) > (m : Int) then (n : Int) else (m : Int)) = ((max m n : Nat) : Int) := by
  split <;> omega
theorem empty_app (x : Str) : Str.empty ++ x = x := str_ext (by rw [str_app]; rfl)
/-! ### tables from texts to things -/
@[reducible] def kvE (l : List (D × Fm)) : List (Key × D) := l.map fun p => (Sum.inr p.2.spell, p.1)
theorem kvE_keys (l : List (D × Fm)) : (kvE l).map (·.1) = (l.map fun p => p.2.spell).map Sum.inr := by simp [kvE]
theorem getG_kvE : ∀ {l : List (D × Fm)} {p : D × Fm}, p ∈ l → (l.map fun p => p.2.spell).Nodup → getG (kvE l) (Sum.inr p.2.spell) = some p.1
  | [], p, h, _ => by simp at h
  | q :: l, p, h, nd => by
    rw [List.map_cons, List.nodup_cons] at nd
    unfold getG kvE
    rw [List.map_cons, List.find?_cons]
    by_cases e : (Sum.inr q.2.spell : Key) = Sum.inr p.2.spell
    · simp only [e, decide_true, Option.map_some]
      rcases List.mem_cons.mp h with h | h
      · rw [h]
      · refine absurd (List.mem_map.mpr ⟨p, h, ?_⟩) nd.1
        exact (Sum.inr.inj e).symm
    · simp only [e, decide_false]
      rcases List.mem_cons.mp h with h | h
      · exact absurd (by rw [h]) e
      · exact getG_kvE h nd.2
theorem put_kvE {l : List (D × Fm)} {d : D} {g : Fm} (ol : ∀ p ∈ l, p.2.okL) (og : g.okL) : ∃ l', putG (kvE l) (Sum.inr g.spell) d = kvE l' ∧ (∀ p ∈ l', p ∈ l ∨ p = (d, g)) ∧ (∀ x ∈ l.map (·.2), x ∈ l'.map (·.2)) ∧ g ∈ l'.map (·.2) ∧ l'.length ≤ l.length + 1 := by
  unfold putG
  split
  · rename_i ha
    refine ⟨l.map fun q => if q.2.spell = g.spell then (d, q.2) else q, ?_, fun p hp => ?_, fun x hx => ?_, ?_, by simp⟩
    · simp only [kvE, List.map_map]
      refine List.map_congr_left fun q hq => ?_
      by_cases e : q.2.spell = g.spell
      · simp [Function.comp, e]
      · simp [Function.comp, e]
    · obtain ⟨q, hq, e⟩ := List.mem_map.mp hp
      by_cases h : q.2.spell = g.spell
      · rw [if_pos h] at e
        rw [Fm.spell_inj (ol q hq) og h] at e
        exact .inr e.symm
      · rw [if_neg h] at e
        subst e
        exact .inl hq
    · obtain ⟨q, hq, e⟩ := List.mem_map.mp hx
      refine List.mem_map.mpr ⟨_, List.mem_map.mpr ⟨q, hq, rfl⟩, ?_⟩
      split
      · exact e
      · exact e
    · rw [List.any_eq_true] at ha
      obtain ⟨z, hz, e⟩ := ha
      obtain ⟨q, hq, e2⟩ := List.mem_map.mp hz
      subst e2
      have e := Sum.inr.inj (of_decide_eq_true e)
      refine List.mem_map.mpr ⟨_, List.mem_map.mpr ⟨q, hq, rfl⟩, ?_⟩
      rw [if_pos e]
      exact Fm.spell_inj (ol q hq) og e
  · refine ⟨l ++ [(d, g)], by simp [kvE], fun p hp => ?_, fun x hx => ?_, by simp, by simp⟩
    · rcases List.mem_append.mp hp with h | h
      · exact .inl h
      · exact .inr (List.mem_singleton.mp h)
    · rw [List.map_append]
      exact List.mem_append_left _ hx
theorem merge_of {l m : List Fm} {e : List (D × Fm)} (hl : l ≠ []) (hm : m ≠ []) (ol : ∀ x ∈ l ++ m, x.okL) (hs : sortedS (e.map fun p => p.2.spell) = true) (nd : (e.map fun p => p.2.spell).Nodup) (h : ∀ x, x ∈ e.map (·.2) ↔ x ∈ l ++ m) : e.map (·.2) = Fm.merge l m := by
  unfold Fm.merge
  rw [if_neg hl, if_neg hm]
  refine Fm.asc_eq ?_ (Fm.asc_fold ol) fun x => by rw [h x, Fm.mem_fold]
  have := sorted_all hs nd
  rw [List.pairwise_map] at this
  unfold Fm.asc
  rw [List.pairwise_map]
  exact this
/-! ### the promises -/
def S_united : FS := fun ds W post => ∃ x y : Str, ds = [.str x, .str y] ∧ x = y ∧ W = [] ∧ post (.str (unite x y)) []
def S_merged : FS := fun ds W post => ∃ e1 e2 : List (D × Fm), ds = [.tup (e1.map (·.1)), .tup (e2.map (·.1))] ∧ (∀ p ∈ e1 ++ e2, p.2.okL ∧ Spl W p.1 p.2) ∧ e1.length < 64 ∧ e2.length < 64 ∧ (Fm.merge (e1.map (·.2)) (e2.map (·.2))).length < 64 ∧
  ∀ e' : List (D × Fm), e'.map (·.2) = Fm.merge (e1.map (·.2)) (e2.map (·.2)) → (∀ p ∈ e', p ∈ e1 ++ e2) → post (.tup (e'.map (·.1))) W
def S_init : FS := fun ds W post => ∃ (x : Addr) (f : Fm), ds = [.adr x, .str f.kind, .tup (partsD f)] ∧ W = [(x, .ins 0 [] [])] ∧ f.okF ∧
  ∀ al, AllsD x f al f.alls → post .non [(x, .ins 0 fmNames [.str f.kind, .tup (partsD f), .int (f.many : Nat), .int (f.deep : Nat), .str f.atoms, .str f.outer, .str f.spell, .tup al])]
end N

set_option Elab.async false
set_option linter.all false
set_option maxRecDepth 100000
/-! Rules with the module's part named: for the parts of a comprehension. -/
namespace N
open PySem PySem.Spec PyProof.Rows L2
theorem relV_ref (a : Addr) : RelV (.ref a) (.ref a) := rfl
theorem relV_ty (s : String) : RelV (.ty s) (.type s) := rfl
section
variable {X : Cx} {K : PySem.W.Frag}
theorem pe_fldK {e : Expr} {f : Str} {pos : Pos} {ta : TE} (hK : X.K = K) (h : PE X e ta) (hb : attributeBase e f X.env (eval e X.env) = eval e X.env) : PE X (e.Attribute f pos) (tFld K ta f) := hK ▸ pe_fld h hb
theorem ix_listK (hK : X.K = K) : IxR X (rIxL K) := hK ▸ ix_list
theorem ix_tupK (hK : X.K = K) : IxR X (rIxT K) := hK ▸ ix_tup
theorem call_lenK (hK : X.K = K) : CallR X (.builtin "len") (fun xs H Q => ∃ x n, xs = [x] ∧ LenV K x H n ∧ Q (.int (n : Nat)) H) := hK ▸ call_len
theorem call_isiKk (hK : X.K = K) : CallR X (.builtin "isinstance") (rIsi K) := hK ▸ call_isi
theorem call_tuple_ofK (hK : X.K = K) : CallR X (.type "tuple") (fun xs H Q => ∃ p ys, xs = [.ref p] ∧ ((SqL K H p ys ∧ ∀ l, H l = none → Q (.ref l) (upd H l (.tup ys))) ∨ (SqT K H p ys ∧ Q (.ref p) H))) := hK ▸ call_tuple_of
theorem call_list_ofK (hK : X.K = K) : CallR X (.type "list") (fun xs H Q => ∃ p ys, xs = [.ref p] ∧ (SqL K H p ys ∨ SqT K H p ys) ∧ ∀ l, H l = none → Q (.ref l) (upd H l (.lst ys))) := hK ▸ call_list_of
theorem op_catAK (hK : X.K = K) : OpR X (binaryOp .Add) (rCatA K) := hK ▸ op_catA
theorem op_in_seqK (hK : X.K = K) : OpR X (compareOp .In) (rIn K false) := hK ▸ op_in_seq
theorem op_notIn_seqK (hK : X.K = K) : OpR X (compareOp .NotIn) (rIn K true) := hK ▸ op_notIn_seq
theorem sl_listK (hK : X.K = K) : SlR X (rSlL K) := hK ▸ sl_list
theorem pg_tupK {pos : Pos} {es : List Expr} {k : Nat} {t : TGs} {n : Nat} (hK : X.K = K) (hc : X.calm = true) (h : PGs X es t) (h1 : (assignEach es X.env).length = n := by rfl) (h2 : List.findIdx? (fun x => x.1) (assignEach es X.env) = none := by rfl) : PG X (Expr.Tuple es k pos) (gTup K n t) := hK ▸ pg_tup hc h h1 h2
theorem pi_listK {tg l : Expr} {tl : TE} (hK : X.K = K) (h : PE X l tl) : PI X tg l (iList K tl) := hK ▸ pi_list h
theorem pi_tupK {tg l : Expr} {tl : TE} (hK : X.K = K) (h : PE X l tl) : PI X tg l (iTup K tl) := hK ▸ pi_tup h
theorem call_repr_dataK (hK : X.K = K) (hg : X.A.guards = some []) (hu : X.A.units + 64 < cLine) : CallR X (.builtin "repr") (rRep K) := hK ▸ call_repr_data hg hu
end
/-! ### a test that is a choice of tests -/
def tIfT (tc ta tb : TT) : TT := fun σ H Q => tc σ H fun c H1 => if c = true then ta σ H1 Q else tb σ H1 Q
theorem pt_ifE {X : Cx} {c a b : Expr} {tc ta tb : TT} {pos : Pos} (hc : PT X c tc) (ha : PT X a ta) (hb : PT X b tb) : PT X (.IfExp c a b pos) (tIfT tc ta tb) := by
  refine ⟨fun pins s σ H Q I h => ?_⟩
  rw [PySem.arm_isTrue_IfExp]
  refine wpAny_bind (thn (hc.run pins s σ H _ I h) fun d s1 ⟨H1, I1, q1⟩ => ?_)
  cases d with
  | true => exact ha.run pins s1 σ H1 Q I1 q1
  | false => exact hb.run pins s1 σ H1 Q I1 q1
theorem et_ifE {F : FmKit} {T : Kx} {tc ta tb : TT} {G : Gm} {W : Om} {S : Bool → Om → Prop} (h : EvT F T tc G W fun c W1 => if c = true then EvT F T ta G W1 S else EvT F T tb G W1 S) : EvT F T (tIfT tc ta tb) G W S := fun C H O σ w Q q =>
  h C H O σ w _ fun c W1 H1 O1 s n => by
    cases c with
    | true => exact s C H1 O1 σ (w.step n) _ fun b W2 H2 O2 s2 n2 => q b W2 H2 O2 s2 (n.trans n2)
    | false => exact s C H1 O1 σ (w.step n) _ fun b W2 H2 O2 s2 n2 => q b W2 H2 O2 s2 (n.trans n2)
end N

set_option Elab.async false
set_option linter.all false
set_option maxRecDepth 100000
/-! Formulas over the layer: making, operators, properties; the promises of the small defs. -/
namespace N
open PySem PySem.Spec PyProof.Rows L2
open C8 (InsC Cal)
namespace Fm
abbrev neg (f : Fm) : Fm := .imp f .no
abbrev conj (f g : Fm) : Fm := neg (.imp f (neg g))
abbrev disj (f g : Fm) : Fm := .imp (neg f) g
end Fm
section
variable {T : Kx} {C H H' O O' : Hp} {G : Gm} {W W' : Om} {σ : L2.St} {a p : Addr} {d : D} {l : List D} {ta : TE} {tr : TA} {R : D → Om → Prop} {S : FS} {E : XK}
/-- Formula(kind, ..) -/
theorem ev_mkF (h : EvA FK T tr G W fun ds W1 => ∃ f : Fm, ds = .str f.kind :: partsD f ∧ f.okF ∧ R (.fm f) W1) : Ev FK T (StX.tMakeR (T.cl 0) (spN FK T (starS 2 S_init)) E tr) G W R :=
  ev_fz (ev_makeR (fun C H O σ w Q q => h C H O σ w Q fun ds W1 H1 O1 vs ⟨f, e, hf, r⟩ n k => q ds W1 H1 O1 vs (fun x hx => by
    subst e
    refine ⟨[(x, .ins 0 [] [])], W1, List.Perm.refl _, by simp, ?_, x, f, rfl, rfl, hf, fun al ha => ⟨rfl, x, _, W1, .fm f, rfl, List.Perm.refl _, .fm f al ha, r⟩⟩
    have : (partsD f).length ≤ 2 := by cases f <;> simp [partsD]
    simp
    omega) n k))
theorem ev_inv (h : Ev FK T ta G W fun d W1 => ∃ f, d = .fm f ∧ Hand S [.fm f] W1 R) : Ev FK T (tUn (rOwn1 (T.cl 0) (spN FK T S) E) ta) G W R :=
  ev_un (h.imp fun d W1 ⟨f, e, hh⟩ => by
    subst e
    exact ca_own1 (.fm f) hh)
theorem bo_fm2 {f g : Fm} (h : Hand S [.fm f, .fm g] W R) : Bo FK T (rOwn2 (T.cl 0) (spN FK T S) E) (.fm f) (.fm g) W R := bo_own (.fm f) (.fm g) h
theorem ca_strF {f : Fm} (h : Hand S [.fm f] W fun d' W' => (∃ z, d' = .str z) ∧ R d' W') : Ca FK T (rStrO (T.cl 0) (spN FK T S)) [.fm f] W R := ca_strO (.fm f) h
theorem ev_prpF (h : Ev FK T ta G W fun d W1 => ∃ f, d = .fm f ∧ Hand S [.fm f] W1 R) : Ev FK T (tProp (T.cl 0) (spN FK T S) [] E ta) G W R :=
  ev_prop (h.imp fun d W1 ⟨f, e, hh⟩ => by
    subst e
    exact ⟨_, _, .fm f, hh⟩)
theorem ca_strS {s : Str} (h : R (.str s) W) : Ca FK T (fun xs H Q => ∃ a, xs = [.str a] ∧ Q (.str a) H) [.str s] W R := cl_sc (xs := [.str s]) fun H Q k => ⟨s, rfl, k _ h⟩
theorem ev_isN_fm {f : Fm} (h : Ev FK T ta G W fun d W1 => d = .fm f ∧ R (.bl false) W1) : Ev FK T (tIsN ta) G W R :=
  ev_isN (h.imp fun d W1 ⟨e, r⟩ => ⟨false, fun H v k => by
    subst e
    obtain ⟨a, e, _⟩ := k
    subst e
    rfl, r⟩)
end
/-- a property by the promise of its getter -/
structure Prp (P : Program) (w : World) (K : PySem.W.Frag) (mg : Str → Option Value) (base : Heap) (k : Nat) (C : Addr) (m : Str) (sp : Sp) : Prop where
  ex : ∃ (p g : Addr) (fd : FuncData) (ps : List Str), PropOf K C m p g ∧ FnOk P w K mg base C8.CX0 k g fd ps sp ∧ Binds K fd ps []
theorem prpD {P : Program} {w : World} {K : PySem.W.Frag} {mg : Str → Option Value} {base : Heap} {F : FmKit} {cl : Nat → Addr} {S : FS} {m qual : Str} {C p : Addr} {st : Stmt} {f : Addr} {fd : FuncData} {N ps : List Str} {k : Nat} (o : PropOf K C m p f) (Fn : Fun K m qual st f fd) (Sc : FnScope N ps (defScope st)) (len : ∀ ds W post, S ds W post → ds.length = ps.length)
    (hb : ∀ (kV doc pm : Value) (an : Option Addr) (cdv ct : Value) (us : List Value), us.length = ps.length → bindArgs (PySem.W.fnOf m qual (defArgs st) (defBody st) (defScope st) .none kV doc pm an cdv ct) ⟨us, []⟩ = pure (ps.zip us))
    (body : ∀ (cdv : Value) (A : Around) (outer : List Env) (s : Shared) (H : Hp) (E : XK), Room k (A.deeper (envOfC qual (defScope st) s.heap.objs.size f cdv)) →
      ∃ t, PSs (cxOf C8.CX0 P w K mg base N qual (defScope st) f cdv A outer s H E).nox (defBody st) t ∧ ∀ ds W post, S ds W post → Sw F ⟨K, cl⟩ t (startD N ds) W (E_ post)) : Prp P w K mg base (k + 1) C m (spN F ⟨K, cl⟩ S) :=
  ⟨p, f, fd, ps, o, okD Fn Sc len body, Fn.binds hb⟩
theorem pe_prp {X : Cx} {k j : Nat} {C : Addr} {f : Str} {sp : Sp} {e : Expr} {pos : Pos} {ta : TE} (c : Prp X.prog X.w X.K X.mg X.base k C f sp) (cls : Cls X.K C) (hr : Room j X.A) (hk : k + 1 ≤ j) (he : PE X e ta) (hab : attributeBase e f X.env (eval e X.env) = eval e X.env := by rfl) :
    PE X (e.Attribute f pos) (tProp C sp [] E0 ta) := by
  obtain ⟨p, g, fd, ps, o, h, b⟩ := c.ex
  exact pe_prop he cls o h (hr.mono hk) b .nil pass0 hab
/-! ### the promises -/
def S_no : FS := fun ds W post => ds = [] ∧ W = [] ∧ post (.fm .no) []
def S_every : FS := fun ds W post => ∃ f : Fm, ds = [.fm f] ∧ W = [] ∧ (Fm.all f).okF ∧ post (.fm (.all f)) []
def S_inv : FS := fun ds W post => ∃ f : Fm, ds = [.fm f] ∧ W = [] ∧ (Fm.neg f).okF ∧ post (.fm (Fm.neg f)) []
def S_and : FS := fun ds W post => ∃ f g : Fm, ds = [.fm f, .fm g] ∧ W = [] ∧ (Fm.conj f g).okF ∧ post (.fm (Fm.conj f g)) []
def S_or : FS := fun ds W post => ∃ f g : Fm, ds = [.fm f, .fm g] ∧ W = [] ∧ (Fm.disj f g).okF ∧ post (.fm (Fm.disj f g)) []
def S_shr : FS := fun ds W post => ∃ f g : Fm, ds = [.fm f, .fm g] ∧ W = [] ∧ (Fm.imp f g).okF ∧ post (.fm (Fm.imp f g)) []
def S_same : FS := fun ds W post => ∃ f : Fm, ds = [.fm f] ∧ W = [] ∧ post (.fm f) []
def S_alls : FS := fun ds W post => ∃ f : Fm, ds = [.fm f] ∧ W = [] ∧ post (.tup (f.alls.map .fm)) []
def S_str : FS := fun ds W post => ∃ f : Fm, ds = [.fm f] ∧ W = [] ∧ post (.str f.spell) []
end N

set_option Elab.async false
set_option linter.all false
set_option maxRecDepth 100000
/-! Heights, plainly. -/
namespace N
open PySem PySem.Spec PyProof.Rows L2
namespace Fm
/-- whether a formula without atoms holds at a height -/
def allB (p : Nat → Bool) : Nat → Bool
  | 0 => true
  | n + 1 => allB p n && p n
def hAt : Fm → Nat → Bool
  | .at _, _ => false
  | .no, _ => false
  | .imp a b, n => !(hAt a n) || hAt b n
  | .all a, n => allB (hAt a) n
/-- ifs within one another -/
def dep : Fm → Nat
  | .imp a b => 1 + max a.dep b.dep
  | _ => 0
/-- by what is told of the all-parts -/
def hld (s : Fm → Bool) : Fm → Bool
  | .at _ => false
  | .no => false
  | .imp a b => !(hld s a) || hld s b
  | .all a => s (.all a)
theorem hld_at : ∀ (f : Fm) (n : Nat), hld (fun g => hAt g n) f = hAt f n
  | .at _, _ => rfl
  | .no, _ => rfl
  | .imp a b, n => by simp [hld, hAt, hld_at a n, hld_at b n]
  | .all a, n => rfl
theorem mem_alls_all (a : Fm) : Fm.all a ∈ (Fm.all a).alls := mem_merge.mpr (.inr (by simp))
theorem alls_all {a x : Fm} (h : x ∈ a.alls) : x ∈ (Fm.all a).alls := mem_merge.mpr (.inl h)
theorem alls_l {a b x : Fm} (h : x ∈ a.alls) : x ∈ (Fm.imp a b).alls := mem_merge.mpr (.inl h)
theorem alls_r {a b x : Fm} (h : x ∈ b.alls) : x ∈ (Fm.imp a b).alls := mem_merge.mpr (.inr h)
theorem same_at {n m : Nat} : ∀ {f : Fm}, (∀ g ∈ f.alls, hAt g n = hAt g m) → hAt f n = hAt f m
  | .at _, _ => rfl
  | .no, _ => rfl
  | .imp a b, h => by
    simp only [hAt]
    rw [same_at (f := a) fun g hg => h g (alls_l hg), same_at (f := b) fun g hg => h g (alls_r hg)]
  | .all a, h => h _ (mem_alls_all a)
/-- what is in all-parts of all-parts -/
theorem alls_trans : ∀ {f : Fm} {g x : Fm}, g ∈ f.alls → x ∈ g.alls → x ∈ f.alls
  | .at _, _, _, h, _ => by simp [alls] at h
  | .no, _, _, h, _ => by simp [alls] at h
  | .imp a b, g, x, h, k => by
    rcases mem_merge.mp h with h | h
    · exact alls_l (alls_trans h k)
    · exact alls_r (alls_trans h k)
  | .all a, g, x, h, k => by
    rcases mem_merge.mp h with h | h
    · exact alls_all (alls_trans h k)
    · rw [List.mem_singleton] at h
      subst h
      exact k
theorem alls_form : ∀ {f g : Fm}, g ∈ f.alls → ∃ a, g = .all a ∧ ∀ x ∈ a.alls, x ∈ f.alls
  | .at _, _, h => by simp [alls] at h
  | .no, _, h => by simp [alls] at h
  | .imp a b, g, h => by
    rcases mem_merge.mp h with h | h
    · obtain ⟨c, e, k⟩ := alls_form h
      exact ⟨c, e, fun x hx => alls_l (k x hx)⟩
    · obtain ⟨c, e, k⟩ := alls_form h
      exact ⟨c, e, fun x hx => alls_r (k x hx)⟩
  | .all a, g, h => by
    rcases mem_merge.mp h with h | h
    · obtain ⟨c, e, k⟩ := alls_form h
      exact ⟨c, e, fun x hx => alls_all (k x hx)⟩
    · rw [List.mem_singleton] at h
      subst h
      exact ⟨a, rfl, fun x hx => alls_all hx⟩
/-- the all-parts stand still from n to n + 1 -/
def still (f : Fm) (n : Nat) : Prop := ∀ g ∈ f.alls, hAt g (n + 1) = hAt g n
theorem still_next {f : Fm} {n : Nat} (h : still f n) : still f (n + 1) := fun g hg => by
  obtain ⟨a, e, k⟩ := alls_form hg
  subst e
  have h1 := h _ hg
  have h2 : hAt a (n + 1) = hAt a n := same_at fun x hx => h x (k x hx)
  simp only [hAt, allB] at h1 ⊢
  rw [h2, h1]
  rw [← h1]
  cases allB (hAt a) n <;> cases hAt a n <;> rfl
theorem still_on {f : Fm} {n : Nat} (h : still f n) : ∀ m, n ≤ m → still f m := fun m hm => by
  induction m with
  | zero =>
    have : n = 0 := by omega
    subst this
    exact h
  | succ m ih =>
    by_cases e : n = m + 1
    · subst e
      exact h
    · exact still_next (ih (by omega))
theorem still_all {f : Fm} {n : Nat} (h : still f n) : ∀ m, n ≤ m → hAt f m = hAt f n := fun m hm => by
  induction m with
  | zero =>
    have : n = 0 := by omega
    subst this
    rfl
  | succ m ih =>
    by_cases e : n = m + 1
    · subst e
      rfl
    · rw [← ih (by omega)]
      exact same_at (still_on h m (by omega))
/-- how many all-parts hold -/
def cnt (f : Fm) (n : Nat) : Nat := (f.alls.filter fun g => hAt g n).length
theorem falls {f g : Fm} {n : Nat} (hg : g ∈ f.alls) (h : hAt g (n + 1) = true) : hAt g n = true := by
  obtain ⟨a, e, _⟩ := alls_form hg
  subst e
  simp only [hAt, allB, Bool.and_eq_true] at h ⊢
  exact h.1
theorem filter_le {α : Type} {p q : α → Bool} : ∀ {l : List α}, (∀ x ∈ l, p x = true → q x = true) → (l.filter p).length ≤ (l.filter q).length ∧ ((∃ x ∈ l, p x ≠ q x) → (l.filter p).length < (l.filter q).length)
  | [], _ => ⟨Nat.le_refl _, fun ⟨x, h, _⟩ => by simp at h⟩
  | a :: l, h => by
    obtain ⟨h1, h2⟩ := filter_le (l := l) (p := p) (q := q) fun x hx => h x (List.mem_cons_of_mem _ hx)
    have ha := h a List.mem_cons_self
    cases ep : p a <;> cases eq : q a
    · simp only [List.filter_cons, ep, eq]
      refine ⟨h1, fun ⟨x, hx, hn⟩ => h2 ?_⟩
      rcases List.mem_cons.mp hx with e | e
      · subst e
        exact absurd (ep.trans eq.symm) hn
      · exact ⟨x, e, hn⟩
    · simp only [List.filter_cons, ep, eq]
      simp
      omega
    · rw [ep, eq] at ha
      exact absurd (ha rfl) (by simp)
    · simp only [List.filter_cons, ep, eq]
      simp
      refine ⟨h1, fun hx => ?_⟩
      rcases hx with e | ⟨x, e⟩
      · exact absurd (by rw [ep, eq]) e
      · exact h2 ⟨_, e.1, e.2⟩
theorem cnt_lt {f : Fm} {n : Nat} (h : ¬ still f n) : cnt f (n + 1) < cnt f n := by
  unfold cnt
  refine (filter_le fun x hx => falls hx).2 ?_
  unfold still at h
  simp only [Classical.not_forall] at h
  obtain ⟨g, hg, hn⟩ := h
  exact ⟨g, hg, hn⟩
end Fm
end N
namespace N
open PySem PySem.Spec PyProof.Rows L2
/-- what a table of truth values tells of formulas -/
def Tab (ks : List (Key × Bool)) (s : Fm → Bool) : Fm → Prop
  | .at _ => True
  | .no => True
  | .imp a b => Tab ks s a ∧ Tab ks s b
  | .all a => getG ks (Sum.inr (Fm.all a).spell) = some (s (.all a))
def S_held (j : Nat) : FS := fun ds W post => ∃ (f : Fm) (sd : D) (ks : List (Key × Bool)) (s : Fm → Bool), ds = [.fm f, sd] ∧ Vd W sd (blD ks) ∧ f.dep < j ∧ Tab ks s f ∧ post (.bl (Fm.hld s f)) W
theorem getG_bl {k : Key} : ∀ {ls : List (Key × Bool)}, getG (blD ls) k = (getG ls k).map D.bl
  | [] => rfl
  | (j, b) :: r => by
    have ih := getG_bl (k := k) (ls := r)
    unfold getG blD at *
    rw [List.map_cons, List.find?_cons, List.find?_cons]
    by_cases h : j = k
    · simp [h]
    · simp only [h, decide_false]
      exact ih
end N
namespace N
open PySem PySem.Spec PyProof.Rows L2
/-- all all-parts nest few ifs -/
def flat (j : Nat) (f : Fm) : Prop := f.dep < j ∧ ∀ a, Fm.all a ∈ f.alls → a.dep < j
def S_values : FS := fun ds W post => ∃ f : Fm, ds = [.fm f] ∧ W = [] ∧ f.okF ∧ flat 20 f ∧
  ∀ (p : Addr) (m : Nat), m ≤ 64 → Fm.still f m → post (.adr p) [(p, .lst ((List.range (m + 1)).map fun i => .bl (Fm.hAt f i)))]
end N
namespace N
open PySem PySem.Spec PyProof.Rows L2
def Fm.inn : Fm → Fm
  | .all a => a
  | f => f
/-- the rows of an all-part's text and what is in it -/
def rowsD (f : Fm) : List D := f.alls.map fun g => .tup [.str g.spell, .fm g.inn]
end N
namespace N
open PySem PySem.Spec PyProof.Rows L2
theorem getG_map {α β : Type} {key : α → Key} {v : α → β} : ∀ {l : List α} {x : α}, x ∈ l → (l.map key).Nodup → getG (l.map fun y => (key y, v y)) (key x) = some (v x)
  | [], x, h, _ => by simp at h
  | y :: l, x, h, nd => by
    rw [List.map_cons, List.nodup_cons] at nd
    unfold getG
    rw [List.map_cons, List.find?_cons]
    by_cases e : key y = key x
    · simp only [e, decide_true, Option.map_some]
      rcases List.mem_cons.mp h with h | h
      · rw [h]
      · exact absurd (List.mem_map.mpr ⟨x, h, e.symm⟩) nd.1
    · simp only [e, decide_false]
      rcases List.mem_cons.mp h with h | h
      · exact absurd (by rw [h]) e
      · exact getG_map h nd.2
theorem putG_new {α : Type} {ps : List (Key × α)} {k : Key} {z : α} (h : k ∉ ps.map (·.1)) : putG ps k z = ps ++ [(k, z)] := by
  unfold putG
  rw [if_neg]
  intro e
  rw [List.any_eq_true] at e
  obtain ⟨q, hq, e⟩ := e
  exact h (List.mem_map.mpr ⟨q, hq, of_decide_eq_true e⟩)
/-- the table of the all-parts at a height -/
def ksAt (f : Fm) (n : Nat) : List (Key × Bool) := f.alls.map fun g => (Sum.inr g.spell, g.hAt n)
theorem keys_nd {f : Fm} (hf : f.okL) : (f.alls.map fun g => (Sum.inr g.spell : Key)).Nodup := by
  obtain ⟨h1, h2⟩ := Fm.alls_sub hf
  unfold List.Nodup
  rw [List.pairwise_map]
  refine h2.imp fun {a b} h e => ?_
  have e := Sum.inr.inj e
  unfold Fm.ltF at h
  rw [e, ltS_irrefl] at h
  cases h
theorem ksAt_get {f g : Fm} {n : Nat} (hf : f.okL) (hg : g ∈ f.alls) : getG (ksAt f n) (Sum.inr g.spell) = some (g.hAt n) := getG_map (key := fun g : Fm => (Sum.inr g.spell : Key)) (v := fun g : Fm => g.hAt n) hg (keys_nd hf)
theorem tab_ks {f : Fm} {n : Nat} (hf : f.okL) : ∀ {a : Fm}, (∀ x ∈ a.alls, x ∈ f.alls) → Tab (ksAt f n) (fun g => g.hAt n) a
  | .at _, _ => trivial
  | .no, _ => trivial
  | .imp a b, h => ⟨tab_ks hf fun x hx => h x (Fm.alls_l hx), tab_ks hf fun x hx => h x (Fm.alls_r hx)⟩
  | .all a, h => ksAt_get hf (h _ (Fm.mem_alls_all a))
theorem eq_ks {f : Fm} {n : Nat} (hf : f.okL) : eqDB (ksAt f (n + 1)) (ksAt f n) = true ↔ f.still n := by
  unfold eqDB
  rw [List.all_eq_true]
  constructor
  · intro h g hg
    have := h _ (List.mem_map.mpr ⟨g, hg, rfl⟩)
    simp only [decide_eq_true_eq, ksAt_get hf hg, Option.some.injEq] at this
    exact this.symm
  · intro h q hq
    obtain ⟨g, hg, e⟩ := List.mem_map.mp hq
    subst e
    simp only [decide_eq_true_eq, ksAt_get hf hg, Option.some.injEq]
    exact (h g hg).symm
theorem nodup_notin {α : Type} : ∀ {l : List α} {i : Nat} {x : α}, l.Nodup → l[i]? = some x → x ∉ l.take i
  | [], i, x, _, h => by simp at h
  | a :: l, 0, x, _, h => by simp
  | a :: l, i + 1, x, nd, h => by
    rw [List.nodup_cons] at nd
    rw [List.getElem?_cons_succ] at h
    rw [List.take_succ_cons, List.mem_cons, not_or]
    exact ⟨fun e => nd.1 (by rw [← e]; exact List.mem_of_getElem? h), nodup_notin nd.2 h⟩
/-- a table is filled in order -/
theorem put_row {f g : Fm} (hf : f.okL) {v : Fm → Bool} {i : Nat} (hg : f.alls[i]? = some g) : putG (blD ((f.alls.map fun g => ((Sum.inr g.spell : Key), v g)).take i)) (Sum.inr g.spell) (.bl (v g)) = blD ((f.alls.map fun g => ((Sum.inr g.spell : Key), v g)).take (i + 1)) := by
  rw [putG_new]
  · rw [List.take_add_one, List.getElem?_map, hg]
    simp [blD]
  · have nd := keys_nd hf
    have h1 := nodup_notin nd (i := i) (x := Sum.inr g.spell) (by rw [List.getElem?_map, hg]; rfl)
    have e : (blD ((f.alls.map fun g => ((Sum.inr g.spell : Key), v g)).take i)).map (·.1) = (f.alls.map fun g => (Sum.inr g.spell : Key)).take i := by
      simp [blD, List.map_take, Function.comp_def]
    rw [e]
    exact h1
theorem inn_all {f g : Fm} (h : g ∈ f.alls) : g = .all g.inn ∧ ∀ x ∈ g.inn.alls, x ∈ f.alls := by
  obtain ⟨a, e, k⟩ := Fm.alls_form h
  subst e
  exact ⟨rfl, k⟩
theorem hAt_succ {f g : Fm} {n : Nat} (h : g ∈ f.alls) : g.hAt (n + 1) = (g.hAt n && g.inn.hAt n) := by
  obtain ⟨a, e, k⟩ := Fm.alls_form h
  subst e
  rfl
theorem hAt_zero {f g : Fm} (h : g ∈ f.alls) : g.hAt 0 = true := by
  obtain ⟨a, e, k⟩ := Fm.alls_form h
  subst e
  rfl
theorem cnt_le (f : Fm) (n : Nat) : f.cnt n ≤ f.alls.length := List.length_filter_le _ _
end N
namespace N
open PySem PySem.Spec PyProof.Rows L2
/-- the heights at which it is otherwise than at last -/
def hsOf (f : Fm) (m : Nat) : List Int := ((List.range (m + 1)).filter fun i => f.hAt i != f.hAt m).map fun (i : Nat) => (i : Int)
def S_trace : FS := fun ds W post => ∃ f : Fm, ds = [.fm f] ∧ W = [] ∧ f.okF ∧ flat 20 f ∧ ∀ m : Nat, m ≤ 64 → f.still m → post (.tup [.tup ((hsOf f m).map D.int), .bl (f.hAt m)]) []
def S_holds : FS := fun ds W post => ∃ (f : Fm) (h : Nat), ds = [.fm f, .int (h : Nat)] ∧ W = [] ∧ f.okF ∧ flat 20 f ∧ post (.bl (f.hAt h)) []
theorem atI_last {α : Type} {g : Nat → α} (m : Nat) : atI ((List.range (m + 1)).map g) (-1) = some (g m) := by
  unfold atI ixN
  rw [List.length_map, List.length_range, if_neg (by decide), if_pos (by omega)]
  have e : (-1 + ((m + 1 : Nat) : Int)).toNat = m := by omega
  rw [e]
  simp
theorem inV_int {h : Int} : ∀ {l : List Int}, inV (.int h) (l.map V.int) = decide (h ∈ l)
  | [] => rfl
  | a :: l => by
    have ih := inV_int (h := h) (l := l)
    unfold inV at ih ⊢
    rw [List.map_cons, List.any_cons, ih]
    have : eqV (V.int a) (V.int h) = decide (h = a) := by
      show (a == h) = _
      rw [Bool.eq_iff_iff]
      simp
      exact eq_comm
    rw [this]
    rw [Bool.eq_iff_iff]
    simp
theorem flat_ints (l : List Int) : (l.map V.int).all flatV = true := by
  rw [List.all_eq_true]
  intro x hx
  obtain ⟨i, _, e⟩ := List.mem_map.mp hx
  subst e
  rfl
theorem mem_hs {f : Fm} {m h : Nat} (hs : f.still m) : ((decide ((h : Int) ∈ hsOf f m)) != f.hAt m) = f.hAt h := by
  by_cases hm : h < m + 1
  · have : ((h : Int) ∈ hsOf f m) ↔ f.hAt h ≠ f.hAt m := by
      unfold hsOf
      rw [List.mem_map]
      constructor
      · rintro ⟨i, hi, e⟩
        have e : i = h := by omega
        subst e
        rw [List.mem_filter] at hi
        simpa using hi.2
      · intro e
        exact ⟨h, by rw [List.mem_filter]; exact ⟨by simpa using hm, by simpa using e⟩, rfl⟩
    have e2 : decide ((h : Int) ∈ hsOf f m) = (f.hAt h != f.hAt m) := by
      rw [Bool.eq_iff_iff, decide_eq_true_iff, this]
      simp
    rw [e2]
    cases f.hAt h <;> cases f.hAt m <;> rfl
  · have e := Fm.still_all hs h (by omega)
    rw [e]
    have : ¬ ((h : Int) ∈ hsOf f m) := by
      unfold hsOf
      rw [List.mem_map]
      rintro ⟨i, hi, e⟩
      rw [List.mem_filter, List.mem_range] at hi
      omega
    rw [decide_eq_false this]
    cases f.hAt m <;> rfl
end N

set_option Elab.async false
set_option linter.all false
set_option maxRecDepth 100000
/-! name = {k: e for ..} on one line, the name a local. -/
namespace L2
open PySem PySem.Spec PyProof.Rows
section
variable {X : Cx}
theorem ps_setDc {i : Nat} {y : Str} {py : Pos} {kx vx tg iter : Expr} {ifs : List Expr} {scope : Scope} {own : List (Str × Nat)} {pos spos : Pos} {wi : TI} {g : TG} {tt : TT} {tk tv : TE} (hc : X.calm = true) (hN : X.N.Nodup) (hy : X.N[i]? = some y) (hyl : X.env.scope.names.lookup y = some .local)
    (hsw : swapsWith (.DictComp kx vx [⟨tg, iter, ifs, 0⟩] scope pos) (some (.Name y py)) spos.line X.env = pure true) (hi : PI X tg iter wi) (ok : BlkOk X.N X.env.scope scope own)
    (hg : ∀ (s : Shared) (H : Hp) (C : Addr) (cl : List (Str × Addr)) (fp : List Addr), PG (X.blk s H scope (compEnvC scope cl C X.env) fp) tg g) (ht : ∀ (s : Shared) (H : Hp) (C : Addr) (cl : List (Str × Addr)) (fp : List Addr), PTs (X.blk s H scope (compEnvC scope cl C X.env) fp) ifs tt)
    (hk : ∀ (s : Shared) (H : Hp) (C : Addr) (cl : List (Str × Addr)) (fp : List Addr), PE (X.blk s H scope (compEnvC scope cl C X.env) fp) kx tk)
    (he : ∀ (s : Shared) (H : Hp) (C : Addr) (cl : List (Str × Addr)) (fp : List Addr), PE (X.blk s H scope (compEnvC scope cl C X.env) fp) vx tv) (hs : ∀ x, foldedSetIterable iter X.env x = pure x := by intro _; rfl) :
    PS X (.Assign [.Name y py] (.DictComp kx vx [⟨tg, iter, ifs, 0⟩] scope pos) spos) (tAsg (tDc wi g tt tk tv (own.map (·.2))) (gName i)) := by
  refine ⟨fun pins s σ H D I h => ?_⟩
  rw [exec_Assign_Name_used _ _ _ _ hsw]
  refine wpAny_bind (wpAny_standAt (wpAny_bind ?_))
  show wpAny _ X.A (do let _ ← comprehension (.DictComp kx vx [⟨tg, iter, ifs, 0⟩] scope pos) scope X.env (firstIterPos [⟨tg, iter, ifs, 0⟩] pos) newDict false (eval iter X.env) (some (assign (.Name y py) X.env))) _ _ s
  have h : tDc wi g tt tk tv (own.map (·.2)) σ H (fun x H1 => gName i x σ H1 D.nx) := h
  refine wpAny_bind (thn (dc_core (Qf := fun _ s' => SP X pins D .next s') hc hN I hi ok hg ht hk he hs h fun L C s' m H' I' q hn f => ?_) fun _ s' hq => wpAny_pure (wpAny_pure hq))
  show wpAny _ _ (assign (.Name y py) X.env (.ref L)) _ _ _
  refine wpAny_assign_Name (store_ok2 (v := V.ref L) I' hN hy (.inl hyl) rfl (fun s2 I2 ⟨a, sb, ha⟩ => ?_) (.inr hyl))
  obtain ⟨f0, f1, f2, f3, f4, f5⟩ := f
  have haC : C ≠ a := by
    rcases ha with z | z
    · rw [z]; exact f1
    · exact fun e => f4 y a z e.symm
  refine ⟨m, hn.sameBut sb haC, fun h3 sb3 => ?_⟩
  exact ⟨_, H', I2.turned (t' := s2.toks) (fun b o hb e => (sb3.2 b hb).trans e) f0 f1 f3 f4 f5, q⟩
theorem sw_trueD {kx vx : Expr} {gs : List Comprehension} {scope : Scope} {pos py : Pos} {y : Str} {l : Nat} {env : Env} (hk : env.scope.kind = .function) (hy : env.scope.names.lookup y = some .local) (hl : (py.line == pos.line) = true)
    (ha : (scope.names.any fun (n, k) => n == y && (k == .local || k == .cell)) = false) : swapsWith (.DictComp kx vx gs scope pos) (some (.Name y py)) l env = pure true := by
  have ky : env.kindOf y = some .local := hy
  have hb : env.blockKind = .function := by unfold Env.blockKind; rw [hk]; rfl
  unfold swapsWith
  simp only [hb, ky, ha, Expr.pos, hl]
  rfl
end
end L2
namespace N
open PySem L2
theorem ev_neg {F : FmKit} {T : Kx} {G : Gm} {W : Om} {R : D → Om → Prop} {ta : TE} {g : Int → V} (h : Ev F T ta G W fun d W1 => ∃ i : Int, d = .int i ∧ R (.vl (g i)) W1) : Ev F T (tUn (rU g) ta) G W R :=
  ev_un (h.imp fun d W1 ⟨i, e, r⟩ => by
    subst e
    exact cl_sc (xs := [.int i]) fun H Q k => ⟨.int i, rfl, i, rfl, k _ r⟩)
end N

set_option Elab.async false
set_option linter.all false
set_option maxRecDepth 100000
set_option maxHeartbeats 4000000
/-! set(list of ints), sorted(set). -/
namespace N
open PySem PySem.Spec PyProof.Rows L2
section
variable {P : Program} {w : World} {A : Around} {E : Value → Shared → Prop} {s : Shared}
set_option maxRecDepth 100000 in
/-- a set that is made of a list of ints -/
theorem set_of_list {l : Addr} {items : Array Value} (ns : List Int) {Q : Value → Shared → Prop} (hh : A.handled = none) (hl : s.heap.IsList l items) (hit : IntsAre items.toList ns) (hb : ns.length + 1 < scanBound)
    (h : ∀ (h' : Heap) (tk c : Nat), SetR w h' s.heap.objs.size (fun j => decide (j ∈ ns)) c → c ≤ ns.length → (∀ b o, s.heap.get? b = some o → h'.get? b = some o) → Q (.ref s.heap.objs.size) { s with heap := h', toks := tk }) :
    wpAny (model P w) A (call (.type "set") [.ref l]) Q E s := by
  have hisz : items.size = ns.length := by
    have q := IntsAre.length hit
    rwa [Array.length_toList] at q
  obtain ⟨c, tl, hmro⟩ := F.called_set.mro
  have hmade := F.called_set.made
  have hsub := F.called_set.sub
  refine wpAny_call (codeAny_of_tree ?_)
  show wpAny _ _ (callAny (.type "set") _) _ _ _
  refine wpAny_pure ⟨Code.quiet_builtin _ (by decide +kernel), codeAny_builtin F.entry_type_call ?_⟩
  rw [Around.under_plain (weight_type_call_type "set" [.ref l] []) rfl]
  have h1 := F.called_set.notType
  have h2 := F.called_set.canCreate
  have hct := F.typeCall_set_1 (.ref l)
  repeat (any_goals (first | assumption | wp_step))
  refine codeAny_mono (code_set_led1 (.ref l) (E := E) (Q₁ := fun obj s₁ => obj = .ref s.heap.objs.size ∧ s₁ = { s with heap := s.heap.push { cls := .type "set", dict := none, data := .set #[] 0 (.fresh 0 0 (!w.params.followText "set-order")) } }) ⟨rfl, rfl⟩) fun r s₁ hr => ?_
  cases r with
  | error e => exact hr
  | ok fl =>
    cases fl with
    | ret obj =>
      obtain ⟨rfl, rfl⟩ := hr
      have hS : (s.heap.push { cls := .type "set", dict := none, data := .set #[] 0 (.fresh 0 0 (!w.params.followText "set-order")) }).get? s.heap.objs.size = some { cls := .type "set", dict := none, data := .set #[] 0 (.fresh 0 0 (!w.params.followText "set-order")) } := Heap.get?_push_size _ rfl
      have hT : Shared.TypeIs { s with heap := s.heap.push { cls := .type "set", dict := none, data := .set #[] 0 (.fresh 0 0 (!w.params.followText "set-order")) } } (.ref s.heap.objs.size) "set" := ⟨_, hS, rfl⟩
      have hli := F.called_set.init.lookup
      have hbi := F.called_set.init.bind (.ref s.heap.objs.size)
      repeat (any_goals (first | assumption | wp_step))
      refine codeAny_mono (codeAny_call_builtin (R := wants (fun r s₂ => r = .none ∧ ∃ h' tk c, s₂ = { s with heap := h', toks := tk } ∧ SetR w h' s.heap.objs.size (fun j => decide (j ∈ ns)) c ∧ c ≤ ns.length ∧
          (∀ b o, s.heap.get? b = some o → h'.get? b = some o)) E) F.called_set.init.plain F.entry_set_init (check_set_init_1 hT ?_)) fun r₂ s₂ hr₂ => ?_
      · obtain ⟨ol, hol, hcl, nl, hdl⟩ := hl
        obtain ⟨ocls, odict, odata, oslots⟩ := ol
        simp only at hcl hdl
        subst hcl; subst hdl
        have hol' : (s.heap.push { cls := .type "set", dict := none, data := .set #[] 0 (.fresh 0 0 (!w.params.followText "set-order")) }).get? l = some { cls := .type "list", dict := odict, data := .seq items nl, slots := oslots } := Heap.get?_push_of_some _ hol
        have hsls := F.sub_list_set
        have hslf := F.sub_list_frozenset
        have hne : (Value.type "list" == Value.type "dict") = false := by decide
        have hl1 : (s.heap.push { cls := .type "set", dict := none, data := .set #[] 0 (.fresh 0 0 (!w.params.followText "set-order")) }).IsList l items := ⟨_, hol', rfl, nl, rfl⟩
        unfold Builtin.«set.__init__» noKeywords Builtin.Frozenset.updateFrom
        generalize hPI : pyIter = PI
        wp_walk
        subst hPI
        refine wpAny_pyIter_list hl1 ?_
        refine wpAny_bind (wpAny_runValue ?_)
        have hlS : l < s.heap.objs.size := Heap.lt_size hol
        have hh3 : A.in1.in1.in1.handled = none := by simp [hh]
        have hneI : l ≠ (s.heap.push { cls := .type "set", dict := none, data := .set #[] 0 (.fresh 0 0 (!w.params.followText "set-order")) }).objs.size := by
          rw [Heap.size_push]; exact Nat.ne_of_lt (Nat.lt_succ_of_lt hlS)
        have hSf : s.heap.objs.size ∉ [(s.heap.push { cls := .type "set", dict := none, data := .set #[] 0 (.fresh 0 0 (!w.params.followText "set-order")) }).objs.size, l] := by
          rw [Heap.size_push]; simp only [List.mem_cons, List.mem_singleton, List.not_mem_nil, or_false, not_or]
          exact ⟨Nat.ne_of_lt (Nat.lt_succ_self _), Nat.ne_of_gt hlS⟩
        have hval : ∀ (i : Nat) (v : Value), items[i]? = some v → ∃ k t, ns[i]? = some k ∧ v = .int k t := fun i v hv => by
          have hi : i < ns.length := by rw [← hisz]; exact (Array.getElem?_eq_some_iff.mp hv).1
          obtain ⟨t, e⟩ := PyProof.Rows.IntsAre.int_at hit i v (by rw [Array.getElem?_toList]; exact hv)
          refine ⟨ns[i], t, List.getElem?_eq_getElem hi, ?_⟩
          rw [e, List.getD_eq_getElem?_getD, List.getElem?_eq_getElem hi] <;> rfl
        refine set_update_ints ((Walks.list hh3 _ l hneI items).toS) s.heap.objs.size hSf ns hisz hb hval (items.size - 0) 0 _ (by omega) (Nat.zero_le _)
          ⟨⟨_, Heap.get?_push_size _ rfl, rfl, rfl⟩, (hl1.push _)⟩ ?hS0 ?hR
        case hS0 => exact ⟨0, Nat.le_refl 0, setR_new_at (Heap.get?_push_of_some _ hS)⟩
        case hR =>
          intro s' c' hm hc' hS'
          obtain ⟨h', g2, d', tk', os'⟩ := s'
          have eg : g2 = s.gens := hm.gens
          have ed : d' = s.drawn := hm.drawn
          have eo : os' = s.os := hm.os
          subst eg; subst ed; subst eo
          show wpAny _ _ _ _ _ _
          refine wpAny_pure ?_
          show wpAny _ _ (ret Value.none) _ _ _
          rw [hisz] at hc'
          refine wpAny_pure ⟨rfl, h', tk', c', rfl, hS', hc', fun b o e => ?_⟩
          have hb0 : b < s.heap.objs.size := Heap.lt_size e
          refine hm.heap b o ?_ (Heap.get?_push_of_some _ (Heap.get?_push_of_some _ e))
          rw [Heap.size_push]
          simp only [List.mem_cons, List.mem_singleton, List.not_mem_nil, or_false, not_or]
          exact ⟨Nat.ne_of_lt hb0, Nat.ne_of_lt (Nat.lt_succ_of_lt hb0)⟩
      · cases r₂ with
        | error e => exact hr₂
        | ok fl₂ =>
          cases fl₂ with
          | ret r =>
            obtain ⟨rfl, h', tk, c', rfl, hS', hc', hk'⟩ := hr₂
            repeat (any_goals (first | assumption | wp_step))
            exact h _ _ _ hS' hc' hk'
          | _ => exact hr₂.elim
    | _ => exact hr.elim
end
def rSetI (K : PySem.W.Frag) (w : World) : List V → Hp → VK → Prop := fun xs H Q => ∃ (l : Addr) (ns : List Int), xs = [.ref l] ∧ SqL K H l (ns.map V.int) ∧ ns.length < 64 ∧ ∀ a c, c ≤ ns.length → H a = none → Q (.ref a) (upd H a (SetO w a (fun j => decide (j ∈ ns)) c))
theorem cr_setI {X : Cx} (hc : X.calm = true) : CallR X (.type "set") (rSetI X.K X.w) := by
  intro pins s σ H xs us Q I r h
  obtain ⟨l, ns, rfl, hl, hz, q⟩ := h
  rw [Vals.ref1 r]
  obtain ⟨its, rv, pl, hlen⟩ := I.list hl
  have hn : H s.heap.objs.size = none := I.hok.fresh (Nat.le_refl _)
  have hsb : (64 : Nat) < scanBound := by decide
  refine set_of_list (P := X.prog) (w := X.w) ns (I.ok.hd hc) pl.isList (by simpa using ints_of_vals rv) (by omega) fun h' tk c R hc' k => ?_
  exact ⟨.ref s.heap.objs.size, upd H s.heap.objs.size (SetO X.w s.heap.objs.size (fun j => decide (j ∈ ns)) c), I.laid (t' := tk) k (Nat.le_refl _) (setO_new R), rfl, q _ c hc' hn⟩
section
variable {F : FmKit} {T : Kx} {C H H' O O' : Hp} {G : Gm} {W W' : Om} {R : D → Om → Prop} {d : D} {w : World}
theorem ca_setI {ns : List Int} (hv : Vl W d (ns.map D.int)) (hz : ns.length < 64) (r : ∀ p c, p ∉ akeys W → c ≤ ns.length → R (.adr p) ((p, .any (SetO w p (fun j => decide (j ∈ ns)) c)) :: W)) : Ca F T (rSetI T.K w) [d] W R := ca_one fun C H O di oc ow x k Q q => by
  obtain ⟨a, xs, e, hs, kl⟩ := hv.sq ow di k
  have : xs = ns.map V.int := by
    have := kl
    rw [show ns.map D.int = (ns.map V.int).map D.vl by rw [List.map_map]; rfl] at this
    exact DenL.vls_inv this
  subst this
  refine ⟨a, ns, by rw [e], hs, hz, fun p c hc hp => ?_⟩
  obtain ⟨n2, e2, np⟩ := (Nx.refl (F := F) (T := T) di oc ow).newO (od := .any (SetO w p (fun j => decide (j ∈ ns)) c)) (o := SetO w p (fun j => decide (j ∈ ns)) c) hp rfl
  rw [e2]
  exact q _ _ H _ _ (r p c np hc) n2 rfl
theorem ca_sortedI {p : Addr} {S : Int → Bool} {n : Nat} (hm : (p, OD.any (SetO w p S n)) ∈ W) (hn : n < 64) (r : ∀ (ns : List Int) (q : Addr), q ∉ akeys W → ns.Pairwise (· < ·) → (∀ k : Int, k ∈ ns ↔ S k = true) → ns.length = n → R (.adr q) ((q, .lst (ns.map D.int)) :: W)) : Ca F T (rSortedSet w) [.adr p] W R := ca_one fun C H O di oc ow x k Q q => by
  have k : x = .ref p := k
  have h1 : O p = some (SetO w p S n) := (ow.at_ p _ hm).2
  refine ⟨p, S, n, by rw [k], ov_own h1, hn, fun ns p2 hp hmem hl hp2 => ?_⟩
  obtain ⟨n2, e2, np⟩ := (Nx.refl (F := F) (T := T) di oc ow).newO (od := .lst (ns.map D.int)) (o := .lst (ns.map V.int)) hp2 ⟨_, rfl, by
    have := DenL.vls (F := F) (T := T) (H := H) (ns.map V.int)
    rw [List.map_map] at this
    exact this⟩
  rw [e2]
  exact q _ _ H _ _ (r ns p2 np hp hmem hl) n2 rfl
end
end N

set_option Elab.async false
set_option linter.all false
set_option maxRecDepth 100000
/-! Law k28, plainly: formulas that hold below numbers; what the hand gives. -/
namespace N
open PySem PySem.Spec PyProof.Rows L2
/-- the deck: the cells, the stew, the count -/
@[reducible] def deckW (a l : Addr) (cells : List Int) (s c : Int) : Om := [(a, .lst [.adr l, .int s, .int c]), (l, .lst (cells.map D.int))]
theorem cut63 {xs : List D} (h : xs.length ≤ 63) : cutD xs none (some 63) = xs := by
  unfold cutD
  have e1 : HT.sIx xs.length 0 none = 0 := rfl
  have e2 : HT.sIx xs.length xs.length (some 63) = min 63 xs.length := HT.sIx_nat _ _ 63
  rw [e1, e2, List.drop_zero]
  exact List.take_of_length_le (by omega)
def S_deck : FS := fun ds W post => ∃ ns : List Int, ds = [.lst (ns.map D.int)] ∧ W = [] ∧ ns.length ≤ 63 ∧ ∀ (a l : Addr) (cells : List Int) (s : Int), cells.length ≤ 64 → post (.adr a) (deckW a l cells s 0)
def S_draw : FS := fun ds W post => ∃ (a l : Addr) (cells : List Int) (s c n : Int), ds = [.adr a, .int n] ∧ W = deckW a l cells s c ∧ 0 < n ∧ n < 1073741824 ∧ cells.length ≤ 64 ∧ 0 ≤ c ∧ c < 2 ^ 60 ∧
  ∀ (z s' : Int) (cells' : List Int), 0 ≤ z → z < n → cells'.length ≤ 64 → post (.int z) (deckW a l cells' s' (c + 1))
namespace Fm
def belo : Nat → Fm
  | 0 => .no
  | n + 1 => .all (belo n)
theorem allB_lt (k : Nat) : ∀ n, allB (fun j => decide (j < k)) n = decide (n < k + 1)
  | 0 => by simp [allB]
  | n + 1 => by
    simp only [allB, allB_lt k n]
    rw [Bool.eq_iff_iff]
    simp
    omega
theorem hAt_below : ∀ (k n : Nat), hAt (belo k) n = decide (n < k)
  | 0, n => by simp [belo, hAt]
  | k + 1, n => by
    simp only [belo, hAt]
    rw [show hAt (belo k) = fun j => decide (j < k) from funext fun j => hAt_below k j]
    exact allB_lt k n
theorem mem_below : ∀ {k : Nat} {g : Fm}, g ∈ (belo k).alls → ∃ i, i < k ∧ g = belo (i + 1)
  | 0, g, h => by simp [belo, alls] at h
  | k + 1, g, h => by
    rcases mem_merge.mp h with h | h
    · obtain ⟨i, hi, e⟩ := mem_below h
      exact ⟨i, by omega, e⟩
    · rw [List.mem_singleton] at h
      exact ⟨k, by omega, h⟩
theorem sz_below : ∀ k, (belo k).sz = 4 * k + 2
  | 0 => rfl
  | k + 1 => by
    simp only [belo, sz, sz_below k]
    omega
theorem bare_below : ∀ k, (belo k).bare
  | 0 => trivial
  | k + 1 => bare_below k
/-- the formulas of this law: no other all-parts than the first forty -/
structure good (s d : Nat) (f : Fm) : Prop where
  bare : f.bare
  alls : ∀ g ∈ f.alls, ∃ i, i < 40 ∧ g = belo (i + 1)
  sz : f.sz ≤ s
  dep : f.dep ≤ d
theorem good_below {k : Nat} (h : k ≤ 40) : good 170 0 (belo k) := ⟨bare_below k, fun g hg => let ⟨i, hi, e⟩ := mem_below hg; ⟨i, by omega, e⟩, by rw [sz_below]; omega, by cases k <;> exact Nat.le_refl _⟩
theorem good_imp {s d s' d' : Nat} {f g : Fm} (h : good s d f) (k : good s' d' g) : good (5 + s + s') (1 + max d d') (.imp f g) :=
  ⟨⟨h.bare, k.bare⟩, fun x hx => (mem_merge.mp hx).elim (h.alls x) (k.alls x), by have := h.sz; have := k.sz; simp only [sz]; omega, by have := h.dep; have := k.dep; simp only [dep]; omega⟩
theorem good_no : good 2 0 .no := ⟨trivial, fun g h => by simp [alls] at h, Nat.le_refl _, Nat.le_refl _⟩
theorem good.up {s d s' d' : Nat} {f : Fm} (h : good s d f) (hs : s ≤ s') (hd : d ≤ d') : good s' d' f := ⟨h.bare, h.alls, Nat.le_trans h.sz hs, Nat.le_trans h.dep hd⟩
theorem good_neg {s d : Nat} {f : Fm} (h : good s d f) : good (7 + s) (1 + d) (neg f) := (good_imp h good_no).up (by omega) (by omega)
theorem good_conj {s d s' d' : Nat} {f g : Fm} (h : good s d f) (k : good s' d' g) : good (30 + s + s') (3 + max d d') (conj f g) := (good_neg (good_imp h (good_neg k))).up (by omega) (by omega)
theorem good_disj {s d s' d' : Nat} {f g : Fm} (h : good s d f) (k : good s' d' g) : good (30 + s + s') (2 + max d d') (disj f g) := (good_imp (good_neg h) k).up (by omega) (by omega)
theorem good.ok {s d : Nat} {f : Fm} (h : good s d f) (hs : s ≤ 1000000) : f.okF := ⟨h.bare, Nat.le_trans h.sz hs, by
  have h1 := len_le (nodup_asc (alls_sub (bare_ok h.bare)).2) (m := (List.range 40).map fun i => belo (i + 1)) fun x hx => by
    obtain ⟨i, hi, e⟩ := h.alls x hx
    exact List.mem_map.mpr ⟨i, by simpa using hi, e.symm⟩
  simp at h1
  omega⟩
theorem good.flat {s d : Nat} {f : Fm} (h : good s d f) (hd : d < 20) : flat 20 f := ⟨Nat.lt_of_le_of_lt h.dep hd, fun a ha => by
  obtain ⟨i, _, e⟩ := h.alls _ ha
  injection e with e
  subst e
  have : (belo i).dep = 0 := by cases i <;> rfl
  omega⟩
theorem hAt_neg (f : Fm) (n : Nat) : hAt (neg f) n = !hAt f n := by simp [hAt]
theorem hAt_conj (f g : Fm) (n : Nat) : hAt (conj f g) n = (hAt f n && hAt g n) := by simp [hAt]
theorem hAt_disj (f g : Fm) (n : Nat) : hAt (disj f g) n = (hAt f n || hAt g n) := by simp [hAt]
end Fm
def S_below : FS := fun ds W post => ∃ n : Nat, ds = [.int (n : Nat)] ∧ W = [] ∧ n ≤ 40 ∧ post (.fm (Fm.belo n)) []
/-- what the hand tells is right -/
structure Told (f : Fm) (spots : List Int) (rest : Bool) : Prop where
  good : Fm.good 1000 10 f
  at_ : ∀ n : Nat, f.hAt n = if n < 40 then decide ((n : Int) ∈ spots) else rest
  len : spots.length ≤ 100
def S_hand : FS := fun ds W post => ∃ (a l : Addr) (cells : List Int) (s c : Int), ds = [.adr a] ∧ W = deckW a l cells s c ∧ cells.length ≤ 64 ∧ 0 ≤ c ∧ c < 2 ^ 50 ∧
  ∀ (f : Fm) (spots : List Int) (rest : Bool) (s' c' : Int) (cells' : List Int), Told f spots rest → cells'.length ≤ 64 → 0 ≤ c' → c' ≤ c + 10 → post (.tup [.fm f, .lst (spots.map D.int), .bl rest]) (deckW a l cells' s' c')
end N

set_option Elab.async false
set_option linter.all false
set_option maxRecDepth 100000
/-! Law k28: the six hands. -/
namespace N
open PySem PySem.Spec PyProof.Rows L2
def spotsR (lo hi : Int) : List Int := (List.range (hi - lo).toNat).map fun i => lo + (i : Nat)
theorem rgV_spots (lo hi : Int) : (rgV lo hi).map D.vl = (spotsR lo hi).map D.int := by
  unfold rgV spotsR
  rw [List.map_map, List.map_map]
  rfl
theorem mem_spotsR {lo hi x : Int} : x ∈ spotsR lo hi ↔ lo ≤ x ∧ x < hi := by
  unfold spotsR
  rw [List.mem_map]
  constructor
  · rintro ⟨i, h, e⟩
    rw [List.mem_range] at h
    omega
  · intro h
    exact ⟨(x - lo).toNat, by rw [List.mem_range]; omega, by omega⟩
theorem len_spotsR (lo hi : Int) : (spotsR lo hi).length = (hi - lo).toNat := by simp [spotsR]
theorem told0 {h : Nat} (hh : h ≤ 38) : Told (Fm.belo h) (spotsR 0 h) false := ⟨(Fm.good_below (by omega)).up (by omega) (by omega), fun n => by
  rw [Fm.hAt_below]
  split
  · exact decide_eq_decide.mpr (by rw [mem_spotsR]; omega)
  · exact decide_eq_false (by omega), by rw [len_spotsR]; omega⟩
theorem told1 {h : Nat} (hh : h ≤ 38) : Told (Fm.neg (Fm.belo h)) (spotsR h 40) true := ⟨(Fm.good_neg (Fm.good_below (by omega))).up (by omega) (by omega), fun n => by
  rw [Fm.hAt_neg, Fm.hAt_below, ← decide_not]
  split
  · exact decide_eq_decide.mpr (by rw [mem_spotsR]; omega)
  · exact decide_eq_true (by omega), by rw [len_spotsR]; omega⟩
theorem told2 {l h : Nat} (hl : l ≤ h) (hh : h ≤ 38) : Told (Fm.conj (Fm.belo h) (Fm.neg (Fm.belo l))) (spotsR l h) false := ⟨(Fm.good_conj (Fm.good_below (by omega)) (Fm.good_neg (Fm.good_below (by omega)))).up (by omega) (by omega), fun n => by
  rw [Fm.hAt_conj, Fm.hAt_neg, Fm.hAt_below, Fm.hAt_below, ← decide_not, ← Bool.decide_and]
  split
  · exact decide_eq_decide.mpr (by rw [mem_spotsR]; omega)
  · exact decide_eq_false (by omega), by rw [len_spotsR]; omega⟩
theorem told3 {l h : Nat} (hl : l ≤ h) (hh : h ≤ 38) : Told (Fm.imp (Fm.belo h) (Fm.belo l)) (spotsR 0 l ++ spotsR h 40) true := ⟨(Fm.good_imp (Fm.good_below (by omega)) (Fm.good_below (by omega))).up (by omega) (by omega), fun n => by
  simp only [Fm.hAt]
  rw [Fm.hAt_below, Fm.hAt_below, ← decide_not, ← Bool.decide_or]
  split
  · exact decide_eq_decide.mpr (by rw [List.mem_append, mem_spotsR, mem_spotsR]; omega)
  · exact decide_eq_true (by omega), by rw [List.length_append, len_spotsR, len_spotsR]; omega⟩
theorem told4 {l h : Nat} (hl : l ≤ h) (hh : h ≤ 38) {ns : List Int} (hm : ∀ k : Int, k ∈ ns ↔ k ∈ (l : Int) :: spotsR h 40) (hz : ns.length ≤ 100) : Told (Fm.disj (Fm.conj (Fm.belo (l + 1)) (Fm.neg (Fm.belo l))) (Fm.neg (Fm.belo h))) ns true :=
  ⟨(Fm.good_disj (Fm.good_conj (Fm.good_below (by omega)) (Fm.good_neg (Fm.good_below (by omega)))) (Fm.good_neg (Fm.good_below (by omega)))).up (by omega) (by omega), fun n => by
    rw [Fm.hAt_disj, Fm.hAt_conj, Fm.hAt_neg, Fm.hAt_neg, Fm.hAt_below, Fm.hAt_below, Fm.hAt_below, ← decide_not, ← decide_not, ← Bool.decide_and, ← Bool.decide_or]
    split
    · exact decide_eq_decide.mpr (by rw [hm, List.mem_cons, mem_spotsR]; omega)
    · exact decide_eq_true (by omega), hz⟩
theorem told5 {l : Nat} (hl : l ≤ 38) : Told (Fm.all (Fm.belo l)) (spotsR 0 ((l : Int) + 1)) false := by
  have := told0 (h := l + 1 - 1) (by omega)
  refine ⟨(Fm.good_below (k := l + 1) (by omega)).up (by omega) (by omega), fun n => ?_, by rw [len_spotsR]; omega⟩
  rw [show Fm.all (Fm.belo l) = Fm.belo (l + 1) from rfl, Fm.hAt_below]
  split
  · exact decide_eq_decide.mpr (by rw [mem_spotsR]; omega)
  · exact decide_eq_false (by omega)
theorem min_int (m n : Nat) : (if (n : Int) < (m : Int) then (n : Int) else (m : Int)) = ((min m n : Nat) : Int) := by
  split <;> omega
section
variable {F : FmKit} {T : Kx} {C H H' O O' : Hp} {G : Gm} {W W' : Om} {R : D → Om → Prop} {d : D} {ta tb : TE} {p q : Addr}
theorem ev_listRg1F (h : Ev F T ta G W fun d W1 => ∃ n : Int, d = .int n ∧ RgOk 0 n ∧ R (.lst ((spotsR 0 n).map D.int)) W1) : Ev F T (tLstRg (tRg1 ta)) G W R :=
  ev_fz (ev_listRg1 (h.imp fun d W1 ⟨n, e, ok, r⟩ => ⟨n, e, ok, fun p hp => ⟨p, _, W1, _, rfl, List.Perm.refl _, .lst _, by rw [rgV_spots]; exact r⟩⟩))
theorem ev_listRg2F (h : Ev F T ta G W fun d W1 => Ev F T tb G W1 fun e W2 => ∃ i j : Int, d = .int i ∧ e = .int j ∧ RgOk i j ∧ R (.lst ((spotsR i j).map D.int)) W2) : Ev F T (tLstRg (tRg2 ta tb)) G W R :=
  ev_fz (ev_listRg2 (h.imp fun d W1 h1 => h1.imp fun e W2 ⟨i, j, e1, e2, ok, r⟩ => ⟨i, j, e1, e2, ok, fun p hp => ⟨p, _, W2, _, rfl, List.Perm.refl _, .lst _, by rw [rgV_spots]; exact r⟩⟩))
theorem bo_catO {xs ys : List D} (h1 : (p, OD.lst xs) ∈ W) (h2 : (q, OD.lst ys) ∈ W) (hl : xs.length + ys.length ≤ sizeLine) (r : ∀ z, z ∉ akeys W → R (.adr z) ((z, .lst (xs ++ ys)) :: W)) : Bo F T rCat (.adr p) (.adr q) W R := fun C H O di oc ow x y hx hy Q k => by
  have hx : x = .ref p := hx
  have hy : y = .ref q := hy
  subst hx hy
  obtain ⟨us, hu, ku⟩ := (ow.at_ p _ h1).2
  obtain ⟨vs, hv, kv⟩ := (ow.at_ q _ h2).2
  refine ⟨p, q, us, vs, rfl, rfl, ov_own hu, ov_own hv, by rw [ku.len, kv.len]; exact hl, fun z hz => ?_⟩
  obtain ⟨n2, e2, np⟩ := (Nx.refl (F := F) (T := T) di oc ow).newO (od := .lst (xs ++ ys)) (o := .lst (us ++ vs)) hz ⟨_, rfl, ku.app kv⟩
  rw [e2]
  exact k _ _ H _ _ (r z np) n2 rfl
end
end N

set_option Elab.async false
set_option linter.all false
set_option maxRecDepth 100000
/-! Calls by keywords alone; is False; repr of what the law compares. -/
namespace N
open PySem PySem.Spec PyProof.Rows L2
open C8 (Cal)
structure CalK (P : Program) (w : World) (K : PySem.W.Frag) (mg : Str → Option Value) (base : Heap) (k : Nat) (x : Str) (ks : List Str) (gV : List V → List V → List V) (sp : Sp) : Prop where
  ex : ∃ (f : Addr) (fd : FuncData) (ps : List Str) (g : List Value → List Value → List Value), FnOk P w K mg base CX0 k f fd ps sp ∧ mg x = some (.ref f) ∧ PySem.W.keepIn K (.ref f) = true ∧ KBn K fd ps 0 ks g gV
theorem kb_of {K : PySem.W.Frag} {x qual : Str} {st : Stmt} {f : Addr} {fd : FuncData} {ps ks : List Str} {g : List Value → List Value → List Value} {gV : List V → List V → List V} (Fn : Fun K x qual st f fd)
    (h : ∀ (kV doc pm : Value) (an : Option Addr) (cdv ct : Value) (ws : List Value), ws.length = ks.length → bindArgs (PySem.W.fnOf x qual (defArgs st) (defBody st) (defScope st) .none kV doc pm an cdv ct) ⟨[], ks.zip ws⟩ = pure (ps.zip (g [] ws)))
    (rel : ∀ {vs : List V} {us : List Value} {zs : List V} {ws : List Value}, Vals vs us → Vals zs ws → Vals (gV vs zs) (g us ws)) : KBn K fd ps 0 ks g gV := by
  obtain ⟨oc, od, kV, doc, pm, an, cdv, ct, osl, rfl, lk, hcd⟩ := Fn.ex
  refine ⟨fun s us ws _ h1 h2 => ?_, rel⟩
  have : us = [] := List.length_eq_zero_iff.mp h1
  subst this
  exact .of_eq (h kV doc pm an cdv ct ws h2)
section
variable {P : Program} {w : World} {K : PySem.W.Frag} {mg : Str → Option Value} {base : Heap} {F : FmKit} {cl : Nat → Addr} {S : FS}
/-- a def that is called both by places and by names -/
theorem calDK {x : Str} {st : Stmt} {f : Addr} {fd : FuncData} {N ps ks : List Str} {g : List Value → List Value → List Value} {gV : List V → List V → List V} {k : Nat} (hm : mg x = some (.ref f)) (Fn : Fun K x x st f fd) (Sc : FnScope N ps (defScope st)) (len : ∀ ds W post, S ds W post → ds.length = ps.length)
    (hb : ∀ (kV doc pm : Value) (an : Option Addr) (cdv ct : Value) (us : List Value), us.length = ps.length → bindArgs (PySem.W.fnOf x x (defArgs st) (defBody st) (defScope st) .none kV doc pm an cdv ct) ⟨us, []⟩ = pure (ps.zip us))
    (kb : KBn K fd ps 0 ks g gV)
    (body : ∀ (cdv : Value) (A : Around) (outer : List Env) (s : Shared) (H : Hp) (E : XK), Room k (A.deeper (envOfC x (defScope st) s.heap.objs.size f cdv)) →
      ∃ t, PSs (cxOf CX0 P w K mg base N x (defScope st) f cdv A outer s H E).nox (defBody st) t ∧ ∀ ds W post, S ds W post → Sw F ⟨K, cl⟩ t (startD N ds) W (E_ post)) :
    Cal P w K mg base (k + 1) x (spN F ⟨K, cl⟩ S) [] ∧ CalK P w K mg base (k + 1) x ks gV (spN F ⟨K, cl⟩ S) :=
  have ok := okD Fn Sc len body
  ⟨⟨f, fd, ps, [], ok, hm, Fn.kp, Fn.binds hb, .nil⟩, ⟨f, fd, ps, g, ok, hm, Fn.kp, kb⟩⟩
end
section
variable {X : Cx} {k j : Nat} {x : Str} {sp : Sp} {p pos : Pos}
def tCallKw (n : Nat) (sp : Sp) (gV : List V → List V → List V) (tk : TA) : TE := fun σ H Q => tk σ H fun zs H2 => zs.length = n ∧ sp (gV [] zs) H2 Q E0
theorem pe_ck {ks : List Str} {gV : List V → List V → List V} {kws : List Keyword} {tk : TA} (c : CalK X.prog X.w X.K X.mg X.base k x ks gV sp) (hr : Room j X.A) (hk : k ≤ j) (hg : Gl X x) (hkw : PK X kws tk)
    (hall : (backToKw pos (keywordEach kws X.env)).all (·.1.isSome) = true := by rfl) (hks : (backToKw pos (keywordEach kws X.env)).filterMap (·.1) = ks := by rfl)
    (hdb : (x == ("__debug__" : Str)) = false := by decide)
    (hpl : ((backTo pos (starEach [] X.env)).any (·.1) || (backToKw pos (keywordEach kws X.env)).any (·.1.isNone)) = false := by rfl) : PE X (.Call (.Name x p) [] kws pos) (tCallKw ks.length sp gV tk) := by
  obtain ⟨f, fd, ps, g, h, hm, kp, kb⟩ := c.ex
  exact pe_callN0 h (hr.mono hk) hg hm kp kb pass0 hkw hall hks hdb hpl
end
section
variable {F : FmKit} {T : Kx} {C H H' O O' : Hp} {G : Gm} {W W' : Om} {R : D → Om → Prop} {S : FS} {tk : TA}
theorem ev_ck {n : Nat} {gV : List V → List V → List V} (h : EvA F T tk G W fun ds W1 => ds.length = n ∧ ∃ as, (∀ H zs, DenL F T H ds zs → DenL F T H as (gV [] zs)) ∧ Hand S as W1 R) : Ev F T (tCallKw n (spN F T S) gV tk) G W R := fun C H O σ w Q q =>
  h C H O σ w _ fun ds W1 H1 O1 zs ⟨h1, as, ha, hh⟩ n1 k1 => ⟨by rw [k1.len]; exact h1, hh.run n1.dis n1.oc n1.own (ha H1 zs k1) fun d W' H' O' v r n2 kd => q d W' H' O' v r (n1.trans n2) kd⟩
theorem bo_isB {a b : Bool} (r : R (.bl (decide (a = b))) W) : Bo F T rIsB (.bl a) (.bl b) W R := op_sc fun H Q k => ⟨a, b, rfl, rfl, k _ r⟩
end
end N

set_option Elab.async false
set_option linter.all false
set_option maxRecDepth 100000
/-! Law k28: what the last defs promise; what is compared as text. -/
namespace N
open PySem PySem.Spec PyProof.Rows L2
def S_right : FS := fun ds W post => ∃ (a l : Addr) (cells : List Int) (s c : Int), ds = [.adr a] ∧ W = deckW a l cells s c ∧ cells.length ≤ 64 ∧ 0 ≤ c ∧ c < 2 ^ 40 ∧
  ∀ (s' c' : Int) (cells' : List Int), cells'.length ≤ 64 → 0 ≤ c' → c' ≤ c + 100 → post (.bl true) (deckW a l cells' s' c')
def S_law : FS := fun ds W post => ∃ ns : List Int, ds = [.lst (ns.map D.int)] ∧ W = [] ∧ ns.length ≤ 63 ∧ ∀ W', post (.bl true) W'
section
variable {F : FmKit} {T : Kx} {C H H' O O' : Hp} {G : Gm} {W W' : Om} {R : D → Om → Prop} {d : D} {ta tb : TE} {p q : Addr}
theorem bo_rep {xs : List D} {k : Int} (h1 : (p, OD.lst xs) ∈ W) (hk : 0 ≤ k) (hk2 : k < 2 ^ 63) (hl : xs.length * k.toNat ≤ sizeLine) (r : ∀ z, z ∉ akeys W → R (.adr z) ((z, .lst (List.replicate k.toNat xs).flatten) :: W)) : Bo F T L2.rRep (.adr p) (.int k) W R := fun C H O di oc ow x y hx hy Q kk => by
  have hx : x = .ref p := hx
  have hy : y = .int k := hy
  subst hx hy
  obtain ⟨us, hu, ku⟩ := (ow.at_ p _ h1).2
  refine ⟨p, k, us, rfl, rfl, ov_own hu, by omega, hk2, by rw [ku.len]; exact hl, fun z hz => ?_⟩
  have hden : ∀ n : Nat, DenL F T H (List.replicate n xs).flatten (List.replicate n us).flatten := fun n => by
    induction n with
    | zero => exact rfl
    | succ n ih =>
      rw [List.replicate_succ, List.replicate_succ, List.flatten_cons, List.flatten_cons]
      exact ku.app ih
  obtain ⟨n2, e2, np⟩ := (Nx.refl (F := F) (T := T) di oc ow).newO (od := .lst (List.replicate k.toNat xs).flatten) (o := .lst (List.replicate k.toNat us).flatten) hz ⟨_, rfl, hden _⟩
  rw [e2]
  exact kk _ _ H _ _ (r z np) n2 rfl
end
/-- the answer of trace as plain data -/
def trP (f : Fm) (m : Nat) : PyData := .tuple [.tuple ((hsOf f m).map .int), .bool (f.hAt m)]
theorem tr_pd (f : Fm) (m : Nat) : (D.tup [.tup ((hsOf f m).map D.int), .bl (f.hAt m)]).pd = some (trP f m) := by
  refine pd_tup (pdL_cons (pd_tup (pdL_map D.int .int (fun _ => rfl) _)) (pdL_cons rfl rfl))
end N

set_option Elab.async false
set_option linter.all false
set_option maxRecDepth 100000
/-! Plain data that is short enough for repr. -/
namespace N
open PySem PySem.Spec PyProof.Rows L2
structure Ok1 (k n : Nat) (d : PyData) : Prop where
  lv : PyData.leavesShort 13 d = true
  sh : d.showable = true
  nd : d.hasDict = false
  dp : d.depth ≤ k
  wt : d.weight ≤ n
theorem ok_all {k n : Nat} : ∀ {l : List PyData}, (∀ d ∈ l, Ok1 k n d) → PyData.leavesShortAll 13 l = true ∧ PyData.showableAll l = true ∧ PyData.hasDictAll l = false ∧ PyData.depthAll l ≤ k ∧ PyData.weightAll l ≤ l.length * (n + 1)
  | [], _ => ⟨rfl, rfl, rfl, Nat.zero_le _, by simp [PyData.weightAll]⟩
  | d :: l, h => by
    have h1 := h d List.mem_cons_self
    obtain ⟨h2, h3, h4, h5, h6⟩ := ok_all (l := l) fun x hx => h x (List.mem_cons_of_mem _ hx)
    refine ⟨by simp [PyData.leavesShortAll, h1.lv, h2], by simp [PyData.showableAll, h1.sh, h3], by simp [PyData.hasDictAll, h1.nd, h4], ?_, ?_⟩
    · have := h1.dp
      simp only [PyData.depthAll]
      omega
    · have := h1.wt
      simp only [PyData.weightAll, List.length_cons, Nat.succ_mul]
      omega
theorem ok_tup {k n : Nat} {l : List PyData} (h : ∀ d ∈ l, Ok1 k n d) : Ok1 (k + 1) (l.length * (n + 1) + 1) (.tuple l) := by
  obtain ⟨h2, h3, h4, h5, h6⟩ := ok_all h
  refine ⟨by simp [PyData.leavesShort, h2], by simp [PyData.showable, h3], by simp [PyData.hasDict, h4], ?_, ?_⟩
  · simp only [PyData.depth]
    omega
  · simp only [PyData.weight]
    omega
theorem ok_lst {k n : Nat} {l : List PyData} (h : ∀ d ∈ l, Ok1 k n d) : Ok1 (k + 1) (l.length * (n + 1) + 1) (.list l) := by
  obtain ⟨h2, h3, h4, h5, h6⟩ := ok_all h
  refine ⟨by simp [PyData.leavesShort, h2], by simp [PyData.showable, h3], by simp [PyData.hasDict, h4], ?_, ?_⟩
  · simp only [PyData.depth]
    omega
  · simp only [PyData.weight]
    omega
theorem short_ints : ∀ n : Nat, n < 100 → (PyData.int (n : Nat)).shown.length ≤ 13 := by decide +kernel
theorem wt_ints : ∀ n : Nat, n < 100 → (PyData.int (n : Nat)).weight ≤ 8 := by decide +kernel
theorem ok_int {i : Int} (h0 : 0 ≤ i) (h1 : i < 100) : Ok1 0 8 (.int i) := by
  obtain ⟨n, rfl⟩ := Int.eq_ofNat_of_zero_le h0
  refine ⟨by simpa [PyData.leavesShort] using short_ints n (by omega), ?_, rfl, Nat.le_refl _, wt_ints n (by omega)⟩
  simp only [PyData.showable, decide_eq_true_eq, Int.natAbs_natCast]
  have : n.log2 ≤ n := Nat.log2_le_self n
  omega
theorem ok_bool (b : Bool) : Ok1 0 8 (.bool b) := by cases b <;> exact ⟨by decide +kernel, rfl, rfl, Nat.le_refl _, by decide⟩
theorem Ok1.up {k n k' n' : Nat} {d : PyData} (h : Ok1 k n d) (hk : k ≤ k') (hn : n ≤ n') : Ok1 k' n' d := ⟨h.lv, h.sh, h.nd, Nat.le_trans h.dp hk, Nat.le_trans h.wt hn⟩
theorem Ok1.shw {k n : Nat} {d : PyData} (h : Ok1 k n d) (hk : k ≤ 30) (hn : n ≤ 100000) : Shw d := ⟨h.sh, h.nd, Nat.le_trans h.dp hk, by
  have h1 := PyData.shown_le 13 (by decide) d h.lv
  have h2 := h.wt
  have := sizeLine_eq
  omega⟩
/-- a tuple of few small numbers beside a bool -/
theorem ok_pair {l : List Int} {b : Bool} (hl : l.length ≤ 100) (h : ∀ i ∈ l, 0 ≤ i ∧ i < 100) : Ok1 2 2000 (.tuple [.tuple (l.map .int), .bool b]) := by
  have h1 := ok_tup (l := l.map PyData.int) (k := 0) (n := 8) fun d hd => by
    obtain ⟨i, hi, e⟩ := List.mem_map.mp hd
    subst e
    exact ok_int (h i hi).1 (h i hi).2
  have h2 : ∀ d ∈ [PyData.tuple (l.map .int), .bool b], Ok1 1 950 d := fun d hd => by
    simp at hd
    rcases hd with e | e
    · subst e
      exact h1.up (by omega) (by simp; omega)
    · subst e
      exact (ok_bool b).up (by omega) (by omega)
  exact (ok_tup h2).up (by omega) (by simp)
theorem ok_two {d : PyData} (h : Ok1 2 2000 d) : Ok1 3 5000 (.list [d, d]) := by
  have h2 : ∀ x ∈ [d, d], Ok1 2 2000 x := fun x hx => by
    simp at hx
    subst hx
    exact h
  exact (ok_lst h2).up (by omega) (by simp)
end N

set_option Elab.async false
set_option linter.all false
set_option maxRecDepth 100000
/-! Law k28: the heights that trace tells are those that are due. -/
namespace N
open PySem PySem.Spec PyProof.Rows L2
theorem range_more {p : Nat → Bool} {N : Nat} (h : ∀ i, N ≤ i → p i = false) : ∀ k, (List.range (N + k)).filter p = (List.range N).filter p
  | 0 => rfl
  | k + 1 => by
    rw [← Nat.add_assoc, List.range_succ, List.filter_append, range_more h k]
    simp [h (N + k) (by omega)]
theorem range_same {p : Nat → Bool} {N M : Nat} (h : ∀ i, N ≤ i → p i = false) (k : ∀ i, M ≤ i → p i = false) : (List.range N).filter p = (List.range M).filter p := by
  rw [← range_more h M, Nat.add_comm, range_more k N]
def dueOf (q : Nat → Bool) (rest : Bool) (n : Nat) : List Nat := (List.range n).filter fun j => q j != rest
theorem hs_due {f : Fm} {m : Nat} {q : Nat → Bool} {rest : Bool} (h : ∀ n : Nat, f.hAt n = if n < 40 then q n else rest) (hs : f.still m) : hsOf f m = (dueOf q rest 40).map (fun j : Nat => (j : Int)) ∧ f.hAt m = rest := by
  have e : f.hAt m = rest := by
    rw [← Fm.still_all hs (m + 40) (by omega), h, if_neg (by omega)]
  refine ⟨?_, e⟩
  unfold hsOf dueOf
  congr 1
  rw [range_same (M := 40) (fun i hi => by rw [Fm.still_all hs i (by omega)]; simp) (fun i hi => by rw [e, h, if_neg (by omega)]; simp)]
  refine List.filter_congr fun i hi => ?_
  rw [List.mem_range] at hi
  rw [e, h, if_pos hi]
theorem due_small {q : Nat → Bool} {rest : Bool} : ((dueOf q rest 40).map (fun j : Nat => (j : Int))).length ≤ 100 ∧ ∀ i ∈ (dueOf q rest 40).map (fun j : Nat => (j : Int)), 0 ≤ i ∧ i < 100 := by
  unfold dueOf
  refine ⟨?_, fun i hi => ?_⟩
  · have := List.length_filter_le (fun j => q j != rest) (List.range 40)
    simp at this ⊢
    omega
  · obtain ⟨j, hj, e⟩ := List.mem_map.mp hi
    rw [List.mem_filter, List.mem_range] at hj
    omega
theorem due_succ (q : Nat → Bool) (rest : Bool) (n : Nat) : dueOf q rest (n + 1) = dueOf q rest n ++ (if (q n != rest) = true then [n] else []) := by
  unfold dueOf
  rw [List.range_succ, List.filter_append]
  congr 1
  simp only [List.filter_cons, List.filter_nil]
/-- the data of an answer of trace -/
def ansP (q : Nat → Bool) (rest : Bool) : PyData := .tuple [.tuple (((dueOf q rest 40).map (fun j : Nat => (j : Int))).map .int), .bool rest]
theorem ans_ok (q : Nat → Bool) (rest : Bool) : Ok1 2 2000 (ansP q rest) := ok_pair due_small.1 due_small.2
@[reducible] def ansD (q : Nat → Bool) (rest : Bool) : D := .tup [.tup (((dueOf q rest 40).map (fun j : Nat => (j : Int))).map D.int), .bl rest]
theorem ans_pd (q : Nat → Bool) (rest : Bool) : (ansD q rest).pd = some (ansP q rest) := pd_tup (pdL_cons (pd_tup (pdL_map D.int .int (fun _ => rfl) _)) (pdL_cons rfl rfl))
/-- the other formula: but at one height -/
theorem other_at {f : Fm} {spots : List Int} {rest : Bool} {sp : Nat} (ht : Told f spots rest) (hsp : sp < 38) (n : Nat) :
    (Fm.conj f (Fm.neg (Fm.conj (Fm.belo (sp + 1)) (Fm.neg (Fm.belo sp))))).hAt n = if n < 40 then (decide ((n : Int) ∈ spots) && !decide ((n : Int) = (sp : Int))) else rest := by
  rw [Fm.hAt_conj, Fm.hAt_neg, Fm.hAt_conj, Fm.hAt_neg, Fm.hAt_below, Fm.hAt_below, ht.at_]
  have e : (decide (n < sp + 1) && !decide (n < sp)) = decide ((n : Int) = (sp : Int)) := by
    rw [Bool.eq_iff_iff]
    simp
    omega
  rw [e]
  split
  · rfl
  · rw [decide_eq_false (by omega)]
    simp
theorem other_good {f : Fm} {spots : List Int} {rest : Bool} {sp : Nat} (ht : Told f spots rest) (hsp : sp < 38) : Fm.good 3000 19 (Fm.conj f (Fm.neg (Fm.conj (Fm.belo (sp + 1)) (Fm.neg (Fm.belo sp))))) :=
  (Fm.good_conj ht.good (Fm.good_neg (Fm.good_conj (Fm.good_below (by omega)) (Fm.good_neg (Fm.good_below (by omega)))))).up (by omega) (by omega)
end N

set_option Elab.async false
set_option linter.all false
set_option maxRecDepth 100000
namespace N
open PySem PySem.Spec PyProof.Rows L2
open C8 (Cal Met Mak InsC pe_c pe_mt pe_mt0 pe_mk)
def top (i : Nat) : Stmt := PySem.Challenge.pw_allbeneath_k28_great_heights.main.body.getD i (.Pass ⟨0, 0, 0, 0⟩)
abbrev s_united : Stmt := top 15
theorem sc_united : FnScope ["one", "other"] ["one", "other"] (defScope s_united) := ⟨rfl, rfl, rfl, by decide +kernel, rfl, by decide +kernel, by decide +kernel⟩
abbrev s_merged : Stmt := top 16
theorem sc_merged : FnScope ["one", "other", "formula", "found", "text"] ["one", "other"] (defScope s_merged) := ⟨rfl, rfl, rfl, by decide +kernel, rfl, by decide +kernel, by decide +kernel⟩
abbrev s_Formula___init__ : Stmt := inClass (top 17) 0
theorem sc_Formula___init__ : FnScope ["self", "kind", "parts", "part", "inner", "first", "second"] ["self", "kind", "parts"] (defScope s_Formula___init__) := ⟨rfl, rfl, rfl, by decide +kernel, rfl, by decide +kernel, by decide +kernel⟩
/-- what the formulas' module has written -/
structure ZF (K : PySem.W.Frag) (w : World) (mg : Str → Option Value) (C dP : Addr) (es : Array DictEntry) (n : Nat) : Prop where
  g_ATOM : ∃ u, mg "ATOM" = some u ∧ RelV (.str "atom") u
  g_NO : ∃ u, mg "NO" = some u ∧ RelV (.str "no") u
  g_IF_formulas : ∃ u, mg "IF_formulas" = some u ∧ RelV (.str "if") u
  g_ALL_formulas : ∃ u, mg "ALL_formulas" = some u ∧ RelV (.str "all") u
  g_ALL_AHEAD : ∃ u, mg "ALL_AHEAD" = some u ∧ RelV (.str "all ") u
  g_BETWEEN : ∃ u, mg "BETWEEN" = some u ∧ RelV (.str " > ") u
  g_LETTERS : ∃ u, mg "LETTERS" = some u ∧ RelV (.str "ABCDEFGHIJKLMNOPQRSTUVWXYZabcdefghijklmnopqrstuvwxyz") u
  g_PARTS_OF : mg "PARTS_OF" = some (.ref dP)
  g_Formula : mg "Formula" = some (.ref C)
  parts : KDict K w dP es n
  katom : ∃ t, PySem.W.nsIn K dP "atom" = some (some (.int 1 t))
  kno : ∃ t, PySem.W.nsIn K dP "no" = some (some (.int 0 t))
  kif : ∃ t, PySem.W.nsIn K dP "if" = some (some (.int 2 t))
  kall : ∃ t, PySem.W.nsIn K dP "all" = some (some (.int 1 t))
  fz : FZ K C
section
variable {P : Program} {w : World} {K : PySem.W.Frag} {mg : Str → Option Value} {base : Heap} {cl : Nat → Addr} {dP : Addr} {es : Array DictEntry} {n : Nat}
set_option maxHeartbeats 4000000
local macro_rules | `(tactic| walk_at "vl") => `(tactic| first | exact .inl rfl | exact .inr ⟨_, rfl, List.mem_cons_self⟩ | exact .inr ⟨_, rfl, List.mem_cons_of_mem _ List.mem_cons_self⟩ | exact .inr ⟨_, rfl, List.mem_cons_of_mem _ (List.mem_cons_of_mem _ List.mem_cons_self)⟩ | exact .inr ⟨_, rfl, List.mem_cons_of_mem _ (List.mem_cons_of_mem _ (List.mem_cons_of_mem _ List.mem_cons_self))⟩)
local macro_rules | `(tactic| walk_at "nc") => `(tactic| first | omega | (unfold CMul; omega) | (unfold CDiv; omega) | (unfold CPow; decide) | (show (0 : Int) < _; omega))
local macro_rules | `(tactic| walk_at "s1") => `(tactic| first
  | with_reducible refine sw_seq ?_ | with_reducible refine sw_set ?_ | (with_reducible refine' ev_var ?h ?_); (case h => rfl) | with_reducible refine ev_c ?_ | with_reducible refine ev_op ?_
  | with_reducible refine bo_I0 ?_ | with_reducible refine ev_tup ?_ | with_reducible refine ev_lstF ?_ | with_reducible refine ev_cb ?_ | with_reducible refine ea_cons ?_ | with_reducible refine ea_nil ?_
  | with_reducible refine bo_eqI ?_ | with_reducible refine bo_neI ?_ | with_reducible refine bo_eqS ?_ | with_reducible refine bo_neS ?_ | with_reducible refine bo_eqB ?_ | with_reducible refine bo_neB ?_
  | with_reducible refine isi_str ?_ | with_reducible refine ca_intB ?_ | with_reducible refine ca_int ?_ | with_reducible refine ca_max2 ?_ | with_reducible refine ca_min2 ?_
  | with_reducible refine sw_if ?_ | with_reducible refine sw_ret ?_ | with_reducible refine sw_drop ?_ | with_reducible refine sw_setL ?_ | with_reducible refine sw_next ?_ | with_reducible refine sw_par ?_ | with_reducible refine ev_neg ?_ | with_reducible refine ev_mkF ?_ | with_reducible refine ev_inv ?_ | with_reducible refine ev_prpF ?_ | with_reducible refine ta_fld ?_ | with_reducible refine ta_name ?_ | (with_reducible refine' ta_tup ?hl ?_); (case hl => rfl) | with_reducible refine tas_cons ?_ | with_reducible refine tas_nil ?_
  | with_reducible refine et_ifE ?_ | with_reducible refine ev_orV ?_ | with_reducible refine ev_andV ?_ | with_reducible refine ev_notV ?_ | with_reducible refine et_or ?_ | with_reducible refine et_and ?_ | with_reducible refine sw_asgA ?_ | with_reducible refine sw_asg2 ?_ | with_reducible refine sw_asg3 ?_ | with_reducible refine sw_fld ?_ | with_reducible refine et_test ?_ | with_reducible refine et_B ?_ | with_reducible refine ⟨_, rfl, ?_⟩ | with_reducible refine et_not ?_ | with_reducible refine ev_if ?_
  | (with_reducible refine' bo_ixL ?h1 ?h2 ?_); (case h1 => walk_at "vl"); (case h2 => rfl) | (with_reducible refine' bo_ixT ?h2 ?_); (case h2 => rfl) | with_reducible refine ev_call ?_ | (with_reducible refine' ev_fmF ?hz ?_; case hz => assumption) | with_reducible refine ev_fld ?_
  | with_reducible refine ⟨_, _, rfl, FldF.kind _, ?_⟩ | with_reducible refine ⟨_, _, rfl, FldF.parts _, ?_⟩ | with_reducible refine ⟨_, _, rfl, FldF.many _, ?_⟩ | with_reducible refine ⟨_, _, rfl, FldF.deep _, ?_⟩ | with_reducible refine ⟨_, _, rfl, FldF.atoms _, ?_⟩ | with_reducible refine ⟨_, _, rfl, FldF.bare _, ?_⟩ | with_reducible refine ⟨_, _, rfl, FldF.spell _, ?_⟩ | with_reducible refine ⟨_, _, rfl, FldF.alls _, ?_⟩
  | ((with_reducible refine' ⟨len_ok ?hl, ?_⟩); (case hl => exact Nat.le_of_ble_eq_true rfl))
  | (with_reducible refine' bo_I ?h1 ?_); (case h1 => walk_at "nc"))
local macro_rules | `(tactic| walk_at "st") => `(tactic| repeat walk_at "s1")
theorem c_united {f : Addr} {fd : FuncData} (hm : mg "united" = some (.ref f)) (B : Blt mg) (Fn : Fun K "united" "united" s_united f fd) : Cal P w K mg base 1 "united" (spN FK ⟨K, cl⟩ S_united) [] := by
  refine calD hm Fn sc_united (by rintro ds W post ⟨x, y, rfl, _⟩; rfl) (fun _ _ _ _ _ _ us hl => match us, hl with | [_, _], _ => rfl) fun cdv A outer s H E hr => ⟨_, pss_one (ps_ret (pe_ifExp (pt_cmpR op_eq (pv 0) (pv 1) (nomark _)) (pv 0) pe_dead)), ?_⟩
  rintro ds W post ⟨x, y, rfl, rfl, rfl, k⟩
  try dsimp only [cxOf, Cx.nox, Cx.wish]
  walk_at "st"
  refine if_so (by simp) ?_
  walk_at "st"
  show post _ _
  simpa [unite] using k
theorem kd_facts (Z : ZF K w mg (cl 0) dP es n) (f : Fm) : (∃ r, PySem.W.nsIn K dP f.kind = some (some r)) ∧ KDct K w dP f.kind (.int ((partsD f).length : Nat)) := by
  cases f with
  | «at» c => obtain ⟨t, h⟩ := Z.katom; exact ⟨⟨_, h⟩, es, n, _, Z.parts.at_, Z.parts.lit, h, t, rfl⟩
  | no => obtain ⟨t, h⟩ := Z.kno; exact ⟨⟨_, h⟩, es, n, _, Z.parts.at_, Z.parts.lit, h, t, rfl⟩
  | imp a b => obtain ⟨t, h⟩ := Z.kif; exact ⟨⟨_, h⟩, es, n, _, Z.parts.at_, Z.parts.lit, h, t, rfl⟩
  | all a => obtain ⟨t, h⟩ := Z.kall; exact ⟨⟨_, h⟩, es, n, _, Z.parts.at_, Z.parts.lit, h, t, rfl⟩
theorem c_merged {f : Addr} {fd : FuncData} (hm : mg "merged" = some (.ref f)) (B : Blt mg) (Zf : ZF K w mg (cl 0) dP es n) (Fn : Fun K "merged" "merged" s_merged f fd) : Cal P w K mg base 1 "merged" (spN FK ⟨K, cl⟩ S_merged) [] := by
  refine calD hm Fn sc_merged (by rintro ds W post ⟨e1, e2, rfl, _⟩; rfl) (fun _ _ _ _ _ _ us hl => match us, hl with | [_, _], _ => rfl) fun cdv A outer s H E hr => ⟨_, pss_cons (ps_if (PW.pt (pw_or (pt_cmpR op_eq (pe_callB call_len (by rfl) B.len bt_len (pa_cons (pv 0) pa_nil)) pe_int (nomark _)) (pw_or1 (pt_cmpR op_eq (pe_callB call_len (by rfl) B.len bt_len (pa_cons (pv 1) pa_nil)) pe_int (nomark _))))) (pss_one (ps_ret (pe_op op_catA (pv 0) (pv 1)))) (pss_nil))
 (pss_cons (ps_set (i := 3) sc_merged.nd rfl (Or.inr rfl) (pe_dc (own := [("formula", 2)]) (by rfl) sc_merged.nd (pi_tup (pe_op op_catA (pv 0) (pv 1))) (blkOk_by (own := [("formula", 2)]) (N := ["one", "other", "formula", "found", "text"]) (sc := defScope s_merged) (by decide +kernel)) (fun _ _ _ _ _ => (pg_name (i := 2) sc_merged.nd rfl (Or.inl rfl))) (fun _ _ _ _ _ => pts_nil) (fun _ _ _ _ _ => (pe_fldK (K := K) rfl (pv 2) rfl)) (fun _ _ _ _ _ => (pv 2))))
 (pss_one (ps_ret (pe_callTy call_tuple_of (by rfl) B.tuple bt_tuple (pa_cons (pe_lc (own := [("text", 4)]) (by rfl) sc_merged.nd (pi_list (pe_callB (call_sortedD rfl) (by rfl) B.sorted bt_sorted (pa_cons (pv 3) pa_nil))) (blkOk_by (own := [("text", 4)]) (N := ["one", "other", "formula", "found", "text"]) (sc := defScope s_merged) (by decide +kernel)) (fun _ _ _ _ _ => (pg_name (i := 4) sc_merged.nd rfl (Or.inl rfl))) (fun _ _ _ _ _ => pts_nil) (fun _ _ _ _ _ => (pe_dget (by exact hu_of hr) (pv 3) (pv 4) (fun _ _ => rfl)))) pa_nil))))), ?_⟩
  rintro ds W post ⟨e1, e2, rfl, hs, l1, l2, lm, k⟩
  try dsimp only [cxOf, Cx.nox, Cx.wish]
  walk_at "st"
  refine ca_len (.inr rfl) ?_
  walk_at "st"
  refine if_dec (fun h1 => ?_) (fun h1 => ?_)
  · refine if_so rfl ?_
    walk_at "st"
    refine bo_catA (by have := sizeLine_eq; simp; omega) ?_
    have e : e1 = [] := by simpa using h1
    subst e
    exact k e2 (by simp [Fm.merge]) (fun p h => by simpa using h)
  · walk_at "st"
    refine ca_len (.inr rfl) ?_
    walk_at "st"
    refine if_dec (fun h2 => ?_) (fun h2 => ?_)
    · walk_at "st"
      refine bo_catA (by have := sizeLine_eq; simp; omega) ?_
      have e : e2 = [] := by simpa using h2
      subst e
      have e : e1 ≠ [] := by simpa using h1
      refine (show post (.tup (e1.map (·.1) ++ [])) W from ?_)
      rw [List.append_nil]
      exact k e1 (by simp [Fm.merge, e]) (fun p h => by simpa using h)
    · have n1 : e1 ≠ [] := by simpa using h1
      have n2 : e2 ≠ [] := by simpa using h2
      walk_at "st"
      refine ev_dc (ei_tup ?_)
      walk_at "st"
      refine bo_catA (by have := sizeLine_eq; simp; omega) ⟨_, rfl, fun i acc W' => W' = W ∧ ∃ l : List (D × Fm), acc = kvE l ∧ (l.map fun p => p.2.spell).Nodup ∧ (∀ p ∈ l, p ∈ e1 ++ e2) ∧ (∀ p ∈ (e1 ++ e2).take i, p.2 ∈ l.map (·.2)) ∧ l.length ≤ i, ⟨rfl, [], rfl, List.nodup_nil, by simp, by simp, by simp⟩, ?_, ?_⟩
      · rintro i d acc W' hd ⟨rfl, l, rfl, nd, hl, hm, hn⟩
        rw [← List.map_append, List.getElem?_map] at hd
        obtain ⟨p, hp, e⟩ := Option.map_eq_some_iff.mp hd
        subst e
        have hpm : p ∈ e1 ++ e2 := List.mem_of_getElem? hp
        refine tw_name (by simp) (et_yes ?_)
        refine if_so rfl ?_
        refine ev_spl (g := p.2) Zf.fz ?_
        walk_at "st"
        refine ⟨(hs p hpm).2, ?_⟩
        walk_at "st"
        obtain ⟨l', e, h3, h4, h5, h6⟩ := put_kvE (d := p.1) (fun q hq => (hs q (hl q hq)).1) (hs p hpm).1
        have hi : i < (e1 ++ e2).length := (List.getElem?_eq_some_iff.mp hp).1
        refine ⟨_, rfl, by have := sizeLine_eq; simp at hi ⊢; omega, rfl, l', e, ?_, fun q hq => ?_, fun q hq => ?_, by omega⟩
        · have := putG_nodup (k := Sum.inr p.2.spell) (z := p.1) (ps := kvE l) (by rw [kvE_keys]; exact nd.map Sum.inr (fun a b hab => fun e => hab (Sum.inr.inj e)))
          rw [e, kvE_keys] at this
          exact List.Pairwise.of_map Sum.inr (fun a b h e => h (by rw [e])) this
        · rcases h3 q hq with h | h
          · exact hl q h
          · rw [h]
            exact hpm
        · rw [List.take_add_one, hp] at hq
          rcases List.mem_append.mp hq with h | h
          · exact h4 _ (hm q h)
          · simp at h
            subst h
            exact h5
      · rintro acc W' ⟨rfl, l, rfl, nd, hl, hm, hn⟩ p hp
        have e0 : (e1.map (·.1) ++ e2.map (·.1)).length = (e1 ++ e2).length := by simp
        rw [e0, List.take_length] at hm
        have ms : ∀ x, x ∈ l.map (·.2) ↔ x ∈ e1.map (·.2) ++ e2.map (·.2) := fun x => by
          rw [← List.map_append]
          constructor
          · intro h
            obtain ⟨q, hq, e⟩ := List.mem_map.mp h
            exact List.mem_map.mpr ⟨q, hl q hq, e⟩
          · intro h
            obtain ⟨q, hq, e⟩ := List.mem_map.mp h
            subst e
            exact hm q hq
        have ok2 : ∀ x ∈ e1.map (·.2) ++ e2.map (·.2), x.okL := fun x hx => by
          rw [← List.map_append] at hx
          obtain ⟨q, hq, e⟩ := List.mem_map.mp hx
          subst e
          exact (hs q hq).1
        have nd2 : (l.map (·.2)).Nodup := by
          have : ((l.map (·.2)).map Fm.spell).Nodup := by
            rw [List.map_map]
            exact nd
          exact List.Pairwise.of_map Fm.spell (fun a b h e => h (by rw [e])) this
        walk_at "st"
        refine ev_lc (ei_list ?_)
        walk_at "st"
        refine ca_sortedD (ps := kvE l) (ks := l.map fun p => p.2.spell) (.inr ⟨p, rfl, List.mem_cons_self⟩) (kvE_keys l) ?_ ?_
        · refine Nat.lt_of_le_of_lt ?_ lm
          have := Fm.len_le nd2 (m := Fm.merge (e1.map (·.2)) (e2.map (·.2))) fun x hx => by
            rw [Fm.mem_merge, ← List.mem_append]
            exact (ms x).mp hx
          simpa using this
        · intro ys hp2 hss
          obtain ⟨e', hpe, ey⟩ := perm_map_inv hp2
          subst ey
          refine ⟨_, rfl, fun i acc W2 => acc = (e'.take i).map (·.1) ∧ W2 = (p, .dp (kvE l)) :: W', ⟨by simp, rfl⟩, ?_, ?_⟩
          · rintro i d acc W2 hd ⟨rfl, rfl⟩
            rw [List.map_map, List.getElem?_map] at hd
            obtain ⟨q, hq, e⟩ := Option.map_eq_some_iff.mp hd
            subst e
            have hqm : q ∈ l := hpe.mem_iff.mp (List.mem_of_getElem? hq)
            refine tw_name (by simp) (et_yes ?_)
            refine if_so rfl ?_
            refine ev_dget ?_
            walk_at "st"
            refine ⟨kvE l, Sum.inr q.2.spell, q.1, .inr ⟨p, rfl, List.mem_cons_self⟩, rfl, getG_kvE hqm nd, ?_, ?_, rfl⟩
            · have h7 := hpe.length_eq
              have := sizeLine_eq
              simp at hn ⊢
              omega
            · rw [List.take_add_one, hq]
              simp
          · rintro acc W2 ⟨rfl, rfl⟩ p2 hp3
            walk_at "st"
            refine ca_drp (ca_tup (.inr ⟨p2, rfl, List.mem_cons_self⟩) ?_)
            refine ⟨W', (List.sublist_cons_self _ _).trans (List.sublist_cons_self _ _), ?_⟩
            have e : (e'.take (List.map D.str (e'.map fun p => p.2.spell)).length) = e' := by simp
            rw [e]
            refine k e' (merge_of (by simpa using n1) (by simpa using n2) ok2 hss (hp2.nodup_iff.mpr nd) fun x => ?_) fun q hq => hl q (hpe.mem_iff.mp hq)
            rw [← ms x]
            exact (hpe.map _).mem_iff
end
end N

set_option Elab.async false
set_option linter.all false
set_option maxRecDepth 100000
namespace N
open PySem PySem.Spec PyProof.Rows L2
open C8 (Cal Met Mak InsC pe_c pe_mt pe_mt0 pe_mk)
section
variable {P : Program} {w : World} {K : PySem.W.Frag} {mg : Str → Option Value} {base : Heap} {cl : Nat → Addr} {dP : Addr} {es : Array DictEntry} {n : Nat}
set_option maxHeartbeats 4000000
local macro_rules | `(tactic| walk_at "vl") => `(tactic| first | exact .inl rfl | exact .inr ⟨_, rfl, List.mem_cons_self⟩ | exact .inr ⟨_, rfl, List.mem_cons_of_mem _ List.mem_cons_self⟩ | exact .inr ⟨_, rfl, List.mem_cons_of_mem _ (List.mem_cons_of_mem _ List.mem_cons_self)⟩ | exact .inr ⟨_, rfl, List.mem_cons_of_mem _ (List.mem_cons_of_mem _ (List.mem_cons_of_mem _ List.mem_cons_self))⟩)
local macro_rules | `(tactic| walk_at "nc") => `(tactic| first | omega | (unfold CMul; omega) | (unfold CDiv; omega) | (unfold CPow; decide) | (show (0 : Int) < _; omega))
local macro_rules | `(tactic| walk_at "s1") => `(tactic| first
  | with_reducible refine sw_seq ?_ | with_reducible refine sw_set ?_ | (with_reducible refine' ev_var ?h ?_); (case h => rfl) | with_reducible refine ev_c ?_ | with_reducible refine ev_op ?_
  | with_reducible refine bo_I0 ?_ | with_reducible refine ev_tup ?_ | with_reducible refine ev_lstF ?_ | with_reducible refine ev_cb ?_ | with_reducible refine ea_cons ?_ | with_reducible refine ea_nil ?_
  | with_reducible refine bo_eqI ?_ | with_reducible refine bo_neI ?_ | with_reducible refine bo_eqS ?_ | with_reducible refine bo_neS ?_ | with_reducible refine bo_eqB ?_ | with_reducible refine bo_neB ?_
  | with_reducible refine isi_str ?_ | with_reducible refine ca_intB ?_ | with_reducible refine ca_int ?_ | with_reducible refine ca_max2 ?_ | with_reducible refine ca_min2 ?_
  | with_reducible refine sw_if ?_ | with_reducible refine sw_ret ?_ | with_reducible refine sw_drop ?_ | with_reducible refine sw_setL ?_ | with_reducible refine sw_next ?_ | with_reducible refine sw_par ?_ | with_reducible refine ev_neg ?_ | with_reducible refine ev_mkF ?_ | with_reducible refine ev_inv ?_ | with_reducible refine ev_prpF ?_ | with_reducible refine ta_fld ?_ | with_reducible refine ta_name ?_ | (with_reducible refine' ta_tup ?hl ?_); (case hl => rfl) | with_reducible refine tas_cons ?_ | with_reducible refine tas_nil ?_
  | with_reducible refine et_ifE ?_ | with_reducible refine ev_orV ?_ | with_reducible refine ev_andV ?_ | with_reducible refine ev_notV ?_ | with_reducible refine et_or ?_ | with_reducible refine et_and ?_ | with_reducible refine sw_asgA ?_ | with_reducible refine sw_asg2 ?_ | with_reducible refine sw_asg3 ?_ | with_reducible refine sw_fld ?_ | with_reducible refine et_test ?_ | with_reducible refine et_B ?_ | with_reducible refine ⟨_, rfl, ?_⟩ | with_reducible refine et_not ?_ | with_reducible refine ev_if ?_
  | (with_reducible refine' bo_ixL ?h1 ?h2 ?_); (case h1 => walk_at "vl"); (case h2 => rfl) | (with_reducible refine' bo_ixT ?h2 ?_); (case h2 => rfl) | with_reducible refine ev_call ?_ | (with_reducible refine' ev_fmF ?hz ?_; case hz => assumption) | with_reducible refine ev_fld ?_
  | with_reducible refine ⟨_, _, rfl, FldF.kind _, ?_⟩ | with_reducible refine ⟨_, _, rfl, FldF.parts _, ?_⟩ | with_reducible refine ⟨_, _, rfl, FldF.many _, ?_⟩ | with_reducible refine ⟨_, _, rfl, FldF.deep _, ?_⟩ | with_reducible refine ⟨_, _, rfl, FldF.atoms _, ?_⟩ | with_reducible refine ⟨_, _, rfl, FldF.bare _, ?_⟩ | with_reducible refine ⟨_, _, rfl, FldF.spell _, ?_⟩ | with_reducible refine ⟨_, _, rfl, FldF.alls _, ?_⟩
  | ((with_reducible refine' ⟨len_ok ?hl, ?_⟩); (case hl => exact Nat.le_of_ble_eq_true rfl))
  | (with_reducible refine' bo_I ?h1 ?_); (case h1 => walk_at "nc"))
local macro_rules | `(tactic| walk_at "st") => `(tactic| repeat walk_at "s1")
theorem c_init {f : Addr} {fd : FuncData} (hm : mg "Formula" = some (.ref (cl 0))) (mk : Mk K (cl 0) f) (B : Blt mg) (Z : ZF K w mg (cl 0) dP es n) (Fn : Fun K "__init__" "Formula.__init__" s_Formula___init__ f fd)
    (c_united : Cal P w K mg base 1 "united" (spN FK ⟨K, cl⟩ S_united) []) (c_merged : Cal P w K mg base 1 "merged" (spN FK ⟨K, cl⟩ S_merged) []) : MakR P w K mg base 2 "Formula" (cl 0) (spN FK ⟨K, cl⟩ (starS 2 S_init)) := by
  have Zf := Z
  have fz := Z.fz
  refine ⟨f, mk, okS (ps := ["self", "kind"]) (pv := "parts") Fn sc_Formula___init__ (fun _ _ _ _ _ _ us rest hl => match us, hl, rest with | [_, _], _, [] => rfl | [_, _], _, [_] => rfl | [_, _], _, _ :: _ :: _ => rfl) fun cdv A outer s H E hr => ⟨_, PSs.nox (pss_cons (ps_if (PW.pt (pw_or (pt_not (pt_val (pe_callB call_isi (by rfl) B.isinstance bt_isinstance (pa_cons (pv 1) (pa_cons (pe_bltn (by rfl) B.str bt_str (relV_ty _)) pa_nil))))) (pw_or1 (pt_cmpR (op_notIn_kd Z.parts) (pv 1) (pe_glob (by rfl) Z.g_PARTS_OF (relV_ref _)) rfl)))) (pss_one (ps_never)) (pss_nil))
 (pss_cons (ps_if (pt_cmpR op_ne (pe_callB call_len (by rfl) B.len bt_len (pa_cons (pv 2) pa_nil)) (pe_ix ix_kdict (pe_glob (by rfl) Z.g_PARTS_OF (relV_ref _)) (pv 1) (fun _ _ => rfl)) (nomark _)) (pss_one (ps_never)) (pss_nil))
 (pss_cons (ps_for PassesOwn.never rfl (pi_tup (pv 2)) (pg_name (i := 3) sc_Formula___init__.nd rfl (Or.inl rfl)) (pss_one (ps_if (pt_not (pt_ifE (pt_cmpR op_eq (pv 1) (C8.pe_gc (by rfl) Z.g_ATOM) (nomark _)) pt_dead (pt_val (pe_callB call_isi (by rfl) B.isinstance bt_isinstance (pa_cons (pv 3) (pa_cons (pe_glob (by rfl) Z.g_Formula (relV_ref _)) pa_nil)))))) (pss_one (ps_never)) (pss_nil))))
 (pss_cons (ps_fld (pv 0) (pv 1) rfl)
 (pss_cons (ps_fld (pv 0) (pv 2) rfl)
 (pss_cons (ps_fld (pv 0) pe_int rfl)
 (pss_cons (ps_fld (pv 0) (pe_callTy call_int1 (by rfl) B.int bt_int (pa_cons (pe_cmpR op_eq (pv 1) (C8.pe_gc (by rfl) Z.g_ALL_formulas) (nomark _)) pa_nil)) rfl)
 (pss_cons (ps_asg2 pe_str (pg_fld (pv 0)) (pg_fld (pv 0)))
 (pss_cons (ps_asg (pe_tup (pa_cons (C8.pe_gc (by rfl) Z.g_NO) (pa_cons (pe_tup pa_nil) pa_nil))) (pg_tup (n := 2) rfl (pgs_cons (pg_fld (pv 0)) (pgs_cons (pg_fld (pv 0)) pgs_nil))))
 (pss_one (ps_if (pt_cmpR op_eq (pv 1) (C8.pe_gc (by rfl) Z.g_ATOM) (nomark _)) (pss_one (ps_asg3 (pe_ix ix_tup (pv 2) pe_int (fun _ _ => rfl)) (pg_fld (pv 0)) (pg_fld (pv 0)) (pg_fld (pv 0)))) (pss_one (ps_if (pt_cmpR op_eq (pv 1) (C8.pe_gc (by rfl) Z.g_ALL_formulas) (nomark _)) (pss_cons (ps_set (i := 4) sc_Formula___init__.nd rfl (Or.inl rfl) (pe_ix ix_tup (pv 2) pe_int (fun _ _ => rfl)))
 (pss_cons (ps_asg (pe_tup (pa_cons (pe_op op_add pe_int (pe_fld (pv 4) rfl)) (pa_cons (pe_op op_add pe_int (pe_fld (pv 4) rfl)) pa_nil))) (pg_tup (n := 2) rfl (pgs_cons (pg_fld (pv 0)) (pgs_cons (pg_fld (pv 0)) pgs_nil))))
 (pss_cons (ps_asg (pe_tup (pa_cons (pe_fld (pv 4) rfl) (pa_cons (pe_op op_add_str (C8.pe_gc (by rfl) Z.g_ALL_AHEAD) (pe_fld (pv 4) rfl)) pa_nil))) (pg_tup (n := 2) rfl (pgs_cons (pg_fld (pv 0)) (pgs_cons (pg_fld (pv 0)) pgs_nil))))
 (pss_one (ps_fld (pv 0) (pe_c c_merged hr (by omega) (by rfl) (pa_cons (pe_fld (pv 4) rfl) (pa_cons (pe_tup (pa_cons (pv 0) pa_nil)) pa_nil))) rfl))))) (pss_one (ps_if (pt_cmpR op_eq (pv 1) (C8.pe_gc (by rfl) Z.g_IF_formulas) (nomark _)) (pss_cons (ps_asg (pv 2) (pg_tup (n := 2) rfl (pgs_cons (pg_name (i := 5) sc_Formula___init__.nd rfl (Or.inl rfl)) (pgs_cons (pg_name (i := 6) sc_Formula___init__.nd rfl (Or.inl rfl)) pgs_nil))))
 (pss_cons (ps_asg (pe_tup (pa_cons (pe_op op_add (pe_op op_add pe_int (pe_fld (pv 5) rfl)) (pe_fld (pv 6) rfl)) (pa_cons (pe_callB (call_max2 rfl) (by rfl) B.max bt_max (pa_cons (pe_fld (pv 5) rfl) (pa_cons (pe_fld (pv 6) rfl) pa_nil))) pa_nil))) (pg_tup (n := 2) rfl (pgs_cons (pg_fld (pv 0)) (pgs_cons (pg_fld (pv 0)) pgs_nil))))
 (pss_cons (ps_fld (pv 0) (pe_c c_united hr (by omega) (by rfl) (pa_cons (pe_fld (pv 5) rfl) (pa_cons (pe_fld (pv 6) rfl) pa_nil))) rfl)
 (pss_cons (ps_fld (pv 0) (pe_c c_united hr (by omega) (by rfl) (pa_cons (pe_fld (pv 5) rfl) (pa_cons (pe_fld (pv 6) rfl) pa_nil))) rfl)
 (pss_cons (ps_fld (pv 0) (pe_c c_merged hr (by omega) (by rfl) (pa_cons (pe_fld (pv 5) rfl) (pa_cons (pe_fld (pv 6) rfl) pa_nil))) rfl)
 (pss_one (ps_fld (pv 0) (pe_joined (PJ.cons pe_str (PJ.cons (pe_fmt (pe_fld (pv 5) rfl)) (PJ.cons (pe_fmt (C8.pe_gc (by rfl) Z.g_BETWEEN)) (PJ.cons (pe_fmt (pe_fld (pv 6) rfl)) (PJ.cons pe_str PJ.nil)))))) rfl))))))) (pss_nil)))))))))))))))), ?_⟩, hm⟩
  rintro ds W post ⟨x, f, rfl, rfl, hf, k⟩
  try dsimp only [cxOf, Cx.nox, Cx.wish]
  walk_at "st"
  obtain ⟨⟨r0, hk1⟩, hk2⟩ := kd_facts Z f
  walk_at "st"
  refine if_not rfl ?_
  walk_at "st"
  refine bo_knin hk1 ?_
  walk_at "st"
  refine if_not rfl ?_
  walk_at "st"
  refine ca_len (.inr rfl) ?_
  walk_at "st"
  refine bo_kix hk2 ?_
  walk_at "st"
  refine if_not (by simp) ?_
  walk_at "st"
  refine sw_for (ei_tup ?_)
  walk_at "st"
  refine ⟨fun i G' W' => W' = [(x, .ins 0 [] [])] ∧ ∃ o, G' = [some (.adr x), some (.str f.kind), some (.tup (partsD f)), o, none, none, none], ⟨rfl, _, rfl⟩, ?_, ?_⟩
  · rintro i d G' W' hd ⟨rfl, o, rfl⟩
    obtain ⟨g, rfl⟩ := parts_bare hf.bare d (List.mem_of_getElem? hd)
    refine tg_name ?_
    walk_at "st"
    refine if_dec (fun e => absurd e (kind_bare hf.bare)) (fun _ => ?_)
    walk_at "st"
    refine isi_ins (.fm g) Z.fz.ins ?_
    walk_at "st"
    refine if_not rfl ?_
    walk_at "st"
    exact ⟨rfl, _, rfl⟩
  · rintro G' W' ⟨rfl, o, rfl⟩
    walk_at "st"
    refine rcv_new Z.fz (by decide +kernel) (by decide +kernel) (by decide) ?_
    walk_at "st"
    refine rcv_new Z.fz (by decide +kernel) (by decide +kernel) (by decide) ?_
    walk_at "st"
    refine rcv_new Z.fz (by decide +kernel) (by decide +kernel) (by decide) ?_
    walk_at "st"
    refine rcv_new Z.fz (by decide +kernel) (by decide +kernel) (by decide) ?_
    walk_at "st"
    refine rcv_new Z.fz (by decide +kernel) (by decide +kernel) (by decide) ?_
    walk_at "st"
    refine rcv_new Z.fz (by decide +kernel) (by decide +kernel) (by decide) ?_
    walk_at "st"
    refine rcv_new Z.fz (by decide +kernel) (by decide +kernel) (by decide) ?_
    walk_at "st"
    refine rcv_new Z.fz (by decide +kernel) (by decide +kernel) (by decide) ?_
    walk_at "st"
    refine if_dec (fun e => absurd e (kind_bare hf.bare)) (fun _ => ?_)
    walk_at "st"
    cases f with
    | «at» c => exact hf.bare.elim
    | no =>
      refine if_not (by decide +kernel) ?_
      walk_at "st"
      refine if_not (by decide +kernel) ?_
      walk_at "st"
      exact k [] rfl
    | all a =>
      refine if_so (show decide (("all" : Str) = "all") = true by decide +kernel) ?_
      simp only [partsD]
      walk_at "st"
      refine rcv_at 2 Z.fz (by decide +kernel) (by decide +kernel) rfl (by decide) ?_
      walk_at "st"
      refine rcv_at 3 Z.fz (by decide +kernel) (by decide +kernel) rfl (by decide) ?_
      walk_at "st"
      have hsz := hf.sz
      simp only [Fm.sz] at hsz
      have h16 := sizeLine_eq
      refine bo_addS (by rw [Fm.spell_len]; show 4 + _ ≤ _; omega) ?_
      walk_at "st"
      refine rcv_at 4 Z.fz (by decide +kernel) (by decide +kernel) rfl (by decide) ?_
      walk_at "st"
      refine rcv_at 6 Z.fz (by decide +kernel) (by decide +kernel) rfl (by decide) ?_
      walk_at "st"
      refine handA ⟨a.alls.map fun g => (D.fm g, g), [(.adr x, .all a)], by rw [fm_map]; rfl, ?_, ?_, by simp, ?_, ?_⟩
      · intro p hp
        rcases List.mem_append.mp hp with h | h
        · obtain ⟨g, hg, e⟩ := List.mem_map.mp h
          subst e
          exact ⟨(Fm.alls_sub (f := a) hf.a.ok).1 g hg, spl_fm g⟩
        · rw [List.mem_singleton] at h
          subst h
          exact ⟨hf.ok, _, _, .own x 0 _ _ List.mem_cons_self, rfl⟩
      · rw [List.length_map]
        exact hf.a.alls
      · rw [fm_map2]
        exact hf.alls
      · intro e' h1 h2
        rw [fm_map2] at h1
        walk_at "st"
        refine rcv_at 7 Z.fz (by decide +kernel) (by decide +kernel) rfl (by decide) ?_
        have := allsD_of (x := x) (f := .all a) (e := e') fun p hp => by
          rcases List.mem_append.mp (h2 p hp) with h | h
          · obtain ⟨g, hg, e⟩ := List.mem_map.mp h
            subst e
            exact .inl rfl
          · rw [List.mem_singleton] at h
            subst h
            exact .inr ⟨rfl, rfl⟩
        rw [h1] at this
        exact k _ this
    | imp a b =>
      refine if_not (show decide (("if" : Str) = "all") = false by decide +kernel) ?_
      walk_at "st"
      refine if_so (show decide (("if" : Str) = "if") = true by decide +kernel) ?_
      simp only [partsD]
      walk_at "st"
      refine rcv_at 2 Z.fz (by decide +kernel) (by decide +kernel) rfl (by decide) ?_
      walk_at "st"
      refine rcv_at 3 Z.fz (by decide +kernel) (by decide +kernel) rfl (by decide) ?_
      walk_at "st"
      obtain ⟨ea1, ea2⟩ := Fm.bare_atoms hf.bare.1
      obtain ⟨eb1, eb2⟩ := Fm.bare_atoms hf.bare.2
      refine hand0 ⟨_, _, rfl, by rw [ea1, eb1], rfl, ?_⟩
      rw [List.nil_append]
      walk_at "st"
      refine rcv_at 4 Z.fz (by decide +kernel) (by decide +kernel) rfl (by decide) ?_
      walk_at "st"
      refine hand0 ⟨_, _, rfl, by rw [ea2, eb2], rfl, ?_⟩
      rw [List.nil_append]
      walk_at "st"
      refine rcv_at 5 Z.fz (by decide +kernel) (by decide +kernel) rfl (by decide) ?_
      walk_at "st"
      refine handA ⟨a.alls.map fun g => (D.fm g, g), b.alls.map fun g => (D.fm g, g), by rw [fm_map, fm_map]; rfl, ?_, ?_, ?_, ?_, ?_⟩
      · intro p hp
        rw [← List.map_append] at hp
        obtain ⟨g, hg, e⟩ := List.mem_map.mp hp
        subst e
        refine ⟨?_, spl_fm g⟩
        rcases List.mem_append.mp hg with h | h
        · exact (Fm.alls_sub hf.l.ok).1 g h
        · exact (Fm.alls_sub hf.r.ok).1 g h
      · rw [List.length_map]
        exact hf.l.alls
      · rw [List.length_map]
        exact hf.r.alls
      · rw [fm_map2, fm_map2]
        exact hf.alls
      · intro e' h1 h2
        rw [fm_map2, fm_map2] at h1
        walk_at "st"
        refine rcv_at 7 Z.fz (by decide +kernel) (by decide +kernel) rfl (by decide) ?_
        have := allsD_of (x := x) (f := .imp a b) (e := e') fun p hp => by
          have h := h2 p hp
          rw [← List.map_append] at h
          obtain ⟨g, hg, e⟩ := List.mem_map.mp h
          subst e
          exact .inl rfl
        rw [h1] at this
        have k2 := k _ this
        walk_at "st"
        refine ev_joined ?_
        have hsz := hf.sz
        simp only [Fm.sz] at hsz
        have h16 := sizeLine_eq
        have l1 : ("(" : Str).length = 1 := rfl
        have l2 : (" > " : Str).length = 3 := rfl
        have l3 : (")" : Str).length = 1 := rfl
        have l4 := Fm.spell_len a
        have l5 := Fm.spell_len b
        refine ev_c ⟨_, rfl, by rw [empty_app, l1]; omega, ?_⟩
        refine ev_fmt ?_
        walk_at "st"
        refine ⟨by omega, _, rfl, by rw [empty_app, str_app_len]; omega, ?_⟩
        refine ev_fmt ?_
        walk_at "st"
        refine ⟨by rw [empty_app, str_app_len, str_app_len]; omega, ?_⟩
        refine ev_fmt ?_
        walk_at "st"
        refine ⟨by omega, _, rfl, by rw [empty_app, str_app_len, str_app_len, str_app_len]; omega, ?_⟩
        refine ev_c ⟨_, rfl, by rw [empty_app, str_app_len, str_app_len, str_app_len, str_app_len]; omega, ?_⟩
        rw [empty_app]
        refine ev_var rfl ?_
        refine rcv_at 6 Z.fz (by decide +kernel) (by decide +kernel) rfl (by decide) ?_
        rw [max_int]
        exact k2
end
end N

set_option Elab.async false
set_option linter.all false
set_option maxRecDepth 100000
namespace N
open PySem PySem.Spec PyProof.Rows L2
open C8 (Cal Met Mak InsC pe_c pe_mt pe_mt0 pe_mk)
abbrev s_no : Stmt := top 22
theorem sc_no : FnScope [] [] (defScope s_no) := ⟨rfl, rfl, rfl, by decide +kernel, rfl, by decide +kernel, by decide +kernel⟩
abbrev s_every : Stmt := top 23
theorem sc_every : FnScope ["formula"] ["formula"] (defScope s_every) := ⟨rfl, rfl, rfl, by decide +kernel, rfl, by decide +kernel, by decide +kernel⟩
abbrev s_as_formula : Stmt := top 18
theorem sc_as_formula : FnScope ["value"] ["value"] (defScope s_as_formula) := ⟨rfl, rfl, rfl, by decide +kernel, rfl, by decide +kernel, by decide +kernel⟩
abbrev s_operand : Stmt := top 19
theorem sc_operand : FnScope ["value", "found"] ["value"] (defScope s_operand) := ⟨rfl, rfl, rfl, by decide +kernel, rfl, by decide +kernel, by decide +kernel⟩
abbrev s_both : Stmt := top 20
theorem sc_both : FnScope ["one", "other"] ["one", "other"] (defScope s_both) := ⟨rfl, rfl, rfl, by decide +kernel, rfl, by decide +kernel, by decide +kernel⟩
abbrev s_either : Stmt := top 21
theorem sc_either : FnScope ["one", "other"] ["one", "other"] (defScope s_either) := ⟨rfl, rfl, rfl, by decide +kernel, rfl, by decide +kernel, by decide +kernel⟩
abbrev s_Formula___invert__ : Stmt := inClass (top 17) 10
theorem sc_Formula___invert__ : FnScope ["self"] ["self"] (defScope s_Formula___invert__) := ⟨rfl, rfl, rfl, by decide +kernel, rfl, by decide +kernel, by decide +kernel⟩
abbrev s_Formula___and__ : Stmt := inClass (top 17) 11
theorem sc_Formula___and__ : FnScope ["self", "other"] ["self", "other"] (defScope s_Formula___and__) := ⟨rfl, rfl, rfl, by decide +kernel, rfl, by decide +kernel, by decide +kernel⟩
abbrev s_Formula___or__ : Stmt := inClass (top 17) 13
theorem sc_Formula___or__ : FnScope ["self", "other"] ["self", "other"] (defScope s_Formula___or__) := ⟨rfl, rfl, rfl, by decide +kernel, rfl, by decide +kernel, by decide +kernel⟩
abbrev s_Formula___rshift__ : Stmt := inClass (top 17) 8
theorem sc_Formula___rshift__ : FnScope ["self", "other"] ["self", "other"] (defScope s_Formula___rshift__) := ⟨rfl, rfl, rfl, by decide +kernel, rfl, by decide +kernel, by decide +kernel⟩
abbrev s_Formula___str__ : Stmt := inClass (top 17) 7
theorem sc_Formula___str__ : FnScope ["self"] ["self"] (defScope s_Formula___str__) := ⟨rfl, rfl, rfl, by decide +kernel, rfl, by decide +kernel, by decide +kernel⟩
abbrev s_Formula_alls : Stmt := inClass (top 17) 3
theorem sc_Formula_alls : FnScope ["self"] ["self"] (defScope s_Formula_alls) := ⟨rfl, rfl, rfl, by decide +kernel, rfl, by decide +kernel, by decide +kernel⟩
section
variable {P : Program} {w : World} {K : PySem.W.Frag} {mg : Str → Option Value} {base : Heap} {cl : Nat → Addr} {dP : Addr} {es : Array DictEntry} {n : Nat}
set_option maxHeartbeats 4000000
local macro_rules | `(tactic| walk_at "vl") => `(tactic| first | exact .inl rfl | exact .inr ⟨_, rfl, List.mem_cons_self⟩ | exact .inr ⟨_, rfl, List.mem_cons_of_mem _ List.mem_cons_self⟩ | exact .inr ⟨_, rfl, List.mem_cons_of_mem _ (List.mem_cons_of_mem _ List.mem_cons_self)⟩ | exact .inr ⟨_, rfl, List.mem_cons_of_mem _ (List.mem_cons_of_mem _ (List.mem_cons_of_mem _ List.mem_cons_self))⟩)
local macro_rules | `(tactic| walk_at "nc") => `(tactic| first | omega | (unfold CMul; omega) | (unfold CDiv; omega) | (unfold CPow; decide) | (show (0 : Int) < _; omega))
local macro_rules | `(tactic| walk_at "s1") => `(tactic| first
  | with_reducible refine sw_seq ?_ | with_reducible refine sw_set ?_ | (with_reducible refine' ev_var ?h ?_); (case h => rfl) | with_reducible refine ev_c ?_ | with_reducible refine ev_op ?_
  | with_reducible refine bo_I0 ?_ | with_reducible refine ev_tup ?_ | with_reducible refine ev_lstF ?_ | with_reducible refine ev_cb ?_ | with_reducible refine ea_cons ?_ | with_reducible refine ea_nil ?_
  | with_reducible refine bo_eqI ?_ | with_reducible refine bo_neI ?_ | with_reducible refine bo_eqS ?_ | with_reducible refine bo_neS ?_ | with_reducible refine bo_eqB ?_ | with_reducible refine bo_neB ?_
  | with_reducible refine isi_str ?_ | with_reducible refine ca_intB ?_ | with_reducible refine ca_int ?_ | with_reducible refine ca_max2 ?_ | with_reducible refine ca_min2 ?_
  | with_reducible refine sw_if ?_ | with_reducible refine sw_ret ?_ | with_reducible refine sw_drop ?_ | with_reducible refine sw_setL ?_ | with_reducible refine sw_next ?_ | with_reducible refine sw_par ?_ | with_reducible refine ev_neg ?_ | with_reducible refine ev_mkF ?_ | with_reducible refine ev_inv ?_ | with_reducible refine ev_prpF ?_ | with_reducible refine ta_fld ?_ | with_reducible refine ta_name ?_ | (with_reducible refine' ta_tup ?hl ?_); (case hl => rfl) | with_reducible refine tas_cons ?_ | with_reducible refine tas_nil ?_
  | with_reducible refine et_ifE ?_ | with_reducible refine ev_orV ?_ | with_reducible refine ev_andV ?_ | with_reducible refine ev_notV ?_ | with_reducible refine et_or ?_ | with_reducible refine et_and ?_ | with_reducible refine sw_asgA ?_ | with_reducible refine sw_asg2 ?_ | with_reducible refine sw_asg3 ?_ | with_reducible refine sw_fld ?_ | with_reducible refine et_test ?_ | with_reducible refine et_B ?_ | with_reducible refine ⟨_, rfl, ?_⟩ | with_reducible refine et_not ?_ | with_reducible refine ev_if ?_
  | (with_reducible refine' bo_ixL ?h1 ?h2 ?_); (case h1 => walk_at "vl"); (case h2 => rfl) | (with_reducible refine' bo_ixT ?h2 ?_); (case h2 => rfl) | with_reducible refine ev_call ?_ | (with_reducible refine' ev_fmF ?hz ?_; case hz => assumption) | with_reducible refine ev_fld ?_
  | with_reducible refine ⟨_, _, rfl, FldF.kind _, ?_⟩ | with_reducible refine ⟨_, _, rfl, FldF.parts _, ?_⟩ | with_reducible refine ⟨_, _, rfl, FldF.many _, ?_⟩ | with_reducible refine ⟨_, _, rfl, FldF.deep _, ?_⟩ | with_reducible refine ⟨_, _, rfl, FldF.atoms _, ?_⟩ | with_reducible refine ⟨_, _, rfl, FldF.bare _, ?_⟩ | with_reducible refine ⟨_, _, rfl, FldF.spell _, ?_⟩ | with_reducible refine ⟨_, _, rfl, FldF.alls _, ?_⟩
  | ((with_reducible refine' ⟨len_ok ?hl, ?_⟩); (case hl => exact Nat.le_of_ble_eq_true rfl))
  | (with_reducible refine' bo_I ?h1 ?_); (case h1 => walk_at "nc"))
local macro_rules | `(tactic| walk_at "st") => `(tactic| repeat walk_at "s1")
theorem c_no {f : Addr} {fd : FuncData} (hm : mg "no" = some (.ref f)) (B : Blt mg) (Z : ZF K w mg (cl 0) dP es n) (Fn : Fun K "no" "no" s_no f fd)
    (m_Formula : MakR P w K mg base 2 "Formula" (cl 0) (spN FK ⟨K, cl⟩ (starS 2 S_init))) : Cal P w K mg base 4 "no" (spN FK ⟨K, cl⟩ S_no) [] := by
  have fz := Z.fz
  refine calD hm Fn sc_no (by rintro ds W post ⟨rfl, _⟩; rfl) (fun _ _ _ _ _ _ us hl => match us, hl with | [], _ => rfl) fun cdv A outer s H E hr => ⟨_, pss_one (ps_ret (pe_mkR m_Formula hr (by omega) (by rfl) (pa_cons (C8.pe_gc (by rfl) Z.g_NO) pa_nil))), ?_⟩
  rintro ds W post ⟨rfl, rfl, k⟩
  try dsimp only [cxOf, Cx.nox, Cx.wish]
  walk_at "st"
  exact ⟨.no, rfl, ⟨trivial, by decide, by decide⟩, k⟩
theorem c_every {f : Addr} {fd : FuncData} (hm : mg "every" = some (.ref f)) (B : Blt mg) (Z : ZF K w mg (cl 0) dP es n) (Fn : Fun K "every" "every" s_every f fd)
    (m_Formula : MakR P w K mg base 2 "Formula" (cl 0) (spN FK ⟨K, cl⟩ (starS 2 S_init))) : Cal P w K mg base 4 "every" (spN FK ⟨K, cl⟩ S_every) [] := by
  have fz := Z.fz
  refine calD hm Fn sc_every (by rintro ds W post ⟨f, rfl, _⟩; rfl) (fun _ _ _ _ _ _ us hl => match us, hl with | [_], _ => rfl) fun cdv A outer s H E hr => ⟨_, pss_one (ps_ret (pe_mkR m_Formula hr (by omega) (by rfl) (pa_cons (C8.pe_gc (by rfl) Z.g_ALL_formulas) (pa_cons (pv 0) pa_nil)))), ?_⟩
  rintro ds W post ⟨f, rfl, rfl, hf, k⟩
  try dsimp only [cxOf, Cx.nox, Cx.wish]
  walk_at "st"
  exact ⟨.all f, rfl, hf, k⟩
theorem c_as_formula {f : Addr} {fd : FuncData} (hm : mg "as_formula" = some (.ref f)) (B : Blt mg) (Z : ZF K w mg (cl 0) dP es n) (Fn : Fun K "as_formula" "as_formula" s_as_formula f fd) : Cal P w K mg base 1 "as_formula" (spN FK ⟨K, cl⟩ S_same) [] := by
  have fz := Z.fz
  refine calD hm Fn sc_as_formula (by rintro ds W post ⟨f, rfl, _⟩; rfl) (fun _ _ _ _ _ _ us hl => match us, hl with | [_], _ => rfl) fun cdv A outer s H E hr => ⟨_, pss_cons (ps_if (pt_val (pe_callB call_isi (by rfl) B.isinstance bt_isinstance (pa_cons (pv 0) (pa_cons (pe_glob (by rfl) Z.g_Formula (relV_ref _)) pa_nil)))) (pss_one (ps_ret (pv 0))) (pss_nil))
 (pss_one (ps_ret pe_dead)), ?_⟩
  rintro ds W post ⟨f, rfl, rfl, k⟩
  try dsimp only [cxOf, Cx.nox, Cx.wish]
  walk_at "st"
  refine isi_ins (.fm f) fz.ins ?_
  walk_at "st"
  refine if_so rfl ?_
  walk_at "st"
  exact k
theorem c_operand {f : Addr} {fd : FuncData} (hm : mg "operand" = some (.ref f)) (B : Blt mg) (Z : ZF K w mg (cl 0) dP es n) (Fn : Fun K "operand" "operand" s_operand f fd)
    (c_as_formula : Cal P w K mg base 1 "as_formula" (spN FK ⟨K, cl⟩ S_same) []) : Cal P w K mg base 2 "operand" (spN FK ⟨K, cl⟩ S_same) [] := by
  have fz := Z.fz
  refine calD hm Fn sc_operand (by rintro ds W post ⟨f, rfl, _⟩; rfl) (fun _ _ _ _ _ _ us hl => match us, hl with | [_], _ => rfl) fun cdv A outer s H E hr => ⟨_, pss_cons (ps_set (i := 1) sc_operand.nd rfl (Or.inl rfl) (pe_c c_as_formula hr (by omega) (by rfl) (pa_cons (pv 0) pa_nil)))
 (pss_cons (ps_if (pt_cmp (pc_isN (pv 1))) (pss_one (ps_never)) (pss_nil))
 (pss_one (ps_ret (pv 1)))), ?_⟩
  rintro ds W post ⟨f, rfl, rfl, k⟩
  try dsimp only [cxOf, Cx.nox, Cx.wish]
  walk_at "st"
  refine hand0 ⟨f, rfl, rfl, ?_⟩
  simp only [List.nil_append, List.append_nil]
  walk_at "st"
  refine ev_isN_fm (f := f) ?_
  walk_at "st"
  refine ⟨rfl, ?_⟩
  walk_at "st"
  refine if_not rfl ?_
  walk_at "st"
  exact k
theorem o_inv {f : Addr} {fd : FuncData} (o : Own2 K (cl 0) "__invert__" f) (B : Blt mg) (Z : ZF K w mg (cl 0) dP es n) (Fn : Fun K "__invert__" "Formula.__invert__" s_Formula___invert__ f fd)
    (m_Formula : MakR P w K mg base 2 "Formula" (cl 0) (spN FK ⟨K, cl⟩ (starS 2 S_init))) (c_no : Cal P w K mg base 4 "no" (spN FK ⟨K, cl⟩ S_no) []) : Opn P w K mg base 5 (cl 0) "__invert__" (spN FK ⟨K, cl⟩ S_inv) := by
  have fz := Z.fz
  refine opnD o Fn sc_Formula___invert__ (by rintro ds W post ⟨f, rfl, _⟩; rfl) (fun _ _ _ _ _ _ us hl => match us, hl with | [_], _ => rfl) fun cdv A outer s H E hr => ⟨_, pss_one (ps_ret (pe_mkR m_Formula hr (by omega) (by rfl) (pa_cons (C8.pe_gc (by rfl) Z.g_IF_formulas) (pa_cons (pv 0) (pa_cons (pe_c0 c_no hr (by omega) (by rfl)) pa_nil))))), ?_⟩
  rintro ds W post ⟨f, rfl, rfl, hf, k⟩
  try dsimp only [cxOf, Cx.nox, Cx.wish]
  walk_at "st"
  refine hand0 ⟨rfl, rfl, ?_⟩
  simp only [List.nil_append, List.append_nil]
  walk_at "st"
  exact ⟨.imp f .no, rfl, hf, k⟩
theorem c_both {f : Addr} {fd : FuncData} (hm : mg "both" = some (.ref f)) (B : Blt mg) (Z : ZF K w mg (cl 0) dP es n) (Fn : Fun K "both" "both" s_both f fd)
    (m_Formula : MakR P w K mg base 2 "Formula" (cl 0) (spN FK ⟨K, cl⟩ (starS 2 S_init))) (o_inv : Opn P w K mg base 5 (cl 0) "__invert__" (spN FK ⟨K, cl⟩ S_inv)) : Cal P w K mg base 6 "both" (spN FK ⟨K, cl⟩ S_and) [] := by
  have fz := Z.fz
  refine calD hm Fn sc_both (by rintro ds W post ⟨f, g, rfl, _⟩; rfl) (fun _ _ _ _ _ _ us hl => match us, hl with | [_, _], _ => rfl) fun cdv A outer s H E hr => ⟨_, pss_one (ps_ret (pe_un (un_opn o_inv hr (by omega)) (pe_mkR m_Formula hr (by omega) (by rfl) (pa_cons (C8.pe_gc (by rfl) Z.g_IF_formulas) (pa_cons (pv 0) (pa_cons (pe_un (un_opn o_inv hr (by omega)) (pv 1)) pa_nil)))))), ?_⟩
  rintro ds W post ⟨f, g, rfl, rfl, hf, k⟩
  try dsimp only [cxOf, Cx.nox, Cx.wish]
  walk_at "st"
  refine hand0 ⟨g, rfl, rfl, hf.l.r, ?_⟩
  simp only [List.nil_append, List.append_nil]
  walk_at "st"
  refine ⟨.imp f (Fm.neg g), rfl, hf.l, ?_⟩
  walk_at "st"
  exact hand0 ⟨_, rfl, rfl, hf, k⟩
theorem c_either {f : Addr} {fd : FuncData} (hm : mg "either" = some (.ref f)) (B : Blt mg) (Z : ZF K w mg (cl 0) dP es n) (Fn : Fun K "either" "either" s_either f fd)
    (m_Formula : MakR P w K mg base 2 "Formula" (cl 0) (spN FK ⟨K, cl⟩ (starS 2 S_init))) (o_inv : Opn P w K mg base 5 (cl 0) "__invert__" (spN FK ⟨K, cl⟩ S_inv)) : Cal P w K mg base 6 "either" (spN FK ⟨K, cl⟩ S_or) [] := by
  have fz := Z.fz
  refine calD hm Fn sc_either (by rintro ds W post ⟨f, g, rfl, _⟩; rfl) (fun _ _ _ _ _ _ us hl => match us, hl with | [_, _], _ => rfl) fun cdv A outer s H E hr => ⟨_, pss_one (ps_ret (pe_mkR m_Formula hr (by omega) (by rfl) (pa_cons (C8.pe_gc (by rfl) Z.g_IF_formulas) (pa_cons (pe_un (un_opn o_inv hr (by omega)) (pv 0)) (pa_cons (pv 1) pa_nil))))), ?_⟩
  rintro ds W post ⟨f, g, rfl, rfl, hf, k⟩
  try dsimp only [cxOf, Cx.nox, Cx.wish]
  walk_at "st"
  refine hand0 ⟨f, rfl, rfl, hf.l, ?_⟩
  simp only [List.nil_append, List.append_nil]
  walk_at "st"
  exact ⟨_, rfl, hf, k⟩
theorem o_and {f : Addr} {fd : FuncData} (o : Own2 K (cl 0) "__and__" f) (B : Blt mg) (Z : ZF K w mg (cl 0) dP es n) (Fn : Fun K "__and__" "Formula.__and__" s_Formula___and__ f fd)
    (c_operand : Cal P w K mg base 2 "operand" (spN FK ⟨K, cl⟩ S_same) []) (c_both : Cal P w K mg base 6 "both" (spN FK ⟨K, cl⟩ S_and) []) : Opn P w K mg base 7 (cl 0) "__and__" (spN FK ⟨K, cl⟩ S_and) := by
  have fz := Z.fz
  refine opnD o Fn sc_Formula___and__ (by rintro ds W post ⟨f, g, rfl, _⟩; rfl) (fun _ _ _ _ _ _ us hl => match us, hl with | [_, _], _ => rfl) fun cdv A outer s H E hr => ⟨_, pss_one (ps_ret (pe_c c_both hr (by omega) (by rfl) (pa_cons (pv 0) (pa_cons (pe_c c_operand hr (by omega) (by rfl) (pa_cons (pv 1) pa_nil)) pa_nil)))), ?_⟩
  rintro ds W post ⟨f, g, rfl, rfl, hf, k⟩
  try dsimp only [cxOf, Cx.nox, Cx.wish]
  walk_at "st"
  refine hand0 ⟨g, rfl, rfl, ?_⟩
  simp only [List.nil_append, List.append_nil]
  walk_at "st"
  exact hand0 ⟨f, g, rfl, rfl, hf, k⟩
theorem o_or {f : Addr} {fd : FuncData} (o : Own2 K (cl 0) "__or__" f) (B : Blt mg) (Z : ZF K w mg (cl 0) dP es n) (Fn : Fun K "__or__" "Formula.__or__" s_Formula___or__ f fd)
    (c_operand : Cal P w K mg base 2 "operand" (spN FK ⟨K, cl⟩ S_same) []) (c_either : Cal P w K mg base 6 "either" (spN FK ⟨K, cl⟩ S_or) []) : Opn P w K mg base 7 (cl 0) "__or__" (spN FK ⟨K, cl⟩ S_or) := by
  have fz := Z.fz
  refine opnD o Fn sc_Formula___or__ (by rintro ds W post ⟨f, g, rfl, _⟩; rfl) (fun _ _ _ _ _ _ us hl => match us, hl with | [_, _], _ => rfl) fun cdv A outer s H E hr => ⟨_, pss_one (ps_ret (pe_c c_either hr (by omega) (by rfl) (pa_cons (pv 0) (pa_cons (pe_c c_operand hr (by omega) (by rfl) (pa_cons (pv 1) pa_nil)) pa_nil)))), ?_⟩
  rintro ds W post ⟨f, g, rfl, rfl, hf, k⟩
  try dsimp only [cxOf, Cx.nox, Cx.wish]
  walk_at "st"
  refine hand0 ⟨g, rfl, rfl, ?_⟩
  simp only [List.nil_append, List.append_nil]
  walk_at "st"
  exact hand0 ⟨f, g, rfl, rfl, hf, k⟩
theorem o_shr {f : Addr} {fd : FuncData} (o : Own2 K (cl 0) "__rshift__" f) (B : Blt mg) (Z : ZF K w mg (cl 0) dP es n) (Fn : Fun K "__rshift__" "Formula.__rshift__" s_Formula___rshift__ f fd)
    (m_Formula : MakR P w K mg base 2 "Formula" (cl 0) (spN FK ⟨K, cl⟩ (starS 2 S_init))) (c_operand : Cal P w K mg base 2 "operand" (spN FK ⟨K, cl⟩ S_same) []) : Opn P w K mg base 4 (cl 0) "__rshift__" (spN FK ⟨K, cl⟩ S_shr) := by
  have fz := Z.fz
  refine opnD o Fn sc_Formula___rshift__ (by rintro ds W post ⟨f, g, rfl, _⟩; rfl) (fun _ _ _ _ _ _ us hl => match us, hl with | [_, _], _ => rfl) fun cdv A outer s H E hr => ⟨_, pss_one (ps_ret (pe_mkR m_Formula hr (by omega) (by rfl) (pa_cons (C8.pe_gc (by rfl) Z.g_IF_formulas) (pa_cons (pv 0) (pa_cons (pe_c c_operand hr (by omega) (by rfl) (pa_cons (pv 1) pa_nil)) pa_nil))))), ?_⟩
  rintro ds W post ⟨f, g, rfl, rfl, hf, k⟩
  try dsimp only [cxOf, Cx.nox, Cx.wish]
  walk_at "st"
  refine hand0 ⟨g, rfl, rfl, ?_⟩
  simp only [List.nil_append, List.append_nil]
  walk_at "st"
  exact ⟨_, rfl, hf, k⟩
theorem o_str {f : Addr} {fd : FuncData} (o : Own2 K (cl 0) "__str__" f) (B : Blt mg) (Z : ZF K w mg (cl 0) dP es n) (Fn : Fun K "__str__" "Formula.__str__" s_Formula___str__ f fd) : Opn P w K mg base 1 (cl 0) "__str__" (spN FK ⟨K, cl⟩ S_str) := by
  have fz := Z.fz
  refine opnD o Fn sc_Formula___str__ (by rintro ds W post ⟨f, rfl, _⟩; rfl) (fun _ _ _ _ _ _ us hl => match us, hl with | [_], _ => rfl) fun cdv A outer s H E hr => ⟨_, pss_one (ps_ret (pe_callTy SkE.call_str_str (by rfl) B.str bt_str (pa_cons (pe_fld (pv 0) rfl) pa_nil))), ?_⟩
  rintro ds W post ⟨f, rfl, rfl, k⟩
  try dsimp only [cxOf, Cx.nox, Cx.wish]
  walk_at "st"
  refine ca_strS ?_
  exact k
theorem p_alls {f p : Addr} {fd : FuncData} (o : PropOf K (cl 0) "alls" p f) (B : Blt mg) (Z : ZF K w mg (cl 0) dP es n) (Fn : Fun K "alls" "Formula.alls" s_Formula_alls f fd) : Prp P w K mg base 1 (cl 0) "alls" (spN FK ⟨K, cl⟩ S_alls) := by
  have fz := Z.fz
  refine prpD o Fn sc_Formula_alls (by rintro ds W post ⟨f, rfl, _⟩; rfl) (fun _ _ _ _ _ _ us hl => match us, hl with | [_], _ => rfl) fun cdv A outer s H E hr => ⟨_, pss_one (ps_ret (pe_fld (pv 0) rfl)), ?_⟩
  rintro ds W post ⟨f, rfl, rfl, k⟩
  try dsimp only [cxOf, Cx.nox, Cx.wish]
  walk_at "st"
  exact k
end
end N

set_option Elab.async false
set_option linter.all false
set_option maxRecDepth 100000
namespace N
open PySem PySem.Spec PyProof.Rows L2
open C8 (Cal Met Mak InsC pe_c pe_mt pe_mt0 pe_mk)
abbrev s_held : Stmt := top 30
theorem sc_held : FnScope ["formula", "state"] ["formula", "state"] (defScope s_held) := ⟨rfl, rfl, rfl, by decide +kernel, rfl, by decide +kernel, by decide +kernel⟩
abbrev s_values_by_heights : Stmt := top 31
theorem sc_values_by_heights : FnScope ["formula", "part", "parts", "text", "inner", "state", "found", "is_more", "later"] ["formula"] (defScope s_values_by_heights) := ⟨rfl, rfl, rfl, by decide +kernel, rfl, by decide +kernel, by decide +kernel⟩
abbrev s_trace : Stmt := top 32
theorem sc_trace : FnScope ["formula", "values", "height", "value"] ["formula"] (defScope s_trace) := ⟨rfl, rfl, rfl, by decide +kernel, rfl, by decide +kernel, by decide +kernel⟩
abbrev s_holds_at : Stmt := top 33
theorem sc_holds_at : FnScope ["formula", "height", "heights", "rest"] ["formula", "height"] (defScope s_holds_at) := ⟨rfl, rfl, rfl, by decide +kernel, rfl, by decide +kernel, by decide +kernel⟩
structure ZH (mg : Str → Option Value) : Prop where
  g_IF_heights : ∃ u, mg "IF_heights" = some u ∧ RelV (.str "if") u
  g_ALL_heights : ∃ u, mg "ALL_heights" = some u ∧ RelV (.str "all") u
section
variable {P : Program} {w : World} {K : PySem.W.Frag} {mg : Str → Option Value} {base : Heap} {cl : Nat → Addr} {dP : Addr} {es : Array DictEntry} {n : Nat}
set_option maxHeartbeats 4000000
local macro_rules | `(tactic| walk_at "vl") => `(tactic| first | exact .inl rfl | exact .inr ⟨_, rfl, List.mem_cons_self⟩ | exact .inr ⟨_, rfl, List.mem_cons_of_mem _ List.mem_cons_self⟩ | exact .inr ⟨_, rfl, List.mem_cons_of_mem _ (List.mem_cons_of_mem _ List.mem_cons_self)⟩ | exact .inr ⟨_, rfl, List.mem_cons_of_mem _ (List.mem_cons_of_mem _ (List.mem_cons_of_mem _ List.mem_cons_self))⟩)
local macro_rules | `(tactic| walk_at "nc") => `(tactic| first | omega | (unfold CMul; omega) | (unfold CDiv; omega) | (unfold CPow; decide) | (show (0 : Int) < _; omega))
local macro_rules | `(tactic| walk_at "s1") => `(tactic| first
  | with_reducible refine sw_seq ?_ | with_reducible refine sw_set ?_ | (with_reducible refine' ev_var ?h ?_); (case h => rfl) | with_reducible refine ev_c ?_ | with_reducible refine ev_op ?_
  | with_reducible refine bo_I0 ?_ | with_reducible refine ev_tup ?_ | with_reducible refine ev_lstF ?_ | with_reducible refine ev_cb ?_ | with_reducible refine ea_cons ?_ | with_reducible refine ea_nil ?_
  | with_reducible refine bo_eqI ?_ | with_reducible refine bo_neI ?_ | with_reducible refine bo_eqS ?_ | with_reducible refine bo_neS ?_ | with_reducible refine bo_eqB ?_ | with_reducible refine bo_neB ?_
  | with_reducible refine isi_str ?_ | with_reducible refine ca_intB ?_ | with_reducible refine ca_int ?_ | with_reducible refine ca_max2 ?_ | with_reducible refine ca_min2 ?_
  | with_reducible refine sw_if ?_ | with_reducible refine sw_ret ?_ | with_reducible refine sw_drop ?_ | with_reducible refine sw_setL ?_ | with_reducible refine sw_next ?_ | with_reducible refine sw_par ?_ | with_reducible refine ev_neg ?_ | with_reducible refine ev_mkF ?_ | with_reducible refine ev_inv ?_ | with_reducible refine ev_prpF ?_ | with_reducible refine ta_fld ?_ | with_reducible refine ta_name ?_ | (with_reducible refine' ta_tup ?hl ?_); (case hl => rfl) | with_reducible refine tas_cons ?_ | with_reducible refine tas_nil ?_
  | with_reducible refine et_ifE ?_ | with_reducible refine ev_orV ?_ | with_reducible refine ev_andV ?_ | with_reducible refine ev_notV ?_ | with_reducible refine et_or ?_ | with_reducible refine et_and ?_ | with_reducible refine sw_asgA ?_ | with_reducible refine sw_asg2 ?_ | with_reducible refine sw_asg3 ?_ | with_reducible refine sw_fld ?_ | with_reducible refine et_test ?_ | with_reducible refine et_B ?_ | with_reducible refine ⟨_, rfl, ?_⟩ | with_reducible refine et_not ?_ | with_reducible refine ev_if ?_
  | (with_reducible refine' bo_ixL ?h1 ?h2 ?_); (case h1 => walk_at "vl"); (case h2 => rfl) | (with_reducible refine' bo_ixT ?h2 ?_); (case h2 => rfl) | with_reducible refine ev_call ?_ | (with_reducible refine' ev_fmF ?hz ?_; case hz => assumption) | with_reducible refine ev_fld ?_
  | with_reducible refine ⟨_, _, rfl, FldF.kind _, ?_⟩ | with_reducible refine ⟨_, _, rfl, FldF.parts _, ?_⟩ | with_reducible refine ⟨_, _, rfl, FldF.many _, ?_⟩ | with_reducible refine ⟨_, _, rfl, FldF.deep _, ?_⟩ | with_reducible refine ⟨_, _, rfl, FldF.atoms _, ?_⟩ | with_reducible refine ⟨_, _, rfl, FldF.bare _, ?_⟩ | with_reducible refine ⟨_, _, rfl, FldF.spell _, ?_⟩ | with_reducible refine ⟨_, _, rfl, FldF.alls _, ?_⟩
  | ((with_reducible refine' ⟨len_ok ?hl, ?_⟩); (case hl => exact Nat.le_of_ble_eq_true rfl))
  | (with_reducible refine' bo_I ?h1 ?_); (case h1 => walk_at "nc"))
local macro_rules | `(tactic| walk_at "st") => `(tactic| repeat walk_at "s1")
theorem c_held {f : Addr} {fd : FuncData} (hm : mg "held" = some (.ref f)) (B : Blt mg) (Zf : ZF K w mg (cl 0) dP es n) (Z : ZH mg) (Fn : Fun K "held" "held" s_held f fd)
    (o_str : Opn P w K mg base 1 (cl 0) "__str__" (spN FK ⟨K, cl⟩ S_str)) : ∀ j, Cal P w K mg base (4 + j) "held" (spN FK ⟨K, cl⟩ (S_held j)) [] := by
  have fz := Zf.fz
  intro j
  induction j with
  | zero => exact calD (k := 3) hm Fn sc_held (by rintro ds W post ⟨f, sd, ks, s, rfl, _⟩; rfl) (fun _ _ _ _ _ _ us hl => match us, hl with | [_, _], _ => rfl) fun cdv A outer s H E hr => ⟨_, pss_never, fun ds W post ⟨f, sd, ks, s, _, _, h, _⟩ => absurd h (Nat.not_lt_zero _)⟩
  | succ j c_held =>
    refine calD (k := 4 + j) hm Fn sc_held (by rintro ds W post ⟨f, sd, ks, s, rfl, _⟩; rfl) (fun _ _ _ _ _ _ us hl => match us, hl with | [_, _], _ => rfl) fun cdv A outer s H E hr => ⟨_, pss_cons (ps_if (pt_cmpR op_eq (pe_fld (pv 0) rfl) (C8.pe_gc (by rfl) Z.g_ALL_heights) (nomark _)) (pss_one (ps_ret (pe_dget (by exact hu_of hr) (pv 1) (pe_callTy (call_str_opn o_str hr (by omega)) (by rfl) B.str bt_str (pa_cons (pv 0) pa_nil)) (fun _ _ => rfl)))) (pss_nil))
 (pss_cons (ps_if (pt_cmpR op_eq (pe_fld (pv 0) rfl) (C8.pe_gc (by rfl) Z.g_IF_heights) (nomark _)) (pss_one (ps_ret (pe_or (pe_not (pe_c c_held hr (by omega) (by rfl) (pa_cons (pe_ix ix_tup (pe_fld (pv 0) rfl) pe_int (fun _ _ => rfl)) (pa_cons (pv 1) pa_nil)))) (pe_one (pe_c c_held hr (by omega) (by rfl) (pa_cons (pe_ix ix_tup (pe_fld (pv 0) rfl) pe_int (fun _ _ => rfl)) (pa_cons (pv 1) pa_nil))))))) (pss_nil))
 (pss_one (ps_ret pe_bl))), ?_⟩
    rintro ds W post ⟨f, sd, ks, s, rfl, hv, hd, hk, k⟩
    try dsimp only [cxOf, Cx.nox, Cx.wish]
    walk_at "st"
    cases f with
    | «at» c =>
      refine if_not (show decide (("atom" : Str) = "all") = false by decide +kernel) ?_
      walk_at "st"
      refine if_not (show decide (("atom" : Str) = "if") = false by decide +kernel) ?_
      walk_at "st"
      exact k
    | no =>
      refine if_not (show decide (("no" : Str) = "all") = false by decide +kernel) ?_
      walk_at "st"
      refine if_not (show decide (("no" : Str) = "if") = false by decide +kernel) ?_
      walk_at "st"
      exact k
    | all a =>
      refine if_so (show decide (("all" : Str) = "all") = true by decide +kernel) ?_
      refine sw_ret (ev_dget ?_)
      walk_at "st"
      refine ca_strF ?_
      refine hand0 ⟨_, rfl, rfl, ⟨_, rfl⟩, ?_⟩
      simp only [List.nil_append]
      exact ⟨blD ks, Sum.inr (Fm.all a).spell, .bl (s (.all a)), hv, rfl, by rw [getG_bl, hk]; rfl, k⟩
    | imp a b =>
      simp only [Fm.dep] at hd
      refine if_not (show decide (("if" : Str) = "all") = false by decide +kernel) ?_
      walk_at "st"
      refine if_so (show decide (("if" : Str) = "if") = true by decide +kernel) ?_
      walk_at "st"
      refine handA ⟨a, sd, ks, s, rfl, hv, by omega, hk.1, ?_⟩
      walk_at "st"
      refine if_bl (fun e => ?_) (fun e => ?_)
      · have : Fm.hld s (.imp a b) = true := by simp only [Fm.hld, e, Bool.true_or]
        rw [this] at k
        exact k
      · walk_at "st"
        refine handA ⟨b, sd, ks, s, rfl, hv, by omega, hk.2, ?_⟩
        have : Fm.hld s (.imp a b) = Fm.hld s b := by simp only [Fm.hld, e, Bool.false_or]
        rw [this] at k
        exact k
theorem c_values {f : Addr} {fd : FuncData} (hm : mg "values_by_heights" = some (.ref f)) (B : Blt mg) (Zf : ZF K w mg (cl 0) dP es n) (Z : ZH mg) (Fn : Fun K "values_by_heights" "values_by_heights" s_values_by_heights f fd)
    (o_str : Opn P w K mg base 1 (cl 0) "__str__" (spN FK ⟨K, cl⟩ S_str)) (p_alls : Prp P w K mg base 1 (cl 0) "alls" (spN FK ⟨K, cl⟩ S_alls)) (c_held : Cal P w K mg base 24 "held" (spN FK ⟨K, cl⟩ (S_held 20)) []) : Cal P w K mg base 25 "values_by_heights" (spN FK ⟨K, cl⟩ S_values) [] := by
  have fz := Zf.fz
  refine calD hm Fn sc_values_by_heights (by rintro ds W post ⟨f, rfl, _⟩; rfl) (fun _ _ _ _ _ _ us hl => match us, hl with | [_], _ => rfl) fun cdv A outer s H E hr => ⟨_, pss_cons (ps_setLc (i := 2) (own := [("part", 1)]) (by rfl) sc_values_by_heights.nd rfl rfl (sw_true rfl rfl rfl (by decide +kernel)) (pi_tup (pe_prp p_alls fz.cls hr (by omega) (pv 0))) (blkOk_by (own := [("part", 1)]) (N := ["formula", "part", "parts", "text", "inner", "state", "found", "is_more", "later"]) (sc := defScope s_values_by_heights) (by decide +kernel)) (fun _ _ _ _ _ => (pg_name (i := 1) sc_values_by_heights.nd rfl (Or.inl rfl))) (fun _ _ _ _ _ => pts_nil) (fun _ _ _ _ _ => (pe_tup (pa_cons (pe_callTy (call_str_opn o_str hr (by omega)) (by rfl) B.str bt_str (pa_cons (pv 1) pa_nil)) (pa_cons (pe_ix (ix_tupK (K := K) rfl) (pe_fldK (K := K) rfl (pv 1) rfl) pe_int (fun _ _ => rfl)) pa_nil)))))
 (pss_cons (ps_asg (pe_tup (pa_cons (pe_dc (own := [("text", 3), ("inner", 4)]) (by rfl) sc_values_by_heights.nd (pi_list (pv 2)) (blkOk_by (own := [("text", 3), ("inner", 4)]) (N := ["formula", "part", "parts", "text", "inner", "state", "found", "is_more", "later"]) (sc := defScope s_values_by_heights) (by decide +kernel)) (fun _ _ _ _ _ => (pg_tupK (K := K) rfl (n := 2) rfl (pgs_cons (pg_name (i := 3) sc_values_by_heights.nd rfl (Or.inl rfl)) (pgs_cons (pg_name (i := 4) sc_values_by_heights.nd rfl (Or.inl rfl)) pgs_nil)))) (fun _ _ _ _ _ => pts_nil) (fun _ _ _ _ _ => (pv 3)) (fun _ _ _ _ _ => pe_bl)) (pa_cons (pe_lst pa_nil) (pa_cons pe_bl pa_nil)))) (pg_tup (n := 3) rfl (pgs_cons (pg_name (i := 5) sc_values_by_heights.nd rfl (Or.inr rfl)) (pgs_cons (pg_name (i := 6) sc_values_by_heights.nd rfl (Or.inl rfl)) (pgs_cons (pg_name (i := 7) sc_values_by_heights.nd rfl (Or.inl rfl)) pgs_nil)))))
 (pss_cons (ps_while PassesOwn.never (pt_val (pv 7)) (pss_cons (ps_expr (pe_bm PySem.F.plainAttrs_list PySem.F.slot_list_append PySem.F.type_list_append mt_append (pv 6) (pa_cons (pe_c c_held hr (by omega) (by rfl) (pa_cons (pv 0) (pa_cons (pv 5) pa_nil))) pa_nil)))
 (pss_cons (ps_setDc (i := 8) (own := [("text", 3), ("inner", 4)]) (by rfl) sc_values_by_heights.nd rfl rfl (sw_trueD rfl rfl rfl (by decide +kernel)) (pi_list (pv 2)) (blkOk_by (own := [("text", 3), ("inner", 4)]) (N := ["formula", "part", "parts", "text", "inner", "state", "found", "is_more", "later"]) (sc := defScope s_values_by_heights) (by decide +kernel)) (fun _ _ _ _ _ => (pg_tupK (K := K) rfl (n := 2) rfl (pgs_cons (pg_name (i := 3) sc_values_by_heights.nd rfl (Or.inl rfl)) (pgs_cons (pg_name (i := 4) sc_values_by_heights.nd rfl (Or.inl rfl)) pgs_nil)))) (fun _ _ _ _ _ => pts_nil) (fun _ _ _ _ _ => (pv 3)) (fun _ _ _ _ _ => (pe_and (pe_dget (by exact hu_of hr) (pv 5) (pv 3) (fun _ _ => rfl)) (pe_one (pe_c c_held hr (by omega) (by rfl) (pa_cons (pv 4) (pa_cons (pv 5) pa_nil)))))))
 (pss_one (ps_asg (pe_tup (pa_cons (pe_cmpR (op_ne_dictB (Nat.lt_of_succ_lt (hu_of hr))) (pv 8) (pv 5) (nomark _)) (pa_cons (pv 8) pa_nil))) (pg_tup (n := 2) rfl (pgs_cons (pg_name (i := 7) sc_values_by_heights.nd rfl (Or.inl rfl)) (pgs_cons (pg_name (i := 5) sc_values_by_heights.nd rfl (Or.inr rfl)) pgs_nil))))))))
 (pss_one (ps_ret (pv 6))))), ?_⟩
  rintro ds W post ⟨f, rfl, rfl, hf, hd, k⟩
  try dsimp only [cxOf, Cx.nox, Cx.wish]
  walk_at "st"
  refine ev_lc (ei_tup ?_)
  walk_at "st"
  refine hand0 ⟨f, rfl, rfl, ?_⟩
  simp only [List.nil_append]
  refine ⟨_, rfl, fun i acc W' => W' = [] ∧ acc = (rowsD f).take i, ⟨rfl, by simp⟩, ?_, ?_⟩
  · rintro i d acc W' hd ⟨rfl, rfl⟩
    rw [List.getElem?_map] at hd
    obtain ⟨g, hg, e⟩ := Option.map_eq_some_iff.mp hd
    subst e
    obtain ⟨a, e, _⟩ := Fm.alls_form (List.mem_of_getElem? hg)
    subst e
    refine tw_name (by simp) (et_yes ?_)
    refine if_so rfl ?_
    walk_at "st"
    refine ca_strF ?_
    refine hand0 ⟨_, rfl, rfl, ⟨_, rfl⟩, ?_⟩
    simp only [List.nil_append]
    walk_at "st"
    refine ⟨?_, rfl, ?_⟩
    · have := hf.alls
      have := sizeLine_eq
      rw [List.length_take, rowsD, List.length_map]
      omega
    · rw [List.take_add_one, rowsD, List.getElem?_map, hg]
      rfl
  · rintro acc W' ⟨rfl, rfl⟩ p hp
    have e : (rowsD f).take (f.alls.map D.fm).length = rowsD f := by
      rw [List.take_of_length_le]
      simp [rowsD]
    rw [e]
    refine sw_fz (i := 2) (a := p) rfl (List.Perm.refl _) (.lst _) ?_
    walk_at "st"
    have hrow : ∀ (v : Fm → Bool), (f.alls.map fun g => ((Sum.inr g.spell : Key), v g)).take (rowsD f).length = f.alls.map fun g => ((Sum.inr g.spell : Key), v g) := fun v => List.take_of_length_le (by simp [rowsD])
    have h64 := hf.alls
    have h16 := sizeLine_eq
    refine ev_fz (ev_dc (ei_list ?_))
    walk_at "st"
    refine ⟨fun i acc W' => W' = [] ∧ acc = blD ((ksAt f 0).take i), ⟨rfl, by simp [blD]⟩, ?_, ?_⟩
    · rintro i d acc W' hd ⟨rfl, rfl⟩
      rw [rowsD, List.getElem?_map] at hd
      obtain ⟨g, hg, e⟩ := Option.map_eq_some_iff.mp hd
      subst e
      refine tw_tup rfl (tws_cons (tw_name (by simp) (tws_cons (tw_name (by simp) (tws_nil (et_yes ?_))))))
      refine if_so rfl ?_
      walk_at "st"
      refine ⟨Sum.inr g.spell, rfl, by simp [blD, ksAt]; omega, rfl, ?_⟩
      have := put_row hf.ok (v := fun g => g.hAt 0) hg
      rw [hAt_zero (List.mem_of_getElem? hg)] at this
      exact this
    · rintro acc W' ⟨rfl, rfl⟩ p2 hp2
      refine ⟨p2, _, _, _, rfl, List.Perm.refl _, .dct _ _, ?_⟩
      rw [show (ksAt f 0).take (rowsD f).length = ksAt f 0 from hrow _]
      refine ea_cons (ev_lst (ea_nil ⟨len_ok (Nat.zero_le _), fun pf hpf => ?_⟩))
      walk_at "st"
      refine sw_while (fun m G W => ∃ (n : Nat) (more : Bool) (o1 o3 o4 o8 : Option D), G = [some (.fm f), o1, some (.lst (rowsD f)), o3, o4, some (.dp (blD (ksAt f n))), some (.adr pf), some (.bl more), o8] ∧ W = [(pf, .lst ((List.range n).map fun i => .bl (f.hAt i)))] ∧
          (more = true → n + f.cnt n ≤ f.alls.length ∧ m = f.cnt n + 1) ∧ (more = false → m = 0 ∧ ∃ j, n = j + 1 ∧ f.still j ∧ j ≤ 64)) (f.cnt 0 + 1) ⟨0, true, _, _, _, _, rfl, rfl, fun _ => ⟨by have := cnt_le f 0; omega, rfl⟩, fun h => by cases h⟩ ?_
      rintro m G' W' ⟨n, more, o1, o3, o4, o8, rfl, rfl, hT, hF⟩
      walk_at "st"
      cases more with
      | false =>
        obtain ⟨_, j, rfl, hs, hj⟩ := hF rfl
        refine if_not rfl ?_
        walk_at "st"
        exact k pf j hj hs
      | true =>
        obtain ⟨hn, rfl⟩ := hT rfl
        refine if_so rfl ?_
        refine sw_seq (sw_drop (ev_append ?_))
        walk_at "st"
        refine ⟨pf, _, [], [], rfl, rfl, ?_⟩
        walk_at "st"
        refine handA ⟨f, _, ksAt f n, fun g => g.hAt n, rfl, .inl rfl, hd.1, tab_ks hf.ok fun x hx => hx, ?_⟩
        rw [Fm.hld_at]
        walk_at "st"
        refine ⟨_, [], [], _, rfl, rfl, by simp; omega, ?_⟩
        refine sw_seq (sw_set (ev_fz (ev_dc (ei_list ?_))))
        walk_at "st"
        refine ⟨fun i acc W' => W' = [(pf, .lst ((List.range n).map (fun i => D.bl (f.hAt i)) ++ [.bl (f.hAt n)]))] ∧ acc = blD ((ksAt f (n + 1)).take i), ⟨rfl, by simp [blD]⟩, ?_, ?_⟩
        · rintro i d acc W' hd2 ⟨rfl, rfl⟩
          rw [rowsD, List.getElem?_map] at hd2
          obtain ⟨g, hg, e⟩ := Option.map_eq_some_iff.mp hd2
          subst e
          have hgm := List.mem_of_getElem? hg
          refine tw_tup rfl (tws_cons (tw_name (by simp) (tws_cons (tw_name (by simp) (tws_nil (et_yes ?_))))))
          refine if_so rfl ?_
          walk_at "st"
          refine ev_dget ?_
          walk_at "st"
          refine ⟨blD (ksAt f n), Sum.inr g.spell, .bl (g.hAt n), .inl rfl, rfl, by rw [getG_bl, ksAt_get hf.ok hgm]; rfl, ?_⟩
          have hput := put_row hf.ok (v := fun g => g.hAt (n + 1)) hg
          have hsu := hAt_succ (n := n) hgm
          refine ⟨_, rfl, if_bl (fun e => ?_) (fun e => ?_)⟩
          · walk_at "st"
            refine handA ⟨g.inn, _, ksAt f n, fun g => g.hAt n, rfl, .inl rfl, ?_, tab_ks hf.ok (inn_all hgm).2, ?_⟩
            · refine hd.2 g.inn ?_
              rw [← (inn_all hgm).1]
              exact hgm
            · rw [Fm.hld_at]
              refine ⟨Sum.inr g.spell, rfl, by simp [blD, ksAt]; omega, rfl, ?_⟩
              rw [hsu, e, Bool.true_and] at hput
              exact hput
          · refine ⟨Sum.inr g.spell, rfl, by simp [blD, ksAt]; omega, rfl, ?_⟩
            rw [hsu, e, Bool.false_and] at hput
            exact hput
        · rintro acc W' ⟨rfl, rfl⟩ p3 hp3
          refine ⟨p3, _, _, _, rfl, List.Perm.refl _, .dct _ _, ?_⟩
          rw [show (ksAt f (n + 1)).take (rowsD f).length = ksAt f (n + 1) from hrow _]
          walk_at "st"
          refine bo_neDB (ks := ksAt f (n + 1)) (ls := ksAt f n) (.inl rfl) (.inl rfl) (by simp [ksAt]) ?_
          walk_at "st"
          have hmap : (List.range n).map (fun i => D.bl (f.hAt i)) ++ [.bl (f.hAt n)] = (List.range (n + 1)).map fun i => D.bl (f.hAt i) := by rw [List.range_succ, List.map_append]; rfl
          rw [hmap]
          by_cases hs : f.still n
          · have e := (eq_ks hf.ok).mpr hs
            rw [e]
            exact ⟨0, by omega, n + 1, false, _, _, _, _, rfl, rfl, (fun h => by cases h), fun _ => ⟨rfl, n, rfl, hs, by omega⟩⟩
          · have e : eqDB (ksAt f (n + 1)) (ksAt f n) = false := by
              cases h : eqDB (ksAt f (n + 1)) (ksAt f n) with
              | false => rfl
              | true => exact absurd ((eq_ks hf.ok).mp h) hs
            rw [e]
            have := Fm.cnt_lt hs
            exact ⟨f.cnt (n + 1) + 1, by omega, n + 1, true, _, _, _, _, rfl, rfl, (fun _ => ⟨by omega, rfl⟩), fun h => by cases h⟩
end
end N

set_option Elab.async false
set_option linter.all false
set_option maxRecDepth 100000
namespace N
open PySem PySem.Spec PyProof.Rows L2
open C8 (Cal Met Mak InsC pe_c pe_mt pe_mt0 pe_mk)
section
variable {P : Program} {w : World} {K : PySem.W.Frag} {mg : Str → Option Value} {base : Heap} {cl : Nat → Addr} {dP : Addr} {es : Array DictEntry} {n : Nat}
set_option maxHeartbeats 4000000
local macro_rules | `(tactic| walk_at "vl") => `(tactic| first | exact .inl rfl | exact .inr ⟨_, rfl, List.mem_cons_self⟩ | exact .inr ⟨_, rfl, List.mem_cons_of_mem _ List.mem_cons_self⟩ | exact .inr ⟨_, rfl, List.mem_cons_of_mem _ (List.mem_cons_of_mem _ List.mem_cons_self)⟩ | exact .inr ⟨_, rfl, List.mem_cons_of_mem _ (List.mem_cons_of_mem _ (List.mem_cons_of_mem _ List.mem_cons_self))⟩)
local macro_rules | `(tactic| walk_at "nc") => `(tactic| first | omega | (unfold CMul; omega) | (unfold CDiv; omega) | (unfold CPow; decide) | (show (0 : Int) < _; omega))
local macro_rules | `(tactic| walk_at "s1") => `(tactic| first
  | with_reducible refine sw_seq ?_ | with_reducible refine sw_set ?_ | (with_reducible refine' ev_var ?h ?_); (case h => rfl) | with_reducible refine ev_c ?_ | with_reducible refine ev_op ?_
  | with_reducible refine bo_I0 ?_ | with_reducible refine ev_tup ?_ | with_reducible refine ev_lstF ?_ | with_reducible refine ev_cb ?_ | with_reducible refine ea_cons ?_ | with_reducible refine ea_nil ?_
  | with_reducible refine bo_eqI ?_ | with_reducible refine bo_neI ?_ | with_reducible refine bo_eqS ?_ | with_reducible refine bo_neS ?_ | with_reducible refine bo_eqB ?_ | with_reducible refine bo_neB ?_
  | with_reducible refine isi_str ?_ | with_reducible refine ca_intB ?_ | with_reducible refine ca_int ?_ | with_reducible refine ca_max2 ?_ | with_reducible refine ca_min2 ?_
  | with_reducible refine sw_if ?_ | with_reducible refine sw_ret ?_ | with_reducible refine sw_drop ?_ | with_reducible refine sw_setL ?_ | with_reducible refine sw_next ?_ | with_reducible refine sw_par ?_ | with_reducible refine ev_neg ?_ | with_reducible refine ev_mkF ?_ | with_reducible refine ev_inv ?_ | with_reducible refine ev_prpF ?_ | with_reducible refine ta_fld ?_ | with_reducible refine ta_name ?_ | (with_reducible refine' ta_tup ?hl ?_); (case hl => rfl) | with_reducible refine tas_cons ?_ | with_reducible refine tas_nil ?_
  | with_reducible refine et_ifE ?_ | with_reducible refine ev_orV ?_ | with_reducible refine ev_andV ?_ | with_reducible refine ev_notV ?_ | with_reducible refine et_or ?_ | with_reducible refine et_and ?_ | with_reducible refine sw_asgA ?_ | with_reducible refine sw_asg2 ?_ | with_reducible refine sw_asg3 ?_ | with_reducible refine sw_fld ?_ | with_reducible refine et_test ?_ | with_reducible refine et_B ?_ | with_reducible refine ⟨_, rfl, ?_⟩ | with_reducible refine et_not ?_ | with_reducible refine ev_if ?_
  | (with_reducible refine' bo_ixL ?h1 ?h2 ?_); (case h1 => walk_at "vl"); (case h2 => rfl) | (with_reducible refine' bo_ixT ?h2 ?_); (case h2 => rfl) | with_reducible refine ev_call ?_ | (with_reducible refine' ev_fmF ?hz ?_; case hz => assumption) | with_reducible refine ev_fld ?_
  | with_reducible refine ⟨_, _, rfl, FldF.kind _, ?_⟩ | with_reducible refine ⟨_, _, rfl, FldF.parts _, ?_⟩ | with_reducible refine ⟨_, _, rfl, FldF.many _, ?_⟩ | with_reducible refine ⟨_, _, rfl, FldF.deep _, ?_⟩ | with_reducible refine ⟨_, _, rfl, FldF.atoms _, ?_⟩ | with_reducible refine ⟨_, _, rfl, FldF.bare _, ?_⟩ | with_reducible refine ⟨_, _, rfl, FldF.spell _, ?_⟩ | with_reducible refine ⟨_, _, rfl, FldF.alls _, ?_⟩
  | ((with_reducible refine' ⟨len_ok ?hl, ?_⟩); (case hl => exact Nat.le_of_ble_eq_true rfl))
  | (with_reducible refine' bo_I ?h1 ?_); (case h1 => walk_at "nc"))
local macro_rules | `(tactic| walk_at "st") => `(tactic| repeat walk_at "s1")
theorem c_trace {f : Addr} {fd : FuncData} (hm : mg "trace" = some (.ref f)) (B : Blt mg) (Fn : Fun K "trace" "trace" s_trace f fd)
    (c_values_by_heights : Cal P w K mg base 25 "values_by_heights" (spN FK ⟨K, cl⟩ S_values) []) : Cal P w K mg base 26 "trace" (spN FK ⟨K, cl⟩ S_trace) [] ∧ CalK P w K mg base 26 "trace" ["formula"] (fun _ zs => zs) (spN FK ⟨K, cl⟩ S_trace) := by
  refine calDK hm Fn sc_trace (by rintro ds W post ⟨f, rfl, _⟩; rfl) (fun _ _ _ _ _ _ us hl => match us, hl with | [_], _ => rfl) (kb_of (g := fun _ ws => ws) Fn (fun _ _ _ _ _ _ ws hl => match ws, hl with | [_], _ => rfl) fun _ r => r) fun cdv A outer s H E hr => ⟨_, pss_cons (ps_set (i := 1) sc_trace.nd rfl (Or.inr rfl) (pe_c c_values_by_heights hr (by omega) (by rfl) (pa_cons (pv 0) pa_nil)))
 (pss_one (ps_ret (pe_tup (pa_cons (pe_callTy call_tuple_of (by rfl) B.tuple bt_tuple (pa_cons (pe_lc (own := [("height", 2), ("value", 3)]) (by rfl) sc_trace.nd (pi_enum (by rfl) B.enumerate (pa_cons (pv 1) pa_nil)) (blkOk_by (own := [("height", 2), ("value", 3)]) (N := ["formula", "values", "height", "value"]) (sc := defScope s_trace) (by decide +kernel)) (fun _ _ _ _ _ => (pg_tupK (K := K) rfl (n := 2) rfl (pgs_cons (pg_name (i := 2) sc_trace.nd rfl (Or.inl rfl)) (pgs_cons (pg_name (i := 3) sc_trace.nd rfl (Or.inl rfl)) pgs_nil)))) (fun _ _ _ _ _ => pts_one (pt_cmpR op_ne (pv 3) (pe_ix (ix_listK (K := K) rfl) (pv 1) (pe_un un_neg pe_int) (fun _ _ => rfl)) (nomark _))) (fun _ _ _ _ _ => (pv 2))) pa_nil)) (pa_cons (pe_ix ix_list (pv 1) (pe_un un_neg pe_int) (fun _ _ => rfl)) pa_nil))))), ?_⟩
  rintro ds W post ⟨f, rfl, rfl, hf, hd, k⟩
  try dsimp only [cxOf, Cx.nox, Cx.wish]
  walk_at "st"
  refine hand0 ⟨f, rfl, rfl, hf, hd, fun p m hm hs => ?_⟩
  refine sw_fz (i := 1) (a := p) rfl (List.Perm.refl _) (.lst _) ?_
  walk_at "st"
  refine ev_lc (ei_enum ?_)
  walk_at "st"
  refine ⟨fun i acc W' => W' = [] ∧ acc = (((List.range i).filter fun i => f.hAt i != f.hAt m).map fun i => D.int (i : Nat)), ⟨rfl, rfl⟩, ?_, ?_⟩
  · rintro i d acc W' hd2 ⟨rfl, rfl⟩
    obtain ⟨d0, hd0, rfl⟩ := pairsD_get hd2
    rw [List.getElem?_map] at hd0
    obtain ⟨i', hi', e⟩ := Option.map_eq_some_iff.mp hd0
    have hlt : i < m + 1 := by
      have := (List.getElem?_eq_some_iff.mp hi').1
      simpa using this
    rw [List.getElem?_range hlt] at hi'
    cases hi'
    subst e
    refine tw_tup rfl (tws_cons (tw_name (by simp) (tws_cons (tw_name (by simp) (tws_nil ?_)))))
    walk_at "st"
    refine bo_ixL (.inl rfl) (atI_last m) ?_
    walk_at "st"
    have hr1 : (List.range (i + 1)).filter (fun i => f.hAt i != f.hAt m) = (List.range i).filter (fun i => f.hAt i != f.hAt m) ++ (if (f.hAt i != f.hAt m) = true then [i] else []) := by
      rw [List.range_succ, List.filter_append]
      congr 1
      simp only [List.filter_cons, List.filter_nil]
    refine if_ndec (fun e => ?_) (fun e => ?_)
    · walk_at "st"
      refine ⟨?_, rfl, ?_⟩
      · have := sizeLine_eq
        have := List.length_filter_le (fun i => f.hAt i != f.hAt m) (List.range i)
        simp at this ⊢
        omega
      · rw [hr1, if_pos (by simpa using e), List.map_append, Nat.zero_add]
        rfl
    · refine ⟨rfl, ?_⟩
      rw [hr1, if_neg (by simpa using e), List.append_nil]
  · rintro acc W' ⟨rfl, rfl⟩ p2 hp2
    walk_at "st"
    refine ca_drp (ca_tup (.inr ⟨p2, rfl, List.mem_cons_self⟩) ⟨[], List.nil_sublist _, ?_⟩)
    walk_at "st"
    refine bo_ixL (.inl rfl) (atI_last m) ?_
    walk_at "st"
    have := k m hm hs
    rw [pairsD_len, List.length_map, List.length_range]
    rw [hsOf, List.map_map] at this
    exact this
theorem c_holds {f : Addr} {fd : FuncData} (hm : mg "holds_at" = some (.ref f)) (B : Blt mg) (Fn : Fun K "holds_at" "holds_at" s_holds_at f fd)
    (c_trace : Cal P w K mg base 26 "trace" (spN FK ⟨K, cl⟩ S_trace) []) : Cal P w K mg base 27 "holds_at" (spN FK ⟨K, cl⟩ S_holds) [] ∧ CalK P w K mg base 27 "holds_at" ["height", "formula"] (fun _ zs => zs.reverse) (spN FK ⟨K, cl⟩ S_holds) := by
  refine calDK hm Fn sc_holds_at (by rintro ds W post ⟨f, h, rfl, _⟩; rfl) (fun _ _ _ _ _ _ us hl => match us, hl with | [_, _], _ => rfl) (kb_of (g := fun _ ws => ws.reverse) Fn (fun _ _ _ _ _ _ ws hl => match ws, hl with | [_, _], _ => rfl) fun _ r => r.reverse) fun cdv A outer s H E hr => ⟨_, pss_cons (ps_asg (pe_c c_trace hr (by omega) (by rfl) (pa_cons (pv 0) pa_nil)) (pg_tup (n := 2) rfl (pgs_cons (pg_name (i := 2) sc_holds_at.nd rfl (Or.inl rfl)) (pgs_cons (pg_name (i := 3) sc_holds_at.nd rfl (Or.inl rfl)) pgs_nil))))
 (pss_one (ps_ret (pe_cmpR op_ne (pe_cmpR op_in_seq (pv 1) (pv 2) rfl) (pv 3) (nomark _)))), ?_⟩
  rintro ds W post ⟨f, h, rfl, rfl, hf, hd, k⟩
  try dsimp only [cxOf, Cx.nox, Cx.wish]
  walk_at "st"
  refine hand0 ⟨f, rfl, rfl, hf, hd, fun m hm hs => ?_⟩
  walk_at "st"
  refine bo_in (neg := false) (xs := (hsOf f m).map V.int) (.inr (by rw [List.map_map]; rfl)) rfl (flat_ints _) ?_
  rw [inV_int]
  walk_at "st"
  have e : (!decide ((if false = true then !decide ((h : Int) ∈ hsOf f m) else decide ((h : Int) ∈ hsOf f m)) = f.hAt m)) = f.hAt h := by
    rw [← mem_hs (h := h) hs]
    rw [if_neg (by decide)]
    cases decide ((h : Int) ∈ hsOf f m) <;> cases f.hAt m <;> rfl
  rw [e]
  exact k
end
end N

set_option Elab.async false
set_option linter.all false
set_option maxRecDepth 100000
namespace N
open PySem PySem.Spec PyProof.Rows L2
open C8 (Cal Met Mak InsC pe_c pe_mt pe_mt0 pe_mk)
abbrev s_law_deck : Stmt := top 35
theorem sc_law_deck : FnScope ["_law_script", "_law_cells", "_law_stew", "_law_cell"] ["_law_script"] (defScope s_law_deck) := ⟨rfl, rfl, rfl, by decide +kernel, rfl, by decide +kernel, by decide +kernel⟩
abbrev s_law_draw : Stmt := top 36
theorem sc_law_draw : FnScope ["_law_deck_here", "_law_many", "_law_stew", "_law_cell"] ["_law_deck_here", "_law_many"] (defScope s_law_draw) := ⟨rfl, rfl, rfl, by decide +kernel, rfl, by decide +kernel, by decide +kernel⟩
abbrev s_law_below : Stmt := top 38
theorem sc_law_below : FnScope ["_law_many", "_law_found", "_law_k"] ["_law_many"] (defScope s_law_below) := ⟨rfl, rfl, rfl, by decide +kernel, rfl, by decide +kernel, by decide +kernel⟩
section
variable {P : Program} {w : World} {K : PySem.W.Frag} {mg : Str → Option Value} {base : Heap} {cl : Nat → Addr} {F : FmKit}
set_option maxHeartbeats 4000000
local macro_rules | `(tactic| walk_at "vl") => `(tactic| first | exact .inl rfl | exact .inr ⟨_, rfl, List.mem_cons_self⟩ | exact .inr ⟨_, rfl, List.mem_cons_of_mem _ List.mem_cons_self⟩ | exact .inr ⟨_, rfl, List.mem_cons_of_mem _ (List.mem_cons_of_mem _ List.mem_cons_self)⟩ | exact .inr ⟨_, rfl, List.mem_cons_of_mem _ (List.mem_cons_of_mem _ (List.mem_cons_of_mem _ List.mem_cons_self))⟩)
local macro_rules | `(tactic| walk_at "nc") => `(tactic| first | omega | (unfold CMul; omega) | (unfold CDiv; omega) | (unfold CPow; decide) | (show (0 : Int) < _; omega))
local macro_rules | `(tactic| walk_at "s1") => `(tactic| first
  | with_reducible refine sw_seq ?_ | with_reducible refine sw_set ?_ | (with_reducible refine' ev_var ?h ?_); (case h => rfl) | with_reducible refine ev_c ?_ | with_reducible refine ev_op ?_
  | with_reducible refine bo_I0 ?_ | with_reducible refine ev_tup ?_ | with_reducible refine ev_lstF ?_ | with_reducible refine ev_cb ?_ | with_reducible refine ea_cons ?_ | with_reducible refine ea_nil ?_
  | with_reducible refine bo_eqI ?_ | with_reducible refine bo_neI ?_ | with_reducible refine bo_eqS ?_ | with_reducible refine bo_neS ?_ | with_reducible refine bo_eqB ?_ | with_reducible refine bo_neB ?_
  | with_reducible refine isi_str ?_ | with_reducible refine ca_intB ?_ | with_reducible refine ca_int ?_ | with_reducible refine ca_max2 ?_ | with_reducible refine ca_min2 ?_
  | with_reducible refine sw_if ?_ | with_reducible refine sw_ret ?_ | with_reducible refine sw_drop ?_ | with_reducible refine sw_setL ?_ | with_reducible refine sw_next ?_ | with_reducible refine sw_par ?_ | with_reducible refine ev_neg ?_ | with_reducible refine ev_mkF ?_ | with_reducible refine ev_inv ?_ | with_reducible refine ev_prpF ?_ | with_reducible refine ta_fld ?_ | with_reducible refine ta_name ?_ | (with_reducible refine' ta_tup ?hl ?_); (case hl => rfl) | with_reducible refine tas_cons ?_ | with_reducible refine tas_nil ?_
  | with_reducible refine et_ifE ?_ | with_reducible refine ev_orV ?_ | with_reducible refine ev_andV ?_ | with_reducible refine ev_notV ?_ | with_reducible refine et_or ?_ | with_reducible refine et_and ?_ | with_reducible refine sw_asgA ?_ | with_reducible refine sw_asg2 ?_ | with_reducible refine sw_asg3 ?_ | with_reducible refine sw_fld ?_ | with_reducible refine et_test ?_ | with_reducible refine et_B ?_ | with_reducible refine ⟨_, rfl, ?_⟩ | with_reducible refine et_not ?_ | with_reducible refine ev_if ?_
  | (with_reducible refine' bo_ixL ?h1 ?h2 ?_); (case h1 => walk_at "vl"); (case h2 => rfl) | (with_reducible refine' bo_ixT ?h2 ?_); (case h2 => rfl) | with_reducible refine ev_call ?_ | (with_reducible refine' ev_fmF ?hz ?_; case hz => assumption) | with_reducible refine ev_fld ?_
  | with_reducible refine ⟨_, _, rfl, FldF.kind _, ?_⟩ | with_reducible refine ⟨_, _, rfl, FldF.parts _, ?_⟩ | with_reducible refine ⟨_, _, rfl, FldF.many _, ?_⟩ | with_reducible refine ⟨_, _, rfl, FldF.deep _, ?_⟩ | with_reducible refine ⟨_, _, rfl, FldF.atoms _, ?_⟩ | with_reducible refine ⟨_, _, rfl, FldF.bare _, ?_⟩ | with_reducible refine ⟨_, _, rfl, FldF.spell _, ?_⟩ | with_reducible refine ⟨_, _, rfl, FldF.alls _, ?_⟩
  | ((with_reducible refine' ⟨len_ok ?hl, ?_⟩); (case hl => exact Nat.le_of_ble_eq_true rfl))
  | (with_reducible refine' bo_I ?h1 ?_); (case h1 => walk_at "nc"))
local macro_rules | `(tactic| walk_at "st") => `(tactic| repeat walk_at "s1")
theorem c_law_draw {f : Addr} {fd : FuncData} (hm : mg "_law_draw" = some (.ref f)) (B : Blt mg) (Fn : Fun K "_law_draw" "_law_draw" s_law_draw f fd) : Cal P w K mg base 1 "_law_draw" (spN F ⟨K, cl⟩ S_draw) [] := by
  refine calD hm Fn sc_law_draw (by rintro ds W post ⟨a, l, cells, s, c, n, rfl, _⟩; rfl) (fun _ _ _ _ _ _ us hl => match us, hl with | [_, _], _ => rfl) fun cdv A outer s H E hr => ⟨_, pss_cons (ps_asg (pe_op op_add (pe_ix ix_list (pv 0) pe_int (fun _ _ => rfl)) pe_int) (pg_sub (pv 0) pe_int set_list))
 (pss_cons (ps_set (i := 2) sc_law_draw.nd rfl (Or.inl rfl) (pe_op op_add (pe_ix ix_list (pv 0) pe_int (fun _ _ => rfl)) (pe_op op_mul (pe_op op_mul pe_int (pe_ix ix_list (pv 0) pe_int (fun _ _ => rfl))) (pe_ix ix_list (pv 0) pe_int (fun _ _ => rfl)))))
 (pss_cons (ps_if (pt_cmpR (op_neD hr.units) (pe_ix ix_list (pv 0) pe_int (fun _ _ => rfl)) (pe_lst pa_nil) (nomark _)) (pss_cons (ps_set (i := 3) sc_law_draw.nd rfl (Or.inl rfl) (pe_bm0 PySem.F.plainAttrs_list PySem.F.slot_list_pop PySem.F.type_list_pop mt_pop (pe_ix ix_list (pv 0) pe_int (fun _ _ => rfl))))
 (pss_cons (ps_if (pt_cmpR op_ge (pv 3) (pe_op op_pow pe_int pe_int) (nomark _)) (pss_cons (ps_expr (pe_bm PySem.F.plainAttrs_list PySem.F.slot_list_append PySem.F.type_list_append mt_append (pe_ix ix_list (pv 0) pe_int (fun _ _ => rfl)) (pa_cons (pe_op op_fdiv (pv 3) (pv 1)) pa_nil)))
 (pss_one (ps_ret (pe_op op_mod (pe_callTy call_int1 (by rfl) B.int bt_int (pa_cons (pv 3) pa_nil)) (pv 1))))) (pss_nil))
 (pss_one (ps_set (i := 2) sc_law_draw.nd rfl (Or.inl rfl) (pe_op op_add (pv 2) (pe_op op_mod (pe_callTy call_int1 (by rfl) B.int bt_int (pa_cons (pv 3) pa_nil)) pe_int)))))) (pss_nil))
 (pss_cons (ps_set (i := 2) sc_law_draw.nd rfl (Or.inl rfl) (pe_op op_mod (pe_callTy call_int1 (by rfl) B.int bt_int (pa_cons (pe_op op_add (pe_op op_mul (pv 2) pe_int) pe_int) pa_nil)) pe_int))
 (pss_cons (ps_set (i := 2) sc_law_draw.nd rfl (Or.inl rfl) (pe_op op_mod (pe_callTy call_int1 (by rfl) B.int bt_int (pa_cons (pe_op op_add (pe_op op_add (pe_op op_mul (pv 2) (pv 2)) (pe_op op_mul pe_int (pe_ix ix_list (pv 0) pe_int (fun _ _ => rfl)))) pe_int) pa_nil)) pe_int))
 (pss_one (ps_ret (pe_op op_mod (pe_op op_fdiv (pe_op op_mod (pe_callTy call_int1 (by rfl) B.int bt_int (pa_cons (pe_op op_mul (pv 2) pe_int) pa_nil)) pe_int) pe_int) (pv 1)))))))), ?_⟩
  rintro ds W post ⟨a, l, cells, s, c, n, rfl, rfl, n0, n1, hl, c0, c1, k⟩
  dsimp only [cxOf, Cx.nox, Cx.wish]
  walk_at "st"
  refine ⟨a, _, 2, 2, [], _, rfl, rfl, rfl, rfl, ?_⟩
  walk_at "st"
  refine bo_neD (vp_ints (by walk_at "vl")) vp_nil (shaped_ints cells) rfl ⟨_, rfl, ?_⟩
  rw [eqv_nil]
  rcases List.eq_nil_or_concat cells with e | ⟨init, x, e⟩
  · subst e
    refine if_not rfl ?_
    walk_at "st"
    refine k _ _ _ (Int.emod_nonneg _ (by omega)) (Int.emod_lt_of_pos _ n0) hl
  · subst e
    refine if_so (by simp) ?_
    refine sw_seq (sw_set (ev_pop ?_))
    walk_at "st"
    refine ⟨l, init.map D.int, [(a, .lst [.adr l, .int s, .int (c + 1)])], [], .int x, rfl, by simp, ?_⟩
    walk_at "st"
    refine if_dec (fun hx => ?_) (fun hx => ?_)
    · refine sw_seq (sw_drop (ev_append ?_))
      walk_at "st"
      refine ⟨l, init.map D.int, [_], [], rfl, rfl, ?_⟩
      walk_at "st"
      refine ⟨init.map D.int, [_], [], _, rfl, rfl, ?_, ?_⟩
      · have := sizeLine_eq
        simp at hl ⊢
        omega
      walk_at "st"
      have := k (x % n) s (init ++ [x / n]) (Int.emod_nonneg _ (by omega)) (Int.emod_lt_of_pos _ n0) (by simp at hl ⊢; omega)
      rw [deckW, List.map_append] at this
      exact this
    · walk_at "st"
      refine k _ _ _ (Int.emod_nonneg _ (by omega)) (Int.emod_lt_of_pos _ n0) (by simp at hl ⊢; omega)
theorem c_law_deck {f : Addr} {fd : FuncData} (hm : mg "_law_deck" = some (.ref f)) (B : Blt mg) (Fn : Fun K "_law_deck" "_law_deck" s_law_deck f fd) : Cal P w K mg base 1 "_law_deck" (spN F ⟨K, cl⟩ S_deck) [] := by
  refine calD hm Fn sc_law_deck (by rintro ds W post ⟨ns, rfl, _⟩; rfl) (fun _ _ _ _ _ _ us hl => match us, hl with | [_], _ => rfl) fun cdv A outer s H E hr => ⟨_, pss_cons (ps_par (i := 1) (j := 2) (by rfl) sc_law_deck.nd rfl rfl (by decide) rfl rfl (pa_cons (pe_callTy call_list_of (by rfl) B.list bt_list (pa_cons (pe_slice sl_list (pv 0) po_none (po_some pe_int)) pa_nil)) (pa_cons pe_int pa_nil)) (by rfl))
 (pss_cons (ps_for PassesOwn.never rfl (pi_list (pv 1)) (pg_name (i := 3) sc_law_deck.nd rfl (Or.inl rfl)) (pss_one (ps_set (i := 2) sc_law_deck.nd rfl (Or.inl rfl) (pe_op op_mod (pe_callTy call_int1 (by rfl) B.int bt_int (pa_cons (pe_op op_add (pe_op op_add (pe_op op_mul (pv 2) pe_int) (pe_op op_mod (pe_callTy call_int1 (by rfl) B.int bt_int (pa_cons (pv 3) pa_nil)) pe_int)) pe_int) pa_nil)) pe_int))))
 (pss_one (ps_ret (pe_lst (pa_cons (pe_revL (pv 1)) (pa_cons (pv 2) (pa_cons pe_int pa_nil))))))), ?_⟩
  rintro ds W post ⟨ns, rfl, rfl, hl, k⟩
  try dsimp only [cxOf, Cx.nox, Cx.wish]
  walk_at "st"
  refine ev_sl ?_
  walk_at "st"
  refine eo_none (eo_some ?_)
  walk_at "st"
  refine ca_slL (.inl rfl) fun p hp => ?_
  rw [cut63 (by simpa using hl)]
  walk_at "st"
  refine ca_list (.inl (.inr ⟨p, rfl, List.mem_cons_self⟩)) fun p2 hp2 => ?_
  walk_at "st"
  refine ⟨_, _, rfl, ?_⟩
  refine sw_fz (i := 1) (a := p2) rfl (List.Perm.refl _) (.lst _) ?_
  walk_at "st"
  refine sw_for (ei_list ?_)
  walk_at "st"
  refine ⟨fun i G W => W = [(p, .lst (ns.map D.int))] ∧ ∃ (st : Int) (o : Option D), 0 ≤ st ∧ st < 2147483648 ∧ G = [some (.lst (ns.map D.int)), some (.lst (ns.map D.int)), some (.int st), o], ⟨rfl, _, _, by omega, by omega, rfl⟩, ?_, ?_⟩
  · rintro i d G' W' hd ⟨rfl, st, o, h0, h1, rfl⟩
    rw [List.getElem?_map] at hd
    obtain ⟨z, hz, e⟩ := Option.map_eq_some_iff.mp hd
    subst e
    refine tg_name ?_
    walk_at "st"
    exact ⟨rfl, _, _, Int.emod_nonneg _ (by omega), Int.lt_of_lt_of_le (Int.emod_lt_of_pos _ (by omega)) (by omega), rfl⟩
  · rintro G' W' ⟨rfl, st, o, h0, h1, rfl⟩
    refine sw_ret (ev_drp (ev_lst (ea_cons (ev_revL ?_))))
    walk_at "st"
    refine ⟨_, .inl rfl, fun p3 hp3 => ?_⟩
    walk_at "st"
    refine fun p4 hp4 => ⟨deckW p4 p3 ns.reverse st 0, ?_, k p4 p3 ns.reverse st (by simpa using Nat.le_succ_of_le hl)⟩
    rw [deckW, List.map_reverse]
    exact (List.nil_sublist _).cons_cons _ |>.cons_cons _
theorem c_law_below {f : Addr} {fd : FuncData} (hm : mg "_law_below" = some (.ref f)) (B : Blt mg) (Fn : Fun K "_law_below" "_law_below" s_law_below f fd)
    (c_no : Cal P w K mg base 4 "no" (spN FK ⟨K, cl⟩ S_no) []) (c_every : Cal P w K mg base 4 "every" (spN FK ⟨K, cl⟩ S_every) []) : Cal P w K mg base 5 "_law_below" (spN FK ⟨K, cl⟩ S_below) [] := by
  refine calD hm Fn sc_law_below (by rintro ds W post ⟨n, rfl, _⟩; rfl) (fun _ _ _ _ _ _ us hl => match us, hl with | [_], _ => rfl) fun cdv A outer s H E hr => ⟨_, pss_cons (ps_set (i := 1) sc_law_below.nd rfl (Or.inl rfl) (pe_c0 c_no hr (by omega) (by rfl)))
 (pss_cons (ps_for PassesOwn.never rfl (pi_range1 (by rfl) B.range (pa_cons (pv 0) pa_nil)) (pg_name (i := 2) sc_law_below.nd rfl (Or.inl rfl)) (pss_one (ps_set (i := 1) sc_law_below.nd rfl (Or.inl rfl) (pe_c c_every hr (by omega) (by rfl) (pa_cons (pv 1) pa_nil)))))
 (pss_one (ps_ret (pv 1)))), ?_⟩
  rintro ds W post ⟨n, rfl, rfl, hn, k⟩
  try dsimp only [cxOf, Cx.nox, Cx.wish]
  walk_at "st"
  refine hand0 ⟨rfl, rfl, ?_⟩
  walk_at "st"
  refine sw_for (ei_rng1 ?_)
  walk_at "st"
  refine ⟨by omega, by omega, fun i G W => W = [] ∧ ∃ o, G = [some (.int (n : Nat)), some (.fm (Fm.belo i)), o], ⟨rfl, _, rfl⟩, ?_, ?_⟩
  · rintro i d G' W' hd ⟨rfl, o, rfl⟩
    obtain ⟨hi, rfl⟩ := rng_get hd
    refine tg_name ?_
    walk_at "st"
    refine hand0 ⟨_, rfl, rfl, (Fm.good_below (k := i + 1) (by omega)).ok (by omega), ?_⟩
    exact ⟨rfl, _, rfl⟩
  · rintro G' W' ⟨rfl, o, rfl⟩
    rw [rng_len, Int.toNat_natCast]
    walk_at "st"
    exact k
end
end N

set_option Elab.async false
set_option linter.all false
set_option maxRecDepth 100000
namespace N
open PySem PySem.Spec PyProof.Rows L2
open C8 (Cal Met Mak InsC pe_c pe_mt pe_mt0 pe_mk)
abbrev s_law_hand : Stmt := top 39
theorem sc_law_hand : FnScope ["_law_deck_here", "_law_a", "_law_b", "_law_low", "_law_high", "_law_kind", "_law_form"] ["_law_deck_here"] (defScope s_law_hand) := ⟨rfl, rfl, rfl, by decide +kernel, rfl, by decide +kernel, by decide +kernel⟩
section
variable {P : Program} {w : World} {K : PySem.W.Frag} {mg : Str → Option Value} {base : Heap} {cl : Nat → Addr} {dP : Addr} {es : Array DictEntry} {n : Nat}
set_option maxHeartbeats 4000000
local macro_rules | `(tactic| walk_at "vl") => `(tactic| first | exact .inl rfl | exact .inr ⟨_, rfl, List.mem_cons_self⟩ | exact .inr ⟨_, rfl, List.mem_cons_of_mem _ List.mem_cons_self⟩ | exact .inr ⟨_, rfl, List.mem_cons_of_mem _ (List.mem_cons_of_mem _ List.mem_cons_self)⟩ | exact .inr ⟨_, rfl, List.mem_cons_of_mem _ (List.mem_cons_of_mem _ (List.mem_cons_of_mem _ List.mem_cons_self))⟩)
local macro_rules | `(tactic| walk_at "nc") => `(tactic| first | omega | (unfold CMul; omega) | (unfold CDiv; omega) | (unfold CPow; decide) | (show (0 : Int) < _; omega))
local macro_rules | `(tactic| walk_at "s1") => `(tactic| first
  | with_reducible refine sw_seq ?_ | with_reducible refine sw_set ?_ | (with_reducible refine' ev_var ?h ?_); (case h => rfl) | with_reducible refine ev_c ?_ | with_reducible refine ev_op ?_
  | with_reducible refine bo_I0 ?_ | with_reducible refine ev_tup ?_ | with_reducible refine ev_lstF ?_ | with_reducible refine ev_cb ?_ | with_reducible refine ea_cons ?_ | with_reducible refine ea_nil ?_
  | with_reducible refine bo_eqI ?_ | with_reducible refine bo_neI ?_ | with_reducible refine bo_eqS ?_ | with_reducible refine bo_neS ?_ | with_reducible refine bo_eqB ?_ | with_reducible refine bo_neB ?_
  | with_reducible refine isi_str ?_ | with_reducible refine ca_intB ?_ | with_reducible refine ca_int ?_ | with_reducible refine ca_max2 ?_ | with_reducible refine ca_min2 ?_
  | with_reducible refine sw_if ?_ | with_reducible refine sw_ret ?_ | with_reducible refine sw_drop ?_ | with_reducible refine sw_setL ?_ | with_reducible refine sw_next ?_ | with_reducible refine sw_par ?_ | with_reducible refine ev_neg ?_ | with_reducible refine ev_mkF ?_ | with_reducible refine ev_inv ?_ | with_reducible refine ev_prpF ?_ | with_reducible refine ta_fld ?_ | with_reducible refine ta_name ?_ | (with_reducible refine' ta_tup ?hl ?_); (case hl => rfl) | with_reducible refine tas_cons ?_ | with_reducible refine tas_nil ?_
  | with_reducible refine et_ifE ?_ | with_reducible refine ev_orV ?_ | with_reducible refine ev_andV ?_ | with_reducible refine ev_notV ?_ | with_reducible refine et_or ?_ | with_reducible refine et_and ?_ | with_reducible refine sw_asgA ?_ | with_reducible refine sw_asg2 ?_ | with_reducible refine sw_asg3 ?_ | with_reducible refine sw_fld ?_ | with_reducible refine et_test ?_ | with_reducible refine et_B ?_ | with_reducible refine ⟨_, rfl, ?_⟩ | with_reducible refine et_not ?_ | with_reducible refine ev_if ?_
  | (with_reducible refine' bo_ixL ?h1 ?h2 ?_); (case h1 => walk_at "vl"); (case h2 => rfl) | (with_reducible refine' bo_ixT ?h2 ?_); (case h2 => rfl) | with_reducible refine ev_call ?_ | (with_reducible refine' ev_fmF ?hz ?_; case hz => assumption) | with_reducible refine ev_fld ?_
  | with_reducible refine ⟨_, _, rfl, FldF.kind _, ?_⟩ | with_reducible refine ⟨_, _, rfl, FldF.parts _, ?_⟩ | with_reducible refine ⟨_, _, rfl, FldF.many _, ?_⟩ | with_reducible refine ⟨_, _, rfl, FldF.deep _, ?_⟩ | with_reducible refine ⟨_, _, rfl, FldF.atoms _, ?_⟩ | with_reducible refine ⟨_, _, rfl, FldF.bare _, ?_⟩ | with_reducible refine ⟨_, _, rfl, FldF.spell _, ?_⟩ | with_reducible refine ⟨_, _, rfl, FldF.alls _, ?_⟩
  | ((with_reducible refine' ⟨len_ok ?hl, ?_⟩); (case hl => exact Nat.le_of_ble_eq_true rfl))
  | (with_reducible refine' bo_I ?h1 ?_); (case h1 => walk_at "nc"))
local macro_rules | `(tactic| walk_at "st") => `(tactic| repeat walk_at "s1")
theorem c_law_hand {f : Addr} {fd : FuncData} (hm : mg "_law_hand" = some (.ref f)) (B : Blt mg) (Z : ZF K w mg (cl 0) dP es n) (Fn : Fun K "_law_hand" "_law_hand" s_law_hand f fd)
    (c_law_draw : Cal P w K mg base 1 "_law_draw" (spN FK ⟨K, cl⟩ S_draw) []) (c_law_below : Cal P w K mg base 5 "_law_below" (spN FK ⟨K, cl⟩ S_below) []) (c_every : Cal P w K mg base 4 "every" (spN FK ⟨K, cl⟩ S_every) [])
    (o_inv : Opn P w K mg base 5 (cl 0) "__invert__" (spN FK ⟨K, cl⟩ S_inv)) (o_and : Opn P w K mg base 7 (cl 0) "__and__" (spN FK ⟨K, cl⟩ S_and)) (o_or : Opn P w K mg base 7 (cl 0) "__or__" (spN FK ⟨K, cl⟩ S_or)) (o_shr : Opn P w K mg base 4 (cl 0) "__rshift__" (spN FK ⟨K, cl⟩ S_shr)) :
    Cal P w K mg base 8 "_law_hand" (spN FK ⟨K, cl⟩ S_hand) [] := by
  have fz := Z.fz
  refine calD hm Fn sc_law_hand (by rintro ds W post ⟨a, l, cells, s, c, rfl, _⟩; rfl) (fun _ _ _ _ _ _ us hl => match us, hl with | [_], _ => rfl) fun cdv A outer s H E hr => ⟨_, pss_cons (ps_par (i := 1) (j := 2) (by rfl) sc_law_hand.nd rfl rfl (by decide) rfl rfl (pa_cons (pe_c c_law_draw hr (by omega) (by rfl) (pa_cons (pv 0) (pa_cons pe_int pa_nil))) (pa_cons (pe_c c_law_draw hr (by omega) (by rfl) (pa_cons (pv 0) (pa_cons pe_int pa_nil))) pa_nil)) (by rfl))
 (pss_cons (ps_par (i := 3) (j := 4) (by rfl) sc_law_hand.nd rfl rfl (by decide) rfl rfl (pa_cons (pe_callB (call_min2 rfl) (by rfl) B.min bt_min (pa_cons (pv 1) (pa_cons (pv 2) pa_nil))) (pa_cons (pe_callB (call_max2 rfl) (by rfl) B.max bt_max (pa_cons (pv 1) (pa_cons (pv 2) pa_nil))) pa_nil)) (by rfl))
 (pss_cons (ps_set (i := 5) sc_law_hand.nd rfl (Or.inl rfl) (pe_c c_law_draw hr (by omega) (by rfl) (pa_cons (pv 0) (pa_cons pe_int pa_nil))))
 (pss_cons (ps_if (pt_cmpR op_eq (pv 5) pe_int (nomark _)) (pss_one (ps_ret (pe_tup (pa_cons (pe_c c_law_below hr (by omega) (by rfl) (pa_cons (pv 4) pa_nil)) (pa_cons (pe_listRg (by rfl) (by rfl) B.list (prg_1 (by rfl) B.range (pv 4))) (pa_cons pe_bl pa_nil)))))) (pss_nil))
 (pss_cons (ps_if (pt_cmpR op_eq (pv 5) pe_int (nomark _)) (pss_one (ps_ret (pe_tup (pa_cons (pe_un (un_opn o_inv hr (by omega)) (pe_c c_law_below hr (by omega) (by rfl) (pa_cons (pv 4) pa_nil))) (pa_cons (pe_listRg (by rfl) (by rfl) B.list (prg_2 (by rfl) B.range (pv 4) pe_int)) (pa_cons pe_bl pa_nil)))))) (pss_nil))
 (pss_cons (ps_if (pt_cmpR op_eq (pv 5) pe_int (nomark _)) (pss_one (ps_ret (pe_tup (pa_cons (pe_op (op_opn o_and hr (by omega) fz.sf) (pe_c c_law_below hr (by omega) (by rfl) (pa_cons (pv 4) pa_nil)) (pe_un (un_opn o_inv hr (by omega)) (pe_c c_law_below hr (by omega) (by rfl) (pa_cons (pv 3) pa_nil)))) (pa_cons (pe_listRg (by rfl) (by rfl) B.list (prg_2 (by rfl) B.range (pv 3) (pv 4))) (pa_cons pe_bl pa_nil)))))) (pss_nil))
 (pss_cons (ps_if (pt_cmpR op_eq (pv 5) pe_int (nomark _)) (pss_one (ps_ret (pe_tup (pa_cons (pe_op (op_opn o_shr hr (by omega) fz.sf) (pe_c c_law_below hr (by omega) (by rfl) (pa_cons (pv 4) pa_nil)) (pe_c c_law_below hr (by omega) (by rfl) (pa_cons (pv 3) pa_nil))) (pa_cons (pe_op op_cat (pe_listRg (by rfl) (by rfl) B.list (prg_1 (by rfl) B.range (pv 3))) (pe_listRg (by rfl) (by rfl) B.list (prg_2 (by rfl) B.range (pv 4) pe_int))) (pa_cons pe_bl pa_nil)))))) (pss_nil))
 (pss_cons (ps_if (pt_cmpR op_eq (pv 5) pe_int (nomark _)) (pss_cons (ps_set (i := 6) sc_law_hand.nd rfl (Or.inl rfl) (pe_op (op_opn o_or hr (by omega) fz.sf) (pe_op (op_opn o_and hr (by omega) fz.sf) (pe_c c_law_below hr (by omega) (by rfl) (pa_cons (pe_op op_add (pv 3) pe_int) pa_nil)) (pe_un (un_opn o_inv hr (by omega)) (pe_c c_law_below hr (by omega) (by rfl) (pa_cons (pv 3) pa_nil)))) (pe_un (un_opn o_inv hr (by omega)) (pe_c c_law_below hr (by omega) (by rfl) (pa_cons (pv 4) pa_nil)))))
 (pss_one (ps_ret (pe_tup (pa_cons (pv 6) (pa_cons (pe_callB (cr_sortedSet rfl) (by rfl) B.sorted bt_sorted (pa_cons (pe_callTy (cr_setI rfl) (by rfl) B.set bt_set (pa_cons (pe_op op_cat (pe_lst (pa_cons (pv 3) pa_nil)) (pe_listRg (by rfl) (by rfl) B.list (prg_2 (by rfl) B.range (pv 4) pe_int))) pa_nil)) pa_nil)) (pa_cons pe_bl pa_nil))))))) (pss_nil))
 (pss_one (ps_ret (pe_tup (pa_cons (pe_c c_every hr (by omega) (by rfl) (pa_cons (pe_c c_law_below hr (by omega) (by rfl) (pa_cons (pv 3) pa_nil)) pa_nil)) (pa_cons (pe_listRg (by rfl) (by rfl) B.list (prg_1 (by rfl) B.range (pe_op op_add (pv 3) pe_int))) (pa_cons pe_bl pa_nil))))))))))))), ?_⟩
  rintro ds W post ⟨a, l, cells, s, c, rfl, rfl, hl, h0, h1, k⟩
  try dsimp only [cxOf, Cx.nox, Cx.wish]
  walk_at "st"
  refine handA ⟨a, l, cells, s, c, 39, rfl, rfl, by omega, by omega, hl, h0, by omega, fun z1 s1 cells1 p1 q1 hl1 => ?_⟩
  walk_at "st"
  refine handA ⟨a, l, cells1, s1, c + 1, 39, rfl, rfl, by omega, by omega, hl1, by omega, by omega, fun z2 s2 cells2 p2 q2 hl2 => ?_⟩
  walk_at "st"
  refine ⟨_, _, rfl, ?_⟩
  obtain ⟨n1, rfl⟩ := Int.eq_ofNat_of_zero_le p1
  obtain ⟨n2, rfl⟩ := Int.eq_ofNat_of_zero_le p2
  walk_at "st"
  rw [min_int, max_int]
  have hlh : min n1 n2 ≤ max n1 n2 := by omega
  have hh : max n1 n2 ≤ 38 := by omega
  generalize min n1 n2 = lo at *
  generalize max n1 n2 = hi at *
  refine ⟨_, _, rfl, ?_⟩
  walk_at "st"
  refine handA ⟨a, l, cells2, s2, c + 1 + 1, 6, rfl, rfl, by omega, by omega, hl2, by omega, by omega, fun z3 s3 cells3 p3 q3 hl3 => ?_⟩
  have k := fun (f : Fm) (spots : List Int) (rest : Bool) (h : Told f spots rest) => k f spots rest s3 (c + 1 + 1 + 1) cells3 h hl3 (by omega) (by omega)
  have h16 := sizeLine_eq
  walk_at "st"
  refine if_dec (fun e0 => ?_) (fun e0 => ?_)
  · walk_at "st"
    refine hand0 ⟨hi, rfl, rfl, by omega, ?_⟩
    walk_at "st"
    refine ev_listRg1F ?_
    walk_at "st"
    refine ⟨RgOk.of_le (by omega) (by omega) (by omega) (by omega), ?_⟩
    walk_at "st"
    exact k _ _ _ (told0 hh)
  walk_at "st"
  refine if_dec (fun e1 => ?_) (fun e1 => ?_)
  · walk_at "st"
    refine hand0 ⟨hi, rfl, rfl, by omega, ?_⟩
    walk_at "st"
    refine hand0 ⟨_, rfl, rfl, (Fm.good_neg (Fm.good_below (k := hi) (by omega))).ok (by omega), ?_⟩
    walk_at "st"
    refine ev_listRg2F ?_
    walk_at "st"
    refine ⟨_, _, rfl, rfl, RgOk.of_le (by omega) (by omega) (by omega) (by omega), ?_⟩
    walk_at "st"
    exact k _ _ _ (told1 hh)
  walk_at "st"
  have gl := Fm.good_below (k := lo) (by omega)
  have gl1 := Fm.good_below (k := lo + 1) (by omega)
  have gh := Fm.good_below (k := hi) (by omega)
  refine if_dec (fun e2 => ?_) (fun e2 => ?_)
  · walk_at "st"
    refine hand0 ⟨hi, rfl, rfl, by omega, ?_⟩
    walk_at "st"
    refine hand0 ⟨lo, rfl, rfl, by omega, ?_⟩
    walk_at "st"
    refine hand0 ⟨_, rfl, rfl, (Fm.good_neg gl).ok (by omega), ?_⟩
    walk_at "st"
    refine bo_fm2 (hand0 ⟨_, _, rfl, rfl, (Fm.good_conj gh (Fm.good_neg gl)).ok (by omega), ?_⟩)
    walk_at "st"
    refine ev_listRg2F ?_
    walk_at "st"
    refine ⟨_, _, rfl, rfl, RgOk.of_le (by omega) (by omega) (by omega) (by omega), ?_⟩
    walk_at "st"
    exact k _ _ _ (told2 hlh hh)
  walk_at "st"
  refine if_dec (fun e3 => ?_) (fun e3 => ?_)
  · walk_at "st"
    refine hand0 ⟨hi, rfl, rfl, by omega, ?_⟩
    walk_at "st"
    refine hand0 ⟨lo, rfl, rfl, by omega, ?_⟩
    walk_at "st"
    refine bo_fm2 (hand0 ⟨_, _, rfl, rfl, (Fm.good_imp gh gl).ok (by omega), ?_⟩)
    refine ea_cons (ev_drp (ev_fz (ev_op (ev_listRg1 ?_))))
    walk_at "st"
    refine ⟨RgOk.of_le (by omega) (by omega) (by omega) (by omega), fun p hp => ?_⟩
    refine ev_listRg2 ?_
    walk_at "st"
    refine ⟨_, _, rfl, rfl, RgOk.of_le (by omega) (by omega) (by omega) (by omega), fun q hq => ?_⟩
    rw [rgV_spots, rgV_spots]
    refine bo_catO (List.mem_cons_of_mem _ List.mem_cons_self) List.mem_cons_self (by simp [len_spotsR]; omega) fun z hz => ⟨z, _, _, _, rfl, List.Perm.refl _, .lst _, _, (List.sublist_cons_self _ _).trans (List.sublist_cons_self _ _), ?_⟩
    rw [← List.map_append]
    walk_at "st"
    exact k _ _ _ (told3 hlh hh)
  walk_at "st"
  refine if_dec (fun e4 => ?_) (fun e4 => ?_)
  · walk_at "st"
    refine hand0 ⟨lo + 1, rfl, rfl, by omega, ?_⟩
    walk_at "st"
    refine hand0 ⟨lo, rfl, rfl, by omega, ?_⟩
    walk_at "st"
    refine hand0 ⟨_, rfl, rfl, (Fm.good_neg gl).ok (by omega), ?_⟩
    walk_at "st"
    refine bo_fm2 (hand0 ⟨_, _, rfl, rfl, (Fm.good_conj gl1 (Fm.good_neg gl)).ok (by omega), ?_⟩)
    walk_at "st"
    refine hand0 ⟨hi, rfl, rfl, by omega, ?_⟩
    walk_at "st"
    refine hand0 ⟨_, rfl, rfl, (Fm.good_neg gh).ok (by omega), ?_⟩
    walk_at "st"
    refine bo_fm2 (hand0 ⟨_, _, rfl, rfl, (Fm.good_disj (Fm.good_conj gl1 (Fm.good_neg gl)) (Fm.good_neg gh)).ok (by omega), ?_⟩)
    refine sw_ret (ev_tup (ea_cons ?_))
    refine ev_var rfl ?_
    refine ea_cons (ev_drp (ev_fz (ev_cb (ea_cons (ev_cb (ea_cons (ev_op (ev_lst (ea_cons ?_)))))))))
    walk_at "st"
    refine fun p hp => ?_
    refine ev_listRg2 ?_
    walk_at "st"
    refine ⟨_, _, rfl, rfl, RgOk.of_le (by omega) (by omega) (by omega) (by omega), fun q hq => ?_⟩
    rw [rgV_spots]
    refine bo_catO (List.mem_cons_of_mem _ List.mem_cons_self) List.mem_cons_self (by simp [len_spotsR]; omega) fun z hz => ?_
    have hlz : ((lo : Int) :: spotsR hi 40).length < 64 := by simp [len_spotsR]; omega
    walk_at "st"
    refine ca_setI (ns := (lo : Int) :: spotsR hi 40) (.inr ⟨z, rfl, List.mem_cons_self⟩) hlz fun p2 c2 hp2 hc2 => ?_
    walk_at "st"
    refine ca_sortedI List.mem_cons_self (by omega) fun ns q2 hq2 hsrt hmem hln => ?_
    refine ⟨q2, _, _, _, rfl, List.Perm.refl _, .lst _, _, (List.sublist_cons_self _ _).trans ((List.sublist_cons_self _ _).trans ((List.sublist_cons_self _ _).trans (List.sublist_cons_self _ _))), ?_⟩
    walk_at "st"
    refine k _ _ _ (told4 hlh hh (fun k => (hmem k).trans (by simp)) (by omega))
  walk_at "st"
  refine hand0 ⟨lo, rfl, rfl, by omega, ?_⟩
  walk_at "st"
  refine hand0 ⟨_, rfl, rfl, gl1.ok (by omega), ?_⟩
  walk_at "st"
  refine ev_listRg1F ?_
  walk_at "st"
  refine ⟨RgOk.of_le (by omega) (by omega) (by omega) (by omega), ?_⟩
  walk_at "st"
  exact k _ _ _ (told5 (by omega))
end
end N

set_option Elab.async false
set_option linter.all false
set_option maxRecDepth 100000
namespace N
open PySem PySem.Spec PyProof.Rows L2
open C8 (Cal Met Mak InsC pe_c pe_mt pe_mt0 pe_mk)
abbrev s_law_right : Stmt := top 40
theorem sc_law_right : FnScope ["_law_deck_here", "_law_form", "_law_spots", "_law_rest", "_law_k", "_law_heights", "_law_lot", "_law_spot", "_law_other", "_law_due"] ["_law_deck_here"] (defScope s_law_right) := ⟨rfl, rfl, rfl, by decide +kernel, rfl, by decide +kernel, by decide +kernel⟩
section
variable {P : Program} {w : World} {K : PySem.W.Frag} {mg : Str → Option Value} {base : Heap} {cl : Nat → Addr} {dP : Addr} {es : Array DictEntry} {n : Nat}
set_option maxHeartbeats 4000000
local macro_rules | `(tactic| walk_at "vl") => `(tactic| first | exact .inl rfl | exact .inr ⟨_, rfl, List.mem_cons_self⟩ | exact .inr ⟨_, rfl, List.mem_cons_of_mem _ List.mem_cons_self⟩ | exact .inr ⟨_, rfl, List.mem_cons_of_mem _ (List.mem_cons_of_mem _ List.mem_cons_self)⟩ | exact .inr ⟨_, rfl, List.mem_cons_of_mem _ (List.mem_cons_of_mem _ (List.mem_cons_of_mem _ List.mem_cons_self))⟩)
local macro_rules | `(tactic| walk_at "nc") => `(tactic| first | omega | (unfold CMul; omega) | (unfold CDiv; omega) | (unfold CPow; decide) | (show (0 : Int) < _; omega))
local macro_rules | `(tactic| walk_at "s1") => `(tactic| first
  | with_reducible refine sw_seq ?_ | with_reducible refine sw_set ?_ | (with_reducible refine' ev_var ?h ?_); (case h => rfl) | with_reducible refine ev_c ?_ | with_reducible refine ev_op ?_
  | with_reducible refine bo_I0 ?_ | with_reducible refine ev_tup ?_ | with_reducible refine ev_lstF ?_ | with_reducible refine ev_cb ?_ | with_reducible refine ea_cons ?_ | with_reducible refine ea_nil ?_
  | with_reducible refine bo_eqI ?_ | with_reducible refine bo_neI ?_ | with_reducible refine bo_eqS ?_ | with_reducible refine bo_neS ?_ | with_reducible refine bo_eqB ?_ | with_reducible refine bo_neB ?_
  | with_reducible refine isi_str ?_ | with_reducible refine ca_intB ?_ | with_reducible refine ca_int ?_ | with_reducible refine ca_max2 ?_ | with_reducible refine ca_min2 ?_
  | with_reducible refine sw_if ?_ | with_reducible refine sw_ret ?_ | with_reducible refine sw_drop ?_ | with_reducible refine sw_setL ?_ | with_reducible refine sw_next ?_ | with_reducible refine sw_par ?_ | with_reducible refine ev_neg ?_ | with_reducible refine ev_mkF ?_ | with_reducible refine ev_inv ?_ | with_reducible refine ev_prpF ?_ | with_reducible refine ta_fld ?_ | with_reducible refine ta_name ?_ | (with_reducible refine' ta_tup ?hl ?_); (case hl => rfl) | with_reducible refine tas_cons ?_ | with_reducible refine tas_nil ?_
  | with_reducible refine et_ifE ?_ | with_reducible refine ev_orV ?_ | with_reducible refine ev_andV ?_ | with_reducible refine ev_notV ?_ | with_reducible refine et_or ?_ | with_reducible refine et_and ?_ | with_reducible refine sw_asgA ?_ | with_reducible refine sw_asg2 ?_ | with_reducible refine sw_asg3 ?_ | with_reducible refine sw_fld ?_ | with_reducible refine et_test ?_ | with_reducible refine et_B ?_ | with_reducible refine ⟨_, rfl, ?_⟩ | with_reducible refine et_not ?_ | with_reducible refine ev_if ?_
  | (with_reducible refine' bo_ixL ?h1 ?h2 ?_); (case h1 => walk_at "vl"); (case h2 => rfl) | (with_reducible refine' bo_ixT ?h2 ?_); (case h2 => rfl) | with_reducible refine ev_call ?_ | (with_reducible refine' ev_fmF ?hz ?_; case hz => assumption) | with_reducible refine ev_fld ?_
  | with_reducible refine ⟨_, _, rfl, FldF.kind _, ?_⟩ | with_reducible refine ⟨_, _, rfl, FldF.parts _, ?_⟩ | with_reducible refine ⟨_, _, rfl, FldF.many _, ?_⟩ | with_reducible refine ⟨_, _, rfl, FldF.deep _, ?_⟩ | with_reducible refine ⟨_, _, rfl, FldF.atoms _, ?_⟩ | with_reducible refine ⟨_, _, rfl, FldF.bare _, ?_⟩ | with_reducible refine ⟨_, _, rfl, FldF.spell _, ?_⟩ | with_reducible refine ⟨_, _, rfl, FldF.alls _, ?_⟩
  | ((with_reducible refine' ⟨len_ok ?hl, ?_⟩); (case hl => exact Nat.le_of_ble_eq_true rfl))
  | (with_reducible refine' bo_I ?h1 ?_); (case h1 => walk_at "nc"))
local macro_rules | `(tactic| walk_at "st") => `(tactic| repeat walk_at "s1")
theorem c_law_right {f : Addr} {fd : FuncData} (hm : mg "_law_right" = some (.ref f)) (B : Blt mg) (Z : ZF K w mg (cl 0) dP es n) (Fn : Fun K "_law_right" "_law_right" s_law_right f fd)
    (c_law_draw : Cal P w K mg base 1 "_law_draw" (spN FK ⟨K, cl⟩ S_draw) []) (c_law_below : Cal P w K mg base 5 "_law_below" (spN FK ⟨K, cl⟩ S_below) []) (c_law_hand : Cal P w K mg base 8 "_law_hand" (spN FK ⟨K, cl⟩ S_hand) [])
    (c_trace : Cal P w K mg base 26 "trace" (spN FK ⟨K, cl⟩ S_trace) []) (k_trace : CalK P w K mg base 26 "trace" ["formula"] (fun _ zs => zs) (spN FK ⟨K, cl⟩ S_trace))
    (c_holds_at : Cal P w K mg base 27 "holds_at" (spN FK ⟨K, cl⟩ S_holds) []) (k_holds_at : CalK P w K mg base 27 "holds_at" ["height", "formula"] (fun _ zs => zs.reverse) (spN FK ⟨K, cl⟩ S_holds))
    (o_inv : Opn P w K mg base 5 (cl 0) "__invert__" (spN FK ⟨K, cl⟩ S_inv)) (o_and : Opn P w K mg base 7 (cl 0) "__and__" (spN FK ⟨K, cl⟩ S_and)) : CalG P w K mg base 28 "_law_right" (spN FK ⟨K, cl⟩ S_right) := by
  have fz := Z.fz
  refine calG hm Fn sc_law_right (by rintro ds W post ⟨a, l, cells, s, c, rfl, _⟩; rfl) (fun _ _ _ _ _ _ us hl => match us, hl with | [_], _ => rfl) fun cdv A outer s H hg hr => ⟨_, pss_cons (ps_asg (pe_c c_law_hand hr (by omega) (by rfl) (pa_cons (pv 0) pa_nil)) (pg_tup (n := 3) rfl (pgs_cons (pg_name (i := 1) sc_law_right.nd rfl (Or.inr rfl)) (pgs_cons (pg_name (i := 2) sc_law_right.nd rfl (Or.inr rfl)) (pgs_cons (pg_name (i := 3) sc_law_right.nd rfl (Or.inr rfl)) pgs_nil)))))
 (pss_cons (ps_set (i := 5) sc_law_right.nd rfl (Or.inl rfl) (pe_callTy call_tuple_of (by rfl) B.tuple bt_tuple (pa_cons (pe_lc (own := [("_law_k", 4)]) (by rfl) sc_law_right.nd (pi_range1 (by rfl) B.range (pa_cons pe_int pa_nil)) (blkOk_by (own := [("_law_k", 4)]) (N := ["_law_deck_here", "_law_form", "_law_spots", "_law_rest", "_law_k", "_law_heights", "_law_lot", "_law_spot", "_law_other", "_law_due"]) (sc := defScope s_law_right) (by decide +kernel)) (fun _ _ _ _ _ => (pg_name (i := 4) sc_law_right.nd rfl (Or.inl rfl))) (fun _ _ _ _ _ => pts_one (pt_cmpR op_ne (pe_cmpR (op_in_seqK (K := K) rfl) (pv 4) (pv 2) rfl) (pv 3) (nomark _))) (fun _ _ _ _ _ => (pv 4))) pa_nil)))
 (pss_cons (ps_if (pt_cmpR op_ne (pe_callB (call_repr_data hg hr.units) (by rfl) B.repr bt_repr (pa_cons (pe_lst (pa_cons (pe_c c_trace hr (by omega) (by rfl) (pa_cons (pv 1) pa_nil)) (pa_cons (pe_ck k_trace hr (by omega) (by rfl) (pk_cons (pv 1) (pk_nil))) pa_nil))) pa_nil)) (pe_callB (call_repr_data hg hr.units) (by rfl) B.repr bt_repr (pa_cons (pe_op op_rep (pe_lst (pa_cons (pe_tup (pa_cons (pv 5) (pa_cons (pv 3) pa_nil))) pa_nil)) pe_int) pa_nil)) (nomark _)) (pss_one (ps_ret pe_bl)) (pss_nil))
 (pss_cons (ps_for PassesOwn.never rfl (pi_range1 (by rfl) B.range (pa_cons pe_int pa_nil)) (pg_name (i := 4) sc_law_right.nd rfl (Or.inl rfl)) (pss_one (ps_if (pt_cmpR op_ne (pe_callB (call_repr_data hg hr.units) (by rfl) B.repr bt_repr (pa_cons (pe_c c_holds_at hr (by omega) (by rfl) (pa_cons (pv 1) (pa_cons (pv 4) pa_nil))) pa_nil)) (pe_callB (call_repr_data hg hr.units) (by rfl) B.repr bt_repr (pa_cons (pe_cmpR op_in_seq (pv 4) (pv 2) rfl) pa_nil)) (nomark _)) (pss_one (ps_ret pe_bl)) (pss_nil))))
 (pss_cons (ps_set (i := 6) sc_law_right.nd rfl (Or.inl rfl) (pe_lst (pa_cons pe_int (pa_cons pe_int (pa_cons (pe_op op_pow pe_int pe_int) (pa_cons (pe_op op_sub (pe_op op_pow pe_int pe_int) pe_int) (pa_cons (pe_op op_add pe_int (pe_c c_law_draw hr (by omega) (by rfl) (pa_cons (pv 0) (pa_cons (pe_op op_sub (pe_op op_pow pe_int pe_int) pe_int) pa_nil)))) (pa_cons (pe_op op_add pe_int (pe_c c_law_draw hr (by omega) (by rfl) (pa_cons (pv 0) (pa_cons (pe_op op_pow pe_int pe_int) pa_nil)))) pa_nil))))))))
 (pss_cons (ps_if (pt_cmpR (op_neD hr.units) (pe_lc (own := [("_law_k", 4)]) (by rfl) sc_law_right.nd (pi_list (pv 6)) (blkOk_by (own := [("_law_k", 4)]) (N := ["_law_deck_here", "_law_form", "_law_spots", "_law_rest", "_law_k", "_law_heights", "_law_lot", "_law_spot", "_law_other", "_law_due"]) (sc := defScope s_law_right) (by decide +kernel)) (fun _ _ _ _ _ => (pg_name (i := 4) sc_law_right.nd rfl (Or.inl rfl))) (fun _ _ _ _ _ => pts_one (pt_cmpR op_ne (pe_callB (call_repr_dataK (K := K) rfl hg hr.units) (by rfl) B.repr bt_repr (pa_cons (pe_ck k_holds_at hr (by omega) (by rfl) (pk_cons (pv 4) (pk_cons (pv 1) (pk_nil)))) pa_nil)) (pe_callB (call_repr_dataK (K := K) rfl hg hr.units) (by rfl) B.repr bt_repr (pa_cons (pv 3) pa_nil)) (nomark _))) (fun _ _ _ _ _ => (pv 4))) (pe_lst pa_nil) (nomark _)) (pss_one (ps_ret pe_bl)) (pss_nil))
 (pss_cons (ps_set (i := 7) sc_law_right.nd rfl (Or.inr rfl) (pe_c c_law_draw hr (by omega) (by rfl) (pa_cons (pv 0) (pa_cons pe_int pa_nil))))
 (pss_cons (ps_set (i := 8) sc_law_right.nd rfl (Or.inl rfl) (pe_op (op_opn o_and hr (by omega) fz.sf) (pv 1) (pe_un (un_opn o_inv hr (by omega)) (pe_op (op_opn o_and hr (by omega) fz.sf) (pe_c c_law_below hr (by omega) (by rfl) (pa_cons (pe_op op_add (pv 7) pe_int) pa_nil)) (pe_un (un_opn o_inv hr (by omega)) (pe_c c_law_below hr (by omega) (by rfl) (pa_cons (pv 7) pa_nil)))))))
 (pss_cons (ps_set (i := 9) sc_law_right.nd rfl (Or.inl rfl) (pe_callTy call_tuple_of (by rfl) B.tuple bt_tuple (pa_cons (pe_lc (own := [("_law_k", 4)]) (by rfl) sc_law_right.nd (pi_range1 (by rfl) B.range (pa_cons pe_int pa_nil)) (blkOk_by (own := [("_law_k", 4)]) (N := ["_law_deck_here", "_law_form", "_law_spots", "_law_rest", "_law_k", "_law_heights", "_law_lot", "_law_spot", "_law_other", "_law_due"]) (sc := defScope s_law_right) (by decide +kernel)) (fun _ _ _ _ _ => (pg_name (i := 4) sc_law_right.nd rfl (Or.inl rfl))) (fun _ _ _ _ _ => pts_one (pt_cmpR op_ne (pe_and (pe_cmpR (op_in_seqK (K := K) rfl) (pv 4) (pv 2) rfl) (pe_one (pe_cmpR op_ne (pv 4) (pv 7) (nomark _)))) (pv 3) (nomark _))) (fun _ _ _ _ _ => (pv 4))) pa_nil)))
 (pss_one (ps_ret (pe_and (pe_cmpR op_eq (pe_callB (call_repr_data hg hr.units) (by rfl) B.repr bt_repr (pa_cons (pe_c c_trace hr (by omega) (by rfl) (pa_cons (pv 8) pa_nil)) pa_nil)) (pe_callB (call_repr_data hg hr.units) (by rfl) B.repr bt_repr (pa_cons (pe_tup (pa_cons (pv 9) (pa_cons (pv 3) pa_nil))) pa_nil)) (nomark _)) (pe_one (pe_cmpR op_isBl (pe_c c_holds_at hr (by omega) (by rfl) (pa_cons (pv 8) (pa_cons (pv 7) pa_nil))) pe_bl (nomark _)))))))))))))), ?_⟩
  rintro ds W post ⟨a, l, cells, s, c, rfl, rfl, hl, h0, h1, k⟩
  try dsimp only [cxOf, Cx.nox, Cx.wish]
  have h16 := sizeLine_eq
  walk_at "st"
  refine handA ⟨a, l, cells, s, c, rfl, rfl, hl, h0, by omega, fun f spots rest s1 c1 cells1 ht hl1 hc0 hc1 => ?_⟩
  walk_at "st"
  have hq := ht.at_
  refine ev_lc (ei_rng1 ?_)
  walk_at "st"
  refine ⟨by omega, by omega, fun i acc W' => W' = deckW a l cells1 s1 c1 ∧ acc = (dueOf (fun j => decide ((j : Int) ∈ spots)) rest i).map (fun j : Nat => D.int (j : Nat)), ⟨rfl, rfl⟩, ?_, ?_⟩
  · rintro i d acc W' hd ⟨rfl, rfl⟩
    obtain ⟨hi, rfl⟩ := rng_get hd
    rw [Int.zero_add]
    refine tw_name (by simp) ?_
    walk_at "st"
    refine bo_in (neg := false) (xs := spots.map V.int) (.inl (.inl (by rw [List.map_map]; rfl))) rfl (flat_ints _) ?_
    rw [if_neg (by decide), inV_int]
    walk_at "st"
    refine if_ndec (fun e => ?_) (fun e => ?_)
    · walk_at "st"
      refine ⟨?_, rfl, ?_⟩
      · have := List.length_filter_le (fun j : Nat => decide ((j : Int) ∈ spots) != rest) (List.range i)
        unfold dueOf
        simp at this hi ⊢
        omega
      · rw [due_succ, if_pos (by simpa using e), List.map_append]
        rfl
    · refine ⟨rfl, ?_⟩
      rw [due_succ, if_neg (by simpa using e), List.append_nil]
  rintro acc W' ⟨rfl, rfl⟩ p hp
  walk_at "st"
  refine ca_drp (ca_tup (.inr ⟨p, rfl, List.mem_cons_self⟩) ⟨_, List.sublist_cons_self _ _, ?_⟩)
  rw [show (rng 0 (40 : Int).toNat).length = 40 from by rw [rng_len]; rfl]
  walk_at "st"
  have hok := ht.good.ok (by omega)
  have hfl := ht.good.flat (by omega)
  generalize hQ : (fun j : Nat => decide ((j : Int) ∈ spots)) = q at *
  have hq : ∀ n : Nat, f.hAt n = if n < 40 then q n else rest := fun n => by rw [← hQ]; exact hq n
  have hans : (dueOf q rest 40).map (fun j : Nat => D.int (j : Nat)) = ((dueOf q rest 40).map (fun j : Nat => (j : Int))).map D.int := by rw [List.map_map]; rfl
  rw [hans]
  refine hand0 ⟨f, rfl, rfl, hok, hfl, fun m hm hs => ?_⟩
  obtain ⟨e1, e2⟩ := hs_due hq hs
  rw [e1, e2]
  walk_at "st"
  refine ev_ck ?_
  walk_at "st"
  refine ⟨rfl, [.fm f], fun H zs k => k, hand0 ⟨f, rfl, rfl, hok, hfl, fun m2 hm2 hs2 => ?_⟩⟩
  obtain ⟨e3, e4⟩ := hs_due hq hs2
  rw [e3, e4]
  walk_at "st"
  refine ca_repr (p := .list [ansP q rest, ansP q rest]) (.inl (pd_lst (pdL_cons (ans_pd q rest) (pdL_cons (ans_pd q rest) rfl)))) ((ok_two (ans_ok q rest)).shw (by omega) (by omega)) ?_
  refine ev_cb (ea_cons (ev_op (ev_lst (ea_cons ?_))))
  walk_at "st"
  refine fun p1 hp1 => ?_
  walk_at "st"
  refine bo_rep List.mem_cons_self (by omega) (by decide) (by rw [h16]; show 1 * 2 ≤ 16777216; decide) fun z hz => ?_
  walk_at "st"
  refine ca_drp (ca_repr (p := .list [ansP q rest, ansP q rest]) (.inr ⟨_, .inr ⟨z, rfl, List.mem_cons_self⟩, pd_lst (pdL_cons (ans_pd q rest) (pdL_cons (ans_pd q rest) rfl))⟩) ((ok_two (ans_ok q rest)).shw (by omega) (by omega)) ⟨deckW a l cells1 s1 c1, (List.sublist_cons_self _ _).trans (List.sublist_cons_self _ _), ?_⟩)
  walk_at "st"
  refine if_not (by simp) ?_
  walk_at "st"
  refine sw_for (ei_rng1 ?_)
  walk_at "st"
  refine ⟨by omega, by omega, fun i G W => W = deckW a l cells1 s1 c1 ∧ ∃ o, G = [some (.adr a), some (.fm f), some (.lst (spots.map D.int)), some (.bl rest), o, some (.tup (((dueOf q rest 40).map (fun j : Nat => (j : Int))).map D.int)), none, none, none, none], ⟨rfl, _, rfl⟩, ?_, ?_⟩
  · rintro i d G' W' hd ⟨rfl, o, rfl⟩
    obtain ⟨hi, rfl⟩ := rng_get hd
    rw [Int.zero_add]
    have hi : i < 40 := hi
    refine tg_name ?_
    walk_at "st"
    refine hand0 ⟨f, i, rfl, rfl, hok, hfl, ?_⟩
    walk_at "st"
    refine ca_repr (p := .bool (f.hAt i)) (.inl rfl) ((ok_bool _).shw (by omega) (by omega)) ?_
    walk_at "st"
    refine bo_in (neg := false) (xs := spots.map V.int) (.inl (.inl (by rw [List.map_map]; rfl))) rfl (flat_ints _) ?_
    rw [if_neg (by decide), inV_int]
    walk_at "st"
    refine ca_repr (p := .bool (decide ((i : Int) ∈ spots))) (.inl rfl) ((ok_bool _).shw (by omega) (by omega)) ?_
    have e : f.hAt i = decide ((i : Int) ∈ spots) := by rw [ht.at_, if_pos hi]
    rw [e]
    walk_at "st"
    refine if_not (by simp) ?_
    walk_at "st"
    exact ⟨rfl, _, rfl⟩
  rintro G' W' ⟨rfl, o, rfl⟩
  walk_at "st"
  have e9 : (10 : Int) ^ Int.toNat 9 = 1000000000 := by decide
  have e6 : (10 : Int) ^ Int.toNat 6 = 1000000 := by decide
  rw [e9]
  refine handA ⟨a, l, cells1, s1, c1, _, rfl, rfl, by omega, by omega, hl1, hc0, by omega, fun z1 s2 cells2 p1' q1' hl2 => ?_⟩
  obtain ⟨y1, rfl⟩ := Int.eq_ofNat_of_zero_le p1'
  walk_at "st"
  rw [e6]
  refine handA ⟨a, l, cells2, s2, c1 + 1, _, rfl, rfl, by omega, by omega, hl2, by omega, by omega, fun z2 s3 cells3 p2' q2' hl3 => ?_⟩
  obtain ⟨y2, rfl⟩ := Int.eq_ofNat_of_zero_le p2'
  walk_at "st"
  have hlot : ∀ d ∈ [D.vl (V.int 40), D.vl (V.int 41), D.vl (V.int 1000000000), D.vl (V.int (1000000000 - 1)), D.vl (V.int (41 + (y1 : Nat))), D.vl (V.int (1000 + (y2 : Nat)))], ∃ k : Nat, 40 ≤ k ∧ d = .int (k : Nat) := fun d hd => by
    simp only [List.mem_cons, List.not_mem_nil, or_false] at hd
    rcases hd with e | e | e | e | e | e
    · exact ⟨40, by omega, e⟩
    · exact ⟨41, by omega, e⟩
    · exact ⟨1000000000, by omega, e⟩
    · exact ⟨999999999, by omega, e⟩
    · exact ⟨41 + y1, by omega, e⟩
    · exact ⟨1000 + y2, by omega, e⟩
  refine ev_lc (ei_list ?_)
  walk_at "st"
  refine ⟨fun i acc W' => W' = deckW a l cells3 s3 (c1 + 1 + 1) ∧ acc = [], ⟨rfl, rfl⟩, ?_, ?_⟩
  · rintro i d acc W' hd ⟨rfl, rfl⟩
    obtain ⟨kk, hk40, rfl⟩ := hlot d (List.mem_of_getElem? hd)
    refine tw_name (by simp) ?_
    walk_at "st"
    refine ev_ck ?_
    walk_at "st"
    refine ⟨rfl, [.fm f, .int (kk : Nat)], fun H zs k => k.reverse, hand0 ⟨f, kk, rfl, rfl, hok, hfl, ?_⟩⟩
    have e : f.hAt kk = rest := by rw [ht.at_, if_neg (by omega)]
    rw [e]
    walk_at "st"
    refine ca_repr (p := .bool rest) (.inl rfl) ((ok_bool _).shw (by omega) (by omega)) ?_
    walk_at "st"
    refine ca_repr (p := .bool rest) (.inl rfl) ((ok_bool _).shw (by omega) (by omega)) ?_
    walk_at "st"
    exact if_not (by simp) ⟨rfl, rfl⟩
  rintro acc W' ⟨rfl, rfl⟩ p3 hp3
  walk_at "st"
  refine bo_drp (bo_neD (p := .list []) (q := .list []) (.inr ⟨[], .inr ⟨p3, rfl, List.mem_cons_self⟩, rfl⟩) vp_nil rfl rfl ⟨deckW a l cells3 s3 (c1 + 1 + 1), List.sublist_cons_self _ _, _, rfl, ?_⟩)
  rw [eqv_nil]
  refine if_not rfl ?_
  walk_at "st"
  refine handA ⟨a, l, cells3, s3, c1 + 1 + 1, 38, rfl, rfl, by omega, by omega, hl3, by omega, by omega, fun z3 s4 cells4 p4' q4' hl4 => ?_⟩
  obtain ⟨sp, rfl⟩ := Int.eq_ofNat_of_zero_le p4'
  have hsp : sp < 38 := by omega
  have hW := k s4 (c1 + 1 + 1 + 1) cells4 hl4 (by omega) (by omega)
  have g0 := Fm.good_below (k := sp) (by omega)
  have g1 := Fm.good_below (k := sp + 1) (by omega)
  have hoth := other_good ht hsp
  have hoat := other_at ht hsp
  walk_at "st"
  refine hand0 ⟨sp + 1, rfl, rfl, by omega, ?_⟩
  walk_at "st"
  refine hand0 ⟨sp, rfl, rfl, by omega, ?_⟩
  walk_at "st"
  refine hand0 ⟨_, rfl, rfl, (Fm.good_neg g0).ok (by omega), ?_⟩
  walk_at "st"
  refine bo_fm2 (hand0 ⟨_, _, rfl, rfl, (Fm.good_conj g1 (Fm.good_neg g0)).ok (by omega), ?_⟩)
  walk_at "st"
  refine hand0 ⟨_, rfl, rfl, (Fm.good_neg (Fm.good_conj g1 (Fm.good_neg g0))).ok (by omega), ?_⟩
  walk_at "st"
  refine bo_fm2 (hand0 ⟨_, _, rfl, rfl, hoth.ok (by omega), ?_⟩)
  walk_at "st"
  generalize hQ2 : (fun j : Nat => decide ((j : Int) ∈ spots) && !decide ((j : Int) = (sp : Int))) = q2
  have hoat2 : ∀ n : Nat, (Fm.conj f (Fm.neg (Fm.conj (Fm.belo (sp + 1)) (Fm.neg (Fm.belo sp))))).hAt n = if n < 40 then q2 n else rest := fun n => by rw [← hQ2]; exact hoat n
  have hspot : (Fm.conj f (Fm.neg (Fm.conj (Fm.belo (sp + 1)) (Fm.neg (Fm.belo sp))))).hAt sp = false := by
    rw [hoat, if_pos (by omega)]
    simp
  have hok2 := hoth.ok (by omega)
  have hfl2 := hoth.flat (by omega)
  generalize (Fm.conj f (Fm.neg (Fm.conj (Fm.belo (sp + 1)) (Fm.neg (Fm.belo sp))))) = oth at *
  refine ev_lc (ei_rng1 ?_)
  walk_at "st"
  refine ⟨by omega, by omega, fun i acc W' => W' = deckW a l cells4 s4 (c1 + 1 + 1 + 1) ∧ acc = (dueOf q2 rest i).map (fun j : Nat => D.int (j : Nat)), ⟨rfl, rfl⟩, ?_, ?_⟩
  · rintro i d acc W' hd ⟨rfl, rfl⟩
    obtain ⟨hi, rfl⟩ := rng_get hd
    have hi : i < 40 := hi
    rw [Int.zero_add]
    have hq2 : q2 i = (decide ((i : Int) ∈ spots) && !decide ((i : Int) = (sp : Int))) := by rw [← hQ2]
    have hlen : ((dueOf q2 rest i).map (fun j : Nat => D.int (j : Nat))).length < sizeLine := by
      have := List.length_filter_le (fun j : Nat => q2 j != rest) (List.range i)
      unfold dueOf
      simp at this hi ⊢
      omega
    refine tw_name (by simp) ?_
    walk_at "st"
    refine bo_in (neg := false) (xs := spots.map V.int) (.inl (.inl (by rw [List.map_map]; rfl))) rfl (flat_ints _) ?_
    rw [if_neg (by decide), inV_int]
    refine ⟨_, rfl, if_bl (fun e => ?_) (fun e => ?_)⟩
    · walk_at "st"
      refine if_ndec (fun e2 => ?_) (fun e2 => ?_)
      · walk_at "st"
        refine ⟨hlen, rfl, ?_⟩
        rw [due_succ, if_pos (by rw [hq2, e]; revert e2; cases decide ((i : Int) = (sp : Int)) <;> cases rest <;> simp), List.map_append]
        rfl
      · refine ⟨rfl, ?_⟩
        rw [due_succ, if_neg (by rw [hq2, e]; revert e2; cases decide ((i : Int) = (sp : Int)) <;> cases rest <;> simp), List.append_nil]
    · walk_at "st"
      refine if_ndec (fun e2 => ?_) (fun e2 => ?_)
      · walk_at "st"
        refine ⟨hlen, rfl, ?_⟩
        rw [due_succ, if_pos (by rw [hq2, e]; revert e2; cases decide ((i : Int) = (sp : Int)) <;> cases rest <;> simp), List.map_append]
        rfl
      · refine ⟨rfl, ?_⟩
        rw [due_succ, if_neg (by rw [hq2, e]; revert e2; cases decide ((i : Int) = (sp : Int)) <;> cases rest <;> simp), List.append_nil]
  rintro acc W' ⟨rfl, rfl⟩ p5 hp5
  walk_at "st"
  refine ca_drp (ca_tup (.inr ⟨p5, rfl, List.mem_cons_self⟩) ⟨_, List.sublist_cons_self _ _, ?_⟩)
  rw [show (rng 0 (40 : Int).toNat).length = 40 from by rw [rng_len]; rfl]
  have hans2 : (dueOf q2 rest 40).map (fun j : Nat => D.int (j : Nat)) = ((dueOf q2 rest 40).map (fun j : Nat => (j : Int))).map D.int := by rw [List.map_map]; rfl
  rw [hans2]
  walk_at "st"
  refine hand0 ⟨oth, rfl, rfl, hok2, hfl2, fun m3 hm3 hs3 => ?_⟩
  obtain ⟨e5, e6⟩ := hs_due hoat2 hs3
  rw [e5, e6]
  walk_at "st"
  refine ca_repr (p := ansP q2 rest) (.inl (ans_pd q2 rest)) ((ans_ok q2 rest).shw (by omega) (by omega)) ?_
  walk_at "st"
  refine ca_repr (p := ansP q2 rest) (.inl (ans_pd q2 rest)) ((ans_ok q2 rest).shw (by omega) (by omega)) ?_
  walk_at "st"
  refine if_so (by simp) ?_
  walk_at "st"
  refine hand0 ⟨oth, sp, rfl, rfl, hok2, hfl2, ?_⟩
  rw [hspot]
  walk_at "st"
  refine bo_isB ?_
  exact hW
end
end N

set_option Elab.async false
set_option linter.all false
set_option maxRecDepth 100000
namespace N
open PySem PySem.Spec PyProof.Rows L2
open C8 (Cal Met Mak InsC pe_c pe_mt pe_mt0 pe_mk)
abbrev s_law : Stmt := top 41
theorem sc_law : FnScope ["_law_script", "_law_deck_here", "_law_go"] ["_law_script"] (defScope s_law) := ⟨rfl, rfl, rfl, by decide +kernel, rfl, by decide +kernel, by decide +kernel⟩
/-- what is asked of law: a list of at most 63 ints in, True out -/
def spTop (K : PySem.W.Frag) : Sp := fun vs H Q _ => ∃ (a : Addr) (ns : List Int), vs = [.ref a] ∧ SqL K H a (ns.map V.int) ∧ ns.length ≤ 63 ∧ ∀ H', Q (.bl true) H'
section
variable {P : Program} {w : World} {K : PySem.W.Frag} {mg : Str → Option Value} {base : Heap} {cl : Nat → Addr} {dP : Addr} {es : Array DictEntry} {n : Nat}
set_option maxHeartbeats 4000000
local macro_rules | `(tactic| walk_at "vl") => `(tactic| first | exact .inl rfl | exact .inr ⟨_, rfl, List.mem_cons_self⟩ | exact .inr ⟨_, rfl, List.mem_cons_of_mem _ List.mem_cons_self⟩ | exact .inr ⟨_, rfl, List.mem_cons_of_mem _ (List.mem_cons_of_mem _ List.mem_cons_self)⟩ | exact .inr ⟨_, rfl, List.mem_cons_of_mem _ (List.mem_cons_of_mem _ (List.mem_cons_of_mem _ List.mem_cons_self))⟩)
local macro_rules | `(tactic| walk_at "nc") => `(tactic| first | omega | (unfold CMul; omega) | (unfold CDiv; omega) | (unfold CPow; decide) | (show (0 : Int) < _; omega))
local macro_rules | `(tactic| walk_at "s1") => `(tactic| first
  | with_reducible refine sw_seq ?_ | with_reducible refine sw_set ?_ | (with_reducible refine' ev_var ?h ?_); (case h => rfl) | with_reducible refine ev_c ?_ | with_reducible refine ev_op ?_
  | with_reducible refine bo_I0 ?_ | with_reducible refine ev_tup ?_ | with_reducible refine ev_lstF ?_ | with_reducible refine ev_cb ?_ | with_reducible refine ea_cons ?_ | with_reducible refine ea_nil ?_
  | with_reducible refine bo_eqI ?_ | with_reducible refine bo_neI ?_ | with_reducible refine bo_eqS ?_ | with_reducible refine bo_neS ?_ | with_reducible refine bo_eqB ?_ | with_reducible refine bo_neB ?_
  | with_reducible refine isi_str ?_ | with_reducible refine ca_intB ?_ | with_reducible refine ca_int ?_ | with_reducible refine ca_max2 ?_ | with_reducible refine ca_min2 ?_
  | with_reducible refine sw_if ?_ | with_reducible refine sw_ret ?_ | with_reducible refine sw_drop ?_ | with_reducible refine sw_setL ?_ | with_reducible refine sw_next ?_ | with_reducible refine sw_par ?_ | with_reducible refine ev_neg ?_ | with_reducible refine ev_mkF ?_ | with_reducible refine ev_inv ?_ | with_reducible refine ev_prpF ?_ | with_reducible refine ta_fld ?_ | with_reducible refine ta_name ?_ | (with_reducible refine' ta_tup ?hl ?_); (case hl => rfl) | with_reducible refine tas_cons ?_ | with_reducible refine tas_nil ?_
  | with_reducible refine et_ifE ?_ | with_reducible refine ev_orV ?_ | with_reducible refine ev_andV ?_ | with_reducible refine ev_notV ?_ | with_reducible refine et_or ?_ | with_reducible refine et_and ?_ | with_reducible refine sw_asgA ?_ | with_reducible refine sw_asg2 ?_ | with_reducible refine sw_asg3 ?_ | with_reducible refine sw_fld ?_ | with_reducible refine et_test ?_ | with_reducible refine et_B ?_ | with_reducible refine ⟨_, rfl, ?_⟩ | with_reducible refine et_not ?_ | with_reducible refine ev_if ?_
  | (with_reducible refine' bo_ixL ?h1 ?h2 ?_); (case h1 => walk_at "vl"); (case h2 => rfl) | (with_reducible refine' bo_ixT ?h2 ?_); (case h2 => rfl) | with_reducible refine ev_call ?_ | (with_reducible refine' ev_fmF ?hz ?_; case hz => assumption) | with_reducible refine ev_fld ?_
  | with_reducible refine ⟨_, _, rfl, FldF.kind _, ?_⟩ | with_reducible refine ⟨_, _, rfl, FldF.parts _, ?_⟩ | with_reducible refine ⟨_, _, rfl, FldF.many _, ?_⟩ | with_reducible refine ⟨_, _, rfl, FldF.deep _, ?_⟩ | with_reducible refine ⟨_, _, rfl, FldF.atoms _, ?_⟩ | with_reducible refine ⟨_, _, rfl, FldF.bare _, ?_⟩ | with_reducible refine ⟨_, _, rfl, FldF.spell _, ?_⟩ | with_reducible refine ⟨_, _, rfl, FldF.alls _, ?_⟩
  | ((with_reducible refine' ⟨len_ok ?hl, ?_⟩); (case hl => exact Nat.le_of_ble_eq_true rfl))
  | (with_reducible refine' bo_I ?h1 ?_); (case h1 => walk_at "nc"))
local macro_rules | `(tactic| walk_at "st") => `(tactic| repeat walk_at "s1")
theorem c_law {f : Addr} {fd : FuncData} (hm : mg "law" = some (.ref f)) (B : Blt mg) (Fn : Fun K "law" "law" s_law f fd)
    (c_law_deck : Cal P w K mg base 1 "_law_deck" (spN FK ⟨K, cl⟩ S_deck) []) (c_law_right : CalG P w K mg base 28 "_law_right" (spN FK ⟨K, cl⟩ S_right)) : CalG P w K mg base 29 "law" (spN FK ⟨K, cl⟩ S_law) := by
  refine calG hm Fn sc_law (by rintro ds W post ⟨ns, rfl, _⟩; rfl) (fun _ _ _ _ _ _ us hl => match us, hl with | [_], _ => rfl) fun cdv A outer s H hg hr => ⟨_, pss_cons (ps_set (i := 1) sc_law.nd rfl (Or.inl rfl) (pe_c c_law_deck hr (by omega) (by rfl) (pa_cons (pv 0) pa_nil)))
 (pss_cons (ps_for PassesOwn.never rfl (pi_range1 (by rfl) B.range (pa_cons pe_int pa_nil)) (pg_name (i := 2) sc_law.nd rfl (Or.inl rfl)) (pss_one (ps_if (pt_not (pt_val (pe_cg c_law_right hg hr (by omega) (by rfl) (pa_cons (pv 1) pa_nil)))) (pss_one (ps_ret pe_bl)) (pss_nil))))
 (pss_one (ps_ret pe_bl))), ?_⟩
  rintro ds W post ⟨ns, rfl, rfl, hl, k⟩
  try dsimp only [cxOf, Cx.nox, Cx.wish]
  walk_at "st"
  refine handA ⟨ns, rfl, rfl, hl, fun a l cells st hl1 => ?_⟩
  walk_at "st"
  refine sw_for (ei_rng1 ?_)
  walk_at "st"
  refine ⟨by omega, by omega, fun i G W => ∃ (st c : Int) (cells : List Int) (o : Option D), W = deckW a l cells st c ∧ cells.length ≤ 64 ∧ 0 ≤ c ∧ c ≤ 100 * (i : Nat) ∧ G = [some (.lst (ns.map D.int)), some (.adr a), o], ⟨st, 0, cells, _, rfl, hl1, by omega, by omega, rfl⟩, ?_, ?_⟩
  · rintro i d G' W' hd ⟨st, c, cells, o, rfl, h1, h2, h3, rfl⟩
    obtain ⟨hi, rfl⟩ := rng_get hd
    have hi : i < 12 := hi
    refine tg_name ?_
    walk_at "st"
    refine handA ⟨a, l, cells, st, c, rfl, rfl, h1, h2, by omega, fun s' c' cells' h4 h5 h6 => ?_⟩
    walk_at "st"
    refine if_not rfl ?_
    walk_at "st"
    exact ⟨s', c', cells', _, rfl, h4, h5, by omega, rfl⟩
  · rintro G' W' ⟨st, c, cells, o, rfl, h1, h2, h3, rfl⟩
    walk_at "st"
    exact k _
theorem top_sp {vs : List V} {H : Hp} {Q : VK} {E : XK} (h : spTop K vs H Q E) : spN FK ⟨K, cl⟩ S_law vs H Q E := by
  obtain ⟨a, ns, rfl, hs, hl, q⟩ := h
  refine ⟨[.lst (ns.map D.int)], [], fun _ => none, H, fun _ => none, fun d W' => d = .bl true, ?_, ?_, fun _ _ e => e, ⟨List.nodup_nil, fun _ _ h => by cases h⟩, ⟨_, _, rfl, ⟨a, _, rfl, hs, ?_⟩, rfl⟩, ⟨ns, rfl, rfl, hl, fun W' => rfl⟩, fun d W' H' O' v e n kd => ?_⟩
  · funext b
    rfl
  · intro b o e
    cases e
  · have := DenL.vls (F := FK) (T := ⟨K, cl⟩) (H := H) (ns.map V.int)
    rw [List.map_map] at this
    exact this
  · subst e
    have kd : v = .bl true := kd
    subst kd
    exact q _
end
end N

set_option Elab.async false
set_option linter.all false
set_option maxRecDepth 100000
namespace N
open PySem PySem.Spec PyProof.Rows L2
open C8 (Cal Met Mak InsC)
set_option maxHeartbeats 4000000
theorem all_mk {P : Program} {w : World} {K : PySem.W.Frag} {h base : Heap} {mg : Str → Option Value} {fa C : Addr} (X : K.In h) (G : h.Ns mainGlobals mg) (hfa : mg "law" = some (.ref fa)) (hw : w = w)
    {f1 : Addr} {od1 an1 : Option Addr} {sl1 : Array (Option Value)} {oc1 kV1 dc1 pm1 cd1 ct1 : Value}
    {f2 : Addr} {od2 an2 : Option Addr} {sl2 : Array (Option Value)} {oc2 kV2 dc2 pm2 cd2 ct2 : Value}
    {f3 : Addr} {od3 an3 : Option Addr} {sl3 : Array (Option Value)} {oc3 kV3 dc3 pm3 cd3 ct3 : Value}
    {f4 : Addr} {od4 an4 : Option Addr} {sl4 : Array (Option Value)} {oc4 kV4 dc4 pm4 cd4 ct4 : Value}
    {f5 : Addr} {od5 an5 : Option Addr} {sl5 : Array (Option Value)} {oc5 kV5 dc5 pm5 cd5 ct5 : Value}
    {f6 : Addr} {od6 an6 : Option Addr} {sl6 : Array (Option Value)} {oc6 kV6 dc6 pm6 cd6 ct6 : Value}
    {f7 : Addr} {od7 an7 : Option Addr} {sl7 : Array (Option Value)} {oc7 kV7 dc7 pm7 cd7 ct7 : Value}
    {f8 : Addr} {od8 an8 : Option Addr} {sl8 : Array (Option Value)} {oc8 kV8 dc8 pm8 cd8 ct8 : Value}
    {f9 : Addr} {od9 an9 : Option Addr} {sl9 : Array (Option Value)} {oc9 kV9 dc9 pm9 cd9 ct9 : Value}
    {f10 : Addr} {od10 an10 : Option Addr} {sl10 : Array (Option Value)} {oc10 kV10 dc10 pm10 cd10 ct10 : Value}
    {f11 : Addr} {od11 an11 : Option Addr} {sl11 : Array (Option Value)} {oc11 kV11 dc11 pm11 cd11 ct11 : Value}
    {f12 : Addr} {od12 an12 : Option Addr} {sl12 : Array (Option Value)} {oc12 kV12 dc12 pm12 cd12 ct12 : Value}
    {f13 : Addr} {od13 an13 : Option Addr} {sl13 : Array (Option Value)} {oc13 kV13 dc13 pm13 cd13 ct13 : Value}
    {f14 : Addr} {od14 an14 : Option Addr} {sl14 : Array (Option Value)} {oc14 kV14 dc14 pm14 cd14 ct14 : Value}
    {f15 : Addr} {od15 an15 : Option Addr} {sl15 : Array (Option Value)} {oc15 kV15 dc15 pm15 cd15 ct15 : Value}
    {f16 : Addr} {od16 an16 : Option Addr} {sl16 : Array (Option Value)} {oc16 kV16 dc16 pm16 cd16 ct16 : Value}
    {f17 : Addr} {od17 an17 : Option Addr} {sl17 : Array (Option Value)} {oc17 kV17 dc17 pm17 cd17 ct17 : Value}
    {f18 : Addr} {od18 an18 : Option Addr} {sl18 : Array (Option Value)} {oc18 kV18 dc18 pm18 cd18 ct18 : Value}
    {f19 : Addr} {od19 an19 : Option Addr} {sl19 : Array (Option Value)} {oc19 kV19 dc19 pm19 cd19 ct19 : Value}
    {f20 : Addr} {od20 an20 : Option Addr} {sl20 : Array (Option Value)} {oc20 kV20 dc20 pm20 cd20 ct20 : Value}
    {f21 : Addr} {od21 an21 : Option Addr} {sl21 : Array (Option Value)} {oc21 kV21 dc21 pm21 cd21 ct21 : Value}
    {f22 : Addr} {od22 an22 : Option Addr} {sl22 : Array (Option Value)} {oc22 kV22 dc22 pm22 cd22 ct22 : Value}
    {f23 : Addr} {od23 an23 : Option Addr} {sl23 : Array (Option Value)} {oc23 kV23 dc23 pm23 cd23 ct23 : Value}
    {f24 : Addr} {od24 an24 : Option Addr} {sl24 : Array (Option Value)} {oc24 kV24 dc24 pm24 cd24 ct24 : Value}
    {pA : Addr} {restA : List Value}
    {f25 : Addr} {od25 an25 : Option Addr} {sl25 : Array (Option Value)} {oc25 kV25 dc25 pm25 cd25 ct25 : Value}
    {t0 : Tok}
    {t1 : Tok}
    {t2 : Tok}
    {t3 : Tok}
    {t4 : Tok}
    {t5 : Tok}
    {t6 : Tok}
    {t7 : Tok}
    {t8 : Tok}
    {dP : Addr} {es : Array DictEntry} {en : Nat} {u0 u1 u2 u3 : Tok}
    (aC : PySem.W.nsIn K mainGlobals "Formula" = some (some (.ref C)))
    (a1 : PySem.W.nsIn K mainGlobals "united" = some (some (.ref f1)))
    (l1 : K.lookup f1 = some ⟨oc1, od1, .func (PySem.W.fnOf "united" "united" (defArgs s_united) (defBody s_united) (defScope s_united) .none kV1 dc1 pm1 an1 cd1 ct1), sl1⟩)
    (c1 : PySem.W.codeIn K cd1 "united" = true)
    (k1 : PySem.W.keepIn K (.ref f1) = true)
    (a2 : PySem.W.nsIn K mainGlobals "merged" = some (some (.ref f2)))
    (l2 : K.lookup f2 = some ⟨oc2, od2, .func (PySem.W.fnOf "merged" "merged" (defArgs s_merged) (defBody s_merged) (defScope s_merged) .none kV2 dc2 pm2 an2 cd2 ct2), sl2⟩)
    (c2 : PySem.W.codeIn K cd2 "merged" = true)
    (k2 : PySem.W.keepIn K (.ref f2) = true)
    (a3 : PySem.W.nsIn K mainGlobals "no" = some (some (.ref f3)))
    (l3 : K.lookup f3 = some ⟨oc3, od3, .func (PySem.W.fnOf "no" "no" (defArgs s_no) (defBody s_no) (defScope s_no) .none kV3 dc3 pm3 an3 cd3 ct3), sl3⟩)
    (c3 : PySem.W.codeIn K cd3 "no" = true)
    (k3 : PySem.W.keepIn K (.ref f3) = true)
    (a4 : PySem.W.nsIn K mainGlobals "every" = some (some (.ref f4)))
    (l4 : K.lookup f4 = some ⟨oc4, od4, .func (PySem.W.fnOf "every" "every" (defArgs s_every) (defBody s_every) (defScope s_every) .none kV4 dc4 pm4 an4 cd4 ct4), sl4⟩)
    (c4 : PySem.W.codeIn K cd4 "every" = true)
    (k4 : PySem.W.keepIn K (.ref f4) = true)
    (a5 : PySem.W.nsIn K mainGlobals "as_formula" = some (some (.ref f5)))
    (l5 : K.lookup f5 = some ⟨oc5, od5, .func (PySem.W.fnOf "as_formula" "as_formula" (defArgs s_as_formula) (defBody s_as_formula) (defScope s_as_formula) .none kV5 dc5 pm5 an5 cd5 ct5), sl5⟩)
    (c5 : PySem.W.codeIn K cd5 "as_formula" = true)
    (k5 : PySem.W.keepIn K (.ref f5) = true)
    (a6 : PySem.W.nsIn K mainGlobals "operand" = some (some (.ref f6)))
    (l6 : K.lookup f6 = some ⟨oc6, od6, .func (PySem.W.fnOf "operand" "operand" (defArgs s_operand) (defBody s_operand) (defScope s_operand) .none kV6 dc6 pm6 an6 cd6 ct6), sl6⟩)
    (c6 : PySem.W.codeIn K cd6 "operand" = true)
    (k6 : PySem.W.keepIn K (.ref f6) = true)
    (a7 : PySem.W.nsIn K mainGlobals "both" = some (some (.ref f7)))
    (l7 : K.lookup f7 = some ⟨oc7, od7, .func (PySem.W.fnOf "both" "both" (defArgs s_both) (defBody s_both) (defScope s_both) .none kV7 dc7 pm7 an7 cd7 ct7), sl7⟩)
    (c7 : PySem.W.codeIn K cd7 "both" = true)
    (k7 : PySem.W.keepIn K (.ref f7) = true)
    (a8 : PySem.W.nsIn K mainGlobals "either" = some (some (.ref f8)))
    (l8 : K.lookup f8 = some ⟨oc8, od8, .func (PySem.W.fnOf "either" "either" (defArgs s_either) (defBody s_either) (defScope s_either) .none kV8 dc8 pm8 an8 cd8 ct8), sl8⟩)
    (c8 : PySem.W.codeIn K cd8 "either" = true)
    (k8 : PySem.W.keepIn K (.ref f8) = true)
    (a9 : PySem.W.nsIn K mainGlobals "held" = some (some (.ref f9)))
    (l9 : K.lookup f9 = some ⟨oc9, od9, .func (PySem.W.fnOf "held" "held" (defArgs s_held) (defBody s_held) (defScope s_held) .none kV9 dc9 pm9 an9 cd9 ct9), sl9⟩)
    (c9 : PySem.W.codeIn K cd9 "held" = true)
    (k9 : PySem.W.keepIn K (.ref f9) = true)
    (a10 : PySem.W.nsIn K mainGlobals "values_by_heights" = some (some (.ref f10)))
    (l10 : K.lookup f10 = some ⟨oc10, od10, .func (PySem.W.fnOf "values_by_heights" "values_by_heights" (defArgs s_values_by_heights) (defBody s_values_by_heights) (defScope s_values_by_heights) .none kV10 dc10 pm10 an10 cd10 ct10), sl10⟩)
    (c10 : PySem.W.codeIn K cd10 "values_by_heights" = true)
    (k10 : PySem.W.keepIn K (.ref f10) = true)
    (a11 : PySem.W.nsIn K mainGlobals "trace" = some (some (.ref f11)))
    (l11 : K.lookup f11 = some ⟨oc11, od11, .func (PySem.W.fnOf "trace" "trace" (defArgs s_trace) (defBody s_trace) (defScope s_trace) .none kV11 dc11 pm11 an11 cd11 ct11), sl11⟩)
    (c11 : PySem.W.codeIn K cd11 "trace" = true)
    (k11 : PySem.W.keepIn K (.ref f11) = true)
    (a12 : PySem.W.nsIn K mainGlobals "holds_at" = some (some (.ref f12)))
    (l12 : K.lookup f12 = some ⟨oc12, od12, .func (PySem.W.fnOf "holds_at" "holds_at" (defArgs s_holds_at) (defBody s_holds_at) (defScope s_holds_at) .none kV12 dc12 pm12 an12 cd12 ct12), sl12⟩)
    (c12 : PySem.W.codeIn K cd12 "holds_at" = true)
    (k12 : PySem.W.keepIn K (.ref f12) = true)
    (a13 : PySem.W.nsIn K mainGlobals "_law_deck" = some (some (.ref f13)))
    (l13 : K.lookup f13 = some ⟨oc13, od13, .func (PySem.W.fnOf "_law_deck" "_law_deck" (defArgs s_law_deck) (defBody s_law_deck) (defScope s_law_deck) .none kV13 dc13 pm13 an13 cd13 ct13), sl13⟩)
    (c13 : PySem.W.codeIn K cd13 "_law_deck" = true)
    (k13 : PySem.W.keepIn K (.ref f13) = true)
    (a14 : PySem.W.nsIn K mainGlobals "_law_draw" = some (some (.ref f14)))
    (l14 : K.lookup f14 = some ⟨oc14, od14, .func (PySem.W.fnOf "_law_draw" "_law_draw" (defArgs s_law_draw) (defBody s_law_draw) (defScope s_law_draw) .none kV14 dc14 pm14 an14 cd14 ct14), sl14⟩)
    (c14 : PySem.W.codeIn K cd14 "_law_draw" = true)
    (k14 : PySem.W.keepIn K (.ref f14) = true)
    (a15 : PySem.W.nsIn K mainGlobals "_law_below" = some (some (.ref f15)))
    (l15 : K.lookup f15 = some ⟨oc15, od15, .func (PySem.W.fnOf "_law_below" "_law_below" (defArgs s_law_below) (defBody s_law_below) (defScope s_law_below) .none kV15 dc15 pm15 an15 cd15 ct15), sl15⟩)
    (c15 : PySem.W.codeIn K cd15 "_law_below" = true)
    (k15 : PySem.W.keepIn K (.ref f15) = true)
    (a16 : PySem.W.nsIn K mainGlobals "_law_hand" = some (some (.ref f16)))
    (l16 : K.lookup f16 = some ⟨oc16, od16, .func (PySem.W.fnOf "_law_hand" "_law_hand" (defArgs s_law_hand) (defBody s_law_hand) (defScope s_law_hand) .none kV16 dc16 pm16 an16 cd16 ct16), sl16⟩)
    (c16 : PySem.W.codeIn K cd16 "_law_hand" = true)
    (k16 : PySem.W.keepIn K (.ref f16) = true)
    (a17 : PySem.W.nsIn K mainGlobals "_law_right" = some (some (.ref f17)))
    (l17 : K.lookup f17 = some ⟨oc17, od17, .func (PySem.W.fnOf "_law_right" "_law_right" (defArgs s_law_right) (defBody s_law_right) (defScope s_law_right) .none kV17 dc17 pm17 an17 cd17 ct17), sl17⟩)
    (c17 : PySem.W.codeIn K cd17 "_law_right" = true)
    (k17 : PySem.W.keepIn K (.ref f17) = true)
    (a18 : PySem.W.nsIn K mainGlobals "law" = some (some (.ref f18)))
    (l18 : K.lookup f18 = some ⟨oc18, od18, .func (PySem.W.fnOf "law" "law" (defArgs s_law) (defBody s_law) (defScope s_law) .none kV18 dc18 pm18 an18 cd18 ct18), sl18⟩)
    (c18 : PySem.W.codeIn K cd18 "law" = true)
    (k18 : PySem.W.keepIn K (.ref f18) = true)
    (a19 : PySem.W.findIn K (.ref C) "__init__" = some (some (.ref f19)))
    (i19 : PySem.W.isFn K (.ref f19) = true)
    (l19 : K.lookup f19 = some ⟨oc19, od19, .func (PySem.W.fnOf "__init__" "Formula.__init__" (defArgs s_Formula___init__) (defBody s_Formula___init__) (defScope s_Formula___init__) .none kV19 dc19 pm19 an19 cd19 ct19), sl19⟩)
    (c19 : PySem.W.codeIn K cd19 "Formula.__init__" = true)
    (k19 : PySem.W.keepIn K (.ref f19) = true)
    (a20 : PySem.W.findIn K (.ref C) "__invert__" = some (some (.ref f20)))
    (i20 : PySem.W.isFn K (.ref f20) = true)
    (l20 : K.lookup f20 = some ⟨oc20, od20, .func (PySem.W.fnOf "__invert__" "Formula.__invert__" (defArgs s_Formula___invert__) (defBody s_Formula___invert__) (defScope s_Formula___invert__) .none kV20 dc20 pm20 an20 cd20 ct20), sl20⟩)
    (c20 : PySem.W.codeIn K cd20 "Formula.__invert__" = true)
    (k20 : PySem.W.keepIn K (.ref f20) = true)
    (a21 : PySem.W.findIn K (.ref C) "__and__" = some (some (.ref f21)))
    (i21 : PySem.W.isFn K (.ref f21) = true)
    (l21 : K.lookup f21 = some ⟨oc21, od21, .func (PySem.W.fnOf "__and__" "Formula.__and__" (defArgs s_Formula___and__) (defBody s_Formula___and__) (defScope s_Formula___and__) .none kV21 dc21 pm21 an21 cd21 ct21), sl21⟩)
    (c21 : PySem.W.codeIn K cd21 "Formula.__and__" = true)
    (k21 : PySem.W.keepIn K (.ref f21) = true)
    (a22 : PySem.W.findIn K (.ref C) "__or__" = some (some (.ref f22)))
    (i22 : PySem.W.isFn K (.ref f22) = true)
    (l22 : K.lookup f22 = some ⟨oc22, od22, .func (PySem.W.fnOf "__or__" "Formula.__or__" (defArgs s_Formula___or__) (defBody s_Formula___or__) (defScope s_Formula___or__) .none kV22 dc22 pm22 an22 cd22 ct22), sl22⟩)
    (c22 : PySem.W.codeIn K cd22 "Formula.__or__" = true)
    (k22 : PySem.W.keepIn K (.ref f22) = true)
    (a23 : PySem.W.findIn K (.ref C) "__rshift__" = some (some (.ref f23)))
    (i23 : PySem.W.isFn K (.ref f23) = true)
    (l23 : K.lookup f23 = some ⟨oc23, od23, .func (PySem.W.fnOf "__rshift__" "Formula.__rshift__" (defArgs s_Formula___rshift__) (defBody s_Formula___rshift__) (defScope s_Formula___rshift__) .none kV23 dc23 pm23 an23 cd23 ct23), sl23⟩)
    (c23 : PySem.W.codeIn K cd23 "Formula.__rshift__" = true)
    (k23 : PySem.W.keepIn K (.ref f23) = true)
    (a24 : PySem.W.findIn K (.ref C) "__str__" = some (some (.ref f24)))
    (i24 : PySem.W.isFn K (.ref f24) = true)
    (l24 : K.lookup f24 = some ⟨oc24, od24, .func (PySem.W.fnOf "__str__" "Formula.__str__" (defArgs s_Formula___str__) (defBody s_Formula___str__) (defScope s_Formula___str__) .none kV24 dc24 pm24 an24 cd24 ct24), sl24⟩)
    (c24 : PySem.W.codeIn K cd24 "Formula.__str__" = true)
    (k24 : PySem.W.keepIn K (.ref f24) = true)
    (a25 : PySem.W.findIn K (.ref C) "alls" = some (some (.ref pA)))
    (pget : PySem.W.specialIn K (.ref pA) "__get__" = some (some (.builtin "property.__get__")))
    (ptak : PySem.W.takesIn K (.ref pA) = some true)
    (prec : PySem.W.recIn K pA "property" = some (.ref f25 :: restA))
    (l25 : K.lookup f25 = some ⟨oc25, od25, .func (PySem.W.fnOf "alls" "Formula.alls" (defArgs s_Formula_alls) (defBody s_Formula_alls) (defScope s_Formula_alls) .none kV25 dc25 pm25 an25 cd25 ct25), sl25⟩)
    (c25 : PySem.W.codeIn K cd25 "Formula.alls" = true)
    (k25 : PySem.W.keepIn K (.ref f25) = true)
    (s0 : PySem.W.nsIn K mainGlobals "ATOM" = some (some (.str "atom" t0)))
    (s1 : PySem.W.nsIn K mainGlobals "NO" = some (some (.str "no" t1)))
    (s2 : PySem.W.nsIn K mainGlobals "IF_formulas" = some (some (.str "if" t2)))
    (s3 : PySem.W.nsIn K mainGlobals "ALL_formulas" = some (some (.str "all" t3)))
    (s4 : PySem.W.nsIn K mainGlobals "ALL_AHEAD" = some (some (.str "all " t4)))
    (s5 : PySem.W.nsIn K mainGlobals "BETWEEN" = some (some (.str " > " t5)))
    (s6 : PySem.W.nsIn K mainGlobals "LETTERS" = some (some (.str "ABCDEFGHIJKLMNOPQRSTUVWXYZabcdefghijklmnopqrstuvwxyz" t6)))
    (s7 : PySem.W.nsIn K mainGlobals "IF_heights" = some (some (.str "if" t7)))
    (s8 : PySem.W.nsIn K mainGlobals "ALL_heights" = some (some (.str "all" t8)))
    (aP : PySem.W.nsIn K mainGlobals "PARTS_OF" = some (some (.ref dP)))
    (lP : K.lookup dP = some ⟨.type "dict", none, .dict es en, #[]⟩)
    (lit : PySem.W.KeysLit w.params es.toList)
    (low : (dP == sysModules) = false)
    (p0 : PySem.W.nsIn K dP "atom" = some (some (.int 1 u0)))
    (p1 : PySem.W.nsIn K dP "no" = some (some (.int 0 u1)))
    (p2 : PySem.W.nsIn K dP "if" = some (some (.int 2 u2)))
    (p3 : PySem.W.nsIn K dP "all" = some (some (.int 1 u3)))
    (pg : PySem.W.plainGet K C Str.empty = true)
    (hd : PySem.W.hasDictIn K C = true)
    (po : PySem.W.plainOver K C = true)
    (sa : PySem.W.findIn K (.ref C) "__setattr__" = some (some (.builtin "object.__setattr__")))
    (mk : PySem.W.makesIn K C = true)
    (kc : PySem.W.keepIn K (.ref C) = true)
    (n0 : PySem.W.findIn K (.ref C) "kind" = some none)
    (n1 : PySem.W.findIn K (.ref C) "parts" = some none)
    (n2 : PySem.W.findIn K (.ref C) "many" = some none)
    (n3 : PySem.W.findIn K (.ref C) "deepest" = some none)
    (n4 : PySem.W.findIn K (.ref C) "atoms" = some none)
    (n5 : PySem.W.findIn K (.ref C) "bare" = some none)
    (n6 : PySem.W.findIn K (.ref C) "spelled" = some none)
    (n7 : PySem.W.findIn K (.ref C) "alls_known" = some none)
    (ha : PySem.W.findIn K (.ref C) "__class__" = some (some (.builtin "object.__class__")))
    (hn : PySem.W.specialIn K (.builtin "object.__class__") "__get__" = some (some (.builtin "getset_descriptor.__get__")))
    (htk : PySem.W.takesIn K (.builtin "object.__class__") = some true)
    (hmo : PySem.W.mroIn K C (.type "object") = some true)
    (me : PySem.W.kitOne K (.ref C) (.ref C) = some true)
    (sf : PySem.W.selfFirst K C = true)
    (z0 : PySem.W.nsIn K mainGlobals "len" = some none)
    (z1 : PySem.W.nsIn K mainGlobals "int" = some none)
    (z2 : PySem.W.nsIn K mainGlobals "str" = some none)
    (z3 : PySem.W.nsIn K mainGlobals "range" = some none)
    (z4 : PySem.W.nsIn K mainGlobals "list" = some none)
    (z5 : PySem.W.nsIn K mainGlobals "tuple" = some none)
    (z6 : PySem.W.nsIn K mainGlobals "dict" = some none)
    (z7 : PySem.W.nsIn K mainGlobals "set" = some none)
    (z8 : PySem.W.nsIn K mainGlobals "sorted" = some none)
    (z9 : PySem.W.nsIn K mainGlobals "isinstance" = some none)
    (z10 : PySem.W.nsIn K mainGlobals "repr" = some none)
    (z11 : PySem.W.nsIn K mainGlobals "max" = some none)
    (z12 : PySem.W.nsIn K mainGlobals "min" = some none)
    (z13 : PySem.W.nsIn K mainGlobals "sum" = some none)
    (z14 : PySem.W.nsIn K mainGlobals "all" = some none)
    (z15 : PySem.W.nsIn K mainGlobals "any" = some none)
    (z16 : PySem.W.nsIn K mainGlobals "zip" = some none)
    (z17 : PySem.W.nsIn K mainGlobals "enumerate" = some none) :
    FnG P w K mg base 29 fa (spTop K) := by
  let cl : Nat → Addr := fun _ => C
  have B : Blt mg := ⟨PySem.W.mg_none_of X G z0, PySem.W.mg_none_of X G z1, PySem.W.mg_none_of X G z2, PySem.W.mg_none_of X G z3, PySem.W.mg_none_of X G z4, PySem.W.mg_none_of X G z5, PySem.W.mg_none_of X G z6, PySem.W.mg_none_of X G z7, PySem.W.mg_none_of X G z8, PySem.W.mg_none_of X G z9, PySem.W.mg_none_of X G z10, PySem.W.mg_none_of X G z11, PySem.W.mg_none_of X G z12, PySem.W.mg_none_of X G z13, PySem.W.mg_none_of X G z14, PySem.W.mg_none_of X G z15, PySem.W.mg_none_of X G z16, PySem.W.mg_none_of X G z17⟩
  have fz : FZ K C := ⟨⟨pg, hd, po, sa⟩, fun n hn => by
    simp only [fmNames, List.mem_cons, List.not_mem_nil, or_false] at hn
    rcases hn with e | e | e | e | e | e | e | e
    · rw [e]; exact n0
    · rw [e]; exact n1
    · rw [e]; exact n2
    · rw [e]; exact n3
    · rw [e]; exact n4
    · rw [e]; exact n5
    · rw [e]; exact n6
    · rw [e]; exact n7, ⟨⟨pg, hd, po, sa⟩, ha, hn, htk, hmo, me⟩, sf⟩
  have Z : ZF K w mg (cl 0) dP es en := ⟨⟨_, PySem.W.mg_of X G s0, _, rfl⟩, ⟨_, PySem.W.mg_of X G s1, _, rfl⟩, ⟨_, PySem.W.mg_of X G s2, _, rfl⟩, ⟨_, PySem.W.mg_of X G s3, _, rfl⟩, ⟨_, PySem.W.mg_of X G s4, _, rfl⟩, ⟨_, PySem.W.mg_of X G s5, _, rfl⟩, ⟨_, PySem.W.mg_of X G s6, _, rfl⟩, PySem.W.mg_of X G aP, PySem.W.mg_of X G aC, ⟨lP, lit, low⟩, ⟨_, p0⟩, ⟨_, p1⟩, ⟨_, p2⟩, ⟨_, p3⟩, fz⟩
  have ZHh : ZH mg := ⟨⟨_, PySem.W.mg_of X G s7, _, rfl⟩, ⟨_, PySem.W.mg_of X G s8, _, rfl⟩⟩
  have F1 := fun_mk (st := s_united) l1 c1 k1
  have m1 := PySem.W.mg_of X G a1
  have F2 := fun_mk (st := s_merged) l2 c2 k2
  have m2 := PySem.W.mg_of X G a2
  have F3 := fun_mk (st := s_no) l3 c3 k3
  have m3 := PySem.W.mg_of X G a3
  have F4 := fun_mk (st := s_every) l4 c4 k4
  have m4 := PySem.W.mg_of X G a4
  have F5 := fun_mk (st := s_as_formula) l5 c5 k5
  have m5 := PySem.W.mg_of X G a5
  have F6 := fun_mk (st := s_operand) l6 c6 k6
  have m6 := PySem.W.mg_of X G a6
  have F7 := fun_mk (st := s_both) l7 c7 k7
  have m7 := PySem.W.mg_of X G a7
  have F8 := fun_mk (st := s_either) l8 c8 k8
  have m8 := PySem.W.mg_of X G a8
  have F9 := fun_mk (st := s_held) l9 c9 k9
  have m9 := PySem.W.mg_of X G a9
  have F10 := fun_mk (st := s_values_by_heights) l10 c10 k10
  have m10 := PySem.W.mg_of X G a10
  have F11 := fun_mk (st := s_trace) l11 c11 k11
  have m11 := PySem.W.mg_of X G a11
  have F12 := fun_mk (st := s_holds_at) l12 c12 k12
  have m12 := PySem.W.mg_of X G a12
  have F13 := fun_mk (st := s_law_deck) l13 c13 k13
  have m13 := PySem.W.mg_of X G a13
  have F14 := fun_mk (st := s_law_draw) l14 c14 k14
  have m14 := PySem.W.mg_of X G a14
  have F15 := fun_mk (st := s_law_below) l15 c15 k15
  have m15 := PySem.W.mg_of X G a15
  have F16 := fun_mk (st := s_law_hand) l16 c16 k16
  have m16 := PySem.W.mg_of X G a16
  have F17 := fun_mk (st := s_law_right) l17 c17 k17
  have m17 := PySem.W.mg_of X G a17
  have F18 := fun_mk (st := s_law) l18 c18 k18
  have m18 := PySem.W.mg_of X G a18
  have F19 := fun_mk (st := s_Formula___init__) l19 c19 k19
  have F20 := fun_mk (st := s_Formula___invert__) l20 c20 k20
  have F21 := fun_mk (st := s_Formula___and__) l21 c21 k21
  have F22 := fun_mk (st := s_Formula___or__) l22 c22 k22
  have F23 := fun_mk (st := s_Formula___rshift__) l23 c23 k23
  have F24 := fun_mk (st := s_Formula___str__) l24 c24 k24
  have F25 := fun_mk (st := s_Formula_alls) l25 c25 k25
  have q_united := c_united (P := P) (w := w) (base := base) (cl := cl) m1 B F1
  have q_merged := c_merged (P := P) (base := base) (cl := cl) m2 B Z F2
  have q_F := c_init (P := P) (base := base) (cl := cl) (PySem.W.mg_of X G aC) ⟨mk, a19, i19, kc⟩ B Z F19 q_united q_merged
  have q_no := c_no (P := P) (base := base) (cl := cl) m3 B Z F3 q_F
  have q_every := c_every (P := P) (base := base) (cl := cl) m4 B Z F4 q_F
  have q_as := c_as_formula (P := P) (base := base) (cl := cl) m5 B Z F5
  have q_op := c_operand (P := P) (base := base) (cl := cl) m6 B Z F6 q_as
  have q_inv := o_inv (P := P) (base := base) (cl := cl) ⟨a20, i20⟩ B Z F20 q_F q_no
  have q_both := c_both (P := P) (base := base) (cl := cl) m7 B Z F7 q_F q_inv
  have q_either := c_either (P := P) (base := base) (cl := cl) m8 B Z F8 q_F q_inv
  have q_and := o_and (P := P) (base := base) (cl := cl) ⟨a21, i21⟩ B Z F21 q_op q_both
  have q_or := o_or (P := P) (base := base) (cl := cl) ⟨a22, i22⟩ B Z F22 q_op q_either
  have q_shr := o_shr (P := P) (base := base) (cl := cl) ⟨a23, i23⟩ B Z F23 q_F q_op
  have q_str := o_str (P := P) (base := base) (cl := cl) ⟨a24, i24⟩ B Z F24
  have q_alls := p_alls (P := P) (base := base) (cl := cl) ⟨a25, pget, ptak, ⟨_, prec⟩⟩ B Z F25
  have q_held := c_held (P := P) (base := base) (cl := cl) m9 B Z ZHh F9 q_str 20
  have q_vals := c_values (P := P) (base := base) (cl := cl) m10 B Z ZHh F10 q_str q_alls q_held
  have q_trace := c_trace (P := P) (w := w) (base := base) (cl := cl) m11 B F11 q_vals
  have q_holds := c_holds (P := P) (w := w) (base := base) (cl := cl) m12 B F12 q_trace.1
  have q_deck := c_law_deck (P := P) (w := w) (base := base) (cl := cl) (F := FK) m13 B F13
  have q_draw := c_law_draw (P := P) (w := w) (base := base) (cl := cl) (F := FK) m14 B F14
  have q_below := c_law_below (P := P) (w := w) (base := base) (cl := cl) m15 B F15 q_no q_every
  have q_hand := c_law_hand (P := P) (base := base) (cl := cl) m16 B Z F16 q_draw q_below q_every q_inv q_and q_or q_shr
  have q_right := c_law_right (P := P) (base := base) (cl := cl) m17 B Z F17 q_draw q_below q_hand q_trace.1 q_trace.2 q_holds.1 q_holds.2 q_inv q_and
  have q_law := c_law (P := P) (w := w) (base := base) (cl := cl) m18 B F18 q_deck q_right
  obtain ⟨f, hf, hm, _⟩ := q_law.ex
  have e := hfa.symm.trans hm
  cases e
  exact fun A outer s H us vs Q hg hr e0 r hsp => hf A outer s H us vs Q hg hr e0 r (top_sp hsp)
end N

open PySem PySem.W PyProof.Rows
set_option maxRecDepth 100000 in
set_option maxHeartbeats 0 in
theorem PySem.Challenge.cw_allbeneath_k28_great_heights_holds : PySem.Challenge.rw_allbeneath_k28_great_heights.Holds := by
  w_on; o_law; k_head; (case hw => w_witness2)
  k_fill
  refine N.walkG (l := PySem.Challenge.rw_allbeneath_k28_great_heights) (n := 63) (k := 29) (sp := N.spTop) rfl (by decide) rfl ?hr (fun w h Y => PySem.W.kIn_of Y) ?F ?G
  case hr => exact ⟨rfl, by decide, by decide⟩
  case G => exact fun K H a ns hl _ hS => ⟨a, ns, rfl, hS, hl, fun _ => rfl⟩
  case F =>
    intro w mg fa h KX G hmg base KB GB
    refine' N.all_mk KX G hmg (rfl : w = w) ?aC ?a1 ?l1 ?c1 ?k1 ?a2 ?l2 ?c2 ?k2 ?a3 ?l3 ?c3 ?k3 ?a4 ?l4 ?c4 ?k4 ?a5 ?l5 ?c5 ?k5 ?a6 ?l6 ?c6 ?k6 ?a7 ?l7 ?c7 ?k7 ?a8 ?l8 ?c8 ?k8 ?a9 ?l9 ?c9 ?k9 ?a10 ?l10 ?c10 ?k10 ?a11 ?l11 ?c11 ?k11 ?a12 ?l12 ?c12 ?k12 ?a13 ?l13 ?c13 ?k13 ?a14 ?l14 ?c14 ?k14 ?a15 ?l15 ?c15 ?k15 ?a16 ?l16 ?c16 ?k16 ?a17 ?l17 ?c17 ?k17 ?a18 ?l18 ?c18 ?k18 ?a19 ?i19 ?l19 ?c19 ?k19 ?a20 ?i20 ?l20 ?c20 ?k20 ?a21 ?i21 ?l21 ?c21 ?k21 ?a22 ?i22 ?l22 ?c22 ?k22 ?a23 ?i23 ?l23 ?c23 ?k23 ?a24 ?i24 ?l24 ?c24 ?k24 ?a25 ?pget ?ptak ?prec ?l25 ?c25 ?k25 ?s0 ?s1 ?s2 ?s3 ?s4 ?s5 ?s6 ?s7 ?s8 ?aP ?lP ?lit ?low ?p0 ?p1 ?p2 ?p3 ?pg ?hd ?po ?sa ?mk ?kc ?n0 ?n1 ?n2 ?n3 ?n4 ?n5 ?n6 ?n7 ?ha ?hn ?htk ?hmo ?me ?sf ?z0 ?z1 ?z2 ?z3 ?z4 ?z5 ?z6 ?z7 ?z8 ?z9 ?z10 ?z11 ?z12 ?z13 ?z14 ?z15 ?z16 ?z17
    (case aC => first | k_is | rfl | decide)
    (case a1 => first | k_is | rfl | decide)
    (case l1 => first | k_is | rfl | decide)
    (case c1 => first | k_is | rfl | decide)
    (case k1 => first | k_is | rfl | decide)
    (case a2 => first | k_is | rfl | decide)
    (case l2 => first | k_is | rfl | decide)
    (case c2 => first | k_is | rfl | decide)
    (case k2 => first | k_is | rfl | decide)
    (case a3 => first | k_is | rfl | decide)
    (case l3 => first | k_is | rfl | decide)
    (case c3 => first | k_is | rfl | decide)
    (case k3 => first | k_is | rfl | decide)
    (case a4 => first | k_is | rfl | decide)
    (case l4 => first | k_is | rfl | decide)
    (case c4 => first | k_is | rfl | decide)
    (case k4 => first | k_is | rfl | decide)
    (case a5 => first | k_is | rfl | decide)
    (case l5 => first | k_is | rfl | decide)
    (case c5 => first | k_is | rfl | decide)
    (case k5 => first | k_is | rfl | decide)
    (case a6 => first | k_is | rfl | decide)
    (case l6 => first | k_is | rfl | decide)
    (case c6 => first | k_is | rfl | decide)
    (case k6 => first | k_is | rfl | decide)
    (case a7 => first | k_is | rfl | decide)
    (case l7 => first | k_is | rfl | decide)
    (case c7 => first | k_is | rfl | decide)
    (case k7 => first | k_is | rfl | decide)
    (case a8 => first | k_is | rfl | decide)
    (case l8 => first | k_is | rfl | decide)
    (case c8 => first | k_is | rfl | decide)
    (case k8 => first | k_is | rfl | decide)
    (case a9 => first | k_is | rfl | decide)
    (case l9 => first | k_is | rfl | decide)
    (case c9 => first | k_is | rfl | decide)
    (case k9 => first | k_is | rfl | decide)
    (case a10 => first | k_is | rfl | decide)
    (case l10 => first | k_is | rfl | decide)
    (case c10 => first | k_is | rfl | decide)
    (case k10 => first | k_is | rfl | decide)
    (case a11 => first | k_is | rfl | decide)
    (case l11 => first | k_is | rfl | decide)
    (case c11 => first | k_is | rfl | decide)
    (case k11 => first | k_is | rfl | decide)
    (case a12 => first | k_is | rfl | decide)
    (case l12 => first | k_is | rfl | decide)
    (case c12 => first | k_is | rfl | decide)
    (case k12 => first | k_is | rfl | decide)
    (case a13 => first | k_is | rfl | decide)
    (case l13 => first | k_is | rfl | decide)
    (case c13 => first | k_is | rfl | decide)
    (case k13 => first | k_is | rfl | decide)
    (case a14 => first | k_is | rfl | decide)
    (case l14 => first | k_is | rfl | decide)
    (case c14 => first | k_is | rfl | decide)
    (case k14 => first | k_is | rfl | decide)
    (case a15 => first | k_is | rfl | decide)
    (case l15 => first | k_is | rfl | decide)
    (case c15 => first | k_is | rfl | decide)
    (case k15 => first | k_is | rfl | decide)
    (case a16 => first | k_is | rfl | decide)
    (case l16 => first | k_is | rfl | decide)
    (case c16 => first | k_is | rfl | decide)
    (case k16 => first | k_is | rfl | decide)
    (case a17 => first | k_is | rfl | decide)
    (case l17 => first | k_is | rfl | decide)
    (case c17 => first | k_is | rfl | decide)
    (case k17 => first | k_is | rfl | decide)
    (case a18 => first | k_is | rfl | decide)
    (case l18 => first | k_is | rfl | decide)
    (case c18 => first | k_is | rfl | decide)
    (case k18 => first | k_is | rfl | decide)
    (case a19 => first | k_is | rfl | decide)
    (case i19 => first | k_is | rfl | decide)
    (case l19 => first | k_is | rfl | decide)
    (case c19 => first | k_is | rfl | decide)
    (case k19 => first | k_is | rfl | decide)
    (case a20 => first | k_is | rfl | decide)
    (case i20 => first | k_is | rfl | decide)
    (case l20 => first | k_is | rfl | decide)
    (case c20 => first | k_is | rfl | decide)
    (case k20 => first | k_is | rfl | decide)
    (case a21 => first | k_is | rfl | decide)
    (case i21 => first | k_is | rfl | decide)
    (case l21 => first | k_is | rfl | decide)
    (case c21 => first | k_is | rfl | decide)
    (case k21 => first | k_is | rfl | decide)
    (case a22 => first | k_is | rfl | decide)
    (case i22 => first | k_is | rfl | decide)
    (case l22 => first | k_is | rfl | decide)
    (case c22 => first | k_is | rfl | decide)
    (case k22 => first | k_is | rfl | decide)
    (case a23 => first | k_is | rfl | decide)
    (case i23 => first | k_is | rfl | decide)
    (case l23 => first | k_is | rfl | decide)
    (case c23 => first | k_is | rfl | decide)
    (case k23 => first | k_is | rfl | decide)
    (case a24 => first | k_is | rfl | decide)
    (case i24 => first | k_is | rfl | decide)
    (case l24 => first | k_is | rfl | decide)
    (case c24 => first | k_is | rfl | decide)
    (case k24 => first | k_is | rfl | decide)
    (case a25 => first | k_is | rfl | decide)
    (case pget => first | k_is | rfl | decide)
    (case ptak => first | k_is | rfl | decide)
    (case prec => first | k_is | rfl | decide)
    (case l25 => first | k_is | rfl | decide)
    (case c25 => first | k_is | rfl | decide)
    (case k25 => first | k_is | rfl | decide)
    (case s0 => first | k_is | rfl | decide)
    (case s1 => first | k_is | rfl | decide)
    (case s2 => first | k_is | rfl | decide)
    (case s3 => first | k_is | rfl | decide)
    (case s4 => first | k_is | rfl | decide)
    (case s5 => first | k_is | rfl | decide)
    (case s6 => first | k_is | rfl | decide)
    (case s7 => first | k_is | rfl | decide)
    (case s8 => first | k_is | rfl | decide)
    (case aP => first | k_is | rfl | decide)
    (case lP => first | k_is | rfl | decide)
    (case lit => exact ⟨⟨_, _, rfl, rfl⟩, ⟨_, _, rfl, rfl⟩, ⟨_, _, rfl, rfl⟩, ⟨_, _, rfl, rfl⟩, trivial⟩)
    (case low => first | k_is | rfl | decide)
    (case p0 => first | k_is | rfl | decide)
    (case p1 => first | k_is | rfl | decide)
    (case p2 => first | k_is | rfl | decide)
    (case p3 => first | k_is | rfl | decide)
    (case pg => first | k_is | rfl | decide)
    (case hd => first | k_is | rfl | decide)
    (case po => first | k_is | rfl | decide)
    (case sa => first | k_is | rfl | decide)
    (case mk => first | k_is | rfl | decide)
    (case kc => first | k_is | rfl | decide)
    (case n0 => first | k_is | rfl | decide)
    (case n1 => first | k_is | rfl | decide)
    (case n2 => first | k_is | rfl | decide)
    (case n3 => first | k_is | rfl | decide)
    (case n4 => first | k_is | rfl | decide)
    (case n5 => first | k_is | rfl | decide)
    (case n6 => first | k_is | rfl | decide)
    (case n7 => first | k_is | rfl | decide)
    (case ha => first | k_is | rfl | decide)
    (case hn => first | k_is | rfl | decide)
    (case htk => first | k_is | rfl | decide)
    (case hmo => first | k_is | rfl | decide)
    (case me => first | k_is | rfl | decide)
    (case sf => first | k_is | rfl | decide)
    (case z0 => first | k_is | rfl | decide)
    (case z1 => first | k_is | rfl | decide)
    (case z2 => first | k_is | rfl | decide)
    (case z3 => first | k_is | rfl | decide)
    (case z4 => first | k_is | rfl | decide)
    (case z5 => first | k_is | rfl | decide)
    (case z6 => first | k_is | rfl | decide)
    (case z7 => first | k_is | rfl | decide)
    (case z8 => first | k_is | rfl | decide)
    (case z9 => first | k_is | rfl | decide)
    (case z10 => first | k_is | rfl | decide)
    (case z11 => first | k_is | rfl | decide)
    (case z12 => first | k_is | rfl | decide)
    (case z13 => first | k_is | rfl | decide)
    (case z14 => first | k_is | rfl | decide)
    (case z15 => first | k_is | rfl | decide)
    (case z16 => first | k_is | rfl | decide)
    (case z17 => first | k_is | rfl | decide)
