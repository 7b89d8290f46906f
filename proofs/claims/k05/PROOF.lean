import PyProof.Rows.All
import Wide.All
import OpenK.AllK
import Wide.FinOn
import HandS.ForMost
import HandS.ForExc
import HandS.Wide
import HandS.TupAny
import HandS.TupMul
import HandS.TupLe
import HandS.IsInst
import HandS.SetFor
import HandS.Strs
import HandS.SortOrd
import HandS.SortRule
import HandS.Keys
import PySem.Challenge.RW_towbarges_k05_worths
set_option Elab.async false
set_option linter.all false
set_option maxRecDepth 100000
set_option maxHeartbeats 4000000
/-! TBA: what the defs compute, as functions of data; the relation between data and the heap. -/
namespace TB
open PySem PySem.Spec L2
open PyProof.Rows hiding St
abbrev D := PyData
/-- an error by its class's name, with the value of its one field -/
structure Exn where
  cls : Str
  arg : Option (Str × D)
/-- what comes of a piece of code: a value, an error, nothing told, or any of some numbers and what comes of it -/
inductive Res (α : Type) where
  | ok (a : α)
  | ex (x : Exn)
  | no
  | any (P : Int → Prop) (k : Int → Res α)
namespace Res
def bind {α β : Type} : Res α → (α → Res β) → Res β
  | .ok a, k => k a
  | .ex x, _ => .ex x
  | .no, _ => .no
  | .any P f, k => .any P fun i => (f i).bind k
def map {α β : Type} (f : α → β) (r : Res α) : Res β := r.bind fun a => .ok (f a)
/-- all that may come is so, no error -/
def all {α : Type} (p : α → Prop) : Res α → Prop
  | .ok a => p a
  | .ex _ => False
  | .no => False
  | .any P k => ∀ i, P i → (k i).all p
@[simp] theorem bind_ok {α β : Type} (a : α) (k : α → Res β) : (Res.ok a).bind k = k a := rfl
@[simp] theorem bind_ex {α β : Type} (x : Exn) (k : α → Res β) : (Res.ex x).bind k = .ex x := rfl
@[simp] theorem bind_no {α β : Type} (k : α → Res β) : (Res.no : Res α).bind k = .no := rfl
@[simp] theorem map_ok {α β : Type} (f : α → β) (a : α) : (Res.ok a).map f = .ok (f a) := rfl
@[simp] theorem map_ex {α β : Type} (f : α → β) (x : Exn) : (Res.ex x).map f = .ex x := rfl
@[simp] theorem map_no {α β : Type} (f : α → β) : (Res.no : Res α).map f = .no := rfl
theorem all_bind {α β : Type} (p : β → Prop) (k : α → Res β) : ∀ r : Res α, (r.bind k).all p ↔ r.all fun a => (k a).all p
  | .ok _ => Iff.rfl
  | .ex _ => Iff.rfl
  | .no => Iff.rfl
  | .any P f => ⟨fun h i hi => (all_bind p k (f i)).mp (h i hi), fun h i hi => (all_bind p k (f i)).mpr (h i hi)⟩
theorem all_mono {α : Type} {p q : α → Prop} (h : ∀ a, p a → q a) : ∀ r : Res α, r.all p → r.all q
  | .ok _, z => h _ z
  | .ex _, z => z
  | .no, z => z
  | .any _ f, z => fun i hi => all_mono h (f i) (z i hi)
theorem bind_assoc {α β γ : Type} (k : α → Res β) (l : β → Res γ) : ∀ r : Res α, (r.bind k).bind l = r.bind fun a => (k a).bind l
  | .ok _ => rfl
  | .ex _ => rfl
  | .no => rfl
  | .any P f => congrArg (Res.any P) (funext fun i => bind_assoc k l (f i))
end Res
/-- what a slot holds: nothing known, data that stays, a list of its own, an object of its own -/
inductive Fl where
  | fr (d : D)
  | ow (ds : List D)
inductive Sl where
  | un
  | fr (d : D)
  | ow (ds : List D)
  | ob (c : Str) (fs : List (Str × Fl))
abbrev Env := List Sl
abbrev SE := Env → Res D
abbrev SL := Env → Res (List D)
abbrev ST := Env → Res Bool
inductive Out where
  | nx (e : Env)
  | rt (d : D) (e : Env)
  | bk (e : Env)
  | ct (e : Env)
abbrev SS := Env → Res Out

/-! ### data in the heap -/
/-- the dice: a list of two numbers, not below nought; told no further -/
def tokP (a : Addr) : Heap → Prop := fun h => ∃ (x y : Int) (its : List Value) (n : Nat), 0 ≤ x ∧ 0 ≤ y ∧ Vals [.int x, .int y] its ∧ h.get? a = some { cls := .type "list", data := .seq its.toArray n }
mutual
inductive Dp (K : PySem.W.Frag) (H : Hp) : V → PyData → Prop
  | non : Dp K H .non .none
  | bl (b : Bool) : Dp K H (.bl b) (.bool b)
  | int (i : Int) : Dp K H (.int i) (.int i)
  | str (x : Str) : Dp K H (.str x) (.str x)
  | lst {a : Addr} {xs : List V} {ds : List PyData} : H a = some (.lst xs) → DpAll K H xs ds → Dp K H (.ref a) (.list ds)
  | tup {a : Addr} {xs : List V} {ds : List PyData} : SqT K H a xs → DpAll K H xs ds → Dp K H (.ref a) (.tuple ds)
  | tok {a : Addr} : H a = some (.ext (tokP a)) → Dp K H (.ref a) (.dict [])
  /-- the script -/
  | scr {a : Addr} {ns : List Int} : SqL K H a (ns.map V.int) → Dp K H (.ref a) (.dict [(.none, .list (ns.map PyData.int))])
inductive DpAll (K : PySem.W.Frag) (H : Hp) : List V → List PyData → Prop
  | nil : DpAll K H [] []
  | cons {v : V} {vs : List V} {d : PyData} {ds : List PyData} : Dp K H v d → DpAll K H vs ds → DpAll K H (v :: vs) (d :: ds)
end
section
variable {K : PySem.W.Frag} {H H' : Hp}
theorem same_rd {a : Addr} {u : HO} (e : Same H H') (h : Rd H a u) : Rd H' a u := by
  rcases h with h | ⟨o, h⟩
  · exact .inl (e _ _ h)
  · exact .inr ⟨o, e _ _ h⟩
theorem same_l {a : Addr} {xs : List V} (e : Same H H') (h : SqL K H a xs) : SqL K H' a xs := by
  rcases h with h | h
  · exact .inl (same_rd e h)
  · exact .inr h
theorem same_t {a : Addr} {xs : List V} (e : Same H H') (h : SqT K H a xs) : SqT K H' a xs := by
  rcases h with h | h
  · exact .inl (same_rd e h)
  · exact .inr h
mutual
theorem dp_mono (e : Same H H') : ∀ (d : D) (v : V), Dp K H v d → Dp K H' v d
  | .none, _, h => by cases h; exact .non
  | .bool _, _, h => by cases h; exact .bl _
  | .int _, _, h => by cases h; exact .int _
  | .str _, _, h => by cases h; exact .str _
  | .list ds, _, h => by
    cases h with
    | lst hs ha => exact .lst (e _ _ hs) (da_mono e ds _ ha)
  | .tuple ds, _, h => by
    cases h with
    | tup hs ha => exact .tup (same_t e hs) (da_mono e ds _ ha)
  | .dict _, _, h => by
    cases h with
    | tok q => exact .tok (e _ _ q)
    | scr q => exact .scr (same_l e q)
theorem da_mono (e : Same H H') : ∀ (ds : List D) (vs : List V), DpAll K H vs ds → DpAll K H' vs ds
  | [], _, h => by cases h; exact .nil
  | d :: ds, _, h => by
    cases h with
    | cons h1 h2 => exact .cons (dp_mono e d _ h1) (da_mono e ds _ h2)
end
mutual
/-- plain data -/
theorem dp_plain : ∀ (d : D) (v : V), Dp K H v d → d.canLay0 = true → L2.Dp K H v d
  | .none, _, h, _ => by cases h; exact .non
  | .bool _, _, h, _ => by cases h; exact .bl _
  | .int _, _, h, _ => by cases h; exact .int _
  | .str _, _, h, _ => by cases h; exact .str _
  | .list ds, _, h, q => by
    cases h with
    | lst hs ha => exact .lst (SqL.of hs) (da_plain ds _ ha q)
  | .tuple ds, _, h, q => by
    cases h with
    | tup hs ha => exact .tup hs (da_plain ds _ ha q)
  | .dict _, _, h, q => by cases q
theorem da_plain : ∀ (ds : List D) (vs : List V), DpAll K H vs ds → PyData.canLayAll0 ds = true → L2.DpAll K H vs ds
  | [], _, h, _ => by cases h; exact .nil
  | d :: ds, _, h, q => by
    cases h with
    | cons h1 h2 =>
      have q' := Bool.and_eq_true_iff.mp (show (d.canLay0 && PyData.canLayAll0 ds) = true from q)
      exact .cons (dp_plain d _ h1 q'.1) (da_plain ds _ h2 q'.2)
end
theorem da_len : ∀ {ds : List D} {vs : List V}, DpAll K H vs ds → vs.length = ds.length
  | [], _, h => by cases h; rfl
  | d :: ds, _, h => by
    cases h with
    | cons h1 h2 => rw [List.length_cons, List.length_cons, da_len h2]
theorem da_get : ∀ {ds : List D} {vs : List V} {i : Nat} {d : D}, DpAll K H vs ds → ds[i]? = some d → ∃ v, vs[i]? = some v ∧ Dp K H v d
  | [], _, _, _, _, e => by simp at e
  | d :: ds, _, 0, d', .cons h1 h2, e => by
    have e' : d = d' := by simpa using e
    subst e'
    exact ⟨_, rfl, h1⟩
  | d :: ds, _, i + 1, d', .cons h1 h2, e => by
    obtain ⟨v, e1, e2⟩ := da_get (i := i) (d := d') h2 (by simpa using e)
    exact ⟨v, by simpa using e1, e2⟩
theorem da_get' : ∀ {ds : List D} {vs : List V} {i : Nat} {v : V}, DpAll K H vs ds → vs[i]? = some v → ∃ d, ds[i]? = some d ∧ Dp K H v d
  | [], _, _, _, .nil, e => by simp at e
  | d :: ds, _, 0, v', .cons (v := v) h1 h2, e => by
    have e' : v = v' := by simpa using e
    subst e'
    exact ⟨_, rfl, h1⟩
  | d :: ds, _, i + 1, v', .cons h1 h2, e => by
    obtain ⟨d', e1, e2⟩ := da_get' (i := i) (v := v') h2 (by simpa using e)
    exact ⟨d', by simpa using e1, e2⟩
theorem da_app : ∀ {ds es : List D} {vs ws : List V}, DpAll K H vs ds → DpAll K H ws es → DpAll K H (vs ++ ws) (ds ++ es)
  | [], _, _, _, .nil, h => h
  | d :: ds, es, _, _, .cons h1 h2, h => .cons h1 (da_app h2 h)
theorem da_one {v : V} {d : D} (h : Dp K H v d) : DpAll K H [v] [d] := .cons h .nil
theorem da_take : ∀ {ds : List D} {vs : List V} (n : Nat), DpAll K H vs ds → DpAll K H (vs.take n) (ds.take n)
  | _, _, 0, _ => .nil
  | _, _, n + 1, .nil => .nil
  | _, _, n + 1, .cons h1 h2 => .cons h1 (da_take n h2)
theorem da_drop : ∀ {ds : List D} {vs : List V} (n : Nat), DpAll K H vs ds → DpAll K H (vs.drop n) (ds.drop n)
  | _, _, 0, h => h
  | _, _, n + 1, .nil => .nil
  | _, _, n + 1, .cons _ h2 => da_drop n h2
theorem da_set {v : V} {d : D} (h : Dp K H v d) : ∀ {ds : List D} {vs : List V} (i : Nat), DpAll K H vs ds → DpAll K H (vs.set i v) (ds.set i d)
  | _, _, _, .nil => .nil
  | _, _, 0, .cons _ h2 => .cons h h2
  | _, _, i + 1, .cons h1 h2 => .cons h1 (da_set h i h2)
theorem da_dropLast {ds : List D} {vs : List V} (h : DpAll K H vs ds) : DpAll K H vs.dropLast ds.dropLast := by
  rw [List.dropLast_eq_take, List.dropLast_eq_take, da_len h]
  exact da_take _ h
theorem da_rep {ds : List D} {vs : List V} (h : DpAll K H vs ds) : ∀ n, DpAll K H (List.replicate n vs).flatten (List.replicate n ds).flatten
  | 0 => .nil
  | n + 1 => by
    rw [List.replicate_succ, List.replicate_succ, List.flatten_cons, List.flatten_cons]
    exact da_app h (da_rep h n)
end

/-- what is written where: c0, h0 at the def's entry; e: what is wanted of an error -/
structure Cfg where
  A : Hp
  H : Hp
/-- A: what stays as it is; H: all; both grow -/
structure Gr (A H A' H' : Hp) : Prop where
  ex : Same H H'
  exA : Same A A'
  sub : Same A' H'
  new : ∀ a, A' a ≠ none → A a ≠ none ∨ H a = none
theorem Gr.refl {A H : Hp} (h : Same A H) : Gr A H A H := ⟨Same.refl _, Same.refl _, h, fun _ h => .inl h⟩
theorem Gr.trans {A H A1 H1 A2 H2 : Hp} (g : Gr A H A1 H1) (k : Gr A1 H1 A2 H2) : Gr A H A2 H2 :=
  ⟨g.ex.trans k.ex, g.exA.trans k.exA, k.sub, fun a h => (k.new a h).elim (fun h1 => g.new a h1) fun h1 => .inr (g.ex.free h1)⟩
theorem same_upd {H : Hp} {p : Addr} {o : HO} (h : H p = none) : Same H (upd H p o) := fun b x e => by
  rw [upd_ne (ne_of_none e h)]
  exact e
theorem same_upd2 {A H : Hp} {p : Addr} {o : HO} (s : Same A H) (h : H p = none) : Same (upd A p o) (upd H p o) := fun b x e => by
  by_cases q : b = p
  · subst q; rw [upd_same] at e ⊢; exact e
  · rw [upd_ne q] at e ⊢; exact s _ _ e
/-- a new thing that stays as it is -/
theorem Gr.alloc {A H : Hp} {p : Addr} {o : HO} (s : Same A H) (h : H p = none) : Gr A H (upd A p o) (upd H p o) :=
  ⟨same_upd h, same_upd (s.free h), same_upd2 s h, fun a ha => by
    by_cases q : a = p
    · subst q; exact .inr h
    · rw [upd_ne q] at ha; exact .inl ha⟩
/-- a new thing of one's own -/
theorem Gr.own {A H : Hp} {p : Addr} {o : HO} (s : Same A H) (h : H p = none) : Gr A H A (upd H p o) :=
  ⟨same_upd h, Same.refl _, s.trans (same_upd h), fun _ ha => .inl ha⟩
/-- a thing of one's own comes to stay as it is -/
theorem Gr.keep {A H A' H' : Hp} {p : Addr} {o : HO} (g : Gr A H A' H') (h : H p = none) (e : H' p = some o) (n : A' p = none) : Gr A H (upd A' p o) H' :=
  ⟨g.ex, g.exA.trans (same_upd n), fun b x q => by
    by_cases z : b = p
    · subst z; rw [upd_same] at q; cases q; exact e
    · rw [upd_ne z] at q; exact g.sub _ _ q, fun a ha => by
    by_cases q : a = p
    · subst q; exact .inr h
    · rw [upd_ne q] at ha; exact g.new a ha⟩

section
variable (K : PySem.W.Frag) (mg : Str → Option Value)
/-- the fields of an object -/
inductive FlR (A H : Hp) : List (Str × Fl) → List (Str × V) → List Addr → Prop
  | nil : FlR A H [] [] []
  | fr {n : Str} {d : D} {v : V} {fs : List (Str × Fl)} {vs : List (Str × V)} {as : List Addr} : Dp K A v d → FlR A H fs vs as → FlR A H ((n, .fr d) :: fs) ((n, v) :: vs) as
  | ow {n : Str} {ds : List D} {a : Addr} {xs : List V} {fs : List (Str × Fl)} {vs : List (Str × V)} {as : List Addr} : H a = some (.lst xs) → DpAll K A xs ds → FlR A H fs vs as → FlR A H ((n, .ow ds) :: fs) ((n, .ref a) :: vs) (a :: as)
/-- a slot -/
def SlR (A H : Hp) : Sl → Option V → List Addr → Prop
  | .un, _, fp => fp = []
  | .fr d, v, fp => (∃ u, v = some u ∧ Dp K A u d) ∧ fp = []
  | .ow ds, v, fp => ∃ a xs, v = some (.ref a) ∧ H a = some (.lst xs) ∧ DpAll K A xs ds ∧ fp = [a]
  | .ob c fs, v, fp => ∃ x C dx vs as, v = some (.ref x) ∧ mg c = some (.ref C) ∧ H x = some (.ins C dx vs) ∧ FlR K A H fs vs as ∧ fp = x :: as
/-- an error -/
def ExnAt (x : Exn) (cls : Value) (dd : Option Addr) (A H : Hp) : Prop :=
  ∃ C, cls = .ref C ∧ mg x.cls = some (.ref C) ∧ match x.arg with
    | none => dd = none
    | some (f, d) => ∃ a v, dd = some a ∧ H a = some (.xd [(f, v)]) ∧ Dp K A v d
/-- the heap since the def's entry -/
structure Bas (c : Cfg) (A H : Hp) : Prop where
  sA : Same c.A A
  sAH : Same A H
  sH : Same c.H H
  nw : ∀ a, A a ≠ none → c.A a ≠ none ∨ c.H a = none
structure Rel (c : Cfg) (env : Env) (σ : St) (A H : Hp) : Prop where
  bas : Bas c A H
  len : env.length = σ.length
  own : ∃ fp : Nat → List Addr, (∀ i s w, env[i]? = some s → σ[i]? = some w → SlR K mg A H s w (fp i)) ∧ (∀ i j a, a ∈ fp i → a ∈ fp j → i = j) ∧
    ∀ i, (fp i).Nodup ∧ ∀ a ∈ fp i, A a = none ∧ c.H a = none ∧ H a ≠ none
end
section
variable {K : PySem.W.Frag} {mg : Str → Option Value} {c : Cfg} {env : Env} {σ : St} {A H A' H' : Hp}
theorem FlR.grow (g : Same H H') (gA : Same A A') : ∀ {fs : List (Str × Fl)} {vs : List (Str × V)} {as : List Addr}, FlR K A H fs vs as → FlR K A' H' fs vs as
  | _, _, _, .nil => .nil
  | _, _, _, .fr h r => .fr (dp_mono gA _ _ h) (FlR.grow g gA r)
  | _, _, _, .ow e h r => .ow (g _ _ e) (da_mono gA _ _ h) (FlR.grow g gA r)
theorem FlR.kept (gA : Same A A') : ∀ {fs : List (Str × Fl)} {vs : List (Str × V)} {as : List Addr}, (∀ b o, H b = some o → b ∈ as → H' b = some o) → FlR K A H fs vs as → FlR K A' H' fs vs as
  | _, _, _, _, .nil => .nil
  | _, _, _, g, .fr h r => .fr (dp_mono gA _ _ h) (FlR.kept gA g r)
  | _, _, _, g, .ow e h r => .ow (g _ _ e List.mem_cons_self) (da_mono gA _ _ h) (FlR.kept gA (fun b o q m => g b o q (List.mem_cons_of_mem _ m)) r)
theorem SlR.grow {s : Sl} {w : Option V} {fp : List Addr} (g : Same H H') (gA : Same A A') (r : SlR K mg A H s w fp) : SlR K mg A' H' s w fp := by
  cases s with
  | un => exact r
  | fr d =>
    obtain ⟨⟨u, e, h⟩, q⟩ := r
    exact ⟨⟨u, e, dp_mono gA _ _ h⟩, q⟩
  | ow ds =>
    obtain ⟨a, xs, e, h, k, q⟩ := r
    exact ⟨a, xs, e, g _ _ h, da_mono gA _ _ k, q⟩
  | ob n fs =>
    obtain ⟨x, C, dx, vs, as, e, m, h, k, q⟩ := r
    exact ⟨x, C, dx, vs, as, e, m, g _ _ h, k.grow g gA, q⟩
theorem Bas.grow (b : Bas c A H) (g : Gr A H A' H') : Bas c A' H' :=
  ⟨b.sA.trans g.exA, g.sub, b.sH.trans g.ex, fun a h => (g.new a h).elim (b.nw a) fun q => .inr (b.sH.free q)⟩
theorem Rel.grow (r : Rel K mg c env σ A H) (g : Gr A H A' H') : Rel K mg c env σ A' H' := by
  obtain ⟨fp, h1, h2, h3⟩ := r.own
  refine ⟨r.bas.grow g, r.len, fp, fun i s w e1 e2 => (h1 i s w e1 e2).grow g.ex g.exA, h2, fun i => ⟨(h3 i).1, fun a ha => ?_⟩⟩
  obtain ⟨q1, q2, q3⟩ := (h3 i).2 a ha
  refine ⟨?_, q2, ?_⟩
  · cases z : A' a with
    | none => rfl
    | some o =>
      rcases g.new a (by rw [z]; simp) with y | y
      · exact absurd q1 y
      · exact absurd y q3
  · intro z
    exact q3 (g.ex.free z)
/-- since the entry -/
theorem Bas.gr (b : Bas c A H) : Gr c.A c.H A H := ⟨b.sH, b.sA, b.sAH, b.nw⟩
theorem Rel.fr (r : Rel K mg c env σ A H) {i : Nat} {d : D} (h : env[i]? = some (.fr d)) : ∃ v, σ[i]? = some (some v) ∧ Dp K A v d := by
  obtain ⟨fp, h1, h2, h3⟩ := r.own
  have hi : i < σ.length := by rw [← r.len]; exact (List.getElem?_eq_some_iff.mp h).1
  obtain ⟨⟨u, e, k⟩, _⟩ := h1 i _ _ h (List.getElem?_eq_getElem hi)
  exact ⟨u, by rw [List.getElem?_eq_getElem hi, e], k⟩
theorem Rel.ow (r : Rel K mg c env σ A H) {i : Nat} {ds : List D} (h : env[i]? = some (.ow ds)) : ∃ a xs, σ[i]? = some (some (.ref a)) ∧ H a = some (.lst xs) ∧ DpAll K A xs ds ∧ A a = none ∧ c.H a = none := by
  obtain ⟨fp, h1, h2, h3⟩ := r.own
  have hi : i < σ.length := by rw [← r.len]; exact (List.getElem?_eq_some_iff.mp h).1
  obtain ⟨a, xs, e, k, q, f⟩ := h1 i _ _ h (List.getElem?_eq_getElem hi)
  obtain ⟨q1, q2, q3⟩ := (h3 i).2 a (by rw [f]; simp)
  exact ⟨a, xs, by rw [List.getElem?_eq_getElem hi, e], k, q, q1, q2⟩
/-- slot i comes to hold something else; the things of slot i (at ai), and new ones, may have changed -/
theorem Rel.put (r : Rel K mg c env σ A H) (i : Nat) {s' : Sl} {w' : Option V} {fp' : List Addr} {A' H' : Hp} (sA : Same A A') (sAH : Same A' H')
    (old : ∀ (fi : List Addr), (∀ s w, env[i]? = some s → σ[i]? = some w → SlR K mg A H s w fi) → fi.Nodup → (∀ a ∈ fi, A a = none ∧ c.H a = none ∧ H a ≠ none) →
      (∀ b o, H b = some o → b ∉ fi → H' b = some o) ∧ (∀ a, A' a ≠ none → A a ≠ none ∨ H a = none ∨ a ∈ fi) ∧ SlR K mg A' H' s' w' fp' ∧ fp'.Nodup ∧ ∀ a ∈ fp', A' a = none ∧ H' a ≠ none ∧ (H a = none ∨ a ∈ fi)) :
    Rel K mg c (env.set i s') (σ.set i w') A' H' := by
  obtain ⟨fp, h1, h2, h3⟩ := r.own
  obtain ⟨k1, k2, k3, k4, k5⟩ := old (fp i) (fun s w => h1 i s w) (h3 i).1 (h3 i).2
  have hc : ∀ a, c.H a ≠ none → H a ≠ none := fun a h z => h (r.bas.sH.free z)
  have frame : ∀ j, j ≠ i → ∀ a ∈ fp j, a ∉ fp i := fun j hj a h z => hj (h2 j i a h z)
  refine ⟨⟨r.bas.sA.trans sA, sAH, fun b o e => k1 b o (r.bas.sH _ _ e) fun z => ?_, fun a h => ?_⟩, by rw [List.length_set, List.length_set]; exact r.len, fun j => if j = i then fp' else fp j, fun j s w e1 e2 => ?_, fun j l a m1 m2 => ?_, fun j => ?_⟩
  · rw [((h3 i).2 b z).2.1] at e; cases e
  · rcases k2 a h with q | q | q
    · exact r.bas.nw a q
    · exact .inr (r.bas.sH.free q)
    · exact .inr ((h3 i).2 a q).2.1
  · by_cases hj : j = i
    · subst hj
      have hlt : j < env.length := by
        have := (List.getElem?_eq_some_iff.mp e1).1
        rw [List.length_set] at this
        exact this
      rw [List.getElem?_set_self hlt] at e1
      rw [List.getElem?_set_self (by rw [← r.len]; exact hlt)] at e2
      cases e1; cases e2
      show SlR K mg A' H' s' w' (if j = j then fp' else fp j)
      rw [if_pos rfl]
      exact k3
    · rw [List.getElem?_set_ne (Ne.symm hj)] at e1 e2
      show SlR K mg A' H' s w (if j = i then fp' else fp j)
      rw [if_neg hj]
      have q := h1 j s w e1 e2
      have qf := frame j hj
      have qn := (h3 j).2
      -- what slot j holds was not touched
      have keep : ∀ b o, H b = some o → b ∈ fp j → H' b = some o := fun b o e m => k1 b o e (qf b m)
      cases s with
      | un => exact q
      | fr d =>
        obtain ⟨⟨u, e, h⟩, z⟩ := q
        exact ⟨⟨u, e, dp_mono sA _ _ h⟩, z⟩
      | ow ds =>
        obtain ⟨a, xs, e, h, k, z⟩ := q
        exact ⟨a, xs, e, keep _ _ h (by rw [z]; simp), da_mono sA _ _ k, z⟩
      | ob n fs =>
        obtain ⟨x, C, dx, vs, as, e, m, h, k, z⟩ := q
        exact ⟨x, C, dx, vs, as, e, m, keep _ _ h (by rw [z]; simp), k.kept sA fun b o q mm => keep b o q (by rw [z]; exact List.mem_cons_of_mem _ mm), z⟩
  · by_cases hj : j = i <;> by_cases hl : l = i
    · exact hj.trans hl.symm
    · simp only [hj, hl, if_true, if_false] at m1 m2
      rcases (k5 a m1).2.2 with z | z
      · exact absurd z ((h3 l).2 a m2).2.2
      · exact absurd (h2 i l a z m2).symm hl
    · simp only [hj, hl, if_true, if_false] at m1 m2
      rcases (k5 a m2).2.2 with z | z
      · exact absurd z ((h3 j).2 a m1).2.2
      · exact absurd (h2 i j a z m1).symm hj
    · simp only [hj, hl, if_false] at m1 m2
      exact h2 j l a m1 m2
  · by_cases hj : j = i
    · simp only [hj, if_true]
      refine ⟨k4, fun a ha => ⟨(k5 a ha).1, ?_, (k5 a ha).2.1⟩⟩
      rcases (k5 a ha).2.2 with z | z
      · exact r.bas.sH.free z
      · exact ((h3 i).2 a z).2.1
    · simp only [hj, if_false]
      refine ⟨(h3 j).1, fun a ha => ?_⟩
      obtain ⟨q1, q2, q3⟩ := (h3 j).2 a ha
      refine ⟨?_, q2, ?_⟩
      · cases z : A' a with
        | none => rfl
        | some o =>
          rcases k2 a (by rw [z]; simp) with y | y | y
          · exact absurd q1 y
          · exact absurd y q3
          · exact absurd y (frame j hj a ha)
      · cases z : H a with
        | none => exact absurd z q3
        | some o => rw [k1 a o z (frame j hj a ha)]; simp
/-- data is stored -/
theorem Rel.set (r : Rel K mg c env σ A H) (i : Nat) {d : D} {v : V} (h : Dp K A v d) : Rel K mg c (env.set i (.fr d)) (σ.set i (some v)) A H :=
  r.put i (Same.refl _) r.bas.sAH (fp' := []) fun fi _ _ _ => ⟨fun _ _ e _ => e, fun _ h => .inl h, ⟨⟨v, rfl, h⟩, rfl⟩, List.nodup_nil, fun a ha => by cases ha⟩
/-- a slot is forgotten -/
theorem Rel.wipe (r : Rel K mg c env σ A H) (i : Nat) : Rel K mg c (env.set i .un) σ A H := by
  by_cases hi : i < σ.length
  · have q := r.put i (s' := .un) (w' := σ[i]) (Same.refl _) r.bas.sAH (fp' := []) fun fi _ _ _ => ⟨fun _ _ e _ => e, fun _ h => .inl h, rfl, List.nodup_nil, fun a ha => by cases ha⟩
    rw [List.set_getElem_self] at q
    exact q
  · rw [List.set_eq_of_length_le (by rw [r.len]; omega)]
    exact r
theorem Rel.wipe' (r : Rel K mg c env σ A H) (i : Nat) : Rel K mg c (env.set i .un) (σ.set i none) A H :=
  r.put i (s' := .un) (w' := none) (Same.refl _) r.bas.sAH (fp' := []) fun fi _ _ _ => ⟨fun _ _ e _ => e, fun _ h => .inl h, rfl, List.nodup_nil, fun a ha => by cases ha⟩
/-- a new list is stored, one's own -/
theorem Rel.setOw (r : Rel K mg c env σ A H) (i : Nat) {p : Addr} {xs : List V} {ds : List D} {H' A' : Hp} (g : Gr A H A' H') (hp : H p = none) (hA : A' p = none) (e : H' p = some (.lst xs)) (h : DpAll K A' xs ds) :
    Rel K mg c (env.set i (.ow ds)) (σ.set i (some (.ref p))) A' H' :=
  r.put i (fp' := [p]) g.exA g.sub fun fi _ _ _ => ⟨fun _ _ e _ => g.ex _ _ e, fun a ha => (g.new a ha).elim .inl fun z => .inr (.inl z), ⟨p, xs, rfl, e, h, rfl⟩, by simp, fun a ha => by
    have z : a = p := by simpa using ha
    subst z
    exact ⟨hA, by rw [e]; simp, .inl hp⟩⟩
/-- the list of a slot is changed -/
theorem Rel.chg (r : Rel K mg c env σ A H) (i : Nat) {a : Addr} {ds es : List D} {ys : List V} (he : env[i]? = some (.ow ds)) (hs : σ[i]? = some (some (.ref a))) (h : DpAll K A ys es) :
    Rel K mg c (env.set i (.ow es)) σ A (upd H a (.lst ys)) := by
  have e0 : σ.set i (some (.ref a)) = σ := by
    have hi := (List.getElem?_eq_some_iff.mp hs).1
    have e1 := (List.getElem?_eq_some_iff.mp hs).2
    rw [← e1, List.set_getElem_self]
  have q := r.put i (s' := .ow es) (w' := some (.ref a)) (fp' := [a]) (A' := A) (H' := upd H a (.lst ys)) (Same.refl _) (fun b o e => ?_) fun fi hfi _ hn => ?_
  · rw [e0] at q; exact q
  · obtain ⟨a', xs, z1, z2, z3, z4, z5⟩ := r.ow he
    rw [hs] at z1
    cases z1
    rw [upd_ne (fun z => by rw [z, z4] at e; cases e)]
    exact r.bas.sAH _ _ e
  · obtain ⟨a', xs, z1, z2, z3, z4⟩ := hfi _ _ he hs
    cases z1
    have m : a ∈ fi := by rw [z4]; simp
    refine ⟨fun b o e n => ?_, fun _ h => .inl h, ⟨a, ys, rfl, upd_same, h, rfl⟩, by simp, fun b hb => ?_⟩
    · rw [upd_ne (fun z => n (by rw [z]; exact m))]; exact e
    · have z : b = a := by simpa using hb
      subst z
      exact ⟨(hn _ m).1, by rw [upd_same]; simp, .inr m⟩
/-- the list of a slot comes to stay as it is -/
theorem Rel.freeze (r : Rel K mg c env σ A H) (i : Nat) {ds : List D} (he : env[i]? = some (.ow ds)) :
    ∃ a A', σ[i]? = some (some (.ref a)) ∧ Rel K mg c (env.set i (.fr (.list ds))) σ A' H ∧ Dp K A' (.ref a) (.list ds) := by
  obtain ⟨a, xs, hs, hl, hd, hA, hc⟩ := r.ow he
  have sA : Same A (upd A a (.lst xs)) := same_upd hA
  have hd' : Dp K (upd A a (.lst xs)) (.ref a) (.list ds) := .lst upd_same (da_mono sA _ _ hd)
  refine ⟨a, upd A a (.lst xs), hs, ?_, hd'⟩
  have e0 : σ.set i (some (.ref a)) = σ := by
    have e1 := (List.getElem?_eq_some_iff.mp hs).2
    rw [← e1, List.set_getElem_self]
  have q := r.put i (s' := .fr (.list ds)) (w' := some (.ref a)) (fp' := []) (A' := upd A a (.lst xs)) (H' := H) sA (fun b o e => ?_) fun fi hfi _ hn => ?_
  · rw [e0] at q; exact q
  · by_cases z : b = a
    · subst z; rw [upd_same] at e; cases e; exact hl
    · rw [upd_ne z] at e; exact r.bas.sAH _ _ e
  · obtain ⟨a', xs', z1, z2, z3, z4⟩ := hfi _ _ he hs
    cases z1
    refine ⟨fun _ _ e _ => e, fun b hb => ?_, ⟨⟨.ref a, rfl, hd'⟩, rfl⟩, List.nodup_nil, fun b hb => by cases hb⟩
    by_cases z : b = a
    · subst z; exact .inr (.inr (by rw [z4]; simp))
    · rw [upd_ne z] at hb; exact .inl hb
/-- the same, whatever the entry was -/
def Rl (K : PySem.W.Frag) (mg : Str → Option Value) (env : Env) (σ : St) (A H : Hp) : Prop := ∃ c, Rel K mg c env σ A H
theorem Rel.rl (r : Rel K mg c env σ A H) : Rl K mg env σ A H := ⟨c, r⟩
theorem Rl.sAH (r : Rl K mg env σ A H) : Same A H := r.elim fun _ r => r.bas.sAH
theorem Rl.grow (r : Rl K mg env σ A H) (g : Gr A H A' H') : Rl K mg env σ A' H' := r.elim fun c r => ⟨c, r.grow g⟩
theorem Rl.fr (r : Rl K mg env σ A H) {i : Nat} {d : D} (h : env[i]? = some (.fr d)) : ∃ v, σ[i]? = some (some v) ∧ Dp K A v d := r.elim fun _ r => r.fr h
theorem Rl.ow (r : Rl K mg env σ A H) {i : Nat} {ds : List D} (h : env[i]? = some (.ow ds)) : ∃ a xs, σ[i]? = some (some (.ref a)) ∧ H a = some (.lst xs) ∧ DpAll K A xs ds ∧ A a = none := r.elim fun _ r => by
  obtain ⟨a, xs, h1, h2, h3, h4, _⟩ := r.ow h
  exact ⟨a, xs, h1, h2, h3, h4⟩
theorem Rl.set (r : Rl K mg env σ A H) (i : Nat) {d : D} {v : V} (h : Dp K A v d) : Rl K mg (env.set i (.fr d)) (σ.set i (some v)) A H := r.elim fun c r => ⟨c, r.set i h⟩
theorem Rl.wipe' (r : Rl K mg env σ A H) (i : Nat) : Rl K mg (env.set i .un) (σ.set i none) A H := r.elim fun c r => ⟨c, r.wipe' i⟩
end
end TB

/-! TBB: expressions. -/
namespace TB
open PySem PySem.Spec L2
open PyProof.Rows hiding St

/-! ### the end of an evaluation -/
section
variable (K : PySem.W.Frag) (mg : Str → Option Value)
def Fin {α β : Type} (R : α → β → Hp → Hp → Hp → Prop) (c : XK) (A H : Hp) : Res α → (β → Hp → Prop) → Prop
  | .ok a, Q => ∀ b A' H', Gr A H A' H' → R a b H A' H' → Q b H'
  | .ex x, _ => ∀ cls dd A' H', Gr A H A' H' → ExnAt K mg x cls dd A' H' → c cls dd H'
  | .no, _ => False
  | .any P k, Q => ∀ i, P i → Fin R c A H (k i) Q
def tX {α β : Type} (R : α → β → Hp → Hp → Hp → Prop) (c : XK) (f : Env → Res α) : L2.St → Hp → (β → Hp → Prop) → Prop :=
  fun σ H Q => ∃ env A, Rl K mg env σ A H ∧ Fin K mg R c A H (f env) Q
/-- data | the items of a list | of a tuple | of either | of a new list | a truth | arguments -/
def rD : D → V → Hp → Hp → Hp → Prop := fun d v _ A _ => Dp K A v d
def rL : List D → V → Hp → Hp → Hp → Prop := fun ds v _ A H => ∃ a xs, v = .ref a ∧ H a = some (.lst xs) ∧ DpAll K A xs ds
def rU : List D → V → Hp → Hp → Hp → Prop := fun ds v _ A _ => ∃ a xs, v = .ref a ∧ SqT K A a xs ∧ DpAll K A xs ds
def rQ : List D → V → Hp → Hp → Hp → Prop := fun ds v _ A H => ∃ a xs, v = .ref a ∧ (SqL K H a xs ∨ SqT K H a xs) ∧ DpAll K A xs ds
def rF : List D → V → Hp → Hp → Hp → Prop := fun ds v H0 A H => ∃ p xs, v = .ref p ∧ H0 p = none ∧ A p = none ∧ H p = some (.lst xs) ∧ DpAll K A xs ds
def rB : Bool → Bool → Hp → Hp → Hp → Prop := fun a b _ _ _ => b = a
def rBl : Bool → V → Hp → Hp → Hp → Prop := fun a v _ _ _ => v = .bl a
def rA : List D → List V → Hp → Hp → Hp → Prop := fun ds vs _ A _ => DpAll K A vs ds
end
/-- later starts, later ends -/
class Bk {α β : Type} (R : α → β → Hp → Hp → Hp → Prop) : Prop where
  bk : ∀ {a b H H' A2 H2}, Same H H' → R a b H' A2 H2 → R a b H A2 H2
class Mn {α β : Type} (R : α → β → Hp → Hp → Hp → Prop) : Prop where
  mn : ∀ {a b H0 A H A2 H2}, Gr A H A2 H2 → R a b H0 A H → R a b H0 A2 H2
section
variable {K : PySem.W.Frag}
instance : Bk (rD K) := ⟨fun _ h => h⟩
instance : Bk (rL K) := ⟨fun _ h => h⟩
instance : Bk (rU K) := ⟨fun _ h => h⟩
instance : Bk (rQ K) := ⟨fun _ h => h⟩
instance : Bk (rA K) := ⟨fun _ h => h⟩
instance : Bk rB := ⟨fun _ h => h⟩
instance : Bk rBl := ⟨fun _ h => h⟩
instance : Bk (rF K) := ⟨fun s h => by
  obtain ⟨p, xs, e, n, q⟩ := h
  exact ⟨p, xs, e, s.free n, q⟩⟩
instance : Mn (rD K) := ⟨fun g h => dp_mono g.exA _ _ h⟩
instance : Mn (rA K) := ⟨fun g h => da_mono g.exA _ _ h⟩
instance : Mn (rL K) := ⟨fun g h => by
  obtain ⟨a, xs, e, s, q⟩ := h
  exact ⟨a, xs, e, g.ex _ _ s, da_mono g.exA _ _ q⟩⟩
instance : Mn (rU K) := ⟨fun g h => by
  obtain ⟨a, xs, e, s, q⟩ := h
  exact ⟨a, xs, e, same_t g.exA s, da_mono g.exA _ _ q⟩⟩
instance : Mn (rQ K) := ⟨fun g h => by
  obtain ⟨a, xs, e, s, q⟩ := h
  exact ⟨a, xs, e, s.elim (fun z => .inl (same_l g.ex z)) (fun z => .inr (same_t g.ex z)), da_mono g.exA _ _ q⟩⟩
instance : Mn rB := ⟨fun _ h => h⟩
instance : Mn rBl := ⟨fun _ h => h⟩
instance : Mn (rF K) := ⟨fun {a b H0 A H A2 H2} g h => by
  obtain ⟨p, xs, e, n, nA, s, q⟩ := h
  refine ⟨p, xs, e, n, ?_, g.ex _ _ s, da_mono g.exA _ _ q⟩
  cases z : A2 p with
  | none => rfl
  | some o =>
    rcases g.new p (by rw [z]; simp) with y | y
    · exact absurd nA y
    · rw [s] at y; cases y⟩
end
section
variable {K : PySem.W.Frag} {mg : Str → Option Value} {c : XK} {α β γ δ : Type} {R : α → β → Hp → Hp → Hp → Prop} {S : γ → δ → Hp → Hp → Hp → Prop} {A H A' H' : Hp}
theorem Fin.later [Bk R] {Q : β → Hp → Prop} (g : Gr A H A' H') : ∀ {r : Res α}, Fin K mg R c A H r Q → Fin K mg R c A' H' r Q
  | .ok a, h => fun b A2 H2 k q => h b A2 H2 (g.trans k) (Bk.bk g.ex q)
  | .ex x, h => fun cls dd A2 H2 k q => h cls dd A2 H2 (g.trans k) q
  | .no, h => h
  | .any P f, h => fun i hi => Fin.later (r := f i) g (h i hi)
theorem Fin.step [Bk S] {k : α → Res γ} {Q : δ → Hp → Prop} {Q' : β → Hp → Prop} : ∀ {r : Res α}, Fin K mg S c A H (r.bind k) Q →
    (∀ a b A' H', True → Gr A H A' H' → R a b H A' H' → Fin K mg S c A' H' (k a) Q → Q' b H') → Fin K mg R c A H r Q'
  | .ok a, h, hk => fun b A2 H2 g q => hk a b A2 H2 trivial g q (Fin.later (r := k a) g h)
  | .ex x, h, _ => h
  | .no, h, _ => h
  | .any P f, h, hk => fun i hi => Fin.step (r := f i) (h i hi) hk
theorem Fin.conv {Q : β → Hp → Prop} {S : α → δ → Hp → Hp → Hp → Prop} {Q' : δ → Hp → Prop} (i : ∀ a, (∀ b A' H', Gr A H A' H' → R a b H A' H' → Q b H') → ∀ b A' H', Gr A H A' H' → S a b H A' H' → Q' b H') :
    ∀ {r : Res α}, Fin K mg R c A H r Q → Fin K mg S c A H r Q'
  | .ok a, h => i a h
  | .ex x, h => h
  | .no, h => h
  | .any P f, h => fun j hj => Fin.conv i (r := f j) (h j hj)
/-- what is reckoned at once -/
theorem Fin.now {a : α} {b : β} {Q : β → Hp → Prop} (h : Fin K mg R c A H (.ok a) Q) (s : Same A H) (q : R a b H A H) : Q b H := h b A H (Gr.refl s) q
theorem Fin.at {a : α} {b : β} {Q : β → Hp → Prop} (h : Fin K mg R c A H (.ok a) Q) (g : Gr A H A' H') (q : R a b H A' H') : Q b H' := h b A' H' g q
theorem Fin.imp {k : α → γ} {Q : δ → Hp → Prop} {Q' : β → Hp → Prop} : ∀ {r : Res α}, Fin K mg S c A H (r.map k) Q →
    (∀ a b A' H', Gr A H A' H' → R a b H A' H' → (∀ d A2 H2, Gr A H A2 H2 → S (k a) d H A2 H2 → Q d H2) → Q' b H') → Fin K mg R c A H r Q'
  | .ok a, h, i => fun b A2 H2 g q => i a b A2 H2 g q h
  | .ex x, h, _ => h
  | .no, h, _ => h
  | .any P f, h, i => fun j hj => Fin.imp (r := f j) (h j hj) i
end

theorem pe_imp {X : Cx} {e : Expr} {t t' : TE} (h : PE X e t) (i : ∀ σ H Q, t' σ H Q → t σ H Q) : PE X e t' := ⟨fun pins s σ H Q I q => h.run pins s σ H Q I (i σ H Q q)⟩
theorem pt_imp {X : Cx} {e : Expr} {t t' : TT} (h : PT X e t) (i : ∀ σ H Q, t' σ H Q → t σ H Q) : PT X e t' := ⟨fun pins s σ H Q I q => h.run pins s σ H Q I (i σ H Q q)⟩
theorem pa_imp {X : Cx} {e : List Expr} {t t' : TA} (h : PA X e t) (i : ∀ σ H Q, t' σ H Q → t σ H Q) : PA X e t' := ⟨fun pos pins s σ H Q I q => h.run pos pins s σ H Q I (i σ H Q q)⟩
theorem pss_imp {X : Cx} {e : List Stmt} {t t' : TS} (h : PSs X e t) (i : ∀ D σ H, t' D σ H → t D σ H) : PSs X e t' := ⟨fun pins s σ H D I q => h.run pins s σ H D I (i D σ H q)⟩
theorem ps_imp {X : Cx} {e : Stmt} {t t' : TS} (h : PS X e t) (i : ∀ D σ H, t' D σ H → t D σ H) : PS X e t' := ⟨fun pins s σ H D I q => h.run pins s σ H D I (i D σ H q)⟩

/-! ### the judgements -/
abbrev DX (X : Cx) (c : XK) {α : Type} (R : α → V → Hp → Hp → Hp → Prop) (e : Expr) (f : Env → Res α) : Prop := PE X e (tX X.K X.mg R c f)
abbrev DE (X : Cx) (c : XK) (e : Expr) (f : SE) : Prop := PE X e (tX X.K X.mg (rD X.K) c f)
abbrev DL (X : Cx) (c : XK) (e : Expr) (f : SL) : Prop := PE X e (tX X.K X.mg (rL X.K) c f)
abbrev DU (X : Cx) (c : XK) (e : Expr) (f : SL) : Prop := PE X e (tX X.K X.mg (rU X.K) c f)
abbrev DQ (X : Cx) (c : XK) (e : Expr) (f : SL) : Prop := PE X e (tX X.K X.mg (rQ X.K) c f)
abbrev DF (X : Cx) (c : XK) (e : Expr) (f : SL) : Prop := PE X e (tX X.K X.mg (rF X.K) c f)
abbrev DT (X : Cx) (c : XK) (e : Expr) (f : ST) : Prop := PT X e (tX X.K X.mg rB c f)
abbrev DA (X : Cx) (c : XK) (es : List Expr) (f : SL) : Prop := PA X es (tX X.K X.mg (rA X.K) c f)

/-! ### the semantic functions -/
def sC (d : D) : SE := fun _ => .ok d
def sVar (i : Nat) : SE := fun env => match env[i]? with
  | some (.fr d) => .ok d
  | _ => .no
/-- a list's items: the slot's own list, or one that stays -/
def sVarL (i : Nat) : SL := fun env => match env[i]? with
  | some (.ow ds) => .ok ds
  | some (.fr (.list ds)) => .ok ds
  | _ => .no
def asL : D → Res (List D)
  | .list ds => .ok ds
  | _ => .no
def asU : D → Res (List D)
  | .tuple ds => .ok ds
  | _ => .no
def asQ : D → Res (List D)
  | .list ds => .ok ds
  | .tuple ds => .ok ds
  | .dict [(.none, .list ds)] => .ok ds
  | _ => .no
def asB : D → Res Bool
  | .bool b => .ok b
  | _ => .no
def s1 {α β : Type} (op : α → Res β) (f : Env → Res α) : Env → Res β := fun env => (f env).bind op
def s2 {α β γ : Type} (op : α → β → Res γ) (f : Env → Res α) (g : Env → Res β) : Env → Res γ := fun env => (f env).bind fun x => (g env).bind fun y => op x y
def sMap {α β : Type} (k : α → β) (f : Env → Res α) : Env → Res β := fun env => (f env).map k
def sNil : SL := fun _ => .ok []
def sCons (f : SE) (g : SL) : SL := fun env => (f env).bind fun d => (g env).map fun ds => d :: ds
def sAnd (f g : ST) : ST := fun env => (f env).bind fun b => if b = true then g env else .ok false
def sOr (f g : ST) : ST := fun env => (f env).bind fun b => if b = true then .ok true else g env
def sIte {α : Type} (t : ST) (f g : Env → Res α) : Env → Res α := fun env => (t env).bind fun b => if b = true then f env else g env

section
variable {X : Cx} {c : XK} {a b e : Expr} {f g : SE} {pos : Pos}
theorem de_of {t : TE} (h : PE X e t) {α : Type} {R : α → V → Hp → Hp → Hp → Prop} {f : Env → Res α} (i : ∀ env A σ H Q, Rl X.K X.mg env σ A H → Fin X.K X.mg R c A H (f env) Q → t σ H Q) : DX X c R e f :=
  pe_imp h fun σ H Q ⟨env, A, r, q⟩ => i env A σ H Q r q
theorem de_var (i : Nat) (h : PE X e (tVar i)) : DE X c e (sVar i) := de_of h fun env A σ H Q r q => by
  unfold sVar at q
  split at q
  · rename_i d hd
    obtain ⟨v, h1, h2⟩ := r.fr hd
    exact ⟨v, h1, Fin.now q r.sAH h2⟩
  · exact q.elim
theorem dl_var (i : Nat) (h : PE X e (tVar i)) : DL X c e (sVarL i) := de_of h fun env A σ H Q r q => by
  unfold sVarL at q
  split at q
  · rename_i d hd
    obtain ⟨p, xs, h1, h2, h3, _⟩ := r.ow hd
    exact ⟨.ref p, h1, Fin.now q r.sAH ⟨p, xs, rfl, h2, h3⟩⟩
  · rename_i d hd
    obtain ⟨v, h1, h2⟩ := r.fr hd
    cases h2 with
    | lst hs ha => exact ⟨_, h1, Fin.now q r.sAH ⟨_, _, rfl, r.sAH _ _ hs, ha⟩⟩
  · exact q.elim
theorem de_int {i : Int} {j} : DE X c (.Constant (.int i) j pos) (sC (.int i)) := de_of pe_int fun env A σ H Q r q => Fin.now q r.sAH (.int i)
theorem de_bl {b : Bool} {j} : DE X c (.Constant (.bool b) j pos) (sC (.bool b)) := de_of pe_bl fun env A σ H Q r q => Fin.now q r.sAH (.bl b)
theorem de_non {j} : DE X c (.Constant .none j pos) (sC .none) := de_of pe_non fun env A σ H Q r q => Fin.now q r.sAH .non
theorem de_str {x : Str} {j} : DE X c (.Constant (.str x) j pos) (sC (.str x)) := de_of pe_str fun env A σ H Q r q => Fin.now q r.sAH (.str x)
/-- a constant of the module -/
theorem de_glob {x : Str} {v : V} {d : D} {u : Value} (hg : Gl X x) (hm : X.mg x = some u) (r : RelV v u) (hd : ∀ A, Dp X.K A v d) (h1 : (x == ("__debug__" : Str)) = false := by decide) : DE X c (.Name x pos) (sC d) :=
  de_of (pe_glob hg hm r h1) fun env A σ H Q r q => Fin.now q r.sAH (hd A)

/-! ### from one kind to another -/
theorem dx_s1 {α β : Type} {R : α → V → Hp → Hp → Hp → Prop} {S : β → V → Hp → Hp → Hp → Prop} [Bk S] {f : Env → Res α} {op : α → Res β} (h : DX X c R e f)
    (i : ∀ (c : XK) A H0 H v a Q, Same A H → R a v H0 A H → Fin X.K X.mg S c A H (op a) Q → Q v H) : DX X c S e (s1 op f) :=
  pe_imp h fun σ H Q ⟨env, A, r, q⟩ => ⟨env, A, r, Fin.step q fun a v A' H' _ g k z => i c A' H H' v a Q g.sub k z⟩
theorem da_int {K : PySem.W.Frag} {H : Hp} : ∀ ns : List Int, DpAll K H (ns.map V.int) (ns.map PyData.int)
  | [] => .nil
  | n :: ns => .cons (.int n) (da_int ns)
theorem dl_of (h : DE X c e f) : DL X c e (s1 asL f) := dx_s1 h fun c A H0 H v d Q s k q => by
  cases k with
  | lst hs ha => exact Fin.now q s ⟨_, _, rfl, s _ _ hs, ha⟩
  | _ => exact q.elim
theorem du_of (h : DE X c e f) : DU X c e (s1 asU f) := dx_s1 h fun c A H0 H v d Q s k q => by
  cases k with
  | tup hs ha => exact Fin.now q s ⟨_, _, rfl, hs, ha⟩
  | _ => exact q.elim
theorem dq_of (h : DE X c e f) : DQ X c e (s1 asQ f) := dx_s1 h fun c A H0 H v d Q s k q => by
  cases k with
  | lst hs ha => exact Fin.now q s ⟨_, _, rfl, .inl (SqL.of (s _ _ hs)), ha⟩
  | tup hs ha => exact Fin.now q s ⟨_, _, rfl, .inr (same_t s hs), ha⟩
  | scr hs => exact Fin.now q s ⟨_, _, rfl, .inl (same_l s hs), da_int _⟩
  | _ => exact q.elim
theorem dl_new {f : SL} (h : DF X c e f) : DL X c e f := pe_imp h fun σ H Q ⟨env, A, r, q⟩ => ⟨env, A, r, q.conv fun ds q v A' H' g ⟨p, xs, e, n, nA, s, k⟩ => q v A' H' g ⟨p, xs, e, s, k⟩⟩
theorem dq_l {f : SL} (h : DL X c e f) : DQ X c e f := pe_imp h fun σ H Q ⟨env, A, r, q⟩ => ⟨env, A, r, q.conv fun ds q v A' H' g ⟨p, xs, e, s, k⟩ => q v A' H' g ⟨p, xs, e, .inl (SqL.of s), k⟩⟩
/-- a new list comes to stay as it is -/
theorem de_new {f : SL} (h : DF X c e f) : DE X c e (sMap .list f) := pe_imp h fun σ H Q ⟨env, A, r, q⟩ => ⟨env, A, r, Fin.imp q fun ds v A' H' g ⟨p, xs, e, n, nA, s, k⟩ z => by
  subst e
  refine z _ (upd A' p (.lst xs)) H' (g.keep n s nA) (.lst upd_same (da_mono (same_upd nA) _ _ k))⟩

/-! ### operators -/
/-- what an operator's rule gives on data -/
abbrev OpG (X : Cx) {α β γ : Type} (Ra : α → V → Hp → Hp → Hp → Prop) (Rb : β → V → Hp → Hp → Hp → Prop) (Rr : γ → V → Hp → Hp → Hp → Prop) (r : R2) (op : α → β → Res γ) : Prop :=
  ∀ (c : XK) (A H0 H1 H : Hp) (x y : V) (d : α) (e : β) (Q : VK), Same A H → Ra d x H0 A H → Rb e y H1 A H → Fin X.K X.mg Rr c A H (op d e) Q → r x y H Q
theorem op2 {α β γ : Type} {Ra : α → V → Hp → Hp → Hp → Prop} {Rb : β → V → Hp → Hp → Hp → Prop} {Rr : γ → V → Hp → Hp → Hp → Prop} [Mn Ra] [Bk Rr] {r : R2} {op : α → β → Res γ} {f : Env → Res α} {g : Env → Res β}
    (hd : OpG X Ra Rb Rr r op) {σ : L2.St} {H : Hp} {Q : VK} (h : tX X.K X.mg Rr c (s2 op f g) σ H Q) : tOp r (tX X.K X.mg Ra c f) (tX X.K X.mg Rb c g) σ H Q := by
  obtain ⟨env, A, r, q⟩ := h
  refine ⟨env, A, r, Fin.step q fun d x A1 H1 _ g1 k1 q1 => ⟨env, A1, r.grow g1, Fin.step q1 fun d2 y A2 H2 _ g2 k2 q2 => ?_⟩⟩
  exact hd c A2 H H1 H2 x y d d2 Q g2.sub (Mn.mn g2 k1) k2 q2
theorem dx_bin {α β γ : Type} {Ra : α → V → Hp → Hp → Hp → Prop} {Rb : β → V → Hp → Hp → Hp → Prop} {Rr : γ → V → Hp → Hp → Hp → Prop} [Mn Ra] [Bk Rr] {r : R2} {op : α → β → Res γ} {f : Env → Res α} {g : Env → Res β} {o : Operator}
    (ho : OpR X (binaryOp o) r) (hd : OpG X Ra Rb Rr r op) (ha : DX X c Ra a f) (hb : DX X c Rb b g) : DX X c Rr (.BinOp a o b pos) (s2 op f g) := pe_imp (pe_op ho ha hb) fun σ H Q h => op2 hd h
theorem dx_ix {α β γ : Type} {Ra : α → V → Hp → Hp → Hp → Prop} {Rb : β → V → Hp → Hp → Hp → Prop} {Rr : γ → V → Hp → Hp → Hp → Prop} [Mn Ra] [Bk Rr] {r : R2} {op : α → β → Res γ} {f : Env → Res α} {g : Env → Res β}
    (ho : IxR X r) (hd : OpG X Ra Rb Rr r op) (ha : DX X c Ra a f) (hb : DX X c Rb b g) (hs : PlainIx b) : DX X c Rr (.Subscript a b pos) (s2 op f g) := pe_imp (pe_ix ho ha hb hs) fun σ H Q h => op2 hd h
/-- a comparison: as a value, as a test -/
theorem de_cmp {α β : Type} {Ra : α → V → Hp → Hp → Hp → Prop} {Rb : β → V → Hp → Hp → Hp → Prop} [Mn Ra] {r : R2} {op : α → β → Res Bool} {f : Env → Res α} {g : Env → Res β} {o : CmpOp}
    (ho : OpR X (compareOp o) r) (hd : OpG X Ra Rb rBl r op) (hm : behindInMarks o b = false) (ha : DX X c Ra a f) (hb : DX X c Rb b g) : DE X c (.Compare a [o] [b] pos) (sMap .bool (s2 op f g)) :=
  pe_imp (pe_cmpR ho ha hb hm) fun σ H Q ⟨env, A, r, q⟩ => op2 hd ⟨env, A, r, Fin.imp q fun k v A' H' g e z => by
    subst e
    exact z _ A' H' g (.bl k)⟩
theorem dt_cmp {α β : Type} {Ra : α → V → Hp → Hp → Hp → Prop} {Rb : β → V → Hp → Hp → Hp → Prop} [Mn Ra] {r : R2} {op : α → β → Res Bool} {f : Env → Res α} {g : Env → Res β} {o : CmpOp}
    (ho : OpR X (compareOp o) r) (hd : OpG X Ra Rb rBl r op) (hm : behindInMarks o b = false) (ha : DX X c Ra a f) (hb : DX X c Rb b g) : DT X c (.Compare a [o] [b] pos) (s2 op f g) :=
  pt_imp (pt_cmpR ho ha hb hm) fun σ H Q ⟨env, A, r, q⟩ => op2 hd ⟨env, A, r, q.conv fun k q v A' H' g e => ⟨k, e, q k A' H' g rfl⟩⟩
/-- a op b op' c -/
def sChain {α β γ : Type} (op : α → β → Res Bool) (op' : β → γ → Res Bool) (f : Env → Res α) (g : Env → Res β) (h : Env → Res γ) : ST :=
  fun env => (f env).bind fun x => (g env).bind fun y => (op x y).bind fun k => if k = true then (h env).bind fun z => op' y z else .ok false
theorem chain2 {α β γ : Type} {Ra : α → V → Hp → Hp → Hp → Prop} {Rb : β → V → Hp → Hp → Hp → Prop} {Rc : γ → V → Hp → Hp → Hp → Prop} [Mn Ra] [Mn Rb] {r r' : R2} {op : α → β → Res Bool} {op' : β → γ → Res Bool} {f : Env → Res α} {g : Env → Res β} {h : Env → Res γ}
    (hd : OpG X Ra Rb rBl r op) (hd' : OpG X Rb Rc rBl r' op') {σ : L2.St} {H : Hp} {Q : VK} (q : tX X.K X.mg rBl c (sChain op op' f g h) σ H Q) :
    tChain r r' (tX X.K X.mg Ra c f) (tX X.K X.mg Rb c g) (tX X.K X.mg Rc c h) σ H Q := by
  obtain ⟨env, A, r, q⟩ := q
  refine ⟨env, A, r, Fin.step q fun d x A1 H1 _ g1 k1 q1 => ⟨env, A1, r.grow g1, Fin.step q1 fun d2 y A2 H2 _ g2 k2 q2 => ?_⟩⟩
  refine hd c A2 H H1 H2 x y d d2 _ g2.sub (Mn.mn g2 k1) k2 (Fin.step q2 fun k z A3 H3 _ g3 k3 q3 => ⟨k, k3, ?_⟩)
  have r3 := ((r.grow g1).grow g2).grow g3
  cases k with
  | true =>
    refine iteT ⟨env, A3, r3, Fin.step q3 fun d4 z4 A4 H4 _ g4 k4 q4 => ?_⟩
    exact hd' c A4 H1 H3 H4 y z4 d2 d4 Q g4.sub (Mn.mn g4 (Mn.mn g3 k2)) k4 q4
  | false => exact iteF (q3 _ A3 H3 (Gr.refl g3.sub) rfl)
theorem dt_chain {α β γ : Type} {Ra : α → V → Hp → Hp → Hp → Prop} {Rb : β → V → Hp → Hp → Hp → Prop} {Rc : γ → V → Hp → Hp → Hp → Prop} [Mn Ra] [Mn Rb] {r r' : R2} {op : α → β → Res Bool} {op' : β → γ → Res Bool} {f : Env → Res α} {g : Env → Res β} {h : Env → Res γ} {o o' : CmpOp} {d : Expr}
    (ho : OpR X (compareOp o) r) (ho' : OpR X (compareOp o') r') (hd : OpG X Ra Rb rBl r op) (hd' : OpG X Rb Rc rBl r' op') (ha : DX X c Ra a f) (hb : DX X c Rb b g) (hc : DX X c Rc d h)
    (hm : lastMarks [o, o'] [b, d] = false := by with_unfolding_all rfl) : DT X c (.Compare a [o, o'] [b, d] pos) (sChain op op' f g h) :=
  pt_imp (pt_chain ho ho' ha hb hc hm) fun σ H Q ⟨env, A, r, q⟩ => chain2 hd hd' ⟨env, A, r, q.conv fun k q v A' H' g e => ⟨k, e, q k A' H' g rfl⟩⟩
theorem de_chain {α β γ : Type} {Ra : α → V → Hp → Hp → Hp → Prop} {Rb : β → V → Hp → Hp → Hp → Prop} {Rc : γ → V → Hp → Hp → Hp → Prop} [Mn Ra] [Mn Rb] {r r' : R2} {op : α → β → Res Bool} {op' : β → γ → Res Bool} {f : Env → Res α} {g : Env → Res β} {h : Env → Res γ} {o o' : CmpOp} {d : Expr}
    (ho : OpR X (compareOp o) r) (ho' : OpR X (compareOp o') r') (hd : OpG X Ra Rb rBl r op) (hd' : OpG X Rb Rc rBl r' op') (ha : DX X c Ra a f) (hb : DX X c Rb b g) (hc : DX X c Rc d h)
    (hm : lastMarks [o, o'] [b, d] = false := by with_unfolding_all rfl) : DE X c (.Compare a [o, o'] [b, d] pos) (sMap .bool (sChain op op' f g h)) :=
  pe_imp (pe_chain ho ho' ha hb hc hm) fun σ H Q ⟨env, A, r, q⟩ => chain2 hd hd' ⟨env, A, r, Fin.imp q fun k v A' H' g e z => by
    subst e
    exact z _ A' H' g (.bl k)⟩

/-! ### truth -/
theorem dt_val (h : DE X c e f) (he : ∀ whole, isTrue e X.env whole = (do let v ← whole; standAt e.pos; holding [v] (truthy v)) := by intro _; rfl) : DT X c e (s1 asB f) :=
  pt_imp (pt_val h he) fun σ H Q ⟨env, A, r, q⟩ => ⟨env, A, r, Fin.step q fun d v A' H' _ g k z => by
    cases k with
    | bl b => exact ⟨b, rfl, Fin.now z g.sub rfl⟩
    | _ => exact z.elim⟩
theorem dt_not {t : ST} (h : DT X c a t) : DT X c (.UnaryOp .Not a pos) (sMap not t) := pt_imp (pt_not h) fun σ H Q ⟨env, A, r, q⟩ => ⟨env, A, r, Fin.imp q fun k b A' H' g e z => by
    cases e
    exact z _ A' H' g rfl⟩
theorem de_not {t : SE} (h : DE X c a t) : DE X c (.UnaryOp .Not a pos) (s1 (fun d => (asB d).map fun b => .bool (!b)) t) := pe_imp (pe_not h) fun σ H Q ⟨env, A, r, q⟩ => ⟨env, A, r, Fin.step q fun d v A' H' _ g k z => by
    cases k with
    | bl b => exact ⟨b, rfl, Fin.now z g.sub (.bl _)⟩
    | _ => exact z.elim⟩
abbrev DW (X : Cx) (c : XK) (e : Expr) (f : ST) : Prop := PW X e (tX X.K X.mg rB c f)
theorem dw_pt {t : ST} (h : DW X c e t) : DT X c e t := h.pt
theorem dw_and1 {t : ST} (h : DT X c a t) : DW X c (.BoolOp .And [a] pos) t := pw_and1 h
theorem dw_or1 {t : ST} (h : DT X c a t) : DW X c (.BoolOp .Or [a] pos) t := pw_or1 h
theorem pw_imp {X : Cx} {e : Expr} {t t' : TT} (h : PW X e t) (i : ∀ σ H Q, t' σ H Q → t σ H Q) : PW X e t' := ⟨fun wh pins s σ H Q I q => h.run wh pins s σ H Q I (i σ H Q q)⟩
theorem dw_and {t u : ST} {rest : List Expr} (h : DT X c a t) (k : DW X c (.BoolOp .And (b :: rest) pos) u) : DW X c (.BoolOp .And (a :: b :: rest) pos) (sAnd t u) :=
  pw_imp (pw_and h k) fun σ H Q ⟨env, A, r, q⟩ => ⟨env, A, r, Fin.step q fun d v A' H' _ g k z => by
    cases k
    cases d with
    | true => exact iteT ⟨env, A', r.grow g, z⟩
    | false => exact iteF (Fin.now z g.sub rfl)⟩
theorem dw_or {t u : ST} {rest : List Expr} (h : DT X c a t) (k : DW X c (.BoolOp .Or (b :: rest) pos) u) : DW X c (.BoolOp .Or (a :: b :: rest) pos) (sOr t u) :=
  pw_imp (pw_or h k) fun σ H Q ⟨env, A, r, q⟩ => ⟨env, A, r, Fin.step q fun d v A' H' _ g k z => by
    cases k
    cases d with
    | true => exact iteT (Fin.now z g.sub rfl)
    | false => exact iteF ⟨env, A', r.grow g, z⟩⟩
/-- and, or as values, of truths -/
abbrev DV (X : Cx) (c : XK) (e : Expr) (f : ST) : Prop := DE X c e (sMap .bool f)
theorem dv_de {t : ST} (h : DV X c e t) : DE X c e (sMap .bool t) := h
theorem dv_of (h : DE X c e f) : DX X c rBl e (s1 asB f) := pe_imp h fun σ H Q ⟨env, A, r, q⟩ => ⟨env, A, r, Fin.step q fun d v A' H' _ g k z => by
    cases k with
    | bl b => exact Fin.now z g.sub rfl
    | _ => exact z.elim⟩
theorem dv_one {op} {t : ST} (h : DX X c rBl a t) : DX X c rBl (.BoolOp op [a] pos) t := pe_one h
theorem dv_and {t u : ST} {rest : List Expr} (h : DX X c rBl a t) (k : DX X c rBl (.BoolOp .And (b :: rest) pos) u) : DX X c rBl (.BoolOp .And (a :: b :: rest) pos) (sAnd t u) :=
  pe_imp (pe_and h k) fun σ H Q ⟨env, A, r, q⟩ => ⟨env, A, r, Fin.step q fun d v A' H' _ g k z => ⟨d, k, by
    cases d with
    | true => exact iteT ⟨env, A', r.grow g, z⟩
    | false => exact iteF (Fin.now z g.sub rfl)⟩⟩
theorem dv_or {t u : ST} {rest : List Expr} (h : DX X c rBl a t) (k : DX X c rBl (.BoolOp .Or (b :: rest) pos) u) : DX X c rBl (.BoolOp .Or (a :: b :: rest) pos) (sOr t u) :=
  pe_imp (pe_or h k) fun σ H Q ⟨env, A, r, q⟩ => ⟨env, A, r, Fin.step q fun d v A' H' _ g k z => ⟨d, k, by
    cases d with
    | true => exact iteT (Fin.now z g.sub rfl)
    | false => exact iteF ⟨env, A', r.grow g, z⟩⟩⟩
theorem dv_bool {t : ST} (h : DX X c rBl e t) : DE X c e (sMap .bool t) := pe_imp h fun σ H Q ⟨env, A, r, q⟩ => ⟨env, A, r, Fin.imp q fun k v A' H' g e z => by
    subst e
    exact z _ A' H' g (.bl k)⟩
theorem dx_if {α : Type} {R : α → V → Hp → Hp → Hp → Prop} [Bk R] {t : ST} {f g : Env → Res α} {d : Expr} (ht : DT X c d t) (ha : DX X c R a f) (hb : DX X c R b g) : DX X c R (.IfExp d a b pos) (sIte t f g) :=
  pe_imp (pe_ifExp ht ha hb) fun σ H Q ⟨env, A, r, q⟩ => ⟨env, A, r, Fin.step q fun d v A' H' _ g k z => by
    cases k
    cases d with
    | true => exact iteT ⟨env, A', r.grow g, z⟩
    | false => exact iteF ⟨env, A', r.grow g, z⟩⟩

/-! ### arguments, displays -/
theorem da_nil : DA X c [] sNil := pa_imp pa_nil fun σ H Q ⟨env, A, r, q⟩ => Fin.now q r.sAH .nil
theorem da_cons {es : List Expr} {fs : SL} (h : DE X c e f) (k : DA X c es fs) (hs : starEach (e :: es) X.env = (false, eval e X.env) :: starEach es X.env := by rfl) : DA X c (e :: es) (sCons f fs) := pa_imp (pa_cons h k (hs := hs)) fun σ H Q ⟨env, A, r, q⟩ => ⟨env, A, r, Fin.step q fun d v A' H' _ g k z =>
    ⟨env, A', r.grow g, Fin.imp z fun ds vs A2 H2 g2 k2 y => y _ A2 H2 g2 (.cons (dp_mono g2.exA _ _ k) k2)⟩⟩
def lenOk (n : Nat) (ds : List D) : Res (List D) := if ds.length ≤ n then .ok ds else .no
theorem df_lst {es : List Expr} {fs : SL} (h : DA X c es fs) : DF X c (.List es pos) (s1 (lenOk 100000) fs) := pe_imp (pe_lst h) fun σ H Q ⟨env, A, r, q⟩ => ⟨env, A, r, Fin.step q fun ds vs A' H' _ g k z => by
    unfold lenOk at z
    split at z
    · rename_i hl
      refine ⟨by rw [da_len k]; exact Nat.le_trans hl (by decide), fun p hp => ?_⟩
      exact Fin.at z (Gr.own g.sub hp) ⟨p, vs, rfl, hp, g.sub.free hp, upd_same, k⟩
    · exact z.elim⟩
def tupD (ds : List D) : Res D := if ds.length ≤ 100000 then .ok (.tuple ds) else .no
theorem de_tup {es : List Expr} {fs : SL} (h : DA X c es fs) : DE X c (.Tuple es 0 pos) (s1 tupD fs) := pe_imp (pe_tup h) fun σ H Q ⟨env, A, r, q⟩ => ⟨env, A, r, Fin.step q fun ds vs A' H' _ g k z => by
    unfold tupD at z
    split at z
    · rename_i hl
      refine ⟨by rw [da_len k]; exact Nat.le_trans hl (by decide), fun p hp => ?_⟩
      exact Fin.at z (Gr.alloc g.sub hp) (.tup (SqT.of upd_same) (da_mono (same_upd (g.sub.free hp)) _ _ k))
    · exact z.elim⟩
end
end TB

/-! TBC: operators, built-in calls. -/
namespace TB
open PySem PySem.Spec L2
open PyProof.Rows hiding St

/-- data as it stands now (it may lean on a list of one's own) -/
def rH (K : PySem.W.Frag) : D → V → Hp → Hp → Hp → Prop := fun d v _ _ H => Dp K H v d
instance {K : PySem.W.Frag} : Bk (rH K) := ⟨fun _ h => h⟩
instance {K : PySem.W.Frag} : Mn (rH K) := ⟨fun g h => dp_mono g.ex _ _ h⟩
abbrev DH (X : Cx) (c : XK) (e : Expr) (f : SE) : Prop := PE X e (tX X.K X.mg (rH X.K) c f)
def rO : Option Int → Option Int → Hp → Hp → Hp → Prop := fun a b _ _ _ => b = a
instance : Bk rO := ⟨fun _ h => h⟩
abbrev SO := Env → Res (Option Int)
abbrev DO (X : Cx) (c : XK) (e : Option Expr) (f : SO) : Prop := PO X e (tX X.K X.mg rO c f)

/-! ### on data -/
def oI (h : Int → Int → D) : D → D → Res D
  | .int i, .int j => .ok (h i j)
  | _, _ => .no
def oIC (k : Int → Int → Bool) (h : Int → Int → D) : D → D → Res D
  | .int i, .int j => if k i j = true then .ok (h i j) else .no
  | _, _ => .no
def oIB (p : Int → Int → Bool) : D → D → Res Bool
  | .int i, .int j => .ok (p i j)
  | _, _ => .no
abbrev oAdd := oI fun i j => .int (i + j)
abbrev oSub := oI fun i j => .int (i - j)
def mulOk (i j : Int) : Bool := (decide (-(2 ^ 64) < i) && decide (i < 2 ^ 64)) || (decide (-(2 ^ 64) < j) && decide (j < 2 ^ 64))
abbrev oMul := oIC mulOk fun i j => .int (i * j)
def divOk (_ j : Int) : Bool := decide (0 < j) && decide (j < 2 ^ 64)
abbrev oDiv := oIC divOk fun i j => .int (i / j)
abbrev oMod := oIC (fun _ j => decide (0 < j)) fun i j => .int (i % j)
def powOk (i j : Int) : Bool := decide (0 ≤ j) && decide (j ≤ 1000000) && decide (i.natAbs < 2 ^ 64)
abbrev oPow := oIC powOk fun i j => .int (i ^ j.toNat)
abbrev oLt := oIB fun i j => decide (i < j)
abbrev oLe := oIB fun i j => decide (i ≤ j)
abbrev oGt := oIB fun i j => decide (j < i)
abbrev oGe := oIB fun i j => decide (j ≤ i)
def oEq (d e : D) : Res Bool := if (SeqAt.shaped d && SeqAt.shaped e) = true then .ok (PyData.eqv d e) else .no
def oNe (d e : D) : Res Bool := if (SeqAt.shaped d && SeqAt.shaped e) = true then .ok (!PyData.eqv d e) else .no
def isNon : D → Bool
  | .none => true
  | _ => false
def oIsN (d e : D) : Res Bool := if isNon e = true then .ok (isNon d) else .no
def oNotN (d e : D) : Res Bool := if isNon e = true then .ok (!isNon d) else .no
def flatD : D → Bool
  | .none => true
  | .bool _ => true
  | .int _ => true
  | .str _ => true
  | _ => false
def inD (x : D) (ds : List D) : Bool := ds.any fun y => PyData.eqv y x
def oIn (d : D) (ds : List D) : Res Bool := if (flatD d && ds.all flatD) = true then .ok (inD d ds) else .no
def oNotIn (d : D) (ds : List D) : Res Bool := if (flatD d && ds.all flatD) = true then .ok (!inD d ds) else .no
def ofO {α : Type} : Option α → Res α
  | some a => .ok a
  | none => .no
def oIx (ds : List D) : D → Res D
  | .int i => ofO (atI ds i)
  | _ => .no
def intsOf : List D → Option (List Int)
  | [] => some []
  | .int i :: r => (intsOf r).map (i :: ·)
  | _ :: _ => none
def oLtT (a b : List D) : Res Bool := match intsOf a, intsOf b with
  | some x, some y => .ok (HT.lexLt x y)
  | _, _ => .no
def catOk (a b : List D) : Res (List D) := if a.length + b.length ≤ 16000000 then .ok (a ++ b) else .no
def cutD (ds : List D) (lo hi : Option Int) : List D := (ds.drop (HT.sIx ds.length 0 lo)).take (HT.sIx ds.length ds.length hi - HT.sIx ds.length 0 lo)
def sSlice (f : SL) (lo hi : SO) : SL := fun env => (f env).bind fun ds => (lo env).bind fun l => (hi env).bind fun h => .ok (cutD ds l h)
def sNoP : SO := fun _ => .ok none
def sPart (f : SE) : SO := s1 (fun d => match d with
  | .int i => .ok (some i)
  | _ => .no) f

section
variable {K : PySem.W.Frag} {H : Hp}
theorem da_ints : ∀ {ds : List D} {vs : List V} {ns : List Int}, DpAll K H vs ds → intsOf ds = some ns → vs = ns.map V.int
  | [], _, ns, h, e => by
    cases h
    have e' : ([] : List Int) = ns := Option.some.inj e
    subst e'
    rfl
  | d :: ds, _, ns, .cons h1 h2, e => by
    cases d with
    | int i =>
      unfold intsOf at e
      cases q : intsOf ds with
      | none => rw [q] at e; cases e
      | some r =>
        rw [q] at e
        have e' : i :: r = ns := Option.some.inj e
        subst e'
        cases h1
        rw [da_ints h2 q, List.map_cons]
    | _ => cases e
theorem flat_of : ∀ {d : D} {v : V}, Dp K H v d → flatD d = true → flatV v = true
  | _, _, .non, _ => rfl
  | _, _, .bl _, _ => rfl
  | _, _, .int _, _ => rfl
  | _, _, .str _, _ => rfl
  | _, _, .lst _ _, e => by cases e
  | _, _, .tup _ _, e => by cases e
  | _, _, .tok _, e => by cases e
  | _, _, .scr _, e => by cases e
theorem flats_of : ∀ {ds : List D} {vs : List V}, DpAll K H vs ds → ds.all flatD = true → vs.all flatV = true
  | _, _, .nil, _ => rfl
  | _, _, .cons h1 h2, e => by
    rw [List.all_cons, Bool.and_eq_true] at e
    rw [List.all_cons, Bool.and_eq_true]
    exact ⟨flat_of h1 e.1, flats_of h2 e.2⟩
theorem eqv_of : ∀ {d e : D} {v w : V}, Dp K H v d → Dp K H w e → flatD d = true → flatD e = true → eqV v w = PyData.eqv d e
  | .none, .none, _, _, .non, .non, _, _ => rfl
  | .none, .bool _, _, _, .non, .bl _, _, _ => rfl
  | .none, .int _, _, _, .non, .int _, _, _ => rfl
  | .none, .str _, _, _, .non, .str _, _, _ => rfl
  | .bool _, .none, _, _, .bl _, .non, _, _ => rfl
  | .bool _, .bool _, _, _, .bl _, .bl _, _, _ => rfl
  | .bool _, .int _, _, _, .bl _, .int _, _, _ => rfl
  | .bool _, .str _, _, _, .bl _, .str _, _, _ => rfl
  | .int _, .none, _, _, .int _, .non, _, _ => rfl
  | .int _, .bool _, _, _, .int _, .bl _, _, _ => rfl
  | .int _, .int _, _, _, .int _, .int _, _, _ => rfl
  | .int _, .str _, _, _, .int _, .str _, _, _ => rfl
  | .str _, .none, _, _, .str _, .non, _, _ => rfl
  | .str _, .bool _, _, _, .str _, .bl _, _, _ => rfl
  | .str _, .int _, _, _, .str _, .int _, _, _ => rfl
  | .str _, .str _, _, _, .str _, .str _, _, _ => rfl
theorem inV_of {d : D} {v : V} (h : Dp K H v d) (hf : flatD d = true) : ∀ {ds : List D} {vs : List V}, DpAll K H vs ds → ds.all flatD = true → inV v vs = inD d ds
  | _, _, .nil, _ => rfl
  | _, _, .cons h1 h2, e => by
    rw [List.all_cons, Bool.and_eq_true] at e
    show (_ :: _ : List V).any (fun y => eqV y v) = (_ :: _ : List D).any fun y => PyData.eqv y d
    rw [List.any_cons, List.any_cons, eqv_of h1 h e.1 hf]
    exact congrArg _ (inV_of h hf h2 e.2)
theorem da_cut {ds : List D} {vs : List V} (h : DpAll K H vs ds) (lo hi : Option Int) : DpAll K H (cutV vs lo hi) (cutD ds lo hi) := by
  unfold cutV cutD
  rw [da_len h]
  exact da_take _ (da_drop _ h)
theorem da_at {α : Type} {ds : List D} {vs : List V} {i : Int} {d : D} (h : DpAll K H vs ds) (e : atI ds i = some d) : ∃ v, atI vs i = some v ∧ Dp K H v d := by
  unfold atI at e ⊢
  rw [da_len h]
  cases q : ixN ds.length i with
  | none => rw [q] at e; cases e
  | some j =>
    rw [q] at e
    obtain ⟨v, e1, e2⟩ := da_get h (show ds[j]? = some d from e)
    exact ⟨v, e1, e2⟩
end

section
variable {X : Cx} {c : XK} {a b e : Expr} {f g : SE} {pos : Pos}
theorem dh_of (h : DE X c e f) : DH X c e f := pe_imp h fun σ H Q ⟨env, A, r, q⟩ => ⟨env, A, r, q.conv fun ds q v A' H' g k => q v A' H' g (dp_mono g.sub _ _ k)⟩
theorem dh_l {f : SL} (h : DL X c e f) : DH X c e (sMap .list f) := pe_imp h fun σ H Q ⟨env, A, r, q⟩ => ⟨env, A, r, Fin.imp q fun ds v A' H' g ⟨p, xs, e, s, k⟩ z => by
  subst e
  exact z _ A' H' g (.lst s (da_mono g.sub _ _ k))⟩

/-! ### rules of operators -/
theorem og_I {g : Int → Int → V} {h : Int → Int → D} (he : ∀ A i j, Dp X.K A (g i j) (h i j)) : OpG X (rD X.K) (rD X.K) (rD X.K) (rI0 g) (oI h) := by
  intro c A H0 H1 H x y d e Q s k1 k2 q
  cases k1 <;> try exact q.elim
  cases k2 <;> try exact q.elim
  exact ⟨_, _, rfl, rfl, Fin.now q s (he _ _ _)⟩
theorem og_IC {C : Int → Int → Prop} {k : Int → Int → Bool} {g : Int → Int → V} {h : Int → Int → D} (hk : ∀ i j, k i j = true → C i j) (he : ∀ A i j, Dp X.K A (g i j) (h i j)) : OpG X (rD X.K) (rD X.K) (rD X.K) (rI C g) (oIC k h) := by
  intro c A H0 H1 H x y d e Q s k1 k2 q
  cases k1 <;> try exact q.elim
  cases k2 <;> try exact q.elim
  rename_i i j
  unfold oIC at q
  by_cases hh : k i j = true
  · simp only [hh, if_true] at q
    exact ⟨_, _, rfl, rfl, hk _ _ hh, Fin.now q s (he _ _ _)⟩
  · simp only [hh] at q
    exact q.elim
theorem og_IB {p : Int → Int → Bool} : OpG X (rD X.K) (rD X.K) rBl (rI0 fun i j => .bl (p i j)) (oIB p) := by
  intro c A H0 H1 H x y d e Q s k1 k2 q
  cases k1 <;> try exact q.elim
  cases k2 <;> try exact q.elim
  exact ⟨_, _, rfl, rfl, Fin.now q s rfl⟩
theorem de_add (ha : DE X c a f) (hb : DE X c b g) : DE X c (.BinOp a .Add b pos) (s2 oAdd f g) := dx_bin op_add (og_I fun _ _ _ => .int _) ha hb
theorem de_sub (ha : DE X c a f) (hb : DE X c b g) : DE X c (.BinOp a .Sub b pos) (s2 oSub f g) := dx_bin op_sub (og_I fun _ _ _ => .int _) ha hb
theorem mul_ok {i j : Int} (h : mulOk i j = true) : CMul i j := by
  unfold mulOk at h
  simp only [Bool.or_eq_true, Bool.and_eq_true, decide_eq_true_eq] at h
  exact h
theorem de_mul (ha : DE X c a f) (hb : DE X c b g) : DE X c (.BinOp a .Mult b pos) (s2 oMul f g) := dx_bin op_mul (og_IC (fun _ _ h => mul_ok h) fun _ _ _ => .int _) ha hb
theorem div_ok {i j : Int} (h : divOk i j = true) : CDivW i j := by
  unfold divOk at h
  simp only [Bool.and_eq_true, decide_eq_true_eq] at h
  exact wide_div (b := 64) h.1 (by have := h.2; omega) (by decide) (by decide)
theorem de_div (ha : DE X c a f) (hb : DE X c b g) : DE X c (.BinOp a .FloorDiv b pos) (s2 oDiv f g) := dx_bin op_fdivW (og_IC (fun _ _ h => div_ok h) fun _ _ _ => .int _) ha hb
theorem de_mod (ha : DE X c a f) (hb : DE X c b g) : DE X c (.BinOp a .Mod b pos) (s2 oMod f g) := dx_bin op_mod (og_IC (fun _ _ h => of_decide_eq_true h) fun _ _ _ => .int _) ha hb
theorem pow_ok {i j : Int} (h : powOk i j = true) : CPow i j := by
  unfold powOk at h
  simp only [Bool.and_eq_true, decide_eq_true_eq] at h
  exact ⟨h.1.1, h.1.2, h.2⟩
theorem de_pow (ha : DE X c a f) (hb : DE X c b g) : DE X c (.BinOp a .Pow b pos) (s2 oPow f g) := dx_bin op_pow (og_IC (fun _ _ h => pow_ok h) fun _ _ _ => .int _) ha hb
def oNeg : D → Res D
  | .int i => .ok (.int (-i))
  | _ => .no
theorem de_neg (ha : DE X c a f) : DE X c (.UnaryOp .USub a pos) (s1 oNeg f) := pe_imp (pe_un un_neg ha) fun σ H Q ⟨env, A, r, q⟩ => ⟨env, A, r, Fin.step q fun d v A' H' _ g k z => by
  cases k with
  | int i => exact ⟨i, rfl, Fin.now z g.sub (.int _)⟩
  | _ => exact z.elim⟩
theorem og_eq : OpG X (rH X.K) (rH X.K) rBl (rEqD X.K) oEq := by
  intro c A H0 H1 H x y d e Q s k1 k2 q
  unfold oEq at q
  split at q
  · rename_i h
    rw [Bool.and_eq_true] at h
    exact ⟨d, e, dp_plain _ _ k1 (SeqAt.canLay_of_shaped h.1), dp_plain _ _ k2 (SeqAt.canLay_of_shaped h.2), h.1, h.2, Fin.now q s rfl⟩
  · exact q.elim
theorem og_ne : OpG X (rH X.K) (rH X.K) rBl (rNeD X.K) oNe := by
  intro c A H0 H1 H x y d e Q s k1 k2 q
  unfold oNe at q
  split at q
  · rename_i h
    rw [Bool.and_eq_true] at h
    exact ⟨d, e, dp_plain _ _ k1 (SeqAt.canLay_of_shaped h.1), dp_plain _ _ k2 (SeqAt.canLay_of_shaped h.2), h.1, h.2, Fin.now q s rfl⟩
  · exact q.elim
theorem non_iff {K : PySem.W.Frag} {H : Hp} {v : V} {d : D} (h : Dp K H v d) : decide (v = .non) = isNon d := by
  cases h <;> rfl
theorem non_of {K : PySem.W.Frag} {H : Hp} {v : V} {d : D} (h : Dp K H v d) (e : isNon d = true) : v = .non := by
  cases h <;> first | rfl | cases e
theorem og_isN : OpG X (rH X.K) (rD X.K) rBl (fun x y H Q => y = .non ∧ Q (.bl (decide (x = .non))) H) oIsN := by
  intro c A H0 H1 H x y d e Q s k1 k2 q
  unfold oIsN at q
  split at q
  · rename_i h
    exact ⟨non_of k2 h, by rw [non_iff k1]; exact Fin.now q s rfl⟩
  · exact q.elim
theorem og_notN : OpG X (rH X.K) (rD X.K) rBl (fun x y H Q => y = .non ∧ Q (.bl (!decide (x = .non))) H) oNotN := by
  intro c A H0 H1 H x y d e Q s k1 k2 q
  unfold oNotN at q
  split at q
  · rename_i h
    exact ⟨non_of k2 h, by rw [non_iff k1]; exact Fin.now q s rfl⟩
  · exact q.elim
theorem og_in : OpG X (rD X.K) (rQ X.K) rBl (rIn X.K false) oIn := by
  intro c A H0 H1 H x y d ds Q s k1 k2 q
  obtain ⟨p, xs, rfl, k3, k4⟩ := k2
  unfold oIn at q
  split at q
  · rename_i h
    rw [Bool.and_eq_true] at h
    refine ⟨p, xs, rfl, k3, flat_of k1 h.1, flats_of k4 h.2, ?_⟩
    rw [if_neg Bool.false_ne_true, inV_of k1 h.1 k4 h.2]
    exact Fin.now q s rfl
  · exact q.elim
theorem og_notIn : OpG X (rD X.K) (rQ X.K) rBl (rIn X.K true) oNotIn := by
  intro c A H0 H1 H x y d ds Q s k1 k2 q
  obtain ⟨p, xs, rfl, k3, k4⟩ := k2
  unfold oNotIn at q
  split at q
  · rename_i h
    rw [Bool.and_eq_true] at h
    refine ⟨p, xs, rfl, k3, flat_of k1 h.1, flats_of k4 h.2, ?_⟩
    rw [if_pos rfl, inV_of k1 h.1 k4 h.2]
    exact Fin.now q s rfl
  · exact q.elim
theorem og_ix : OpG X (rQ X.K) (rD X.K) (rD X.K) (rIx X.K) oIx := by
  intro c A H0 H1 H x y ds d Q s k1 k2 q
  obtain ⟨p, xs, rfl, k3, k4⟩ := k1
  cases k2 <;> try exact q.elim
  rename_i i
  unfold oIx at q
  cases h : atI ds i with
  | none => simp only [h] at q; exact q.elim
  | some z =>
    simp only [h] at q
    obtain ⟨v, e1, e2⟩ := da_at (α := Nat) k4 h
    rcases k3 with k3 | k3
    · exact .inl ⟨p, xs, i, v, rfl, rfl, k3, e1, Fin.now q s e2⟩
    · exact .inr (.inl ⟨p, xs, i, v, rfl, rfl, k3, e1, Fin.now q s e2⟩)
theorem de_ix {f : SL} (ha : DQ X c a f) (hb : DE X c b g) (hs : PlainIx b := by exact fun _ _ => rfl) : DE X c (.Subscript a b pos) (s2 oIx f g) := dx_ix ix_seq og_ix ha hb hs
theorem og_ltT : OpG X (rU X.K) (rU X.K) rBl (rLtT X.K) oLtT := by
  intro c A H0 H1 H x y d e Q s k1 k2 q
  obtain ⟨p, xs, rfl, k3, k4⟩ := k1
  obtain ⟨p2, xs2, rfl, k5, k6⟩ := k2
  unfold oLtT at q
  cases h : intsOf d with
  | none => simp only [h] at q; exact q.elim
  | some ns =>
    cases h2 : intsOf e with
    | none => simp only [h, h2] at q; exact q.elim
    | some ms =>
      simp only [h, h2] at q
      rw [da_ints k4 h] at k3
      rw [da_ints k6 h2] at k5
      exact ⟨p, p2, ns, ms, rfl, rfl, same_t s k3, same_t s k5, Fin.now q s rfl⟩
theorem big_line {n : Nat} (h : n ≤ 16000000) : n ≤ sizeLine := by rw [sizeLine_eq]; omega
theorem og_catT : OpG X (rU X.K) (rU X.K) (rU X.K) (rCatA X.K) catOk := by
  intro c A H0 H1 H x y d e Q s k1 k2 q
  obtain ⟨p, xs, rfl, k3, k4⟩ := k1
  obtain ⟨p2, xs2, rfl, k5, k6⟩ := k2
  unfold catOk at q
  split at q
  · rename_i h
    refine ⟨p, p2, xs, xs2, rfl, rfl, same_t s k3, same_t s k5, by rw [da_len k4, da_len k6]; exact big_line h, fun z => ?_, fun _ z => ?_, fun _ _ r hr => ?_⟩
    · subst z
      cases k4
      exact Fin.now q s ⟨p2, xs2, rfl, k5, k6⟩
    · subst z
      cases k6
      exact Fin.now q s ⟨p, xs, rfl, k3, by rw [List.append_nil]; exact k4⟩
    · exact Fin.at q (Gr.alloc s hr) ⟨r, xs ++ xs2, rfl, SqT.of upd_same, da_mono (same_upd (s.free hr)) _ _ (da_app k4 k6)⟩
  · exact q.elim
theorem de_u {f : SL} (h : DU X c e f) : DE X c e (sMap .tuple f) := pe_imp h fun σ H Q ⟨env, A, r, q⟩ => ⟨env, A, r, Fin.imp q fun ds v A' H' g ⟨p, xs, e, s, k⟩ z => by
  subst e
  exact z _ A' H' g (.tup s k)⟩
theorem de_catT {f g : SL} (ha : DU X c a f) (hb : DU X c b g) : DU X c (.BinOp a .Add b pos) (s2 catOk f g) := dx_bin op_catA og_catT ha hb
def oRep (ds : List D) : D → Res (List D)
  | .int k => if (!ds.isEmpty && decide (2 ≤ k) && decide (k ≤ 1000) && decide (ds.length ≤ 1000)) = true then .ok (List.replicate k.toNat ds).flatten else .no
  | _ => .no
theorem og_rep : OpG X (rU X.K) (rD X.K) (rU X.K) (rRepT X.K) oRep := by
  intro c A H0 H1 H x y ds d Q s k1 k2 q
  obtain ⟨p, xs, rfl, k3, k4⟩ := k1
  cases k2 <;> try exact q.elim
  rename_i k
  unfold oRep at q
  dsimp only at q
  split at q
  · rename_i h
    simp only [Bool.and_eq_true, decide_eq_true_eq, Bool.not_eq_true'] at h
    obtain ⟨⟨⟨h1, h2⟩, h3⟩, h4⟩ := h
    refine ⟨p, k, xs, rfl, rfl, same_t s k3, fun z => ?_, h2, h3, by rw [da_len k4]; exact h4, fun r hr => ?_⟩
    · subst z
      cases k4
      cases h1
    · exact Fin.at q (Gr.alloc s hr) ⟨r, _, rfl, SqT.of upd_same, da_mono (same_upd (s.free hr)) _ _ (da_rep k4 _)⟩
  · exact q.elim
/-- xs + ys, xs * n: a new list -/
theorem og_catL : OpG X (rL X.K) (rL X.K) (rF X.K) rCat catOk := by
  intro c A H0 H1 H x y d e Q s k1 k2 q
  obtain ⟨p, xs, rfl, k3, k4⟩ := k1
  obtain ⟨p2, xs2, rfl, k5, k6⟩ := k2
  unfold catOk at q
  split at q
  · rename_i h
    refine ⟨p, p2, xs, xs2, rfl, rfl, k3, k5, by rw [da_len k4, da_len k6]; exact big_line h, fun r hr => ?_⟩
    exact Fin.at q (Gr.own s hr) ⟨r, xs ++ xs2, rfl, hr, s.free hr, upd_same, da_app k4 k6⟩
  · exact q.elim
theorem df_cat {f g : SL} (ha : DL X c a f) (hb : DL X c b g) : DF X c (.BinOp a .Add b pos) (s2 catOk f g) := dx_bin op_cat og_catL ha hb
def oRepL (ds : List D) : D → Res (List D)
  | .int k => if (decide (0 ≤ k) && decide (k ≤ 1000) && decide (ds.length ≤ 1000)) = true then .ok (List.replicate k.toNat ds).flatten else .no
  | _ => .no
theorem og_repL : OpG X (rL X.K) (rD X.K) (rF X.K) rRep oRepL := by
  intro c A H0 H1 H x y ds d Q s k1 k2 q
  obtain ⟨p, xs, rfl, k3, k4⟩ := k1
  cases k2 <;> try exact q.elim
  rename_i k
  unfold oRepL at q
  dsimp only at q
  split at q
  · rename_i h
    simp only [Bool.and_eq_true, decide_eq_true_eq] at h
    obtain ⟨⟨h2, h3⟩, h4⟩ := h
    refine ⟨p, k, xs, rfl, rfl, k3, by omega, by omega, ?_, fun r hr => ?_⟩
    · rw [da_len k4, sizeLine_eq]
      have a1 : ds.length * k.toNat ≤ 1000 * 1000 := Nat.mul_le_mul h4 (by omega)
      omega
    · exact Fin.at q (Gr.own s hr) ⟨r, _, rfl, hr, s.free hr, upd_same, da_rep k4 _⟩
  · exact q.elim
theorem df_rep {f : SL} {g : SE} (ha : DL X c a f) (hb : DE X c b g) : DF X c (.BinOp a .Mult b pos) (s2 oRepL f g) := dx_bin op_rep og_repL ha hb
theorem du_rep {f : SL} {g : SE} (ha : DU X c a f) (hb : DE X c b g) : DU X c (.BinOp a .Mult b pos) (s2 oRep f g) := dx_bin op_repT og_rep ha hb
/-- slices -/
theorem do_none : DO X c none sNoP := ⟨fun pins s σ H Q I ⟨env, A, r, q⟩ => po_none.run pins s σ H Q I (Fin.now q r.sAH rfl)⟩
theorem do_some (h : DE X c e f) : DO X c (some e) (sPart f) := ⟨fun pins s σ H Q I ⟨env, A, r, q⟩ => (po_some h).run pins s σ H Q I ⟨env, A, r, Fin.step q fun d v A' H' _ g k z => by
  cases k with
  | int i => exact ⟨i, rfl, Fin.now z g.sub rfl⟩
  | _ => exact z.elim⟩⟩
theorem du_slice {f : SL} {lo hi : SO} {l h : Option Expr} {p2 : Pos} (ha : DU X c a f) (hl : DO X c l lo) (hh : DO X c h hi) : DU X c (.Subscript a (.Slice l h none p2) pos) (sSlice f lo hi) :=
  pe_imp (pe_slice sl_tupA ha hl hh) fun σ H Q ⟨env, A, r, q⟩ => ⟨env, A, r, Fin.step q fun ds v A1 H1 _ g1 k1 q1 => ⟨env, A1, r.grow g1, Fin.step q1 fun o o' A2 H2 _ g2 k2 q2 =>
    ⟨env, A2, (r.grow g1).grow g2, Fin.step q2 fun u u' A3 H3 _ g3 k3 q3 => by
      cases k2; cases k3
      obtain ⟨p, xs, rfl, k4, k5⟩ := k1
      have sA : Same A1 A3 := g2.exA.trans g3.exA
      have k6 := da_mono sA _ _ k5
      refine ⟨p, xs, rfl, same_t g3.sub (same_t sA k4), fun w => ?_, fun _ r hr => ?_⟩
      · refine Fin.now q3 g3.sub ⟨p, xs, rfl, same_t sA k4, ?_⟩
        unfold cutD
        rw [← da_len k5, w.1, w.2, List.drop_zero, Nat.sub_zero, da_len k5, List.take_length]
        exact k6
      · exact Fin.at q3 (Gr.alloc g3.sub hr) ⟨r, _, rfl, SqT.of upd_same, da_mono (same_upd (g3.sub.free hr)) _ _ (da_cut k6 _ _)⟩⟩⟩⟩
theorem df_slice {f : SL} {lo hi : SO} {l h : Option Expr} {p2 : Pos} (ha : DL X c a f) (hl : DO X c l lo) (hh : DO X c h hi) : DF X c (.Subscript a (.Slice l h none p2) pos) (sSlice f lo hi) :=
  pe_imp (pe_slice sl_list ha hl hh) fun σ H Q ⟨env, A, r, q⟩ => ⟨env, A, r, Fin.step q fun ds v A1 H1 _ g1 k1 q1 => ⟨env, A1, r.grow g1, Fin.step q1 fun o o' A2 H2 _ g2 k2 q2 =>
    ⟨env, A2, (r.grow g1).grow g2, Fin.step q2 fun u u' A3 H3 _ g3 k3 q3 => by
      cases k2; cases k3
      obtain ⟨p, xs, rfl, k4, k5⟩ := k1
      have sA : Same A1 A3 := g2.exA.trans g3.exA
      have sH := g2.ex.trans g3.ex
      refine ⟨p, xs, rfl, SqL.of (sH _ _ k4), fun r hr => ?_⟩
      exact Fin.at q3 (Gr.own g3.sub hr) ⟨r, _, rfl, hr, g3.sub.free hr, upd_same, da_cut (da_mono sA _ _ k5) _ _⟩⟩⟩⟩
end
end TB

/-! TBD: calls, comprehensions, statements, defs. -/
namespace TB
open PySem PySem.Spec L2
open PyProof.Rows hiding St

/-! ### calls -/
/-- the room, what errors do, not in an except suite -/
structure Cz (X : Cx) (c : XK) (k : Nat) : Prop where
  hr : Room k X.A
  ps : Passes (L2.CX X.prog X.w) X c
  calm : X.calm = true
section
variable {X : Cx} {c : XK} {a b e : Expr} {f g : SE} {pos p : Pos} {x : Str} {k : Nat}
theorem Cz.mono {j : Nat} (z : Cz X c k) (h : j ≤ k) : Cz X c j := ⟨z.hr.mono h, z.ps, z.calm⟩
theorem passL' {X : Cx} {E : XK} (h : ∀ cls d H, ¬ E cls d H) : Passes (L2.CX X.prog X.w) X E := fun _ _ _ _ _ _ _ h' => by
  obtain ⟨_, _, _, _, _, _, _, _, _, _, _, _, z⟩ := h'
  exact (h _ _ _ z).elim
theorem Cz.blk (z : Cz X c k) (s : Shared) (H : Hp) (sc : Scope) (en : PySem.Env) (fp : List Addr) : Cz (X.blk s H sc en fp) E0 k := ⟨z.hr, passL' fun _ _ _ h => h, z.calm⟩
theorem dx_call1 {α γ : Type} {Ra : α → V → Hp → Hp → Hp → Prop} {Rr : γ → V → Hp → Hp → Hp → Prop} [Bk Rr] {id : String} {r : List V → Hp → VK → Prop} {op : α → Res γ} {f : Env → Res α} (hc : CallR X (.builtin id) r)
    (hd : ∀ (c : XK) A H0 H v d Q, Same A H → Ra d v H0 A H → Fin X.K X.mg Rr c A H (op d) Q → r [v] H Q) (hg : Gl X x) (hm : X.mg x = none) (hv : bootBuiltins x = some (.builtin id)) (ha : DX X c Ra a f)
    (hn : x ≠ "__name__" := by decide) (hdb : (x == ("__debug__" : Str)) = false := by decide) (he : starEach [a] X.env = (false, eval a X.env) :: starEach [] X.env := by rfl) : DX X c Rr (.Call (.Name x p) [a] [] pos) (s1 op f) :=
  pe_imp (pe_callB hc hg hm hv (pa_cons ha pa_nil (hs := he)) hn hdb he (by rfl)) fun σ H Q ⟨env, A, r, q⟩ => ⟨env, A, r, Fin.step q fun d v A' H' _ g k z => hd c A' H H' v d Q g.sub k z⟩
theorem dx_callT1 {α γ : Type} {Ra : α → V → Hp → Hp → Hp → Prop} {Rr : γ → V → Hp → Hp → Hp → Prop} [Bk Rr] {id : String} {r : List V → Hp → VK → Prop} {op : α → Res γ} {f : Env → Res α} (hc : CallR X (.type id) r)
    (hd : ∀ (c : XK) A H0 H v d Q, Same A H → Ra d v H0 A H → Fin X.K X.mg Rr c A H (op d) Q → r [v] H Q) (hg : Gl X x) (hm : X.mg x = none) (hv : bootBuiltins x = some (.type id)) (ha : DX X c Ra a f)
    (hn : x ≠ "__name__" := by decide) (hdb : (x == ("__debug__" : Str)) = false := by decide) (he : starEach [a] X.env = (false, eval a X.env) :: starEach [] X.env := by rfl) : DX X c Rr (.Call (.Name x p) [a] [] pos) (s1 op f) :=
  pe_imp (pe_callTy hc hg hm hv (pa_cons ha pa_nil (hs := he)) hn hdb he (by rfl)) fun σ H Q ⟨env, A, r, q⟩ => ⟨env, A, r, Fin.step q fun d v A' H' _ g k z => hd c A' H H' v d Q g.sub k z⟩
theorem dx_call2 {α β γ : Type} {Ra : α → V → Hp → Hp → Hp → Prop} {Rb : β → V → Hp → Hp → Hp → Prop} {Rr : γ → V → Hp → Hp → Hp → Prop} [Mn Ra] [Bk Rr] {id : String} {r : List V → Hp → VK → Prop} {op : α → β → Res γ} {f : Env → Res α} {g : Env → Res β} (hc : CallR X (.builtin id) r)
    (hd : ∀ (c : XK) A H0 H1 H v w d e Q, Same A H → Ra d v H0 A H → Rb e w H1 A H → Fin X.K X.mg Rr c A H (op d e) Q → r [v, w] H Q) (hg : Gl X x) (hm : X.mg x = none) (hv : bootBuiltins x = some (.builtin id)) (ha : DX X c Ra a f) (hb : DX X c Rb b g)
    (hn : x ≠ "__name__" := by decide) (hdb : (x == ("__debug__" : Str)) = false := by decide) (he : starEach [a, b] X.env = (false, eval a X.env) :: starEach [b] X.env := by rfl) (he2 : starEach [b] X.env = (false, eval b X.env) :: starEach [] X.env := by rfl) :
    DX X c Rr (.Call (.Name x p) [a, b] [] pos) (s2 op f g) :=
  pe_imp (pe_callB hc hg hm hv (pa_cons ha (pa_cons hb pa_nil (hs := he2)) (hs := he)) hn hdb he (by rw [he2]; rfl)) fun σ H Q ⟨env, A, r, q⟩ => ⟨env, A, r, Fin.step q fun d v A1 H1 _ g1 k1 q1 =>
    ⟨env, A1, r.grow g1, Fin.step q1 fun d2 w A2 H2 _ g2 k2 q2 => hd c A2 H H1 H2 v w d d2 Q g2.sub (Mn.mn g2 k1) k2 q2⟩⟩
/-! the built-ins -/
def oLen (ds : List D) : Res D := .ok (.int ds.length)
theorem de_len {f : SL} (hg : Gl X "len") (hm : X.mg "len" = none) (ha : DQ X c a f) (he : starEach [a] X.env = (false, eval a X.env) :: starEach [] X.env := by rfl) : DE X c (.Call (.Name "len" p) [a] [] pos) (s1 oLen f) :=
  dx_call1 call_len_seq (fun c A H0 H v ds Q s k q => by
    obtain ⟨b, xs, rfl, k1, k2⟩ := k
    refine ⟨b, xs, rfl, k1, ?_⟩
    rw [da_len k2]
    exact Fin.now q s (.int _)) hg hm boot_len ha (he := he)
def oInt : D → Res D
  | .int i => .ok (.int i)
  | .bool b => .ok (.int (if b = true then 1 else 0))
  | _ => .no
theorem de_intB (hg : Gl X "int") (hm : X.mg "int" = none) (ha : DE X c a f) (he : starEach [a] X.env = (false, eval a X.env) :: starEach [] X.env := by rfl) : DE X c (.Call (.Name "int" p) [a] [] pos) (s1 oInt f) :=
  dx_callT1 call_int1 (fun c A H0 H v d Q s k q => by
    cases k with
    | int i => exact .inl ⟨i, rfl, Fin.now q s (.int _)⟩
    | bl b =>
      refine .inr ⟨b, rfl, ?_⟩
      cases b with
      | true => exact Fin.now q s (.int _)
      | false => exact Fin.now q s (.int _)
    | _ => exact q.elim) hg hm boot_int ha (he := he)
def oSum (ds : List D) : Res D := match intsOf ds with
  | some ns => .ok (.int ns.sum)
  | none => .no
theorem de_sum {f : SL} (hc : X.calm = true) (hg : Gl X "sum") (hm : X.mg "sum" = none) (ha : DL X c a f) (he : starEach [a] X.env = (false, eval a X.env) :: starEach [] X.env := by rfl) : DE X c (.Call (.Name "sum" p) [a] [] pos) (s1 oSum f) :=
  dx_call1 (cr_sum hc) (fun c A H0 H v ds Q s k q => by
    obtain ⟨b, xs, rfl, k1, k2⟩ := k
    unfold oSum at q
    cases h : intsOf ds with
    | none => simp only [h] at q; exact q.elim
    | some ns =>
      simp only [h] at q
      rw [da_ints k2 h] at k1
      exact ⟨b, ns, rfl, SqL.of k1, Fin.now q s (.int _)⟩) hg hm (by decide +kernel) ha (he := he)
def leastI : List Int → Int
  | [] => 0
  | [x] => x
  | x :: r => min x (leastI r)
theorem leastI_mem : ∀ {ns : List Int}, 0 < ns.length → leastI ns ∈ ns ∧ ∀ y ∈ ns, leastI ns ≤ y
  | [x], _ => by simp [leastI]
  | x :: y :: r, _ => by
    obtain ⟨h1, h2⟩ := leastI_mem (ns := y :: r) (by simp)
    have e : leastI (x :: y :: r) = min x (leastI (y :: r)) := rfl
    rw [e]
    refine ⟨?_, fun z hz => ?_⟩
    · by_cases h : x ≤ leastI (y :: r)
      · rw [Int.min_eq_left h]; exact List.mem_cons_self
      · rw [Int.min_eq_right (by omega)]; exact List.mem_cons_of_mem _ h1
    · rcases List.mem_cons.mp hz with rfl | hz
      · exact Int.min_le_left _ _
      · exact Int.le_trans (Int.min_le_right _ _) (h2 z hz)
def oMin (ds : List D) : Res D := match intsOf ds with
  | some ns => if ns.length = 0 then .no else .ok (.int (leastI ns))
  | none => .no
theorem de_min {f : SL} (hc : X.calm = true) (hg : Gl X "min") (hm : X.mg "min" = none) (ha : DL X c a f) (he : starEach [a] X.env = (false, eval a X.env) :: starEach [] X.env := by rfl) : DE X c (.Call (.Name "min" p) [a] [] pos) (s1 oMin f) :=
  dx_call1 (cr_min hc) (fun c A H0 H v ds Q s k q => by
    obtain ⟨b, xs, rfl, k1, k2⟩ := k
    unfold oMin at q
    cases h : intsOf ds with
    | none => simp only [h] at q; exact q.elim
    | some ns =>
      simp only [h] at q
      split at q
      · exact q.elim
      rename_i hn
      have hp : 0 < ns.length := by omega
      rw [da_ints k2 h] at k1
      refine ⟨b, ns, rfl, SqL.of k1, hp, fun m h1 h2 => ?_⟩
      obtain ⟨h3, h4⟩ := leastI_mem hp
      have e : m = leastI ns := by
        have := h2 _ h3
        have := h4 _ h1
        omega
      rw [e]
      exact Fin.now q s (.int _)) hg hm (by decide +kernel) ha (he := he)
abbrev oMax2 := oI fun i j => .int (if j > i then j else i)
abbrev oMin2 := oI fun i j => .int (if j < i then j else i)
theorem de_max2 (hc : X.calm = true) (hg : Gl X "max") (hm : X.mg "max" = none) (ha : DE X c a f) (hb : DE X c b g) (he : starEach [a, b] X.env = (false, eval a X.env) :: starEach [b] X.env := by rfl) (he2 : starEach [b] X.env = (false, eval b X.env) :: starEach [] X.env := by rfl) :
    DE X c (.Call (.Name "max" p) [a, b] [] pos) (s2 oMax2 f g) :=
  dx_call2 (call_max2 hc) (fun c A H0 H1 H v w d e Q s k1 k2 q => by
    cases k1 <;> try exact q.elim
    cases k2 <;> try exact q.elim
    exact ⟨_, _, rfl, Fin.now q s (.int _)⟩) hg hm (by decide +kernel) ha hb (he := he) (he2 := he2)
theorem de_min2 (hc : X.calm = true) (hg : Gl X "min") (hm : X.mg "min" = none) (ha : DE X c a f) (hb : DE X c b g) (he : starEach [a, b] X.env = (false, eval a X.env) :: starEach [b] X.env := by rfl) (he2 : starEach [b] X.env = (false, eval b X.env) :: starEach [] X.env := by rfl) :
    DE X c (.Call (.Name "min" p) [a, b] [] pos) (s2 oMin2 f g) :=
  dx_call2 (call_min2 hc) (fun c A H0 H1 H v w d e Q s k1 k2 q => by
    cases k1 <;> try exact q.elim
    cases k2 <;> try exact q.elim
    exact ⟨_, _, rfl, Fin.now q s (.int _)⟩) hg hm (by decide +kernel) ha hb (he := he) (he2 := he2)
theorem du_tupleL {f : SL} (hg : Gl X "tuple") (hm : X.mg "tuple" = none) (ha : DL X c a f) (he : starEach [a] X.env = (false, eval a X.env) :: starEach [] X.env := by rfl) : DU X c (.Call (.Name "tuple" p) [a] [] pos) (s1 .ok f) :=
  dx_callT1 call_tuple_of (fun c A H0 H v ds Q s k q => by
    obtain ⟨b, xs, rfl, k1, k2⟩ := k
    refine ⟨b, xs, rfl, .inl ⟨SqL.of k1, fun r hr => ?_⟩⟩
    exact Fin.at q (Gr.alloc s hr) ⟨r, xs, rfl, SqT.of upd_same, da_mono (same_upd (s.free hr)) _ _ k2⟩) hg hm (by decide +kernel) ha (he := he)
theorem df_list {f : SL} (hg : Gl X "list") (hm : X.mg "list" = none) (ha : DQ X c a f) (he : starEach [a] X.env = (false, eval a X.env) :: starEach [] X.env := by rfl) : DF X c (.Call (.Name "list" p) [a] [] pos) (s1 .ok f) :=
  dx_callT1 call_list_of (fun c A H0 H v ds Q s k q => by
    obtain ⟨b, xs, rfl, k1, k2⟩ := k
    refine ⟨b, xs, rfl, k1, fun r hr => ?_⟩
    exact Fin.at q (Gr.own s hr) ⟨r, xs, rfl, hr, s.free hr, upd_same, k2⟩) hg hm (by decide +kernel) ha (he := he)
/-- isinstance(x, T), T a built-in type -/
def tyN : D → String
  | .none => "NoneType"
  | .bool _ => "bool"
  | .int _ => "int"
  | .str _ => "str"
  | .list _ => "list"
  | .tuple _ => "tuple"
  | .dict _ => "dict"
def oIsi (T : String) (d : D) : Res Bool := match d with
  | .dict _ => .no
  | d => ofO (kitB (tyN d) T)
theorem ty_of {K : PySem.W.Frag} {H : Hp} {v : V} {d : D} (h : Dp K H v d) (hd : tyN d ≠ "dict") : TyX K H v (.type (tyN d)) := by
  cases h with
  | non => exact .base .non
  | bl b => exact .base (.bl b)
  | int i => exact .base (.int i)
  | str x => exact .base (.str x)
  | lst hs _ => exact .base (.lst hs)
  | tup hs _ =>
    rcases hs with (e | ⟨o, e⟩) | ⟨o, its, n, e, hc, _⟩
    · exact .base (.tup e)
    · exact .fTuple e
    · exact .kTuple e hc
  | tok _ => exact absurd rfl hd
  | scr _ => exact absurd rfl hd
theorem dv_isi {T : String} {y : Str} {p2 : Pos} (hg : Gl X "isinstance") (hm : X.mg "isinstance" = none) (ha : DH X c a f) (hg2 : Gl X y) (hm2 : X.mg y = none) (hv2 : bootBuiltins y = some (.type T)) (hn2 : y ≠ "__name__" := by decide) (hdb2 : (y == ("__debug__" : Str)) = false := by decide)
    (he : starEach [a, .Name y p2] X.env = (false, eval a X.env) :: starEach [.Name y p2] X.env := by rfl) : DX X c rBl (.Call (.Name "isinstance" p) [a, .Name y p2] [] pos) (s1 (oIsi T) f) :=
  pe_imp (pe_callB call_isi hg hm (by decide +kernel) (pa_cons ha (pa_cons (pe_bltn (v := .ty T) hg2 hm2 hv2 rfl hn2 hdb2) pa_nil (hs := rfl)) (hs := he)) (by decide) (by decide) he (by rfl)) fun σ H Q ⟨env, A, r, q⟩ => ⟨env, A, r, Fin.step q fun d v A' H' _ g k z => by
    have hd : tyN d ≠ "dict" := by
      cases d with
      | dict _ => exact z.elim
      | none => exact (by decide : ("NoneType" : String) ≠ "dict")
      | bool _ => exact (by decide : ("bool" : String) ≠ "dict")
      | int _ => exact (by decide : ("int" : String) ≠ "dict")
      | str _ => exact (by decide : ("str" : String) ≠ "dict")
      | list _ => exact (by decide : ("list" : String) ≠ "dict")
      | tuple _ => exact (by decide : ("tuple" : String) ≠ "dict")
    have e : oIsi T d = ofO (kitB (tyN d) T) := by
      cases d with
      | dict _ => exact absurd rfl hd
      | _ => rfl
    rw [e] at z
    cases h : kitB (tyN d) T with
    | none => rw [h] at z; exact z.elim
    | some b =>
      rw [h] at z
      exact ⟨v, .ty T, .type (tyN d), .type T, b, rfl, .ty T, ty_of k hd, kit_ty h, Fin.now z g.sub rfl⟩⟩

/-! ### a def's promise -/
def spR (K : PySem.W.Frag) (mg : Str → Option Value) (n : Nat) (F : List D → Res D) : Sp := fun vs H Q E =>
  ∃ A ds, Same A H ∧ DpAll K A vs ds ∧ ds.length = n ∧ Fin K mg (rD K) E A H (F ds) Q
structure Df (P : Program) (w : World) (K : PySem.W.Frag) (mg : Str → Option Value) (base : Heap) (x : Str) (n k : Nat) (F : List D → Res D) : Prop where
  ex : ∃ f fd ps, mg x = some (.ref f) ∧ PySem.W.keepIn K (.ref f) = true ∧ Binds K fd ps [] ∧ FnOk P w K mg base (L2.CX P w) k f fd ps (spR K mg n F)
def sCall (F : List D → Res D) (n : Nat) (f : SL) : SE := fun env => (f env).bind fun ds => if ds.length = n then F ds else .no
theorem de_call {es : List Expr} {fs : SL} {n : Nat} {F : List D → Res D} (z : Cz X c k) (d : Df X.prog X.w X.K X.mg X.base x n k F) (hg : Gl X x) (ha : DA X c (e :: es) fs) (hdb : (x == ("__debug__" : Str)) = false := by decide)
    (he : starEach (e :: es) X.env = (false, eval e X.env) :: starEach es X.env := by rfl) (hpl : (backTo pos (starEach es X.env)).any (·.1) = false := by rfl) : DE X c (.Call (.Name x p) (e :: es) [] pos) (sCall F n fs) := by
  obtain ⟨f, fd, ps, h1, h2, h3, h4⟩ := d.ex
  refine pe_imp (pe_call h4 z.hr hg h1 h2 h3 .nil z.ps ha hdb he hpl) fun σ H Q ⟨env, A, r, q⟩ => ⟨env, A, r, Fin.step q fun ds vs A' H' _ g k z => ?_⟩
  rw [List.append_nil]
  split at z
  · rename_i hn
    exact ⟨A', ds, g.sub, k, hn, z⟩
  · exact z.elim

/-! ### targets -/
/-- slots is are set, nothing else -/
abbrev SetS := D → Env → Option Env
def stName (i : Nat) : SetS := fun d env => some (env.set i (.fr d))
def setAll : List Nat → List D → Env → Env
  | i :: is, d :: ds, env => setAll is ds (env.set i (.fr d))
  | _, _, env => env
def stTup (is : List Nat) : SetS := fun d env => match d with
  | .tuple ds => if ds.length = is.length then some (setAll is ds env) else none
  | _ => none
def TgOk (K : PySem.W.Frag) (mg : Str → Option Value) (g : TG) (st : SetS) (is : List Nat) : Prop :=
  ∀ (c : Cfg) (env env' : Env) (σ : L2.St) (A H : Hp) (v : V) (d : D) (Q : L2.St → Hp → Prop), Rel K mg c env σ A H → Dp K A v d → st d env = some env' →
    (∀ σ', Rel K mg c env' σ' A H → σ'.length = σ.length → (∀ j, j ∉ is → σ'[j]? = σ[j]?) → Q σ' H) → g v σ H Q
def gNames : List Nat → TGs
  | [] => gNil
  | i :: is => gCons (gName i) (gNames is)
theorem tg_name {K : PySem.W.Frag} {mg : Str → Option Value} (i : Nat) : TgOk K mg (gName i) (stName i) [i] := by
  intro c env env' σ A H v d Q r k e q
  have e' : env.set i (.fr d) = env' := Option.some.inj e
  subst e'
  exact q _ (r.set i k) (List.length_set ..) fun j hj => List.getElem?_set_ne (fun z => hj (by rw [z]; simp))
theorem gNames_ok {K : PySem.W.Frag} {mg : Str → Option Value} {c : Cfg} {A H : Hp} : ∀ (is : List Nat) (vs : List V) (ds : List D) (env : Env) (σ : L2.St) (Q : L2.St → Hp → Prop), Rel K mg c env σ A H → DpAll K A vs ds → ds.length = is.length →
    (∀ σ', Rel K mg c (setAll is ds env) σ' A H → σ'.length = σ.length → (∀ j, j ∉ is → σ'[j]? = σ[j]?) → Q σ' H) → gNames is vs σ H Q
  | [], _, [], env, σ, Q, r, .nil, _, q => ⟨rfl, q σ r rfl fun _ _ => rfl⟩
  | i :: is, _, d :: ds, env, σ, Q, r, .cons (v := v) h1 h2, hl, q => by
    refine ⟨v, _, rfl, ?_⟩
    refine gNames_ok is _ ds _ _ Q (r.set i h1) h2 (by simpa using hl) fun σ' r' l' j' => q σ' r' (by rw [l', List.length_set]) fun j hj => ?_
    rw [j' j fun z => hj (List.mem_cons_of_mem _ z), List.getElem?_set_ne]
    exact fun z => hj (by rw [z]; simp)
theorem tg_tup {K : PySem.W.Frag} {mg : Str → Option Value} (is : List Nat) : TgOk K mg (gTup K is.length (gNames is)) (stTup is) is := by
  intro c env env' σ A H v d Q r k e q
  unfold stTup at e
  cases k with
  | tup hs ha =>
    dsimp only at e
    split at e
    · rename_i hl
      cases e
      exact ⟨_, _, rfl, same_t r.bas.sAH hs, (da_len ha).trans hl, gNames_ok is _ _ env σ Q r ha hl q⟩
    · cases e
  | _ => cases e

/-! ### comprehensions -/
def Res.toO {α : Type} : Res α → Option α
  | .ok a => some a
  | _ => none
def wipeE (env : Env) : List Nat → Env
  | [] => env
  | i :: is => (wipeE env is).set i .un
def lcGo (st : SetS) (t : ST) (e : SE) (env : Env) : List D → Option (List D)
  | [] => some []
  | x :: xs => (st x env).bind fun env1 => (t env1).toO.bind fun b => if b = true then (e env1).toO.bind fun y => (lcGo st t e env xs).map (y :: ·) else lcGo st t e env xs
def sLc (src : SL) (st : SetS) (t : ST) (e : SE) (own : List Nat) : SL := fun env => (src env).bind fun ds => if ds.length ≤ 16000000 then ofO (lcGo st t e (wipeE env own) ds) else .no
def sYes : ST := fun _ => .ok true
theorem toO_ok {α : Type} {r : Res α} {a : α} (h : r.toO = some a) : r = .ok a := by
  cases r with
  | ok b => exact congrArg _ (Option.some.inj h)
  | _ => cases h
theorem rel_wipe {K : PySem.W.Frag} {mg : Str → Option Value} {env : Env} {σ : L2.St} {A H : Hp} (r : Rl K mg env σ A H) : ∀ is : List Nat, Rl K mg (wipeE env is) (wipe σ is) A H
  | [] => r
  | i :: is => (rel_wipe r is).wipe' i
theorem wipe_get (σ : L2.St) (j : Nat) : ∀ is : List Nat, (wipe σ is)[j]? = if j ∈ is then (σ[j]?).map fun _ => none else σ[j]?
  | [] => by simp [wipe]
  | i :: is => by
    unfold wipe
    by_cases h : i = j
    · subst h
      rw [if_pos List.mem_cons_self]
      by_cases hl : i < (wipe σ is).length
      · rw [List.getElem?_set_self hl]
        rw [wipe_length] at hl
        rw [List.getElem?_eq_getElem hl]
        rfl
      · rw [List.getElem?_eq_none (by rw [List.length_set]; omega)]
        rw [wipe_length] at hl
        rw [List.getElem?_eq_none (by omega)]
        rfl
    · rw [List.getElem?_set_ne h, wipe_get σ j is]
      by_cases h2 : j ∈ is
      · rw [if_pos h2, if_pos (List.mem_cons_of_mem _ h2)]
      · rw [if_neg h2, if_neg (by simp only [List.mem_cons, not_or]; exact ⟨fun z => h z.symm, h2⟩)]
theorem wipe_same {σ σ' : L2.St} {is vs : List Nat} (hl : σ'.length = (wipe σ vs).length) (h : ∀ j, j ∉ is → σ'[j]? = (wipe σ vs)[j]?) (hs : ∀ i ∈ is, i ∈ vs) : wipe σ' vs = wipe σ vs := by
  apply List.ext_getElem?
  intro j
  rw [wipe_get, wipe_get]
  by_cases hj : j ∈ vs
  · rw [if_pos hj, if_pos hj]
    rw [wipe_length] at hl
    by_cases hlt : j < σ.length
    · rw [List.getElem?_eq_getElem hlt, List.getElem?_eq_getElem (by omega)]
      rfl
    · rw [List.getElem?_eq_none (by omega), List.getElem?_eq_none (by omega)]
  · rw [if_neg hj, if_neg hj, h j (fun z => hj (hs j z)), wipe_get, if_neg hj]
/-- the turn of a comprehension, told by what is left to do -/
def LcPv (K : PySem.W.Frag) (go : List D → Option (List D)) (ds res : List D) (A1 H1 : Hp) (Dl : Addr) (i : Nat) (H' : Hp) : Prop :=
  ∃ A' acc accd r, Gr A1 H1 A' H' ∧ A' Dl = none ∧ H' Dl = some (.lst acc) ∧ DpAll K A' acc accd ∧ acc.length ≤ i ∧ go (ds.drop i) = some r ∧ res = accd ++ r
theorem lc_turn {K : PySem.W.Frag} {mg : Str → Option Value} {st : SetS} {t : ST} {e : SE} {is vs : List Nat} {tg : TG} {env : Env} {σ : L2.St} {ds res : List D} {A1 H1 : Hp} {Dl : Addr} {i : Nat} {H' : Hp} {d : D} {x : V} (tgo : TgOk K mg tg st is) (hsub : ∀ i ∈ is, i ∈ vs)
    (r : Rl K mg env σ A1 H1) (hD : H1 Dl = none) (hi : i < 16000001) (hd : ds[i]? = some d) (hx : ∀ A', Gr A1 H1 A' H' → Dp K A' x d) (p : LcPv K (lcGo st t e (wipeE env vs)) ds res A1 H1 Dl i H') :
    tg x (wipe σ vs) H' fun σ2 H2 => wipe σ2 vs = wipe σ vs ∧ (tX K mg rB E0 t) σ2 H2 fun b H3 =>
      if b = true then (tX K mg (rD K) E0 e) σ2 H3 fun y H4 => ∃ acc, H4 Dl = some (.lst acc) ∧ acc.length < sizeLine ∧ LcPv K (lcGo st t e (wipeE env vs)) ds res A1 H1 Dl (i + 1) (upd H4 Dl (.lst (acc ++ [y]))) else LcPv K (lcGo st t e (wipeE env vs)) ds res A1 H1 Dl (i + 1) H3 := by
  obtain ⟨A', acc, accd, rr, g, nA, hl, hdl, hlen, hgo, hres⟩ := p
  have hdr : ds.drop i = d :: ds.drop (i + 1) := by
    have hlt := (List.getElem?_eq_some_iff.mp hd).1
    have he := (List.getElem?_eq_some_iff.mp hd).2
    rw [List.drop_eq_getElem_cons hlt, he]
  rw [hdr] at hgo
  unfold lcGo at hgo
  cases h1 : st d (wipeE env vs) with
  | none => rw [h1] at hgo; cases hgo
  | some env1 =>
  rw [h1] at hgo
  simp only [Option.bind_some] at hgo
  obtain ⟨cc, rc⟩ := rel_wipe (r.grow g) vs
  refine tgo cc _ env1 _ A' H' x d _ rc (hx A' g) h1 fun σ2 r2' l2 j2 => ⟨wipe_same l2 j2 hsub, ?_⟩
  have r2 := r2'.rl
  cases h2 : (t env1).toO with
  | none => rw [h2] at hgo; cases hgo
  | some b =>
  rw [h2] at hgo
  simp only [Option.bind_some] at hgo
  refine ⟨env1, A', r2, ?_⟩
  rw [toO_ok h2]
  intro b' A3 H3 g3 eb
  cases eb
  have keepD : ∀ {A3 H3 : Hp}, Gr A' H' A3 H3 → A3 Dl = none := fun {A3 H3} g3 => by
    cases z : A3 Dl with
    | none => rfl
    | some o =>
      rcases g3.new Dl (by rw [z]; simp) with y | y
      · exact absurd nA y
      · rw [hl] at y; cases y
  cases b with
  | false =>
    refine iteF ⟨A3, acc, accd, rr, g.trans g3, keepD g3, g3.ex _ _ hl, da_mono g3.exA _ _ hdl, by omega, ?_, hres⟩
    rw [if_neg Bool.false_ne_true] at hgo
    exact hgo
  | true =>
    rw [if_pos rfl] at hgo
    refine iteT ⟨env1, A3, r2.grow g3, ?_⟩
    cases h3 : (e env1).toO with
    | none => rw [h3] at hgo; cases hgo
    | some y =>
    rw [h3] at hgo
    simp only [Option.bind_some] at hgo
    rw [toO_ok h3]
    intro v A4 H4 g4 kv
    have g34 := g3.trans g4
    refine ⟨acc, g34.ex _ _ hl, by rw [sizeLine_eq]; omega, ?_⟩
    cases h4 : lcGo st t e (wipeE env vs) (ds.drop (i + 1)) with
    | none => rw [h4] at hgo; cases hgo
    | some r'' =>
    rw [h4] at hgo
    have e5 : y :: r'' = rr := Option.some.inj hgo
    have n4 := keepD g34
    have gg := g.trans g34
    refine ⟨A4, acc ++ [v], accd ++ [y], r'', ⟨fun b o q => ?_, gg.exA, fun b o q => ?_, gg.new⟩, n4, upd_same, da_app (da_mono g34.exA _ _ hdl) (da_one kv), by rw [List.length_append, List.length_singleton]; omega, h4, ?_⟩
    · rw [upd_ne (ne_of_none q hD)]; exact gg.ex _ _ q
    · rw [upd_ne (ne_of_none q n4)]; exact gg.sub _ _ q
    · rw [hres, ← e5, List.append_assoc]; rfl
theorem lc_start {K : PySem.W.Frag} {go : List D → Option (List D)} {ds res : List D} {A1 H1 : Hp} {Dl : Addr} (s : Same A1 H1) (hD : H1 Dl = none) (h : go ds = some res) : LcPv K go ds res A1 H1 Dl 0 (upd H1 Dl (.lst [])) :=
  ⟨A1, [], [], res, Gr.own s hD, s.free hD, upd_same, .nil, Nat.le_refl _, h, rfl⟩
theorem lc_end {K : PySem.W.Frag} {mg : Str → Option Value} {st : SetS} {t : ST} {e : SE} {env : Env} {ds res : List D} {A1 H1 : Hp} {Dl : Addr} {H' : Hp} {n : Nat} {Q : VK} (hD : H1 Dl = none) (hn : ds.length = n) (q : Fin K mg (rF K) c A1 H1 (.ok res) Q)
    (p : LcPv K (lcGo st t e env) ds res A1 H1 Dl n H') : Q (.ref Dl) H' := by
  obtain ⟨A', acc, accd, rr, g, nA, hl, hdl, hlen, hgo, hres⟩ := p
  rw [List.drop_of_length_le (by omega)] at hgo
  have e1 : [] = rr := Option.some.inj hgo
  rw [← e1, List.append_nil] at hres
  exact q _ A' H' g ⟨Dl, acc, rfl, hD, nA, hl, by rw [hres]; exact hdl⟩
section
variable {elt tg iter : Expr} {ifs : List Expr} {scope : Scope} {own : List (Str × Nat)} {gt : TG} {st : SetS} {is : List Nat} {t : ST} {el : SE} {src : SL}
/-- the three parts of a comprehension's block -/
abbrev Blk1 (X : Cx) (scope : Scope) (tg : Expr) (g : TG) : Prop := ∀ (s : Shared) (H : Hp) (C : Addr) (cl : List (Str × Addr)) (fp : List Addr), PG (X.blk s H scope (compEnvC scope cl C X.env) fp) tg g
abbrev Blk2 (X : Cx) (c : XK) (scope : Scope) (ifs : List Expr) (t : ST) : Prop := ∀ (s : Shared) (H : Hp) (C : Addr) (cl : List (Str × Addr)) (fp : List Addr), PTs (X.blk s H scope (compEnvC scope cl C X.env) fp) ifs (tX X.K X.mg rB E0 t)
abbrev Blk3 (X : Cx) (c : XK) (scope : Scope) (e : Expr) (f : SE) : Prop := ∀ (s : Shared) (H : Hp) (C : Addr) (cl : List (Str × Addr)) (fp : List Addr), DE (X.blk s H scope (compEnvC scope cl C X.env) fp) E0 e f
theorem pts_yes {X' : Cx} {c : XK} : PTs X' [] (tX X'.K X'.mg rB c sYes) := ⟨fun pins s σ H Q I ⟨env, A, r, q⟩ => pts_nil.run pins s σ H Q I (Fin.now q r.sAH rfl)⟩
theorem lcd_list (tgo : TgOk X.K X.mg gt st is) (hsub : ∀ i ∈ is, i ∈ own.map (·.2)) {σ : L2.St} {H : Hp} {Q : VK} (q : tX X.K X.mg (rF X.K) c (sLc src st t el (own.map (·.2))) σ H Q) :
    tLc (iList X.K (tX X.K X.mg (rL X.K) c src)) gt (tX X.K X.mg rB E0 t) (tX X.K X.mg (rD X.K) E0 el) (own.map (·.2)) σ H Q := by
  obtain ⟨env, A, r, q⟩ := q
  refine ⟨env, A, r, Fin.step q fun ds v A1 H1 _ g1 ⟨a, xs, e, hs, hd⟩ q1 => ⟨a, e, ⟨xs, SqL.of hs⟩, fun Dl hD => ?_⟩⟩
  split at q1
  · rename_i hl
    cases h : lcGo st t el (wipeE env (own.map (·.2))) ds with
    | none => rw [h] at q1; exact q1.elim
    | some res =>
    rw [h] at q1
    refine lc_list (K := X.K) (xs := xs) (LcPv X.K (lcGo st t el (wipeE env (own.map (·.2)))) ds res A1 H1 Dl) (lc_start g1.sub hD h) (fun i H' _ ⟨A', _, _, _, g, _⟩ => SqL.of (g.ex _ _ hs)) (fun i x H' hx p => ?_) fun H' p => lc_end hD (da_len hd).symm q1 p
    obtain ⟨d, hd1, hd2⟩ := da_get' hd hx
    have hlt := (List.getElem?_eq_some_iff.mp hd1).1
    exact lc_turn tgo hsub (r.grow g1) hD (by omega) hd1 (fun A' g => dp_mono g.exA _ _ hd2) p
  · exact q1.elim
theorem lcd_tup (tgo : TgOk X.K X.mg gt st is) (hsub : ∀ i ∈ is, i ∈ own.map (·.2)) {σ : L2.St} {H : Hp} {Q : VK} (q : tX X.K X.mg (rF X.K) c (sLc src st t el (own.map (·.2))) σ H Q) :
    tLc (iTup X.K (tX X.K X.mg (rU X.K) c src)) gt (tX X.K X.mg rB E0 t) (tX X.K X.mg (rD X.K) E0 el) (own.map (·.2)) σ H Q := by
  obtain ⟨env, A, r, q⟩ := q
  refine ⟨env, A, r, Fin.step q fun ds v A1 H1 _ g1 ⟨a, xs, e, hs, hd⟩ q1 => ⟨a, e, ⟨xs, same_t g1.sub hs⟩, fun Dl hD => ?_⟩⟩
  split at q1
  · rename_i hl
    cases h : lcGo st t el (wipeE env (own.map (·.2))) ds with
    | none => rw [h] at q1; exact q1.elim
    | some res =>
    rw [h] at q1
    refine lc_tup (K := X.K) (xs := xs) (LcPv X.K (lcGo st t el (wipeE env (own.map (·.2)))) ds res A1 H1 Dl) (lc_start g1.sub hD h) (fun i H' _ ⟨A', _, _, _, g, _⟩ => same_t g.ex (same_t g1.sub hs)) (fun i x H' hx p => ?_) fun H' p => lc_end hD (da_len hd).symm q1 p
    obtain ⟨d, hd1, hd2⟩ := da_get' hd hx
    have hlt := (List.getElem?_eq_some_iff.mp hd1).1
    exact lc_turn tgo hsub (r.grow g1) hD (by omega) hd1 (fun A' g => dp_mono g.exA _ _ hd2) p
  · exact q1.elim
/-- range(n), range(a, b) -/
def rng (lo : Int) (n : Nat) : List D := (List.range n).map fun (i : Nat) => .int (lo + (i : Int))
def inR (i : Int) : Bool := Nat.blt i.natAbs (2 ^ 62)
def sRng1 (f : SE) : SL := s1 (fun d => match d with
  | .int j => if inR j = true then .ok (rng 0 j.toNat) else .no
  | _ => .no) f
def sRng2 (f g : SE) : SL := s2 (fun d e => match d, e with
  | .int i, .int j => if (inR i && inR j) = true then .ok (rng i (j - i).toNat) else .no
  | _, _ => .no) f g
theorem rng_len (lo : Int) (n : Nat) : (rng lo n).length = n := by unfold rng; rw [List.length_map, List.length_range]
theorem rng_get {lo : Int} {n i : Nat} (h : i < n) : (rng lo n)[i]? = some (.int (lo + i)) := by
  unfold rng
  rw [List.getElem?_map, List.getElem?_range h]
  rfl
theorem inR_iff {i : Int} (h : inR i = true) : -(2 ^ 62) ≤ i ∧ i < 2 ^ 62 := by
  have h : i.natAbs < 2 ^ 62 := Nat.blt_eq.mp h
  omega
theorem lc_rng {env : Env} {σ : L2.St} {A1 H1 : Hp} {Q : VK} {lo : Int} {n : Nat} (tgo : TgOk X.K X.mg gt st is) (hsub : ∀ i ∈ is, i ∈ own.map (·.2)) (r : Rl X.K X.mg env σ A1 H1)
    (q1 : Fin X.K X.mg (rF X.K) c A1 H1 (if (rng lo n).length ≤ 16000000 then ofO (lcGo st t el (wipeE env (own.map (·.2))) (rng lo n)) else .no) Q) :
    ∀ D, H1 D = none → ∃ W : Nat → Nat → Hp → Prop, (∃ m, W 0 m (upd H1 D (.lst []))) ∧ ∀ i m H, W i m H →
      ((Itr lo n).stop i H ∧ Q (.ref D) H) ∨ ((Itr lo n).go i H ∧ ∃ Nx : Hp → Prop, (∀ H', Nx H' → ∃ m', m' < m ∧ W (i + 1) m' H') ∧ ∀ x H', (Itr lo n).yld i H x H' → gt x (wipe σ (own.map (·.2))) H' fun σ2 H2 => wipe σ2 (own.map (·.2)) = wipe σ (own.map (·.2)) ∧ (tX X.K X.mg rB E0 t) σ2 H2 fun b H3 =>
        if b = true then (tX X.K X.mg (rD X.K) E0 el) σ2 H3 fun y H4 => ∃ acc, H4 D = some (.lst acc) ∧ acc.length < sizeLine ∧ Nx (upd H4 D (.lst (acc ++ [y]))) else Nx H3) := by
  intro Dl hD
  split at q1
  · rename_i hl
    cases h : lcGo st t el (wipeE env (own.map (·.2))) (rng lo n) with
    | none => rw [h] at q1; exact q1.elim
    | some res =>
    rw [h] at q1
    rw [rng_len] at hl
    refine lc_range (lo := lo) (n := n) (LcPv X.K (lcGo st t el (wipeE env (own.map (·.2)))) (rng lo n) res A1 H1 Dl) (lc_start r.sAH hD h) (fun i H' hi p => ?_) fun H' p => lc_end hD (rng_len _ _) q1 p
    exact lc_turn tgo hsub r hD (by omega) (rng_get hi) (fun A' g => .int _) p
  · exact q1.elim
theorem lcd_rng1 (tgo : TgOk X.K X.mg gt st is) (hsub : ∀ i ∈ is, i ∈ own.map (·.2)) {σ : L2.St} {H : Hp} {Q : VK} (q : tX X.K X.mg (rF X.K) c (sLc (sRng1 f) st t el (own.map (·.2))) σ H Q) :
    tLc (iRng1 (tCons (tX X.K X.mg (rD X.K) c f) tNil)) gt (tX X.K X.mg rB E0 t) (tX X.K X.mg (rD X.K) E0 el) (own.map (·.2)) σ H Q := by
  obtain ⟨env, A, r, q⟩ := q
  have q' : Fin X.K X.mg (rF X.K) c A H ((f env).bind fun d => Res.bind (match d with
      | .int j => if inR j = true then .ok (rng 0 j.toNat) else .no
      | _ => .no) fun ds => if ds.length ≤ 16000000 then ofO (lcGo st t el (wipeE env (own.map (·.2))) ds) else .no) Q := by
    have e : sLc (sRng1 f) st t el (own.map (·.2)) env = (f env).bind fun d => Res.bind (match d with
      | .int j => if inR j = true then .ok (rng 0 j.toNat) else .no
      | _ => .no) fun ds => if ds.length ≤ 16000000 then ofO (lcGo st t el (wipeE env (own.map (·.2))) ds) else .no := by
      unfold sLc sRng1 s1
      exact Res.bind_assoc _ _ _
    rw [← e]; exact q
  refine ⟨env, A, r, Fin.step q' fun d v A1 H1 _ g1 k1 q1 => ?_⟩
  cases k1 with
  | int j =>
    dsimp only at q1
    by_cases hj : inR j = true
    · rw [if_pos hj] at q1
      exact ⟨j, rfl, (inR_iff hj).1, (inR_iff hj).2, lc_rng tgo hsub (r.grow g1) q1⟩
    · rw [if_neg hj] at q1; exact q1.elim
  | _ => exact q1.elim
theorem lcd_rng2 (tgo : TgOk X.K X.mg gt st is) (hsub : ∀ i ∈ is, i ∈ own.map (·.2)) {σ : L2.St} {H : Hp} {Q : VK} (q : tX X.K X.mg (rF X.K) c (sLc (sRng2 f g) st t el (own.map (·.2))) σ H Q) :
    tLc (iRng2 (tCons (tX X.K X.mg (rD X.K) c f) (tCons (tX X.K X.mg (rD X.K) c g) tNil))) gt (tX X.K X.mg rB E0 t) (tX X.K X.mg (rD X.K) E0 el) (own.map (·.2)) σ H Q := by
  obtain ⟨env, A, r, q⟩ := q
  have q' : Fin X.K X.mg (rF X.K) c A H ((f env).bind fun d => (g env).bind fun e => Res.bind (match d, e with
      | .int i, .int j => if (inR i && inR j) = true then .ok (rng i (j - i).toNat) else .no
      | _, _ => .no) fun ds => if ds.length ≤ 16000000 then ofO (lcGo st t el (wipeE env (own.map (·.2))) ds) else .no) Q := by
    have e : sLc (sRng2 f g) st t el (own.map (·.2)) env = (f env).bind fun d => (g env).bind fun e => Res.bind (match d, e with
      | .int i, .int j => if (inR i && inR j) = true then .ok (rng i (j - i).toNat) else .no
      | _, _ => .no) fun ds => if ds.length ≤ 16000000 then ofO (lcGo st t el (wipeE env (own.map (·.2))) ds) else .no := by
      unfold sLc sRng2 s2
      rw [Res.bind_assoc]
      exact congrArg _ (funext fun d => Res.bind_assoc _ _ _)
    rw [← e]; exact q
  refine ⟨env, A, r, Fin.step q' fun d v A1 H1 _ g1 k1 q1 => ⟨env, A1, r.grow g1, Fin.step q1 fun d2 v2 A2 H2 _ g2 k2 q2 => ?_⟩⟩
  cases k1 with
  | int i =>
    cases k2 with
    | int j =>
      dsimp only at q2
      by_cases hj : (inR i && inR j) = true
      · rw [if_pos hj] at q2
        rw [Bool.and_eq_true] at hj
        exact ⟨i, j, rfl, ⟨(inR_iff hj.1).1, (inR_iff hj.1).2, (inR_iff hj.2).1, (inR_iff hj.2).2⟩, lc_rng tgo hsub ((r.grow g1).grow g2) q2⟩
      · rw [if_neg hj] at q2; exact q2.elim
    | _ => exact q2.elim
  | _ => cases k2 <;> exact q2.elim
end
end
end TB

/-! TBE: statements, defs. -/
namespace TB
open PySem PySem.Spec L2
open PyProof.Rows hiding St

section
variable (K : PySem.W.Frag) (mg : Str → Option Value)
def FinS (E : XK) (c : Cfg) : Res Out → Ends → Prop
  | .ok (.nx e), D => ∀ σ A H, Rel K mg c e σ A H → D.nx σ H
  | .ok (.rt d e), D => ∀ v σ A H, Rel K mg c e σ A H → Dp K A v d → D.rt v H
  | .ok (.bk e), D => ∀ σ A H, Rel K mg c e σ A H → D.bk σ H
  | .ok (.ct e), D => ∀ σ A H, Rel K mg c e σ A H → D.ct σ H
  | .ex x, _ => ∀ cls dd A H, Bas c A H → ExnAt K mg x cls dd A H → E cls dd H
  | .no, _ => False
  | .any P k, D => ∀ i, P i → FinS E c (k i) D
def tS (E : XK) (b : SS) : TS := fun D σ H => ∃ c env A, Rel K mg c env σ A H ∧ FinS K mg E c (b env) D
end
section
variable {K : PySem.W.Frag} {mg : Str → Option Value} {E : XK} {c : Cfg} {A H : Hp} {α β : Type} {R : α → β → Hp → Hp → Hp → Prop}
theorem FinS.step {k : α → Res Out} {D : Ends} {Q' : β → Hp → Prop} : ∀ {r : Res α}, FinS K mg E c (r.bind k) D → Bas c A H →
    (∀ a b A' H', True → Gr A H A' H' → R a b H A' H' → FinS K mg E c (k a) D → Q' b H') → Fin K mg R E A H r Q'
  | .ok a, h, bas, hk => fun b A2 H2 g q => hk a b A2 H2 trivial g q h
  | .ex x, h, bas, hk => fun cls dd A2 H2 g q => h cls dd A2 H2 (bas.grow g) q
  | .no, h, _, _ => h
  | .any P f, h, bas, hk => fun i hi => FinS.step (r := f i) (h i hi) bas hk
theorem FinS.conv {w : Cfg} {k : Out → Res Out} {D D' : Ends} (i : ∀ o, FinS K mg E c (k o) D → FinS K mg E w (.ok o) D') (ix : ∀ {A H}, Bas w A H → Bas c A H) : ∀ {r : Res Out}, FinS K mg E c (r.bind k) D → FinS K mg E w r D'
  | .ok o, h => i o h
  | .ex x, h => fun cls dd A H b q => h cls dd A H (ix b) q
  | .no, h => h
  | .any P f, h => fun j hj => FinS.conv i ix (r := f j) (h j hj)
end
abbrev DS (X : Cx) (c : XK) (s : Stmt) (b : SS) : Prop := PS X s (tS X.K X.mg c b)
abbrev DSs (X : Cx) (c : XK) (s : List Stmt) (b : SS) : Prop := PSs X s (tS X.K X.mg c b)
/-- what statements need besides -/
structure Cs (X : Cx) (c : XK) (k : Nat) : Prop extends Cz X c k where
  own : PassesOwn (model X.prog X.w) X.A X.env X.xe
  nd : X.N.Nodup
  tk : Takes X (fun cls d _ H => c cls d H)

/-! ### semantic functions -/
def sNext : SS := fun env => .ok (.nx env)
def sSeq (f g : SS) : SS := fun env => (f env).bind fun o => match o with
  | .nx e => g e
  | o => .ok o
def sSet (i : Nat) (f : SE) : SS := fun env => (f env).bind fun d => .ok (.nx (env.set i (.fr d)))
def sSetF (i : Nat) (f : SL) : SS := fun env => (f env).bind fun ds => .ok (.nx (env.set i (.ow ds)))
def sSetT (st : SetS) (f : SE) : SS := fun env => (f env).bind fun d => match st d env with
  | some e => .ok (.nx e)
  | none => .no
def sDrop (f : SE) : SS := fun env => (f env).bind fun _ => .ok (.nx env)
def sApp (i : Nat) (f : SE) : SS := fun env => match env[i]? with
  | some (.ow ds) => (f env).bind fun d => if ds.length ≤ 16000000 then .ok (.nx (env.set i (.ow (ds ++ [d])))) else .no
  | _ => .no
def sRet (f : SE) : SS := fun env => (f env).bind fun d => .ok (.rt d env)
def sRetV (i : Nat) : SS := fun env => match env[i]? with
  | some (.ow ds) => .ok (.rt (.list ds) (env.set i (.fr (.list ds))))
  | some (.fr d) => .ok (.rt d env)
  | _ => .no
def sRetN : SS := fun env => .ok (.rt .none env)
def sIf (t : ST) (f g : SS) : SS := fun env => (t env).bind fun b => if b = true then f env else g env
def sBreak : SS := fun env => .ok (.bk env)
def sCont : SS := fun env => .ok (.ct env)
def killE (env : Env) : List Nat → Env
  | [] => env
  | i :: is => (killE env is).set i .un
def forL (st : SetS) (b : SS) (kill : List Nat) : List D → Env → Res Out
  | [], env => .ok (.nx env)
  | x :: xs, env => match st x env with
    | none => .no
    | some e => (b e).bind fun o => match o with
      | .nx e' => forL st b kill xs (killE e' kill)
      | .ct e' => forL st b kill xs (killE e' kill)
      | .bk e' => .ok (.nx (killE e' kill))
      | .rt d e' => .ok (.rt d e')
def sFor (src : SL) (st : SetS) (b : SS) (kill : List Nat) : SS := fun env => (src env).bind fun ds => forL st b kill ds (killE env kill)

section
variable {X : Cx} {c : XK} {a b e : Expr} {f g : SE} {pos p : Pos} {x : Str} {k : Nat} {st : Stmt} {sts : List Stmt}
theorem ds_of {t : TS} (h : PS X st t) {s : SS} (i : ∀ w env A σ H D, Rel X.K X.mg w env σ A H → FinS X.K X.mg c w (s env) D → t D σ H) : DS X c st s := ps_imp h fun D σ H ⟨w, env, A, r, q⟩ => i w env A σ H D r q
theorem ds_nil : DSs X c [] sNext := pss_imp pss_nil fun D σ H ⟨w, env, A, r, q⟩ => q σ A H r
theorem ds_one {s : SS} (h : DS X c st s) : DSs X c [st] s := pss_imp (pss_one h) fun D σ H q => q
theorem FinS.then_ {K : PySem.W.Frag} {mg : Str → Option Value} {w : Cfg} {r : Res Out} {g : SS} {D : Ends} (h : FinS K mg c w (r.bind fun o => match o with
    | .nx e => g e
    | o => .ok o) D) : FinS K mg c w r { D with nx := tS K mg c g D } :=
  h.conv (fun o h => by
    cases o with
    | nx e => exact fun σ A H q => ⟨w, e, A, q, h⟩
    | rt d e => exact h
    | bk e => exact h
    | ct e => exact h) fun b => b
theorem ds_cons {s t : SS} (h : DS X c st s) (h2 : DSs X c sts t) : DSs X c (st :: sts) (sSeq s t) := pss_imp (pss_cons h h2) fun D σ H ⟨w, env, A, r, q⟩ => ⟨w, env, A, r, q.then_⟩
theorem ds_asgT {gt : TG} {ss : SetS} {is : List Nat} {tg : Expr} (tgo : TgOk X.K X.mg gt ss is) (hg : PG X tg gt) (he : DE X c e f) (hs : swapsWithSole [tg] e pos.line X.env = pure false := by rfl) (hw : swappedStores [tg] e X.env = pure none := by rfl)
    (h1 : (assignEach [tg] X.env).map (·.2) = [assign tg X.env] := by rfl) : DS X c (.Assign [tg] e pos) (sSetT ss f) :=
  ds_of (ps_asg he hg hs hw h1) fun w env A σ H D r q => ⟨env, A, r.rl, FinS.step q r.bas fun d v A' H' _ g k z => by
    cases h : ss d env with
    | none => simp only [h] at z; exact z.elim
    | some e =>
      simp only [h] at z
      exact tgo w env e σ A' H' v d _ (r.grow g) k h fun σ' r' _ _ => z σ' A' H' r'⟩
theorem ds_set {i : Nat} {pos' : Pos} (z : Cs X c k) (he : DE X c e f) (hi : X.N[i]? = some x := by rfl) (hx : Loc X.env.scope x := by first | exact .inl rfl | exact .inr rfl) (hs : swapsWith e (some (.Name x pos')) pos.line X.env = pure false := by rfl)
    (hf : X.fn x = true ∨ X.env.scope.names.lookup x = some .local := by first | exact .inl rfl | exact .inr rfl) : DS X c (.Assign [.Name x pos'] e pos) (sSet i f) :=
  ds_of (ps_set z.nd hi hx he hs hf) fun w env A σ H D r q => ⟨env, A, r.rl, FinS.step q r.bas fun d v A' H' _ g k z => z _ A' H' ((r.grow g).set i k)⟩
theorem ds_setF {i : Nat} {pos' : Pos} {f : SL} (z : Cs X c k) (he : DF X c e f) (hi : X.N[i]? = some x := by rfl) (hx : Loc X.env.scope x := by first | exact .inl rfl | exact .inr rfl) (hs : swapsWith e (some (.Name x pos')) pos.line X.env = pure false := by rfl)
    (hf : X.fn x = true ∨ X.env.scope.names.lookup x = some .local := by first | exact .inl rfl | exact .inr rfl) : DS X c (.Assign [.Name x pos'] e pos) (sSetF i f) :=
  ds_of (ps_set z.nd hi hx he hs hf) fun w env A σ H D r q => ⟨env, A, r.rl, FinS.step q r.bas fun ds v A' H' _ g ⟨p, xs, e, n, nA, hl, hd⟩ z => by
    subst e
    exact z _ A' H' (r.setOw i g n nA hl hd)⟩
theorem ds_drop (he : DE X c e f) (hs : swapsWith e none pos.line X.env = pure false := by rfl) : DS X c (.Expr e pos) (sDrop f) :=
  ds_of (ps_expr he hs) fun w env A σ H D r q => ⟨env, A, r.rl, FinS.step q r.bas fun d v A' H' _ g k z => z σ A' H' (r.grow g)⟩
theorem ds_app {i : Nat} {apos cpos : Pos} (hv : PE X a (tVar i)) (he : DE X c e f) (hs : swapsWith (.Call (.Attribute a "append" apos) [e] [] cpos) none pos.line X.env = pure false := by rfl)
    (hbase : attributeBase a "append" X.env (eval a X.env) = eval a X.env := by rfl)
    (hfew : ((backTo cpos (starEach [e] X.env)).all (fun x => !x.1) && (backToKw cpos (keywordEach [] X.env)).all (fun x => x.1.isSome)
      && decide ([e].length + ([] : List Keyword).length + (if ([] : List Keyword).isEmpty then 0 else 1) < 30)) = true := by rfl)
    (hline : (apos.endLine == cpos.line) = true := by rfl) (hs2 : starEach [e] X.env = (false, eval e X.env) :: starEach [] X.env := by rfl) :
    DS X c (.Expr (.Call (.Attribute a "append" apos) [e] [] cpos) pos) (sApp i f) :=
  ds_of (ps_expr (pe_bm PySem.F.plainAttrs_list PySem.F.slot_list_append PySem.F.type_list_append mt_append hv (pa_cons he pa_nil (hs := hs2)) hbase hfew hline hs2 (by rfl)) hs) fun w env A σ H D r q => by
    unfold sApp at q
    cases h : env[i]? with
    | none => rw [h] at q; exact q.elim
    | some sl =>
    rw [h] at q
    cases sl with
    | ow ds =>
      obtain ⟨l, xs, h1, h2, h3, h4, h5⟩ := r.ow h
      refine ⟨.ref l, h1, .inl ⟨rfl, _, SqL.of h2⟩, env, A, r.rl, FinS.step q r.bas fun d v A' H' _ g k z => ?_⟩
      split at z
      · rename_i hl
        refine ⟨l, xs, v, rfl, rfl, g.ex _ _ h2, by rw [da_len h3, sizeLine_eq]; omega, ?_⟩
        exact z _ A' _ ((r.grow g).chg i h h1 (da_app (da_mono g.exA _ _ h3) (da_one k)))
      · exact z.elim
    | _ => exact q.elim
theorem ds_ret (he : DE X c e f) : DS X c (.Return (some e) pos) (sRet f) :=
  ds_of (ps_ret he) fun w env A σ H D r q => ⟨env, A, r.rl, FinS.step q r.bas fun d v A' H' _ g k z => z v σ A' H' (r.grow g) k⟩
theorem ds_retV {i : Nat} (hv : PE X e (tVar i)) : DS X c (.Return (some e) pos) (sRetV i) :=
  ds_of (ps_ret hv) fun w env A σ H D r q => by
    unfold sRetV at q
    cases h : env[i]? with
    | none => rw [h] at q; exact q.elim
    | some sl =>
    rw [h] at q
    cases sl with
    | ow ds =>
      obtain ⟨a, A', h1, h2, h3⟩ := r.freeze i h
      exact ⟨.ref a, h1, q _ σ A' H h2 h3⟩
    | fr d =>
      obtain ⟨v, h1, h2⟩ := r.fr h
      exact ⟨v, h1, q _ σ A H r h2⟩
    | _ => exact q.elim
theorem ds_retN : DS X c (.Return none pos) sRetN := ds_of ps_retN fun w env A σ H D r q => q .non σ A H r .non
theorem ds_if {d : Expr} {t : ST} {s1 s2 : List Stmt} {f g : SS} (ht : DT X c d t) (h1 : DSs X c s1 f) (h2 : DSs X c s2 g) : DS X c (.If d s1 s2 pos) (sIf t f g) :=
  ds_of (ps_if ht h1 h2) fun w env A σ H D r q => ⟨env, A, r.rl, FinS.step q r.bas fun d v A' H' _ g k z => by
    cases k
    cases d with
    | true => exact iteT ⟨w, env, A', r.grow g, z⟩
    | false => exact iteF ⟨w, env, A', r.grow g, z⟩⟩
theorem ds_break : DS X c (.Break pos) sBreak := ds_of ps_break fun w env A σ H D r q => q σ A H r
theorem ds_cont : DS X c (.Continue pos) sCont := ds_of ps_continue fun w env A σ H D r q => q σ A H r
theorem ds_pass : DS X c (.Pass pos) sNext := ds_of ps_pass fun w env A σ H D r q => q σ A H r
/-- x = [.. for ..] -/
theorem ds_setLc {i : Nat} {y : Str} {py spos : Pos} {elt tg iter : Expr} {ifs : List Expr} {scope : Scope} {own : List (Str × Nat)} {wi : TI} {gt : TG} {st : SetS} {is : List Nat} {t : ST} {el : SE} {src : SL} (z : Cs X c k) (hi : PI X tg iter wi)
    (rd : ∀ σ H Q, tX X.K X.mg (rF X.K) c (sLc src st t el (own.map (·.2))) σ H Q → tLc wi gt (tX X.K X.mg rB E0 t) (tX X.K X.mg (rD X.K) E0 el) (own.map (·.2)) σ H Q) (ok : BlkOk X.N X.env.scope scope own)
    (hg : Blk1 X scope tg gt) (ht : Blk2 X c scope ifs t) (he : Blk3 X c scope elt el) (hy : X.N[i]? = some y := by rfl) (hyl : X.env.scope.names.lookup y = some .local := by rfl)
    (hsw : swapsWith (.ListComp elt [⟨tg, iter, ifs, 0⟩] scope pos) (some (.Name y py)) spos.line X.env = pure true := by exact sw_true rfl rfl rfl (by decide +kernel)) (hs : ∀ x, foldedSetIterable iter X.env x = pure x := by intro _; rfl) :
    DS X c (.Assign [.Name y py] (.ListComp elt [⟨tg, iter, ifs, 0⟩] scope pos) spos) (sSetF i (sLc src st t el (own.map (·.2)))) :=
  ds_of (ps_setLc z.calm z.nd hy hyl hsw hi ok hg ht he hs) fun w env A σ H D r q => rd _ _ _ ⟨env, A, r.rl, FinS.step q r.bas fun ds v A' H' _ g ⟨p, xs, e, n, nA, hl, hd⟩ z => by
    subst e
    exact z _ A' H' (r.setOw i g n nA hl hd)⟩
/-- [.. for ..] as a value -/
theorem df_lc {elt tg iter : Expr} {ifs : List Expr} {scope : Scope} {own : List (Str × Nat)} {wi : TI} {gt : TG} {st : SetS} {is : List Nat} {t : ST} {el : SE} {src : SL} (hc : X.calm = true) (hN : X.N.Nodup) (hi : PI X tg iter wi)
    (rd : ∀ σ H Q, tX X.K X.mg (rF X.K) c (sLc src st t el (own.map (·.2))) σ H Q → tLc wi gt (tX X.K X.mg rB E0 t) (tX X.K X.mg (rD X.K) E0 el) (own.map (·.2)) σ H Q) (ok : BlkOk X.N X.env.scope scope own)
    (hg : Blk1 X scope tg gt) (ht : Blk2 X c scope ifs t) (he : Blk3 X c scope elt el) (hs : ∀ x, foldedSetIterable iter X.env x = pure x := by intro _; rfl) :
    DF X c (.ListComp elt [⟨tg, iter, ifs, 0⟩] scope pos) (sLc src st t el (own.map (·.2))) := pe_imp (pe_lc hc hN hi ok hg ht he hs) rd


/-! ### for -/
/-- a list that stays -/
def rZ (K : PySem.W.Frag) : List D → V → Hp → Hp → Hp → Prop := fun ds v _ A _ => ∃ a xs, v = .ref a ∧ A a = some (.lst xs) ∧ DpAll K A xs ds
instance {K : PySem.W.Frag} : Bk (rZ K) := ⟨fun _ h => h⟩
abbrev DZ (X : Cx) (c : XK) (e : Expr) (f : SL) : Prop := PE X e (tX X.K X.mg (rZ X.K) c f)
theorem dz_of (h : DE X c e f) : DZ X c e (s1 asL f) := dx_s1 h fun c A H0 H v d Q s k q => by
  cases k with
  | lst hs ha => exact Fin.now q s ⟨_, _, rfl, hs, ha⟩
  | _ => exact q.elim
theorem dz_new {f : SL} (h : DF X c e f) : DZ X c e f := pe_imp h fun σ H Q ⟨env, A, r, q⟩ => ⟨env, A, r, q.conv fun ds q v A' H' g ⟨p, xs, e, n, nA, s, k⟩ => q v (upd A' p (.lst xs)) H' (g.keep n s nA) ⟨p, xs, e, upd_same, da_mono (same_upd nA) _ _ k⟩⟩
theorem rel_kill {K : PySem.W.Frag} {mg : Str → Option Value} {w : Cfg} {env : Env} {σ : L2.St} {A H : Hp} (r : Rel K mg w env σ A H) : ∀ is : List Nat, Rel K mg w (killE env is) σ A H
  | [] => r
  | i :: is => (rel_kill r is).wipe i
theorem Bas.back {w : Cfg} {A1 H1 A H : Hp} (b : Bas w A1 H1) (r : Bas ⟨A1, w.H⟩ A H) : Bas w A H :=
  ⟨b.sA.trans r.sA, r.sAH, r.sH, fun a h => (r.nw a h).elim (b.nw a) .inr⟩
theorem Rel.back {K : PySem.W.Frag} {mg : Str → Option Value} {w : Cfg} {env : Env} {σ : L2.St} {A1 H1 A H : Hp} (b : Bas w A1 H1) (r : Rel K mg ⟨A1, w.H⟩ env σ A H) : Rel K mg w env σ A H := ⟨b.back r.bas, r.len, r.own⟩
theorem Rel.anew {K : PySem.W.Frag} {mg : Str → Option Value} {w : Cfg} {env : Env} {σ : L2.St} {A H : Hp} (r : Rel K mg w env σ A H) : Rel K mg ⟨A, w.H⟩ env σ A H := ⟨⟨Same.refl _, r.bas.sAH, r.bas.sH, fun _ h => .inl h⟩, r.len, r.own⟩
/-- what a loop has reached, told by what is left to do -/
def ForPv (K : PySem.W.Frag) (mg : Str → Option Value) (E : XK) (w : Cfg) (go : List D → Env → Res Out) (ds : List D) (D : Ends) (A1 : Hp) (i : Nat) (σ : L2.St) (H : Hp) : Prop :=
  ∃ env A, Rel K mg ⟨A1, w.H⟩ env σ A H ∧ FinS K mg E w (go (ds.drop i) env) D
theorem for_turn {K : PySem.W.Frag} {mg : Str → Option Value} {E : XK} {w : Cfg} {st : SetS} {b : SS} {is kill : List Nat} {tg : TG} {ds : List D} {A1 H1 : Hp} {i : Nat} {σ : L2.St} {H : Hp} {d : D} {x : V} {D : Ends} (tgo : TgOk K mg tg st is) (bs : Bas w A1 H1) (hd : ds[i]? = some d) (hx : Dp K A1 x d)
    (p : ForPv K mg E w (forL st b kill) ds D A1 i σ H) :
    tg x σ H fun σ2 H2 => tS K mg E b { D with nx := ForPv K mg E w (forL st b kill) ds D A1 (i + 1), ct := ForPv K mg E w (forL st b kill) ds D A1 (i + 1), bk := D.nx } σ2 H2 := by
  obtain ⟨env, A, r, q⟩ := p
  have hdr : ds.drop i = d :: ds.drop (i + 1) := by
    have hlt := (List.getElem?_eq_some_iff.mp hd).1
    have he := (List.getElem?_eq_some_iff.mp hd).2
    rw [List.drop_eq_getElem_cons hlt, he]
  rw [hdr] at q
  unfold forL at q
  cases h1 : st d env with
  | none => rw [h1] at q; exact q.elim
  | some env1 =>
  rw [h1] at q
  dsimp only at q
  refine tgo _ env env1 σ A H x d _ r (dp_mono r.bas.sA _ _ hx) h1 fun σ2 r2 _ _ => ⟨_, env1, A, r2, ?_⟩
  refine FinS.conv (k := _) (fun o q => ?_) (fun b' => bs.back b') q
  cases o with
  | nx e => exact fun σ' A' H' r' => ⟨_, A', rel_kill r' kill, q⟩
  | ct e => exact fun σ' A' H' r' => ⟨_, A', rel_kill r' kill, q⟩
  | bk e => exact fun σ' A' H' r' => q σ' A' H' (rel_kill (r'.back bs) kill)
  | rt d e => exact fun v σ' A' H' r' k => q v σ' A' H' (r'.back bs) k
theorem for_done {K : PySem.W.Frag} {mg : Str → Option Value} {E : XK} {w : Cfg} {st : SetS} {b : SS} {kill : List Nat} {ds : List D} {A1 H1 : Hp} {n : Nat} {σ : L2.St} {H : Hp} {D : Ends} (bs : Bas w A1 H1) (hn : ds.length = n)
    (p : ForPv K mg E w (forL st b kill) ds D A1 n σ H) : D.nx σ H := by
  obtain ⟨env, A, r, q⟩ := p
  rw [List.drop_of_length_le (by omega)] at q
  exact q σ A H (r.back bs)
section
variable {tg iter : Expr} {body : List Stmt} {gt : TG} {ss : SetS} {is kill : List Nat} {b' : SS} {src : SL}
theorem ds_forL (z : Cs X c k) (tgo : TgOk X.K X.mg gt ss is) (hg : PG X tg gt) (hi : DZ X c iter src) (hb : DSs X c body b') (hs : ∀ x, foldedSetIterable iter X.env x = pure x := by intro _; rfl) : DS X c (.For tg iter body [] pos) (sFor src ss b' kill) :=
  ds_of (ps_for z.own z.calm (pi_list hi) hg hb hs) fun w env A σ H D r q => ⟨env, A, r.rl, FinS.step q r.bas fun ds v A1 H1 _ g1 ⟨a, xs, e, hq, hd⟩ q1 => by
    refine ⟨a, e, ⟨xs, SqL.of (g1.sub _ _ hq)⟩, ?_⟩
    have r1 := r.grow g1
    refine for_list (K := X.K) (xs := xs) (ForPv X.K X.mg c w (forL ss b' kill) ds D A1) ⟨_, A1, rel_kill r1.anew kill, q1⟩ (fun i σ' H' _ ⟨env', A', r', _⟩ => SqL.of (r'.bas.sAH _ _ (r'.bas.sA _ _ hq))) (fun i x σ' H' hx p => ?_) fun σ' H' p => for_done r1.bas (da_len hd).symm p
    obtain ⟨d, hd1, hd2⟩ := da_get' hd hx
    exact for_turn tgo r1.bas hd1 hd2 p⟩
theorem ds_forU (z : Cs X c k) (tgo : TgOk X.K X.mg gt ss is) (hg : PG X tg gt) (hi : DU X c iter src) (hb : DSs X c body b') (hs : ∀ x, foldedSetIterable iter X.env x = pure x := by intro _; rfl) : DS X c (.For tg iter body [] pos) (sFor src ss b' kill) :=
  ds_of (ps_for z.own z.calm (pi_tup hi) hg hb hs) fun w env A σ H D r q => ⟨env, A, r.rl, FinS.step q r.bas fun ds v A1 H1 _ g1 ⟨a, xs, e, hq, hd⟩ q1 => by
    refine ⟨a, e, ⟨xs, same_t g1.sub hq⟩, ?_⟩
    have r1 := r.grow g1
    refine for_tup (K := X.K) (xs := xs) (ForPv X.K X.mg c w (forL ss b' kill) ds D A1) ⟨_, A1, rel_kill r1.anew kill, q1⟩ (fun i σ' H' _ ⟨env', A', r', _⟩ => same_t (r'.bas.sA.trans r'.bas.sAH) hq) (fun i x σ' H' hx p => ?_) fun σ' H' p => for_done r1.bas (da_len hd).symm p
    obtain ⟨d, hd1, hd2⟩ := da_get' hd hx
    exact for_turn tgo r1.bas hd1 hd2 p⟩
theorem for_rng {w : Cfg} {env : Env} {A1 H1 : Hp} {σ : L2.St} {D : Ends} {lo : Int} {n : Nat} (tgo : TgOk X.K X.mg gt ss is) (r1 : Rel X.K X.mg w env σ A1 H1) (q1 : FinS X.K X.mg c w (forL ss b' kill (rng lo n) (killE env kill)) D) :
    ∃ W : Nat → Nat → L2.St → Hp → Prop, (∃ m, W 0 m σ H1) ∧ ∀ i m σ H, W i m σ H →
      ((Itr lo n).stop i H ∧ D.nx σ H) ∨ ((Itr lo n).go i H ∧ ∃ N : L2.St → Hp → Prop, (∀ σ' H', N σ' H' → ∃ m', m' < m ∧ W (i + 1) m' σ' H') ∧ ∀ x H', (Itr lo n).yld i H x H' → gt x σ H' fun σ2 H2 => (tS X.K X.mg c b') { D with nx := N, ct := N, bk := D.nx } σ2 H2) :=
  for_range (ForPv X.K X.mg c w (forL ss b' kill) (rng lo n) D A1) ⟨_, A1, rel_kill r1.anew kill, q1⟩ (fun i σ' H' hi p => for_turn tgo r1.bas (rng_get hi) (.int _) p) fun σ' H' p => for_done r1.bas (rng_len _ _) p
theorem ds_forR1 {p' pos' : Pos} (z : Cs X c k) (hgr : Gl X "range") (hm : X.mg "range" = none) (tgo : TgOk X.K X.mg gt ss is) (hg : PG X tg gt) (ha : DE X c a f) (hb : DSs X c body b') (hs2 : starEach [a] X.env = [(false, eval a X.env)] := by rfl)
    (hs3 : starEach [a] X.env = (false, eval a X.env) :: starEach [] X.env := by rfl) (hs : ∀ x, foldedSetIterable (.Call (.Name "range" p') [a] [] pos') X.env x = pure x := by intro _; rfl) : DS X c (.For tg (.Call (.Name "range" p') [a] [] pos') body [] pos) (sFor (sRng1 f) ss b' kill) :=
  ds_of (ps_for z.own z.calm (pi_range1 hgr hm (pa_cons ha pa_nil (hs := hs3)) hs2) hg hb hs) fun w env A σ H D r q => by
    have e : sFor (sRng1 f) ss b' kill env = (f env).bind fun d => Res.bind (match d with
      | .int j => if inR j = true then .ok (rng 0 j.toNat) else .no
      | _ => .no) fun ds => forL ss b' kill ds (killE env kill) := by
      unfold sFor sRng1 s1
      exact Res.bind_assoc _ _ _
    rw [e] at q
    refine ⟨env, A, r.rl, FinS.step q r.bas fun d v A1 H1 _ g1 k1 q1 => ?_⟩
    cases k1 with
    | int j =>
      dsimp only at q1
      by_cases hj : inR j = true
      · rw [if_pos hj] at q1
        exact ⟨j, rfl, (inR_iff hj).1, (inR_iff hj).2, for_rng tgo (r.grow g1) q1⟩
      · rw [if_neg hj] at q1; exact q1.elim
    | _ => exact q1.elim
theorem ds_forR2 {p' pos' : Pos} (z : Cs X c k) (hgr : Gl X "range") (hm : X.mg "range" = none) (tgo : TgOk X.K X.mg gt ss is) (hg : PG X tg gt) (ha : DE X c a f) (hb2 : DE X c b g) (hb : DSs X c body b') (hs2 : starEach [a, b] X.env = [(false, eval a X.env), (false, eval b X.env)] := by rfl) (hs4 : starEach [b] X.env = [(false, eval b X.env)] := by rfl)
    (hs3 : starEach [a, b] X.env = (false, eval a X.env) :: starEach [b] X.env := by rfl) (hs5 : starEach [b] X.env = (false, eval b X.env) :: starEach [] X.env := by rfl) (hs : ∀ x, foldedSetIterable (.Call (.Name "range" p') [a, b] [] pos') X.env x = pure x := by intro _; rfl) :
    DS X c (.For tg (.Call (.Name "range" p') [a, b] [] pos') body [] pos) (sFor (sRng2 f g) ss b' kill) :=
  ds_of (ps_for z.own z.calm (pi_range2 hgr hm (pa_cons ha (pa_cons hb2 pa_nil (hs := hs5)) (hs := hs3)) hs2 hs4) hg hb hs) fun w env A σ H D r q => by
    have e : sFor (sRng2 f g) ss b' kill env = (f env).bind fun d => (g env).bind fun e => Res.bind (match d, e with
      | .int i, .int j => if (inR i && inR j) = true then .ok (rng i (j - i).toNat) else .no
      | _, _ => .no) fun ds => forL ss b' kill ds (killE env kill) := by
      unfold sFor sRng2 s2
      rw [Res.bind_assoc]
      exact congrArg _ (funext fun d => Res.bind_assoc _ _ _)
    rw [e] at q
    refine ⟨env, A, r.rl, FinS.step q r.bas fun d v A1 H1 _ g1 k1 q1 => ⟨env, A1, (r.grow g1).rl, FinS.step q1 (r.grow g1).bas fun d2 v2 A2 H2 _ g2 k2 q2 => ?_⟩⟩
    cases k1 with
    | int i =>
      cases k2 with
      | int j =>
        dsimp only at q2
        by_cases hj : (inR i && inR j) = true
        · rw [if_pos hj] at q2
          rw [Bool.and_eq_true] at hj
          exact ⟨i, j, rfl, ⟨(inR_iff hj.1).1, (inR_iff hj.1).2, (inR_iff hj.2).1, (inR_iff hj.2).2⟩, for_rng tgo ((r.grow g1).grow g2) q2⟩
        · rw [if_neg hj] at q2; exact q2.elim
      | _ => exact q2.elim
    | _ => cases k2 <;> exact q2.elim
end
end
/-! ### defs -/
def startE (n : Nat) (ds : List D) : Env := ds.map .fr ++ List.replicate (n - ds.length) .un
def endB : Out → Res D
  | .nx _ => .ok .none
  | .rt d _ => .ok d
  | _ => .no
def runB (n : Nat) (b : SS) (ds : List D) : Res D := (b (startE n ds)).bind endB
theorem finS_of {K : PySem.W.Frag} {mg : Str → Option Value} {E : XK} {A0 H : Hp} {Q : VK} {N : List Str} {f : Addr} {nx : L2.St → Hp → Prop} (hnx : ∀ σ H, Q .non H → nx σ H) : ∀ {r : Res Out}, Fin K mg (rD K) E A0 H (r.bind endB) Q → FinS K mg E ⟨A0, H⟩ r { nx := nx, rt := Q }
  | .ok (.nx e), q => fun σ A H r => hnx _ _ (q _ A H r.bas.gr .non)
  | .ok (.rt d e), q => fun v σ A H r k => q v A H r.bas.gr k
  | .ok (.bk e), q => q.elim
  | .ok (.ct e), q => q.elim
  | .ex x, q => fun cls dd A H r k => q cls dd A H r.gr k
  | .no, q => q
  | .any P k, q => fun i hi => finS_of (N := N) (f := f) hnx (r := k i) (q i hi)
theorem rel_start {K : PySem.W.Frag} {mg : Str → Option Value} {N : List Str} {A H : Hp} {vs : List V} {ds : List D} (s : Same A H) (h : DpAll K A vs ds) : Rel K mg ⟨A, H⟩ (startE N.length ds) (L2.start N vs) A H := by
  refine ⟨⟨Same.refl _, s, Same.refl _, fun _ h => .inl h⟩, ?_, fun _ => [], fun i s' w' e1 e2 => ?_, fun i j a ha _ => (nomatch ha), fun i => ⟨List.nodup_nil, fun a ha => (nomatch ha)⟩⟩
  · unfold startE L2.start
    rw [List.length_append, List.length_append, List.length_map, List.length_map, List.length_replicate, List.length_replicate, da_len h]
  · unfold startE at e1
    unfold L2.start at e2
    by_cases hi : i < ds.length
    · rw [List.getElem?_append_left (by rw [List.length_map]; exact hi), List.getElem?_map, List.getElem?_eq_getElem hi] at e1
      rw [List.getElem?_append_left (by rw [List.length_map, da_len h]; exact hi), List.getElem?_map] at e2
      obtain ⟨v, q1, q2⟩ := da_get h (List.getElem?_eq_getElem hi)
      rw [q1] at e2
      cases e1; cases e2
      exact ⟨⟨v, rfl, q2⟩, rfl⟩
    · rw [List.getElem?_append_right (by rw [List.length_map]; omega), List.getElem?_replicate] at e1
      split at e1
      · cases e1; rfl
      · cases e1
theorem fn_def {P : Program} {w : World} {K : PySem.W.Frag} {mg : Str → Option Value} {base : Heap} {x qual : Str} {st : Stmt} {f : Addr} {fd : FuncData} {N ps : List Str} {k n : Nat} {b : SS} (F : Fun K x qual st f fd) (S : FnScope N ps (defScope st)) (hn : ps.length = n)
    (hb : ∀ (cdv : Value) (A : Around) (outer : List PySem.Env) (s : Shared) (H : Hp) (E : XK), Cs (cxOf (L2.CX P w) P w K mg base N qual (defScope st) f cdv A outer s H E) E k → DSs (cxOf (L2.CX P w) P w K mg base N qual (defScope st) f cdv A outer s H E) E (defBody st) b) :
    FnOk P w K mg base (L2.CX P w) (k + 1) f fd ps (spR K mg n (runB N.length b)) := by
  refine F.okX S (fun vs H Q E ⟨A, ds, s, h, hl, _⟩ => by rw [da_len h, hl, hn]) fun cdv A outer s H vs Q E hr hsp => ?_
  obtain ⟨A0, ds, hs, h, hl, q⟩ := hsp
  have tk : Takes (cxOf (L2.CX P w) P w K mg base N qual (defScope st) f cdv A outer s H E) (fun cls d _ H => E cls d H) := takes_of rfl rfl rfl rfl
  exact ⟨_, hb cdv A outer s H E ⟨⟨hr, passes_call tk fun _ _ _ _ z => z, rfl⟩, passes_of rfl, S.nd, tk⟩, ⟨A0, H⟩, _, A0, rel_start hs h, finS_of (N := N) (f := f) (fun _ _ h => h) q⟩
theorem df_def {P : Program} {w : World} {K : PySem.W.Frag} {mg : Str → Option Value} {base : Heap} {x qual : Str} {st : Stmt} {f : Addr} {fd : FuncData} {N ps : List Str} {k n : Nat} {b : SS} (F : Fun K x qual st f fd) (S : FnScope N ps (defScope st)) (hn : ps.length = n) (hm : mg x = some (.ref f)) (bi : Binds K fd ps [])
    (hb : ∀ (cdv : Value) (A : Around) (outer : List PySem.Env) (s : Shared) (H : Hp) (E : XK), Cs (cxOf (L2.CX P w) P w K mg base N qual (defScope st) f cdv A outer s H E) E k → DSs (cxOf (L2.CX P w) P w K mg base N qual (defScope st) f cdv A outer s H E) E (defBody st) b) :
    Df P w K mg base x n (k + 1) (runB N.length b) := ⟨f, fd, ps, hm, F.kp, bi, fn_def F S hn hb⟩
end TB

/-! TBF: longer chains, truths as values, errors raised. -/
namespace TB
open PySem PySem.Spec L2
open PyProof.Rows hiding St
section
variable {X : Cx} {c : XK} {a b d e e1 e2 : Expr} {f g : SE} {pos p : Pos} {x : Str} {k : Nat}
theorem dv_cmp {α β : Type} {Ra : α → V → Hp → Hp → Hp → Prop} {Rb : β → V → Hp → Hp → Hp → Prop} [Mn Ra] {r : R2} {op : α → β → Res Bool} {f : Env → Res α} {g : Env → Res β} {o : CmpOp}
    (ho : OpR X (compareOp o) r) (hd : OpG X Ra Rb rBl r op) (hm : behindInMarks o b = false) (ha : DX X c Ra a f) (hb : DX X c Rb b g) : DX X c rBl (.Compare a [o] [b] pos) (s2 op f g) := pe_imp (pe_cmpR ho ha hb hm) fun σ H Q h => op2 hd h
theorem dv_chain {α β γ : Type} {Ra : α → V → Hp → Hp → Hp → Prop} {Rb : β → V → Hp → Hp → Hp → Prop} {Rc : γ → V → Hp → Hp → Hp → Prop} [Mn Ra] [Mn Rb] {r r' : R2} {op : α → β → Res Bool} {op' : β → γ → Res Bool} {f : Env → Res α} {g : Env → Res β} {h : Env → Res γ} {o o' : CmpOp} {d : Expr}
    (ho : OpR X (compareOp o) r) (ho' : OpR X (compareOp o') r') (hd : OpG X Ra Rb rBl r op) (hd' : OpG X Rb Rc rBl r' op') (ha : DX X c Ra a f) (hb : DX X c Rb b g) (hc : DX X c Rc d h)
    (hm : lastMarks [o, o'] [b, d] = false := by with_unfolding_all rfl) : DX X c rBl (.Compare a [o, o'] [b, d] pos) (sChain op op' f g h) := pe_imp (pe_chain ho ho' ha hb hc hm) fun σ H Q h => chain2 hd hd' h
theorem dv_not {t : ST} (h : DX X c rBl a t) : DX X c rBl (.UnaryOp .Not a pos) (sMap not t) := pe_imp (pe_not h) fun σ H Q ⟨env, A, r, q⟩ => ⟨env, A, r, Fin.imp q fun k v A' H' g e z => ⟨k, e, z _ A' H' g rfl⟩⟩
theorem dt_dv {t : ST} (h : DX X c rBl e t) (he : ∀ whole, isTrue e X.env whole = (do let v ← whole; standAt e.pos; holding [v] (truthy v)) := by intro _; rfl) : DT X c e t :=
  pt_imp (pt_val h he) fun σ H Q ⟨env, A, r, q⟩ => ⟨env, A, r, q.conv fun k q v A' H' g e => ⟨k, e, q k A' H' g rfl⟩⟩
/-! ### a op b op' c op'' d -/
def tChain3 (r r' r'' : R2) (ta tb tc td : TE) : TE := fun σ H Q => ta σ H fun x H1 => tb σ H1 fun y H2 => r x y H2 fun z H3 => ∃ k, z = .bl k ∧
  (if k = true then tc σ H3 fun w' H4 => r' y w' H4 fun z2 H5 => ∃ k2, z2 = .bl k2 ∧ (if k2 = true then td σ H5 fun u' H6 => r'' w' u' H6 Q else Q (.bl false) H5) else Q (.bl false) H3)
/-- one link of a chain: the next operand, the comparison, its truth -/
theorem asked {op : CmpOp} {r : R2} {tb : TE} (ho : OpR X (compareOp op) r) (hb : PE X b tb) {pins : List (Addr × Obj)} {σ : L2.St} {H : Hp} {s : Shared} {x : V} {v : Value} {P : V → Bool → Hp → Prop} {G : Value → Value → Bool → Shared → Prop} (I : Inv X pins σ H s) (rv : RelV x v)
    (q : tb σ H fun y H2 => r x y H2 fun z H3 => ∃ k, z = .bl k ∧ P y k H3) (fin : ∀ u y k s' H', Inv X pins σ H' s' → RelV y u → P y k H' → G u (.bool k) k s') :
    wpAny (model X.prog X.w) X.A (eval b X.env) (fun u s1 => wpAny (model X.prog X.w) X.A (compareOp op v u) (fun w s2 => wpAny (model X.prog X.w) X.A (truthy w) (fun t s3 => G u w t s3) X.xe s2) X.xe s1) X.xe s :=
  thn (hb.run pins s σ H _ I q) fun u s1 ⟨y, H1, I1, ru, q1⟩ => thn (ho pins s1 σ H1 x y v u _ I1 rv ru q1) fun w s2 ⟨z, H2, I2, rw_, k, e, q2⟩ => by
    subst e
    obtain rfl : w = .bool k := rw_
    exact wpAny_truthy_bool (fin u y k s2 H2 I2 ru q2)
variable {op op' op'' : CmpOp} {r r' r'' : R2} {ta tb tc td : TE}
theorem pe_chain3 (ho : OpR X (compareOp op) r) (ho' : OpR X (compareOp op') r') (ho'' : OpR X (compareOp op'') r'') (ha : PE X a ta) (hb : PE X b tb) (hc : PE X d tc) (hd : PE X e td)
    (hm : lastMarks [op, op', op''] [b, d, e] = false := by with_unfolding_all rfl) : PE X (.Compare a [op, op', op''] [b, d, e] pos) (tChain3 r r' r'' ta tb tc td) := ⟨fun pins s σ H Q I h => by
  refine Compare_chain (thn (ha.run pins s σ H _ I h) fun v s1 ⟨x, H1, I1, rx, q1⟩ => chain_link (asked ho hb I1 rx q1 fun u y k s2 H2 I2 ry q2 => ?_)) hm
  match k, q2 with
  | false, q2 => exact ⟨.bl false, H2, I2, rfl, q2⟩
  | true, q2 =>
    refine chain_link (asked ho' hc I2 ry q2 fun u2 y2 k2 s3 H3 I3 ry2 q3 => ?_)
    match k2, q3 with
    | false, q3 => exact ⟨.bl false, H3, I3, rfl, q3⟩
    | true, q3 => exact chain_last (thn (hd.run pins s3 σ H3 _ I3 q3) fun u3 s4 ⟨y3, H4, I4, ry3, q4⟩ => ho'' pins s4 σ H4 y2 y3 u2 u3 Q I4 ry2 ry3 q4)⟩
theorem pt_chain3 (ho : OpR X (compareOp op) r) (ho' : OpR X (compareOp op') r') (ho'' : OpR X (compareOp op'') r'') (ha : PE X a ta) (hb : PE X b tb) (hc : PE X d tc) (hd : PE X e td)
    (hm : lastMarks [op, op', op''] [b, d, e] = false := by with_unfolding_all rfl) : PT X (.Compare a [op, op', op''] [b, d, e] pos) (tTest (tChain3 r r' r'' ta tb tc td)) := ⟨fun pins s σ H Q I h => by
  refine isTrue_chain (thn (ha.run pins s σ H _ I h) fun v s1 ⟨x, H1, I1, rx, q1⟩ => test_link (asked ho hb I1 rx q1 fun u y k s2 H2 I2 ry q2 => ?_)) hm
  match k, q2 with
  | false, ⟨_, rfl, q2⟩ => exact ⟨H2, I2, q2⟩
  | true, q2 =>
    refine test_link (asked ho' hc I2 ry q2 fun u2 y2 k2 s3 H3 I3 ry2 q3 => ?_)
    match k2, q3 with
    | false, ⟨_, rfl, q3⟩ => exact ⟨H3, I3, q3⟩
    | true, q3 => exact test_last (asked ho'' hd (P := fun _ k H4 => Q k H4) (G := fun _ _ t s4 => TP X pins σ Q t s4) I3 ry2 q3 fun u3 y3 k3 s4 H4 I4 _ q4 => ⟨H4, I4, q4⟩)⟩
def sChain3 {α β γ δ : Type} (op : α → β → Res Bool) (op' : β → γ → Res Bool) (op'' : γ → δ → Res Bool) (f : Env → Res α) (g : Env → Res β) (h : Env → Res γ) (l : Env → Res δ) : ST :=
  fun env => (f env).bind fun x => (g env).bind fun y => (op x y).bind fun k => if k = true then (h env).bind fun z => (op' y z).bind fun k2 => if k2 = true then (l env).bind fun u => op'' z u else .ok false else .ok false
theorem chain3 {α β γ δ : Type} {Ra : α → V → Hp → Hp → Hp → Prop} {Rb : β → V → Hp → Hp → Hp → Prop} {Rc : γ → V → Hp → Hp → Hp → Prop} {Rd : δ → V → Hp → Hp → Hp → Prop} [Mn Ra] [Mn Rb] [Mn Rc] {r r' r'' : R2} {op : α → β → Res Bool} {op' : β → γ → Res Bool} {op'' : γ → δ → Res Bool}
    {f : Env → Res α} {g : Env → Res β} {h : Env → Res γ} {l : Env → Res δ} (hd : OpG X Ra Rb rBl r op) (hd' : OpG X Rb Rc rBl r' op') (hd'' : OpG X Rc Rd rBl r'' op'') {σ : L2.St} {H : Hp} {Q : VK} (q : tX X.K X.mg rBl c (sChain3 op op' op'' f g h l) σ H Q) :
    tChain3 r r' r'' (tX X.K X.mg Ra c f) (tX X.K X.mg Rb c g) (tX X.K X.mg Rc c h) (tX X.K X.mg Rd c l) σ H Q := by
  obtain ⟨env, A, r, q⟩ := q
  refine ⟨env, A, r, Fin.step q fun d x A1 H1 _ g1 k1 q1 => ⟨env, A1, r.grow g1, Fin.step q1 fun d2 y A2 H2 _ g2 k2 q2 => ?_⟩⟩
  refine hd c A2 H H1 H2 x y d d2 _ g2.sub (Mn.mn g2 k1) k2 (Fin.step q2 fun k z A3 H3 _ g3 k3 q3 => ⟨k, k3, ?_⟩)
  have r3 := ((r.grow g1).grow g2).grow g3
  cases k with
  | false => exact iteF (Fin.now q3 g3.sub rfl)
  | true =>
    refine iteT ⟨env, A3, r3, Fin.step q3 fun d4 z4 A4 H4 _ g4 k4 q4 => ?_⟩
    refine hd' c A4 H1 H3 H4 y z4 d2 d4 _ g4.sub (Mn.mn g4 (Mn.mn g3 k2)) k4 (Fin.step q4 fun k5 z5 A5 H5 _ g5 k5' q5 => ⟨k5, k5', ?_⟩)
    cases k5 with
    | false => exact iteF (Fin.now q5 g5.sub rfl)
    | true =>
      refine iteT ⟨env, A5, (r3.grow g4).grow g5, Fin.step q5 fun d6 z6 A6 H6 _ g6 k6 q6 => ?_⟩
      exact hd'' c A6 H3 H5 H6 z4 z6 d4 d6 Q g6.sub (Mn.mn g6 (Mn.mn g5 k4)) k6 q6
theorem dt_chain3 {α β γ δ : Type} {Ra : α → V → Hp → Hp → Hp → Prop} {Rb : β → V → Hp → Hp → Hp → Prop} {Rc : γ → V → Hp → Hp → Hp → Prop} {Rd : δ → V → Hp → Hp → Hp → Prop} [Mn Ra] [Mn Rb] [Mn Rc] {r r' r'' : R2} {op : α → β → Res Bool} {op' : β → γ → Res Bool} {op'' : γ → δ → Res Bool}
    {f : Env → Res α} {g : Env → Res β} {h : Env → Res γ} {l : Env → Res δ} {o o' o'' : CmpOp} (ho : OpR X (compareOp o) r) (ho' : OpR X (compareOp o') r') (ho'' : OpR X (compareOp o'') r'') (hd : OpG X Ra Rb rBl r op) (hd' : OpG X Rb Rc rBl r' op') (hd'' : OpG X Rc Rd rBl r'' op'')
    (ha : DX X c Ra a f) (hb : DX X c Rb b g) (hc : DX X c Rc d h) (he : DX X c Rd e l) (hm : lastMarks [o, o', o''] [b, d, e] = false := by with_unfolding_all rfl) : DT X c (.Compare a [o, o', o''] [b, d, e] pos) (sChain3 op op' op'' f g h l) :=
  pt_imp (pt_chain3 ho ho' ho'' ha hb hc he hm) fun σ H Q ⟨env, A, r, q⟩ => chain3 hd hd' hd'' ⟨env, A, r, q.conv fun k q v A' H' g e => ⟨k, e, q k A' H' g rfl⟩⟩
theorem dv_chain3 {α β γ δ : Type} {Ra : α → V → Hp → Hp → Hp → Prop} {Rb : β → V → Hp → Hp → Hp → Prop} {Rc : γ → V → Hp → Hp → Hp → Prop} {Rd : δ → V → Hp → Hp → Hp → Prop} [Mn Ra] [Mn Rb] [Mn Rc] {r r' r'' : R2} {op : α → β → Res Bool} {op' : β → γ → Res Bool} {op'' : γ → δ → Res Bool}
    {f : Env → Res α} {g : Env → Res β} {h : Env → Res γ} {l : Env → Res δ} {o o' o'' : CmpOp} (ho : OpR X (compareOp o) r) (ho' : OpR X (compareOp o') r') (ho'' : OpR X (compareOp o'') r'') (hd : OpG X Ra Rb rBl r op) (hd' : OpG X Rb Rc rBl r' op') (hd'' : OpG X Rc Rd rBl r'' op'')
    (ha : DX X c Ra a f) (hb : DX X c Rb b g) (hc : DX X c Rc d h) (he : DX X c Rd e l) (hm : lastMarks [o, o', o''] [b, d, e] = false := by with_unfolding_all rfl) : DX X c rBl (.Compare a [o, o', o''] [b, d, e] pos) (sChain3 op op' op'' f g h l) :=
  pe_imp (pe_chain3 ho ho' ho'' ha hb hc he hm) fun σ H Q h => chain3 hd hd' hd'' h

/-! ### errors -/
/-- an error's class of the text, without __init__ -/
structure Exc (K : PySem.W.Frag) (mg : Str → Option Value) (x : Str) : Prop where
  ex : ∃ C, mg x = some (.ref C) ∧ PySem.W.excIn K C [.type "ValueError", .type "Exception", .type "BaseException", .type "object"] "ValueError.__new__" = true ∧ PySem.W.keepIn K (.ref C) = true ∧
    PySem.W.subIn K (.ref C) (.type "BaseException") = some true ∧ PySem.W.typeIn K (.ref C) = some (.type "type")
def sRaise (x : Str) : SS := fun _ => .ex ⟨x, none⟩
theorem ds_raise {m : Str} {j} {p2 p3 : Pos} (z : Cs X c k) (h : Exc X.K X.mg x) (hg : Gl X x) (hdb : (x == ("__debug__" : Str)) = false := by decide) : DS X c (.Raise (some (.Call (.Name x p) [.Constant (.str m) j p2] [] p3)) none pos) (sRaise x) := by
  obtain ⟨C, h1, h2, h3, h4, h5⟩ := h.ex
  exact ds_of (ps_raise z.calm z.tk (pmk_own PySem.F.excBase_ValueError h2 h1 h3 (raises_own h4 h5) hg hdb)) fun w env A σ H D r q => q _ _ A H r.bas ⟨C, rfl, h1, rfl⟩
/-! ### sequences told as such -/
theorem dq_u {f : SL} (h : DU X c e f) : DQ X c e f := pe_imp h fun σ H Q ⟨env, A, r, q⟩ => ⟨env, A, r, q.conv fun ds q v A' H' g ⟨p, xs, e, s, k⟩ => q v A' H' g ⟨p, xs, e, .inr (same_t g.sub s), k⟩⟩
theorem dh_u {f : SL} (h : DU X c e f) : DH X c e (sMap .tuple f) := dh_of (de_u h)
/-! ### constants of the module -/
theorem de_constI {n : Int} (h : ∃ t, X.mg x = some (.int n t)) (hg : Gl X x) (h1 : (x == ("__debug__" : Str)) = false := by decide) : DE X c (.Name x pos) (sC (.int n)) := by
  obtain ⟨t, h⟩ := h
  exact de_glob hg h (v := .int n) ⟨t, rfl⟩ (fun _ => .int _) h1
theorem de_constR {d : D} (h : ∃ a, X.mg x = some (.ref a) ∧ ∀ A, Dp X.K A (.ref a) d) (hg : Gl X x) (h1 : (x == ("__debug__" : Str)) = false := by decide) : DE X c (.Name x pos) (sC d) := by
  obtain ⟨a, h, hd⟩ := h
  exact de_glob hg h (v := .ref a) rfl hd h1
theorem de_constS {y : Str} (h : ∃ t, X.mg x = some (.str y t)) (hg : Gl X x) (h1 : (x == ("__debug__" : Str)) = false := by decide) : DE X c (.Name x pos) (sC (.str y)) := by
  obtain ⟨t, h⟩ := h
  exact de_glob hg h (v := .str y) ⟨t, rfl⟩ (fun _ => .str _) h1
/-! ### more statements -/
/-- x = y, y a list of its own: from now on it stays -/
def sMove (i j : Nat) : SS := fun env => match env[j]? with
  | some (.ow ds) => .ok (.nx ((env.set j (.fr (.list ds))).set i (.fr (.list ds))))
  | some (.fr d) => .ok (.nx (env.set i (.fr d)))
  | _ => .no
theorem ds_move {i j : Nat} {pos' : Pos} (z : Cs X c k) (hv : PE X e (tVar j)) (hi : X.N[i]? = some x := by rfl) (hx : Loc X.env.scope x := by first | exact .inl rfl | exact .inr rfl) (hs : swapsWith e (some (.Name x pos')) pos.line X.env = pure false := by rfl)
    (hf : X.fn x = true ∨ X.env.scope.names.lookup x = some .local := by first | exact .inl rfl | exact .inr rfl) : DS X c (.Assign [.Name x pos'] e pos) (sMove i j) :=
  ds_of (ps_set z.nd hi hx hv hs hf) fun w env A σ H D r q => by
    unfold sMove at q
    cases h : env[j]? with
    | none => rw [h] at q; exact q.elim
    | some sl =>
    rw [h] at q
    cases sl with
    | ow ds =>
      obtain ⟨a, A', h1, h2, h3⟩ := r.freeze j h
      exact ⟨.ref a, h1, q _ A' H (h2.set i h3)⟩
    | fr d =>
      obtain ⟨v, h1, h2⟩ := r.fr h
      exact ⟨v, h1, q _ A H (r.set i h2)⟩
    | _ => exact q.elim
/-- x = [.. for ..], a list that stays -/
theorem ds_setLcE {i : Nat} {y : Str} {py spos : Pos} {elt tg iter : Expr} {ifs : List Expr} {scope : Scope} {own : List (Str × Nat)} {wi : TI} {gt : TG} {st : SetS} {is : List Nat} {t : ST} {el : SE} {src : SL} (z : Cs X c k) (hi : PI X tg iter wi)
    (rd : ∀ σ H Q, tX X.K X.mg (rF X.K) c (sLc src st t el (own.map (·.2))) σ H Q → tLc wi gt (tX X.K X.mg rB E0 t) (tX X.K X.mg (rD X.K) E0 el) (own.map (·.2)) σ H Q) (ok : BlkOk X.N X.env.scope scope own)
    (hg : Blk1 X scope tg gt) (ht : Blk2 X c scope ifs t) (he : Blk3 X c scope elt el) (hy : X.N[i]? = some y := by rfl) (hyl : X.env.scope.names.lookup y = some .local := by rfl)
    (hsw : swapsWith (.ListComp elt [⟨tg, iter, ifs, 0⟩] scope pos) (some (.Name y py)) spos.line X.env = pure true := by exact sw_true rfl rfl rfl (by decide +kernel)) (hs : ∀ x, foldedSetIterable iter X.env x = pure x := by intro _; rfl) :
    DS X c (.Assign [.Name y py] (.ListComp elt [⟨tg, iter, ifs, 0⟩] scope pos) spos) (sSet i (sMap .list (sLc src st t el (own.map (·.2))))) :=
  ds_of (ps_setLc z.calm z.nd hy hyl hsw hi ok hg ht he hs) fun w env A σ H D r q => rd _ _ _ ⟨env, A, r.rl, FinS.step (k := fun ds => .ok (.nx (env.set i (.fr (.list ds))))) (by
    have e : sSet i (sMap .list (sLc src st t el (own.map (·.2)))) env = (sLc src st t el (own.map (·.2)) env).bind fun ds => .ok (.nx (env.set i (.fr (.list ds)))) := Res.bind_assoc _ _ _
    rw [← e]; exact q) r.bas fun ds v A' H' _ g ⟨p, xs, e, n, nA, hl, hd⟩ z => by
    subst e
    have g2 := g.keep n hl nA
    exact z _ _ H' ((r.grow g2).set i (.lst upd_same (da_mono (same_upd nA) _ _ hd)))⟩
end
end TB

/-! TBG: the dice. -/
namespace TB
open PySem PySem.Spec L2
open PyProof.Rows hiding St

/-- a list, or a thing told by what is true of it -/
def Loose : HO → Prop
  | .lst _ => True
  | .ext _ => True
  | _ => False
theorem Inv.view {X : Cx} {pins : List (Addr × Obj)} {σ : L2.St} {H : Hp} {s : Shared} {a : Addr} {o o' : HO} (I : Inv X pins σ H s) (ha : H a = some o) (l : Loose o) (new : ObjOk X.prog X.w (upd H a o') s.heap a o') : Inv X pins σ (upd H a o') s := by
  have ne : ∀ b, H b = none → b ≠ a := fun b h z => by rw [z, ha] at h; cases h
  have neo : ∀ b u, H b = some u → ¬ Loose u → b ≠ a := fun b u h n z => by rw [z, ha] at h; cases h; exact n l
  refine ⟨I.ok, I.os, I.bare, ⟨I.base.keep, I.base.slot, fun b u e n hx => ?_, I.base.there, fun b xs e => ?_, fun b u xs e => ?_, fun b ps e => ?_⟩, I.loc, I.cell, ?_, fun x c e => ?_, fun p hp => ?_, fun b u e => ?_, I.len⟩
  · have h := I.base.free b u e n hx
    rw [upd_ne (ne b h)]; exact h
  · have h := I.base.tups b xs e
    rw [upd_ne (neo b _ h (fun z => z))]; exact h
  · have h := I.base.frzs b u xs e
    rw [upd_ne (neo b _ h (fun z => z))]; exact h
  · obtain ⟨more, h⟩ := I.base.tbls b ps e
    exact ⟨more, by rw [upd_ne (neo b _ h (fun z => z))]; exact h⟩
  · rw [upd_ne (ne _ I.free)]; exact I.free
  · rw [upd_ne (ne _ (I.freeC x c e))]; exact I.freeC x c e
  · obtain ⟨h1, h2, h3⟩ := I.pin p hp
    exact ⟨h1, by rw [upd_ne (ne _ h2)]; exact h2, h3⟩
  · by_cases hb : b = a
    · subst hb; rw [upd_same] at e; cases e; exact new
    · rw [upd_ne hb] at e
      exact (I.hok b u e).stay (fun _ _ _ q => q) (fun c h => by rw [upd_ne (neo c _ h (fun z => z))]; exact h) fun c xs h => by rw [upd_ne (neo c _ h (fun z => z))]; exact h
theorem Inv.toLst {X : Cx} {pins : List (Addr × Obj)} {σ : L2.St} {H : Hp} {s : Shared} {a : Addr} (I : Inv X pins σ H s) (ha : H a = some (.ext (tokP a))) :
    ∃ x y : Int, 0 ≤ x ∧ 0 ≤ y ∧ Inv X pins σ (upd H a (.lst [.int x, .int y])) s := by
  obtain ⟨⟨x, y, its, n, hx, hy, hv, hg⟩, _⟩ := I.hok a _ ha
  exact ⟨x, y, hx, hy, Inv.view I ha trivial ⟨by show 2 ≤ sizeLine; rw [sizeLine_eq]; decide, its, n, hv, hg⟩⟩
theorem Inv.toTok {X : Cx} {pins : List (Addr × Obj)} {σ : L2.St} {H : Hp} {s : Shared} {a : Addr} {x y : Int} (I : Inv X pins σ H s) (ha : H a = some (.lst [.int x, .int y])) (hx : 0 ≤ x) (hy : 0 ≤ y) :
    Inv X pins σ (upd H a (.ext (tokP a))) s := by
  obtain ⟨_, its, n, hv, hg⟩ := I.hok a _ ha
  refine Inv.view I ha trivial ⟨⟨x, y, its, n, hx, hy, hv, hg⟩, ⟨_, hg⟩, fun h1 h2 ⟨x', y', its', n', a1, a2, a3, a4⟩ k => ⟨x', y', its', n', a1, a2, a3, k _ a4⟩⟩
/-- the dice are looked into -/
theorem pss_look {X : Cx} {st : List Stmt} {t : TS} (h : PSs X st t) : PSs X st (fun D σ H => ∃ a, H a = some (.ext (tokP a)) ∧ ∀ x y : Int, 0 ≤ x → 0 ≤ y →
    t { nx := fun _ _ => False, rt := fun v H' => ∃ x' y' : Int, 0 ≤ x' ∧ 0 ≤ y' ∧ H' a = some (.lst [.int x', .int y']) ∧ D.rt v (upd H' a (.ext (tokP a))) } σ (upd H a (.lst [.int x, .int y]))) := by
  refine ⟨fun pins s σ H D I ⟨a, ha, q⟩ => ?_⟩
  obtain ⟨x, y, hx, hy, I'⟩ := Inv.toLst I ha
  refine thn (h.run pins s σ _ _ I' (q x y hx hy)) fun f s' z => ?_
  cases f with
  | next => obtain ⟨_, _, _, z⟩ := z; exact z.elim
  | brk => obtain ⟨_, _, _, z⟩ := z; exact z.elim
  | cont => obtain ⟨_, _, _, z⟩ := z; exact z.elim
  | ret u =>
    obtain ⟨v, σ', H', J, r, x', y', h1, h2, h3, h4⟩ := z
    exact ⟨v, σ', _, Inv.toTok J h3 h1 h2, r, h4⟩
/-- a list of two numbers handed back as dice -/
theorem pss_dice {X : Cx} {st : List Stmt} {t : TS} (h : PSs X st t) : PSs X st (fun D σ H =>
    t { nx := fun _ _ => False, rt := fun v H' => ∃ (p : Addr) (x y : Int), v = .ref p ∧ 0 ≤ x ∧ 0 ≤ y ∧ H' p = some (.lst [.int x, .int y]) ∧ D.rt v (upd H' p (.ext (tokP p))) } σ H) := by
  refine ⟨fun pins s σ H D I q => ?_⟩
  refine thn (h.run pins s σ _ _ I q) fun f s' z => ?_
  cases f with
  | next => obtain ⟨_, _, _, z⟩ := z; exact z.elim
  | brk => obtain ⟨_, _, _, z⟩ := z; exact z.elim
  | cont => obtain ⟨_, _, _, z⟩ := z; exact z.elim
  | ret u =>
    obtain ⟨v, σ', H', J, r, p, x', y', h0, h1, h2, h3, h4⟩ := z
    exact ⟨v, σ', _, Inv.toTok J h3 h1 h2, r, h4⟩
def rollOk (m : Int) : Bool := Nat.blt 0 m.toNat && Nat.blt m.toNat (2 ^ 60)
theorem rollOk_iff {m : Int} (h : rollOk m = true) : 0 < m ∧ m < 2 ^ 60 := by
  unfold rollOk at h
  have h1 := Nat.blt_eq.mp (Bool.and_eq_true_iff.mp h).1
  have h2 := Nat.blt_eq.mp (Bool.and_eq_true_iff.mp h).2
  omega
theorem rollOk_of {m : Int} (h1 : 0 < m) (h2 : m < 2 ^ 60) : rollOk m = true := Bool.and_eq_true_iff.mpr ⟨Nat.blt_eq.mpr (by omega), Nat.blt_eq.mpr (by omega)⟩
def F_law_roll : List D → Res D
  | [.dict [], .int m] => if rollOk m = true then .any (fun r => 0 ≤ r ∧ r < m) fun r => .ok (.int r) else .no
  | _ => .no
def F_law_dice : List D → Res D
  | [.int _] => .ok (.dict [])
  | _ => .no
theorem upd_back {H : Hp} {a : Addr} {o : HO} (h : H a = some o) : upd H a o = H := by
  funext b
  by_cases e : b = a
  · rw [e, upd_same, h]
  · rw [upd_ne e]
end TB

/-! TBH: the end. -/
namespace TB
open PySem PySem.Spec L2
open PyProof.Rows hiding St
/-- the script as data -/
def scrD (ns : List Int) : D := .dict [(.none, .list (ns.map PyData.int))]
theorem fin_all {K : PySem.W.Frag} {mg : Str → Option Value} {E : XK} {A H : Hp} {α β : Type} {R : α → β → Hp → Hp → Hp → Prop} {Q : β → Hp → Prop} {p : α → Prop} (hq : ∀ a, p a → ∀ b A' H', Gr A H A' H' → R a b H A' H' → Q b H') : ∀ {r : Res α}, r.all p → Fin K mg R E A H r Q
  | .ok a, h => hq a h
  | .ex _, h => h.elim
  | .no, h => h.elim
  | .any P f, h => fun i hi => fin_all hq (r := f i) (h i hi)
def spLaw (K : PySem.W.Frag) : Sp := fun vs H Q _ => ∃ (a : Addr) (ns : List Int), vs = [.ref a] ∧ SqL K H a (ns.map V.int) ∧ ns.length ≤ 63 ∧ ∀ H', Q (.bl true) H'
theorem law_ok {P : Program} {w : World} {K : PySem.W.Frag} {mg : Str → Option Value} {base : Heap} {k : Nat} {f : Addr} {fd : FuncData} {ps : List Str} {F : List D → Res D} (h : FnOk P w K mg base (L2.CX P w) k f fd ps (spR K mg 1 F)) (hF : ∀ ns : List Int, ns.length ≤ 63 → (F [scrD ns]).all (· = .bool true)) :
    FnOk P w K mg base (L2.CX P w) k f fd ps (spLaw K) := h.imp fun vs H Q E ⟨a, ns, e, hs, hl, q⟩ => by
  subst e
  refine ⟨H, [scrD ns], Same.refl _, .cons (.scr hs) .nil, rfl, fin_all (p := (· = .bool true)) (fun d hd v A' H' g k => ?_) (hF ns hl)⟩
  subst hd
  cases k
  exact q H'
theorem no_cx {P : Program} {w : World} {H : Hp} {s : Shared} {e : Value} {s' : Shared} (h : L2.CX P w [] H s (fun _ _ _ => False) e s') : False := by
  obtain ⟨_, _, _, _, _, _, _, _, _, _, _, _, z⟩ := h
  exact z
theorem dp_tupK {K : PySem.W.Frag} {a : Addr} {dd : Option Addr} {sl : Array (Option Value)} {n : Nat} {vs : List Value} {ds : List D} {xs : List V} (l : K.lookup a = some ⟨.type "tuple", dd, .seq vs.toArray n, sl⟩) (hv : Vals xs vs) (hs : vs.length ≤ 1000) (hd : ∀ A, DpAll K A xs ds) (A : Hp) : Dp K A (.ref a) (.tuple ds) :=
  .tup (.inr ⟨_, _, n, l, rfl, rfl, by rw [List.size_toArray, sizeLine_eq]; omega, by simpa using hv⟩) (hd A)
end TB

/-! TBI: sorted(set(a list of numbers)). -/
namespace TB
open PySem PySem.Spec L2
open PyProof.Rows hiding St
/-- an empty set just made -/
abbrev set0 (w : World) : Obj := { cls := .type "set", dict := none, data := .set #[] 0 (.fresh 0 0 (!w.params.followText "set-order")) }
set_option maxHeartbeats 8000000 in
/-- set(l) of a list of numbers, told by its table -/
theorem set_of_ints {P : Program} {w : World} {A : Around} {E : Value → Shared → Prop} {s : Shared} {l : Addr} {items : Array Value} (ns : List Int) {Q : Value → Shared → Prop}
    (calm : A.handled = none) (isl : s.heap.IsList l items) (hints : IntsAre items.toList ns) (few : ns.length + 1 < scanBound)
    (fin : ∀ (h' : Heap) (tk c : Nat), SetR w h' s.heap.objs.size (fun j => decide (j ∈ ns)) c → c ≤ ns.length → (∀ b o, s.heap.get? b = some o → h'.get? b = some o) → Q (.ref s.heap.objs.size) { s with heap := h', toks := tk }) :
    wpAny (model P w) A (call (.type "set") [.ref l]) Q E s := by
  have size : items.size = ns.length := (Array.length_toList (xs := items)).symm.trans (IntsAre.length hints)
  obtain ⟨mc, mt, mro⟩ := F.called_set.mro
  have f1 := F.called_set.made
  have f2 := F.called_set.sub
  have f3 := F.called_set.notType
  have f4 := F.called_set.canCreate
  have f5 := F.typeCall_set_1 (.ref l)
  have f6 := F.called_set.init.lookup
  refine wpAny_call (codeAny_of_tree ?_)
  show wpAny _ _ (callAny (.type "set") _) _ _ _
  refine wpAny_pure ⟨Code.quiet_builtin _ (by decide +kernel), codeAny_builtin F.entry_type_call ?_⟩
  rw [Around.under_plain (weight_type_call_type "set" [.ref l] []) rfl]
  repeat (any_goals (first | assumption | wp_step))
  -- the new set
  refine codeAny_mono (code_set_led1 (.ref l) (E := E) (Q₁ := fun z t => z = .ref s.heap.objs.size ∧ t = { s with heap := s.heap.push (set0 w) }) ⟨rfl, rfl⟩) fun r1 t1 end1 => ?_
  match r1, end1 with
  | .error _, e1 => exact e1
  | .ok .next, e1 => exact e1.elim
  | .ok .brk, e1 => exact e1.elim
  | .ok .cont, e1 => exact e1.elim
  | .ok (.ret z), e1 =>
    obtain ⟨e2, e3⟩ := e1
    subst e2 e3
    have there : (s.heap.push (set0 w)).get? s.heap.objs.size = some (set0 w) := Heap.get?_push_size _ rfl
    have isSet : Shared.TypeIs { s with heap := s.heap.push (set0 w) } (.ref s.heap.objs.size) "set" := ⟨_, there, rfl⟩
    have f7 := F.called_set.init.bind (.ref s.heap.objs.size)
    repeat (any_goals (first | assumption | wp_step))
    refine codeAny_mono (codeAny_call_builtin (R := wants (fun r t => r = .none ∧ ∃ h' tk c, t = { s with heap := h', toks := tk } ∧ SetR w h' s.heap.objs.size (fun j => decide (j ∈ ns)) c ∧ c ≤ ns.length ∧
        ∀ b o, s.heap.get? b = some o → h'.get? b = some o) E) F.called_set.init.plain F.entry_set_init (check_set_init_1 isSet ?_)) fun r2 t2 end2 => ?_
    · -- its items, one by one
      obtain ⟨⟨cl, dd, da, sl⟩, hol, hcl, nl, hdl⟩ := isl
      simp only at hcl hdl
      subst hcl; subst hdl
      have old : (s.heap.push (set0 w)).get? l = some { cls := .type "list", dict := dd, data := .seq items nl, slots := sl } := Heap.get?_push_of_some _ hol
      have g1 := F.sub_list_set
      have g2 := F.sub_list_frozenset
      have g3 : (Value.type "list" == Value.type "dict") = false := by decide
      have listed : (s.heap.push (set0 w)).IsList l items := ⟨_, old, rfl, nl, rfl⟩
      unfold Builtin.«set.__init__» noKeywords Builtin.Frozenset.updateFrom
      generalize hPI : pyIter = PI
      wp_walk
      subst hPI
      refine wpAny_pyIter_list listed ?_
      refine wpAny_bind (wpAny_runValue ?_)
      have below : l < s.heap.objs.size := Heap.lt_size hol
      have calm3 : A.in1.in1.in1.handled = none := by simp [calm]
      have sz1 : (s.heap.push (set0 w)).objs.size = s.heap.objs.size + 1 := Heap.size_push ..
      have apart : l ≠ (s.heap.push (set0 w)).objs.size := by rw [sz1]; exact Nat.ne_of_lt (Nat.lt_succ_of_lt below)
      have notin : s.heap.objs.size ∉ [(s.heap.push (set0 w)).objs.size, l] := by
        rw [sz1]
        intro h
        rcases List.mem_cons.mp h with h | h
        · exact absurd h (Nat.ne_of_lt (Nat.lt_succ_self _))
        · rw [List.mem_singleton] at h
          exact absurd h (Nat.ne_of_gt below)
      have at_ : ∀ (i : Nat) (v : Value), items[i]? = some v → ∃ k t, ns[i]? = some k ∧ v = .int k t := fun i v hv => by
        have hi : i < ns.length := by rw [← size]; exact (Array.getElem?_eq_some_iff.mp hv).1
        obtain ⟨t, e⟩ := PyProof.Rows.IntsAre.int_at hints i v (by rw [Array.getElem?_toList]; exact hv)
        exact ⟨ns[i], t, List.getElem?_eq_getElem hi, by rw [e, List.getD_eq_getElem?_getD, List.getElem?_eq_getElem hi] <;> rfl⟩
      refine set_update_ints ((Walks.list calm3 _ l apart items).toS) s.heap.objs.size notin ns size few at_ (items.size - 0) 0 _ (by omega) (Nat.zero_le _) ⟨⟨_, Heap.get?_push_size _ rfl, rfl, rfl⟩, listed.push _⟩ ?start ?stop
      case start => exact ⟨0, Nat.le_refl 0, setR_new_at (Heap.get?_push_of_some _ there)⟩
      case stop =>
        intro t' c' moved lc R'
        obtain ⟨h', gg, dr, tk', os'⟩ := t'
        obtain rfl : gg = s.gens := moved.gens
        obtain rfl : dr = s.drawn := moved.drawn
        obtain rfl : os' = s.os := moved.os
        show wpAny _ _ _ _ _ _
        refine wpAny_pure ?_
        show wpAny _ _ (ret Value.none) _ _ _
        rw [size] at lc
        refine wpAny_pure ⟨rfl, h', tk', c', rfl, R', lc, fun b o e => ?_⟩
        have lb : b < s.heap.objs.size := Heap.lt_size e
        refine moved.heap b o (fun h => ?_) (Heap.get?_push_of_some _ (Heap.get?_push_of_some _ e))
        rcases List.mem_cons.mp h with h | h
        · exact absurd h (Nat.ne_of_lt lb)
        · rw [List.mem_singleton, sz1] at h
          exact absurd h (Nat.ne_of_lt (Nat.lt_succ_of_lt lb))
    · match r2, end2 with
      | .error _, e2 => exact e2
      | .ok .next, e2 => exact e2.elim
      | .ok .brk, e2 => exact e2.elim
      | .ok .cont, e2 => exact e2.elim
      | .ok (.ret _), e2 =>
        obtain ⟨e4, h', tk, c', e5, R', lc, kept⟩ := e2
        subst e4 e5
        repeat (any_goals (first | assumption | wp_step))
        exact fin _ _ _ R' lc kept
/-- set(l): a set told by its table -/
def rSetI (K : PySem.W.Frag) (w : World) : List V → Hp → VK → Prop := fun vs H Q => ∃ (a : Addr) (ns : List Int), vs = [.ref a] ∧ SqL K H a (ns.map V.int) ∧ ns.length < 64 ∧
  ∀ (p : Addr) (c : Nat), H p = none → c ≤ ns.length → Q (.ref p) (upd H p (SetO w p (fun j => decide (j ∈ ns)) c))
theorem cr_setI {X : Cx} (hc : X.calm = true) : CallR X (.type "set") (rSetI X.K X.w) := fun pins s σ H vs us Q I r ⟨a, ns, e, hs, few, q⟩ => by
  subst e
  obtain ⟨its, rv, pl, _⟩ := I.list hs
  obtain rfl := Vals.ref1 r
  have hi := rv.ints
  exact set_of_ints ns (I.ok.hd hc) pl.isList (by simpa using hi) (by unfold scanBound; omega) fun h' tk c R lc kept =>
    ⟨.ref s.heap.objs.size, _, I.laid (t' := tk) kept (Nat.le_refl _) (setO_new R), rfl, q _ c (I.hok.fresh (Nat.le_refl _)) lc⟩
def insI (x : Int) : List Int → List Int
  | [] => [x]
  | y :: r => if x < y then x :: y :: r else if x = y then y :: r else y :: insI x r
/-- the numbers of a list, rising, each once -/
def rising : List Int → List Int
  | [] => []
  | x :: r => insI x (rising r)
theorem mem_insI {x z : Int} : ∀ {l : List Int}, z ∈ insI x l ↔ z = x ∨ z ∈ l
  | [] => by simp [insI]
  | y :: r => by
    unfold insI
    split
    · simp
    · split
      · rename_i h; subst h; simp
      · rw [List.mem_cons, mem_insI, List.mem_cons]
        constructor
        · rintro (h | h | h) <;> simp [h]
        · rintro (h | h | h) <;> simp [h]
theorem mem_rising {z : Int} : ∀ {l : List Int}, z ∈ rising l ↔ z ∈ l
  | [] => Iff.rfl
  | x :: r => by
    show z ∈ insI x (rising r) ↔ _
    rw [mem_insI, mem_rising, List.mem_cons]
theorem insI_sorted {x : Int} : ∀ {l : List Int}, l.Pairwise (· < ·) → (insI x l).Pairwise (· < ·)
  | [], _ => by simp [insI]
  | y :: r, h => by
    have h1 := List.pairwise_cons.mp h
    unfold insI
    split
    · rename_i hx
      refine List.pairwise_cons.mpr ⟨fun z hz => ?_, h⟩
      rcases List.mem_cons.mp hz with e | hz
      · subst e; exact hx
      · have := h1.1 z hz; omega
    · split
      · exact h
      · rename_i a b
        refine List.pairwise_cons.mpr ⟨fun z hz => ?_, insI_sorted h1.2⟩
        rcases mem_insI.mp hz with e | hz
        · subst e; omega
        · exact h1.1 z hz
theorem rising_sorted : ∀ l : List Int, (rising l).Pairwise (· < ·)
  | [] => List.Pairwise.nil
  | x :: r => insI_sorted (rising_sorted r)
theorem sorted_one {a b : List Int} (ha : a.Pairwise (· < ·)) (hb : b.Pairwise (· < ·)) (h : ∀ z, z ∈ a ↔ z ∈ b) : a = b := by
  induction a generalizing b with
  | nil =>
    cases b with
    | nil => rfl
    | cons y r => exact absurd ((h y).mpr List.mem_cons_self) (by simp)
  | cons x r ih =>
    cases b with
    | nil => exact absurd ((h x).mp List.mem_cons_self) (by simp)
    | cons y q =>
      have hx := List.pairwise_cons.mp ha
      have hy := List.pairwise_cons.mp hb
      have e : x = y := by
        rcases List.mem_cons.mp ((h x).mp List.mem_cons_self) with e | m
        · exact e
        · rcases List.mem_cons.mp ((h y).mpr List.mem_cons_self) with e | m2
          · exact e.symm
          · have := hy.1 x m; have := hx.1 y m2; omega
      subst e
      congr 1
      refine ih hx.2 hy.2 fun z => ⟨fun m => ?_, fun m => ?_⟩
      · rcases List.mem_cons.mp ((h z).mp (List.mem_cons_of_mem _ m)) with e | m2
        · subst e; have := hx.1 z m; omega
        · exact m2
      · rcases List.mem_cons.mp ((h z).mpr (List.mem_cons_of_mem _ m)) with e | m2
        · subst e; have := hy.1 z m; omega
        · exact m2
def oSortSet (ds : List D) : Res (List D) := match intsOf ds with
  | some ns => if ns.length < 64 then .ok ((rising ns).map .int) else .no
  | none => .no
theorem da_ofInts {K : PySem.W.Frag} {H : Hp} (ns : List Int) : DpAll K H (ns.map V.int) (ns.map PyData.int) := da_int ns
theorem df_sortset {X : Cx} {c : XK} {a : Expr} {f : SL} {p p2 pos pos2 : Pos} (hm : X.mg "sorted" = none) (hm2 : X.mg "set" = none) (ha : DL X c a f) (hc : X.calm = true := by rfl) (hg : Gl X "sorted" := by rfl) (hg2 : Gl X "set" := by rfl)
    (he : starEach [a] X.env = (false, eval a X.env) :: starEach [] X.env := by rfl) (he2 : starEach [.Call (.Name "set" p2) [a] [] pos2] X.env = (false, eval (.Call (.Name "set" p2) [a] [] pos2) X.env) :: starEach [] X.env := by rfl) :
    DF X c (.Call (.Name "sorted" p) [.Call (.Name "set" p2) [a] [] pos2] [] pos) (s1 oSortSet f) :=
  pe_imp (pe_callB (cr_sortedSet hc) hg hm (by decide +kernel) (pa_cons (pe_callTy (cr_setI hc) hg2 hm2 (by decide +kernel) (pa_cons ha pa_nil (hs := he)) (by decide) (by decide) he (by rfl)) pa_nil (hs := he2)) (by decide) (by decide) he2 (by rfl)) fun σ H Q ⟨env, A, r, q⟩ =>
    ⟨env, A, r, Fin.step q fun ds v A' H' _ g ⟨b, xs, e, hb, hd⟩ z => by
      subst e
      unfold oSortSet at z
      cases h : intsOf ds with
      | none => simp only [h] at z; exact z.elim
      | some ns =>
      simp only [h] at z
      split at z
      · rename_i few
        rw [da_ints hd h] at hb
        refine ⟨b, ns, rfl, SqL.of hb, few, fun p c np lc => ?_⟩
        refine ⟨p, _, c, rfl, upd_same, by omega, fun ms q' hs hm hl nq => ?_⟩
        have np' : A' p = none := g.sub.free np
        have nq' : H' q' = none := by
          have h1 : q' ≠ p := fun z => by rw [z, upd_same] at nq; cases nq
          rw [upd_ne h1] at nq; exact nq
        have e : ms = rising ns := sorted_one hs (rising_sorted ns) fun y => by
          rw [hm y, mem_rising]
          simp
        subst e
        have g1 : Gr A' H' A' (upd H' p (SetO X.w p (fun j => decide (j ∈ ns)) c)) := Gr.own g.sub np
        refine z _ A' _ (g1.trans (Gr.own g1.sub nq)) ⟨q', _, rfl, nq', g.sub.free nq', upd_same, da_ofInts _⟩
      · exact z.elim⟩
end TB

/-! TBJ: sorted(l) of triples of one text and two numbers. -/
namespace TB
open PySem PySem.Spec L2
open PyProof.Rows hiding St
/-- a triple of the text z and two numbers -/
def IsTri (h : Heap) (z : Str) (v : Value) (k : Int × Int) : Prop := ∃ a o r t u n, v = .ref a ∧ h.get? a = some o ∧ o.cls = .type "tuple" ∧ o.data = .seq #[.str z r, .int k.1 t, .int k.2 u] n
section
variable {prog : Program} {w : World} {A : Around} {E : Value → Shared → Prop} {s : Shared} {z : Str} {vs : List Value} {k : Value → Int × Int}
theorem tri_cmp (hp : ∀ v ∈ vs, IsTri s.heap z v (k v)) : SrtO.Cmp prog w A s (tuples' true) (fun p => p.1 ∈ vs) (SrtO.lt2 fun v u => SrtO.lexB (k v) (k u)) := by
  intro p q mp mq
  obtain ⟨a, o, r, t, u, n, ea, ho, _, hd⟩ := hp _ mp
  obtain ⟨a', o', r', t', u', n', ea', ho', _, hd'⟩ := hp _ mq
  show wpAny (model prog w) A (keyLt' (tuples' true) p.1 q.1) (fun c s' => s' = s ∧ c = SrtO.lexB (k p.1) (k q.1)) (fun _ _ => False) s
  have e : SrtO.lexB (k p.1) (k q.1) = (if (k p.1).1 = (k q.1).1 then decide ((k p.1).2 < (k q.1).2) else decide ((k p.1).1 < (k q.1).1)) := rfl
  rw [e]
  generalize (k p.1).1 = x at hd ⊢
  generalize (k p.1).2 = y at hd ⊢
  generalize (k q.1).1 = x' at hd' ⊢
  generalize (k q.1).2 = y' at hd' ⊢
  rw [ea, ea']
  refine PySem.W.kat_lt ho hd ho' hd' ?_
  show PySem.W.KatLex prog w A true (decide (3 < 3)) _ [(.str z r, .str z r'), (.int x t, .int x' t'), (.int y u, .int y' u')] 0 s
  have third (e1 : (x == x') = true) : ((y == y') = true → false = if x = x' then decide (y < y') else decide (x < x')) ∧ decide (y < y') = if x = x' then decide (y < y') else decide (x < x') := by
    rw [if_pos (beq_iff_eq.mp e1)]
    refine ⟨fun e2 => ?_, rfl⟩
    rw [beq_iff_eq.mp e2]
    simp
  refine PySem.W.kat_cons (SeqAt.EqAt.str_str z r z r' prog w _ _ (PySem.W.kat_go (fun _ => PySem.W.kat_yes (PySem.W.kat_cons (SeqAt.EqAt.int_int x t x' t' prog w _ _ (PySem.W.kat_go (fun e1 => ?_) fun e1 => ?_)))) fun h => absurd h (by simp)))
  · exact PySem.W.kat_yes (PySem.W.kat_cons (SeqAt.EqAt.int_int y u y' u' prog w _ _ (PySem.W.kat_go (fun e2 => PySem.W.kat_yes (PySem.W.kat_nil ⟨rfl, (third e1).1 e2⟩)) fun _ => PySem.W.kat_no (PySem.W.kat_one _ _ (PyProof.Rows.lt_int ⟨rfl, (third e1).2⟩)))))
  · exact PySem.W.kat_no (PySem.W.kat_one _ _ (PyProof.Rows.lt_int ⟨rfl, (if_neg fun e => by simp [e] at e1).symm⟩))
theorem tri_first : ∀ vs : List Value, (∀ v ∈ vs, IsTri s.heap z v (k v)) → ∃ fs : List Value, PySem.W.KatTups s.heap vs fs ∧ fs.length = vs.length ∧ ∀ f ∈ fs, ∃ r, f = Value.str z r
  | [], _ => ⟨[], PySem.W.KatTups.nil, rfl, fun f hf => absurd hf (by simp)⟩
  | v :: vs, h => by
    obtain ⟨fs, k1, k2, k3⟩ := tri_first vs fun u hu => h u (List.mem_cons_of_mem _ hu)
    obtain ⟨a, o, r, t, u, n, ea, ho, hc, hd⟩ := h v List.mem_cons_self
    subst ea
    refine ⟨.str z r :: fs, PySem.W.KatTups.cons ho hc hd rfl k1, congrArg (· + 1) k2, fun f hf => ?_⟩
    rcases List.mem_cons.mp hf with e | hf
    · exact ⟨r, e⟩
    · exact k3 f hf
theorem tri_sortable {a : Addr} (h0 : 0 < vs.length) (hp : ∀ v ∈ vs, IsTri s.heap z v (k v)) (ha : ∀ o, s.heap.get? a = some o → o.cls ≠ .type "tuple") : SrtO.SortableO prog w A s a vs fun v u => SrtO.lexB (k v) (k u) := by
  intro h' keep
  have hp' : ∀ v ∈ vs, IsTri ({ s with heap := h' } : Shared).heap z v (k v) := fun v hm => by
    obtain ⟨b, o, r, t, u, n, e, ho, hc, hd⟩ := hp v hm
    exact ⟨b, o, r, t, u, n, e, keep b o (fun z => ha o (by rw [← z]; exact ho) hc) ho, hc, hd⟩
  obtain ⟨fs, k1, k2, k3⟩ := tri_first (s := { s with heap := h' }) vs hp'
  refine ⟨tuples' true, fun Q E hq => PySem.W.kat_kind (T := .type "str") k1 (by omega) (fun f hm => ?_) (by rfl) ?_, tri_cmp hp'⟩
  · obtain ⟨r, e⟩ := k3 f hm
    subst e
    exact PySem.W.Looks.now
  · rw [show (Value.type "str" != Value.type "tuple") = true from by decide +kernel]
    exact hq
end
/-- sorted(l) of such triples -/
def rSortTri (K : PySem.W.Frag) : List V → Hp → VK → Prop := fun vs H Q => ∃ (a : Addr) (z : Str) (L : List (Addr × Int × Int)), vs = [.ref a] ∧ SqL K H a (L.map fun q => V.ref q.1) ∧ (∀ q ∈ L, SqT K H q.1 [.str z, .int q.2.1, .int q.2.2]) ∧
  ∀ (M : List (Addr × Int × Int)) (p : Addr), M.Perm L → M.Pairwise (fun x y => SrtO.lexB y.2 x.2 = false) → H p = none → Q (.ref p) (upd H p (.lst (M.map fun q => V.ref q.1)))
theorem vals_refs' {α : Type} (g : α → Addr) : ∀ {L : List α} {us : List Value}, Vals (L.map fun q => V.ref (g q)) us → us = L.map fun q => Value.ref (g q)
  | [], _, h => by cases h; rfl
  | q :: L, _, h => by
    cases h with
    | cons r t => rw [vals_refs' g t, (show _ = Value.ref (g q) from r)]; rfl
theorem vals_refs2 {α : Type} (g : α → Addr) : ∀ (L : List α), Vals (L.map fun q => V.ref (g q)) (L.map fun q => Value.ref (g q))
  | [] => .nil
  | q :: L => .cons rfl (vals_refs2 g L)
def keyOf (L : List (Addr × Int × Int)) : Value → Int × Int
  | .ref a => ((L.find? fun q => q.1 == a).map (·.2)).getD (0, 0)
  | _ => (0, 0)
theorem cr_sortTri {X : Cx} : CallR X (.builtin "sorted") (rSortTri X.K) := fun pins s σ H vs us Q I r ⟨a, z, L, e, hs, ht, q⟩ => by
  subst e
  obtain ⟨its, rv, pl, hz⟩ := I.list hs
  obtain rfl := Vals.ref1 r
  have eit := vals_refs' (fun q : Addr × Int × Int => q.1) rv
  have key : ∀ q ∈ L, keyOf L (.ref q.1) = q.2 := fun q hq => by
    have h1 : ∃ q', L.find? (fun p => p.1 == q.1) = some q' := by
      cases h : L.find? fun p => p.1 == q.1 with
      | some q' => exact ⟨q', rfl⟩
      | none => exact absurd (List.find?_eq_none.mp h q hq) (by simp)
    obtain ⟨q', h1⟩ := h1
    have m' := List.mem_of_find?_eq_some h1
    have e' : q'.1 = q.1 := by simpa using List.find?_some h1
    have c1 := ht q' m'
    rw [e'] at c1
    have e2 := I.tuple_inj c1 (ht q hq)
    have e3 : q'.2 = q.2 := by
      injection e2 with _ e2
      injection e2 with h1 e2
      injection e2 with h2 _
      injection h1 with h1
      injection h2 with h2
      exact Prod.ext h1 h2
    show ((L.find? fun p => p.1 == q.1).map (·.2)).getD (0, 0) = q.2
    rw [h1]
    exact e3
  have tri : ∀ v ∈ its, IsTri s.heap z v (keyOf L v) := fun v hv => by
    rw [eit] at hv
    obtain ⟨q, hq, e⟩ := List.mem_map.mp hv
    subst e
    rw [key q hq]
    obtain ⟨js, rj, ⟨o, ho, hc, n, hd⟩, _⟩ := I.tuple (ht q hq)
    cases rj with
    | cons r1 rj =>
    cases rj with
    | cons r2 rj =>
    cases rj with
    | cons r3 rj =>
    cases rj
    obtain ⟨t1, e1⟩ := r1
    obtain ⟨t2, e2⟩ := r2
    obtain ⟨t3, e3⟩ := r3
    subst e1 e2 e3
    exact ⟨_, o, t1, t2, t3, n, rfl, ho, hc, by simpa using hd⟩
  refine SrtO.sorted_ord (SrtO.swo_lex (keyOf L)) pl.isList (by rw [← rv.length]; exact hz) (fun h2 h1 b hb kk => ?_) fun out h1 h2 => ?_
  · refine tri_sortable (z := z) (s := { s with heap := h1 }) (by omega) (fun v hm => ?_) fun o e => ?_
    · obtain ⟨c, o, r, t, u, n, e, ho, hc, hd⟩ := tri v hm
      exact ⟨c, o, r, t, u, n, e, (kk c o ho).2, hc, hd⟩
    · have e' : some o = some _ := e.symm.trans hb
      cases e'
      show Value.type "list" ≠ Value.type "tuple"; decide +kernel
  · obtain ⟨M, hM, eM⟩ := perm_lift (fun q : Addr × Int × Int => Value.ref q.1) h2.perm L eit.symm
    obtain ⟨ep, he⟩ := sortedAll_at s.heap its out.toArray
    have len : (M.map fun q => V.ref q.1).length ≤ sizeLine := by rw [List.length_map, hM.length_eq, ← List.length_map (f := fun q : Addr × Int × Int => V.ref q.1)]; exact hz
    refine ⟨.ref (s.heap.objs.size + 1), upd H (s.heap.objs.size + 1) (.lst (M.map fun q => V.ref q.1)), I.laid (t' := s.toks) (fun _ _ => sortedAll_old) (Nat.le_succ _) ⟨len, out, ep, by rw [← eM]; exact vals_refs2 _ M, he⟩, rfl, q M _ hM ?_ (I.hok.fresh (Nat.le_succ _))⟩
    rw [← eM] at h1
    have h3 := List.pairwise_map.mp h1
    refine h3.imp_of_mem fun {x y} hx hy h => ?_
    have h : SrtO.lexB (keyOf L (.ref y.1)) (keyOf L (.ref x.1)) = false := h
    rw [key y (hM.mem_iff.mp hy), key x (hM.mem_iff.mp hx)] at h
    exact h
/-! ### on data -/
def leP (a b : Int × Int) : Bool := !SrtO.lexB b a
def insP (x : Int × Int) : List (Int × Int) → List (Int × Int)
  | [] => [x]
  | y :: r => if leP x y = true then x :: y :: r else y :: insP x r
def sortP : List (Int × Int) → List (Int × Int)
  | [] => []
  | x :: r => insP x (sortP r)
theorem leP_iff {a b : Int × Int} : leP a b = true ↔ a.1 < b.1 ∨ (a.1 = b.1 ∧ a.2 ≤ b.2) := by
  unfold leP
  have h := SrtO.lexB_no (p := b) (q := a)
  constructor
  · intro z
    have := h.mp (by simpa using z)
    omega
  · intro z
    have : SrtO.lexB b a = false := h.mpr (by omega)
    simp [this]
theorem leP_anti {a b : Int × Int} (h1 : leP a b = true) (h2 : leP b a = true) : a = b := by
  have := leP_iff.mp h1
  have := leP_iff.mp h2
  exact Prod.ext (by omega) (by omega)
theorem insP_perm (x : Int × Int) : ∀ l, (insP x l).Perm (x :: l)
  | [] => List.Perm.refl _
  | y :: r => by
    unfold insP
    split
    · exact List.Perm.refl _
    · exact ((insP_perm x r).cons y).trans (List.Perm.swap x y r)
theorem sortP_perm : ∀ l, (sortP l).Perm l
  | [] => List.Perm.refl _
  | x :: r => (insP_perm x _).trans ((sortP_perm r).cons x)
theorem insP_sorted (x : Int × Int) : ∀ {l : List (Int × Int)}, l.Pairwise (fun a b => leP a b = true) → (insP x l).Pairwise (fun a b => leP a b = true)
  | [], _ => by simp [insP]
  | y :: r, h => by
    have h1 := List.pairwise_cons.mp h
    unfold insP
    split
    · rename_i hx
      refine List.pairwise_cons.mpr ⟨fun z hz => ?_, h⟩
      rcases List.mem_cons.mp hz with e | hz
      · subst e; exact hx
      · have a := leP_iff.mp hx
        have b := leP_iff.mp (h1.1 z hz)
        exact leP_iff.mpr (by omega)
    · rename_i hx
      refine List.pairwise_cons.mpr ⟨fun z hz => ?_, insP_sorted x h1.2⟩
      rcases List.mem_cons.mp ((insP_perm x r).mem_iff.mp hz) with e | hz
      · subst e
        have a : ¬ _ := fun q => hx (leP_iff.mpr q)
        exact leP_iff.mpr (by omega)
      · exact h1.1 z hz
theorem sortP_sorted : ∀ l, (sortP l).Pairwise (fun a b => leP a b = true)
  | [] => List.Pairwise.nil
  | x :: r => insP_sorted x (sortP_sorted r)
theorem sortP_one : ∀ {a b : List (Int × Int)}, a.Perm b → a.Pairwise (fun x y => leP x y = true) → b.Pairwise (fun x y => leP x y = true) → a = b
  | [], b, h, _, _ => (List.perm_nil.mp h.symm).symm
  | x :: r, [], h, _, _ => absurd (List.perm_nil.mp h) (by simp)
  | x :: r, y :: q, h, ha, hb => by
    have h1 := List.pairwise_cons.mp ha
    have h2 := List.pairwise_cons.mp hb
    have e : x = y := by
      rcases List.mem_cons.mp (h.mem_iff.mp List.mem_cons_self) with e | m
      · exact e
      · rcases List.mem_cons.mp (h.mem_iff.mpr List.mem_cons_self) with e | m2
        · exact e.symm
        · exact leP_anti (h1.1 y m2) (h2.1 x m)
    subst e
    rw [sortP_one ((List.perm_cons x).mp h) h1.2 h2.2]
def triD (z : Str) (q : Int × Int) : D := .tuple [.str z, .int q.1, .int q.2]
def trisOf (z : Str) : List D → Option (List (Int × Int))
  | [] => some []
  | .tuple [.str y, .int i, .int j] :: r => if y = z then (trisOf z r).map ((i, j) :: ·) else none
  | _ :: _ => none
def headZ : List D → Str
  | .tuple (.str z :: _) :: _ => z
  | _ => ""
/-- sorted of triples of one text -/
def oSorted (ds : List D) : Res (List D) := match trisOf (headZ ds) ds with
  | some ps => .ok ((sortP ps).map (triD (headZ ds)))
  | none => .no
theorem tris_of {K : PySem.W.Frag} {H : Hp} {z : Str} : ∀ {ds : List D} {xs : List V} {ps : List (Int × Int)}, DpAll K H xs ds → trisOf z ds = some ps →
    ∃ L : List (Addr × Int × Int), xs = L.map (fun q => V.ref q.1) ∧ ps = L.map (·.2) ∧ ∀ q ∈ L, SqT K H q.1 [.str z, .int q.2.1, .int q.2.2]
  | [], _, ps, .nil, e => by
    cases e
    exact ⟨[], rfl, rfl, fun q hq => absurd hq (by simp)⟩
  | d :: ds, _, ps, .cons h1 h2, e => by
    unfold trisOf at e
    split at e
    · rename_i h0
      cases h0
    · rename_i y i j r h0
      cases h0
      split at e
      · rename_i hy
        subst hy
        cases h3 : trisOf y ds with
        | none => rw [h3] at e; cases e
        | some qs =>
        rw [h3] at e
        cases e
        obtain ⟨L, e1, e2, e3⟩ := tris_of h2 h3
        cases h1 with
        | tup hs ha =>
        rename_i a xs'
        cases ha with
        | cons a1 ha =>
        cases ha with
        | cons a2 ha =>
        cases ha with
        | cons a3 ha =>
        cases ha
        cases a1
        cases a2
        cases a3
        refine ⟨(a, i, j) :: L, by rw [e1]; rfl, by rw [e2]; rfl, fun q hq => ?_⟩
        rcases List.mem_cons.mp hq with e | hq
        · subst e; exact hs
        · exact e3 q hq
      · cases e
    · cases e
theorem df_sorted {X : Cx} {c : XK} {a : Expr} {f : SL} {p pos : Pos} (hm : X.mg "sorted" = none) (ha : DL X c a f) (hg : Gl X "sorted" := by rfl) (he : starEach [a] X.env = (false, eval a X.env) :: starEach [] X.env := by rfl) :
    DF X c (.Call (.Name "sorted" p) [a] [] pos) (s1 oSorted f) :=
  dx_call1 cr_sortTri (fun c A H0 H v ds Q s k q => by
    obtain ⟨b, xs, e, hb, hd⟩ := k
    subst e
    unfold oSorted at q
    cases h : trisOf (headZ ds) ds with
    | none => simp only [h] at q; exact q.elim
    | some ps =>
    simp only [h] at q
    obtain ⟨L, e1, e2, e3⟩ := tris_of hd h
    rw [e1] at hb
    refine ⟨b, headZ ds, L, rfl, SqL.of hb, fun q hq => same_t s (e3 q hq), fun M p hM hs np => ?_⟩
    have e4 : M.map (·.2) = sortP ps := by
      refine sortP_one ?_ ?_ (sortP_sorted _)
      · rw [e2]
        exact (hM.map _).trans (sortP_perm _).symm
      · refine List.pairwise_map.mpr (hs.imp fun {x y} h => ?_)
        show (!SrtO.lexB y.2 x.2) = true
        rw [h]; rfl
    refine Fin.at q (Gr.own s np) ⟨p, _, rfl, np, s.free np, upd_same, ?_⟩
    rw [← e4, List.map_map]
    have e5 : ∀ q ∈ M, Dp X.K A (.ref q.1) (triD (headZ ds) q.2) := fun q hq => .tup (e3 q (hM.mem_iff.mp hq)) (.cons (.str _) (.cons (.int _) (.cons (.int _) .nil)))
    clear e4 hs hM
    induction M with
    | nil => exact .nil
    | cons q M ih => exact .cons (e5 q List.mem_cons_self) (ih fun q' hq' => e5 q' (List.mem_cons_of_mem _ hq'))) hg hm (by decide +kernel) ha (he := he)
end TB

/-! TBK: tuple * n for every n from 0. -/
namespace TB
open PySem PySem.Spec L2
open PyProof.Rows hiding St
abbrev tupO (dd : Option Addr) (items : Array Value) (n : Nat) (sl : Array (Option Value)) : Obj := { cls := .type "tuple", dict := dd, data := .seq items n, slots := sl }
section
variable {P : Program} {w : World} {A : Around} {E : Value → Shared → Prop} {s : Shared} {l : Addr} {items : Array Value} {n : Nat} {dd : Option Addr} {sl : Array (Option Value)} {k : Int} {t : Tok} {Q : Value → Shared → Prop}
/-- tuple * number is the tuple's own __mul__ -/
theorem times_by (ho : s.heap.get? l = some (tupO dd items n sl)) {S} (M : Meets (Builtin.«tuple.__mul__» ⟨[.ref l, .int k t], []⟩) S) (q : S A (wants Q E) s) : wpAny (model P w) A (binaryOp .Mult (.ref l) (.int k t)) Q E s := by
  have isTup : s.TypeIs (.ref l) "tuple" := ⟨_, ho, rfl⟩
  have mul := call_meets (prog := P) (w := w) (E := E) F.slot_tuple_mul isTup F.entry_tuple_mul (F.args_tuple_mul_2 _ _) M q
  have declined := call_meets (prog := P) (w := w) (A := A) (E := E) (Q := fun v s' => v = .notImplemented ∧ s'.TypeIs (.ref l) "tuple" ∧ wpAny (model P w) A (call (.builtin "tuple.__mul__") [.ref l, .int k t]) Q E s') F.slot_int_rmul (typeIs_int s k t) F.entry_int_rmul (F.args_int_rmul_2 _ _) (int_rmul_tuple k t l items n dd sl) ⟨ho, rfl, isTup, mul⟩
  exact wpAny_binaryOp_repeat_ref (by decide) isTup (fun s' => typeIs_int s' k t) noFill_tuple_mul F.fills_int_mul F.slot_int_rmul repeat_tuple F.slot_int_index.lookup declined
theorem is_false {b : Bool} (e : b = false) : decide (b = true) = false := by
  rw [e]
  rfl
/-- what is empty or taken once stays the same tuple -/
theorem mul_same (small : (decide (k < -(2 ^ 63)) || decide (k ≥ 2 ^ 63)) = false) (once : (items.isEmpty || k == 1) = true) :
    Meets (Builtin.«tuple.__mul__» ⟨[.ref l, .int k t], []⟩) (fun _ R s => s.heap.get? l = some (tupO dd items n sl) ∧ R (.ok (.ret (Value.ref l))) s) := .of_wp fun _ _ _ R ⟨hp, _, _, _, _⟩ ⟨hl, r⟩ => by
  have index := AutoSeq1.idx_int
  wp_walk using wpAny_loadPart' hl
  refine wpAny_ite_false (is_false small) ?_
  wp_walk using wpAny_loadPart' hl
  exact ⟨_, rfl, r⟩
/-- taken no times: a new empty one -/
theorem mul_none (small : (decide (k < -(2 ^ 63)) || decide (k ≥ 2 ^ 63)) = false) (not1 : (items.isEmpty || k == 1) = false) (never : (decide (k ≤ 0) || items.isEmpty) = true) :
    Meets (Builtin.«tuple.__mul__» ⟨[.ref l, .int k t], []⟩) (fun _ R s => s.heap.get? l = some (tupO dd items n sl) ∧ R (.ok (.ret (.ref s.heap.objs.size))) { s with heap := s.heap.push { cls := .type "tuple", data := .seq #[] } }) := .of_wp fun _ _ _ R ⟨hp, _, _, _, _⟩ ⟨hl, r⟩ => by
  have index := AutoSeq1.idx_int
  wp_walk using wpAny_loadPart' hl
  refine wpAny_ite_false (is_false small) ?_
  wp_walk using wpAny_loadPart' hl
  exact ⟨_, rfl, r⟩
end
def rRepA (K : PySem.W.Frag) : R2 := fun x y H Q => ∃ l k xs, x = .ref l ∧ y = .int k ∧ SqT K H l xs ∧ 0 ≤ k ∧ k ≤ 1000 ∧ xs.length ≤ 1000 ∧ ((k = 1 ∨ xs = []) → Q (.ref l) H) ∧ ∀ p, H p = none → Q (.ref p) (upd H p (.tup (List.replicate k.toNat xs).flatten))
section
variable {X : Cx}
theorem op_repA : OpR X (binaryOp .Mult) (rRepA X.K) := fun pins s σ H x y v u Q I rx ry ⟨l, k, xs, ex, ey, sq, low, high, few, same, new⟩ => by
  by_cases big : 2 ≤ k ∧ xs ≠ []
  · exact op_repT pins s σ H x y v u Q I rx ry ⟨l, k, xs, ex, ey, sq, big.2, big.1, high, few, new⟩
  subst ex ey
  obtain rfl : v = .ref l := rx
  obtain ⟨t, rfl⟩ := ry
  obtain ⟨its, vals, ⟨⟨_, dd, _, sl⟩, ho, rfl, n, rfl⟩, _⟩ := I.tuple sq
  have len := vals.length
  have small : (decide (k < -(2 ^ 63)) || decide (k ≥ 2 ^ 63)) = false := Bool.or_eq_false_iff.mpr ⟨decide_eq_false (by omega), decide_eq_false (by omega)⟩
  by_cases once : k = 1 ∨ xs = []
  · refine times_by ho (mul_same small ?_) ⟨ho, .ref l, H, I, rfl, same once⟩
    rcases once with e | e
    · simp [e]
    · simp [List.eq_nil_of_length_eq_zero (len.symm.trans (congrArg List.length e))]
  have some_ : xs ≠ [] := fun e => once (.inr e)
  have zero : k = 0 := by
    have : k ≠ 1 := fun e => once (.inl e)
    have : ¬ 2 ≤ k := fun e => big ⟨e, some_⟩
    omega
  subst zero
  have full : its.toArray.isEmpty = false := by
    simp only [List.isEmpty_toArray, List.isEmpty_eq_false_iff]
    intro e
    exact some_ (List.eq_nil_of_length_eq_zero (len.trans (congrArg List.length e)))
  have J := I.laid (t' := s.toks) (h' := s.heap.push { cls := .type "tuple", data := .seq #[] }) (o := .tup []) (fun b o g => Heap.get?_push_of_some _ g) (Nat.le_refl _) ⟨Nat.zero_le _, [], .nil, IsTup.new _ _⟩
  exact times_by ho (mul_none small (by simp [full]) (by simp)) ⟨ho, .ref _, _, J, rfl, new _ (I.hok.fresh (Nat.le_refl _))⟩
end
section
variable {X : Cx} {c : XK} {a b : Expr} {pos : Pos}
def oRepA (ds : List D) : D → Res (List D)
  | .int k => if (decide (0 ≤ k) && decide (k ≤ 1000) && decide (ds.length ≤ 1000)) = true then .ok (List.replicate k.toNat ds).flatten else .no
  | _ => .no
theorem og_repA : OpG X (rU X.K) (rD X.K) (rU X.K) (rRepA X.K) oRepA := by
  intro c A H0 H1 H x y ds d Q s k1 k2 q
  obtain ⟨p, xs, rfl, k3, k4⟩ := k1
  cases k2 <;> try exact q.elim
  rename_i k
  unfold oRepA at q
  dsimp only at q
  split at q
  · rename_i h
    simp only [Bool.and_eq_true, decide_eq_true_eq] at h
    obtain ⟨⟨h2, h3⟩, h4⟩ := h
    refine ⟨p, k, xs, rfl, rfl, same_t s k3, h2, h3, by rw [da_len k4]; exact h4, fun e => ?_, fun r hr => ?_⟩
    · have e2 : (List.replicate k.toNat ds).flatten = ds := by
        rcases e with e | e
        · rw [e]
          simp
        · subst e
          cases k4
          simp
      rw [e2] at q
      exact Fin.now q s ⟨p, xs, rfl, k3, k4⟩
    · exact Fin.at q (Gr.alloc s hr) ⟨r, _, rfl, SqT.of upd_same, da_mono (same_upd (s.free hr)) _ _ (da_rep k4 _)⟩
  · exact q.elim
theorem du_repA {f : SL} {g : SE} (ha : DU X c a f) (hb : DE X c b g) : DU X c (.BinOp a .Mult b pos) (s2 oRepA f g) := dx_bin op_repA og_repA ha hb
end
end TB

/-! TBS: reckoning with the semantic functions. -/
namespace TB
open PySem PySem.Spec L2
open PyProof.Rows hiding St
theorem kit_int_int : kitB "int" "int" = some true := by decide +kernel
theorem kit_int_bool : kitB "int" "bool" = some false := by decide +kernel
theorem kit_tuple_tuple : kitB "tuple" "tuple" = some true := by decide +kernel
theorem kit_list_list : kitB "list" "list" = some true := by decide +kernel
theorem kit_bool_int : kitB "bool" "int" = some true := by decide +kernel
theorem kit_bool_bool : kitB "bool" "bool" = some true := by decide +kernel
theorem kit_list_tuple : kitB "list" "tuple" = some false := by decide +kernel
theorem kit_NoneType_tuple : kitB "NoneType" "tuple" = some false := by decide +kernel
theorem kit_int_tuple : kitB "int" "tuple" = some false := by decide +kernel
theorem kit_bool_tuple : kitB "bool" "tuple" = some false := by decide +kernel
theorem kit_str_tuple : kitB "str" "tuple" = some false := by decide +kernel
theorem kit_NoneType_int : kitB "NoneType" "int" = some false := by decide +kernel
theorem kit_str_int : kitB "str" "int" = some false := by decide +kernel
theorem kit_list_int : kitB "list" "int" = some false := by decide +kernel
theorem kit_tuple_int : kitB "tuple" "int" = some false := by decide +kernel
theorem kit_NoneType_list : kitB "NoneType" "list" = some false := by decide +kernel
section
variable {α β γ δ : Type} {env : Env} {f g : SE}
@[simp] theorem sC_e (d : D) : sC d env = .ok d := rfl
@[simp] theorem sVar_e (i : Nat) : sVar i env = match env[i]? with
  | some (.fr d) => .ok d
  | _ => .no := rfl
@[simp] theorem sVarL_e (i : Nat) : sVarL i env = match env[i]? with
  | some (.ow ds) => .ok ds
  | some (.fr (.list ds)) => .ok ds
  | _ => .no := rfl
@[simp] theorem s1_e (op : α → Res β) (f : Env → Res α) : s1 op f env = (f env).bind op := rfl
@[simp] theorem s2_e (op : α → β → Res γ) (f : Env → Res α) (g : Env → Res β) : s2 op f g env = (f env).bind fun x => (g env).bind fun y => op x y := rfl
@[simp] theorem sMap_e (k : α → β) (f : Env → Res α) : sMap k f env = (f env).map k := rfl
@[simp] theorem sNil_e : sNil env = .ok [] := rfl
@[simp] theorem sCons_e (f : SE) (g : SL) : sCons f g env = (f env).bind fun d => (g env).map fun ds => d :: ds := rfl
@[simp] theorem sAnd_e (f g : ST) : sAnd f g env = (f env).bind fun b => if b = true then g env else .ok false := rfl
@[simp] theorem sOr_e (f g : ST) : sOr f g env = (f env).bind fun b => if b = true then .ok true else g env := rfl
@[simp] theorem sIte_e (t : ST) (f g : Env → Res α) : sIte t f g env = (t env).bind fun b => if b = true then f env else g env := rfl
@[simp] theorem sChain_e (op : α → β → Res Bool) (op' : β → γ → Res Bool) (f : Env → Res α) (g : Env → Res β) (h : Env → Res γ) : sChain op op' f g h env = (f env).bind fun x => (g env).bind fun y => (op x y).bind fun k => if k = true then (h env).bind fun z => op' y z else .ok false := rfl
@[simp] theorem sChain3_e (op : α → β → Res Bool) (op' : β → γ → Res Bool) (op'' : γ → δ → Res Bool) (f : Env → Res α) (g : Env → Res β) (h : Env → Res γ) (l : Env → Res δ) : sChain3 op op' op'' f g h l env = (f env).bind fun x => (g env).bind fun y => (op x y).bind fun k => if k = true then (h env).bind fun z => (op' y z).bind fun k2 => if k2 = true then (l env).bind fun u => op'' z u else .ok false else .ok false := rfl
@[simp] theorem sYes_e : sYes env = .ok true := rfl
@[simp] theorem sCall_e (F : List D → Res D) (n : Nat) (f : SL) : sCall F n f env = (f env).bind fun ds => if ds.length = n then F ds else .no := rfl
@[simp] theorem sSlice_e (f : SL) (lo hi : SO) : sSlice f lo hi env = (f env).bind fun ds => (lo env).bind fun l => (hi env).bind fun h => .ok (cutD ds l h) := rfl
@[simp] theorem sNoP_e : sNoP env = .ok none := rfl
@[simp] theorem sPart_e (f : SE) : sPart f env = (f env).bind fun d => match d with
  | .int i => .ok (some i)
  | _ => .no := rfl
@[simp] theorem sLc_e (src : SL) (st : SetS) (t : ST) (e : SE) (own : List Nat) : sLc src st t e own env = (src env).bind fun ds => if ds.length ≤ 16000000 then ofO (lcGo st t e (wipeE env own) ds) else .no := rfl
def opR : D → Res (List D)
  | .int j => if inR j = true then .ok (rng 0 j.toNat) else .no
  | _ => .no
def opR2 : D → D → Res (List D)
  | .int i, .int j => if (inR i && inR j) = true then .ok (rng i (j - i).toNat) else .no
  | _, _ => .no
@[simp] theorem sRng1_e (f : SE) : sRng1 f env = (f env).bind opR := rfl
@[simp] theorem sRng2_e (f g : SE) : sRng2 f g env = (f env).bind fun d => (g env).bind fun e => opR2 d e := rfl
@[simp] theorem opR_i {j : Int} (h : inR j = true) : opR (.int j) = .ok (rng 0 j.toNat) := if_pos h
@[simp] theorem opR2_i {i j : Int} (h : inR i = true) (h2 : inR j = true) : opR2 (.int i) (.int j) = .ok (rng i (j - i).toNat) := if_pos (by rw [h, h2]; rfl)
theorem inR_nat {m : Nat} (hm : m ≤ 1000000) : inR m = true := by
  exact Nat.blt_eq.mpr (by omega)
theorem inR_int {m : Int} (hm : -1000000 ≤ m) (h2 : m ≤ 1000000) : inR m = true := by
  exact Nat.blt_eq.mpr (by omega)
theorem lenOk_t {n : Nat} {ds : List D} (h : ds.length ≤ n) : lenOk n ds = .ok ds := if_pos h
@[simp] theorem sNext_e : sNext env = .ok (.nx env) := rfl
@[simp] theorem sSeq_e (f g : SS) : sSeq f g env = (f env).bind fun o => match o with
  | .nx e => g e
  | o => .ok o := rfl
@[simp] theorem sSet_e (i : Nat) (f : SE) : sSet i f env = (f env).bind fun d => .ok (.nx (env.set i (.fr d))) := rfl
@[simp] theorem sSetF_e (i : Nat) (f : SL) : sSetF i f env = (f env).bind fun d => .ok (.nx (env.set i (.ow d))) := rfl
@[simp] theorem sSetT_e (st : SetS) (f : SE) : sSetT st f env = (f env).bind fun d => match st d env with
  | some e => .ok (.nx e)
  | none => .no := rfl
@[simp] theorem sDrop_e (f : SE) : sDrop f env = (f env).bind fun _ => .ok (.nx env) := rfl
@[simp] theorem sApp_e (i : Nat) (f : SE) : sApp i f env = match env[i]? with
  | some (.ow ds) => (f env).bind fun d => if ds.length ≤ 16000000 then .ok (.nx (env.set i (.ow (ds ++ [d])))) else .no
  | _ => .no := rfl
@[simp] theorem sRet_e (f : SE) : sRet f env = (f env).bind fun d => .ok (.rt d env) := rfl
@[simp] theorem sRetV_e (i : Nat) : sRetV i env = match env[i]? with
  | some (.ow ds) => .ok (.rt (.list ds) (env.set i (.fr (.list ds))))
  | some (.fr d) => .ok (.rt d env)
  | _ => .no := rfl
@[simp] theorem sRetN_e : sRetN env = .ok (.rt .none env) := rfl
@[simp] theorem sIf_e (t : ST) (f g : SS) : sIf t f g env = (t env).bind fun b => if b = true then f env else g env := rfl
@[simp] theorem sMove_e (i j : Nat) : sMove i j env = match env[j]? with
  | some (.ow ds) => .ok (.nx ((env.set j (.fr (.list ds))).set i (.fr (.list ds))))
  | some (.fr d) => .ok (.nx (env.set i (.fr d)))
  | _ => .no := rfl
@[simp] theorem sFor_e (src : SL) (st : SetS) (b : SS) (kill : List Nat) : sFor src st b kill env = (src env).bind fun ds => forL st b kill ds (killE env kill) := rfl
@[simp] theorem sRaise_e (x : Str) : sRaise x env = .ex ⟨x, none⟩ := rfl
@[simp] theorem sBreak_e : sBreak env = .ok (.bk env) := rfl
@[simp] theorem sCont_e : sCont env = .ok (.ct env) := rfl
@[simp] theorem stName_e (i : Nat) (d : D) : stName i d env = some (env.set i (.fr d)) := rfl
theorem stTup_e (is : List Nat) (ds : List D) : stTup is (.tuple ds) env = if ds.length = is.length then some (setAll is ds env) else none := rfl
@[simp] theorem stTup_t (is : List Nat) (ds : List D) : stTup is (.tuple ds) env = if ds.length = is.length then some (setAll is ds env) else none := rfl
@[simp] theorem setAll_c (i : Nat) (is : List Nat) (d : D) (ds : List D) : setAll (i :: is) (d :: ds) env = setAll is ds (env.set i (.fr d)) := rfl
@[simp] theorem setAll_n (ds : List D) : setAll [] ds env = env := by cases ds <;> rfl
@[simp] theorem killE_n : killE env [] = env := rfl
@[simp] theorem killE_c (i : Nat) (is : List Nat) : killE env (i :: is) = (killE env is).set i .un := rfl
@[simp] theorem wipeE_n : wipeE env [] = env := rfl
@[simp] theorem wipeE_c (i : Nat) (is : List Nat) : wipeE env (i :: is) = (wipeE env is).set i .un := rfl
/-! on data -/
@[simp] theorem oI_e (h : Int → Int → D) (i j : Int) : oI h (.int i) (.int j) = .ok (h i j) := rfl
@[simp] theorem oIC_e {k : Int → Int → Bool} {h : Int → Int → D} {i j : Int} (c : k i j = true) : oIC k h (.int i) (.int j) = .ok (h i j) := if_pos c
@[simp] theorem oIB_e (p : Int → Int → Bool) (i j : Int) : oIB p (.int i) (.int j) = .ok (p i j) := rfl
@[simp] theorem asB_e (b : Bool) : asB (.bool b) = .ok b := rfl
@[simp] theorem asL_e (ds : List D) : asL (.list ds) = .ok ds := rfl
@[simp] theorem asU_e (ds : List D) : asU (.tuple ds) = .ok ds := rfl
@[simp] theorem asQ_l (ds : List D) : asQ (.list ds) = .ok ds := rfl
@[simp] theorem asQ_t (ds : List D) : asQ (.tuple ds) = .ok ds := rfl
@[simp] theorem asQ_s (ns : List Int) : asQ (scrD ns) = .ok (ns.map PyData.int) := rfl
@[simp] theorem oLen_e (ds : List D) : oLen ds = .ok (.int ds.length) := rfl
@[simp] theorem oInt_i (i : Int) : oInt (.int i) = .ok (.int i) := rfl
@[simp] theorem oInt_b (b : Bool) : oInt (.bool b) = .ok (.int (if b = true then 1 else 0)) := rfl
@[simp] theorem oIx_e (ds : List D) (i : Int) : oIx ds (.int i) = ofO (atI ds i) := rfl
@[simp] theorem ofO_s (a : α) : ofO (some a) = .ok a := rfl
@[simp] theorem ofO_n : ofO (none : Option α) = .no := rfl
@[simp] theorem toO_e (a : α) : (Res.ok a).toO = some a := rfl
@[simp] theorem endB_n (e : Env) : endB (.nx e) = .ok .none := rfl
@[simp] theorem endB_r (d : D) (e : Env) : endB (.rt d e) = .ok d := rfl
@[simp] theorem isi_int_i (i : Int) : oIsi "int" (.int i) = .ok true := by
  show ofO (kitB "int" "int") = _
  rw [kit_int_int] <;> rfl
@[simp] theorem isi_bool_i (i : Int) : oIsi "bool" (.int i) = .ok false := by
  show ofO (kitB "int" "bool") = _
  rw [kit_int_bool] <;> rfl
@[simp] theorem isi_tuple_t (ds : List D) : oIsi "tuple" (.tuple ds) = .ok true := by
  show ofO (kitB "tuple" "tuple") = _
  rw [kit_tuple_tuple] <;> rfl
@[simp] theorem isi_list_l (ds : List D) : oIsi "list" (.list ds) = .ok true := by
  show ofO (kitB "list" "list") = _
  rw [kit_list_list] <;> rfl
@[simp] theorem isi_int_b (b : Bool) : oIsi "int" (.bool b) = .ok true := by
  show ofO (kitB "bool" "int") = _
  rw [kit_bool_int] <;> rfl
@[simp] theorem isi_bool_b (b : Bool) : oIsi "bool" (.bool b) = .ok true := by
  show ofO (kitB "bool" "bool") = _
  rw [kit_bool_bool] <;> rfl
@[simp] theorem isi_tuple_l (ds : List D) : oIsi "tuple" (.list ds) = .ok false := by
  show ofO (kitB "list" "tuple") = _
  rw [kit_list_tuple] <;> rfl
@[simp] theorem isi_tuple_n : oIsi "tuple" .none = .ok false := by
  show ofO (kitB "NoneType" "tuple") = _
  rw [kit_NoneType_tuple] <;> rfl
@[simp] theorem isi_tuple_i (i : Int) : oIsi "tuple" (.int i) = .ok false := by
  show ofO (kitB "int" "tuple") = _
  rw [kit_int_tuple] <;> rfl
@[simp] theorem isi_tuple_b (b : Bool) : oIsi "tuple" (.bool b) = .ok false := by
  show ofO (kitB "bool" "tuple") = _
  rw [kit_bool_tuple] <;> rfl
@[simp] theorem isi_tuple_s (x : Str) : oIsi "tuple" (.str x) = .ok false := by
  show ofO (kitB "str" "tuple") = _
  rw [kit_str_tuple] <;> rfl
@[simp] theorem isi_int_n : oIsi "int" .none = .ok false := by
  show ofO (kitB "NoneType" "int") = _
  rw [kit_NoneType_int] <;> rfl
@[simp] theorem isi_int_s (x : Str) : oIsi "int" (.str x) = .ok false := by
  show ofO (kitB "str" "int") = _
  rw [kit_str_int] <;> rfl
@[simp] theorem isi_int_l (ds : List D) : oIsi "int" (.list ds) = .ok false := by
  show ofO (kitB "list" "int") = _
  rw [kit_list_int] <;> rfl
@[simp] theorem isi_int_t (ds : List D) : oIsi "int" (.tuple ds) = .ok false := by
  show ofO (kitB "tuple" "int") = _
  rw [kit_tuple_int] <;> rfl
@[simp] theorem isi_list_n : oIsi "list" .none = .ok false := by
  show ofO (kitB "NoneType" "list") = _
  rw [kit_NoneType_list] <;> rfl
@[simp] theorem isNon_n : isNon .none = true := rfl
@[simp] theorem isNon_i (i : Int) : isNon (.int i) = false := rfl
theorem oEq_i (i j : Int) : oEq (.int i) (.int j) = .ok (i == j) := rfl
theorem oNe_i (i j : Int) : oNe (.int i) (.int j) = .ok (!(i == j)) := rfl
end
end TB

namespace TB
open PySem PySem.Spec L2
open PyProof.Rows hiding St
def b_must_books : SS :=
  (sIf (sMap not (s1 asB (sVar 0))) (sRaise "BadBook") sNext)
def F_must_books : List D → Res D := runB 1 b_must_books

def b_is_number : SS :=
  (sRet (sMap .bool (sAnd (s1 (oIsi "int") (sVar 0)) (sAnd (sMap not (s1 (oIsi "bool") (sVar 0))) (sChain oLe oLe (sVar 1) (sVar 0) (sVar 2))))))
def F_is_number : List D → Res D := runB 3 b_is_number

def b_need_tuple : SS :=
  (sDrop (sCall F_must_books 1 (sCons (sMap .bool (sAnd (s1 (oIsi "tuple") (sVar 0)) (sChain oLe oLe (sVar 1) (s1 oLen (s1 asQ (sVar 0))) (sVar 2)))) sNil)))
def F_need_tuple : List D → Res D := runB 3 b_need_tuple

def b_need_stretch : SS :=
  (sSeq (sDrop (sCall F_need_tuple 3 (sCons (sVar 0) (sCons (sC (.int 3)) (sCons (sC (.int 3)) sNil)))))
    (sSeq (sDrop (sCall F_must_books 1 (sCons (sMap .bool (sAnd (s1 asB (sCall F_is_number 3 (sCons (s2 oIx (s1 asQ (sVar 0)) (sC (.int 0))) (sCons (sC (.int 1)) (sCons (sC (.int 9)) sNil))))) (s1 asB (sCall F_is_number 3 (sCons (s2 oIx (s1 asQ (sVar 0)) (sC (.int 1))) (sCons (sC (.int 1)) (sCons (sC (.int 9)) sNil))))))) sNil)))
    (sSeq (sDrop (sCall F_need_tuple 3 (sCons (s2 oIx (s1 asQ (sVar 0)) (sC (.int 2))) (sCons (sC (.int 1)) (sCons (sC (.int 24)) sNil)))))
    (sFor (s1 asU (s2 oIx (s1 asQ (sVar 0)) (sC (.int 2)))) (stName 1) (sDrop (sCall F_must_books 1 (sCons (sCall F_is_number 3 (sCons (sVar 1) (sCons (sC (.int 0)) (sCons (sC (.int 99)) sNil)))) sNil))) [1]))))
def F_need_stretch : List D → Res D := runB 2 b_need_stretch

def b_need_barge : SS :=
  (sSeq (sDrop (sCall F_need_tuple 3 (sCons (sVar 0) (sCons (sC (.int 5)) (sCons (sC (.int 5)) sNil)))))
    (sSeq (sDrop (sCall F_must_books 1 (sCons (sMap .bool (sAnd (s1 asB (sCall F_is_number 3 (sCons (s2 oIx (s1 asQ (sVar 0)) (sC (.int 0))) (sCons (sC (.int 0)) (sCons (sVar 1) sNil))))) (sAnd (s1 asB (sCall F_is_number 3 (sCons (s2 oIx (s1 asQ (sVar 0)) (sC (.int 1))) (sCons (sC (.int 0)) (sCons (sVar 1) sNil))))) (s2 oLt (s2 oIx (s1 asQ (sVar 0)) (sC (.int 0))) (s2 oIx (s1 asQ (sVar 0)) (sC (.int 1))))))) sNil)))
    (sDrop (sCall F_must_books 1 (sCons (sMap .bool (sAnd (s1 asB (sCall F_is_number 3 (sCons (s2 oIx (s1 asQ (sVar 0)) (sC (.int 2))) (sCons (sC (.int 1)) (sCons (sC (.int 99)) sNil))))) (sAnd (s1 asB (sCall F_is_number 3 (sCons (s2 oIx (s1 asQ (sVar 0)) (sC (.int 3))) (sCons (sC (.int 0)) (sCons (sC (.int 99)) sNil))))) (s1 asB (sCall F_is_number 3 (sCons (s2 oIx (s1 asQ (sVar 0)) (sC (.int 4))) (sCons (sC (.int 0)) (sCons (sC (.int 199)) sNil)))))))) sNil)))))
def F_need_barge : List D → Res D := runB 2 b_need_barge

def b_need_book : SS :=
  (sSeq (sDrop (sCall F_need_tuple 3 (sCons (sVar 0) (sCons (sC (.int 2)) (sCons (sC (.int 2)) sNil)))))
    (sSeq (sDrop (sCall F_need_tuple 3 (sCons (s2 oIx (s1 asQ (sVar 0)) (sC (.int 0))) (sCons (sC (.int 1)) (sCons (sC (.int 8)) sNil)))))
    (sSeq (sFor (s1 asU (s2 oIx (s1 asQ (sVar 0)) (sC (.int 0)))) (stName 1) (sDrop (sCall F_need_stretch 1 (sCons (sVar 1) sNil))) [1])
    (sSeq (sDrop (sCall F_need_tuple 3 (sCons (s2 oIx (s1 asQ (sVar 0)) (sC (.int 1))) (sCons (sC (.int 0)) (sCons (sC (.int 7)) sNil)))))
    (sFor (s1 asU (s2 oIx (s1 asQ (sVar 0)) (sC (.int 1)))) (stName 2) (sDrop (sCall F_need_barge 2 (sCons (sVar 2) (sCons (s1 oLen (s1 asQ (s2 oIx (s1 asQ (sVar 0)) (sC (.int 0))))) sNil)))) [2])))))
def F_need_book : List D → Res D := runB 3 b_need_book

def b_passes : SS :=
  (sRet (s2 oAdd (sVar 2) (s1 oSum (sLc (sSlice (s1 asU (s2 oIx (s1 asQ (sVar 0)) (sC (.int 0)))) sNoP (sPart (sVar 1))) (stName 3) sYes (s2 oIx (s1 asQ (sVar 3)) (sC (.int 0))) [3]))))
def F_passes : List D → Res D := runB 4 b_passes

def b_depth_then : SS :=
  (sSeq (sSet 3 (s2 oIx (s1 asQ (s2 oIx (s1 asQ (s2 oIx (s1 asQ (sVar 0)) (sC (.int 0)))) (sVar 1))) (sC (.int 2))))
    (sRet (s2 oIx (s1 asQ (sVar 3)) (s2 oMod (sVar 2) (s1 oLen (s1 asQ (sVar 3)))))))
def F_depth_then : List D → Res D := runB 4 b_depth_then

def b_time_at : SS :=
  (sSeq (sDrop (sCall F_need_book 1 (sCons (sVar 0) sNil)))
    (sRet (sCall F_passes 3 (sCons (sVar 0) (sCons (sVar 1) (sCons (sVar 2) sNil))))))
def F_time_at : List D → Res D := runB 3 b_time_at

def b_depth_at : SS :=
  (sSeq (sDrop (sCall F_need_book 1 (sCons (sVar 0) sNil)))
    (sRet (sCall F_depth_then 3 (sCons (sVar 0) (sCons (sVar 1) (sCons (sVar 2) sNil))))))
def F_depth_at : List D → Res D := runB 3 b_depth_at

def b_law_cell_at : SS :=
  (sSeq (sIf (s2 oLt (sVar 1) (s1 oLen (s1 asQ (sVar 0)))) (sRet (s2 oIx (s1 asQ (sVar 0)) (sVar 1))) sNext)
    (sRet (sC (.int 0))))
def F_law_cell_at : List D → Res D := runB 2 b_law_cell_at

def b_law_whole : SS :=
  (sRet (sMap .bool (sAnd (s1 (oIsi "int") (sVar 0)) (sMap not (s1 (oIsi "bool") (sVar 0))))))
def F_law_whole : List D → Res D := runB 1 b_law_whole

def b_law_river : SS :=
  (sSeq (sSetF 2 (s1 (lenOk 100000) sNil))
    (sSeq (sFor (sRng1 (sVar 1)) (stName 3) (sSeq (sSet 4 (s1 oInt (sMap .bool (s2 oEq (sCall F_law_roll 2 (sCons (sVar 0) (sCons (sC (.int 9)) sNil))) (sC (.int 0))))))
    (sSeq (sSetF 5 (s1 (lenOk 100000) sNil))
    (sSeq (sFor (sRng1 (s2 oIx (s1 (lenOk 100000) (sCons (s2 oAdd (sC (.int 1)) (sCall F_law_roll 2 (sCons (sVar 0) (sCons (sC (.int 4)) sNil)))) (sCons (sC (.int 24)) sNil))) (sVar 4))) (stName 6) (sApp 5 (s2 oIx (s1 (lenOk 100000) (sCons (s2 oAdd (sC (.int 5)) (sCall F_law_roll 2 (sCons (sVar 0) (sCons (sC (.int 8)) sNil)))) (sCons (sC (.int 0)) sNil))) (s1 oInt (sMap .bool (s2 oEq (sCall F_law_roll 2 (sCons (sVar 0) (sCons (sC (.int 20)) sNil))) (sC (.int 0))))))) [6])
    (sApp 2 (s1 tupD (sCons (s2 oAdd (sC (.int 1)) (sCall F_law_roll 2 (sCons (sVar 0) (sCons (s2 oIx (s1 (lenOk 100000) (sCons (sC (.int 3)) (sCons (sC (.int 9)) sNil))) (sVar 4)) sNil)))) (sCons (s2 oAdd (sC (.int 1)) (sCall F_law_roll 2 (sCons (sVar 0) (sCons (s2 oIx (s1 (lenOk 100000) (sCons (sC (.int 3)) (sCons (sC (.int 9)) sNil))) (sVar 4)) sNil)))) (sCons (sMap .tuple (s1 .ok (sVarL 5))) sNil)))))))) [3, 4, 5, 6])
    (sRet (sMap .tuple (s1 .ok (sVarL 2))))))
def F_law_river : List D → Res D := runB 7 b_law_river

def b_law_time : SS :=
  (sRet (s2 oAdd (sVar 2) (s1 oSum (sLc (sSlice (s1 asU (sVar 0)) sNoP (sPart (sVar 1))) (stName 3) sYes (s2 oIx (s1 asQ (sVar 3)) (sC (.int 0))) [3]))))
def F_law_time : List D → Res D := runB 4 b_law_time

def b_law_barges : SS :=
  (sSeq (sSetF 3 (s1 (lenOk 100000) sNil))
    (sSeq (sSet 4 (s2 oIx (s1 (lenOk 100000) (sCons (sC (.int 6)) (sCons (sC (.int 3)) sNil))) (s1 oInt (sMap .bool (s2 oGt (sVar 2) (sC (.int 4)))))))
    (sSeq (sFor (sRng1 (sVar 2)) (stName 5) (sSeq (sSet 6 (sCall F_law_roll 2 (sCons (sVar 0) (sCons (s1 oLen (s1 asQ (sVar 1))) sNil))))
    (sSeq (sSet 7 (s2 oAdd (s2 oAdd (sVar 6) (sC (.int 1))) (sCall F_law_roll 2 (sCons (sVar 0) (sCons (s2 oSub (s1 oLen (s1 asQ (sVar 1))) (sVar 6)) sNil)))))
    (sSeq (sSet 8 (sCall F_law_roll 2 (sCons (sVar 0) (sCons (sC (.int 12)) sNil))))
    (sSeq (sSet 9 (s2 oMax2 (sC (.int 0)) (s2 oSub (sCall F_law_time 3 (sCons (sVar 1) (sCons (sVar 6) (sCons (sVar 8) sNil)))) (sCall F_law_roll 2 (sCons (sVar 0) (sCons (sVar 4) sNil))))))
    (sSeq (sSet 10 (s2 oAdd (sCall F_law_time 3 (sCons (sVar 1) (sCons (sVar 7) (sCons (sVar 8) sNil)))) (sCall F_law_roll 2 (sCons (sVar 0) (sCons (sVar 4) sNil)))))
    (sSeq (sSet 11 (s2 oIx (s1 (lenOk 100000) (sCons (s2 oAdd (sC (.int 1)) (sCall F_law_roll 2 (sCons (sVar 0) (sCons (sC (.int 5)) sNil)))) (sCons (s2 oAdd (sC (.int 5)) (sCall F_law_roll 2 (sCons (sVar 0) (sCons (sC (.int 8)) sNil)))) sNil))) (s1 oInt (sMap .bool (s2 oEq (sCall F_law_roll 2 (sCons (sVar 0) (sCons (sC (.int 4)) sNil))) (sC (.int 0)))))))
    (sSeq (sSet 12 (sCall F_law_roll 2 (sCons (sVar 0) (sCons (sC (.int 60)) sNil))))
    (sSeq (sIf (s2 oLt (sVar 12) (sC (.int 3))) (sSetT (stTup [11, 9, 10]) (s2 oIx (s1 (lenOk 100000) (sCons (s1 tupD (sCons (sC (.int 99)) (sCons (sVar 9) (sCons (sVar 10) sNil)))) (sCons (s1 tupD (sCons (sVar 11) (sCons (sC (.int 99)) (sCons (sC (.int 199)) sNil)))) (sCons (s1 tupD (sCons (sVar 11) (sCons (sVar 9) (sCons (sC (.int 0)) sNil)))) sNil)))) (sVar 12))) sNext)
    (sApp 3 (s1 tupD (sCons (sVar 6) (sCons (sVar 7) (sCons (sVar 11) (sCons (sVar 9) (sCons (sVar 10) sNil))))))))))))))) [5, 6, 7, 8, 9, 10, 11, 12])
    (sRet (sMap .tuple (s1 .ok (sVarL 3)))))))
def F_law_barges : List D → Res D := runB 13 b_law_barges

def b_law_book : SS :=
  (sSeq (sSet 2 (sCall F_law_dice 1 (sCons (sCall F_law_cell_at 2 (sCons (sVar 0) (sCons (sC (.int 0)) sNil))) sNil)))
    (sSeq (sSet 3 (sCall F_law_cell_at 2 (sCons (sVar 0) (sCons (sC (.int 1)) sNil))))
    (sSeq (sSet 4 (sCall F_law_river 2 (sCons (sVar 2) (sCons (s2 oIx (s1 (lenOk 100000) (sCons (s2 oAdd (sC (.int 1)) (s2 oMod (sVar 3) (sC (.int 4)))) (sCons (s2 oAdd (sC (.int 5)) (s2 oMod (sVar 3) (sC (.int 4)))) sNil))) (s1 oInt (sMap .bool (s2 oEq (s2 oMod (s2 oDiv (sVar 3) (sC (.int 4))) (sC (.int 6))) (sC (.int 1)))))) sNil))))
    (sRet (s1 tupD (sCons (sVar 4) (sCons (sCall F_law_barges 3 (sCons (sVar 2) (sCons (sVar 4) (sCons (s2 oMod (sCall F_law_cell_at 2 (sCons (sVar 0) (sCons (sC (.int 2)) sNil))) (s2 oAdd (sVar 1) (sC (.int 1)))) sNil)))) sNil)))))))
def F_law_book : List D → Res D := runB 5 b_law_book

def b_need_plan : SS :=
  (sSeq (sDrop (sCall F_need_book 1 (sCons (sVar 0) sNil)))
    (sSeq (sIf (sOr (sMap not (s1 (oIsi "tuple") (sVar 1))) (s2 oNe (s1 oLen (s1 asQ (sVar 1))) (s1 oLen (s1 asQ (s2 oIx (s1 asQ (sVar 0)) (sC (.int 1))))))) (sRaise "BadPlan") sNext)
    (sFor (s1 asU (sVar 1)) (stName 2) (sIf (sAnd (s2 oNotN (sVar 2) (sC .none)) (sMap not (s1 asB (sCall F_is_number 3 (sCons (sVar 2) (sCons (sC (.int 0)) (sCons (s2 oSub (sC (.int 12)) (sC (.int 1))) sNil))))))) (sRaise "BadPlan") sNext) [2])))
def F_need_plan : List D → Res D := runB 3 b_need_plan

def b_hours_in : SS :=
  (sRet (sMap .list (s1 oSortSet (sLc (s1 asU (sVar 0)) (stName 1) (s2 oNotN (sVar 1) (sC .none)) (sVar 1) [1]))))
def F_hours_in : List D → Res D := runB 2 b_hours_in

def b_with_hour : SS :=
  (sRet (sMap .tuple (s2 catOk (s2 catOk (sSlice (s1 asU (sVar 0)) sNoP (sPart (sVar 1))) (s1 asU (s1 tupD (sCons (sVar 2) sNil)))) (sSlice (s1 asU (sVar 0)) (sPart (s2 oAdd (sVar 1) (sC (.int 1)))) sNoP))))
def F_with_hour : List D → Res D := runB 3 b_with_hour

def b_alone : SS :=
  (sSeq (sSetT (stTup [5, 6, 7, 8, 9]) (s2 oIx (s1 asQ (s2 oIx (s1 asQ (sVar 0)) (sC (.int 1)))) (sVar 1)))
    (sSeq (sSetF 3 (s1 (lenOk 100000) sNil))
    (sSeq (sIf (s2 oLt (sCall F_passes 3 (sCons (sVar 0) (sCons (sVar 5) (sCons (sVar 2) sNil)))) (sVar 8)) (sApp 3 (s1 tupD (sCons (sC (.str "early")) (sCons (sVar 1) (sCons (sCall F_passes 3 (sCons (sVar 0) (sCons (sVar 5) (sCons (sVar 2) sNil)))) sNil))))) sNext)
    (sSeq (sIf (s2 oGt (sCall F_passes 3 (sCons (sVar 0) (sCons (sVar 6) (sCons (sVar 2) sNil)))) (sVar 9)) (sApp 3 (s1 tupD (sCons (sC (.str "late")) (sCons (sVar 1) (sCons (sCall F_passes 3 (sCons (sVar 0) (sCons (sVar 6) (sCons (sVar 2) sNil)))) sNil))))) sNext)
    (sSeq (sFor (sRng2 (sVar 5) (sVar 6)) (stName 4) (sSeq (sSet 10 (sCall F_passes 3 (sCons (sVar 0) (sCons (sVar 4) (sCons (sVar 2) sNil)))))
    (sSeq (sSet 11 (sCall F_depth_then 3 (sCons (sVar 0) (sCons (sVar 4) (sCons (sVar 10) sNil)))))
    (sIf (s2 oLt (sVar 11) (sVar 7)) (sApp 3 (s1 tupD (sCons (sC (.str "shallow")) (sCons (sVar 1) (sCons (sVar 4) (sCons (sVar 10) (sCons (sVar 11) sNil))))))) sNext))) [4, 10, 11])
    (sRetV 3))))))
def F_alone : List D → Res D := runB 12 b_alone

def b_mates : SS :=
  (sRet (sMap .list (sLc (sRng1 (s1 oLen (s1 asQ (sVar 0)))) (stName 2) (s2 oEq (s2 oIx (s1 asQ (sVar 0)) (sVar 2)) (sVar 1)) (sVar 2) [2])))
def F_mates : List D → Res D := runB 3 b_mates

def b_on_stretch : SS :=
  (sRet (s1 oLen (sLc (s1 asL (sVar 1)) (stName 3) (sChain oLe oLt (s2 oIx (s1 asQ (s2 oIx (s1 asQ (s2 oIx (s1 asQ (sVar 0)) (sC (.int 1)))) (sVar 3))) (sC (.int 0))) (sVar 2) (s2 oIx (s1 asQ (s2 oIx (s1 asQ (s2 oIx (s1 asQ (sVar 0)) (sC (.int 1)))) (sVar 3))) (sC (.int 1)))) (sVar 3) [3])))
def F_on_stretch : List D → Res D := runB 4 b_on_stretch

def b_are_crossed : SS :=
  (sRet (sMap .bool (sChain3 oLt oLt oLt (s2 oIx (s1 asQ (sVar 0)) (sC (.int 0))) (s2 oIx (s1 asQ (sVar 1)) (sC (.int 0))) (s2 oIx (s1 asQ (sVar 0)) (sC (.int 1))) (s2 oIx (s1 asQ (sVar 1)) (sC (.int 1))))))
def F_are_crossed : List D → Res D := runB 2 b_are_crossed

def b_crossings : SS :=
  (sSeq (sSetF 2 (s1 (lenOk 100000) sNil))
    (sSeq (sFor (s1 asL (sVar 1)) (stName 3) (sFor (s1 asL (sVar 1)) (stName 4) (sIf (s1 asB (sCall F_are_crossed 2 (sCons (s2 oIx (s1 asQ (s2 oIx (s1 asQ (sVar 0)) (sC (.int 1)))) (sVar 3)) (sCons (s2 oIx (s1 asQ (s2 oIx (s1 asQ (sVar 0)) (sC (.int 1)))) (sVar 4)) sNil)))) (sApp 2 (s1 tupD (sCons (sC (.str "crossed")) (sCons (sVar 3) (sCons (sVar 4) sNil))))) sNext) [4]) [3, 4])
    (sRetV 2)))
def F_crossings : List D → Res D := runB 5 b_crossings

def b_against : SS :=
  (sSeq (sSetF 2 (s1 (lenOk 100000) sNil))
    (sSeq (sFor (sRng1 (s1 oLen (s1 asQ (sVar 1)))) (stName 3) (sIf (s2 oNotN (s2 oIx (s1 asQ (sVar 1)) (sVar 3)) (sC .none)) (sSetF 2 (s2 catOk (sVarL 2) (s1 asL (sCall F_alone 3 (sCons (sVar 0) (sCons (sVar 3) (sCons (s2 oIx (s1 asQ (sVar 1)) (sVar 3)) sNil))))))) sNext) [3])
    (sSeq (sSet 4 (sMap .list (s1 (lenOk 100000) sNil)))
    (sSeq (sFor (s1 asL (sCall F_hours_in 1 (sCons (sVar 1) sNil))) (stName 5) (sSeq (sSet 6 (sCall F_mates 2 (sCons (sVar 1) (sCons (sVar 5) sNil))))
    (sSeq (sFor (sRng1 (s1 oLen (s1 asQ (s2 oIx (s1 asQ (sVar 0)) (sC (.int 0)))))) (stName 7) (sSeq (sSet 8 (sCall F_on_stretch 3 (sCons (sVar 0) (sCons (sVar 6) (sCons (sVar 7) sNil)))))
    (sIf (s2 oGt (sVar 8) (s2 oIx (s1 asQ (s2 oIx (s1 asQ (s2 oIx (s1 asQ (sVar 0)) (sC (.int 0)))) (sVar 7))) (sC (.int 1)))) (sApp 2 (s1 tupD (sCons (sC (.str "full")) (sCons (sVar 5) (sCons (sVar 7) (sCons (sVar 8) sNil)))))) sNext)) [7, 8])
    (sSet 4 (sMap .list (s2 catOk (s1 asL (sVar 4)) (s1 asL (sCall F_crossings 2 (sCons (sVar 0) (sCons (sVar 6) sNil))))))))) [5, 6, 7, 8])
    (sRet (sMap .list (s2 catOk (sVarL 2) (s1 oSorted (s1 asL (sVar 4))))))))))
def F_against : List D → Res D := runB 9 b_against

def b_refusals : SS :=
  (sSeq (sDrop (sCall F_need_plan 2 (sCons (sVar 0) (sCons (sVar 1) sNil))))
    (sRet (sCall F_against 2 (sCons (sVar 0) (sCons (sVar 1) sNil)))))
def F_refusals : List D → Res D := runB 2 b_refusals

def b_need_good : SS :=
  (sSeq (sDrop (sCall F_need_plan 2 (sCons (sVar 0) (sCons (sVar 1) sNil))))
    (sIf (s2 oNe (sCall F_against 2 (sCons (sVar 0) (sCons (sVar 1) sNil))) (sMap .list (s1 (lenOk 100000) sNil))) (sRaise "BadPlan") sNext))
def F_need_good : List D → Res D := runB 2 b_need_good

def b_worth_of : SS :=
  (sSeq (sSet 2 (sC (.int 0)))
    (sSeq (sFor (sRng1 (s1 oLen (s1 asQ (sVar 1)))) (stName 3) (sIf (s2 oNotN (s2 oIx (s1 asQ (sVar 1)) (sVar 3)) (sC .none)) (sSet 2 (s2 oSub (s2 oAdd (sVar 2) (sCall F_passes 3 (sCons (sVar 0) (sCons (s2 oIx (s1 asQ (s2 oIx (s1 asQ (s2 oIx (s1 asQ (sVar 0)) (sC (.int 1)))) (sVar 3))) (sC (.int 0))) (sCons (s2 oIx (s1 asQ (sVar 1)) (sVar 3)) sNil))))) (s2 oIx (s1 asQ (s2 oIx (s1 asQ (s2 oIx (s1 asQ (sVar 0)) (sC (.int 1)))) (sVar 3))) (sC (.int 3))))) sNext) [3])
    (sRet (s1 tupD (sCons (s1 oLen (s1 asQ (sCall F_hours_in 1 (sCons (sVar 1) sNil)))) (sCons (sVar 2) sNil))))))
def F_worth_of : List D → Res D := runB 4 b_worth_of

def b_worth : SS :=
  (sSeq (sDrop (sCall F_need_plan 2 (sCons (sVar 0) (sCons (sVar 1) sNil))))
    (sRet (sCall F_worth_of 2 (sCons (sVar 0) (sCons (sVar 1) sNil)))))
def F_worth : List D → Res D := runB 2 b_worth

def b_spare_of : SS :=
  (sSeq (sSetT (stTup [4, 5, 6, 7, 8]) (s2 oIx (s1 asQ (s2 oIx (s1 asQ (sVar 0)) (sC (.int 1)))) (sVar 1)))
    (sSeq (sSet 3 (s1 oMin (sLc (sRng2 (sVar 4) (sVar 5)) (stName 9) sYes (sCall F_depth_then 3 (sCons (sVar 0) (sCons (sVar 9) (sCons (sCall F_passes 3 (sCons (sVar 0) (sCons (sVar 9) (sCons (sVar 2) sNil)))) sNil)))) [9])))
    (sRet (s1 tupD (sCons (s2 oSub (sCall F_passes 3 (sCons (sVar 0) (sCons (sVar 4) (sCons (sVar 2) sNil)))) (sVar 7)) (sCons (s2 oSub (sVar 8) (sCall F_passes 3 (sCons (sVar 0) (sCons (sVar 5) (sCons (sVar 2) sNil))))) (sCons (s2 oSub (sVar 3) (sVar 6)) sNil)))))))
def F_spare_of : List D → Res D := runB 10 b_spare_of

def b_spare : SS :=
  (sSeq (sDrop (sCall F_need_good 2 (sCons (sVar 0) (sCons (sVar 1) sNil))))
    (sSeq (sSetF 2 (s1 (lenOk 100000) sNil))
    (sSeq (sFor (sRng1 (s1 oLen (s1 asQ (sVar 1)))) (stName 3) (sIf (s2 oIsN (s2 oIx (s1 asQ (sVar 1)) (sVar 3)) (sC .none)) (sApp 2 (sC .none)) (sApp 2 (sCall F_spare_of 3 (sCons (sVar 0) (sCons (sVar 3) (sCons (s2 oIx (s1 asQ (sVar 1)) (sVar 3)) sNil)))))) [3])
    (sRetV 2))))
def F_spare : List D → Res D := runB 4 b_spare

def b_hours_alone : SS :=
  (sSeq (sDrop (sCall F_need_book 1 (sCons (sVar 0) sNil)))
    (sRet (sMap .list (sLc (sRng1 (sC (.int 12))) (stName 2) sYes (sCall F_alone 3 (sCons (sVar 0) (sCons (sVar 1) (sCons (sVar 2) sNil)))) [2]))))
def F_hours_alone : List D → Res D := runB 3 b_hours_alone

def b_need_left : SS :=
  (sSeq (sDrop (sCall F_need_good 2 (sCons (sVar 0) (sCons (sVar 1) sNil))))
    (sSeq (sIf (s2 oIn (sC .none) (s1 asQ (sVar 1))) (sRaise "BadPlan") sNext)
    (sIf (s2 oLt (s2 oIx (s1 asQ (sVar 1)) (sVar 3)) (sVar 2)) (sRaise "Gone") sNext)))
def F_need_left : List D → Res D := runB 4 b_need_left

def b_standing : SS :=
  (sSeq (sSetF 2 (s1 (lenOk 100000) sNil))
    (sSeq (sFor (s1 asU (sVar 0)) (stName 3) (sIf (s2 oLt (sVar 3) (sVar 1)) (sApp 2 (sVar 3)) (sApp 2 (sC .none))) [3])
    (sRet (sMap .tuple (s1 .ok (sVarL 2))))))
def F_standing : List D → Res D := runB 4 b_standing

def b_late : SS :=
  (sSeq (sDrop (sCall F_need_left 4 (sCons (sVar 0) (sCons (sVar 1) (sCons (sVar 2) (sCons (sVar 3) sNil))))))
    (sSeq (sSetT (stTup [7, 8, 9, 10, 11]) (s2 oIx (s1 asQ (s2 oIx (s1 asQ (sVar 0)) (sC (.int 1)))) (sVar 3)))
    (sSeq (sSet 5 (sMap .tuple (s2 catOk (s2 catOk (sSlice (s1 asU (s2 oIx (s1 asQ (sVar 0)) (sC (.int 1)))) sNoP (sPart (sVar 3))) (s1 asU (s1 tupD (sCons (s1 tupD (sCons (sVar 7) (sCons (sVar 8) (sCons (sVar 9) (sCons (sVar 4) (sCons (sVar 11) sNil)))))) sNil)))) (sSlice (s1 asU (s2 oIx (s1 asQ (sVar 0)) (sC (.int 1)))) (sPart (s2 oAdd (sVar 3) (sC (.int 1)))) sNoP))))
    (sSeq (sSet 6 (s1 tupD (sCons (s2 oIx (s1 asQ (sVar 0)) (sC (.int 0))) (sCons (sVar 5) sNil))))
    (sSeq (sDrop (sCall F_need_book 1 (sCons (sVar 6) sNil)))
    (sRet (s1 tupD (sCons (sVar 6) (sCons (sCall F_standing 2 (sCons (sVar 1) (sCons (sVar 2) sNil))) sNil)))))))))
def F_late : List D → Res D := runB 12 b_late

def b_lost : SS :=
  (sSeq (sDrop (sCall F_need_left 4 (sCons (sVar 0) (sCons (sVar 1) (sCons (sVar 2) (sCons (sVar 3) sNil))))))
    (sSeq (sSet 4 (sCall F_standing 2 (sCons (sVar 1) (sCons (sVar 2) sNil))))
    (sRet (s1 tupD (sCons (s1 tupD (sCons (s2 oIx (s1 asQ (sVar 0)) (sC (.int 0))) (sCons (sMap .tuple (s2 catOk (sSlice (s1 asU (s2 oIx (s1 asQ (sVar 0)) (sC (.int 1)))) sNoP (sPart (sVar 3))) (sSlice (s1 asU (s2 oIx (s1 asQ (sVar 0)) (sC (.int 1)))) (sPart (s2 oAdd (sVar 3) (sC (.int 1)))) sNoP))) sNil))) (sCons (sMap .tuple (s2 catOk (sSlice (s1 asU (sVar 4)) sNoP (sPart (sVar 3))) (sSlice (s1 asU (sVar 4)) (sPart (s2 oAdd (sVar 3) (sC (.int 1)))) sNoP))) sNil))))))
def F_lost : List D → Res D := runB 5 b_lost

def b_hours_for : SS :=
  (sSeq (sSetF 5 (s1 (lenOk 100000) sNil))
    (sSeq (sFor (sRng2 (sVar 2) (sC (.int 12))) (stName 6) (sSeq (sSet 7 (sCall F_with_hour 3 (sCons (sVar 1) (sCons (sVar 4) (sCons (sVar 6) sNil)))))
    (sIf (sAnd (s2 oEq (sCall F_alone 3 (sCons (sVar 0) (sCons (sVar 4) (sCons (sVar 6) sNil)))) (sMap .list (s1 (lenOk 100000) sNil))) (sAnd (s2 oLtT (s1 asU (sCall F_worth_of 2 (sCons (sVar 0) (sCons (sVar 7) sNil)))) (s1 asU (sVar 3))) (s2 oEq (sCall F_against 2 (sCons (sVar 0) (sCons (sVar 7) sNil))) (sMap .list (s1 (lenOk 100000) sNil))))) (sApp 5 (sVar 6)) sNext)) [6, 7])
    (sRetV 5)))
def F_hours_for : List D → Res D := runB 8 b_hours_for

def b_together : SS :=
  (sSeq (sDrop (sCall F_need_book 1 (sCons (sVar 0) sNil)))
    (sSeq (sSetF 3 (s1 (lenOk 100000) sNil))
    (sSeq (sFor (sRng1 (sC (.int 12))) (stName 4) (sSeq (sSet 5 (sCall F_with_hour 3 (sCons (sCall F_with_hour 3 (sCons (sMap .tuple (s2 oRepA (s1 asU (s1 tupD (sCons (sC .none) sNil))) (s1 oLen (s1 asQ (s2 oIx (s1 asQ (sVar 0)) (sC (.int 1))))))) (sCons (sVar 1) (sCons (sVar 4) sNil)))) (sCons (sVar 2) (sCons (sVar 4) sNil)))))
    (sIf (s2 oEq (sCall F_against 2 (sCons (sVar 0) (sCons (sVar 5) sNil))) (sMap .list (s1 (lenOk 100000) sNil))) (sApp 3 (sVar 4)) sNext)) [4, 5])
    (sRetV 3))))
def F_together : List D → Res D := runB 6 b_together

def b_law_bad_stretch : SS :=
  (sSeq (sSet 1 (sMap .list (s1 (lenOk 100000) (sCons (s1 tupD (sCons (sC (.int 0)) (sCons (sC (.int 1)) (sCons (s1 tupD (sCons (sC (.int 5)) sNil)) sNil)))) (sCons (s1 tupD (sCons (sC (.int 10)) (sCons (sC (.int 1)) (sCons (s1 tupD (sCons (sC (.int 5)) sNil)) sNil)))) (sCons (s1 tupD (sCons (sC (.int 1)) (sCons (sC (.int 0)) (sCons (s1 tupD (sCons (sC (.int 5)) sNil)) sNil)))) (sCons (s1 tupD (sCons (sC (.int 1)) (sCons (sC (.int 10)) (sCons (s1 tupD (sCons (sC (.int 5)) sNil)) sNil)))) (sCons (s1 tupD (sCons (sC (.int 1)) (sCons (sC (.int 1)) (sCons (s1 tupD sNil) sNil)))) (sCons (s1 tupD (sCons (sC (.int 1)) (sCons (sC (.int 1)) (sCons (sMap .tuple (s2 oRepA (s1 asU (s1 tupD (sCons (sC (.int 5)) sNil))) (sC (.int 25)))) sNil)))) (sCons (s1 tupD (sCons (sC (.int 1)) (sCons (sC (.int 1)) (sCons (s1 tupD (sCons (s1 oNeg (sC (.int 1))) sNil)) sNil)))) sNil))))))))))
    (sSeq (sSet 1 (sMap .list (s2 catOk (s1 asL (sVar 1)) (s1 (lenOk 100000) (sCons (s1 tupD (sCons (sC (.int 1)) (sCons (sC (.int 1)) (sCons (s1 tupD (sCons (sC (.int 100)) sNil)) sNil)))) (sCons (s1 tupD (sCons (sC (.int 1)) (sCons (sC (.int 1)) (sCons (sMap .list (s1 (lenOk 100000) (sCons (sC (.int 5)) sNil))) sNil)))) (sCons (sMap .list (s1 (lenOk 100000) (sCons (sC (.int 1)) (sCons (sC (.int 1)) (sCons (s1 tupD (sCons (sC (.int 5)) sNil)) sNil))))) (sCons (s1 tupD (sCons (sC (.int 1)) (sCons (sC (.int 1)) sNil))) (sCons (s1 tupD (sCons (sC (.bool true)) (sCons (sC (.int 1)) (sCons (s1 tupD (sCons (sC (.int 5)) sNil)) sNil)))) (sCons (s1 tupD (sCons (sC (.int 1)) (sCons (sC .none) (sCons (s1 tupD (sCons (sC (.int 5)) sNil)) sNil)))) (sCons (s1 tupD (sCons (sC (.int 1)) (sCons (sC (.int 1)) (sCons (s1 tupD (sCons (sC (.str "5")) sNil)) sNil)))) sNil)))))))))))
    (sRet (s2 oIx (s1 asQ (sVar 1)) (s2 oMod (sVar 0) (sC (.int 14)))))))
def F_law_bad_stretch : List D → Res D := runB 2 b_law_bad_stretch

def b_law_bad_barge : SS :=
  (sSeq (sSet 2 (sMap .list (s1 (lenOk 100000) (sCons (s1 tupD (sCons (sC (.int 0)) (sCons (sC (.int 0)) (sCons (sC (.int 5)) (sCons (sC (.int 5)) (sCons (sC (.int 9)) sNil)))))) (sCons (s1 tupD (sCons (sC (.int 1)) (sCons (sC (.int 0)) (sCons (sC (.int 5)) (sCons (sC (.int 5)) (sCons (sC (.int 9)) sNil)))))) (sCons (s1 tupD (sCons (sC (.int 0)) (sCons (s2 oAdd (sVar 1) (sC (.int 1))) (sCons (sC (.int 5)) (sCons (sC (.int 5)) (sCons (sC (.int 9)) sNil)))))) (sCons (s1 tupD (sCons (s1 oNeg (sC (.int 1))) (sCons (sC (.int 1)) (sCons (sC (.int 5)) (sCons (sC (.int 5)) (sCons (sC (.int 9)) sNil)))))) (sCons (s1 tupD (sCons (sC (.int 0)) (sCons (sC (.int 1)) (sCons (sC (.int 0)) (sCons (sC (.int 5)) (sCons (sC (.int 9)) sNil)))))) sNil))))))))
    (sSeq (sSet 2 (sMap .list (s2 catOk (s1 asL (sVar 2)) (s1 (lenOk 100000) (sCons (s1 tupD (sCons (sC (.int 0)) (sCons (sC (.int 1)) (sCons (sC (.int 5)) (sCons (s1 oNeg (sC (.int 1))) (sCons (sC (.int 9)) sNil)))))) (sCons (s1 tupD (sCons (sC (.int 0)) (sCons (sC (.int 1)) (sCons (sC (.int 5)) (sCons (sC (.int 100)) (sCons (sC (.int 9)) sNil)))))) (sCons (s1 tupD (sCons (sC (.int 0)) (sCons (sC (.int 1)) (sCons (sC (.int 5)) (sCons (sC (.int 5)) (sCons (s1 oNeg (sC (.int 1))) sNil)))))) (sCons (s1 tupD (sCons (sC (.int 0)) (sCons (sC (.int 1)) (sCons (sC (.int 5)) (sCons (sC (.int 5)) (sCons (sC (.int 200)) sNil)))))) (sCons (s1 tupD (sCons (sC (.int 0)) (sCons (sC (.int 1)) (sCons (sC (.int 5)) (sCons (sC (.int 5)) sNil))))) sNil)))))))))
    (sSeq (sSet 2 (sMap .list (s2 catOk (s1 asL (sVar 2)) (s1 (lenOk 100000) (sCons (sMap .list (s1 (lenOk 100000) (sCons (sC (.int 0)) (sCons (sC (.int 1)) (sCons (sC (.int 5)) (sCons (sC (.int 5)) (sCons (sC (.int 9)) sNil))))))) (sCons (s1 tupD (sCons (sC (.int 0)) (sCons (sC (.int 1)) (sCons (sC (.bool true)) (sCons (sC (.int 5)) (sCons (sC (.int 9)) sNil)))))) (sCons (s1 tupD (sCons (sC (.int 0)) (sCons (sC (.int 1)) (sCons (sC (.int 5)) (sCons (sC (.str "5")) (sCons (sC (.int 9)) sNil)))))) (sCons (sC .none) (sCons (s1 tupD (sCons (sC (.int 0)) (sCons (sC (.int 1)) (sCons (sC (.int 100)) (sCons (sC (.int 5)) (sCons (sC (.int 9)) sNil)))))) sNil)))))))))
    (sRet (s2 oIx (s1 asQ (sVar 2)) (s2 oMod (sVar 0) (sC (.int 15))))))))
def F_law_bad_barge : List D → Res D := runB 3 b_law_bad_barge

def b_law_depth : SS :=
  (sSeq (sSet 3 (s2 oIx (s1 asQ (s2 oIx (s1 asQ (sVar 0)) (sVar 1))) (sC (.int 2))))
    (sRet (s2 oIx (s1 asQ (sVar 3)) (s2 oMod (sVar 2) (s1 oLen (s1 asQ (sVar 3)))))))
def F_law_depth : List D → Res D := runB 4 b_law_depth

def b_law_alone : SS :=
  (sSeq (sSet 3 (s2 oIx (s1 asQ (sVar 0)) (sC (.int 0))))
    (sSeq (sSetT (stTup [6, 7, 8, 9, 10]) (s2 oIx (s1 asQ (s2 oIx (s1 asQ (sVar 0)) (sC (.int 1)))) (sVar 1)))
    (sSeq (sSetF 4 (s1 (lenOk 100000) sNil))
    (sSeq (sIf (s2 oLt (sCall F_law_time 3 (sCons (sVar 3) (sCons (sVar 6) (sCons (sVar 2) sNil)))) (sVar 9)) (sApp 4 (s1 tupD (sCons (sC (.str "early")) (sCons (sVar 1) (sCons (sCall F_law_time 3 (sCons (sVar 3) (sCons (sVar 6) (sCons (sVar 2) sNil)))) sNil))))) sNext)
    (sSeq (sIf (s2 oGt (sCall F_law_time 3 (sCons (sVar 3) (sCons (sVar 7) (sCons (sVar 2) sNil)))) (sVar 10)) (sApp 4 (s1 tupD (sCons (sC (.str "late")) (sCons (sVar 1) (sCons (sCall F_law_time 3 (sCons (sVar 3) (sCons (sVar 7) (sCons (sVar 2) sNil)))) sNil))))) sNext)
    (sSeq (sFor (sRng2 (sVar 6) (sVar 7)) (stName 5) (sSeq (sSet 11 (sCall F_law_time 3 (sCons (sVar 3) (sCons (sVar 5) (sCons (sVar 2) sNil)))))
    (sIf (s2 oLt (sCall F_law_depth 3 (sCons (sVar 3) (sCons (sVar 5) (sCons (sVar 11) sNil)))) (sVar 8)) (sApp 4 (s1 tupD (sCons (sC (.str "shallow")) (sCons (sVar 1) (sCons (sVar 5) (sCons (sVar 11) (sCons (sCall F_law_depth 3 (sCons (sVar 3) (sCons (sVar 5) (sCons (sVar 11) sNil)))) sNil))))))) sNext)) [5, 11])
    (sRetV 4)))))))
def F_law_alone : List D → Res D := runB 12 b_law_alone

def b_law_hours : SS :=
  (sRet (sMap .list (sLc (sRng1 (sC (.int 12))) (stName 1) (s2 oIn (sVar 1) (s1 asQ (sVar 0))) (sVar 1) [1])))
def F_law_hours : List D → Res D := runB 2 b_law_hours

def b_law_full : SS :=
  (sSeq (sSetF 2 (s1 (lenOk 100000) sNil))
    (sSeq (sFor (s1 asL (sCall F_law_hours 1 (sCons (sVar 1) sNil))) (stName 3) (sFor (sRng1 (s1 oLen (s1 asQ (s2 oIx (s1 asQ (sVar 0)) (sC (.int 0)))))) (stName 4) (sSeq (sSet 5 (sMap .list (sLc (sRng1 (s1 oLen (s1 asQ (sVar 1)))) (stName 6) (s2 oEq (s2 oIx (s1 asQ (sVar 1)) (sVar 6)) (sVar 3)) (sVar 6) [6])))
    (sSeq (sSet 5 (sMap .list (sLc (s1 asL (sVar 5)) (stName 6) (sChain oLe oLt (s2 oIx (s1 asQ (s2 oIx (s1 asQ (s2 oIx (s1 asQ (sVar 0)) (sC (.int 1)))) (sVar 6))) (sC (.int 0))) (sVar 4) (s2 oIx (s1 asQ (s2 oIx (s1 asQ (s2 oIx (s1 asQ (sVar 0)) (sC (.int 1)))) (sVar 6))) (sC (.int 1)))) (sVar 6) [6])))
    (sIf (s2 oGt (s1 oLen (s1 asQ (sVar 5))) (s2 oIx (s1 asQ (s2 oIx (s1 asQ (s2 oIx (s1 asQ (sVar 0)) (sC (.int 0)))) (sVar 4))) (sC (.int 1)))) (sApp 2 (s1 tupD (sCons (sC (.str "full")) (sCons (sVar 3) (sCons (sVar 4) (sCons (s1 oLen (s1 asQ (sVar 5))) sNil)))))) sNext))) [4, 5]) [3, 4, 5])
    (sRetV 2)))
def F_law_full : List D → Res D := runB 7 b_law_full

def b_law_crossed : SS :=
  (sSeq (sSetF 2 (s1 (lenOk 100000) sNil))
    (sSeq (sFor (sRng1 (s1 oLen (s1 asQ (sVar 1)))) (stName 3) (sFor (sRng1 (s1 oLen (s1 asQ (sVar 1)))) (stName 4) (sIf (sAnd (s2 oNotN (s2 oIx (s1 asQ (sVar 1)) (sVar 3)) (sC .none)) (s2 oEq (s2 oIx (s1 asQ (sVar 1)) (sVar 3)) (s2 oIx (s1 asQ (sVar 1)) (sVar 4)))) (sSeq (sSet 5 (s1 tupD (sCons (s2 oIx (s1 asQ (s2 oIx (s1 asQ (s2 oIx (s1 asQ (sVar 0)) (sC (.int 1)))) (sVar 3))) (sC (.int 0))) (sCons (s2 oIx (s1 asQ (s2 oIx (s1 asQ (s2 oIx (s1 asQ (sVar 0)) (sC (.int 1)))) (sVar 4))) (sC (.int 0))) (sCons (s2 oIx (s1 asQ (s2 oIx (s1 asQ (s2 oIx (s1 asQ (sVar 0)) (sC (.int 1)))) (sVar 3))) (sC (.int 1))) (sCons (s2 oIx (s1 asQ (s2 oIx (s1 asQ (s2 oIx (s1 asQ (sVar 0)) (sC (.int 1)))) (sVar 4))) (sC (.int 1))) sNil))))))
    (sIf (sChain3 oLt oLt oLt (s2 oIx (s1 asQ (sVar 5)) (sC (.int 0))) (s2 oIx (s1 asQ (sVar 5)) (sC (.int 1))) (s2 oIx (s1 asQ (sVar 5)) (sC (.int 2))) (s2 oIx (s1 asQ (sVar 5)) (sC (.int 3)))) (sApp 2 (s1 tupD (sCons (sC (.str "crossed")) (sCons (sVar 3) (sCons (sVar 4) sNil))))) sNext)) sNext) [4, 5]) [3, 4, 5])
    (sRetV 2)))
def F_law_crossed : List D → Res D := runB 6 b_law_crossed

def b_law_refusals : SS :=
  (sSeq (sSet 2 (sMap .list (s1 (lenOk 100000) sNil)))
    (sSeq (sFor (sRng1 (s1 oLen (s1 asQ (sVar 1)))) (stName 3) (sIf (s2 oNotN (s2 oIx (s1 asQ (sVar 1)) (sVar 3)) (sC .none)) (sSet 2 (sMap .list (s2 catOk (s1 asL (sVar 2)) (s1 asL (sCall F_law_alone 3 (sCons (sVar 0) (sCons (sVar 3) (sCons (s2 oIx (s1 asQ (sVar 1)) (sVar 3)) sNil)))))))) sNext) [3])
    (sRet (sMap .list (s2 catOk (s2 catOk (s1 asL (sVar 2)) (s1 asL (sCall F_law_full 2 (sCons (sVar 0) (sCons (sVar 1) sNil))))) (s1 asL (sCall F_law_crossed 2 (sCons (sVar 0) (sCons (sVar 1) sNil)))))))))
def F_law_refusals : List D → Res D := runB 4 b_law_refusals

def b_law_price : SS :=
  (sSeq (sSet 2 (sC (.int 0)))
    (sSeq (sFor (sRng1 (s1 oLen (s1 asQ (sVar 1)))) (stName 3) (sIf (s2 oNotN (s2 oIx (s1 asQ (sVar 1)) (sVar 3)) (sC .none)) (sSet 2 (s2 oSub (s2 oAdd (sVar 2) (sCall F_law_time 3 (sCons (s2 oIx (s1 asQ (sVar 0)) (sC (.int 0))) (sCons (s2 oIx (s1 asQ (s2 oIx (s1 asQ (s2 oIx (s1 asQ (sVar 0)) (sC (.int 1)))) (sVar 3))) (sC (.int 0))) (sCons (s2 oIx (s1 asQ (sVar 1)) (sVar 3)) sNil))))) (s2 oIx (s1 asQ (s2 oIx (s1 asQ (s2 oIx (s1 asQ (sVar 0)) (sC (.int 1)))) (sVar 3))) (sC (.int 3))))) sNext) [3])
    (sRet (s1 tupD (sCons (s1 oLen (s1 asQ (sCall F_law_hours 1 (sCons (sVar 1) sNil)))) (sCons (sVar 2) sNil))))))
def F_law_price : List D → Res D := runB 4 b_law_price

def b_law_put : SS :=
  (sRet (sMap .tuple (s2 catOk (s2 catOk (sSlice (s1 asU (sVar 0)) sNoP (sPart (sVar 1))) (s1 asU (s1 tupD (sCons (sVar 2) sNil)))) (sSlice (s1 asU (sVar 0)) (sPart (s2 oAdd (sVar 1) (sC (.int 1)))) sNoP))))
def F_law_put : List D → Res D := runB 3 b_law_put

def b_law_good : SS :=
  (sSeq (sSet 4 (sMap .tuple (s2 oRepA (s1 asU (s1 tupD (sCons (sC .none) sNil))) (s1 oLen (s1 asQ (s2 oIx (s1 asQ (sVar 1)) (sC (.int 1))))))))
    (sSeq (sFor (sRng1 (s1 oLen (s1 asQ (sVar 4)))) (stName 5) (sSeq (sSet 6 (sCall F_law_roll 2 (sCons (sVar 0) (sCons (sC (.int 12)) sNil))))
    (sIf (s2 oGe (sCall F_law_roll 2 (sCons (sVar 0) (sCons (sC (.int 9)) sNil))) (sVar 3)) (sFor (sRng1 (sC (.int 12))) (stName 7) (sSeq (sSet 8 (s2 oMod (s2 oAdd (sVar 6) (sVar 7)) (sC (.int 12))))
    (sIf (sAnd (s2 oIsN (s2 oIx (s1 asQ (sVar 4)) (sVar 5)) (sC .none)) (sAnd (s2 oGe (sVar 8) (sVar 2)) (s2 oEq (sCall F_law_refusals 2 (sCons (sVar 1) (sCons (sCall F_law_put 3 (sCons (sVar 4) (sCons (sVar 5) (sCons (sVar 8) sNil)))) sNil))) (sMap .list (s1 (lenOk 100000) sNil))))) (sSet 4 (sCall F_law_put 3 (sCons (sVar 4) (sCons (sVar 5) (sCons (sVar 8) sNil))))) sNext)) [7, 8]) sNext)) [5, 6, 7, 8])
    (sRet (sVar 4))))
def F_law_good : List D → Res D := runB 9 b_law_good

def b_law_drawn : SS :=
  (sSeq (sSetF 3 (s1 (lenOk 100000) sNil))
    (sSeq (sFor (sRng1 (sVar 1)) (stName 4) (sApp 3 (s2 oIx (s1 (lenOk 100000) (sCons (sC .none) (sCons (sCall F_law_roll 2 (sCons (sVar 0) (sCons (sC (.int 12)) sNil))) (sCons (s2 oIx (s1 asQ (sVar 2)) (sC (.int 0))) (sCons (s2 oIx (s1 asQ (sVar 2)) (sC (.int 1))) sNil))))) (sCall F_law_roll 2 (sCons (sVar 0) (sCons (sC (.int 4)) sNil))))) [4])
    (sRet (sMap .tuple (s1 .ok (sVarL 3))))))
def F_law_drawn : List D → Res D := runB 5 b_law_drawn

def b_law_every : SS :=
  (sSeq (sSet 3 (sMap .list (s1 (lenOk 100000) (sCons (sVar 1) sNil))))
    (sSeq (sFor (sRng1 (s1 oLen (s1 asQ (sVar 1)))) (stName 4) (sIf (s2 oIsN (s2 oIx (s1 asQ (sVar 1)) (sVar 4)) (sC .none)) (sSeq (sSetF 5 (s1 (lenOk 100000) sNil))
    (sSeq (sFor (s1 asL (sVar 3)) (stName 6) (sFor (sRng2 (sVar 2) (sC (.int 12))) (stName 7) (sIf (s2 oEq (sCall F_law_refusals 2 (sCons (sVar 0) (sCons (sCall F_law_put 3 (sCons (sVar 6) (sCons (sVar 4) (sCons (sVar 7) sNil)))) sNil))) (sMap .list (s1 (lenOk 100000) sNil))) (sApp 5 (sCall F_law_put 3 (sCons (sVar 6) (sCons (sVar 4) (sCons (sVar 7) sNil))))) sNext) [7]) [6, 7])
    (sMove 3 5))) sNext) [4, 5, 6, 7])
    (sRet (sVar 3))))
def F_law_every : List D → Res D := runB 8 b_law_every

def b_law_due : SS :=
  (sSeq (sIf (s2 oLt (s2 oIx (s1 asQ (sVar 1)) (sVar 3)) (sVar 2)) (sRet (sC (.str "gone"))) sNext)
    (sSeq (sSet 5 (sMap .tuple (s1 .ok (sLc (s1 asU (sVar 1)) (stName 11) sYes (sIte (s2 oLt (sVar 11) (sVar 2)) (sVar 11) (sC .none)) [11]))))
    (sSeq (sIf (s2 oIsN (sVar 4) (sC .none)) (sRet (s1 tupD (sCons (s1 tupD (sCons (s2 oIx (s1 asQ (sVar 0)) (sC (.int 0))) (sCons (s2 oAdd (sMap .tuple (sSlice (s1 asU (s2 oIx (s1 asQ (sVar 0)) (sC (.int 1)))) sNoP (sPart (sVar 3)))) (sMap .tuple (sSlice (s1 asU (s2 oIx (s1 asQ (sVar 0)) (sC (.int 1)))) (sPart (s2 oAdd (sVar 3) (sC (.int 1)))) sNoP))) sNil))) (sCons (sMap .tuple (s2 catOk (sSlice (s1 asU (sVar 5)) sNoP (sPart (sVar 3))) (sSlice (s1 asU (sVar 5)) (sPart (s2 oAdd (sVar 3) (sC (.int 1)))) sNoP))) sNil)))) sNext)
    (sSeq (sIf (sOr (sMap not (s1 (oIsi "int") (sVar 4))) (sOr (s1 (oIsi "bool") (sVar 4)) (sMap not (sChain oLe oLt (sC (.int 0)) (sVar 4) (sC (.int 100)))))) (sRet (sC (.str "book"))) sNext)
    (sSeq (sSetT (stTup [6, 7, 8, 9, 10]) (s2 oIx (s1 asQ (s2 oIx (s1 asQ (sVar 0)) (sC (.int 1)))) (sVar 3)))
    (sRet (s1 tupD (sCons (s1 tupD (sCons (s2 oIx (s1 asQ (sVar 0)) (sC (.int 0))) (sCons (sMap .tuple (s2 catOk (s2 catOk (sSlice (s1 asU (s2 oIx (s1 asQ (sVar 0)) (sC (.int 1)))) sNoP (sPart (sVar 3))) (s1 asU (s1 tupD (sCons (s1 tupD (sCons (sVar 6) (sCons (sVar 7) (sCons (sVar 8) (sCons (sVar 4) (sCons (sVar 10) sNil)))))) sNil)))) (sSlice (s1 asU (s2 oIx (s1 asQ (sVar 0)) (sC (.int 1)))) (sPart (s2 oAdd (sVar 3) (sC (.int 1)))) sNoP))) sNil))) (sCons (sVar 5) sNil)))))))))
def F_law_due : List D → Res D := runB 12 b_law_due

def b_law_plan : SS :=
  (sSeq (sSet 2 (sCall F_law_dice 1 (sCons (sCall F_law_cell_at 2 (sCons (sVar 0) (sCons (sC (.int 3)) sNil))) sNil)))
    (sSeq (sSetF 3 (s1 (lenOk 100000) sNil))
    (sSeq (sFor (sRng1 (sVar 1)) (stName 4) (sApp 3 (s2 oIx (s1 (lenOk 100000) (sCons (sC .none) (sCons (sCall F_law_roll 2 (sCons (sVar 2) (sCons (sC (.int 12)) sNil))) (sCons (s2 oAdd (sCall F_law_roll 2 (sCons (sVar 2) (sCons (sC (.int 3)) sNil))) (sC (.int 9))) sNil)))) (sCall F_law_roll 2 (sCons (sVar 2) (sCons (sC (.int 3)) sNil))))) [4])
    (sRet (sMap .tuple (s1 .ok (sVarL 3)))))))
def F_law_plan : List D → Res D := runB 5 b_law_plan

def b_must_texts : SS :=
  (sIf (sMap not (s1 asB (sVar 0))) (sRaise "BadText") sNext)
def F_must_texts : List D → Res D := runB 1 b_must_texts

def b_law_wider : SS :=
  (sSeq (sSetT (stTup [5, 6]) (sVar 0))
    (sSeq (sSet 2 (s2 oMod (sVar 1) (s1 oLen (s1 asQ (sVar 5)))))
    (sSeq (sSetT (stTup [7, 8, 9]) (s2 oIx (s1 asQ (sVar 5)) (sVar 2)))
    (sSeq (sSet 3 (s2 oMod (s2 oDiv (sVar 1) (sC (.int 9))) (sC (.int 3))))
    (sSeq (sIf (sAnd (s2 oEq (sVar 3) (sC (.int 2))) (s2 oNe (sVar 6) (s1 tupD sNil))) (sSeq (sSet 10 (s2 oMod (s2 oDiv (sVar 1) (sC (.int 27))) (s1 oLen (s1 asQ (sVar 6)))))
    (sSeq (sSetT (stTup [11, 12, 13, 14, 15]) (s2 oIx (s1 asQ (sVar 6)) (sVar 10)))
    (sRet (s1 tupD (sCons (sVar 5) (sCons (sMap .tuple (s2 catOk (s2 catOk (sSlice (s1 asU (sVar 6)) sNoP (sPart (sVar 10))) (s1 asU (s1 tupD (sCons (s1 tupD (sCons (sVar 11) (sCons (sVar 12) (sCons (sVar 13) (sCons (sVar 14) (sCons (s2 oMin2 (sC (.int 199)) (s2 oAdd (s2 oAdd (sVar 15) (sC (.int 1))) (s2 oMod (sVar 1) (sC (.int 5))))) sNil)))))) sNil)))) (sSlice (s1 asU (sVar 6)) (sPart (s2 oAdd (sVar 10) (sC (.int 1)))) sNoP))) sNil)))))) sNext)
    (sSeq (sSet 4 (s2 oIx (s1 (lenOk 100000) (sCons (s1 tupD (sCons (sVar 7) (sCons (sC (.int 9)) (sCons (sVar 9) sNil)))) (sCons (s1 tupD (sCons (sVar 7) (sCons (sVar 8) (sCons (sMap .tuple (s1 .ok (sLc (s1 asU (sVar 9)) (stName 16) sYes (s2 oMin2 (sC (.int 99)) (s2 oAdd (sVar 16) (sC (.int 3)))) [16]))) sNil)))) sNil))) (s2 oMod (sVar 3) (sC (.int 2)))))
    (sRet (s1 tupD (sCons (sMap .tuple (s2 catOk (s2 catOk (sSlice (s1 asU (sVar 5)) sNoP (sPart (sVar 2))) (s1 asU (s1 tupD (sCons (sVar 4) sNil)))) (sSlice (s1 asU (sVar 5)) (sPart (s2 oAdd (sVar 2) (sC (.int 1)))) sNoP))) (sCons (sVar 6) sNil))))))))))
def F_law_wider : List D → Res D := runB 17 b_law_wider

end TB


/-! TBM1: books as such, and what the semantic functions say of them. -/
namespace TB
open PySem PySem.Spec L2
open PyProof.Rows hiding St
structure Sg where
  sp : Int
  rm : Int
  ds : List Int
structure Bg where
  b : Int
  g : Int
  dr : Int
  rd : Int
  du : Int
structure Boo where
  riv : List Sg
  bgs : List Bg
def Sg.enc (s : Sg) : D := .tuple [.int s.sp, .int s.rm, .tuple (s.ds.map .int)]
def Bg.enc (b : Bg) : D := .tuple [.int b.b, .int b.g, .int b.dr, .int b.rd, .int b.du]
def encR (r : List Sg) : D := .tuple (r.map Sg.enc)
def encB (r : List Bg) : D := .tuple (r.map Bg.enc)
def Boo.enc (k : Boo) : D := .tuple [encR k.riv, encB k.bgs]
structure Sg.Ok (s : Sg) : Prop where
  s1 : 1 ≤ s.sp
  s2 : s.sp ≤ 9
  r1 : 1 ≤ s.rm
  r2 : s.rm ≤ 9
  l1 : 1 ≤ s.ds.length
  l2 : s.ds.length ≤ 24
  d : ∀ x ∈ s.ds, 0 ≤ x ∧ x ≤ 99
structure Bg.Ok (n : Nat) (b : Bg) : Prop where
  b0 : 0 ≤ b.b
  bg : b.b < b.g
  gn : b.g ≤ n
  d1 : 1 ≤ b.dr
  d2 : b.dr ≤ 99
  r1 : 0 ≤ b.rd
  r2 : b.rd ≤ 99
  u1 : 0 ≤ b.du
  u2 : b.du ≤ 199
structure Boo.Ok (k : Boo) : Prop where
  l1 : 1 ≤ k.riv.length
  l2 : k.riv.length ≤ 8
  s : ∀ x ∈ k.riv, x.Ok
  n : k.bgs.length ≤ 7
  b : ∀ x ∈ k.bgs, x.Ok k.riv.length
/-! ### loops -/
theorem forL_const {α : Type} (st : SetS) (b : SS) (kill : List Nat) (enc : α → D) (E : Env) : ∀ xs : List α, (∀ x ∈ xs, ∃ e e', st (enc x) E = some e ∧ b e = .ok (.nx e') ∧ killE e' kill = E) → forL st b kill (xs.map enc) E = .ok (.nx E)
  | [], _ => rfl
  | x :: xs, h => by
    obtain ⟨e, e', h1, h2, h3⟩ := h x List.mem_cons_self
    show (match st (enc x) E with
      | none => Res.no
      | some e => (b e).bind _) = _
    rw [h1]
    show (b e).bind _ = _
    rw [h2]
    show forL st b kill (xs.map enc) (killE e' kill) = _
    rw [h3]
    exact forL_const st b kill enc E xs fun y hy => h y (List.mem_cons_of_mem _ hy)
theorem forL_fold {α S : Type} (st : SetS) (b : SS) (kill : List Nat) (enc : α → D) (E : S → Env) (f : S → α → S) : ∀ (xs : List α) (s : S), (∀ x ∈ xs, ∀ s, ∃ e e', st (enc x) (E s) = some e ∧ b e = .ok (.nx e') ∧ killE e' kill = E (f s x)) → forL st b kill (xs.map enc) (E s) = .ok (.nx (E (xs.foldl f s)))
  | [], _, _ => rfl
  | x :: xs, s, h => by
    obtain ⟨e, e', h1, h2, h3⟩ := h x List.mem_cons_self s
    show (match st (enc x) (E s) with
      | none => Res.no
      | some e => (b e).bind _) = _
    rw [h1]
    show (b e).bind _ = _
    rw [h2]
    show forL st b kill (xs.map enc) (killE e' kill) = _
    rw [h3]
    exact forL_fold st b kill enc E f xs _ fun y hy => h y (List.mem_cons_of_mem _ hy)
theorem lcGo_eq {α : Type} (st : SetS) (t : ST) (e : SE) (env : Env) (enc : α → D) (p : α → Bool) (g : α → D) : ∀ xs : List α, (∀ x ∈ xs, ∃ env1, st (enc x) env = some env1 ∧ t env1 = .ok (p x) ∧ (p x = true → e env1 = .ok (g x))) → lcGo st t e env (xs.map enc) = some ((xs.filter p).map g)
  | [], _ => rfl
  | x :: xs, h => by
    obtain ⟨e1, h1, h2, h3⟩ := h x List.mem_cons_self
    have ih := lcGo_eq st t e env enc p g xs fun y hy => h y (List.mem_cons_of_mem _ hy)
    show (st (enc x) env).bind _ = _
    rw [h1]
    show (t e1).toO.bind _ = _
    rw [h2]
    show (if p x = true then (e e1).toO.bind fun y => (lcGo st t e env (xs.map enc)).map (y :: ·) else lcGo st t e env (xs.map enc)) = _
    rw [ih]
    by_cases hp : p x = true
    · rw [if_pos hp, h3 hp, List.filter_cons_of_pos hp]
      rfl
    · rw [if_neg hp, List.filter_cons_of_neg hp]
theorem lcGo_all {α : Type} (st : SetS) (e : SE) (env : Env) (enc : α → D) (g : α → D) (xs : List α) (h : ∀ x ∈ xs, ∃ env1, st (enc x) env = some env1 ∧ e env1 = .ok (g x)) : lcGo st sYes e env (xs.map enc) = some (xs.map g) := by
  rw [lcGo_eq st sYes e env enc (fun _ => true) g xs fun x hx => ?_]
  · rw [List.filter_eq_self.mpr fun _ _ => rfl]
  · obtain ⟨e1, h1, h2⟩ := h x hx
    exact ⟨e1, h1, rfl, fun _ => h2⟩
/-! ### indexing -/
theorem atI_cast (ds : List D) (i : Nat) : atI ds (i : Int) = ds[i]? := by
  unfold atI ixN
  by_cases h : i < ds.length
  · have h1 : ((i : Int) < 0) = False := by simp
    simp [h]
  · have : ds[i]? = none := by simp at h ⊢; exact h
    rw [this]
    simp
    omega
@[simp] theorem atI_0 (a : D) (l : List D) : atI (a :: l) 0 = some a := atI_cast (a :: l) 0
@[simp] theorem atI_1 (a b : D) (l : List D) : atI (a :: b :: l) 1 = some b := atI_cast (a :: b :: l) 1
@[simp] theorem atI_2 (a b c : D) (l : List D) : atI (a :: b :: c :: l) 2 = some c := atI_cast (a :: b :: c :: l) 2
@[simp] theorem atI_3 (a b c d : D) (l : List D) : atI (a :: b :: c :: d :: l) 3 = some d := atI_cast (a :: b :: c :: d :: l) 3
@[simp] theorem atI_4 (a b c d e : D) (l : List D) : atI (a :: b :: c :: d :: e :: l) 4 = some e := atI_cast (a :: b :: c :: d :: e :: l) 4
theorem atI_map {α : Type} (enc : α → D) (xs : List α) (i : Nat) (x : α) (h : xs[i]? = some x) : atI (xs.map enc) (i : Int) = some (enc x) := by
  rw [atI_cast, List.getElem?_map, h]
  rfl
theorem cutD_to {α : Type} (enc : α → D) (xs : List α) (p : Nat) : cutD (xs.map enc) none (some (p : Int)) = (xs.take p).map enc := by
  unfold cutD HT.sIx
  have h1 : ((p : Int) < 0) = False := by simp
  simp only [h1, if_false, Int.toNat_natCast, List.drop_zero, Nat.sub_zero, List.length_map]
  rw [← List.map_take]
  congr 1
  rw [Nat.min_def]
  split
  · rfl
  · rw [List.take_of_length_le (Nat.le_refl _), List.take_of_length_le (by omega)]
theorem cutD_from {α : Type} (enc : α → D) (xs : List α) (p : Nat) : cutD (xs.map enc) (some (p : Int)) none = (xs.drop p).map enc := by
  unfold cutD HT.sIx
  have h1 : ((p : Int) < 0) = False := by simp
  simp only [h1, if_false, Int.toNat_natCast, List.length_map]
  rw [← List.map_drop, ← List.map_take]
  congr 1
  rw [List.take_of_length_le (by rw [List.length_drop]; exact Nat.le_refl _), Nat.min_def]
  split
  · rfl
  · rw [List.drop_of_length_le (Nat.le_refl _), List.drop_of_length_le (by omega)]
theorem intsOf_map : ∀ xs : List Int, intsOf (xs.map PyData.int) = some xs
  | [] => rfl
  | x :: xs => by
    show (intsOf (xs.map PyData.int)).map (x :: ·) = _
    rw [intsOf_map xs]
    rfl
theorem intsOf_map' {α : Type} (f : α → Int) (xs : List α) : intsOf (xs.map fun x => PyData.int (f x)) = some (xs.map f) := by
  rw [← intsOf_map, List.map_map]
  rfl
theorem oSum_map {α : Type} (f : α → Int) (xs : List α) : oSum (xs.map fun x => PyData.int (f x)) = .ok (.int (xs.map f).sum) := by
  unfold oSum
  rw [intsOf_map']
/-- when a tow comes to a place -/
def tmR (r : List Sg) (p : Nat) (h : Int) : Int := h + ((r.take p).map Sg.sp).sum
theorem F_passes_eq (k : Boo) (hl : k.riv.length ≤ 8) (p : Nat) (h : Int) : F_passes [k.enc, .int p, .int h] = .ok (.int (tmR k.riv p h)) := by
  have hz : (k.riv.take p).length ≤ 16000000 := by rw [List.length_take]; omega
  simp only [F_passes, b_passes, runB, startE, Boo.enc, encR, s2_e, sRet_e, s1_e, sLc_e, sSlice_e, sNoP_e, sPart_e, sVar_e, Res.bind_ok]
  simp [cutD_to, -List.map_take, hz, -List.length_take]
  rw [lcGo_all (enc := Sg.enc) (g := fun s => .int s.sp)]
  · simp [oSum_map, tmR, -List.map_take]
  · intro x hx
    simp [Sg.enc]
/-- how deep a stretch is at a time -/
def Sg.dep (s : Sg) (t : Int) : Int := s.ds[(t % (s.ds.length : Int)).toNat]?.getD 0
theorem Sg.dep_at {s : Sg} (h : 1 ≤ s.ds.length) (t : Int) : atI (s.ds.map PyData.int) (t % (s.ds.length : Int)) = some (.int (s.dep t)) := by
  have h1 : 0 ≤ t % (s.ds.length : Int) := Int.emod_nonneg _ (by omega)
  have h2 : t % (s.ds.length : Int) < s.ds.length := Int.emod_lt_of_pos _ (by omega)
  obtain ⟨i, hi⟩ := Int.eq_ofNat_of_zero_le h1
  unfold Sg.dep
  rw [hi]
  have : i < s.ds.length := by omega
  rw [atI_map PyData.int s.ds i s.ds[i] (List.getElem?_eq_getElem this), Int.toNat_natCast, List.getElem?_eq_getElem this]
  rfl
theorem F_depth_then_eq (k : Boo) (i : Nat) (s : Sg) (t : Int) (hs : k.riv[i]? = some s) (ok : s.Ok) : F_depth_then [k.enc, .int i, .int t] = .ok (.int (s.dep t)) := by
  have h1 := ok.l1
  have hm : 0 < s.ds.length := by omega
  have hd : divOk t s.ds.length = true := by
    have := ok.l2
    simp [divOk]
    omega
  simp [F_depth_then, b_depth_then, runB, startE, Boo.enc, encR, atI_map Sg.enc k.riv i s hs, Sg.enc, hm, hd, Sg.dep_at h1]
theorem F_must_t : F_must_books [.bool true] = .ok .none := by
  simp [F_must_books, b_must_books, runB, startE]
theorem F_is_number_t {i lo hi : Int} (h1 : lo ≤ i) (h2 : i ≤ hi) : F_is_number [.int i, .int lo, .int hi] = .ok (.bool true) := by
  simp [F_is_number, b_is_number, runB, startE, h1, h2]
theorem F_need_tuple_t {ds : List D} {lo hi : Int} (h1 : lo ≤ ds.length) (h2 : (ds.length : Int) ≤ hi) : F_need_tuple [.tuple ds, .int lo, .int hi] = .ok .none := by
  simp [F_need_tuple, b_need_tuple, runB, startE, h1, h2, F_must_t]
theorem F_need_stretch_t {s : Sg} (ok : s.Ok) : F_need_stretch [s.enc] = .ok .none := by
  have h1 : (1 : Int) ≤ s.ds.length := by have := ok.l1; omega
  have h2 : (s.ds.length : Int) ≤ 24 := by have := ok.l2; omega
  simp [F_need_stretch, b_need_stretch, runB, startE, Sg.enc, F_is_number_t ok.s1 ok.s2, F_is_number_t ok.r1 ok.r2, F_must_t, F_need_tuple_t, h1, h2]
  rw [forL_const (enc := PyData.int)]
  · simp
  · intro x hx
    simp [F_is_number_t (ok.d x hx).1 (ok.d x hx).2, F_must_t]
theorem F_need_barge_t {n : Nat} {b : Bg} (ok : b.Ok n) : F_need_barge [b.enc, .int n] = .ok .none := by
  have h1 := ok.bg
  have h2 := ok.gn
  have h3 := ok.b0
  simp [F_need_barge, b_need_barge, runB, startE, Bg.enc, F_is_number_t ok.d1 ok.d2, F_is_number_t ok.r1 ok.r2, F_is_number_t ok.u1 ok.u2, F_must_t, F_is_number_t h3 (show b.b ≤ n by omega), F_is_number_t (show 0 ≤ b.g by omega) h2, h1, F_need_tuple_t]
theorem F_need_book_t {k : Boo} (ok : k.Ok) : F_need_book [k.enc] = .ok .none := by
  have h1 : (1 : Int) ≤ k.riv.length := by have := ok.l1; omega
  have h2 : (k.riv.length : Int) ≤ 8 := by have := ok.l2; omega
  have h3 : (k.bgs.length : Int) ≤ 7 := by have := ok.n; omega
  simp [F_need_book, b_need_book, runB, startE, Boo.enc, encR, encB, F_need_tuple_t, h1, h2]
  rw [forL_const (enc := Sg.enc)]
  · simp [F_need_tuple_t, h3]
    rw [forL_const (enc := Bg.enc)]
    · simp
    · intro x hx
      simp [F_need_barge_t (ok.b x hx)]
  · intro x hx
    simp [F_need_stretch_t (ok.s x hx)]
theorem F_time_at_eq {k : Boo} (ok : k.Ok) (p : Nat) (h : Int) : F_time_at [k.enc, .int p, .int h] = .ok (.int (tmR k.riv p h)) := by
  simp [F_time_at, b_time_at, runB, startE, F_need_book_t ok, F_passes_eq k ok.l2]
theorem F_depth_at_eq {k : Boo} (ok : k.Ok) (i : Nat) (s : Sg) (t : Int) (hs : k.riv[i]? = some s) : F_depth_at [k.enc, .int i, .int t] = .ok (.int (s.dep t)) := by
  simp [F_depth_at, b_depth_at, runB, startE, F_need_book_t ok, F_depth_then_eq k i s t hs (ok.s s (List.mem_of_getElem? hs))]
end TB

/-! TBM2: what the laws draw. -/
namespace TB
open PySem PySem.Spec L2
open PyProof.Rows hiding St
@[simp] theorem bind_any {α β : Type} (P : Int → Prop) (f : Int → Res α) (k : α → Res β) : (Res.any P f).bind k = .any P fun i => (f i).bind k := rfl
@[simp] theorem map_any {α β : Type} (P : Int → Prop) (f : Int → Res α) (k : α → β) : (Res.any P f).map k = .any P fun i => (f i).map k := rfl
@[simp] theorem all_any {α : Type} (P : Int → Prop) (f : Int → Res α) (p : α → Prop) : (Res.any P f).all p ↔ ∀ i, P i → (f i).all p := Iff.rfl
@[simp] theorem all_ok {α : Type} (a : α) (p : α → Prop) : (Res.ok a).all p ↔ p a := Iff.rfl
theorem map_def {α β : Type} (f : α → β) (r : Res α) : r.map f = r.bind fun a => .ok (f a) := rfl
theorem all_imp {α β : Type} {p : β → Prop} {q : α → Prop} {r : Res α} {k : α → Res β} (h : r.all q) (h2 : ∀ a, q a → (k a).all p) : (r.bind k).all p := (Res.all_bind p k r).mpr (Res.all_mono h2 r h)
theorem roll_eq {m : Int} (h1 : 0 < m) (h2 : m < 2 ^ 60) : F_law_roll [.dict [], .int m] = .any (fun r => 0 ≤ r ∧ r < m) fun r => .ok (.int r) := if_pos (rollOk_of h1 h2)
theorem forL_inv {α S : Type} (st : SetS) (b : SS) (kill : List Nat) (enc : α → D) (E : S → Env) (J : Nat → S → Prop) (N : Nat) : ∀ (xs : List α) (n : Nat) (s : S), n + xs.length = N → J n s → (∀ x ∈ xs, ∀ n s, n < N → J n s → ∃ e, st (enc x) (E s) = some e ∧ (b e).all fun o => ∃ e' s', o = .nx e' ∧ killE e' kill = E s' ∧ J (n + 1) s') → (forL st b kill (xs.map enc) (E s)).all fun o => ∃ s', o = .nx (E s') ∧ J N s'
  | [], n, s, hN, j, _ => ⟨s, rfl, hN ▸ j⟩
  | x :: xs, n, s, hN, j, h => by
    rw [List.length_cons] at hN
    obtain ⟨e, h1, h2⟩ := h x List.mem_cons_self n s (by omega) j
    show (match st (enc x) (E s) with
      | none => Res.no
      | some e => (b e).bind _).all _
    rw [h1]
    show ((b e).bind _).all _
    refine all_imp h2 fun o ⟨e', s', ho, hk, hj⟩ => ?_
    subst ho
    show (forL st b kill (xs.map enc) (killE e' kill)).all _
    rw [hk]
    exact forL_inv st b kill enc E J N xs (n + 1) s' (by omega) hj fun y hy => h y (List.mem_cons_of_mem _ hy)
theorem rng_0 (n : Nat) : rng 0 n = (List.range n).map fun i : Nat => PyData.int i := by simp [rng]
/-- a number of the script -/
def cel (ns : List Int) (k : Nat) : Int := ns[k]?.getD 0
theorem F_law_cell_at_eq (ns : List Int) (k : Nat) : F_law_cell_at [scrD ns, .int k] = .ok (.int (cel ns k)) := by
  simp [F_law_cell_at, b_law_cell_at, runB, startE]
  by_cases h : k < ns.length
  · rw [if_pos (by exact_mod_cast h)]
    simp [atI_map PyData.int ns k ns[k] (List.getElem?_eq_getElem h), cel, h]
  · rw [if_neg (by exact_mod_cast h)]
    simp [cel, h]
theorem F_law_cell_at_int (ns : List Int) {k : Int} (h : 0 ≤ k) : F_law_cell_at [scrD ns, .int k] = .ok (.int (cel ns k.toNat)) := by
  have := F_law_cell_at_eq ns k.toNat
  rwa [Int.toNat_of_nonneg h] at this
theorem F_law_whole_t (i : Int) : F_law_whole [.int i] = .ok (.bool true) := by
  simp [F_law_whole, b_law_whole, runB, startE]
theorem F_law_time_eq (r : List Sg) (hl : r.length ≤ 8) (p : Nat) (h : Int) : F_law_time [encR r, .int p, .int h] = .ok (.int (tmR r p h)) := by
  have hz : (r.take p).length ≤ 16000000 := by rw [List.length_take]; omega
  simp only [F_law_time, b_law_time, runB, startE, encR, s2_e, sRet_e, s1_e, sLc_e, sSlice_e, sNoP_e, sPart_e, sVar_e, Res.bind_ok]
  simp [cutD_to, -List.map_take, hz, -List.length_take]
  rw [lcGo_all (enc := Sg.enc) (g := fun s => .int s.sp)]
  · simp [oSum_map, tmR, -List.map_take]
  · intro x hx
    simp [Sg.enc]
theorem F_law_river_all (m : Nat) (hm : m ≤ 8) : (F_law_river [.dict [], .int m]).all fun d => ∃ r : List Sg, d = encR r ∧ r.length = m ∧ ∀ x ∈ r, x.Ok := by
  have hR : inR m = true := inR_nat (by omega)
  simp [F_law_river, b_law_river, runB, startE, lenOk_t, hR, rng_0, Res.bind_assoc]
  refine all_imp (forL_inv (enc := fun i : Nat => PyData.int i) (xs := List.range m) (E := fun r : List Sg => [.fr (.dict []), .fr (.int m), .ow (r.map Sg.enc), .un, .un, .un, .un]) (J := fun n r => r.length = n ∧ ∀ x ∈ r, x.Ok) _ _ _ m 0 [] (by simp) ⟨rfl, by simp⟩ fun x hx n r hn ⟨hl, ho⟩ => ?_) ?_
  · simp [roll_eq, Res.bind_assoc, oEq_i, lenOk_t]
    intro a a1 a2
    generalize hj : (if a = 0 then (1 : Int) else 0) = j
    have hj : j = 0 ∨ j = 1 := by
      subst hj
      split
      · exact .inr rfl
      · exact .inl rfl
    intro i i1 i2
    obtain ⟨N, hN, n1, n2⟩ : ∃ N : Nat, atI [PyData.int (1 + i), PyData.int 24] j = some (.int (N : Int)) ∧ 1 ≤ N ∧ N ≤ 24 := by
      rcases hj with rfl | rfl
      · exact ⟨(1 + i).toNat, by rw [Int.toNat_of_nonneg (by omega)]; simp, by omega, by omega⟩
      · exact ⟨24, by simp, by omega, by omega⟩
    obtain ⟨M, hM, m1, m2⟩ : ∃ M : Int, atI [PyData.int 3, PyData.int 9] j = some (.int M) ∧ 1 ≤ M ∧ M ≤ 9 := by
      rcases hj with rfl | rfl
      · exact ⟨3, by simp, by omega, by omega⟩
      · exact ⟨9, by simp, by omega, by omega⟩
    simp [hN, inR_nat (show N ≤ 1000000 by omega), rng_0]
    refine all_imp (forL_inv (enc := fun i : Nat => PyData.int i) (xs := List.range N) (E := fun ds : List Int => [.fr (.dict []), .fr (.int m), .ow (r.map Sg.enc), .fr (.int x), .fr (.int j), .ow (ds.map .int), .un]) (J := fun n ds => ds.length = n ∧ ∀ x ∈ ds, 0 ≤ x ∧ x ≤ 99) _ _ _ N 0 [] (by simp) ⟨rfl, by simp⟩ fun y hy n ds hn ⟨hdl, hdo⟩ => ?_) ?_
    · have hz : ds.length ≤ 16000000 := by omega
      simp [roll_eq, Res.bind_assoc, oEq_i, lenOk_t, hz]
      intro b b1 b2 c c1 c2
      by_cases hc : c = 0
      · simp [hc, hz]
        exact ⟨ds ++ [0], by simp, by simp [hdl], fun x hx => by
          rcases List.mem_append.mp hx with hx | hx
          · exact hdo x hx
          · simp at hx
            omega⟩
      · simp [hc, hz]
        refine ⟨ds ++ [5 + b], by simp, by simp [hdl], fun x hx => ?_⟩
        rcases List.mem_append.mp hx with hx | hx
        · exact hdo x hx
        · simp at hx
          omega
    · rintro o ⟨ds, rfl, hdl, hdo⟩
      have hz : r.length ≤ 16000000 := by omega
      simp [roll_eq m1 (show M < 2 ^ 60 by omega), Res.bind_assoc, lenOk_t, hM, tupD, hz]
      intro p p1 p2 q q1 q2
      refine ⟨r ++ [⟨1 + p, 1 + q, ds⟩], by simp [Sg.enc], by simp [hl], fun x hx => ?_⟩
      rcases List.mem_append.mp hx with hx | hx
      · exact ho x hx
      · simp at hx
        subst hx
        constructor <;> simp <;> first | omega | exact hdo
  · rintro o ⟨r, rfl, h⟩
    simp
    exact ⟨r, rfl, h⟩
theorem F_law_time_int (r : List Sg) (hl : r.length ≤ 8) {p : Int} (hp : 0 ≤ p) (h : Int) : F_law_time [encR r, .int p, .int h] = .ok (.int (tmR r p.toNat h)) := by
  have := F_law_time_eq r hl p.toNat h
  rwa [Int.toNat_of_nonneg hp] at this
theorem sum_sp : ∀ (r : List Sg), (∀ x ∈ r, x.Ok) → 0 ≤ (r.map Sg.sp).sum ∧ (r.map Sg.sp).sum ≤ 9 * r.length
  | [], _ => by simp
  | x :: r, h => by
    have h1 := sum_sp r fun y hy => h y (List.mem_cons_of_mem _ hy)
    have h2 := h x List.mem_cons_self
    have := h2.s1
    have := h2.s2
    simp only [List.map_cons, List.sum_cons, List.length_cons]
    omega
theorem tmR_le {r : List Sg} (hl : r.length ≤ 8) (ho : ∀ x ∈ r, x.Ok) (p : Nat) (h : Int) : h ≤ tmR r p h ∧ tmR r p h ≤ h + 72 := by
  have h1 := sum_sp (r.take p) fun y hy => ho y (List.mem_of_mem_take hy)
  have h2 : (r.take p).length ≤ 8 := by rw [List.length_take]; omega
  unfold tmR
  omega
theorem atI_two {a b : D} {j : Int} (hj : j = 0 ∨ j = 1) : atI [a, b] j = some (if j = 0 then a else b) := by
  rcases hj with rfl | rfl <;> simp
@[simp] theorem asQ_R (r : List Sg) : asQ (encR r) = .ok (r.map Sg.enc) := rfl
@[simp] theorem asU_R (r : List Sg) : asU (encR r) = .ok (r.map Sg.enc) := rfl
@[simp] theorem asQ_B (r : List Bg) : asQ (encB r) = .ok (r.map Bg.enc) := rfl
@[simp] theorem asU_B (r : List Bg) : asU (encB r) = .ok (r.map Bg.enc) := rfl
theorem F_law_barges_all (r : List Sg) (hl : r.length ≤ 8) (h1 : 1 ≤ r.length) (ho : ∀ x ∈ r, x.Ok) (m : Nat) (hm : m ≤ 7) : (F_law_barges [.dict [], encR r, .int m]).all fun d => ∃ bs : List Bg, d = encB bs ∧ bs.length = m ∧ ∀ x ∈ bs, x.Ok r.length := by
  have hR : inR m = true := inR_nat (by omega)
  simp [F_law_barges, b_law_barges, runB, startE, lenOk_t, hR, rng_0, Res.bind_assoc]
  generalize hj : (if (4 : Int) < (m : Int) then (1 : Int) else 0) = j
  have hj : j = 0 ∨ j = 1 := by
    subst hj
    split
    · exact .inr rfl
    · exact .inl rfl
  obtain ⟨K, hK, k1, k2⟩ : ∃ K : Int, atI [PyData.int 6, PyData.int 3] j = some (.int K) ∧ 1 ≤ K ∧ K ≤ 6 := by
    rcases hj with rfl | rfl
    · exact ⟨6, by simp, by omega, by omega⟩
    · exact ⟨3, by simp, by omega, by omega⟩
  simp [hK]
  refine all_imp (forL_inv (enc := fun i : Nat => PyData.int i) (xs := List.range m) (E := fun bs : List Bg => [.fr (.dict []), .fr (encR r), .fr (.int m), .ow (bs.map Bg.enc), .fr (.int K), .un, .un, .un, .un, .un, .un, .un, .un]) (J := fun n bs => bs.length = n ∧ ∀ x ∈ bs, x.Ok r.length) _ _ _ m 0 [] (by simp) ⟨rfl, by simp⟩ fun y hy n bs hn ⟨hbl, hbo⟩ => ?_) ?_
  · simp [roll_eq (show (0 : Int) < r.length by omega) (show (r.length : Int) < 2 ^ 60 by omega), Res.bind_assoc, asQ_R]
    intro b b1 b2
    obtain ⟨b, rfl⟩ := Int.eq_ofNat_of_zero_le b1
    simp [roll_eq (show (0 : Int) < r.length - b by omega) (show (r.length - b : Int) < 2 ^ 60 by omega), Res.bind_assoc]
    intro g g1 g2
    simp [roll_eq, Res.bind_assoc]
    intro h h1 h2
    have t1 := tmR_le hl ho b h
    have t2 := tmR_le hl ho (b + 1 + g).toNat h
    simp [F_law_time_eq r hl, F_law_time_int r hl (show 0 ≤ b + 1 + g by omega), roll_eq k1 (show K < 2 ^ 60 by omega), roll_eq, Res.bind_assoc, lenOk_t]
    generalize tmR r b h = T at *
    generalize tmR r (b + 1 + g).toNat h = T2 at *
    intro p p1 p2 q q1 q2 c c1 c2 d d1 d2 e e1 e2
    simp [oEq_i]
    generalize hR : (if p < T then T - p else 0) = R
    have hRb : 0 ≤ R ∧ R ≤ 99 := by
      subst hR
      split <;> omega
    generalize hu : T2 + q = u
    have hub : 0 ≤ u ∧ u ≤ 199 := by omega
    generalize hw : (if e = 0 then (1 : Int) else 0) = w
    obtain ⟨W, hW, w1, w2⟩ : ∃ W : Int, atI [PyData.int (1 + c), PyData.int (5 + d)] w = some (.int W) ∧ 1 ≤ W ∧ W ≤ 12 := by
      subst hw
      split
      · exact ⟨5 + d, by simp, by omega, by omega⟩
      · exact ⟨1 + c, by simp, by omega, by omega⟩
    have hz : bs.length ≤ 16000000 := by omega
    have fin : ∀ W R u : Int, 1 ≤ W → W ≤ 99 → 0 ≤ R → R ≤ 99 → 0 ≤ u → u ≤ 199 → ∃ x : List Bg, bs.map Bg.enc ++ [PyData.tuple [.int b, .int (b + 1 + g), .int W, .int R, .int u]] = x.map Bg.enc ∧ x.length = n + 1 ∧ ∀ y ∈ x, Bg.Ok r.length y := fun W R u a1 a2 a3 a4 a5 a6 => by
      refine ⟨bs ++ [⟨b, b + 1 + g, W, R, u⟩], by simp [Bg.enc], by simp [hbl], fun x hx => ?_⟩
      rcases List.mem_append.mp hx with hx | hx
      · exact hbo x hx
      · simp at hx
        subst hx
        constructor <;> simp <;> omega
    simp [hW, tupD, lenOk_t]
    intro i i1 i2
    by_cases hi : i < 3
    · have : i = 0 ∨ i = 1 ∨ i = 2 := by omega
      rcases this with rfl | rfl | rfl
      · simp [hz]
        exact fin 99 R u (by omega) (by omega) hRb.1 hRb.2 hub.1 hub.2
      · simp [hz]
        exact fin W 99 199 (by omega) (by omega) (by omega) (by omega) (by omega) (by omega)
      · simp [hz]
        exact fin W R 0 (by omega) (by omega) hRb.1 hRb.2 (by omega) (by omega)
    · simp [hi, hz]
      exact fin W R u (by omega) (by omega) hRb.1 hRb.2 hub.1 hub.2
  · rintro o ⟨r, rfl, h⟩
    simp
    exact ⟨r, rfl, h⟩
theorem divOk_4 (x : Int) : divOk x 4 = true := by simp [divOk]

theorem F_law_book_all (ns : List Int) (most : Nat) (hm : most ≤ 7) : (F_law_book [scrD ns, .int most]).all fun d => ∃ k : Boo, d = k.enc ∧ k.Ok ∧ k.bgs.length ≤ most := by
  have c0 := F_law_cell_at_eq ns 0
  have c1 := F_law_cell_at_eq ns 1
  have c2 := F_law_cell_at_eq ns 2
  simp only [Int.cast_ofNat_Int] at c0 c1 c2
  generalize hw : (if cel ns 1 / 4 % 6 = 1 then (1 : Int) else 0) = w
  obtain ⟨N, hN, n1, n2⟩ : ∃ N : Nat, atI [PyData.int (1 + cel ns 1 % 4), PyData.int (5 + cel ns 1 % 4)] w = some (.int (N : Int)) ∧ 1 ≤ N ∧ N ≤ 8 := by
    subst hw
    split
    · exact ⟨(5 + cel ns 1 % 4).toNat, by rw [Int.toNat_of_nonneg (by omega)]; simp, by omega, by omega⟩
    · exact ⟨(1 + cel ns 1 % 4).toNat, by rw [Int.toNat_of_nonneg (by omega)]; simp, by omega, by omega⟩
  obtain ⟨M, hM, m2⟩ : ∃ M : Nat, cel ns 2 % (most + 1) = (M : Int) ∧ M ≤ most := by
    have h1 : 0 ≤ cel ns 2 % ((most : Int) + 1) := Int.emod_nonneg _ (by omega)
    have h2 : cel ns 2 % ((most : Int) + 1) < most + 1 := Int.emod_lt_of_pos _ (by omega)
    exact ⟨_, (Int.toNat_of_nonneg h1).symm, by omega⟩
  simp [F_law_book, b_law_book, runB, startE, lenOk_t, Res.bind_assoc, oEq_i, c0, c1, c2, F_law_dice, divOk_4, hw, hN, show (0 : Int) < most + 1 by omega, hM]
  refine all_imp (F_law_river_all N n2) ?_
  rintro d ⟨r, rfl, rl, ro⟩
  simp [Res.bind_assoc, tupD, map_def]
  refine all_imp (F_law_barges_all r (by omega) (by omega) ro M (by omega)) ?_
  rintro d ⟨bs, rfl, bl, bo⟩
  simp
  exact ⟨⟨r, bs⟩, rfl, ⟨by simp; omega, by simp; omega, ro, by simp; omega, bo⟩, by simp; omega⟩
end TB

/-! TBM3: plans, hours, worths. -/
namespace TB
open PySem PySem.Spec L2
open PyProof.Rows hiding St
@[simp] theorem s_assoc {α β γ : Type} (k : α → Res β) (l : β → Res γ) (r : Res α) : (r.bind k).bind l = r.bind fun a => (k a).bind l := Res.bind_assoc k l r
@[simp] theorem s_map {α β : Type} (f : α → β) (r : Res α) : r.map f = r.bind fun a => .ok (f a) := rfl
@[simp] theorem s_lenOk {n : Nat} {ds : List D} (h : ds.length ≤ n) : lenOk n ds = .ok ds := lenOk_t h
@[simp] theorem s_oEq (i j : Int) : oEq (.int i) (.int j) = .ok (i == j) := oEq_i i j
@[simp] theorem s_oNe (i j : Int) : oNe (.int i) (.int j) = .ok (!(i == j)) := oNe_i i j
@[simp] theorem s_rng (n : Nat) : rng 0 n = (List.range n).map fun i : Nat => PyData.int i := rng_0 n
@[simp] theorem s_at (ds : List D) (i : Nat) : atI ds (i : Int) = ds[i]? := atI_cast ds i
theorem forL_stay {α : Type} (st : SetS) (b : SS) (kill : List Nat) (enc : α → D) (E : Env) (xs : List α) (h : ∀ x ∈ xs, ∃ e, st (enc x) E = some e ∧ (b e).all fun o => ∃ e', o = .nx e' ∧ killE e' kill = E) : (forL st b kill (xs.map enc) E).all fun o => o = .nx E := by
  refine Res.all_mono ?_ _ (forL_inv st b kill enc (fun _ : Unit => E) (fun _ _ => True) xs.length xs 0 () (by simp) trivial fun x hx n s _ _ => ?_)
  · rintro o ⟨_, rfl, -⟩
    rfl
  · obtain ⟨e, h1, h2⟩ := h x hx
    exact ⟨e, h1, Res.all_mono (fun o ⟨e', h3, h4⟩ => ⟨e', (), h3, h4, trivial⟩) _ h2⟩
/-- three-valued and longer literal lists, looked at by a roll -/
theorem atI_in (ds : List D) {i : Int} (h1 : 0 ≤ i) (h2 : i < ds.length) : ∃ d ∈ ds, atI ds i = some d := by
  obtain ⟨n, rfl⟩ := Int.eq_ofNat_of_zero_le h1
  have : n < ds.length := by omega
  exact ⟨ds[n], List.getElem_mem this, by rw [atI_cast, List.getElem?_eq_getElem this]⟩
/-! ### like data -/
structure Shp (n : Nat) (d : D) : Prop where
  c : d.canLay0 = true
  d : d.depth ≤ n
theorem Shp.int (n : Nat) (i : Int) : Shp n (.int i) := ⟨by simp [PyData.canLay0], by simp [PyData.depth]⟩
theorem Shp.bool (n : Nat) (i : Bool) : Shp n (.bool i) := ⟨by simp [PyData.canLay0], by simp [PyData.depth]⟩
theorem Shp.non (n : Nat) : Shp n .none := ⟨by simp [PyData.canLay0], by simp [PyData.depth]⟩
theorem Shp.str (n : Nat) (x : Str) (h : PyData.strOk x = true) : Shp n (.str x) := ⟨by simp [PyData.canLay0, h], by simp [PyData.depth]⟩
theorem shp_all {n : Nat} : ∀ {ds : List D}, (∀ d ∈ ds, Shp n d) → PyData.canLayAll0 ds = true ∧ PyData.depthAll ds ≤ n
  | [], _ => ⟨by simp [PyData.canLayAll0], by simp [PyData.depthAll]⟩
  | d :: ds, h => by
    have h1 := h d List.mem_cons_self
    have h2 := shp_all fun e he => h e (List.mem_cons_of_mem _ he)
    refine ⟨by simp [PyData.canLayAll0, h1.c, h2.1], ?_⟩
    have := h1.d
    simp only [PyData.depthAll]
    omega
theorem Shp.tuple {n : Nat} {ds : List D} (h : ∀ d ∈ ds, Shp n d) : Shp (n + 1) (.tuple ds) := ⟨by simpa [PyData.canLay0] using (shp_all h).1, by have := (shp_all h).2; simp only [PyData.depth]; omega⟩
theorem Shp.list {n : Nat} {ds : List D} (h : ∀ d ∈ ds, Shp n d) : Shp (n + 1) (.list ds) := ⟨by simpa [PyData.canLay0] using (shp_all h).1, by have := (shp_all h).2; simp only [PyData.depth]; omega⟩
theorem Shp.ok {n : Nat} {d : D} (h : Shp n d) (hn : n ≤ 64) : SeqAt.shaped d = true := by
  unfold SeqAt.shaped
  rw [h.c, Bool.true_and]
  exact decide_eq_true (Nat.le_trans h.d hn)
theorem oEq_self {n : Nat} {d : D} (h : Shp n d) (hn : n ≤ 64 := by omega) : oEq d d = .ok true := by
  unfold oEq
  rw [h.ok hn, SeqAt.eqv_refl d h.c]
  rfl
theorem oNe_self {n : Nat} {d : D} (h : Shp n d) (hn : n ≤ 64 := by omega) : oNe d d = .ok false := by
  unfold oNe
  rw [h.ok hn, SeqAt.eqv_refl d h.c]
  rfl
theorem oEq_nil {n : Nat} {ds : List D} (h : Shp n (.list ds)) (hn : n ≤ 64 := by omega) : oEq (.list ds) (.list []) = .ok ds.isEmpty := by
  unfold oEq
  rw [h.ok hn, (Shp.list (n := 0) (ds := []) (by simp)).ok (by omega)]
  cases ds <;> rfl
theorem oNe_nil {n : Nat} {ds : List D} (h : Shp n (.list ds)) (hn : n ≤ 64 := by omega) : oNe (.list ds) (.list []) = .ok (!ds.isEmpty) := by
  unfold oNe
  rw [h.ok hn, (Shp.list (n := 0) (ds := []) (by simp)).ok (by omega)]
  cases ds <;> rfl
theorem Shp.pair (n : Nat) (a b : Int) : Shp (n + 1) (.tuple [.int a, .int b]) := Shp.tuple fun d hd => by
  simp at hd
  rcases hd with rfl | rfl <;> exact Shp.int _ _
theorem oRepA_eq {ds : List D} {n : Nat} (h : n ≤ 1000) (h2 : ds.length ≤ 1000) : oRepA ds (.int n) = .ok (List.replicate n ds).flatten := by
  show (if (decide ((0 : Int) ≤ n) && decide ((n : Int) ≤ 1000) && decide (ds.length ≤ 1000)) = true then Res.ok (List.replicate (n : Int).toNat ds).flatten else .no) = _
  rw [if_pos (by simp; omega)]
  rfl
theorem rep_one {α : Type} (a : α) : ∀ n : Nat, (List.replicate n [a]).flatten = List.replicate n a
  | 0 => rfl
  | n + 1 => by rw [List.replicate_succ, List.flatten_cons, rep_one a n]; rfl
abbrev Pl := List (Option Int)
def encO : Option Int → D
  | none => .none
  | some h => .int h
@[simp] theorem encO_n : encO none = .none := rfl
@[simp] theorem encO_s (h : Int) : encO (some h) = .int h := rfl
def encP (p : Pl) : D := .tuple (p.map encO)
structure PlOk (n : Nat) (p : Pl) : Prop where
  len : p.length = n
  h : ∀ x, some x ∈ p → 0 ≤ x ∧ x ≤ 11
@[simp] theorem asQ_P (p : Pl) : asQ (encP p) = .ok (p.map encO) := rfl
@[simp] theorem asU_P (p : Pl) : asU (encP p) = .ok (p.map encO) := rfl
@[simp] theorem isi_P (p : Pl) : oIsi "tuple" (encP p) = .ok true := isi_tuple_t _
@[simp] theorem asQ_K (k : Boo) : asQ k.enc = .ok [encR k.riv, encB k.bgs] := rfl
@[simp] theorem asU_K (k : Boo) : asU k.enc = .ok [encR k.riv, encB k.bgs] := rfl
@[simp] theorem asQ_G (b : Bg) : asQ b.enc = .ok [.int b.b, .int b.g, .int b.dr, .int b.rd, .int b.du] := rfl
@[simp] theorem asQ_S (s : Sg) : asQ s.enc = .ok [.int s.sp, .int s.rm, .tuple (s.ds.map .int)] := rfl
@[simp] theorem oNotN_e (d : D) : oNotN d .none = .ok (!isNon d) := rfl
@[simp] theorem oIsN_e (d : D) : oIsN d .none = .ok (isNon d) := rfl
theorem F_passes_int (k : Boo) (hl : k.riv.length ≤ 8) {p : Int} (hp : 0 ≤ p) (h : Int) : F_passes [k.enc, .int p, .int h] = .ok (.int (tmR k.riv p.toNat h)) := by
  have := F_passes_eq k hl p.toNat h
  rwa [Int.toNat_of_nonneg hp] at this
theorem F_need_plan_t {k : Boo} (ok : k.Ok) {p : Pl} (hp : PlOk k.bgs.length p) : F_need_plan [k.enc, encP p] = .ok .none := by
  simp [F_need_plan, b_need_plan, runB, startE, F_need_book_t ok, hp.len]
  rw [forL_const (enc := encO)]
  · simp
  · intro x hx
    cases x with
    | none => simp
    | some h =>
      have := hp.h h hx
      simp [F_is_number_t this.1 this.2]
/-- the hours of a plan, each once, rising -/
def hrs (p : Pl) : List Int := ((List.range 12).map fun i : Nat => (i : Int)).filter fun i => decide (some i ∈ p)
theorem hrs_sorted (p : Pl) : (hrs p).Pairwise (· < ·) := by
  refine List.Pairwise.filter _ (List.pairwise_map.mpr ?_)
  exact List.Pairwise.imp (fun h => by exact_mod_cast h) List.pairwise_lt_range
theorem mem_hrs {p : Pl} (hp : ∀ x, some x ∈ p → 0 ≤ x ∧ x ≤ 11) {z : Int} : z ∈ hrs p ↔ some z ∈ p := by
  unfold hrs
  rw [List.mem_filter]
  constructor
  · intro h
    simpa using h.2
  · intro h
    refine ⟨List.mem_map.mpr ⟨z.toNat, ?_, ?_⟩, by simpa using h⟩
    · have := hp z h
      rw [List.mem_range]
      omega
    · have := hp z h
      omega
theorem filter_encO : ∀ p : Pl, (p.filter fun o => !isNon (encO o)).map encO = (p.filterMap id).map PyData.int
  | [] => rfl
  | none :: p => by simpa using filter_encO p
  | some h :: p => by simpa using filter_encO p
theorem F_hours_in_eq {p : Pl} (hl : p.length ≤ 8) (hp : ∀ x, some x ∈ p → 0 ≤ x ∧ x ≤ 11) : F_hours_in [encP p] = .ok (.list ((hrs p).map .int)) := by
  simp [F_hours_in, b_hours_in, runB, startE, show p.length ≤ 16000000 by omega]
  rw [lcGo_eq (enc := encO) (p := fun o => !isNon (encO o)) (g := encO)]
  · have h1 : (p.filterMap id).length < 64 := by
      have := List.length_filterMap_le id p
      omega
    simp only [filter_encO]
    simp [oSortSet, intsOf_map, h1]
    congr 1
    exact sorted_one (rising_sorted _) (hrs_sorted p) fun z => by
      rw [mem_rising, mem_hrs hp]
      simp
  · intro x hx
    simp
theorem flat_encO (p : Pl) : ((p.map encO).all flatD) = true := by
  rw [List.all_eq_true]
  intro d hd
  obtain ⟨o, -, rfl⟩ := List.mem_map.mp hd
  cases o <;> rfl
theorem inD_encO (h : Int) : ∀ p : Pl, inD (.int h) (p.map encO) = decide (some h ∈ p)
  | [] => rfl
  | none :: p => by
    have ih := inD_encO h p
    unfold inD at ih ⊢
    rw [List.map_cons, List.any_cons, ih]
    have : PyData.eqv (encO none) (.int h) = false := rfl
    rw [this]
    simp
  | some i :: p => by
    have ih := inD_encO h p
    unfold inD at ih ⊢
    rw [List.map_cons, List.any_cons, ih]
    have : PyData.eqv (encO (some i)) (.int h) = (i == h) := rfl
    rw [this]
    by_cases e : i = h
    · simp [e]
    · have : ¬ h = i := fun z => e z.symm
      simp [e, this]
@[simp] theorem oIn_P (h : Int) (p : Pl) : oIn (.int h) (p.map encO) = .ok (decide (some h ∈ p)) := by
  unfold oIn
  rw [flat_encO, inD_encO]
  rfl
theorem F_law_hours_eq (p : Pl) : F_law_hours [encP p] = .ok (.list ((hrs p).map .int)) := by
  simp [F_law_hours, b_law_hours, runB, startE, show inR 12 = true from rfl]
  rw [lcGo_eq (enc := fun i : Nat => PyData.int i) (p := fun i : Nat => decide (some (i : Int) ∈ p)) (g := fun i : Nat => PyData.int i)]
  · simp
    unfold hrs
    rw [List.filter_map, List.map_map]
    rfl
  · intro x hx
    simp
/-- how long all wait -/
def wst (k : Boo) (p : Pl) (s : Int) (i : Nat) : Int := match p[i]?, k.bgs[i]? with
  | some (some h), some b => s + tmR k.riv b.b.toNat h - b.rd
  | _, _ => s
def waits (k : Boo) (p : Pl) : Int := (List.range p.length).foldl (wst k p) 0
theorem F_worth_of_eq {k : Boo} (ok : k.Ok) {p : Pl} (hp : PlOk k.bgs.length p) : F_worth_of [k.enc, encP p] = .ok (.tuple [.int (hrs p).length, .int (waits k p)]) := by
  have hn := ok.n
  have hl := hp.len
  simp [F_worth_of, b_worth_of, runB, startE, inR_nat (show p.length ≤ 1000000 by omega)]
  rw [forL_fold (enc := fun i : Nat => PyData.int i) (E := fun s : Int => [.fr k.enc, .fr (encP p), .fr (.int s), .un]) (f := wst k p)]
  · simp [F_hours_in_eq (show p.length ≤ 8 by omega) hp.h, tupD]
    rfl
  · intro x hx s
    have hx := List.mem_range.mp hx
    obtain ⟨b, hb⟩ : ∃ b, k.bgs[x]? = some b := ⟨_, List.getElem?_eq_getElem (by omega)⟩
    obtain ⟨o, ho⟩ : ∃ o, p[x]? = some o := ⟨_, List.getElem?_eq_getElem hx⟩
    have b0 := (ok.b b (List.mem_of_getElem? hb)).b0
    cases o with
    | none => simp [ho, hb, wst]
    | some h => simp [ho, hb, wst, F_passes_int k ok.l2 b0]
theorem F_worth_eq {k : Boo} (ok : k.Ok) {p : Pl} (hp : PlOk k.bgs.length p) : F_worth [k.enc, encP p] = .ok (.tuple [.int (hrs p).length, .int (waits k p)]) := by
  simp [F_worth, b_worth, runB, startE, F_need_plan_t ok hp, F_worth_of_eq ok hp]
theorem F_law_price_eq {k : Boo} (ok : k.Ok) {p : Pl} (hp : PlOk k.bgs.length p) : F_law_price [k.enc, encP p] = .ok (.tuple [.int (hrs p).length, .int (waits k p)]) := by
  have hn := ok.n
  have hl := hp.len
  simp [F_law_price, b_law_price, runB, startE, inR_nat (show p.length ≤ 1000000 by omega)]
  rw [forL_fold (enc := fun i : Nat => PyData.int i) (E := fun s : Int => [.fr k.enc, .fr (encP p), .fr (.int s), .un]) (f := wst k p)]
  · simp [F_law_hours_eq, tupD]
    rfl
  · intro x hx s
    have hx := List.mem_range.mp hx
    obtain ⟨b, hb⟩ : ∃ b, k.bgs[x]? = some b := ⟨_, List.getElem?_eq_getElem (by omega)⟩
    obtain ⟨o, ho⟩ : ∃ o, p[x]? = some o := ⟨_, List.getElem?_eq_getElem hx⟩
    have b0 := (ok.b b (List.mem_of_getElem? hb)).b0
    cases o with
    | none => simp [ho, hb, wst]
    | some h => simp [ho, hb, wst, F_law_time_int k.riv ok.l2 b0]
/-- all open -/
def opn (n : Nat) : Pl := List.replicate n none
theorem opn_ok (n : Nat) : PlOk n (opn n) := ⟨by simp [opn], fun x h => by simp [opn] at h⟩
theorem opn_enc (n : Nat) : encP (opn n) = .tuple (List.replicate n .none) := by simp [encP, opn]
theorem hrs_opn (n : Nat) : hrs (opn n) = [] := by simp [hrs, opn]
theorem waits_opn (k : Boo) (n : Nat) : waits k (opn n) = 0 := by
  unfold waits
  have h : ∀ (l : List Nat), l.foldl (wst k (opn n)) 0 = 0 := by
    intro l
    induction l with
    | nil => rfl
    | cons a l ih =>
      rw [List.foldl_cons]
      have : wst k (opn n) 0 a = 0 := by
        unfold wst
        by_cases h : a < n
        · simp [opn, h]
        · simp [opn, h]
      rw [this, ih]
  exact h _
end TB

namespace TB
open PySem PySem.Spec L2
open PyProof.Rows hiding St
def b_law : SS :=
  (sSeq (sSet 1 (sCall F_law_book 2 (sCons (sVar 0) (sCons (sC (.int 7)) sNil))))
    (sSeq (sSet 2 (sCall F_law_dice 1 (sCons (sCall F_law_cell_at 2 (sCons (sVar 0) (sCons (sC (.int 3)) sNil))) sNil)))
    (sSeq (sFor (sRng1 (sC (.int 3))) (stName 3) (sSeq (sSetF 4 (s1 (lenOk 100000) sNil))
    (sSeq (sFor (sRng1 (s1 oLen (s1 asQ (s2 oIx (s1 asQ (sVar 1)) (sC (.int 1)))))) (stName 5) (sApp 4 (s2 oIx (s1 (lenOk 100000) (sCons (sC .none) (sCons (sCall F_law_roll 2 (sCons (sVar 2) (sCons (sC (.int 12)) sNil))) (sCons (sCall F_law_roll 2 (sCons (sVar 2) (sCons (sC (.int 2)) sNil))) sNil)))) (sCall F_law_roll 2 (sCons (sVar 2) (sCons (sC (.int 3)) sNil))))) [5])
    (sSeq (sSet 6 (sCall F_worth 2 (sCons (sVar 1) (sCons (sMap .tuple (s1 .ok (sVarL 4))) sNil))))
    (sSeq (sIf (sOr (sMap not (s1 (oIsi "tuple") (sVar 6))) (s2 oNe (sVar 6) (sCall F_law_price 2 (sCons (sVar 1) (sCons (sMap .tuple (s1 .ok (sVarL 4))) sNil))))) (sRet (sC (.bool false))) sNext)
    (sIf (s2 oNe (sMap .list (sLc (s1 asU (sVar 6)) (stName 7) (sMap not (s1 asB (sCall F_law_whole 1 (sCons (sVar 7) sNil)))) (sVar 7) [7])) (sMap .list (s1 (lenOk 100000) sNil))) (sRet (sC (.bool false))) sNext))))) [3, 4, 5, 6])
    (sRet (sMap .bool (s2 oEq (sCall F_worth 2 (sCons (sVar 1) (sCons (sMap .tuple (s2 oRepA (s1 asU (s1 tupD (sCons (sC .none) sNil))) (s1 oLen (s1 asQ (s2 oIx (s1 asQ (sVar 1)) (sC (.int 1))))))) sNil))) (s1 tupD (sCons (sC (.int 0)) (sCons (sC (.int 0)) sNil)))))))))
def F_law : List D → Res D := runB 8 b_law

end TB


namespace TB
open PySem PySem.Spec L2
open PyProof.Rows hiding St
theorem law_all : ∀ ns : List Int, ns.length ≤ 63 → (F_law [scrD ns]).all (· = .bool true) := by
  intro ns _
  simp [F_law, b_law, runB, startE]
  refine all_imp (F_law_book_all ns 7 (by omega)) ?_
  rintro d ⟨k, rfl, ok, -⟩
  simp [F_law_dice, F_law_cell_at_int ns (show (0 : Int) ≤ 3 by decide), show inR 3 = true from rfl]
  have hn := ok.n
  refine all_imp (forL_stay (enc := fun i : Nat => PyData.int i) (xs := List.range 3) (E := [.fr (scrD ns), .fr k.enc, .fr (.dict []), .un, .un, .un, .un, .un]) _ _ _ fun x hx => ?_) ?_
  · simp [inR_nat (show k.bgs.length ≤ 1000000 by omega)]
    refine all_imp (forL_inv (enc := fun i : Nat => PyData.int i) (xs := List.range k.bgs.length) (E := fun p : Pl => [.fr (scrD ns), .fr k.enc, .fr (.dict []), .fr (.int x), .ow (p.map encO), .un, .un, .un]) (J := fun n p => PlOk n p) _ _ _ k.bgs.length 0 [] (by simp) ⟨rfl, by simp⟩ fun x hx n p hn ⟨hl, ho⟩ => ?_) ?_
    · simp [roll_eq]
      intro a a1 a2 b b1 b2 c c1 c2
      obtain ⟨d, hd, e⟩ := atI_in [.none, .int a, .int b] c1 c2
      simp [e, show p.length ≤ 16000000 by omega]
      obtain ⟨o, ho1, ho2⟩ : ∃ o : Option Int, d = encO o ∧ ∀ x, some x = o → 0 ≤ x ∧ x ≤ 11 := by
        simp at hd
        rcases hd with rfl | rfl | rfl
        · exact ⟨none, rfl, by simp⟩
        · exact ⟨some a, rfl, by simp; omega⟩
        · exact ⟨some b, rfl, by simp; omega⟩
      refine ⟨p ++ [o], by simp [ho1], by simp [hl], fun x hx => ?_⟩
      rcases List.mem_append.mp hx with hx | hx
      · exact ho x hx
      · exact ho2 x (by simpa using hx)
    · rintro o ⟨p, rfl, hp⟩
      have hw := F_worth_eq ok hp
      have hpr := F_law_price_eq ok hp
      unfold encP at hw hpr
      simp [hw, hpr, oNe_self (Shp.pair 0 _ _), lcGo, F_law_whole_t, oNe_self (Shp.list (n := 0) (ds := []) (by simp))]
  · rintro o rfl
    have hw := F_worth_eq ok (opn_ok k.bgs.length)
    rw [hrs_opn, waits_opn, opn_enc] at hw
    simp [tupD, oRepA_eq (ds := [.none]) (show k.bgs.length ≤ 1000 by omega) (by simp), rep_one, hw, oEq_self (Shp.pair 0 _ _)]
end TB

namespace TB
open PySem PySem.Spec L2
open PyProof.Rows hiding St
def topS (i : Nat) : Stmt := PySem.Challenge.pw_towbarges_k05_worths.main.body.getD i (.Pass ⟨0, 0, 0, 0⟩)
structure Md (K : PySem.W.Frag) (mg : Str → Option Value) : Prop where
  b_bool : mg "bool" = none
  b_int : mg "int" = none
  b_isinstance : mg "isinstance" = none
  b_len : mg "len" = none
  b_max : mg "max" = none
  b_range : mg "range" = none
  b_set : mg "set" = none
  b_sorted : mg "sorted" = none
  b_sum : mg "sum" = none
  b_tuple : mg "tuple" = none
  c_HOURS : ∃ t, mg "HOURS" = some (.int 12 t)
  c_MOST_BARGES : ∃ t, mg "MOST_BARGES" = some (.int 7 t)
  c_MOST_DEPTHS : ∃ t, mg "MOST_DEPTHS" = some (.int 24 t)
  c_MOST_STRETCHES : ∃ t, mg "MOST_STRETCHES" = some (.int 8 t)
  x_BadBook : Exc K mg "BadBook"
  x_BadPlan : Exc K mg "BadPlan"
section
variable {P : Program} {w : World} {K : PySem.W.Frag} {mg : Str → Option Value} {base : Heap}
abbrev t_must_books : Stmt := topS 9
abbrev n_must_books : List Str := ["good"]
theorem sc_must_books : FnScope n_must_books ["good"] (defScope t_must_books) := ⟨rfl, rfl, rfl, by decide +kernel, rfl, by decide +kernel, by decide +kernel⟩
theorem ok_must_books {f : Addr} {fd : FuncData} (M : Md K mg) (Fn : Fun K "must" "must" t_must_books f fd) (hm : mg "must" = some (.ref f)) (bi : Binds K fd ["good"] []) : Df P w K mg base "must" 1 1 F_must_books :=
  df_def Fn sc_must_books rfl hm bi fun cdv A outer s H E z => (ds_one (ds_if (dt_not (dt_dv (dv_of (de_var 0 (pv 0))))) (ds_one (ds_raise z M.x_BadBook (by rfl))) ds_nil))

abbrev t_is_number : Stmt := topS 10
abbrev n_is_number : List Str := ["thing", "least", "most"]
theorem sc_is_number : FnScope n_is_number ["thing", "least", "most"] (defScope t_is_number) := ⟨rfl, rfl, rfl, by decide +kernel, rfl, by decide +kernel, by decide +kernel⟩
theorem ok_is_number {f : Addr} {fd : FuncData} (M : Md K mg) (Fn : Fun K "is_number" "is_number" t_is_number f fd) (hm : mg "is_number" = some (.ref f)) (bi : Binds K fd ["thing", "least", "most"] []) : Df P w K mg base "is_number" 3 1 F_is_number :=
  df_def Fn sc_is_number rfl hm bi fun cdv A outer s H E z => (ds_one (ds_ret (dv_bool (dv_and (dv_isi (T := "int") (by rfl) M.b_isinstance (dh_of (de_var 0 (pv 0))) (by rfl) M.b_int (by decide +kernel)) (dv_and (dv_not (dv_isi (T := "bool") (by rfl) M.b_isinstance (dh_of (de_var 0 (pv 0))) (by rfl) M.b_bool (by decide +kernel))) (dv_one (dv_chain op_le op_le og_IB og_IB (de_var 1 (pv 1)) (de_var 0 (pv 0)) (de_var 2 (pv 2)))))))))

abbrev t_need_tuple : Stmt := topS 11
abbrev n_need_tuple : List Str := ["thing", "least", "most"]
theorem sc_need_tuple : FnScope n_need_tuple ["thing", "least", "most"] (defScope t_need_tuple) := ⟨rfl, rfl, rfl, by decide +kernel, rfl, by decide +kernel, by decide +kernel⟩
theorem ok_need_tuple {f : Addr} {fd : FuncData} (M : Md K mg) (Fn : Fun K "need_tuple" "need_tuple" t_need_tuple f fd) (hm : mg "need_tuple" = some (.ref f)) (bi : Binds K fd ["thing", "least", "most"] []) (d_must : Df P w K mg base "must" 1 1 F_must_books) : Df P w K mg base "need_tuple" 3 2 F_need_tuple :=
  df_def Fn sc_need_tuple rfl hm bi fun cdv A outer s H E z => (ds_one (ds_drop (de_call (z.toCz.mono (by decide)) d_must (by rfl) (da_cons (dv_bool (dv_and (dv_isi (T := "tuple") (by rfl) M.b_isinstance (dh_of (de_var 0 (pv 0))) (by rfl) M.b_tuple (by decide +kernel)) (dv_one (dv_chain op_le op_le og_IB og_IB (de_var 1 (pv 1)) (de_len (by rfl) M.b_len (dq_of (de_var 0 (pv 0)))) (de_var 2 (pv 2)))))) da_nil))))

abbrev t_need_stretch : Stmt := topS 12
abbrev n_need_stretch : List Str := ["stretch", "depth"]
theorem sc_need_stretch : FnScope n_need_stretch ["stretch"] (defScope t_need_stretch) := ⟨rfl, rfl, rfl, by decide +kernel, rfl, by decide +kernel, by decide +kernel⟩
theorem ok_need_stretch {f : Addr} {fd : FuncData} (M : Md K mg) (Fn : Fun K "need_stretch" "need_stretch" t_need_stretch f fd) (hm : mg "need_stretch" = some (.ref f)) (bi : Binds K fd ["stretch"] []) (d_need_tuple : Df P w K mg base "need_tuple" 3 2 F_need_tuple) (d_is_number : Df P w K mg base "is_number" 3 1 F_is_number) (d_must : Df P w K mg base "must" 1 1 F_must_books) : Df P w K mg base "need_stretch" 1 3 F_need_stretch :=
  df_def Fn sc_need_stretch rfl hm bi fun cdv A outer s H E z => (ds_cons (ds_drop (de_call (z.toCz.mono (by decide)) d_need_tuple (by rfl) (da_cons (de_var 0 (pv 0)) (da_cons de_int (da_cons de_int da_nil)))))
    (ds_cons (ds_drop (de_call (z.toCz.mono (by decide)) d_must (by rfl) (da_cons (dv_bool (dv_and (dv_of (de_call (z.toCz.mono (by decide)) d_is_number (by rfl) (da_cons (de_ix (dq_of (de_var 0 (pv 0))) de_int) (da_cons de_int (da_cons de_int da_nil))))) (dv_one (dv_of (de_call (z.toCz.mono (by decide)) d_is_number (by rfl) (da_cons (de_ix (dq_of (de_var 0 (pv 0))) de_int) (da_cons de_int (da_cons de_int da_nil)))))))) da_nil)))
    (ds_cons (ds_drop (de_call (z.toCz.mono (by decide)) d_need_tuple (by rfl) (da_cons (de_ix (dq_of (de_var 0 (pv 0))) de_int) (da_cons de_int (da_cons (de_constI M.c_MOST_DEPTHS (by rfl)) da_nil)))))
    (ds_one (ds_forU z (tg_name 1) (pg_name (i := 1) sc_need_stretch.nd rfl (by first | exact .inl rfl | exact .inr rfl)) (du_of (de_ix (dq_of (de_var 0 (pv 0))) de_int)) (ds_one (ds_drop (de_call (z.toCz.mono (by decide)) d_must (by rfl) (da_cons (de_call (z.toCz.mono (by decide)) d_is_number (by rfl) (da_cons (de_var 1 (pv 1)) (da_cons de_int (da_cons de_int da_nil)))) da_nil)))))))))

abbrev t_need_barge : Stmt := topS 13
abbrev n_need_barge : List Str := ["barge", "last"]
theorem sc_need_barge : FnScope n_need_barge ["barge", "last"] (defScope t_need_barge) := ⟨rfl, rfl, rfl, by decide +kernel, rfl, by decide +kernel, by decide +kernel⟩
theorem ok_need_barge {f : Addr} {fd : FuncData} (M : Md K mg) (Fn : Fun K "need_barge" "need_barge" t_need_barge f fd) (hm : mg "need_barge" = some (.ref f)) (bi : Binds K fd ["barge", "last"] []) (d_need_tuple : Df P w K mg base "need_tuple" 3 2 F_need_tuple) (d_is_number : Df P w K mg base "is_number" 3 1 F_is_number) (d_must : Df P w K mg base "must" 1 1 F_must_books) : Df P w K mg base "need_barge" 2 3 F_need_barge :=
  df_def Fn sc_need_barge rfl hm bi fun cdv A outer s H E z => (ds_cons (ds_drop (de_call (z.toCz.mono (by decide)) d_need_tuple (by rfl) (da_cons (de_var 0 (pv 0)) (da_cons de_int (da_cons de_int da_nil)))))
    (ds_cons (ds_drop (de_call (z.toCz.mono (by decide)) d_must (by rfl) (da_cons (dv_bool (dv_and (dv_of (de_call (z.toCz.mono (by decide)) d_is_number (by rfl) (da_cons (de_ix (dq_of (de_var 0 (pv 0))) de_int) (da_cons de_int (da_cons (de_var 1 (pv 1)) da_nil))))) (dv_and (dv_of (de_call (z.toCz.mono (by decide)) d_is_number (by rfl) (da_cons (de_ix (dq_of (de_var 0 (pv 0))) de_int) (da_cons de_int (da_cons (de_var 1 (pv 1)) da_nil))))) (dv_one (dv_cmp op_lt og_IB (nomark _) (de_ix (dq_of (de_var 0 (pv 0))) de_int) (de_ix (dq_of (de_var 0 (pv 0))) de_int)))))) da_nil)))
    (ds_one (ds_drop (de_call (z.toCz.mono (by decide)) d_must (by rfl) (da_cons (dv_bool (dv_and (dv_of (de_call (z.toCz.mono (by decide)) d_is_number (by rfl) (da_cons (de_ix (dq_of (de_var 0 (pv 0))) de_int) (da_cons de_int (da_cons de_int da_nil))))) (dv_and (dv_of (de_call (z.toCz.mono (by decide)) d_is_number (by rfl) (da_cons (de_ix (dq_of (de_var 0 (pv 0))) de_int) (da_cons de_int (da_cons de_int da_nil))))) (dv_one (dv_of (de_call (z.toCz.mono (by decide)) d_is_number (by rfl) (da_cons (de_ix (dq_of (de_var 0 (pv 0))) de_int) (da_cons de_int (da_cons de_int da_nil))))))))) da_nil))))))

abbrev t_need_book : Stmt := topS 14
abbrev n_need_book : List Str := ["book", "stretch", "barge"]
theorem sc_need_book : FnScope n_need_book ["book"] (defScope t_need_book) := ⟨rfl, rfl, rfl, by decide +kernel, rfl, by decide +kernel, by decide +kernel⟩
theorem ok_need_book {f : Addr} {fd : FuncData} (M : Md K mg) (Fn : Fun K "need_book" "need_book" t_need_book f fd) (hm : mg "need_book" = some (.ref f)) (bi : Binds K fd ["book"] []) (d_need_tuple : Df P w K mg base "need_tuple" 3 2 F_need_tuple) (d_need_stretch : Df P w K mg base "need_stretch" 1 3 F_need_stretch) (d_need_barge : Df P w K mg base "need_barge" 2 3 F_need_barge) : Df P w K mg base "need_book" 1 4 F_need_book :=
  df_def Fn sc_need_book rfl hm bi fun cdv A outer s H E z => (ds_cons (ds_drop (de_call (z.toCz.mono (by decide)) d_need_tuple (by rfl) (da_cons (de_var 0 (pv 0)) (da_cons de_int (da_cons de_int da_nil)))))
    (ds_cons (ds_drop (de_call (z.toCz.mono (by decide)) d_need_tuple (by rfl) (da_cons (de_ix (dq_of (de_var 0 (pv 0))) de_int) (da_cons de_int (da_cons (de_constI M.c_MOST_STRETCHES (by rfl)) da_nil)))))
    (ds_cons (ds_forU z (tg_name 1) (pg_name (i := 1) sc_need_book.nd rfl (by first | exact .inl rfl | exact .inr rfl)) (du_of (de_ix (dq_of (de_var 0 (pv 0))) de_int)) (ds_one (ds_drop (de_call (z.toCz.mono (by decide)) d_need_stretch (by rfl) (da_cons (de_var 1 (pv 1)) da_nil)))))
    (ds_cons (ds_drop (de_call (z.toCz.mono (by decide)) d_need_tuple (by rfl) (da_cons (de_ix (dq_of (de_var 0 (pv 0))) de_int) (da_cons de_int (da_cons (de_constI M.c_MOST_BARGES (by rfl)) da_nil)))))
    (ds_one (ds_forU z (tg_name 2) (pg_name (i := 2) sc_need_book.nd rfl (by first | exact .inl rfl | exact .inr rfl)) (du_of (de_ix (dq_of (de_var 0 (pv 0))) de_int)) (ds_one (ds_drop (de_call (z.toCz.mono (by decide)) d_need_barge (by rfl) (da_cons (de_var 2 (pv 2)) (da_cons (de_len (by rfl) M.b_len (dq_of (de_ix (dq_of (de_var 0 (pv 0))) de_int))) da_nil)))))))))))

abbrev t_need_plan : Stmt := topS 15
abbrev n_need_plan : List Str := ["book", "plan", "hour"]
theorem sc_need_plan : FnScope n_need_plan ["book", "plan"] (defScope t_need_plan) := ⟨rfl, rfl, rfl, by decide +kernel, rfl, by decide +kernel, by decide +kernel⟩
theorem ok_need_plan {f : Addr} {fd : FuncData} (M : Md K mg) (Fn : Fun K "need_plan" "need_plan" t_need_plan f fd) (hm : mg "need_plan" = some (.ref f)) (bi : Binds K fd ["book", "plan"] []) (d_need_book : Df P w K mg base "need_book" 1 4 F_need_book) (d_is_number : Df P w K mg base "is_number" 3 1 F_is_number) : Df P w K mg base "need_plan" 2 5 F_need_plan :=
  df_def Fn sc_need_plan rfl hm bi fun cdv A outer s H E z => (ds_cons (ds_drop (de_call (z.toCz.mono (by decide)) d_need_book (by rfl) (da_cons (de_var 0 (pv 0)) da_nil)))
    (ds_cons (ds_if (dw_pt (dw_or (dt_not (dt_dv (dv_isi (T := "tuple") (by rfl) M.b_isinstance (dh_of (de_var 1 (pv 1))) (by rfl) M.b_tuple (by decide +kernel)))) (dw_or1 (dt_cmp (op_neD z.toCz.hr.units) og_ne (nomark _) (dh_of (de_len (by rfl) M.b_len (dq_of (de_var 1 (pv 1))))) (dh_of (de_len (by rfl) M.b_len (dq_of (de_ix (dq_of (de_var 0 (pv 0))) de_int)))))))) (ds_one (ds_raise z M.x_BadPlan (by rfl))) ds_nil)
    (ds_one (ds_forU z (tg_name 2) (pg_name (i := 2) sc_need_plan.nd rfl (by first | exact .inl rfl | exact .inr rfl)) (du_of (de_var 1 (pv 1))) (ds_one (ds_if (dw_pt (dw_and (dt_cmp op_notN og_notN (nomark _) (dh_of (de_var 2 (pv 2))) de_non) (dw_and1 (dt_not (dt_dv (dv_of (de_call (z.toCz.mono (by decide)) d_is_number (by rfl) (da_cons (de_var 2 (pv 2)) (da_cons de_int (da_cons (de_sub (de_constI M.c_HOURS (by rfl)) de_int) da_nil)))))))))) (ds_one (ds_raise z M.x_BadPlan (by rfl))) ds_nil))))))

abbrev t_hours_in : Stmt := topS 16
abbrev n_hours_in : List Str := ["plan", "hour"]
theorem sc_hours_in : FnScope n_hours_in ["plan"] (defScope t_hours_in) := ⟨rfl, rfl, rfl, by decide +kernel, rfl, by decide +kernel, by decide +kernel⟩
theorem ok_hours_in {f : Addr} {fd : FuncData} (M : Md K mg) (Fn : Fun K "hours_in" "hours_in" t_hours_in f fd) (hm : mg "hours_in" = some (.ref f)) (bi : Binds K fd ["plan"] []) : Df P w K mg base "hours_in" 1 1 F_hours_in :=
  df_def Fn sc_hours_in rfl hm bi fun cdv A outer s H E z => (ds_one (ds_ret (de_new (df_sortset M.b_sorted M.b_set (dl_new (df_lc (own := [("hour", 1)]) (is := [1]) rfl sc_hours_in.nd (pi_tup (du_of (de_var 0 (pv 0)))) (fun _ _ _ => lcd_tup (tg_name 1) (by decide)) (blkOk_by (N := n_hours_in) (sc := defScope t_hours_in) (by decide +kernel)) (fun _ _ _ _ _ => (pg_name (i := 1) sc_hours_in.nd rfl (by first | exact .inl rfl | exact .inr rfl))) (fun _ _ _ _ _ => pts_one (dt_cmp op_notN og_notN (nomark _) (dh_of (de_var 1 (pv 1))) de_non)) (fun _ _ _ _ _ => (de_var 1 (pv 1)))))))))

abbrev t_passes : Stmt := topS 18
abbrev n_passes : List Str := ["book", "place", "hour", "stretch"]
theorem sc_passes : FnScope n_passes ["book", "place", "hour"] (defScope t_passes) := ⟨rfl, rfl, rfl, by decide +kernel, rfl, by decide +kernel, by decide +kernel⟩
theorem ok_passes {f : Addr} {fd : FuncData} (M : Md K mg) (Fn : Fun K "passes" "passes" t_passes f fd) (hm : mg "passes" = some (.ref f)) (bi : Binds K fd ["book", "place", "hour"] []) : Df P w K mg base "passes" 3 1 F_passes :=
  df_def Fn sc_passes rfl hm bi fun cdv A outer s H E z => (ds_one (ds_ret (de_add (de_var 2 (pv 2)) (de_sum rfl (by rfl) M.b_sum (dl_new (df_lc (own := [("stretch", 3)]) (is := [3]) rfl sc_passes.nd (pi_tup (du_slice (du_of (de_ix (dq_of (de_var 0 (pv 0))) de_int)) do_none (do_some (de_var 1 (pv 1))))) (fun _ _ _ => lcd_tup (tg_name 3) (by decide)) (blkOk_by (N := n_passes) (sc := defScope t_passes) (by decide +kernel)) (fun _ _ _ _ _ => (pg_name (i := 3) sc_passes.nd rfl (by first | exact .inl rfl | exact .inr rfl))) (fun _ _ _ _ _ => pts_yes) (fun _ _ _ _ _ => (de_ix (dq_of (de_var 3 (pv 3))) de_int))))))))

abbrev t_worth_of : Stmt := topS 20
abbrev n_worth_of : List Str := ["book", "plan", "waiting", "number"]
theorem sc_worth_of : FnScope n_worth_of ["book", "plan"] (defScope t_worth_of) := ⟨rfl, rfl, rfl, by decide +kernel, rfl, by decide +kernel, by decide +kernel⟩
theorem ok_worth_of {f : Addr} {fd : FuncData} (M : Md K mg) (Fn : Fun K "worth_of" "worth_of" t_worth_of f fd) (hm : mg "worth_of" = some (.ref f)) (bi : Binds K fd ["book", "plan"] []) (d_passes : Df P w K mg base "passes" 3 1 F_passes) (d_hours_in : Df P w K mg base "hours_in" 1 1 F_hours_in) : Df P w K mg base "worth_of" 2 2 F_worth_of :=
  df_def Fn sc_worth_of rfl hm bi fun cdv A outer s H E z => (ds_cons (ds_set (i := 2) z de_int)
    (ds_cons (ds_forR1 z (by rfl) M.b_range (tg_name 3) (pg_name (i := 3) sc_worth_of.nd rfl (by first | exact .inl rfl | exact .inr rfl)) (de_len (by rfl) M.b_len (dq_of (de_var 1 (pv 1)))) (ds_one (ds_if (dt_cmp op_notN og_notN (nomark _) (dh_of (de_ix (dq_of (de_var 1 (pv 1))) (de_var 3 (pv 3)))) de_non) (ds_one (ds_set (i := 2) z (de_sub (de_add (de_var 2 (pv 2)) (de_call (z.toCz.mono (by decide)) d_passes (by rfl) (da_cons (de_var 0 (pv 0)) (da_cons (de_ix (dq_of (de_ix (dq_of (de_ix (dq_of (de_var 0 (pv 0))) de_int)) (de_var 3 (pv 3)))) de_int) (da_cons (de_ix (dq_of (de_var 1 (pv 1))) (de_var 3 (pv 3))) da_nil))))) (de_ix (dq_of (de_ix (dq_of (de_ix (dq_of (de_var 0 (pv 0))) de_int)) (de_var 3 (pv 3)))) de_int)))) ds_nil)))
    (ds_one (ds_ret (de_tup (da_cons (de_len (by rfl) M.b_len (dq_of (de_call (z.toCz.mono (by decide)) d_hours_in (by rfl) (da_cons (de_var 1 (pv 1)) da_nil)))) (da_cons (de_var 2 (pv 2)) da_nil)))))))

abbrev t_worth : Stmt := topS 21
abbrev n_worth : List Str := ["book", "plan"]
theorem sc_worth : FnScope n_worth ["book", "plan"] (defScope t_worth) := ⟨rfl, rfl, rfl, by decide +kernel, rfl, by decide +kernel, by decide +kernel⟩
theorem ok_worth {f : Addr} {fd : FuncData} (M : Md K mg) (Fn : Fun K "worth" "worth" t_worth f fd) (hm : mg "worth" = some (.ref f)) (bi : Binds K fd ["book", "plan"] []) (d_need_plan : Df P w K mg base "need_plan" 2 5 F_need_plan) (d_worth_of : Df P w K mg base "worth_of" 2 2 F_worth_of) : Df P w K mg base "worth" 2 6 F_worth :=
  df_def Fn sc_worth rfl hm bi fun cdv A outer s H E z => (ds_cons (ds_drop (de_call (z.toCz.mono (by decide)) d_need_plan (by rfl) (da_cons (de_var 0 (pv 0)) (da_cons (de_var 1 (pv 1)) da_nil))))
    (ds_one (ds_ret (de_call (z.toCz.mono (by decide)) d_worth_of (by rfl) (da_cons (de_var 0 (pv 0)) (da_cons (de_var 1 (pv 1)) da_nil))))))

abbrev t_law_cell_at : Stmt := topS 23
abbrev n_law_cell_at : List Str := ["_law_script", "_law_k"]
theorem sc_law_cell_at : FnScope n_law_cell_at ["_law_script", "_law_k"] (defScope t_law_cell_at) := ⟨rfl, rfl, rfl, by decide +kernel, rfl, by decide +kernel, by decide +kernel⟩
theorem ok_law_cell_at {f : Addr} {fd : FuncData} (M : Md K mg) (Fn : Fun K "_law_cell_at" "_law_cell_at" t_law_cell_at f fd) (hm : mg "_law_cell_at" = some (.ref f)) (bi : Binds K fd ["_law_script", "_law_k"] []) : Df P w K mg base "_law_cell_at" 2 1 F_law_cell_at :=
  df_def Fn sc_law_cell_at rfl hm bi fun cdv A outer s H E z => (ds_cons (ds_if (dt_cmp op_lt og_IB (nomark _) (de_var 1 (pv 1)) (de_len (by rfl) M.b_len (dq_of (de_var 0 (pv 0))))) (ds_one (ds_ret (de_ix (dq_of (de_var 0 (pv 0))) (de_var 1 (pv 1))))) ds_nil)
    (ds_one (ds_ret de_int)))

abbrev t_law_dice : Stmt := topS 24
theorem sc_law_dice : FnScope ["_law_cell"] ["_law_cell"] (defScope t_law_dice) := ⟨rfl, rfl, rfl, by decide +kernel, rfl, by decide +kernel, by decide +kernel⟩
theorem ok_law_dice {f : Addr} {fd : FuncData} (b_int : mg "int" = none) (Fn : Fun K "_law_dice" "_law_dice" t_law_dice f fd) (hm : mg "_law_dice" = some (.ref f)) (bi : Binds K fd ["_law_cell"] []) : Df P w K mg base "_law_dice" 1 1 F_law_dice := by
  refine ⟨f, fd, _, hm, Fn.kp, bi, Fn.okX sc_law_dice (fun vs H Q E ⟨A, ds, s, h, hl, _⟩ => by rw [da_len h, hl]; rfl) fun cdv A outer s H vs Q E hr hsp => ?_⟩
  obtain ⟨A0, ds, hs, h, hl, q⟩ := hsp
  have hex : ∃ n : Int, vs = [.int n] ∧ Fin K mg (rD K) E A0 H (.ok (.dict [])) Q := by
    cases h with
    | nil => cases hl
    | cons h1 h2 =>
    cases h2 with
    | cons _ _ => cases hl
    | nil =>
    unfold F_law_dice at q
    split at q
    · rename_i n hq
      cases hq
      cases h1
      exact ⟨n, rfl, q⟩
    · exact q.elim
  obtain ⟨n, rfl, q'⟩ := hex
  refine ⟨_, pss_dice (pss_one (ps_ret (pe_lst (pa_cons (pe_op op_mod (pv 0) pe_int) (pa_cons (pe_op op_mul (pe_op op_fdivW (pv 0) pe_int) (pe_callTy call_int1 (by rfl) b_int boot_int (pa_cons (pe_cmpR op_ge (pv 0) (pe_op op_pow pe_int pe_int) (nomark _)) pa_nil))) pa_nil))))), ?_⟩
  refine ⟨.int n, rfl, _, _, rfl, rfl, (by show (0 : Int) < 2147483647; decide), .int n, rfl, _, _, rfl, rfl, wide_div (b := 64) (by decide) (by decide) (by decide) (by decide), .int n, rfl, _, _, rfl, rfl, ⟨by decide, by decide, by decide⟩, _, _, rfl, rfl, .inr ⟨_, rfl, ?_⟩⟩
  refine ⟨_, _, rfl, rfl, .inr (by constructor <;> (split <;> decide)), by show 2 ≤ sizeLine; rw [sizeLine_eq]; decide, fun p hp => ?_⟩
  refine ⟨p, _, _, rfl, Int.emod_nonneg _ (by decide), ?_, upd_same, ?_⟩
  · by_cases h0 : decide ((10 : Int) ^ (18 : Int).toNat ≤ n) = true
    · have h1 : (10 : Int) ^ (18 : Int).toNat ≤ n := of_decide_eq_true h0
      have h2 : (0 : Int) ≤ n := Int.le_trans (by decide) h1
      rw [h0]
      exact Int.mul_nonneg (Int.ediv_nonneg h2 (by decide)) (by decide)
    · rw [show decide ((10 : Int) ^ (18 : Int).toNat ≤ n) = false from Bool.eq_false_iff.mpr h0]
      show (0 : Int) ≤ n / 2147483647 * 0
      omega
  · rw [upd_upd]
    have sA := hs.free hp
    exact Fin.at q' (Gr.alloc hs hp) (.tok upd_same)

abbrev t_law_roll : Stmt := topS 25
theorem sc_law_roll : FnScope ["_law_dice_here", "_law_most", "_law_found"] ["_law_dice_here", "_law_most"] (defScope t_law_roll) := ⟨rfl, rfl, rfl, by decide +kernel, rfl, by decide +kernel, by decide +kernel⟩
theorem ok_law_roll {f : Addr} {fd : FuncData} (Fn : Fun K "_law_roll" "_law_roll" t_law_roll f fd) (hm : mg "_law_roll" = some (.ref f)) (bi : Binds K fd ["_law_dice_here", "_law_most"] []) : Df P w K mg base "_law_roll" 2 1 F_law_roll := by
  refine ⟨f, fd, _, hm, Fn.kp, bi, Fn.okX sc_law_roll (fun vs H Q E ⟨A, ds, s, h, hl, _⟩ => by rw [da_len h, hl]; rfl) fun cdv A outer s H vs Q E hr hsp => ?_⟩
  obtain ⟨A0, ds, hs, h, hl, q⟩ := hsp
  have nd := sc_law_roll.nd
  have hex : ∃ (a : Addr) (m : Int), ds = [.dict [], .int m] ∧ vs = [.ref a, .int m] ∧ H a = some (.ext (tokP a)) ∧ 0 < m ∧ m < 2 ^ 60 ∧ ∀ r : Int, 0 ≤ r → r < m → Q (.int r) H := by
    cases h with
    | nil => cases hl
    | cons h1 h2 =>
    cases h2 with
    | nil => cases hl
    | cons h2 h3 =>
    cases h3 with
    | cons _ _ => cases hl
    | nil =>
    unfold F_law_roll at q
    split at q
    · rename_i m hq
      cases hq
      cases h2
      cases h1 with
      | tok ha =>
        split at q
        · rename_i hm
          have hm := rollOk_iff hm
          exact ⟨_, m, rfl, rfl, hs _ _ ha, hm.1, hm.2, fun r h1 h2 => Fin.now (q r ⟨h1, h2⟩) hs (.int r)⟩
        · exact q.elim
    · exact q.elim
  obtain ⟨a, m, rfl, rfl, ha, hm1, hm2, q'⟩ := hex
  have ix0 : ∀ {xs : List V} {v : V}, xs[0]? = some v → atI xs 0 = some v := fun h => atI_nat (j := 0) h
  have cd : CDivW 0 m := wide_div (b := 64) hm1 (by omega) (by decide) (by decide)
  have cd7 : CDivW 0 7 := wide_div (b := 64) (by decide) (by decide) (by decide) (by decide)
  refine ⟨_, pss_look (pss_cons (ps_if (pt_cmpR op_gt (pe_ix ix_list (pv 0) pe_int (fun _ _ => rfl)) pe_int (nomark _))
      (pss_cons (ps_set (i := 2) nd rfl (.inl rfl) (pe_op op_mod (pe_ix ix_list (pv 0) pe_int (fun _ _ => rfl)) (pv 1)))
        (pss_cons (ps_asg (pe_op op_fdivW (pe_ix ix_list (pv 0) pe_int (fun _ _ => rfl)) (pv 1)) (pg_sub (pv 0) pe_int set_list)) (pss_one (ps_ret (pv 2))))) pss_nil)
    (pss_cons (ps_asg (pe_op op_mod (pe_op op_add (pe_op op_mul (pe_ix ix_list (pv 0) pe_int (fun _ _ => rfl)) pe_int) pe_int) pe_int) (pg_sub (pv 0) pe_int set_list))
      (pss_one (ps_ret (pe_op op_mod (pe_op op_fdivW (pe_ix ix_list (pv 0) pe_int (fun _ _ => rfl)) pe_int) (pv 1)))))), a, ha, fun x y hx hy => ?_⟩
  have hl0 : (upd H a (.lst [.int x, .int y])) a = some (.lst [.int x, .int y]) := upd_same
  refine ⟨.ref a, rfl, a, _, 1, .int y, rfl, rfl, SqL.of hl0, atI_nat (j := 1) rfl, _, _, rfl, rfl, _, rfl, ite2 (fun _ => ?_) (fun _ => ?_)⟩
  · refine ⟨.ref a, rfl, a, _, 1, .int y, rfl, rfl, SqL.of hl0, atI_nat (j := 1) rfl, .int m, rfl, _, _, rfl, rfl, hm1, ?_⟩
    refine ⟨.ref a, rfl, a, _, 1, .int y, rfl, rfl, SqL.of hl0, atI_nat (j := 1) rfl, .int m, rfl, _, _, rfl, rfl, cd, ?_⟩
    refine ⟨.ref a, rfl, a, [.int x, .int y], 1, 1, rfl, rfl, hl0, rfl, ?_⟩
    refine ⟨.int (y % m), rfl, x, y / m, hx, Int.ediv_nonneg hy (by omega), ?_, ?_⟩
    · rw [upd_upd, upd_same]; rfl
    · rw [upd_upd, upd_upd, upd_back ha]
      exact q' _ (Int.emod_nonneg _ (by omega)) (Int.emod_lt_of_pos _ hm1)
  · refine ⟨.ref a, rfl, a, _, 0, .int x, rfl, rfl, SqL.of hl0, atI_nat (j := 0) rfl, _, _, rfl, rfl, .inr ⟨by decide, by decide⟩, _, _, rfl, rfl, _, _, rfl, rfl, (by show (0 : Int) < 2147483647; decide), ?_⟩
    refine ⟨.ref a, rfl, a, [.int x, .int y], 0, 0, rfl, rfl, hl0, rfl, ?_⟩
    have hl1 : (upd (upd H a (.lst [.int x, .int y])) a (.lst [.int ((x * 48271 + 11) % 2147483647), .int y])) a = some (.lst [.int ((x * 48271 + 11) % 2147483647), .int y]) := upd_same
    refine ⟨.ref a, rfl, a, _, 0, _, rfl, rfl, SqL.of hl1, atI_nat (j := 0) rfl, _, _, rfl, rfl, wide_div (b := 64) (by decide) (by decide) (by decide) (by decide), .int m, rfl, _, _, rfl, rfl, hm1, ?_⟩
    refine ⟨(x * 48271 + 11) % 2147483647, y, Int.emod_nonneg _ (by decide), hy, hl1, ?_⟩
    rw [upd_upd, upd_upd, upd_back ha]
    exact q' _ (Int.emod_nonneg _ (by omega)) (Int.emod_lt_of_pos _ hm1)

abbrev t_law_whole : Stmt := topS 26
abbrev n_law_whole : List Str := ["_law_found"]
theorem sc_law_whole : FnScope n_law_whole ["_law_found"] (defScope t_law_whole) := ⟨rfl, rfl, rfl, by decide +kernel, rfl, by decide +kernel, by decide +kernel⟩
theorem ok_law_whole {f : Addr} {fd : FuncData} (M : Md K mg) (Fn : Fun K "_law_whole" "_law_whole" t_law_whole f fd) (hm : mg "_law_whole" = some (.ref f)) (bi : Binds K fd ["_law_found"] []) : Df P w K mg base "_law_whole" 1 1 F_law_whole :=
  df_def Fn sc_law_whole rfl hm bi fun cdv A outer s H E z => (ds_one (ds_ret (dv_bool (dv_and (dv_isi (T := "int") (by rfl) M.b_isinstance (dh_of (de_var 0 (pv 0))) (by rfl) M.b_int (by decide +kernel)) (dv_one (dv_not (dv_isi (T := "bool") (by rfl) M.b_isinstance (dh_of (de_var 0 (pv 0))) (by rfl) M.b_bool (by decide +kernel))))))))

abbrev t_law_river : Stmt := topS 27
abbrev n_law_river : List Str := ["_law_dice_here", "_law_many", "_law_out", "_law_k", "_law_slow", "_law_depths", "_law_turn"]
theorem sc_law_river : FnScope n_law_river ["_law_dice_here", "_law_many"] (defScope t_law_river) := ⟨rfl, rfl, rfl, by decide +kernel, rfl, by decide +kernel, by decide +kernel⟩
theorem ok_law_river {f : Addr} {fd : FuncData} (M : Md K mg) (Fn : Fun K "_law_river" "_law_river" t_law_river f fd) (hm : mg "_law_river" = some (.ref f)) (bi : Binds K fd ["_law_dice_here", "_law_many"] []) (d_law_roll : Df P w K mg base "_law_roll" 2 1 F_law_roll) : Df P w K mg base "_law_river" 2 2 F_law_river :=
  df_def Fn sc_law_river rfl hm bi fun cdv A outer s H E z => (ds_cons (ds_setF (i := 2) z (df_lst da_nil))
    (ds_cons (ds_forR1 z (by rfl) M.b_range (tg_name 3) (pg_name (i := 3) sc_law_river.nd rfl (by first | exact .inl rfl | exact .inr rfl)) (de_var 1 (pv 1)) (ds_cons (ds_set (i := 4) z (de_intB (by rfl) M.b_int (dv_bool (dv_cmp (op_eqD z.toCz.hr.units) og_eq (nomark _) (dh_of (de_call (z.toCz.mono (by decide)) d_law_roll (by rfl) (da_cons (de_var 0 (pv 0)) (da_cons de_int da_nil)))) (dh_of de_int)))))
    (ds_cons (ds_setF (i := 5) z (df_lst da_nil))
    (ds_cons (ds_forR1 z (by rfl) M.b_range (tg_name 6) (pg_name (i := 6) sc_law_river.nd rfl (by first | exact .inl rfl | exact .inr rfl)) (de_ix (dq_l (dl_new (df_lst (da_cons (de_add de_int (de_call (z.toCz.mono (by decide)) d_law_roll (by rfl) (da_cons (de_var 0 (pv 0)) (da_cons de_int da_nil)))) (da_cons de_int da_nil))))) (de_var 4 (pv 4))) (ds_one (ds_app (i := 5) (pv 5) (de_ix (dq_l (dl_new (df_lst (da_cons (de_add de_int (de_call (z.toCz.mono (by decide)) d_law_roll (by rfl) (da_cons (de_var 0 (pv 0)) (da_cons de_int da_nil)))) (da_cons de_int da_nil))))) (de_intB (by rfl) M.b_int (dv_bool (dv_cmp (op_eqD z.toCz.hr.units) og_eq (nomark _) (dh_of (de_call (z.toCz.mono (by decide)) d_law_roll (by rfl) (da_cons (de_var 0 (pv 0)) (da_cons de_int da_nil)))) (dh_of de_int))))))))
    (ds_one (ds_app (i := 2) (pv 2) (de_tup (da_cons (de_add de_int (de_call (z.toCz.mono (by decide)) d_law_roll (by rfl) (da_cons (de_var 0 (pv 0)) (da_cons (de_ix (dq_l (dl_new (df_lst (da_cons de_int (da_cons de_int da_nil))))) (de_var 4 (pv 4))) da_nil)))) (da_cons (de_add de_int (de_call (z.toCz.mono (by decide)) d_law_roll (by rfl) (da_cons (de_var 0 (pv 0)) (da_cons (de_ix (dq_l (dl_new (df_lst (da_cons de_int (da_cons de_int da_nil))))) (de_var 4 (pv 4))) da_nil)))) (da_cons (de_u (du_tupleL (by rfl) M.b_tuple (dl_var 5 (pv 5)))) da_nil))))))))))
    (ds_one (ds_ret (de_u (du_tupleL (by rfl) M.b_tuple (dl_var 2 (pv 2))))))))

abbrev t_law_time : Stmt := topS 28
abbrev n_law_time : List Str := ["_law_river_here", "_law_place", "_law_hour", "_law_stretch"]
theorem sc_law_time : FnScope n_law_time ["_law_river_here", "_law_place", "_law_hour"] (defScope t_law_time) := ⟨rfl, rfl, rfl, by decide +kernel, rfl, by decide +kernel, by decide +kernel⟩
theorem ok_law_time {f : Addr} {fd : FuncData} (M : Md K mg) (Fn : Fun K "_law_time" "_law_time" t_law_time f fd) (hm : mg "_law_time" = some (.ref f)) (bi : Binds K fd ["_law_river_here", "_law_place", "_law_hour"] []) : Df P w K mg base "_law_time" 3 1 F_law_time :=
  df_def Fn sc_law_time rfl hm bi fun cdv A outer s H E z => (ds_one (ds_ret (de_add (de_var 2 (pv 2)) (de_sum rfl (by rfl) M.b_sum (dl_new (df_lc (own := [("_law_stretch", 3)]) (is := [3]) rfl sc_law_time.nd (pi_tup (du_slice (du_of (de_var 0 (pv 0))) do_none (do_some (de_var 1 (pv 1))))) (fun _ _ _ => lcd_tup (tg_name 3) (by decide)) (blkOk_by (N := n_law_time) (sc := defScope t_law_time) (by decide +kernel)) (fun _ _ _ _ _ => (pg_name (i := 3) sc_law_time.nd rfl (by first | exact .inl rfl | exact .inr rfl))) (fun _ _ _ _ _ => pts_yes) (fun _ _ _ _ _ => (de_ix (dq_of (de_var 3 (pv 3))) de_int))))))))

abbrev t_law_barges : Stmt := topS 29
abbrev n_law_barges : List Str := ["_law_dice_here", "_law_river_here", "_law_many", "_law_out", "_law_slack", "_law_k", "_law_begin", "_law_goal", "_law_hour", "_law_ready", "_law_due", "_law_draft", "_law_odd"]
theorem sc_law_barges : FnScope n_law_barges ["_law_dice_here", "_law_river_here", "_law_many"] (defScope t_law_barges) := ⟨rfl, rfl, rfl, by decide +kernel, rfl, by decide +kernel, by decide +kernel⟩
theorem ok_law_barges {f : Addr} {fd : FuncData} (M : Md K mg) (Fn : Fun K "_law_barges" "_law_barges" t_law_barges f fd) (hm : mg "_law_barges" = some (.ref f)) (bi : Binds K fd ["_law_dice_here", "_law_river_here", "_law_many"] []) (d_law_roll : Df P w K mg base "_law_roll" 2 1 F_law_roll) (d_law_time : Df P w K mg base "_law_time" 3 1 F_law_time) : Df P w K mg base "_law_barges" 3 2 F_law_barges :=
  df_def Fn sc_law_barges rfl hm bi fun cdv A outer s H E z => (ds_cons (ds_setF (i := 3) z (df_lst da_nil))
    (ds_cons (ds_set (i := 4) z (de_ix (dq_l (dl_new (df_lst (da_cons de_int (da_cons de_int da_nil))))) (de_intB (by rfl) M.b_int (dv_bool (dv_cmp op_gt og_IB (nomark _) (de_var 2 (pv 2)) de_int)))))
    (ds_cons (ds_forR1 z (by rfl) M.b_range (tg_name 5) (pg_name (i := 5) sc_law_barges.nd rfl (by first | exact .inl rfl | exact .inr rfl)) (de_var 2 (pv 2)) (ds_cons (ds_set (i := 6) z (de_call (z.toCz.mono (by decide)) d_law_roll (by rfl) (da_cons (de_var 0 (pv 0)) (da_cons (de_len (by rfl) M.b_len (dq_of (de_var 1 (pv 1)))) da_nil))))
    (ds_cons (ds_set (i := 7) z (de_add (de_add (de_var 6 (pv 6)) de_int) (de_call (z.toCz.mono (by decide)) d_law_roll (by rfl) (da_cons (de_var 0 (pv 0)) (da_cons (de_sub (de_len (by rfl) M.b_len (dq_of (de_var 1 (pv 1)))) (de_var 6 (pv 6))) da_nil)))))
    (ds_cons (ds_set (i := 8) z (de_call (z.toCz.mono (by decide)) d_law_roll (by rfl) (da_cons (de_var 0 (pv 0)) (da_cons de_int da_nil))))
    (ds_cons (ds_set (i := 9) z (de_max2 rfl (by rfl) M.b_max de_int (de_sub (de_call (z.toCz.mono (by decide)) d_law_time (by rfl) (da_cons (de_var 1 (pv 1)) (da_cons (de_var 6 (pv 6)) (da_cons (de_var 8 (pv 8)) da_nil)))) (de_call (z.toCz.mono (by decide)) d_law_roll (by rfl) (da_cons (de_var 0 (pv 0)) (da_cons (de_var 4 (pv 4)) da_nil))))))
    (ds_cons (ds_set (i := 10) z (de_add (de_call (z.toCz.mono (by decide)) d_law_time (by rfl) (da_cons (de_var 1 (pv 1)) (da_cons (de_var 7 (pv 7)) (da_cons (de_var 8 (pv 8)) da_nil)))) (de_call (z.toCz.mono (by decide)) d_law_roll (by rfl) (da_cons (de_var 0 (pv 0)) (da_cons (de_var 4 (pv 4)) da_nil)))))
    (ds_cons (ds_set (i := 11) z (de_ix (dq_l (dl_new (df_lst (da_cons (de_add de_int (de_call (z.toCz.mono (by decide)) d_law_roll (by rfl) (da_cons (de_var 0 (pv 0)) (da_cons de_int da_nil)))) (da_cons (de_add de_int (de_call (z.toCz.mono (by decide)) d_law_roll (by rfl) (da_cons (de_var 0 (pv 0)) (da_cons de_int da_nil)))) da_nil))))) (de_intB (by rfl) M.b_int (dv_bool (dv_cmp (op_eqD z.toCz.hr.units) og_eq (nomark _) (dh_of (de_call (z.toCz.mono (by decide)) d_law_roll (by rfl) (da_cons (de_var 0 (pv 0)) (da_cons de_int da_nil)))) (dh_of de_int))))))
    (ds_cons (ds_set (i := 12) z (de_call (z.toCz.mono (by decide)) d_law_roll (by rfl) (da_cons (de_var 0 (pv 0)) (da_cons de_int da_nil))))
    (ds_cons (ds_if (dt_cmp op_lt og_IB (nomark _) (de_var 12 (pv 12)) de_int) (ds_one (ds_asgT (tg_tup [11, 9, 10]) (pg_tup rfl (pgs_cons (pg_name (i := 11) sc_law_barges.nd rfl (by first | exact .inl rfl | exact .inr rfl)) (pgs_cons (pg_name (i := 9) sc_law_barges.nd rfl (by first | exact .inl rfl | exact .inr rfl)) (pgs_cons (pg_name (i := 10) sc_law_barges.nd rfl (by first | exact .inl rfl | exact .inr rfl)) pgs_nil)))) (de_ix (dq_l (dl_new (df_lst (da_cons (de_tup (da_cons de_int (da_cons (de_var 9 (pv 9)) (da_cons (de_var 10 (pv 10)) da_nil)))) (da_cons (de_tup (da_cons (de_var 11 (pv 11)) (da_cons de_int (da_cons de_int da_nil)))) (da_cons (de_tup (da_cons (de_var 11 (pv 11)) (da_cons (de_var 9 (pv 9)) (da_cons de_int da_nil)))) da_nil)))))) (de_var 12 (pv 12))))) ds_nil)
    (ds_one (ds_app (i := 3) (pv 3) (de_tup (da_cons (de_var 6 (pv 6)) (da_cons (de_var 7 (pv 7)) (da_cons (de_var 11 (pv 11)) (da_cons (de_var 9 (pv 9)) (da_cons (de_var 10 (pv 10)) da_nil)))))))))))))))))
    (ds_one (ds_ret (de_u (du_tupleL (by rfl) M.b_tuple (dl_var 3 (pv 3)))))))))

abbrev t_law_book : Stmt := topS 30
abbrev n_law_book : List Str := ["_law_script", "_law_most", "_law_dice_here", "_law_cell", "_law_river_here"]
theorem sc_law_book : FnScope n_law_book ["_law_script", "_law_most"] (defScope t_law_book) := ⟨rfl, rfl, rfl, by decide +kernel, rfl, by decide +kernel, by decide +kernel⟩
theorem ok_law_book {f : Addr} {fd : FuncData} (M : Md K mg) (Fn : Fun K "_law_book" "_law_book" t_law_book f fd) (hm : mg "_law_book" = some (.ref f)) (bi : Binds K fd ["_law_script", "_law_most"] []) (d_law_cell_at : Df P w K mg base "_law_cell_at" 2 1 F_law_cell_at) (d_law_dice : Df P w K mg base "_law_dice" 1 1 F_law_dice) (d_law_river : Df P w K mg base "_law_river" 2 2 F_law_river) (d_law_barges : Df P w K mg base "_law_barges" 3 2 F_law_barges) : Df P w K mg base "_law_book" 2 3 F_law_book :=
  df_def Fn sc_law_book rfl hm bi fun cdv A outer s H E z => (ds_cons (ds_set (i := 2) z (de_call (z.toCz.mono (by decide)) d_law_dice (by rfl) (da_cons (de_call (z.toCz.mono (by decide)) d_law_cell_at (by rfl) (da_cons (de_var 0 (pv 0)) (da_cons de_int da_nil))) da_nil)))
    (ds_cons (ds_set (i := 3) z (de_call (z.toCz.mono (by decide)) d_law_cell_at (by rfl) (da_cons (de_var 0 (pv 0)) (da_cons de_int da_nil))))
    (ds_cons (ds_set (i := 4) z (de_call (z.toCz.mono (by decide)) d_law_river (by rfl) (da_cons (de_var 2 (pv 2)) (da_cons (de_ix (dq_l (dl_new (df_lst (da_cons (de_add de_int (de_mod (de_var 3 (pv 3)) de_int)) (da_cons (de_add de_int (de_mod (de_var 3 (pv 3)) de_int)) da_nil))))) (de_intB (by rfl) M.b_int (dv_bool (dv_cmp (op_eqD z.toCz.hr.units) og_eq (nomark _) (dh_of (de_mod (de_div (de_var 3 (pv 3)) de_int) de_int)) (dh_of de_int))))) da_nil))))
    (ds_one (ds_ret (de_tup (da_cons (de_var 4 (pv 4)) (da_cons (de_call (z.toCz.mono (by decide)) d_law_barges (by rfl) (da_cons (de_var 2 (pv 2)) (da_cons (de_var 4 (pv 4)) (da_cons (de_mod (de_call (z.toCz.mono (by decide)) d_law_cell_at (by rfl) (da_cons (de_var 0 (pv 0)) (da_cons de_int da_nil))) (de_add (de_var 1 (pv 1)) de_int)) da_nil)))) da_nil))))))))

abbrev t_law_hours : Stmt := topS 33
abbrev n_law_hours : List Str := ["_law_plan", "_law_hour"]
theorem sc_law_hours : FnScope n_law_hours ["_law_plan"] (defScope t_law_hours) := ⟨rfl, rfl, rfl, by decide +kernel, rfl, by decide +kernel, by decide +kernel⟩
theorem ok_law_hours {f : Addr} {fd : FuncData} (M : Md K mg) (Fn : Fun K "_law_hours" "_law_hours" t_law_hours f fd) (hm : mg "_law_hours" = some (.ref f)) (bi : Binds K fd ["_law_plan"] []) : Df P w K mg base "_law_hours" 1 1 F_law_hours :=
  df_def Fn sc_law_hours rfl hm bi fun cdv A outer s H E z => (ds_one (ds_ret (de_new (df_lc (own := [("_law_hour", 1)]) (is := [1]) rfl sc_law_hours.nd (pi_range1 (by rfl) M.b_range (pa_cons de_int pa_nil)) (fun _ _ _ => lcd_rng1 (tg_name 1) (by decide)) (blkOk_by (N := n_law_hours) (sc := defScope t_law_hours) (by decide +kernel)) (fun _ _ _ _ _ => (pg_name (i := 1) sc_law_hours.nd rfl (by first | exact .inl rfl | exact .inr rfl))) (fun _ _ _ _ _ => pts_one (dt_cmp op_in_seq og_in (by rfl) (de_var 1 (pv 1)) (dq_of (de_var 0 (pv 0))))) (fun _ _ _ _ _ => (de_var 1 (pv 1)))))))

abbrev t_law_price : Stmt := topS 37
abbrev n_law_price : List Str := ["_law_book_here", "_law_plan", "_law_waits", "_law_k"]
theorem sc_law_price : FnScope n_law_price ["_law_book_here", "_law_plan"] (defScope t_law_price) := ⟨rfl, rfl, rfl, by decide +kernel, rfl, by decide +kernel, by decide +kernel⟩
theorem ok_law_price {f : Addr} {fd : FuncData} (M : Md K mg) (Fn : Fun K "_law_price" "_law_price" t_law_price f fd) (hm : mg "_law_price" = some (.ref f)) (bi : Binds K fd ["_law_book_here", "_law_plan"] []) (d_law_time : Df P w K mg base "_law_time" 3 1 F_law_time) (d_law_hours : Df P w K mg base "_law_hours" 1 1 F_law_hours) : Df P w K mg base "_law_price" 2 2 F_law_price :=
  df_def Fn sc_law_price rfl hm bi fun cdv A outer s H E z => (ds_cons (ds_set (i := 2) z de_int)
    (ds_cons (ds_forR1 z (by rfl) M.b_range (tg_name 3) (pg_name (i := 3) sc_law_price.nd rfl (by first | exact .inl rfl | exact .inr rfl)) (de_len (by rfl) M.b_len (dq_of (de_var 1 (pv 1)))) (ds_one (ds_if (dt_cmp op_notN og_notN (nomark _) (dh_of (de_ix (dq_of (de_var 1 (pv 1))) (de_var 3 (pv 3)))) de_non) (ds_one (ds_set (i := 2) z (de_sub (de_add (de_var 2 (pv 2)) (de_call (z.toCz.mono (by decide)) d_law_time (by rfl) (da_cons (de_ix (dq_of (de_var 0 (pv 0))) de_int) (da_cons (de_ix (dq_of (de_ix (dq_of (de_ix (dq_of (de_var 0 (pv 0))) de_int)) (de_var 3 (pv 3)))) de_int) (da_cons (de_ix (dq_of (de_var 1 (pv 1))) (de_var 3 (pv 3))) da_nil))))) (de_ix (dq_of (de_ix (dq_of (de_ix (dq_of (de_var 0 (pv 0))) de_int)) (de_var 3 (pv 3)))) de_int)))) ds_nil)))
    (ds_one (ds_ret (de_tup (da_cons (de_len (by rfl) M.b_len (dq_of (de_call (z.toCz.mono (by decide)) d_law_hours (by rfl) (da_cons (de_var 1 (pv 1)) da_nil)))) (da_cons (de_var 2 (pv 2)) da_nil)))))))

abbrev t_law : Stmt := topS 39
abbrev n_law : List Str := ["_law_script", "_law_book_here", "_law_dice_here", "_law_turn", "_law_plan", "_law_k", "_law_found", "_law_number"]
theorem sc_law : FnScope n_law ["_law_script"] (defScope t_law) := ⟨rfl, rfl, rfl, by decide +kernel, rfl, by decide +kernel, by decide +kernel⟩
theorem ok_law0 {f : Addr} {fd : FuncData} (M : Md K mg) (Fn : Fun K "law" "law" t_law f fd) (d_law_book : Df P w K mg base "_law_book" 2 3 F_law_book) (d_law_cell_at : Df P w K mg base "_law_cell_at" 2 1 F_law_cell_at) (d_law_dice : Df P w K mg base "_law_dice" 1 1 F_law_dice) (d_law_roll : Df P w K mg base "_law_roll" 2 1 F_law_roll) (d_worth : Df P w K mg base "worth" 2 6 F_worth) (d_law_price : Df P w K mg base "_law_price" 2 2 F_law_price) (d_law_whole : Df P w K mg base "_law_whole" 1 1 F_law_whole) : FnOk P w K mg base (L2.CX P w) 7 f fd ["_law_script"] (spR K mg 1 F_law) :=
  fn_def Fn sc_law rfl fun cdv A outer s H E z => (ds_cons (ds_set (i := 1) z (de_call (z.toCz.mono (by decide)) d_law_book (by rfl) (da_cons (de_var 0 (pv 0)) (da_cons de_int da_nil))))
    (ds_cons (ds_set (i := 2) z (de_call (z.toCz.mono (by decide)) d_law_dice (by rfl) (da_cons (de_call (z.toCz.mono (by decide)) d_law_cell_at (by rfl) (da_cons (de_var 0 (pv 0)) (da_cons de_int da_nil))) da_nil)))
    (ds_cons (ds_forR1 z (by rfl) M.b_range (tg_name 3) (pg_name (i := 3) sc_law.nd rfl (by first | exact .inl rfl | exact .inr rfl)) de_int (ds_cons (ds_setF (i := 4) z (df_lst da_nil))
    (ds_cons (ds_forR1 z (by rfl) M.b_range (tg_name 5) (pg_name (i := 5) sc_law.nd rfl (by first | exact .inl rfl | exact .inr rfl)) (de_len (by rfl) M.b_len (dq_of (de_ix (dq_of (de_var 1 (pv 1))) de_int))) (ds_one (ds_app (i := 4) (pv 4) (de_ix (dq_l (dl_new (df_lst (da_cons de_non (da_cons (de_call (z.toCz.mono (by decide)) d_law_roll (by rfl) (da_cons (de_var 2 (pv 2)) (da_cons de_int da_nil))) (da_cons (de_call (z.toCz.mono (by decide)) d_law_roll (by rfl) (da_cons (de_var 2 (pv 2)) (da_cons de_int da_nil))) da_nil)))))) (de_call (z.toCz.mono (by decide)) d_law_roll (by rfl) (da_cons (de_var 2 (pv 2)) (da_cons de_int da_nil)))))))
    (ds_cons (ds_set (i := 6) z (de_call (z.toCz.mono (by decide)) d_worth (by rfl) (da_cons (de_var 1 (pv 1)) (da_cons (de_u (du_tupleL (by rfl) M.b_tuple (dl_var 4 (pv 4)))) da_nil))))
    (ds_cons (ds_if (dw_pt (dw_or (dt_not (dt_dv (dv_isi (T := "tuple") (by rfl) M.b_isinstance (dh_of (de_var 6 (pv 6))) (by rfl) M.b_tuple (by decide +kernel)))) (dw_or1 (dt_cmp (op_neD z.toCz.hr.units) og_ne (nomark _) (dh_of (de_var 6 (pv 6))) (dh_of (de_call (z.toCz.mono (by decide)) d_law_price (by rfl) (da_cons (de_var 1 (pv 1)) (da_cons (de_u (du_tupleL (by rfl) M.b_tuple (dl_var 4 (pv 4)))) da_nil)))))))) (ds_one (ds_ret de_bl)) ds_nil)
    (ds_one (ds_if (dt_cmp (op_neD z.toCz.hr.units) og_ne (nomark _) (dh_of (de_new (df_lc (own := [("_law_number", 7)]) (is := [7]) rfl sc_law.nd (pi_tup (du_of (de_var 6 (pv 6)))) (fun _ _ _ => lcd_tup (tg_name 7) (by decide)) (blkOk_by (N := n_law) (sc := defScope t_law) (by decide +kernel)) (fun _ _ _ _ _ => (pg_name (i := 7) sc_law.nd rfl (by first | exact .inl rfl | exact .inr rfl))) (fun _ _ _ _ _ => pts_one (dt_not (dt_dv (dv_of (de_call ((z.toCz.blk _ _ _ _ _).mono (by decide)) d_law_whole (by rfl) (da_cons (de_var 7 (pv 7)) da_nil)))))) (fun _ _ _ _ _ => (de_var 7 (pv 7)))))) (dh_of (de_new (df_lst da_nil)))) (ds_one (ds_ret de_bl)) ds_nil)))))))
    (ds_one (ds_ret (dv_bool (dv_cmp (op_eqD z.toCz.hr.units) og_eq (nomark _) (dh_of (de_call (z.toCz.mono (by decide)) d_worth (by rfl) (da_cons (de_var 1 (pv 1)) (da_cons (de_u (du_repA (du_of (de_tup (da_cons de_non da_nil))) (de_len (by rfl) M.b_len (dq_of (de_ix (dq_of (de_var 1 (pv 1))) de_int))))) da_nil)))) (dh_of (de_tup (da_cons de_int (da_cons de_int da_nil)))))))))))

end
theorem all_mk {l : PySem.W.OpenLaw} {w : World} {K : PySem.W.Frag} {h : Heap} {mg : Str → Option Value} {fa : Addr} (X : K.In h) (G : h.Ns mainGlobals mg) (hfa : mg "law" = some (.ref fa))
    {f0 : Addr} {od0 an0 : Option Addr} {sl0 : Array (Option Value)} {oc0 kV0 dc0 pm0 cd0 ct0 : Value}
    {f1 : Addr} {od1 an1 : Option Addr} {sl1 : Array (Option Value)} {oc1 kV1 dc1 pm1 cd1 ct1 : Value}
    {f2 : Addr} {od2 an2 : Option Addr} {sl2 : Array (Option Value)} {oc2 kV2 dc2 pm2 cd2 ct2 : Value}
    {f3 : Addr} {od3 an3 : Option Addr} {sl3 : Array (Option Value)} {oc3 kV3 dc3 pm3 cd3 ct3 : Value}
    {f4 : Addr} {od4 an4 : Option Addr} {sl4 : Array (Option Value)} {oc4 kV4 dc4 pm4 cd4 ct4 : Value}
    {f5 : Addr} {od5 an5 : Option Addr} {sl5 : Array (Option Value)} {oc5 kV5 dc5 pm5 cd5 ct5 : Value}
    {f6 : Addr} {od6 an6 : Option Addr} {sl6 : Array (Option Value)} {oc6 kV6 dc6 pm6 cd6 ct6 : Value}
    {f7 : Addr} {od7 an7 : Option Addr} {sl7 : Array (Option Value)} {oc7 kV7 dc7 pm7 cd7 ct7 : Value}
    {f8 : Addr} {od8 an8 : Option Addr} {sl8 : Array (Option Value)} {oc8 kV8 dc8 pm8 cd8 ct8 : Value}
    {f9 : Addr} {od9 an9 : Option Addr} {sl9 : Array (Option Value)} {oc9 kV9 dc9 pm9 cd9 ct9 : Value}
    {f10 : Addr} {od10 an10 : Option Addr} {sl10 : Array (Option Value)} {oc10 kV10 dc10 pm10 cd10 ct10 : Value}
    {f11 : Addr} {od11 an11 : Option Addr} {sl11 : Array (Option Value)} {oc11 kV11 dc11 pm11 cd11 ct11 : Value}
    {f12 : Addr} {od12 an12 : Option Addr} {sl12 : Array (Option Value)} {oc12 kV12 dc12 pm12 cd12 ct12 : Value}
    {f13 : Addr} {od13 an13 : Option Addr} {sl13 : Array (Option Value)} {oc13 kV13 dc13 pm13 cd13 ct13 : Value}
    {f14 : Addr} {od14 an14 : Option Addr} {sl14 : Array (Option Value)} {oc14 kV14 dc14 pm14 cd14 ct14 : Value}
    {f15 : Addr} {od15 an15 : Option Addr} {sl15 : Array (Option Value)} {oc15 kV15 dc15 pm15 cd15 ct15 : Value}
    {f16 : Addr} {od16 an16 : Option Addr} {sl16 : Array (Option Value)} {oc16 kV16 dc16 pm16 cd16 ct16 : Value}
    {f17 : Addr} {od17 an17 : Option Addr} {sl17 : Array (Option Value)} {oc17 kV17 dc17 pm17 cd17 ct17 : Value}
    {f18 : Addr} {od18 an18 : Option Addr} {sl18 : Array (Option Value)} {oc18 kV18 dc18 pm18 cd18 ct18 : Value}
    {f19 : Addr} {od19 an19 : Option Addr} {sl19 : Array (Option Value)} {oc19 kV19 dc19 pm19 cd19 ct19 : Value}
    {f20 : Addr} {od20 an20 : Option Addr} {sl20 : Array (Option Value)} {oc20 kV20 dc20 pm20 cd20 ct20 : Value}
    {f21 : Addr} {od21 an21 : Option Addr} {sl21 : Array (Option Value)} {oc21 kV21 dc21 pm21 cd21 ct21 : Value}
    {tk_HOURS : Tok}
    {tk_MOST_BARGES : Tok}
    {tk_MOST_DEPTHS : Tok}
    {tk_MOST_STRETCHES : Tok}
    {C_BadBook : Addr}
    {C_BadPlan : Addr}
    (a0 : PySem.W.nsIn K mainGlobals "must" = some (some (.ref f0)))
    (l0 : K.lookup f0 = some ⟨oc0, od0, .func (PySem.W.fnOf "must" "must" (defArgs t_must_books) (defBody t_must_books) (defScope t_must_books) .none kV0 dc0 pm0 an0 cd0 ct0), sl0⟩)
    (c0 : PySem.W.codeIn K cd0 "must" = true)
    (k0 : PySem.W.keepIn K (.ref f0) = true)
    (a1 : PySem.W.nsIn K mainGlobals "is_number" = some (some (.ref f1)))
    (l1 : K.lookup f1 = some ⟨oc1, od1, .func (PySem.W.fnOf "is_number" "is_number" (defArgs t_is_number) (defBody t_is_number) (defScope t_is_number) .none kV1 dc1 pm1 an1 cd1 ct1), sl1⟩)
    (c1 : PySem.W.codeIn K cd1 "is_number" = true)
    (k1 : PySem.W.keepIn K (.ref f1) = true)
    (a2 : PySem.W.nsIn K mainGlobals "need_tuple" = some (some (.ref f2)))
    (l2 : K.lookup f2 = some ⟨oc2, od2, .func (PySem.W.fnOf "need_tuple" "need_tuple" (defArgs t_need_tuple) (defBody t_need_tuple) (defScope t_need_tuple) .none kV2 dc2 pm2 an2 cd2 ct2), sl2⟩)
    (c2 : PySem.W.codeIn K cd2 "need_tuple" = true)
    (k2 : PySem.W.keepIn K (.ref f2) = true)
    (a3 : PySem.W.nsIn K mainGlobals "need_stretch" = some (some (.ref f3)))
    (l3 : K.lookup f3 = some ⟨oc3, od3, .func (PySem.W.fnOf "need_stretch" "need_stretch" (defArgs t_need_stretch) (defBody t_need_stretch) (defScope t_need_stretch) .none kV3 dc3 pm3 an3 cd3 ct3), sl3⟩)
    (c3 : PySem.W.codeIn K cd3 "need_stretch" = true)
    (k3 : PySem.W.keepIn K (.ref f3) = true)
    (a4 : PySem.W.nsIn K mainGlobals "need_barge" = some (some (.ref f4)))
    (l4 : K.lookup f4 = some ⟨oc4, od4, .func (PySem.W.fnOf "need_barge" "need_barge" (defArgs t_need_barge) (defBody t_need_barge) (defScope t_need_barge) .none kV4 dc4 pm4 an4 cd4 ct4), sl4⟩)
    (c4 : PySem.W.codeIn K cd4 "need_barge" = true)
    (k4 : PySem.W.keepIn K (.ref f4) = true)
    (a5 : PySem.W.nsIn K mainGlobals "need_book" = some (some (.ref f5)))
    (l5 : K.lookup f5 = some ⟨oc5, od5, .func (PySem.W.fnOf "need_book" "need_book" (defArgs t_need_book) (defBody t_need_book) (defScope t_need_book) .none kV5 dc5 pm5 an5 cd5 ct5), sl5⟩)
    (c5 : PySem.W.codeIn K cd5 "need_book" = true)
    (k5 : PySem.W.keepIn K (.ref f5) = true)
    (a6 : PySem.W.nsIn K mainGlobals "need_plan" = some (some (.ref f6)))
    (l6 : K.lookup f6 = some ⟨oc6, od6, .func (PySem.W.fnOf "need_plan" "need_plan" (defArgs t_need_plan) (defBody t_need_plan) (defScope t_need_plan) .none kV6 dc6 pm6 an6 cd6 ct6), sl6⟩)
    (c6 : PySem.W.codeIn K cd6 "need_plan" = true)
    (k6 : PySem.W.keepIn K (.ref f6) = true)
    (a7 : PySem.W.nsIn K mainGlobals "hours_in" = some (some (.ref f7)))
    (l7 : K.lookup f7 = some ⟨oc7, od7, .func (PySem.W.fnOf "hours_in" "hours_in" (defArgs t_hours_in) (defBody t_hours_in) (defScope t_hours_in) .none kV7 dc7 pm7 an7 cd7 ct7), sl7⟩)
    (c7 : PySem.W.codeIn K cd7 "hours_in" = true)
    (k7 : PySem.W.keepIn K (.ref f7) = true)
    (a8 : PySem.W.nsIn K mainGlobals "passes" = some (some (.ref f8)))
    (l8 : K.lookup f8 = some ⟨oc8, od8, .func (PySem.W.fnOf "passes" "passes" (defArgs t_passes) (defBody t_passes) (defScope t_passes) .none kV8 dc8 pm8 an8 cd8 ct8), sl8⟩)
    (c8 : PySem.W.codeIn K cd8 "passes" = true)
    (k8 : PySem.W.keepIn K (.ref f8) = true)
    (a9 : PySem.W.nsIn K mainGlobals "worth_of" = some (some (.ref f9)))
    (l9 : K.lookup f9 = some ⟨oc9, od9, .func (PySem.W.fnOf "worth_of" "worth_of" (defArgs t_worth_of) (defBody t_worth_of) (defScope t_worth_of) .none kV9 dc9 pm9 an9 cd9 ct9), sl9⟩)
    (c9 : PySem.W.codeIn K cd9 "worth_of" = true)
    (k9 : PySem.W.keepIn K (.ref f9) = true)
    (a10 : PySem.W.nsIn K mainGlobals "worth" = some (some (.ref f10)))
    (l10 : K.lookup f10 = some ⟨oc10, od10, .func (PySem.W.fnOf "worth" "worth" (defArgs t_worth) (defBody t_worth) (defScope t_worth) .none kV10 dc10 pm10 an10 cd10 ct10), sl10⟩)
    (c10 : PySem.W.codeIn K cd10 "worth" = true)
    (k10 : PySem.W.keepIn K (.ref f10) = true)
    (a11 : PySem.W.nsIn K mainGlobals "_law_cell_at" = some (some (.ref f11)))
    (l11 : K.lookup f11 = some ⟨oc11, od11, .func (PySem.W.fnOf "_law_cell_at" "_law_cell_at" (defArgs t_law_cell_at) (defBody t_law_cell_at) (defScope t_law_cell_at) .none kV11 dc11 pm11 an11 cd11 ct11), sl11⟩)
    (c11 : PySem.W.codeIn K cd11 "_law_cell_at" = true)
    (k11 : PySem.W.keepIn K (.ref f11) = true)
    (a12 : PySem.W.nsIn K mainGlobals "_law_dice" = some (some (.ref f12)))
    (l12 : K.lookup f12 = some ⟨oc12, od12, .func (PySem.W.fnOf "_law_dice" "_law_dice" (defArgs t_law_dice) (defBody t_law_dice) (defScope t_law_dice) .none kV12 dc12 pm12 an12 cd12 ct12), sl12⟩)
    (c12 : PySem.W.codeIn K cd12 "_law_dice" = true)
    (k12 : PySem.W.keepIn K (.ref f12) = true)
    (a13 : PySem.W.nsIn K mainGlobals "_law_roll" = some (some (.ref f13)))
    (l13 : K.lookup f13 = some ⟨oc13, od13, .func (PySem.W.fnOf "_law_roll" "_law_roll" (defArgs t_law_roll) (defBody t_law_roll) (defScope t_law_roll) .none kV13 dc13 pm13 an13 cd13 ct13), sl13⟩)
    (c13 : PySem.W.codeIn K cd13 "_law_roll" = true)
    (k13 : PySem.W.keepIn K (.ref f13) = true)
    (a14 : PySem.W.nsIn K mainGlobals "_law_whole" = some (some (.ref f14)))
    (l14 : K.lookup f14 = some ⟨oc14, od14, .func (PySem.W.fnOf "_law_whole" "_law_whole" (defArgs t_law_whole) (defBody t_law_whole) (defScope t_law_whole) .none kV14 dc14 pm14 an14 cd14 ct14), sl14⟩)
    (c14 : PySem.W.codeIn K cd14 "_law_whole" = true)
    (k14 : PySem.W.keepIn K (.ref f14) = true)
    (a15 : PySem.W.nsIn K mainGlobals "_law_river" = some (some (.ref f15)))
    (l15 : K.lookup f15 = some ⟨oc15, od15, .func (PySem.W.fnOf "_law_river" "_law_river" (defArgs t_law_river) (defBody t_law_river) (defScope t_law_river) .none kV15 dc15 pm15 an15 cd15 ct15), sl15⟩)
    (c15 : PySem.W.codeIn K cd15 "_law_river" = true)
    (k15 : PySem.W.keepIn K (.ref f15) = true)
    (a16 : PySem.W.nsIn K mainGlobals "_law_time" = some (some (.ref f16)))
    (l16 : K.lookup f16 = some ⟨oc16, od16, .func (PySem.W.fnOf "_law_time" "_law_time" (defArgs t_law_time) (defBody t_law_time) (defScope t_law_time) .none kV16 dc16 pm16 an16 cd16 ct16), sl16⟩)
    (c16 : PySem.W.codeIn K cd16 "_law_time" = true)
    (k16 : PySem.W.keepIn K (.ref f16) = true)
    (a17 : PySem.W.nsIn K mainGlobals "_law_barges" = some (some (.ref f17)))
    (l17 : K.lookup f17 = some ⟨oc17, od17, .func (PySem.W.fnOf "_law_barges" "_law_barges" (defArgs t_law_barges) (defBody t_law_barges) (defScope t_law_barges) .none kV17 dc17 pm17 an17 cd17 ct17), sl17⟩)
    (c17 : PySem.W.codeIn K cd17 "_law_barges" = true)
    (k17 : PySem.W.keepIn K (.ref f17) = true)
    (a18 : PySem.W.nsIn K mainGlobals "_law_book" = some (some (.ref f18)))
    (l18 : K.lookup f18 = some ⟨oc18, od18, .func (PySem.W.fnOf "_law_book" "_law_book" (defArgs t_law_book) (defBody t_law_book) (defScope t_law_book) .none kV18 dc18 pm18 an18 cd18 ct18), sl18⟩)
    (c18 : PySem.W.codeIn K cd18 "_law_book" = true)
    (k18 : PySem.W.keepIn K (.ref f18) = true)
    (a19 : PySem.W.nsIn K mainGlobals "_law_hours" = some (some (.ref f19)))
    (l19 : K.lookup f19 = some ⟨oc19, od19, .func (PySem.W.fnOf "_law_hours" "_law_hours" (defArgs t_law_hours) (defBody t_law_hours) (defScope t_law_hours) .none kV19 dc19 pm19 an19 cd19 ct19), sl19⟩)
    (c19 : PySem.W.codeIn K cd19 "_law_hours" = true)
    (k19 : PySem.W.keepIn K (.ref f19) = true)
    (a20 : PySem.W.nsIn K mainGlobals "_law_price" = some (some (.ref f20)))
    (l20 : K.lookup f20 = some ⟨oc20, od20, .func (PySem.W.fnOf "_law_price" "_law_price" (defArgs t_law_price) (defBody t_law_price) (defScope t_law_price) .none kV20 dc20 pm20 an20 cd20 ct20), sl20⟩)
    (c20 : PySem.W.codeIn K cd20 "_law_price" = true)
    (k20 : PySem.W.keepIn K (.ref f20) = true)
    (a21 : PySem.W.nsIn K mainGlobals "law" = some (some (.ref f21)))
    (l21 : K.lookup f21 = some ⟨oc21, od21, .func (PySem.W.fnOf "law" "law" (defArgs t_law) (defBody t_law) (defScope t_law) .none kV21 dc21 pm21 an21 cd21 ct21), sl21⟩)
    (c21 : PySem.W.codeIn K cd21 "law" = true)
    (k21 : PySem.W.keepIn K (.ref f21) = true)
    (z_bool : PySem.W.nsIn K mainGlobals "bool" = some none)
    (z_int : PySem.W.nsIn K mainGlobals "int" = some none)
    (z_isinstance : PySem.W.nsIn K mainGlobals "isinstance" = some none)
    (z_len : PySem.W.nsIn K mainGlobals "len" = some none)
    (z_max : PySem.W.nsIn K mainGlobals "max" = some none)
    (z_range : PySem.W.nsIn K mainGlobals "range" = some none)
    (z_set : PySem.W.nsIn K mainGlobals "set" = some none)
    (z_sorted : PySem.W.nsIn K mainGlobals "sorted" = some none)
    (z_sum : PySem.W.nsIn K mainGlobals "sum" = some none)
    (z_tuple : PySem.W.nsIn K mainGlobals "tuple" = some none)
    (z_HOURS : PySem.W.nsIn K mainGlobals "HOURS" = some (some (.int 12 tk_HOURS)))
    (z_MOST_BARGES : PySem.W.nsIn K mainGlobals "MOST_BARGES" = some (some (.int 7 tk_MOST_BARGES)))
    (z_MOST_DEPTHS : PySem.W.nsIn K mainGlobals "MOST_DEPTHS" = some (some (.int 24 tk_MOST_DEPTHS)))
    (z_MOST_STRETCHES : PySem.W.nsIn K mainGlobals "MOST_STRETCHES" = some (some (.int 8 tk_MOST_STRETCHES)))
    (z_BadBook : PySem.W.nsIn K mainGlobals "BadBook" = some (some (.ref C_BadBook)))
    (e_BadBook : PySem.W.excIn K C_BadBook [.type "ValueError", .type "Exception", .type "BaseException", .type "object"] "ValueError.__new__" = true)
    (k_BadBook : PySem.W.keepIn K (.ref C_BadBook) = true)
    (s_BadBook : PySem.W.subIn K (.ref C_BadBook) (.type "BaseException") = some true)
    (t_BadBook : PySem.W.typeIn K (.ref C_BadBook) = some (.type "type"))
    (z_BadPlan : PySem.W.nsIn K mainGlobals "BadPlan" = some (some (.ref C_BadPlan)))
    (e_BadPlan : PySem.W.excIn K C_BadPlan [.type "ValueError", .type "Exception", .type "BaseException", .type "object"] "ValueError.__new__" = true)
    (k_BadPlan : PySem.W.keepIn K (.ref C_BadPlan) = true)
    (s_BadPlan : PySem.W.subIn K (.ref C_BadPlan) (.type "BaseException") = some true)
    (t_BadPlan : PySem.W.typeIn K (.ref C_BadPlan) = some (.type "type")) :
    ∃ fd : FuncData, (∀ (s : Shared) (v : Value), BindsTo s fd ⟨[v], []⟩ [("_law_script", v)]) ∧ ∀ base : Heap, K.In base → base.Ns mainGlobals mg → FnOk l.prog w K mg base (L2.CX l.prog w) 7 fa fd ["_law_script"] (spLaw K) := by
  have e := hfa.symm.trans (PySem.W.mg_of X G a21)
  cases e
  have M : Md K mg := { b_bool := PySem.W.mg_none_of X G z_bool, b_int := PySem.W.mg_none_of X G z_int, b_isinstance := PySem.W.mg_none_of X G z_isinstance, b_len := PySem.W.mg_none_of X G z_len, b_max := PySem.W.mg_none_of X G z_max, b_range := PySem.W.mg_none_of X G z_range, b_set := PySem.W.mg_none_of X G z_set, b_sorted := PySem.W.mg_none_of X G z_sorted, b_sum := PySem.W.mg_none_of X G z_sum, b_tuple := PySem.W.mg_none_of X G z_tuple, c_HOURS := ⟨_, PySem.W.mg_of X G z_HOURS⟩, c_MOST_BARGES := ⟨_, PySem.W.mg_of X G z_MOST_BARGES⟩, c_MOST_DEPTHS := ⟨_, PySem.W.mg_of X G z_MOST_DEPTHS⟩, c_MOST_STRETCHES := ⟨_, PySem.W.mg_of X G z_MOST_STRETCHES⟩, x_BadBook := ⟨_, PySem.W.mg_of X G z_BadBook, e_BadBook, k_BadBook, s_BadBook, t_BadBook⟩, x_BadPlan := ⟨_, PySem.W.mg_of X G z_BadPlan, e_BadPlan, k_BadPlan, s_BadPlan, t_BadPlan⟩ }
  have F0 := fun_mk (st := t_must_books) l0 c0 k0
  have b0 := F0.binds (ps := ["good"]) fun _ _ _ _ _ _ us hl => match us, hl with | [_], _ => rfl
  have F1 := fun_mk (st := t_is_number) l1 c1 k1
  have b1 := F1.binds (ps := ["thing", "least", "most"]) fun _ _ _ _ _ _ us hl => match us, hl with | [_, _, _], _ => rfl
  have F2 := fun_mk (st := t_need_tuple) l2 c2 k2
  have b2 := F2.binds (ps := ["thing", "least", "most"]) fun _ _ _ _ _ _ us hl => match us, hl with | [_, _, _], _ => rfl
  have F3 := fun_mk (st := t_need_stretch) l3 c3 k3
  have b3 := F3.binds (ps := ["stretch"]) fun _ _ _ _ _ _ us hl => match us, hl with | [_], _ => rfl
  have F4 := fun_mk (st := t_need_barge) l4 c4 k4
  have b4 := F4.binds (ps := ["barge", "last"]) fun _ _ _ _ _ _ us hl => match us, hl with | [_, _], _ => rfl
  have F5 := fun_mk (st := t_need_book) l5 c5 k5
  have b5 := F5.binds (ps := ["book"]) fun _ _ _ _ _ _ us hl => match us, hl with | [_], _ => rfl
  have F6 := fun_mk (st := t_need_plan) l6 c6 k6
  have b6 := F6.binds (ps := ["book", "plan"]) fun _ _ _ _ _ _ us hl => match us, hl with | [_, _], _ => rfl
  have F7 := fun_mk (st := t_hours_in) l7 c7 k7
  have b7 := F7.binds (ps := ["plan"]) fun _ _ _ _ _ _ us hl => match us, hl with | [_], _ => rfl
  have F8 := fun_mk (st := t_passes) l8 c8 k8
  have b8 := F8.binds (ps := ["book", "place", "hour"]) fun _ _ _ _ _ _ us hl => match us, hl with | [_, _, _], _ => rfl
  have F9 := fun_mk (st := t_worth_of) l9 c9 k9
  have b9 := F9.binds (ps := ["book", "plan"]) fun _ _ _ _ _ _ us hl => match us, hl with | [_, _], _ => rfl
  have F10 := fun_mk (st := t_worth) l10 c10 k10
  have b10 := F10.binds (ps := ["book", "plan"]) fun _ _ _ _ _ _ us hl => match us, hl with | [_, _], _ => rfl
  have F11 := fun_mk (st := t_law_cell_at) l11 c11 k11
  have b11 := F11.binds (ps := ["_law_script", "_law_k"]) fun _ _ _ _ _ _ us hl => match us, hl with | [_, _], _ => rfl
  have F12 := fun_mk (st := t_law_dice) l12 c12 k12
  have b12 := F12.binds (ps := ["_law_cell"]) fun _ _ _ _ _ _ us hl => match us, hl with | [_], _ => rfl
  have F13 := fun_mk (st := t_law_roll) l13 c13 k13
  have b13 := F13.binds (ps := ["_law_dice_here", "_law_most"]) fun _ _ _ _ _ _ us hl => match us, hl with | [_, _], _ => rfl
  have F14 := fun_mk (st := t_law_whole) l14 c14 k14
  have b14 := F14.binds (ps := ["_law_found"]) fun _ _ _ _ _ _ us hl => match us, hl with | [_], _ => rfl
  have F15 := fun_mk (st := t_law_river) l15 c15 k15
  have b15 := F15.binds (ps := ["_law_dice_here", "_law_many"]) fun _ _ _ _ _ _ us hl => match us, hl with | [_, _], _ => rfl
  have F16 := fun_mk (st := t_law_time) l16 c16 k16
  have b16 := F16.binds (ps := ["_law_river_here", "_law_place", "_law_hour"]) fun _ _ _ _ _ _ us hl => match us, hl with | [_, _, _], _ => rfl
  have F17 := fun_mk (st := t_law_barges) l17 c17 k17
  have b17 := F17.binds (ps := ["_law_dice_here", "_law_river_here", "_law_many"]) fun _ _ _ _ _ _ us hl => match us, hl with | [_, _, _], _ => rfl
  have F18 := fun_mk (st := t_law_book) l18 c18 k18
  have b18 := F18.binds (ps := ["_law_script", "_law_most"]) fun _ _ _ _ _ _ us hl => match us, hl with | [_, _], _ => rfl
  have F19 := fun_mk (st := t_law_hours) l19 c19 k19
  have b19 := F19.binds (ps := ["_law_plan"]) fun _ _ _ _ _ _ us hl => match us, hl with | [_], _ => rfl
  have F20 := fun_mk (st := t_law_price) l20 c20 k20
  have b20 := F20.binds (ps := ["_law_book_here", "_law_plan"]) fun _ _ _ _ _ _ us hl => match us, hl with | [_, _], _ => rfl
  have F21 := fun_mk (st := t_law) l21 c21 k21
  have b21 := F21.binds (ps := ["_law_script"]) fun _ _ _ _ _ _ us hl => match us, hl with | [_], _ => rfl
  refine ⟨PySem.W.fnOf "law" "law" (defArgs t_law) (defBody t_law) (defScope t_law) .none kV21 dc21 pm21 an21 cd21 ct21, fun s v => .of_eq rfl, fun base _ _ => ?_⟩
  have d_must := ok_must_books (P := l.prog) (w := w) (base := base) M F0 (PySem.W.mg_of X G a0) b0
  have d_is_number := ok_is_number (P := l.prog) (w := w) (base := base) M F1 (PySem.W.mg_of X G a1) b1
  have d_need_tuple := ok_need_tuple (P := l.prog) (w := w) (base := base) M F2 (PySem.W.mg_of X G a2) b2 d_must
  have d_need_stretch := ok_need_stretch (P := l.prog) (w := w) (base := base) M F3 (PySem.W.mg_of X G a3) b3 d_need_tuple d_is_number d_must
  have d_need_barge := ok_need_barge (P := l.prog) (w := w) (base := base) M F4 (PySem.W.mg_of X G a4) b4 d_need_tuple d_is_number d_must
  have d_need_book := ok_need_book (P := l.prog) (w := w) (base := base) M F5 (PySem.W.mg_of X G a5) b5 d_need_tuple d_need_stretch d_need_barge
  have d_need_plan := ok_need_plan (P := l.prog) (w := w) (base := base) M F6 (PySem.W.mg_of X G a6) b6 d_need_book d_is_number
  have d_hours_in := ok_hours_in (P := l.prog) (w := w) (base := base) M F7 (PySem.W.mg_of X G a7) b7
  have d_passes := ok_passes (P := l.prog) (w := w) (base := base) M F8 (PySem.W.mg_of X G a8) b8
  have d_worth_of := ok_worth_of (P := l.prog) (w := w) (base := base) M F9 (PySem.W.mg_of X G a9) b9 d_passes d_hours_in
  have d_worth := ok_worth (P := l.prog) (w := w) (base := base) M F10 (PySem.W.mg_of X G a10) b10 d_need_plan d_worth_of
  have d_law_cell_at := ok_law_cell_at (P := l.prog) (w := w) (base := base) M F11 (PySem.W.mg_of X G a11) b11
  have d_law_dice := ok_law_dice (P := l.prog) (w := w) (base := base) M.b_int F12 (PySem.W.mg_of X G a12) b12
  have d_law_roll := ok_law_roll (P := l.prog) (w := w) (base := base) F13 (PySem.W.mg_of X G a13) b13
  have d_law_whole := ok_law_whole (P := l.prog) (w := w) (base := base) M F14 (PySem.W.mg_of X G a14) b14
  have d_law_river := ok_law_river (P := l.prog) (w := w) (base := base) M F15 (PySem.W.mg_of X G a15) b15 d_law_roll
  have d_law_time := ok_law_time (P := l.prog) (w := w) (base := base) M F16 (PySem.W.mg_of X G a16) b16
  have d_law_barges := ok_law_barges (P := l.prog) (w := w) (base := base) M F17 (PySem.W.mg_of X G a17) b17 d_law_roll d_law_time
  have d_law_book := ok_law_book (P := l.prog) (w := w) (base := base) M F18 (PySem.W.mg_of X G a18) b18 d_law_cell_at d_law_dice d_law_river d_law_barges
  have d_law_hours := ok_law_hours (P := l.prog) (w := w) (base := base) M F19 (PySem.W.mg_of X G a19) b19
  have d_law_price := ok_law_price (P := l.prog) (w := w) (base := base) M F20 (PySem.W.mg_of X G a20) b20 d_law_time d_law_hours
  exact law_ok (ok_law0 M F21 d_law_book d_law_cell_at d_law_dice d_law_roll d_worth d_law_price d_law_whole) law_all
end TB
open PySem PySem.W PyProof.Rows in
set_option maxRecDepth 100000 in
set_option maxHeartbeats 0 in
theorem PySem.Challenge.cw_towbarges_k05_worths_holds : PySem.Challenge.rw_towbarges_k05_worths.Holds := by
  w_on; o_law; k_head; (case hw => w_witness2)
  k_fill
  refine L2.walk_of (l := PySem.Challenge.rw_towbarges_k05_worths) (n := 63) (k := 7) (x := "_law_script") (CX := fun w => L2.CX PySem.Challenge.rw_towbarges_k05_worths.prog w) (sp := fun w => TB.spLaw _) rfl (by decide) rfl ⟨rfl, by decide, by decide⟩ (fun w h Y => PySem.W.kIn_of Y) ?F (fun _ _ a ns hl _ hS => ⟨a, ns, rfl, hS, hl, fun _ => rfl⟩) (fun _ _ _ _ _ h => TB.no_cx h)
  case F =>
    intro w mg fa h KX G hmg
    refine' TB.all_mk KX G hmg ?a0 ?l0 ?c0 ?k0 ?a1 ?l1 ?c1 ?k1 ?a2 ?l2 ?c2 ?k2 ?a3 ?l3 ?c3 ?k3 ?a4 ?l4 ?c4 ?k4 ?a5 ?l5 ?c5 ?k5 ?a6 ?l6 ?c6 ?k6 ?a7 ?l7 ?c7 ?k7 ?a8 ?l8 ?c8 ?k8 ?a9 ?l9 ?c9 ?k9 ?a10 ?l10 ?c10 ?k10 ?a11 ?l11 ?c11 ?k11 ?a12 ?l12 ?c12 ?k12 ?a13 ?l13 ?c13 ?k13 ?a14 ?l14 ?c14 ?k14 ?a15 ?l15 ?c15 ?k15 ?a16 ?l16 ?c16 ?k16 ?a17 ?l17 ?c17 ?k17 ?a18 ?l18 ?c18 ?k18 ?a19 ?l19 ?c19 ?k19 ?a20 ?l20 ?c20 ?k20 ?a21 ?l21 ?c21 ?k21 ?z_bool ?z_int ?z_isinstance ?z_len ?z_max ?z_range ?z_set ?z_sorted ?z_sum ?z_tuple ?z_HOURS ?z_MOST_BARGES ?z_MOST_DEPTHS ?z_MOST_STRETCHES ?z_BadBook ?e_BadBook ?k_BadBook ?s_BadBook ?t_BadBook ?z_BadPlan ?e_BadPlan ?k_BadPlan ?s_BadPlan ?t_BadPlan
    (case a0 => k_is); (case l0 => k_is); (case c0 => k_is); (case k0 => k_is); (case a1 => k_is); (case l1 => k_is); (case c1 => k_is); (case k1 => k_is); (case a2 => k_is); (case l2 => k_is); (case c2 => k_is); (case k2 => k_is); (case a3 => k_is); (case l3 => k_is); (case c3 => k_is); (case k3 => k_is); (case a4 => k_is); (case l4 => k_is); (case c4 => k_is); (case k4 => k_is); (case a5 => k_is); (case l5 => k_is); (case c5 => k_is); (case k5 => k_is); (case a6 => k_is); (case l6 => k_is); (case c6 => k_is); (case k6 => k_is); (case a7 => k_is); (case l7 => k_is); (case c7 => k_is); (case k7 => k_is); (case a8 => k_is); (case l8 => k_is); (case c8 => k_is); (case k8 => k_is); (case a9 => k_is); (case l9 => k_is); (case c9 => k_is); (case k9 => k_is); (case a10 => k_is); (case l10 => k_is); (case c10 => k_is); (case k10 => k_is); (case a11 => k_is); (case l11 => k_is); (case c11 => k_is); (case k11 => k_is); (case a12 => k_is); (case l12 => k_is); (case c12 => k_is); (case k12 => k_is); (case a13 => k_is); (case l13 => k_is); (case c13 => k_is); (case k13 => k_is); (case a14 => k_is); (case l14 => k_is); (case c14 => k_is); (case k14 => k_is); (case a15 => k_is); (case l15 => k_is); (case c15 => k_is); (case k15 => k_is); (case a16 => k_is); (case l16 => k_is); (case c16 => k_is); (case k16 => k_is); (case a17 => k_is); (case l17 => k_is); (case c17 => k_is); (case k17 => k_is); (case a18 => k_is); (case l18 => k_is); (case c18 => k_is); (case k18 => k_is); (case a19 => k_is); (case l19 => k_is); (case c19 => k_is); (case k19 => k_is); (case a20 => k_is); (case l20 => k_is); (case c20 => k_is); (case k20 => k_is); (case a21 => k_is); (case l21 => k_is); (case c21 => k_is); (case k21 => k_is); (case z_bool => k_is); (case z_int => k_is); (case z_isinstance => k_is); (case z_len => k_is); (case z_max => k_is); (case z_range => k_is); (case z_set => k_is); (case z_sorted => k_is); (case z_sum => k_is); (case z_tuple => k_is); (case z_HOURS => k_is); (case z_MOST_BARGES => k_is); (case z_MOST_DEPTHS => k_is); (case z_MOST_STRETCHES => k_is); (case z_BadBook => k_is); (case e_BadBook => k_exc); (case k_BadBook => k_is); (case s_BadBook => k_is); (case t_BadBook => k_is); (case z_BadPlan => k_is); (case e_BadPlan => k_exc); (case k_BadPlan => k_is); (case s_BadPlan => k_is); (case t_BadPlan => k_is)

