import PyProof.Rows.All
import HandS.ForMost
import HandS.ForExc
import HandS.IsInst
import HandS.Property
import HandS.Wide
import HandS.Flow
import HandS.Lambda
import HandS.Deep
import PySem.Challenge.RW_handlocks_k55_rules_by_trails
set_option Elab.async false
set_option linter.all false
set_option maxRecDepth 100000
/-! VL1: plain data, what stands for it in the abstract heap, slots with ownership, the readings of expressions. -/
namespace VL
open PySem PySem.Spec PyProof.Rows L2

/-- plain data -/
inductive D where
  | non | bl (b : Bool) | int (i : Int) | str (x : Str)
  | tup (l : List D) | lst (l : List D)
  | dK (l : List (Key × D)) | dT (l : List (List Key × D))
  | ins (c : Nat) (fs : List (Str × D))
  | drw (great : List Int) (rest : Int) (cells : List Int) (turn : Int)
  | scr (ns : List Int)
  deriving Inhabited

/-- how a slot holds its datum: frozen for good, owned, owned by the caller and lent for change, lent to be read -/
inductive Fl where | fz | ow | pn | lk
  deriving DecidableEq
/-- how a value comes: frozen, a new owned object, read off an owned slot -/
inductive Kd where | fz | ow | br
  deriving DecidableEq
abbrev St := L2.St
abbrev Slot := Option (D × Fl)
abbrev Env := List Slot

inductive Res (α : Type) where
  | ok (a : α)
  | err (c : Nat) (d : D) (ρ : Env)
  | bad
def Res.bind {α β : Type} (x : Res α) (f : α → Res β) : Res β := match x with
  | .ok a => f a
  | .err c d ρ => .err c d ρ
  | .bad => .bad
instance : Monad Res where
  pure := Res.ok
  bind := Res.bind
@[simp] theorem Res.bind_ok {α β : Type} (a : α) (f : α → Res β) : (Res.ok a >>= f) = f a := rfl
@[simp] theorem Res.bind_bad {α β : Type} (f : α → Res β) : ((Res.bad : Res α) >>= f) = Res.bad := rfl
@[simp] theorem Res.bind_err {α β : Type} (c : Nat) (d : D) (ρ : Env) (f : α → Res β) : ((Res.err c d ρ : Res α) >>= f) = Res.err c d ρ := rfl
@[simp] theorem Res.pure_ok {α : Type} (a : α) : (pure a : Res α) = Res.ok a := rfl

/-- the law's own context: the written part, the classes by number, the tables of code objects -/
structure Gm where
  K : PySem.W.Frag
  cm : Nat → Option Addr
  T : List (Addr × Str)

def atomD : V → Option D
  | .non => some .non
  | .bl b => some (.bl b)
  | .int i => some (.int i)
  | .str x => some (.str x)
  | _ => none

/-- the tuple at a is a part of the written text -/
def KTup (K : PySem.W.Frag) (a : Addr) (xs : List V) : Prop :=
  ∃ (o : Obj) (its : Array Value) (n : Nat), K.lookup a = some o ∧ o.cls = .type "tuple" ∧ o.data = .seq its n ∧ its.size ≤ sizeLine ∧ Vals xs its.toList

/-- .. a list of ints, as the law's script may be -/
def KLst (K : PySem.W.Frag) (a : Addr) (xs : List V) : Prop :=
  ∃ (o : Obj) (its : Array Value) (n : Nat), K.lookup a = some o ∧ o.cls = .type "list" ∧ o.dict = none ∧ o.data = .seq its n ∧ its.size ≤ sizeLine ∧ Vals xs its.toList

/-- values that stand for data, within the frozen region F -/
inductive Rep (G : Gm) (F : Addr → Prop) (H : Hp) : List V → List D → Prop
  | nil : Rep G F H [] []
  | atom {v d vs ds} : atomD v = some d → Rep G F H vs ds → Rep G F H (v :: vs) (d :: ds)
  | tup {a ws es vs ds} : F a → H a = some (.tup ws) → ws.length ≤ sizeLine → Rep G F H ws es → Rep G F H vs ds → Rep G F H (.ref a :: vs) (.tup es :: ds)
  | tupK {a ws es vs ds} : KTup G.K a ws → ws.length ≤ sizeLine → Rep G F H ws es → Rep G F H vs ds → Rep G F H (.ref a :: vs) (.tup es :: ds)
  | lst {a ws es vs ds} : F a → H a = some (.lst ws) → ws.length ≤ sizeLine → Rep G F H ws es → Rep G F H vs ds → Rep G F H (.ref a :: vs) (.lst es :: ds)
  | scr {a o ns vs ds} : F a → H a = some (.frz o (.lst (ns.map V.int))) → ns.length ≤ sizeLine → Rep G F H vs ds → Rep G F H (.ref a :: vs) (.scr ns :: ds)
  | scrK {a ns vs ds} : KLst G.K a (ns.map V.int) → ns.length ≤ sizeLine → Rep G F H vs ds → Rep G F H (.ref a :: vs) (.scr ns :: ds)
  | dK {a} {ws : List (Key × V)} {es : List (Key × D)} {vs ds} : F a → H a = some (.dK ws) → ws.length ≤ sizeLine → ws.map (·.1) = es.map (·.1) → Rep G F H (ws.map (·.2)) (es.map (·.2)) → Rep G F H vs ds → Rep G F H (.ref a :: vs) (.dK es :: ds)
  | dT {a} {ws : List (List Key × V)} {es : List (List Key × D)} {vs ds} : F a → H a = some (.dT ws) → ws.length ≤ sizeLine → ws.map (·.1) = es.map (·.1) → Rep G F H (ws.map (·.2)) (es.map (·.2)) → Rep G F H vs ds → Rep G F H (.ref a :: vs) (.dT es :: ds)
  | ins {a C dx c} {ws : List (Str × V)} {es : List (Str × D)} {vs ds} : F a → H a = some (.ins C dx ws) → G.cm c = some C → ws.map (·.1) = es.map (·.1) → Rep G F H (ws.map (·.2)) (es.map (·.2)) → Rep G F H vs ds → Rep G F H (.ref a :: vs) (.ins c es :: ds)

/-- one object that may be changed, by its datum; its parts are frozen -/
def Objs (G : Gm) (F : Addr → Prop) (H : Hp) (a : Addr) : D → Prop
  | .lst es => ∃ ws, H a = some (.lst ws) ∧ ws.length ≤ sizeLine ∧ Rep G F H ws es
  | .dK es => ∃ ws : List (Key × V), H a = some (.dK ws) ∧ ws.length ≤ sizeLine ∧ ws.map (·.1) = es.map (·.1) ∧ Rep G F H (ws.map (·.2)) (es.map (·.2))
  | .dT es => ∃ ws : List (List Key × V), H a = some (.dT ws) ∧ ws.length ≤ sizeLine ∧ ws.map (·.1) = es.map (·.1) ∧ Rep G F H (ws.map (·.2)) (es.map (·.2))
  | .ins c es => ∃ (C dx : Addr) (ws : List (Str × V)), H a = some (.ins C dx ws) ∧ G.cm c = some C ∧ ws.map (·.1) = es.map (·.1) ∧ Rep G F H (ws.map (·.2)) (es.map (·.2))
  | _ => False

def kw (x : Str) : Key := Sum.inr x
/-- the state of the draws -/
def DrwAt (H : Hp) (a g c : Addr) (gr : List Int) (r : Int) (ce : List Int) (t : Int) : Prop :=
  H a = some (.dK [(kw "great", .ref g), (kw "rest", .int r), (kw "cells", .ref c), (kw "turn", .int t)]) ∧ H g = some (.lst (gr.map V.int)) ∧ H c = some (.lst (ce.map V.int)) ∧ a ≠ g

/-- a value, its datum, the addresses that it owns -/
inductive Own (G : Gm) (F : Addr → Prop) (H : Hp) : V → D → List Addr → Prop
  | fz {v d} : Rep G F H [v] [d] → Own G F H v d []
  | ow {a d} : ¬ F a → Objs G F H a d → Own G F H (.ref a) d [a]
  | drw {a g c gr r ce t} : ¬ F a → ¬ F g → F c → gr.length ≤ sizeLine → ce.length ≤ sizeLine → DrwAt H a g c gr r ce t → Own G F H (.ref a) (.drw gr r ce t) [a, g]

/-- o: what the owned slots own, p: what the lent ones own, b: what is lent to be read -/
inductive Slots (G : Gm) (F : Addr → Prop) (H : Hp) : Env → St → List Addr → List Addr → List Addr → Prop
  | nil : Slots G F H [] [] [] [] []
  | none {x ρ σ o p b} : Slots G F H ρ σ o p b → Slots G F H (none :: ρ) (x :: σ) o p b
  | fz {v d ρ σ o p b} : Rep G F H [v] [d] → Slots G F H ρ σ o p b → Slots G F H (some (d, .fz) :: ρ) (some v :: σ) o p b
  | ow {v d fp ρ σ o p b} : Own G F H v d fp → fp ≠ [] → Slots G F H ρ σ o p b → Slots G F H (some (d, .ow) :: ρ) (some v :: σ) (fp ++ o) p b
  | pn {v d fp ρ σ o p b} : Own G F H v d fp → fp ≠ [] → Slots G F H ρ σ o p b → Slots G F H (some (d, .pn) :: ρ) (some v :: σ) o (fp ++ p) b
  | lk {v d fp ρ σ o p b} : Own G F H v d fp → Slots G F H ρ σ o p b → Slots G F H (some (d, .lk) :: ρ) (some v :: σ) o p (fp ++ b)

/-! ### how these carry over -/
def isTbl : HO → Bool
  | .tbl _ => true
  | _ => false
/-- all tracked objects outside m are kept -/
def Kept (m : List Addr) (H H' : Hp) : Prop := ∀ a o, H a = some o → a ∉ m → isTbl o = false → H' a = some o
theorem Kept.refl {m H} : Kept m H H := fun _ _ h _ _ => h
theorem Kept.trans {m m' H H1 H2} (a : Kept m H H1) (b : Kept m' H1 H2) (hm : ∀ x, x ∈ m' → x ∈ m ∨ H x = none) : Kept m H H2 := fun x o h n t => by
  refine b x o (a x o h n t) (fun z => ?_) t
  rcases hm x z with q | q
  · exact n q
  · rw [h] at q; cases q
theorem Kept.mono {m m' H H'} (a : Kept m H H') (hm : ∀ x, x ∈ m → x ∈ m') : Kept m' H H' := fun x o h n t => a x o h (fun z => n (hm x z)) t
/-- what a region's objects are, all else being free -/
def KeptF (F : Addr → Prop) (H H' : Hp) : Prop := ∀ a o, F a → H a = some o → isTbl o = false → H' a = some o
theorem KeptF.refl {F H} : KeptF F H H := fun _ _ _ h _ => h
theorem KeptF.trans {F F' H H1 H2} (a : KeptF F H H1) (b : KeptF F' H1 H2) (hf : ∀ x, F x → F' x) : KeptF F H H2 := fun x o f h t => b x o (hf x f) (a x o f h t) t
theorem Rep.keep {G F F' H H' vs ds} (h : Rep G F H vs ds) (hf : ∀ a, F a → F' a) (hk : KeptF F H H') : Rep G F' H' vs ds := by
  induction h with
  | nil => exact .nil
  | atom e _ ih => exact .atom e ih
  | tup f e z _ _ ih1 ih2 => exact .tup (hf _ f) (hk _ _ f e rfl) z ih1 ih2
  | tupK f z _ _ ih1 ih2 => exact .tupK f z ih1 ih2
  | lst f e z _ _ ih1 ih2 => exact .lst (hf _ f) (hk _ _ f e rfl) z ih1 ih2
  | scr f e z _ ih2 => exact .scr (hf _ f) (hk _ _ f e rfl) z ih2
  | scrK f z _ ih2 => exact .scrK f z ih2
  | dK f e z k _ _ ih1 ih2 => exact .dK (hf _ f) (hk _ _ f e rfl) z k ih1 ih2
  | dT f e z k _ _ ih1 ih2 => exact .dT (hf _ f) (hk _ _ f e rfl) z k ih1 ih2
  | ins f e c k _ _ ih1 ih2 => exact .ins (hf _ f) (hk _ _ f e rfl) c k ih1 ih2
theorem Rep.length {G F H vs ds} (h : Rep G F H vs ds) : vs.length = ds.length := by
  induction h with
  | nil => rfl
  | atom _ _ ih => simp [ih]
  | tup _ _ _ _ _ _ ih => simp [ih]
  | tupK _ _ _ _ _ ih => simp [ih]
  | lst _ _ _ _ _ _ ih => simp [ih]
  | scr _ _ _ _ ih => simp [ih]
  | scrK _ _ _ ih => simp [ih]
  | dK _ _ _ _ _ _ _ ih => simp [ih]
  | dT _ _ _ _ _ _ _ ih => simp [ih]
  | ins _ _ _ _ _ _ _ ih => simp [ih]
theorem Rep.cons_iff {G F H v vs d ds} : Rep G F H (v :: vs) (d :: ds) ↔ Rep G F H [v] [d] ∧ Rep G F H vs ds := by
  constructor
  · intro h
    cases h with
    | atom e r => exact ⟨.atom e .nil, r⟩
    | tup f e z r1 r2 => exact ⟨.tup f e z r1 .nil, r2⟩
    | tupK f z r1 r2 => exact ⟨.tupK f z r1 .nil, r2⟩
    | lst f e z r1 r2 => exact ⟨.lst f e z r1 .nil, r2⟩
    | scr f e z r2 => exact ⟨.scr f e z .nil, r2⟩
    | scrK f z r2 => exact ⟨.scrK f z .nil, r2⟩
    | dK f e z k r1 r2 => exact ⟨.dK f e z k r1 .nil, r2⟩
    | dT f e z k r1 r2 => exact ⟨.dT f e z k r1 .nil, r2⟩
    | ins f e c k r1 r2 => exact ⟨.ins f e c k r1 .nil, r2⟩
  · rintro ⟨h, r⟩
    cases h with
    | atom e _ => exact .atom e r
    | tup f e z r1 _ => exact .tup f e z r1 r
    | tupK f z r1 _ => exact .tupK f z r1 r
    | lst f e z r1 _ => exact .lst f e z r1 r
    | scr f e z _ => exact .scr f e z r
    | scrK f z _ => exact .scrK f z r
    | dK f e z k r1 _ => exact .dK f e z k r1 r
    | dT f e z k r1 _ => exact .dT f e z k r1 r
    | ins f e c k r1 _ => exact .ins f e c k r1 r
theorem Rep.nil_of {G F H vs} (h : Rep G F H vs []) : vs = [] := by cases h; rfl
theorem Rep.cons_of {G F H vs d ds} (h : Rep G F H vs (d :: ds)) : ∃ v ws, vs = v :: ws ∧ Rep G F H [v] [d] ∧ Rep G F H ws ds := by
  cases vs with
  | nil => exact absurd h.length (by simp)
  | cons v ws => exact ⟨v, ws, rfl, Rep.cons_iff.mp h⟩
theorem Rep.get {G F H} : ∀ {ds : List D} {vs : List V} {i : Nat} {d : D}, Rep G F H vs ds → ds[i]? = some d → ∃ v, vs[i]? = some v ∧ Rep G F H [v] [d]
  | [], _, _, _, _, e => by simp at e
  | d :: ds, vs, 0, d', h, e => by
    obtain ⟨v, ws, rfl, r, _⟩ := h.cons_of
    simp at e; subst e
    exact ⟨v, rfl, r⟩
  | d :: ds, vs, i + 1, d', h, e => by
    obtain ⟨v, ws, rfl, _, r⟩ := h.cons_of
    obtain ⟨u, e1, r1⟩ := Rep.get (i := i) r (by simpa using e)
    exact ⟨u, by simpa using e1, r1⟩
theorem Rep.append {G F H} : ∀ {ds es : List D} {vs ws : List V}, Rep G F H vs ds → Rep G F H ws es → Rep G F H (vs ++ ws) (ds ++ es)
  | [], _, vs, _, h, r => by rw [h.nil_of]; exact r
  | d :: ds, es, vs, ws, h, r => by
    obtain ⟨v, us, rfl, r1, r2⟩ := h.cons_of
    exact Rep.cons_iff.mpr ⟨r1, Rep.append r2 r⟩
theorem Rep.take {G F H} : ∀ {ds : List D} {vs : List V} (n : Nat), Rep G F H vs ds → Rep G F H (vs.take n) (ds.take n)
  | [], vs, n, h => by rw [h.nil_of]; simp; exact .nil
  | d :: ds, vs, 0, h => by simp; exact .nil
  | d :: ds, vs, n + 1, h => by
    obtain ⟨v, us, rfl, r1, r2⟩ := h.cons_of
    exact Rep.cons_iff.mpr ⟨r1, Rep.take n r2⟩
theorem Rep.drop {G F H} : ∀ {ds : List D} {vs : List V} (n : Nat), Rep G F H vs ds → Rep G F H (vs.drop n) (ds.drop n)
  | [], vs, n, h => by rw [h.nil_of]; simp; exact .nil
  | d :: ds, vs, 0, h => by simpa using h
  | d :: ds, vs, n + 1, h => by
    obtain ⟨v, us, rfl, r1, r2⟩ := h.cons_of
    exact Rep.drop n r2
theorem Rep.snoc {G F H v d} {ds : List D} {vs : List V} (h : Rep G F H vs ds) (r : Rep G F H [v] [d]) : Rep G F H (vs ++ [v]) (ds ++ [d]) := h.append r
theorem Rep.ints {G F H} : ∀ (ns : List Int), Rep G F H (ns.map V.int) (ns.map D.int)
  | [] => .nil
  | n :: ns => .atom rfl (Rep.ints ns)
theorem Rep.int_of {G F H v i} (h : Rep G F H [v] [.int i]) : v = .int i := by
  cases h with
  | atom e _ => cases v <;> simp [atomD] at e <;> simp [e]
theorem Rep.str_of {G F H v x} (h : Rep G F H [v] [.str x]) : v = .str x := by
  cases h with
  | atom e _ => cases v <;> simp [atomD] at e <;> simp [e]
theorem Rep.bl_of {G F H v b} (h : Rep G F H [v] [.bl b]) : v = .bl b := by
  cases h with
  | atom e _ => cases v <;> simp [atomD] at e <;> simp [e]
theorem Rep.non_of {G F H v} (h : Rep G F H [v] [.non]) : v = .non := by
  cases h with
  | atom e _ => cases v <;> simp [atomD] at e <;> rfl
theorem Objs.keep {G F F' H H' a d} (h : Objs G F H a d) (hf : ∀ x, F x → F' x) (hk : KeptF F H H') (ha : ∀ o, H a = some o → isTbl o = false → H' a = some o) : Objs G F' H' a d := by
  cases d <;> first | exact h.elim | skip
  case lst es => obtain ⟨ws, e, z, r⟩ := h; exact ⟨ws, ha _ e rfl, z, r.keep hf hk⟩
  case dK es => obtain ⟨ws, e, z, k, r⟩ := h; exact ⟨ws, ha _ e rfl, z, k, r.keep hf hk⟩
  case dT es => obtain ⟨ws, e, z, k, r⟩ := h; exact ⟨ws, ha _ e rfl, z, k, r.keep hf hk⟩
  case ins c es => obtain ⟨C, dx, ws, e, z, k, r⟩ := h; exact ⟨C, dx, ws, ha _ e rfl, z, k, r.keep hf hk⟩
theorem Objs.there {G F H a d} (h : Objs G F H a d) : ∃ o, H a = some o ∧ isTbl o = false := by
  cases d <;> first | exact h.elim | skip
  case lst es => obtain ⟨ws, e, _⟩ := h; exact ⟨_, e, rfl⟩
  case dK es => obtain ⟨ws, e, _⟩ := h; exact ⟨_, e, rfl⟩
  case dT es => obtain ⟨ws, e, _⟩ := h; exact ⟨_, e, rfl⟩
  case ins c es => obtain ⟨C, dx, ws, e, _⟩ := h; exact ⟨_, e, rfl⟩
theorem Own.there {G F H v d fp} (h : Own G F H v d fp) : ∀ a ∈ fp, ¬ F a ∧ ∃ o, H a = some o ∧ isTbl o = false := by
  intro a ha
  cases h with
  | fz r => simp at ha
  | ow f ob => simp at ha; subst ha; exact ⟨f, ob.there⟩
  | drw f1 f2 f3 z1 z2 q =>
    obtain ⟨e1, e2, e3, _⟩ := q
    simp at ha
    rcases ha with rfl | rfl
    · exact ⟨f1, _, e1, rfl⟩
    · exact ⟨f2, _, e2, rfl⟩
theorem Own.keep {G F F' H H' v d fp} (h : Own G F H v d fp) (hf : ∀ x, F x → F' x) (hk : KeptF F H H') (ha : ∀ a ∈ fp, ¬ F' a ∧ ∀ o, H a = some o → isTbl o = false → H' a = some o) : Own G F' H' v d fp := by
  cases h with
  | fz r => exact .fz (r.keep hf hk)
  | ow f ob => exact .ow (ha _ (by simp)).1 (ob.keep hf hk (ha _ (by simp)).2)
  | drw f1 f2 f3 z1 z2 q =>
    obtain ⟨e1, e2, e3, n⟩ := q
    exact .drw (ha _ (by simp)).1 (ha _ (by simp)).1 (hf _ f3) z1 z2 ⟨(ha _ (by simp)).2 _ e1 rfl, (ha _ (by simp)).2 _ e2 rfl, hk _ _ f3 e3 rfl, n⟩
theorem Slots.there {G F H ρ σ o p b} (h : Slots G F H ρ σ o p b) : ∀ a, a ∈ o ∨ a ∈ p ∨ a ∈ b → ¬ F a ∧ ∃ o, H a = some o ∧ isTbl o = false := by
  induction h with
  | nil => simp
  | none _ ih => exact ih
  | fz _ _ ih => exact ih
  | ow w _ _ ih =>
    intro a ha
    simp only [List.mem_append] at ha
    rcases ha with (ha | ha) | ha | ha
    · exact w.there a ha
    · exact ih a (.inl ha)
    · exact ih a (.inr (.inl ha))
    · exact ih a (.inr (.inr ha))
  | pn w _ _ ih =>
    intro a ha
    simp only [List.mem_append] at ha
    rcases ha with ha | (ha | ha) | ha
    · exact ih a (.inl ha)
    · exact w.there a ha
    · exact ih a (.inr (.inl ha))
    · exact ih a (.inr (.inr ha))
  | lk w _ ih =>
    intro a ha
    simp only [List.mem_append] at ha
    rcases ha with ha | ha | (ha | ha)
    · exact ih a (.inl ha)
    · exact ih a (.inr (.inl ha))
    · exact w.there a ha
    · exact ih a (.inr (.inr ha))
theorem Slots.keep {G F F' H H' ρ σ o p b} (h : Slots G F H ρ σ o p b) (hf : ∀ x, F x → F' x) (hk : KeptF F H H') (ha : ∀ a, a ∈ o ∨ a ∈ p ∨ a ∈ b → ¬ F' a ∧ ∀ o, H a = some o → isTbl o = false → H' a = some o) : Slots G F' H' ρ σ o p b := by
  induction h with
  | nil => exact .nil
  | none _ ih => exact .none (ih ha)
  | fz r _ ih => exact .fz (r.keep hf hk) (ih ha)
  | ow w n _ ih =>
    refine .ow (w.keep hf hk fun a h => ha a (.inl (by simp [h]))) n (ih fun a h => ha a ?_)
    rcases h with h | h | h
    · exact .inl (by simp [h])
    · exact .inr (.inl h)
    · exact .inr (.inr h)
  | pn w n _ ih =>
    refine .pn (w.keep hf hk fun a h => ha a (.inr (.inl (by simp [h])))) n (ih fun a h => ha a ?_)
    rcases h with h | h | h
    · exact .inl h
    · exact .inr (.inl (by simp [h]))
    · exact .inr (.inr h)
  | lk w _ ih =>
    refine .lk (w.keep hf hk fun a h => ha a (.inr (.inr (by simp [h])))) (ih fun a h => ha a ?_)
    rcases h with h | h | h
    · exact .inl h
    · exact .inr (.inl h)
    · exact .inr (.inr (by simp [h]))
theorem Slots.length {G F H ρ σ o p b} (h : Slots G F H ρ σ o p b) : ρ.length = σ.length := by
  induction h <;> simp_all
/-- reading a slot -/
theorem Slots.get {G F H ρ σ o p b} (h : Slots G F H ρ σ o p b) : ∀ {i : Nat} {d : D} {fl : Fl}, ρ[i]? = some (some (d, fl)) →
    ∃ v fp, σ[i]? = some (some v) ∧ Own G F H v d fp ∧ (fl = .fz → fp = []) ∧ (fl = .ow ∨ fl = .pn → fp ≠ []) ∧ ∀ a ∈ fp, (fl = .ow ∧ a ∈ o) ∨ (fl = .pn ∧ a ∈ p) ∨ (fl = .lk ∧ a ∈ b) := by
  induction h with
  | nil => intro i d fl e; simp at e
  | none _ ih =>
    intro i d fl e
    cases i with
    | zero => simp at e
    | succ i => exact ih (by simpa using e)
  | fz r _ ih =>
    intro i d fl e
    cases i with
    | zero =>
      simp at e; obtain ⟨rfl, rfl⟩ := e
      exact ⟨_, [], rfl, .fz r, fun _ => rfl, by simp, by simp⟩
    | succ i => exact ih (by simpa using e)
  | ow w n _ ih =>
    intro i d fl e
    cases i with
    | zero =>
      simp at e; obtain ⟨rfl, rfl⟩ := e
      exact ⟨_, _, rfl, w, fun z => by simp at z, fun _ => n, fun a ha => .inl ⟨rfl, by simp [ha]⟩⟩
    | succ i =>
      obtain ⟨v, fp, e1, w1, f1, g1, m1⟩ := ih (i := i) (d := d) (fl := fl) (by simpa using e)
      refine ⟨v, fp, by simpa using e1, w1, f1, g1, fun a ha => ?_⟩
      rcases m1 a ha with q | q | q
      · exact .inl ⟨q.1, by simp [q.2]⟩
      · exact .inr (.inl q)
      · exact .inr (.inr q)
  | pn w n _ ih =>
    intro i d fl e
    cases i with
    | zero =>
      simp at e; obtain ⟨rfl, rfl⟩ := e
      exact ⟨_, _, rfl, w, fun z => by simp at z, fun _ => n, fun a ha => .inr (.inl ⟨rfl, by simp [ha]⟩)⟩
    | succ i =>
      obtain ⟨v, fp, e1, w1, f1, g1, m1⟩ := ih (i := i) (d := d) (fl := fl) (by simpa using e)
      refine ⟨v, fp, by simpa using e1, w1, f1, g1, fun a ha => ?_⟩
      rcases m1 a ha with q | q | q
      · exact .inl q
      · exact .inr (.inl ⟨q.1, by simp [q.2]⟩)
      · exact .inr (.inr q)
  | lk w _ ih =>
    intro i d fl e
    cases i with
    | zero =>
      simp at e; obtain ⟨rfl, rfl⟩ := e
      exact ⟨_, _, rfl, w, fun z => by simp at z, by simp, fun a ha => .inr (.inr ⟨rfl, by simp [ha]⟩)⟩
    | succ i =>
      obtain ⟨v, fp, e1, w1, f1, g1, m1⟩ := ih (i := i) (d := d) (fl := fl) (by simpa using e)
      refine ⟨v, fp, by simpa using e1, w1, f1, g1, fun a ha => ?_⟩
      rcases m1 a ha with q | q | q
      · exact .inl q
      · exact .inr (.inl q)
      · exact .inr (.inr ⟨q.1, by simp [q.2]⟩)
end VL
/-! VL2: states, readings of expressions, their rules. -/
namespace VL
open PySem PySem.Spec PyProof.Rows L2

/-- a state -/
structure Stt where
  F : Addr → Prop
  rho : Env
  sg : St
  H : Hp
  o : List Addr
  p : List Addr
  b : List Addr
def DomF (F : Addr → Prop) (H : Hp) : Prop := ∀ a, F a → ∃ o, H a = some o ∧ isTbl o = false
structure SInv (G : Gm) (x : Stt) : Prop where
  sl : Slots G x.F x.H x.rho x.sg x.o x.p x.b
  nd : (x.o ++ (x.p ++ x.b)).Nodup
  dom : DomF x.F x.H
  tb : LamX.Tabs G.T x.H
/-- what an expression may do -/
structure Ext (still : Bool) (x y : Stt) : Prop where
  sg : y.sg = x.sg
  kp : Kept (x.o ++ x.p) x.H y.H
  f1 : ∀ a, x.F a → y.F a
  f2 : ∀ a, y.F a → x.F a ∨ x.H a = none
  o1 : ∀ a ∈ y.o, a ∈ x.o ∨ x.H a = none
  p1 : y.p = x.p
  b1 : y.b = x.b
  dm : ∀ a, y.H a = none → x.H a = none
  lk : ∀ (j : Nat) (d : D) (fl : Fl), x.rho[j]? = some (some (d, fl)) → fl = Fl.lk ∨ fl = Fl.pn → ∃ d', y.rho[j]? = some (some (d', fl)) ∧ (fl = Fl.lk → d' = d)
  st : still = true → y.rho = x.rho ∧ Kept [] x.H y.H ∧ y.o = x.o
theorem Ext.refl {b x} : Ext b x x := ⟨rfl, .refl, fun _ h => h, fun _ h => .inl h, fun _ h => .inl h, rfl, rfl, fun _ h => h, fun _ d _ e _ => ⟨d, e, fun _ => rfl⟩, fun _ => ⟨rfl, .refl, rfl⟩⟩
theorem SInv.there {G x} (h : SInv G x) {a : Addr} (ha : a ∈ x.o ∨ a ∈ x.p ∨ a ∈ x.b) : ¬ x.F a ∧ ∃ o, x.H a = some o ∧ isTbl o = false := h.sl.there a ha
theorem SInv.keptF {G x} (h : SInv G x) {m : List Addr} {H' : Hp} (hm : ∀ a ∈ m, a ∈ x.o ∨ a ∈ x.p ∨ a ∈ x.b) (k : Kept m x.H H') : KeptF x.F x.H H' := fun a o f e t => k a o e (fun z => (h.there (hm a z)).1 f) t
theorem Ext.keptF {G b x y} (h : SInv G x) (e : Ext b x y) : KeptF x.F x.H y.H := h.keptF (fun a ha => by
  rcases List.mem_append.mp ha with q | q
  · exact .inl q
  · exact .inr (.inl q)) e.kp
theorem none_of_kept {m H H'} (k : Kept m H H') {a : Addr} (hm : a ∉ m) (h : H' a = none) (ht : ∀ o, H a = some o → isTbl o = false) : H a = none := by
  cases q : H a with
  | none => rfl
  | some o => rw [k a o q hm (ht o q)] at h; cases h
/-- tables are told apart from what is free -/
theorem Ext.free {G b x y} (h : SInv G x) (hy : SInv G y) (e : Ext b x y) {a : Addr} (q : y.F a ∨ a ∈ y.o) (n : ¬ x.F a) (n2 : a ∉ x.o) : x.H a = none := by
  rcases q with q | q
  · exact (e.f2 a q).resolve_left n
  · exact (e.o1 a q).resolve_left n2
theorem Ext.trans {G b c x y z} (hx : SInv G x) (hy : SInv G y) (e : Ext b x y) (f : Ext c y z) : Ext (b && c) x z where
  sg := f.sg.trans e.sg
  kp := e.kp.trans f.kp fun a ha => by
    rcases List.mem_append.mp ha with q | q
    · rcases e.o1 a q with q | q
      · exact .inl (List.mem_append_left _ q)
      · exact .inr q
    · rw [e.p1] at q; exact .inl (List.mem_append_right _ q)
  f1 := fun a h => f.f1 a (e.f1 a h)
  f2 := fun a h => by
    rcases f.f2 a h with q | q
    · exact e.f2 a q
    · exact .inr (e.dm a q)
  o1 := fun a h => by
    rcases f.o1 a h with q | q
    · exact e.o1 a q
    · exact .inr (e.dm a q)
  p1 := f.p1.trans e.p1
  b1 := f.b1.trans e.b1
  dm := fun a h => e.dm a (f.dm a h)
  lk := fun j d fl e1 hf => by
    obtain ⟨d1, e2, k2⟩ := e.lk j d fl e1 hf
    obtain ⟨d2, e3, k3⟩ := f.lk j d1 fl e2 hf
    exact ⟨d2, e3, fun h => (k3 h).trans (k2 h)⟩
  st := fun h => by
    simp only [Bool.and_eq_true] at h
    obtain ⟨r1, k1, o1⟩ := e.st h.1
    obtain ⟨r2, k2, o2⟩ := f.st h.2
    exact ⟨r2.trans r1, k1.trans k2 (by simp), o2.trans o1⟩

def KdOk (x y : Stt) (k : Kd) (fv : List Addr) : Prop := match k with
  | .fz => fv = []
  | .ow => fv ≠ [] ∧ ∀ a ∈ fv, x.H a = none ∧ a ∉ y.o ∧ a ∉ y.p ∧ a ∉ y.b
  | .br => ∀ a ∈ fv, a ∈ y.o ∨ a ∈ y.p ∨ a ∈ y.b
/-- what is lent is just what a slot holds -/
def Src (y : Stt) (v : V) (d : D) (k : Kd) : Prop := k = .br → ∃ (j : Nat) (fl : Fl), y.rho[j]? = some (some (d, fl)) ∧ y.sg[j]? = some (some v) ∧ fl ≠ .fz
theorem Src.fz {y v d} : Src y v d .fz := fun h => by cases h
theorem Src.ow {y v d} : Src y v d .ow := fun h => by cases h
theorem Src.ne {y v d k} (h : k ≠ .br) : Src y v d k := fun e => absurd e h
structure EPost (G : Gm) (still : Bool) (x y : Stt) (v : V) (d : D) (k : Kd) (fv : List Addr) : Prop where
  inv : SInv G y
  ext : Ext still x y
  own : Own G y.F y.H v d fv
  kd : KdOk x y k fv
  src : Src y v d k
/-- an exception, by its class's number and what it bears -/
def ErrV (G : Gm) (y : Stt) (cls : Value) (dx : Option Addr) (c : Nat) (d : D) : Prop :=
  ∃ C, G.cm c = some C ∧ cls = Value.ref C ∧ ((dx = none ∧ d = .non) ∨ ∃ (a : Addr) (f : Str) (v : V) (d' : D), dx = some a ∧ y.H a = some (.xd [(f, v)]) ∧ d = .tup [.str f, d'] ∧ Rep G y.F y.H [v] [d'])

abbrev EE := Env → Res (D × Kd × Env)
abbrev AE := Env → Res (List (D × Kd) × Env)
def tS (G : Gm) (W : WX) (still : Bool) (f : EE) : TE := fun σ H Q => ∃ x : Stt, x.sg = σ ∧ x.H = H ∧ SInv G x ∧
  match f x.rho with
  | .ok (d, k, ρ') => ∀ y v fv, y.rho = ρ' → EPost G still x y v d k fv → Q v y.H
  | .err c d ρ' => ∀ y cls dx, y.rho = ρ' → SInv G y → Ext still x y → ErrV G y cls dx c d → W cls dx σ y.H
  | .bad => False
inductive AOk (G : Gm) (x y : Stt) : List V → List (D × Kd) → Prop
  | nil : AOk G x y [] []
  | cons {v d k fv vs dks} : Own G y.F y.H v d fv → KdOk x y k fv → Src y v d k → AOk G x y vs dks → AOk G x y (v :: vs) ((d, k) :: dks)
def tA (G : Gm) (W : WX) (still : Bool) (f : AE) : TA := fun σ H Q => ∃ x : Stt, x.sg = σ ∧ x.H = H ∧ SInv G x ∧
  match f x.rho with
  | .ok (l, ρ') => ∀ y vs, y.rho = ρ' → SInv G y → Ext still x y → AOk G x y vs l → Q vs y.H
  | .err c d ρ' => ∀ y cls dx, y.rho = ρ' → SInv G y → Ext still x y → ErrV G y cls dx c d → W cls dx σ y.H
  | .bad => False

theorem Own.nodup {G F H v d fp} (h : Own G F H v d fp) : fp.Nodup := by
  cases h with
  | fz _ => simp
  | ow _ _ => simp
  | drw _ _ _ _ _ q => obtain ⟨_, _, _, n1⟩ := q; simp [n1]
/-- a value stays what it is while others are reckoned -/
theorem carry {G s x y z v d k fv} (hy : SInv G y) (hxy : ∀ a, y.H a = none → x.H a = none) (w : Own G y.F y.H v d fv) (kd : KdOk x y k fv) (e : Ext s y z) (hs : Src y v d k) (hk : k = .br → s = true) : Own G z.F z.H v d fv ∧ KdOk x z k fv ∧ Src z v d k := by
  have kf : KeptF y.F y.H z.H := e.keptF hy
  cases k with
  | fz =>
    obtain rfl : fv = [] := kd
    cases w with
    | fz r => exact ⟨.fz (r.keep e.f1 kf), rfl, .fz⟩
  | ow =>
    obtain ⟨n0, kd⟩ := kd
    have th := w.there
    have nn : ∀ a ∈ fv, y.H a ≠ none := fun a ha z => by
      obtain ⟨_, o, ho, _⟩ := th a ha
      rw [ho] at z; cases z
    refine ⟨w.keep e.f1 kf fun a ha => ⟨fun f => ?_, fun o ho t => ?_⟩, ⟨n0, fun a ha => ⟨(kd a ha).1, fun q => ?_, fun q => ?_, fun q => ?_⟩⟩, .ow⟩
    · rcases e.f2 a f with q | q
      · exact (th a ha).1 q
      · exact nn a ha q
    · refine e.kp a o ho (fun q => ?_) t
      rcases List.mem_append.mp q with q | q
      · exact (kd a ha).2.1 q
      · exact (kd a ha).2.2.1 q
    · rcases e.o1 a q with q | q
      · exact (kd a ha).2.1 q
      · exact nn a ha q
    · rw [e.p1] at q; exact (kd a ha).2.2.1 q
    · rw [e.b1] at q; exact (kd a ha).2.2.2 q
  | br =>
    obtain ⟨r1, k1, o1⟩ := e.st (hk rfl)
    have th := w.there
    refine ⟨w.keep e.f1 kf fun a ha => ⟨fun f => ?_, fun o ho t => k1 a o ho (by simp) t⟩, fun a ha => ?_, fun e' => by obtain ⟨j, fl, e1, e2, e3⟩ := hs e'; exact ⟨j, fl, by rw [r1]; exact e1, by rw [e.sg]; exact e2, e3⟩⟩
    · rcases e.f2 a f with q | q
      · exact (th a ha).1 q
      · obtain ⟨_, o, ho, _⟩ := th a ha
        rw [ho] at q; cases q
    · have := kd a ha
      rw [o1, e.p1, e.b1]; exact this

section
variable {X : Cx} {G : Gm} {W : WX}
theorem PE.of {e : Expr} {t u : TE} (h : PE X e t) (i : ∀ σ H Q, u σ H Q → t σ H Q) : PE X e u := ⟨fun pins s σ H Q I w => h.run pins s σ H Q I (i σ H Q w)⟩
theorem PA.of {e : List Expr} {t u : TA} (h : PA X e t) (i : ∀ σ H Q, u σ H Q → t σ H Q) : PA X e u := ⟨fun pos pins s σ H Q I w => h.run pos pins s σ H Q I (i σ H Q w)⟩
theorem PS.of {e : Stmt} {t u : TS} (h : PS X e t) (i : ∀ D σ H, u D σ H → t D σ H) : PS X e u := ⟨fun pins s σ H D I w => h.run pins s σ H D I (i D σ H w)⟩
theorem PSs.of {e : List Stmt} {t u : TS} (h : PSs X e t) (i : ∀ D σ H, u D σ H → t D σ H) : PSs X e u := ⟨fun pins s σ H D I w => h.run pins s σ H D I (i D σ H w)⟩
theorem PT.of {e : Expr} {t u : TT} (h : PT X e t) (i : ∀ σ H Q, u σ H Q → t σ H Q) : PT X e u := ⟨fun pins s σ H Q I w => h.run pins s σ H Q I (i σ H Q w)⟩

/-! ### constants and names -/
def xC (d : D) : EE := fun ρ => .ok (d, .fz, ρ)
theorem r_const {e : Expr} {v : V} {d : D} (h : PE X e (tC v)) (hd : atomD v = some d) : PE X e (tS G W true (xC d)) := PE.of h fun σ H Q ⟨x, e1, e2, hi, q⟩ => by
  subst e1 e2
  exact q x v [] rfl ⟨hi, .refl, .fz (.atom hd .nil), rfl, .fz⟩
def xV (i : Nat) : EE := fun ρ => match ρ[i]? with
  | some (some (d, .fz)) => .ok (d, .fz, ρ)
  | some (some (d, _)) => .ok (d, .br, ρ)
  | _ => .bad
theorem r_var {e : Expr} {i : Nat} (h : PE X e (tVar i)) : PE X e (tS G W true (xV i)) := PE.of h fun σ H Q ⟨x, e1, e2, hi, q⟩ => by
  subst e1 e2
  unfold xV at q
  cases hρ : x.rho[i]? with
  | none => rw [hρ] at q; exact q.elim
  | some sl =>
    cases sl with
    | none => rw [hρ] at q; exact q.elim
    | some df =>
      obtain ⟨d, fl⟩ := df
      rw [hρ] at q
      obtain ⟨v, fp, e1, w, f0, _, m⟩ := hi.sl.get hρ
      refine ⟨v, e1, ?_⟩
      cases fl with
      | fz =>
        obtain rfl := f0 rfl
        exact q x v [] rfl ⟨hi, .refl, w, rfl, .fz⟩
      | ow => exact q x v fp rfl ⟨hi, .refl, w, (fun a ha => by rcases m a ha with z | z | z <;> simp_all), fun _ => ⟨i, .ow, hρ, e1, by simp⟩⟩
      | pn => exact q x v fp rfl ⟨hi, .refl, w, (fun a ha => by rcases m a ha with z | z | z <;> simp_all), fun _ => ⟨i, .pn, hρ, e1, by simp⟩⟩
      | lk => exact q x v fp rfl ⟨hi, .refl, w, (fun a ha => by rcases m a ha with z | z | z <;> simp_all), fun _ => ⟨i, .lk, hρ, e1, by simp⟩⟩

/-! ### argument lists -/
def aN : AE := fun ρ => .ok ([], ρ)
def aC (s : Bool) (f : EE) (g : AE) : AE := fun ρ => do
  let (d, k, ρ1) ← f ρ
  if k = .br ∧ s = false then .bad else do
    let (l, ρ2) ← g ρ1
    pure ((d, k) :: l, ρ2)
theorem r_anil : PA X [] (tA G W true aN) := PA.of pa_nil fun σ H Q ⟨x, e1, e2, hi, q⟩ => by
  subst e1 e2
  exact q x [] rfl hi .refl .nil
theorem AOk.carry {s x y z vs l} (hy : SInv G y) (hxy : ∀ a, y.H a = none → x.H a = none) (e : Ext s y z) (h : AOk G x y vs l) (hk : ∀ dk ∈ l, dk.2 = Kd.br → s = true) : AOk G x z vs l := by
  induction h with
  | nil => exact .nil
  | cons w kd sr _ ih =>
    obtain ⟨w', kd', sr'⟩ := VL.carry hy hxy w kd e sr (hk _ List.mem_cons_self)
    exact .cons w' kd' sr' (ih fun dk h => hk dk (List.mem_cons_of_mem _ h))
theorem AOk.older {x x' y vs l} (h : AOk G x' y vs l) (hx : ∀ a, x'.H a = none → x.H a = none) : AOk G x y vs l := by
  induction h with
  | nil => exact .nil
  | @cons v d k fv vs dks w kd sr _ ih =>
    refine .cons w ?_ sr ih
    cases k with
    | fz => exact kd
    | ow => exact ⟨kd.1, fun a ha => ⟨hx a (kd.2 a ha).1, (kd.2 a ha).2⟩⟩
    | br => exact kd
theorem r_acons {e : Expr} {es : List Expr} {s t : Bool} {f : EE} {g : AE} (ha : PE X e (tS G W s f)) (hr : PA X es (tA G W t g)) (hs : starEach (e :: es) X.env = (false, eval e X.env) :: starEach es X.env := by rfl) : PA X (e :: es) (tA G W (s && t) (aC t f g)) := PA.of (pa_cons ha hr hs) fun σ H Q ⟨x, e1, e2, hi, q⟩ => by
  subst e1 e2
  refine ⟨x, rfl, rfl, hi, ?_⟩
  unfold aC at q
  cases h1 : f x.rho with
  | bad => simp only [h1, Res.bind_bad] at q
  | err c d ρ' =>
    simp only [h1, Res.bind_err] at q
    intro y cls dx hρ iy ey hev
    refine q y cls dx hρ iy { ey with st := fun z => ey.st (by simp only [Bool.and_eq_true] at z; exact z.1) } hev
  | ok r =>
    obtain ⟨d, k, ρ1⟩ := r
    simp only [h1, Res.bind_ok] at q
    intro y v fv hρ P
    refine ⟨y, P.ext.sg, rfl, P.inv, ?_⟩
    by_cases hb : k = .br ∧ t = false
    · rw [if_pos hb] at q; exact q.elim
    · rw [if_neg hb] at q
      rw [hρ]
      cases h2 : g ρ1 with
      | bad => simp only [h2, Res.bind_bad] at q
      | err c d' ρ' =>
        simp only [h2, Res.bind_err] at q
        intro z cls dx hz iz ez hev
        exact q z cls dx hz iz (P.ext.trans hi P.inv ez) hev
      | ok r2 =>
        obtain ⟨l, ρ2⟩ := r2
        simp only [h2, Res.bind_ok] at q
        intro z vs hz iz ez az
        have hk : k = .br → t = true := fun e => by
          cases t with
          | true => rfl
          | false => exact absurd ⟨e, rfl⟩ hb
        obtain ⟨w', kd', sr'⟩ := carry P.inv P.ext.dm P.own P.kd ez P.src hk
        exact q z (v :: vs) hz iz (P.ext.trans hi P.inv ez) (.cons w' kd' sr' (az.older P.ext.dm))
end
end VL
/-! VL3: functions on data applied to reckoned values; tests. -/
namespace VL
open PySem PySem.Spec PyProof.Rows L2

/-- what a built-in operation makes: all stays, perhaps something new -/
structure NewV (G : Gm) (F : Addr → Prop) (H : Hp) (F' : Addr → Prop) (H' : Hp) (v : V) (d : D) (k : Kd) (fv : List Addr) : Prop where
  dom : DomF F' H'
  f1 : ∀ a, F a → F' a
  f2 : ∀ a, F' a → F a ∨ H a = none
  kp : ∀ a o, H a = some o → H' a = some o
  own : Own G F' H' v d fv
  kd : match k with
    | .fz => fv = []
    | .ow => fv ≠ [] ∧ ∀ a ∈ fv, H a = none
    | .br => False
theorem NewV.dm {G F H F' H' v d k fv} (n : NewV G F H F' H' v d k fv) : ∀ a, H' a = none → H a = none := fun a h => by
  cases q : H a with
  | none => rfl
  | some o => rw [n.kp a o q] at h; cases h
theorem NewV.post {G : Gm} {y : Stt} {F' H' v d k fv} (hy : SInv G y) (n : NewV G y.F y.H F' H' v d k fv) :
    EPost G true y { y with F := F', H := H' } v d k fv where
  inv := by
    have kf : KeptF y.F y.H H' := fun a o _ e _ => n.kp a o e
    refine ⟨hy.sl.keep n.f1 kf fun a ha => ⟨fun f => ?_, fun o e _ => n.kp a o e⟩, hy.nd, n.dom, hy.tb.ext n.kp⟩
    obtain ⟨nf, o, e, _⟩ := hy.sl.there a ha
    rcases n.f2 a f with q | q
    · exact nf q
    · rw [e] at q; cases q
  ext := ⟨rfl, fun a o e _ _ => n.kp a o e, n.f1, n.f2, fun a h => .inl h, rfl, rfl, n.dm, fun _ d _ e _ => ⟨d, e, fun _ => rfl⟩, fun _ => ⟨rfl, fun a o e _ _ => n.kp a o e, rfl⟩⟩
  own := n.own
  src := .ne fun e => by subst e; exact n.kd.elim
  kd := by
    have q := n.kd
    cases k with
    | fz => exact q
    | br => exact q.elim
    | ow =>
      refine ⟨q.1, fun a ha => ⟨q.2 a ha, fun z => ?_, fun z => ?_, fun z => ?_⟩⟩
      · obtain ⟨_, o, e, _⟩ := hy.sl.there a (.inl z); rw [q.2 a ha] at e; cases e
      · obtain ⟨_, o, e, _⟩ := hy.sl.there a (.inr (.inl z)); rw [q.2 a ha] at e; cases e
      · obtain ⟨_, o, e, _⟩ := hy.sl.there a (.inr (.inr z)); rw [q.2 a ha] at e; cases e
theorem EPost.after {G : Gm} {s : Bool} {x y : Stt} {F' H' v d k fv} (hx : SInv G x) (hy : SInv G y) (e : Ext s x y) (n : NewV G y.F y.H F' H' v d k fv) :
    EPost G s x { y with F := F', H := H' } v d k fv := by
  have p := n.post hy
  refine ⟨p.inv, by have := e.trans hx hy p.ext; rwa [Bool.and_true] at this, p.own, ?_, p.src⟩
  have q := p.kd
  cases k with
  | fz => exact q
  | br => exact q
  | ow => exact ⟨q.1, fun a ha => ⟨e.dm a (q.2 a ha).1, (q.2 a ha).2⟩⟩
/-- nothing new -/
theorem NewV.same {G F H v d} (hd : DomF F H) (r : Rep G F H [v] [d]) : NewV G F H F H v d .fz [] := ⟨hd, fun _ h => h, fun _ h => .inl h, fun _ _ h => h, .fz r, rfl⟩
theorem NewV.atom {G F H v d} (hd : DomF F H) (e : atomD v = some d) : NewV G F H F H v d .fz [] := .same hd (.atom e .nil)
/-- a new list, owned -/
theorem NewV.lst {G : Gm} {F H p ws es} (hd : DomF F H) (hp : H p = none) (hz : ws.length ≤ sizeLine) (r : Rep G F H ws es) : NewV G F H F (upd H p (.lst ws)) (.ref p) (.lst es) .ow [p] := by
  have kp : ∀ a o, H a = some o → upd H p (.lst ws) a = some o := fun a o e => by rw [upd_ne (ne_of_none e hp)]; exact e
  have nf : ¬ F p := fun f => by obtain ⟨o, e, _⟩ := hd p f; rw [hp] at e; cases e
  exact ⟨fun a f => by obtain ⟨o, e, t⟩ := hd a f; exact ⟨o, kp a o e, t⟩, fun _ h => h, fun _ h => .inl h, kp, .ow nf ⟨ws, upd_same, hz, r.keep (fun _ h => h) fun a o _ e _ => kp a o e⟩, by simp, by simpa using hp⟩
theorem NewV.objs {G : Gm} {F H p d ob} (hd : DomF F H) (hp : H p = none) (r : Objs G F (upd H p ob) p d) : NewV G F H F (upd H p ob) (.ref p) d .ow [p] := by
  have kp : ∀ a o, H a = some o → upd H p ob a = some o := fun a o e => by rw [upd_ne (ne_of_none e hp)]; exact e
  have nf : ¬ F p := fun f => by obtain ⟨o, e, _⟩ := hd p f; rw [hp] at e; cases e
  exact ⟨fun a f => by obtain ⟨o, e, t⟩ := hd a f; exact ⟨o, kp a o e, t⟩, fun _ h => h, fun _ h => .inl h, kp, .ow nf r, by simp, by simpa using hp⟩
/-- a new tuple, frozen at once -/
theorem NewV.tup {G : Gm} {F H p ws es} (hd : DomF F H) (hp : H p = none) (hz : ws.length ≤ sizeLine) (r : Rep G F H ws es) : NewV G F H (fun a => F a ∨ a = p) (upd H p (.tup ws)) (.ref p) (.tup es) .fz [] := by
  have kp : ∀ a o, H a = some o → upd H p (.tup ws) a = some o := fun a o e => by rw [upd_ne (ne_of_none e hp)]; exact e
  refine ⟨fun a f => ?_, fun _ h => .inl h, fun a h => ?_, kp, .fz (.tup (.inr rfl) upd_same hz (r.keep (fun _ h => .inl h) fun a o _ e _ => kp a o e) .nil), rfl⟩
  · rcases f with f | rfl
    · obtain ⟨o, e, t⟩ := hd a f; exact ⟨o, kp a o e, t⟩
    · exact ⟨_, upd_same, rfl⟩
  · rcases h with h | rfl
    · exact .inl h
    · exact .inr hp

inductive Reads (G : Gm) (F : Addr → Prop) (H : Hp) : List V → List D → Prop
  | nil : Reads G F H [] []
  | cons {v d fp vs ds} : Own G F H v d fp → Reads G F H vs ds → Reads G F H (v :: vs) (d :: ds)
theorem AOk.reads {G x y vs l} (h : AOk G x y vs l) : Reads G y.F y.H vs (l.map (·.1)) := by
  induction h with
  | nil => exact .nil
  | cons w _ _ _ ih => exact .cons w ih

/-- an operation over values, as a function on data -/
def FnD (G : Gm) (r : List V → Hp → VK → Prop) (g : List D → Option (D × Kd)) : Prop := ∀ F H vs ds d k Q, DomF F H → Reads G F H vs ds → g ds = some (d, k) →
  (∀ F' H' v fv, NewV G F H F' H' v d k fv → Q v H') → r vs H Q
def FnD2 (G : Gm) (r : R2) (g : D → D → Option (D × Kd)) : Prop := ∀ F H v w a b fv fw d k Q, DomF F H → Own G F H v a fv → Own G F H w b fw → g a b = some (d, k) →
  (∀ F' H' u fu, NewV G F H F' H' u d k fu → Q u H') → r v w H Q
def FnD1 (G : Gm) (r : V → Hp → VK → Prop) (g : D → Option (D × Kd)) : Prop := ∀ F H v a fv d k Q, DomF F H → Own G F H v a fv → g a = some (d, k) →
  (∀ F' H' u fu, NewV G F H F' H' u d k fu → Q u H') → r v H Q
def xApp (g : List D → Option (D × Kd)) (f : AE) : EE := fun ρ => do
  let (l, ρ1) ← f ρ
  match g (l.map (·.1)) with
  | some (d, k) => pure (d, k, ρ1)
  | none => .bad
def xAp2 (s2 : Bool) (g : D → D → Option (D × Kd)) (f1 f2 : EE) : EE := fun ρ => do
  let (a, k1, ρ1) ← f1 ρ
  if k1 = .br ∧ s2 = false then .bad else do
    let (b, _, ρ2) ← f2 ρ1
    match g a b with
    | some (d, k) => pure (d, k, ρ2)
    | none => .bad
def xAp1 (g : D → Option (D × Kd)) (f : EE) : EE := fun ρ => do
  let (a, _, ρ1) ← f ρ
  match g a with
  | some (d, k) => pure (d, k, ρ1)
  | none => .bad
section
variable {X : Cx} {G : Gm} {W : WX}
theorem tS_app {t : TA} {r : List V → Hp → VK → Prop} {s : Bool} {f : AE} {g : List D → Option (D × Kd)} (hg : FnD G r g) {σ H Q} (h : tS G W s (xApp g f) σ H Q) : tA G W s f σ H fun vs H1 => r vs H1 Q := by
  obtain ⟨x, rfl, rfl, hi, q⟩ := h
  refine ⟨x, rfl, rfl, hi, ?_⟩
  unfold xApp at q
  cases h1 : f x.rho with
  | bad => simp only [h1, Res.bind_bad] at q
  | err c d ρ' => simp only [h1, Res.bind_err] at q; exact q
  | ok r1 =>
    obtain ⟨l, ρ1⟩ := r1
    simp only [h1, Res.bind_ok] at q
    intro y vs hρ iy ey ay
    cases h2 : g (l.map (·.1)) with
    | none => simp only [h2] at q
    | some dk =>
      obtain ⟨d, k⟩ := dk
      simp only [h2, Res.pure_ok] at q
      refine hg y.F y.H vs _ d k Q iy.dom ay.reads h2 fun F' H' v fv n => ?_
      exact q { y with F := F', H := H' } v fv hρ (EPost.after hi iy ey n)
theorem tS_ap2 {r : R2} {s t : Bool} {f1 f2 : EE} {g : D → D → Option (D × Kd)} (hg : FnD2 G r g) {σ H Q} (h : tS G W (s && t) (xAp2 t g f1 f2) σ H Q) : tOp r (tS G W s f1) (tS G W t f2) σ H Q := by
  obtain ⟨x, rfl, rfl, hi, q⟩ := h
  refine ⟨x, rfl, rfl, hi, ?_⟩
  unfold xAp2 at q
  cases h1 : f1 x.rho with
  | bad => simp only [h1, Res.bind_bad] at q
  | err c d ρ' =>
    simp only [h1, Res.bind_err] at q
    exact fun y cls dx hρ iy ey hev => q y cls dx hρ iy { ey with st := fun z => ey.st (by simp only [Bool.and_eq_true] at z; exact z.1) } hev
  | ok r1 =>
    obtain ⟨a, k1, ρ1⟩ := r1
    simp only [h1, Res.bind_ok] at q
    intro y v fv hρ P
    by_cases hb : k1 = .br ∧ t = false
    · rw [if_pos hb] at q; exact q.elim
    rw [if_neg hb] at q
    have hk : k1 = .br → t = true := fun e => by
      cases t with
      | true => rfl
      | false => exact absurd ⟨e, rfl⟩ hb
    refine ⟨y, P.ext.sg, rfl, P.inv, ?_⟩
    rw [hρ]
    cases h2 : f2 ρ1 with
    | bad => simp only [h2, Res.bind_bad] at q
    | err c d' ρ' =>
      simp only [h2, Res.bind_err] at q
      exact fun z cls dx hz iz ez hev => q z cls dx hz iz (P.ext.trans hi P.inv ez) hev
    | ok r2 =>
      obtain ⟨b, k2, ρ2⟩ := r2
      simp only [h2, Res.bind_ok] at q
      intro z w fw hz P2
      cases h3 : g a b with
      | none => simp only [h3] at q
      | some dk =>
        obtain ⟨d, k⟩ := dk
        simp only [h3, Res.pure_ok] at q
        obtain ⟨w', kd', _⟩ := carry P.inv P.ext.dm P.own P.kd P2.ext P.src hk
        refine hg z.F z.H v w a b _ _ d k Q P2.inv.dom w' P2.own h3 fun F' H' u fu n => ?_
        exact q { z with F := F', H := H' } u fu hz (EPost.after hi P2.inv (P.ext.trans hi P.inv P2.ext) n)
theorem tS_ap1 {r : V → Hp → VK → Prop} {s : Bool} {f : EE} {g : D → Option (D × Kd)} (hg : FnD1 G r g) {σ H Q} (h : tS G W s (xAp1 g f) σ H Q) : tUn r (tS G W s f) σ H Q := by
  obtain ⟨x, rfl, rfl, hi, q⟩ := h
  refine ⟨x, rfl, rfl, hi, ?_⟩
  unfold xAp1 at q
  cases h1 : f x.rho with
  | bad => simp only [h1, Res.bind_bad] at q
  | err c d ρ' => simp only [h1, Res.bind_err] at q; exact q
  | ok r1 =>
    obtain ⟨a, k1, ρ1⟩ := r1
    simp only [h1, Res.bind_ok] at q
    intro y v fv hρ P
    cases h3 : g a with
    | none => simp only [h3] at q
    | some dk =>
      obtain ⟨d, k⟩ := dk
      simp only [h3, Res.pure_ok] at q
      refine hg y.F y.H v a fv d k Q P.inv.dom P.own h3 fun F' H' u fu n => ?_
      exact q { y with F := F', H := H' } u fu hρ (EPost.after hi P.inv P.ext n)
theorem r_bin {op : Operator} {a b : Expr} {pos : Pos} {r : R2} {g : D → D → Option (D × Kd)} {s t : Bool} {f1 f2 : EE} (ho : OpR X (binaryOp op) r) (hg : FnD2 G r g) (ha : PE X a (tS G W s f1)) (hb : PE X b (tS G W t f2)) : PE X (.BinOp a op b pos) (tS G W (s && t) (xAp2 t g f1 f2)) :=
  PE.of (pe_op ho ha hb) fun _ _ _ h => tS_ap2 hg h
theorem r_un {op : UnaryOp} {a : Expr} {pos : Pos} {r : V → Hp → VK → Prop} {g : D → Option (D × Kd)} {s : Bool} {f : EE} (ho : UnR X (unaryOp op) r) (hg : FnD1 G r g) (ha : PE X a (tS G W s f)) : PE X (.UnaryOp op a pos) (tS G W s (xAp1 g f)) :=
  PE.of (pe_un ho ha) fun _ _ _ h => tS_ap1 hg h
theorem r_cmp {op : CmpOp} {a b : Expr} {pos : Pos} {r : R2} {g : D → D → Option (D × Kd)} {s t : Bool} {f1 f2 : EE} (ho : OpR X (compareOp op) r) (hg : FnD2 G r g) (ha : PE X a (tS G W s f1)) (hb : PE X b (tS G W t f2)) (hm : behindInMarks op b = false) : PE X (.Compare a [op] [b] pos) (tS G W (s && t) (xAp2 t g f1 f2)) :=
  PE.of (pe_cmpR ho ha hb hm) fun _ _ _ h => tS_ap2 hg h
theorem r_ix {a b : Expr} {pos : Pos} {r : R2} {g : D → D → Option (D × Kd)} {s t : Bool} {f1 f2 : EE} (ho : IxR X r) (hg : FnD2 G r g) (ha : PE X a (tS G W s f1)) (hb : PE X b (tS G W t f2)) (hs : PlainIx b) : PE X (.Subscript a b pos) (tS G W (s && t) (xAp2 t g f1 f2)) :=
  PE.of (pe_ix ho ha hb hs) fun _ _ _ h => tS_ap2 hg h
theorem r_callB {id : String} {x : Str} {p pos : Pos} {e : Expr} {es : List Expr} {r : List V → Hp → VK → Prop} {g : List D → Option (D × Kd)} {s : Bool} {f : AE} (hc : CallR X (.builtin id) r) (hg' : FnD G r g) (hg : Gl X x) (hm : X.mg x = none) (hv : bootBuiltins x = some (.builtin id)) (ha : PA X (e :: es) (tA G W s f))
    (hn : x ≠ "__name__" := by decide) (hdb : (x == ("__debug__" : Str)) = false := by decide) (he : starEach (e :: es) X.env = (false, eval e X.env) :: starEach es X.env := by rfl) (hpl : (backTo pos (starEach es X.env)).any (·.1) = false := by rfl) :
    PE X (.Call (.Name x p) (e :: es) [] pos) (tS G W s (xApp g f)) :=
  PE.of (pe_callB hc hg hm hv ha hn hdb he hpl) fun _ _ _ h => tS_app (t := tA G W s f) hg' h
theorem r_callTy {T : String} {x : Str} {p pos : Pos} {e : Expr} {es : List Expr} {r : List V → Hp → VK → Prop} {g : List D → Option (D × Kd)} {s : Bool} {f : AE} (hc : CallR X (.type T) r) (hg' : FnD G r g) (hg : Gl X x) (hm : X.mg x = none) (hv : bootBuiltins x = some (.type T)) (ha : PA X (e :: es) (tA G W s f))
    (hn : x ≠ "__name__" := by decide) (hdb : (x == ("__debug__" : Str)) = false := by decide) (he : starEach (e :: es) X.env = (false, eval e X.env) :: starEach es X.env := by rfl) (hpl : (backTo pos (starEach es X.env)).any (·.1) = false := by rfl) :
    PE X (.Call (.Name x p) (e :: es) [] pos) (tS G W s (xApp g f)) :=
  PE.of (pe_callTy hc hg hm hv ha hn hdb he hpl) fun _ _ _ h => tS_app (t := tA G W s f) hg' h
end
end VL
/-! VL4: displays, tests, and or not, conditional expressions, attributes. -/
namespace VL
open PySem PySem.Spec PyProof.Rows L2

/-- freezing what is owned by a reckoned value -/
theorem SInv.freeze {G : Gm} {y : Stt} {fv : List Addr} (hy : SInv G y) (hd : ∀ a ∈ fv, (∃ o, y.H a = some o ∧ isTbl o = false) ∧ a ∉ y.o ∧ a ∉ y.p ∧ a ∉ y.b) : SInv G { y with F := fun a => y.F a ∨ a ∈ fv } := by
  refine ⟨hy.sl.keep (fun _ h => .inl h) KeptF.refl fun a ha => ⟨fun f => ?_, fun o e _ => e⟩, hy.nd, fun a f => ?_, hy.tb⟩
  · rcases f with f | f
    · exact (hy.sl.there a ha).1 f
    · obtain ⟨_, n1, n2, n3⟩ := hd a f
      rcases ha with z | z | z
      · exact n1 z
      · exact n2 z
      · exact n3 z
  · rcases f with f | f
    · exact hy.dom a f
    · exact (hd a f).1

def D.fzOk : D → Bool
  | .drw _ _ _ _ => false
  | _ => true
theorem Objs.rep {G : Gm} {F F' : Addr → Prop} {H : Hp} {a : Addr} {d : D} (h : Objs G F H a d) (fa : F' a) (hf : ∀ x, F x → F' x) : Rep G F' H [.ref a] [d] := by
  cases d <;> first | exact h.elim | skip
  case lst es => obtain ⟨ws, e, z, r⟩ := h; exact .lst fa e z (r.keep hf .refl) .nil
  case dK es => obtain ⟨ws, e, z, k, r⟩ := h; exact .dK fa e z k (r.keep hf .refl) .nil
  case dT es => obtain ⟨ws, e, z, k, r⟩ := h; exact .dT fa e z k (r.keep hf .refl) .nil
  case ins c es => obtain ⟨C, dx, ws, e, z, k, r⟩ := h; exact .ins fa e z k (r.keep hf .refl) .nil
theorem Own.rep {G : Gm} {F F' : Addr → Prop} {H : Hp} {v : V} {d : D} {fp : List Addr} (h : Own G F H v d fp) (fa : ∀ a ∈ fp, F' a) (hf : ∀ x, F x → F' x) (hd : d.fzOk = true) : Rep G F' H [v] [d] := by
  cases h with
  | fz r => exact r.keep hf .refl
  | ow _ ob => exact ob.rep (fa _ (by simp)) hf
  | drw => cases hd
def fzAll (l : List (D × Kd)) : Bool := l.all fun dk => (decide (dk.2 ≠ .br)) && dk.1.fzOk
theorem AOk.temps {G : Gm} {x y : Stt} {vs : List V} {l : List (D × Kd)} (h : AOk G x y vs l) (hb : fzAll l = true) :
    ∃ fs : List Addr, (∀ a ∈ fs, ((∃ o, y.H a = some o ∧ isTbl o = false) ∧ a ∉ y.o ∧ a ∉ y.p ∧ a ∉ y.b) ∧ x.H a = none) ∧ Rep G (fun a => y.F a ∨ a ∈ fs) y.H vs (l.map (·.1)) := by
  induction h with
  | nil => exact ⟨[], by simp, .nil⟩
  | @cons v d k fv vs dks w kd _ _ ih =>
    simp only [fzAll, List.all_cons, Bool.and_eq_true, decide_eq_true_eq] at hb
    obtain ⟨⟨hk, hd⟩, hb⟩ := hb
    obtain ⟨fs, h1, r⟩ := ih (by simpa [fzAll] using hb)
    cases k with
    | br => exact absurd rfl hk
    | fz =>
      obtain rfl : fv = [] := kd
      exact ⟨fs, h1, Rep.cons_iff.mpr ⟨w.rep (by simp) (fun _ h => .inl h) hd, r⟩⟩
    | ow =>
      refine ⟨fv ++ fs, fun a ha => ?_, Rep.cons_iff.mpr ⟨w.rep (fun a ha => .inr (by simp [ha])) (fun _ h => .inl h) hd, r.keep (fun a h => ?_) .refl⟩⟩
      · rcases List.mem_append.mp ha with q | q
        · exact ⟨⟨(w.there a q).2, (kd.2 a q).2⟩, (kd.2 a q).1⟩
        · exact h1 a q
      · rcases h with h | h
        · exact .inl h
        · exact .inr (by simp [h])
theorem AOk.frozen {G : Gm} {s : Bool} {x y : Stt} {vs : List V} {l : List (D × Kd)} (hx : SInv G x) (hy : SInv G y) (e : Ext s x y) (h : AOk G x y vs l) (hb : fzAll l = true) :
    ∃ F' : Addr → Prop, SInv G { y with F := F' } ∧ Ext s x { y with F := F' } ∧ Rep G F' y.H vs (l.map (·.1)) := by
  obtain ⟨fs, h1, r⟩ := h.temps hb
  refine ⟨fun a => y.F a ∨ a ∈ fs, hy.freeze fun a ha => (h1 a ha).1, ⟨e.sg, e.kp, fun a f => .inl (e.f1 a f), fun a f => ?_, e.o1, e.p1, e.b1, e.dm, e.lk, e.st⟩, r⟩
  rcases f with f | f
  · exact e.f2 a f
  · exact .inr (h1 a f).2
def xTup (f : AE) : EE := fun ρ => do
  let (l, ρ1) ← f ρ
  if fzAll l = true ∧ l.length ≤ sizeLine then pure (.tup (l.map (·.1)), .fz, ρ1) else .bad
def xLst (f : AE) : EE := fun ρ => do
  let (l, ρ1) ← f ρ
  if fzAll l = true ∧ l.length ≤ sizeLine then pure (.lst (l.map (·.1)), .ow, ρ1) else .bad
section
variable {X : Cx} {G : Gm} {W : WX}
theorem r_tup {es : List Expr} {x1 : Nat} {pos : Pos} {s : Bool} {f : AE} (h : PA X es (tA G W s f)) : PE X (.Tuple es x1 pos) (tS G W s (xTup f)) := PE.of (pe_tup h) fun σ H Q ⟨x, e1, e2, hi, q⟩ => by
  subst e1 e2
  refine ⟨x, rfl, rfl, hi, ?_⟩
  unfold xTup at q
  cases h1 : f x.rho with
  | bad => simp only [h1, Res.bind_bad] at q
  | err c d ρ' => simp only [h1, Res.bind_err] at q; exact q
  | ok r1 =>
    obtain ⟨l, ρ1⟩ := r1
    simp only [h1, Res.bind_ok] at q
    intro y vs hρ iy ey ay
    by_cases hc : fzAll l = true ∧ l.length ≤ sizeLine
    · rw [if_pos hc] at q
      obtain ⟨F', i', e', r⟩ := ay.frozen hi iy ey hc.1
      have hz : vs.length ≤ sizeLine := by rw [r.length, List.length_map]; exact hc.2
      refine ⟨hz, fun p hp => ?_⟩
      have P := EPost.after (y := { y with F := F' }) hi i' e' (NewV.tup i'.dom hp hz r)
      exact q { F := _, rho := y.rho, sg := y.sg, H := _, o := y.o, p := y.p, b := y.b } _ [] hρ P
    · rw [if_neg hc] at q; exact q.elim
theorem r_lst {es : List Expr} {pos : Pos} {s : Bool} {f : AE} (h : PA X es (tA G W s f)) : PE X (.List es pos) (tS G W s (xLst f)) := PE.of (pe_lst h) fun σ H Q ⟨x, e1, e2, hi, q⟩ => by
  subst e1 e2
  refine ⟨x, rfl, rfl, hi, ?_⟩
  unfold xLst at q
  cases h1 : f x.rho with
  | bad => simp only [h1, Res.bind_bad] at q
  | err c d ρ' => simp only [h1, Res.bind_err] at q; exact q
  | ok r1 =>
    obtain ⟨l, ρ1⟩ := r1
    simp only [h1, Res.bind_ok] at q
    intro y vs hρ iy ey ay
    by_cases hc : fzAll l = true ∧ l.length ≤ sizeLine
    · rw [if_pos hc] at q
      obtain ⟨F', i', e', r⟩ := ay.frozen hi iy ey hc.1
      have hz : vs.length ≤ sizeLine := by rw [r.length, List.length_map]; exact hc.2
      refine ⟨hz, fun p hp => ?_⟩
      have P := EPost.after (y := { y with F := F' }) hi i' e' (NewV.lst i'.dom hp hz r)
      exact q { F := _, rho := y.rho, sg := y.sg, H := _, o := y.o, p := y.p, b := y.b } _ _ hρ P
    · rw [if_neg hc] at q; exact q.elim

/-! ### tests -/
abbrev BE := Env → Res (Bool × Env)
def tB (G : Gm) (W : WX) (still : Bool) (f : BE) : TT := fun σ H Q => ∃ x : Stt, x.sg = σ ∧ x.H = H ∧ SInv G x ∧
  match f x.rho with
  | .ok (b, ρ') => ∀ y, y.rho = ρ' → SInv G y → Ext still x y → Q b y.H
  | .err c d ρ' => ∀ y cls dx, y.rho = ρ' → SInv G y → Ext still x y → ErrV G y cls dx c d → W cls dx σ y.H
  | .bad => False
def xTst (f : EE) : BE := fun ρ => do
  let (d, _, ρ1) ← f ρ
  match d with
  | .bl b => pure (b, ρ1)
  | _ => .bad
theorem tB_of {s : Bool} {f : EE} {σ H} {Q : Bool → Hp → Prop} (h : tB G W s (xTst f) σ H Q) : tS G W s f σ H fun x H1 => ∃ c, x = .bl c ∧ Q c H1 := by
  obtain ⟨x, rfl, rfl, hi, q⟩ := h
  refine ⟨x, rfl, rfl, hi, ?_⟩
  unfold xTst at q
  cases h1 : f x.rho with
  | bad => simp only [h1, Res.bind_bad] at q
  | err c d ρ' => simp only [h1, Res.bind_err] at q; exact q
  | ok r1 =>
    obtain ⟨d, k, ρ1⟩ := r1
    simp only [h1, Res.bind_ok] at q
    intro y v fv hρ P
    cases d <;> first | exact q.elim | skip
    case bl b =>
      have w := P.own
      have : v = .bl b := by
        cases w with
        | fz r => exact r.bl_of
        | ow _ ob => exact ob.elim
      exact ⟨b, this, q y hρ P.inv P.ext⟩
theorem r_test {e : Expr} {s : Bool} {f : EE} (h : PE X e (tS G W s f)) (he : ∀ whole, isTrue e X.env whole = (do let v ← whole; standAt e.pos; holding [v] (truthy v)) := by intro _; rfl) : PT X e (tB G W s (xTst f)) := PT.of (pt_val h he) fun _ _ _ h => tB_of h
theorem r_tcmp {op : CmpOp} {a b : Expr} {pos : Pos} {r : R2} {g : D → D → Option (D × Kd)} {s t : Bool} {f1 f2 : EE} (ho : OpR X (compareOp op) r) (hg : FnD2 G r g) (ha : PE X a (tS G W s f1)) (hb : PE X b (tS G W t f2)) (hm : behindInMarks op b = false) : PT X (.Compare a [op] [b] pos) (tB G W (s && t) (xTst (xAp2 t g f1 f2))) :=
  PT.of (pt_cmpR ho ha hb hm) fun _ _ _ h => tS_ap2 hg (tB_of h)
def bNot (f : BE) : BE := fun ρ => do
  let (b, ρ1) ← f ρ
  pure (!b, ρ1)
def bK (b : Bool) : BE := fun ρ => pure (b, ρ)
def bIf (f g g' : BE) : BE := fun ρ => do
  let (b, ρ1) ← f ρ
  if b = true then g ρ1 else g' ρ1
def bAnd (f g : BE) : BE := bIf f g (bK false)
def bOr (f g : BE) : BE := bIf f (bK true) g
theorem Ext.weak {s t : Bool} {x y : Stt} (e : Ext s x y) (h : t = true → s = true) : Ext t x y := { e with st := fun z => e.st (h z) }
theorem r_not {a : Expr} {pos : Pos} {s : Bool} {f : BE} (h : PT X a (tB G W s f)) : PT X (.UnaryOp .Not a pos) (tB G W s (bNot f)) := PT.of (pt_not h) fun σ H Q ⟨x, e1, e2, hi, q⟩ => by
  subst e1 e2
  refine ⟨x, rfl, rfl, hi, ?_⟩
  unfold bNot at q
  cases h1 : f x.rho with
  | bad => simp only [h1, Res.bind_bad] at q
  | err c d ρ' => simp only [h1, Res.bind_err] at q; exact q
  | ok r1 =>
    obtain ⟨b, ρ1⟩ := r1
    simp only [h1, Res.bind_ok] at q
    exact q
theorem tB_cond {s t u : Bool} {f g g' : BE} {σ H} {Q : Bool → Hp → Prop} (h : tB G W (s && (t && u)) (bIf f g g') σ H Q) :
    tB G W s f σ H fun c H1 => if c = true then tB G W t g σ H1 Q else tB G W u g' σ H1 Q := by
  obtain ⟨x, rfl, rfl, hi, q⟩ := h
  refine ⟨x, rfl, rfl, hi, ?_⟩
  unfold bIf at q
  cases h1 : f x.rho with
  | bad => simp only [h1, Res.bind_bad] at q
  | err c d ρ' =>
    simp only [h1, Res.bind_err] at q
    exact fun y cls dx hρ iy ey hev => q y cls dx hρ iy (ey.weak fun z => by simp only [Bool.and_eq_true] at z; exact z.1) hev
  | ok r1 =>
    obtain ⟨b, ρ1⟩ := r1
    simp only [h1, Res.bind_ok] at q
    intro y hρ iy ey
    cases b with
    | true =>
      rw [if_pos rfl]; rw [if_pos rfl] at q
      refine ⟨y, ey.sg, rfl, iy, ?_⟩
      rw [hρ]
      cases h2 : g ρ1 with
      | bad => simp only [h2] at q
      | err c d' ρ' =>
        simp only [h2] at q
        exact fun z cls dx hz iz ez hev => q z cls dx hz iz ((ey.trans hi iy ez).weak fun z => by simp only [Bool.and_eq_true] at z ⊢; exact ⟨z.1, z.2.1⟩) hev
      | ok r2 =>
        simp only [h2] at q
        exact fun z hz iz ez => q z hz iz ((ey.trans hi iy ez).weak fun z => by simp only [Bool.and_eq_true] at z ⊢; exact ⟨z.1, z.2.1⟩)
    | false =>
      rw [if_neg (by simp)]; rw [if_neg (by simp)] at q
      refine ⟨y, ey.sg, rfl, iy, ?_⟩
      rw [hρ]
      cases h2 : g' ρ1 with
      | bad => simp only [h2] at q
      | err c d' ρ' =>
        simp only [h2] at q
        exact fun z cls dx hz iz ez hev => q z cls dx hz iz ((ey.trans hi iy ez).weak fun z => by simp only [Bool.and_eq_true] at z ⊢; exact ⟨z.1, z.2.2⟩) hev
      | ok r2 =>
        simp only [h2] at q
        exact fun z hz iz ez => q z hz iz ((ey.trans hi iy ez).weak fun z => by simp only [Bool.and_eq_true] at z ⊢; exact ⟨z.1, z.2.2⟩)
theorem tB_pure {s : Bool} {b : Bool} {σ H} {Q : Bool → Hp → Prop} (h : tB G W s (bK b) σ H Q) : Q b H := by
  obtain ⟨x, rfl, rfl, hi, q⟩ := h
  exact q x rfl hi .refl
theorem tB_imp {s : Bool} {f : BE} {σ H} {Q Q' : Bool → Hp → Prop} (h : tB G W s f σ H Q) (i : ∀ b H', Q b H' → Q' b H') : tB G W s f σ H Q' := by
  obtain ⟨x, e1, e2, hi, q⟩ := h
  refine ⟨x, e1, e2, hi, ?_⟩
  revert q
  cases f x.rho with
  | bad => exact id
  | err c d ρ' => exact id
  | ok r1 => exact fun q y hρ iy ey => i _ _ (q y hρ iy ey)
theorem r_and {a b : Expr} {rest : List Expr} {pos : Pos} {s t : Bool} {f g : BE} (ha : PT X a (tB G W s f)) (hb : PW X (.BoolOp .And (b :: rest) pos) (tB G W t g)) : PW X (.BoolOp .And (a :: b :: rest) pos) (tB G W (s && t) (bAnd f g)) := by
  have h := pw_and (pos := pos) ha hb
  refine ⟨fun wh pins st σ H Q I w => h.run wh pins st σ H Q I ?_⟩
  have q := tB_cond (u := true) (s := s) (t := t) (f := f) (g := g) (g' := bK false) (by rw [Bool.and_true]; exact w)
  refine tB_imp q fun b H' q => ?_
  split
  · rename_i hb; rw [if_pos hb] at q; exact q
  · rename_i hb; rw [if_neg hb] at q; exact tB_pure q
theorem r_or {a b : Expr} {rest : List Expr} {pos : Pos} {s t : Bool} {f g : BE} (ha : PT X a (tB G W s f)) (hb : PW X (.BoolOp .Or (b :: rest) pos) (tB G W t g)) : PW X (.BoolOp .Or (a :: b :: rest) pos) (tB G W (s && t) (bOr f g)) := by
  have h := pw_or (pos := pos) ha hb
  refine ⟨fun wh pins st σ H Q I w => h.run wh pins st σ H Q I ?_⟩
  have q := tB_cond (t := true) (s := s) (u := t) (f := f) (g := bK true) (g' := g) (by rw [Bool.true_and]; exact w)
  refine tB_imp q fun b H' q => ?_
  split
  · rename_i hb; rw [if_pos hb] at q; exact tB_pure q
  · rename_i hb; rw [if_neg hb] at q; exact q
theorem r_and1 {a : Expr} {pos : Pos} {s : Bool} {f : BE} (ha : PT X a (tB G W s f)) : PW X (.BoolOp .And [a] pos) (tB G W s f) := pw_and1 ha
theorem r_or1 {a : Expr} {pos : Pos} {s : Bool} {f : BE} (ha : PT X a (tB G W s f)) : PW X (.BoolOp .Or [a] pos) (tB G W s f) := pw_or1 ha
end
end VL
/-! VL5: slots changed; conditional expressions; attributes; readings of statements. -/
namespace VL
open PySem PySem.Spec PyProof.Rows L2

/-- what a slot may hold anew -/
inductive SlotOk (G : Gm) (F : Addr → Prop) (H : Hp) (v : V) (d : D) : Fl → List Addr → Prop
  | fz : Rep G F H [v] [d] → SlotOk G F H v d .fz []
  | ow {fp} : Own G F H v d fp → fp ≠ [] → SlotOk G F H v d .ow fp
theorem Slots.set {G F H ρ σ o p b} (h : Slots G F H ρ σ o p b) : ∀ {i : Nat} {v : V} {d : D} {fl : Fl} {fp : List Addr}, i < ρ.length → (∀ d' fl', ρ[i]? = some (some (d', fl')) → fl' = .fz ∨ fl' = .ow) → SlotOk G F H v d fl fp →
    ∃ o1 old o3, o = o1 ++ (old ++ o3) ∧ Slots G F H (ρ.set i (some (d, fl))) (σ.set i (some v)) (o1 ++ (fp ++ o3)) p b := by
  induction h with
  | nil => intro i v d fl fp hi; simp at hi
  | @none x ρ σ o p b hs ih =>
    intro i v d fl fp hi hn w
    cases i with
    | zero =>
      refine ⟨[], [], o, rfl, ?_⟩
      cases w with
      | fz r => exact .fz r hs
      | ow r n => exact Slots.ow (fp := fp) r n hs
    | succ i =>
      obtain ⟨o1, old, o3, e, q⟩ := ih (i := i) (by simpa using hi) (fun d' fl' e => hn d' fl' (by simpa using e)) w
      exact ⟨o1, old, o3, e, .none q⟩
  | @fz v0 d0 ρ σ o p b r0 hs ih =>
    intro i v d fl fp hi hn w
    cases i with
    | zero =>
      refine ⟨[], [], o, rfl, ?_⟩
      cases w with
      | fz r => exact .fz r hs
      | ow r n => exact Slots.ow (fp := fp) r n hs
    | succ i =>
      obtain ⟨o1, old, o3, e, q⟩ := ih (i := i) (by simpa using hi) (fun d' fl' e => hn d' fl' (by simpa using e)) w
      exact ⟨o1, old, o3, e, .fz r0 q⟩
  | @ow v0 d0 fp0 ρ σ o p b r0 n0 hs ih =>
    intro i v d fl fp hi hn w
    cases i with
    | zero =>
      refine ⟨[], fp0, o, rfl, ?_⟩
      cases w with
      | fz r => exact .fz r hs
      | ow r n => exact Slots.ow (fp := fp) r n hs
    | succ i =>
      obtain ⟨o1, old, o3, e, q⟩ := ih (i := i) (by simpa using hi) (fun d' fl' e => hn d' fl' (by simpa using e)) w
      refine ⟨fp0 ++ o1, old, o3, by rw [e, List.append_assoc], ?_⟩
      rw [List.append_assoc]
      exact .ow r0 n0 q
  | @pn v0 d0 fp0 ρ σ o p b r0 n0 hs ih =>
    intro i v d fl fp hi hn w
    cases i with
    | zero => have := hn d0 .pn rfl; simp at this
    | succ i =>
      obtain ⟨o1, old, o3, e, q⟩ := ih (i := i) (by simpa using hi) (fun d' fl' e => hn d' fl' (by simpa using e)) w
      exact ⟨o1, old, o3, e, .pn r0 n0 q⟩
  | @lk v0 d0 fp0 ρ σ o p b r0 hs ih =>
    intro i v d fl fp hi hn w
    cases i with
    | zero => have := hn d0 .lk rfl; simp at this
    | succ i =>
      obtain ⟨o1, old, o3, e, q⟩ := ih (i := i) (by simpa using hi) (fun d' fl' e => hn d' fl' (by simpa using e)) w
      exact ⟨o1, old, o3, e, .lk r0 q⟩
/-- the object of an owned slot is changed -/
theorem Slots.mut {G F H H' ρ σ o p b} (h : Slots G F H ρ σ o p b) : ∀ {i : Nat} {d d' : D} {fl : Fl} {v : V} {fp : List Addr}, (o ++ (p ++ b)).Nodup → ρ[i]? = some (some (d, fl)) → (fl = .ow ∨ fl = .pn) → σ[i]? = some (some v) → Own G F H v d fp → fp ≠ [] → Own G F H' v d' fp →
    (∀ a ob, H a = some ob → a ∉ fp → isTbl ob = false → H' a = some ob) → Slots G F H' (ρ.set i (some (d', fl))) σ o p b := by
  have key : ∀ {ρ σ o p b}, Slots G F H ρ σ o p b → ∀ fp : List Addr, (∀ a ∈ fp, ¬ F a) → (∀ a ob, H a = some ob → a ∉ fp → isTbl ob = false → H' a = some ob) → (∀ a, a ∈ o ∨ a ∈ p ∨ a ∈ b → a ∉ fp) → Slots G F H' ρ σ o p b := by
    intro ρ σ o p b hs fp nf k dis
    refine hs.keep (fun _ h => h) (fun a ob f e t => k a ob e (fun z => nf a z f) t) fun a ha => ⟨(hs.there a ha).1, fun ob e t => k a ob e (dis a ha) t⟩
  have own1 : ∀ {v d fp fp'}, Own G F H v d fp → Own G F H v d fp' → fp ≠ [] → fp' ≠ [] → fp = fp' := by
    intro v d fp fp' w w' n n'
    cases w with
    | fz _ => exact absurd rfl n
    | ow f ob =>
      cases w' with
      | fz _ => exact absurd rfl n'
      | ow _ _ => rfl
      | drw _ _ _ _ _ _ => exact ob.elim
    | drw f1 f2 f3 _ _ q =>
      cases w' with
      | fz _ => exact absurd rfl n'
      | ow _ ob => exact ob.elim
      | drw _ _ _ _ _ q' =>
        have e := q.1.symm.trans q'.1
        simp at e
        rw [e.1]
  induction h with
  | nil => intro i d d' fl v fp nd e; simp at e
  | none hs ih =>
    intro i d d' fl v fp nd e hf ev w n w' k
    cases i with
    | zero => simp at e
    | succ i => exact .none (ih nd (by simpa using e) hf (by simpa using ev) w n w' k)
  | fz r hs ih =>
    intro i d d' fl v fp nd e hf ev w n w' k
    cases i with
    | zero => simp at e; obtain ⟨rfl, rfl⟩ := e; simp at hf
    | succ i => exact .fz (r.keep (fun _ h => h) fun a ob f e t => k a ob e (fun z => (w.there a z).1 f) t) (ih nd (by simpa using e) hf (by simpa using ev) w n w' k)
  | @ow v0 d0 fp0 ρ σ o p b w0 n0 hs ih =>
    intro i d d' fl v fp nd e hf ev w n w' k
    cases i with
    | zero =>
      simp at e ev; obtain ⟨rfl, rfl⟩ := e; subst ev
      obtain rfl := own1 w0 w n0 n
      refine .ow w' n (key hs fp0 (fun a ha => (w.there a ha).1) k fun a ha z => ?_)
      rw [List.append_assoc, List.nodup_append] at nd
      exact nd.2.2 a z a (by simp [ha]) rfl
    | succ i =>
      have e' : ρ[i]? = some (some (d, fl)) := by simpa using e
      have nd' : (o ++ (p ++ b)).Nodup := by rw [List.append_assoc, List.nodup_append] at nd; exact nd.2.1
      have ev' : σ[i]? = some (some v) := by simpa using ev
      obtain ⟨v1, fp1, q1, q2, _, q5, q4⟩ := hs.get e'
      rw [ev'] at q1; cases q1
      have sub : ∀ a ∈ fp, a ∈ o ∨ a ∈ p ∨ a ∈ b := fun a ha => by
        have h1 : fp1 ≠ [] := q5 hf
        obtain rfl := own1 q2 w h1 n
        rcases q4 a ha with z | z | z
        · exact .inl z.2
        · exact .inr (.inl z.2)
        · exact .inr (.inr z.2)
      refine .ow (w0.keep (fun _ h => h) (fun a ob f e t => k a ob e (fun z => (w.there a z).1 f) t) fun a ha => ⟨(w0.there a ha).1, fun ob e t => k a ob e (fun z => ?_) t⟩) n0 (ih nd' e' hf ev' w n w' k)
      rw [List.append_assoc, List.nodup_append] at nd
      exact nd.2.2 a ha a (by simpa using sub a z) rfl
  | @pn v0 d0 fp0 ρ σ o p b w0 n0 hs ih =>
    intro i d d' fl v fp nd e hf ev w n w' k
    have nd1 : (o ++ (fp0 ++ (p ++ b))).Nodup := by rwa [List.append_assoc] at nd
    have nd2 := (List.nodup_append.mp nd1)
    have nd3 := (List.nodup_append.mp nd2.2.1)
    cases i with
    | zero =>
      simp at e ev; obtain ⟨rfl, rfl⟩ := e; subst ev
      obtain rfl := own1 w0 w n0 n
      refine .pn w' n (key hs fp0 (fun a ha => (w.there a ha).1) k fun a ha z => ?_)
      rcases ha with q | q | q
      · exact nd2.2.2 a q a (by simp [z]) rfl
      · exact nd3.2.2 a z a (by simp [q]) rfl
      · exact nd3.2.2 a z a (by simp [q]) rfl
    | succ i =>
      have e' : ρ[i]? = some (some (d, fl)) := by simpa using e
      have nd' : (o ++ (p ++ b)).Nodup := List.nodup_append.mpr ⟨nd2.1, nd3.2.1, fun a ha c hc => nd2.2.2 a ha c (by simp at hc ⊢; exact .inr hc)⟩
      have ev' : σ[i]? = some (some v) := by simpa using ev
      obtain ⟨v1, fp1, q1, q2, _, q5, q4⟩ := hs.get e'
      rw [ev'] at q1; cases q1
      have sub : ∀ a ∈ fp, a ∈ o ∨ a ∈ p ∨ a ∈ b := fun a ha => by
        have h1 : fp1 ≠ [] := q5 hf
        obtain rfl := own1 q2 w h1 n
        rcases q4 a ha with z | z | z
        · exact .inl z.2
        · exact .inr (.inl z.2)
        · exact .inr (.inr z.2)
      refine .pn (w0.keep (fun _ h => h) (fun a ob f e t => k a ob e (fun z => (w.there a z).1 f) t) fun a ha => ⟨(w0.there a ha).1, fun ob e t => k a ob e (fun z => ?_) t⟩) n0 (ih nd' e' hf ev' w n w' k)
      rcases sub a z with q | q | q
      · exact nd2.2.2 a q a (by simp [ha]) rfl
      · exact nd3.2.2 a ha a (by simp [q]) rfl
      · exact nd3.2.2 a ha a (by simp [q]) rfl
  | @lk v0 d0 fp0 ρ σ o p b w0 hs ih =>
    intro i d d' fl v fp nd e hf ev w n w' k
    cases i with
    | zero => simp at e; obtain ⟨rfl, rfl⟩ := e; simp at hf
    | succ i =>
      have e' : ρ[i]? = some (some (d, fl)) := by simpa using e
      have ev' : σ[i]? = some (some v) := by simpa using ev
      have nd2 := (List.nodup_append.mp nd)
      have nd3 := (List.nodup_append.mp nd2.2.1)
      have nd4 := (List.nodup_append.mp nd3.2.1)
      have nd' : (o ++ (p ++ b)).Nodup := List.nodup_append.mpr ⟨nd2.1, List.nodup_append.mpr ⟨nd3.1, nd4.2.1, fun a ha c hc => nd3.2.2 a ha c (by simp [hc])⟩, fun a ha c hc => nd2.2.2 a ha c (by
        rcases List.mem_append.mp hc with q | q
        · simp [q]
        · simp [q])⟩
      obtain ⟨v1, fp1, q1, q2, _, q5, q4⟩ := hs.get e'
      rw [ev'] at q1; cases q1
      have sub : ∀ a ∈ fp, (a ∈ o ∨ a ∈ p) := fun a ha => by
        have h1 : fp1 ≠ [] := q5 hf
        obtain rfl := own1 q2 w h1 n
        rcases q4 a ha with z | z | z
        · exact .inl z.2
        · exact .inr z.2
        · rcases hf with q | q <;> simp [q] at z
      refine .lk (w0.keep (fun _ h => h) (fun a ob f e t => k a ob e (fun z => (w.there a z).1 f) t) fun a ha => ⟨(w0.there a ha).1, fun ob e t => k a ob e (fun z => ?_) t⟩) (ih nd' e' hf ev' w n w' k)
      rcases sub a z with q | q
      · exact nd2.2.2 a q a (by simp [ha]) rfl
      · exact nd3.2.2 a q a (by simp [ha]) rfl
/-- an owned slot is emptied -/
theorem Slots.drop {G F H ρ σ o p b} (h : Slots G F H ρ σ o p b) : ∀ {i : Nat} {d : D}, ρ[i]? = some (some (d, .ow)) →
    ∃ v fp o1 o3, σ[i]? = some (some v) ∧ Own G F H v d fp ∧ o = o1 ++ (fp ++ o3) ∧ Slots G F H (ρ.set i Option.none) σ (o1 ++ o3) p b := by
  induction h with
  | nil => intro i d e; simp at e
  | none _ ih =>
    intro i d e
    cases i with
    | zero => simp at e
    | succ i =>
      obtain ⟨v, fp, o1, o3, e1, w, e2, q⟩ := ih (i := i) (by simpa using e)
      exact ⟨v, fp, o1, o3, by simpa using e1, w, e2, .none q⟩
  | fz r _ ih =>
    intro i d e
    cases i with
    | zero => simp at e
    | succ i =>
      obtain ⟨v, fp, o1, o3, e1, w, e2, q⟩ := ih (i := i) (by simpa using e)
      exact ⟨v, fp, o1, o3, by simpa using e1, w, e2, .fz r q⟩
  | @ow v0 d0 fp0 ρ σ o p b w0 n0 hs ih =>
    intro i d e
    cases i with
    | zero =>
      simp at e; subst e
      exact ⟨v0, fp0, [], o, rfl, w0, rfl, .none hs⟩
    | succ i =>
      obtain ⟨v, fp, o1, o3, e1, w, e2, q⟩ := ih (i := i) (by simpa using e)
      refine ⟨v, fp, fp0 ++ o1, o3, by simpa using e1, w, by rw [e2, List.append_assoc], ?_⟩
      rw [List.append_assoc]
      exact .ow w0 n0 q
  | pn w0 n0 _ ih =>
    intro i d e
    cases i with
    | zero => simp at e
    | succ i =>
      obtain ⟨v, fp, o1, o3, e1, w, e2, q⟩ := ih (i := i) (by simpa using e)
      exact ⟨v, fp, o1, o3, by simpa using e1, w, e2, .pn w0 n0 q⟩
  | lk w0 _ ih =>
    intro i d e
    cases i with
    | zero => simp at e
    | succ i =>
      obtain ⟨v, fp, o1, o3, e1, w, e2, q⟩ := ih (i := i) (by simpa using e)
      exact ⟨v, fp, o1, o3, by simpa using e1, w, e2, .lk w0 q⟩
end VL
/-! VL6: readings of statements and their rules. -/
namespace VL
open PySem PySem.Spec PyProof.Rows L2

/-- z: the state at the def's entry -/
structure EInv (z x : Stt) : Prop where
  f1 : ∀ a, x.F a → z.F a ∨ z.H a = none
  kp : Kept z.p z.H x.H
  p1 : x.p = z.p
  o1 : ∀ a ∈ x.o, z.H a = none
  dm : ∀ a, x.H a = none → z.H a = none
  f0 : ∀ a, z.F a → x.F a
structure SStep (G : Gm) (z x y : Stt) : Prop where
  inv : SInv G y
  ent : EInv z y
  lk : ∀ (j : Nat) (d : D) (fl : Fl), x.rho[j]? = some (some (d, fl)) → fl = Fl.lk ∨ fl = Fl.pn → ∃ d', y.rho[j]? = some (some (d', fl)) ∧ (fl = Fl.lk → d' = d) ∧ y.sg[j]? = x.sg[j]?
  kf : KeptF x.F x.H y.H
  f1 : ∀ a, x.F a → y.F a
theorem SStep.refl {G z x} (h : SInv G x) (e : EInv z x) : SStep G z x x := ⟨h, e, fun _ d _ e _ => ⟨d, e, fun _ => rfl, rfl⟩, .refl, fun _ h => h⟩
theorem SStep.trans {G z x y w} (a : SStep G z x y) (b : SStep G z y w) : SStep G z x w where
  inv := b.inv
  ent := b.ent
  lk := fun j d fl e hf => by
    obtain ⟨d1, e1, k1, s1⟩ := a.lk j d fl e hf
    obtain ⟨d2, e2, k2, s2⟩ := b.lk j d1 fl e1 hf
    exact ⟨d2, e2, fun h => (k2 h).trans (k1 h), s2.trans s1⟩
  kf := a.kf.trans b.kf a.f1
  f1 := fun c h => b.f1 c (a.f1 c h)
theorem EInv.ext {G s z x y} (h : EInv z x) (hx : SInv G x) (e : Ext s x y) : EInv z y where
  f1 := fun a f => by
    rcases e.f2 a f with q | q
    · exact h.f1 a q
    · exact .inr (h.dm a q)
  kp := fun a o e1 n t => by
    refine e.kp a o (h.kp a o e1 n t) (fun q => ?_) t
    rcases List.mem_append.mp q with q | q
    · rw [h.o1 a q] at e1; cases e1
    · rw [h.p1] at q; exact n q
  p1 := e.p1.trans h.p1
  o1 := fun a q => by
    rcases e.o1 a q with q | q
    · exact h.o1 a q
    · exact h.dm a q
  dm := fun a q => h.dm a (e.dm a q)
  f0 := fun a f => e.f1 a (h.f0 a f)
theorem SStep.ext {G s z x y} (h : EInv z x) (hx : SInv G x) (hy : SInv G y) (e : Ext s x y) : SStep G z x y where
  inv := hy
  ent := h.ext hx e
  lk := fun j d fl e1 hf => by
    obtain ⟨d', e2, k⟩ := e.lk j d fl e1 hf
    exact ⟨d', e2, k, by rw [e.sg]⟩
  kf := e.keptF hx
  f1 := e.f1

inductive Flo where
  | nx (ρ : Env) | rt (d : D) (k : Kd) (ρ : Env) | bk (ρ : Env) | ct (ρ : Env)
abbrev SE := Env → Res Flo
def KdS (z : Stt) (k : Kd) (fv : List Addr) : Prop := match k with
  | .fz => fv = []
  | .ow => fv ≠ [] ∧ ∀ a ∈ fv, z.H a = none
  | .br => False
/-- what is wanted behind a statement, by what its function says -/
def TQ (G : Gm) (W : WX) (z x : Stt) (Dn : Ends) : Res Flo → Prop
  | .ok (.nx ρ') => ∀ y, y.rho = ρ' → SStep G z x y → Dn.nx y.sg y.H
  | .ok (.bk ρ') => ∀ y, y.rho = ρ' → SStep G z x y → Dn.bk y.sg y.H
  | .ok (.ct ρ') => ∀ y, y.rho = ρ' → SStep G z x y → Dn.ct y.sg y.H
  | .ok (.rt d k ρ') => ∀ y v fv, y.rho = ρ' → SStep G z x y → Own G y.F y.H v d fv → KdS z k fv → Dn.rt v y.H
  | .err c d ρ' => ∀ y cls dx, y.rho = ρ' → SStep G z x y → ErrV G y cls dx c d → W cls dx y.sg y.H
  | .bad => False
def tT (G : Gm) (W : WX) (z : Stt) (s : SE) : TS := fun Dn σ H => ∃ x : Stt, x.sg = σ ∧ x.H = H ∧ SInv G x ∧ EInv z x ∧ TQ G W z x Dn (s x.rho)
theorem TQ.step {G W z x y Dn r} (h : TQ G W z x Dn r) (e : SStep G z x y) : TQ G W z y Dn r := by
  cases r with
  | bad => exact h
  | err c d ρ' => exact fun w cls dx h1 h2 h3 => h w cls dx h1 (e.trans h2) h3
  | ok f =>
    cases f with
    | nx ρ' => exact fun w h1 h2 => h w h1 (e.trans h2)
    | bk ρ' => exact fun w h1 h2 => h w h1 (e.trans h2)
    | ct ρ' => exact fun w h1 h2 => h w h1 (e.trans h2)
    | rt d k ρ' => exact fun w v fv h1 h2 => h w v fv h1 (e.trans h2)
def sSeq (s t : SE) : SE := fun ρ => do
  match ← s ρ with
  | .nx ρ1 => t ρ1
  | f => pure f
def sNil : SE := fun ρ => pure (.nx ρ)
def sEx (f : EE) : SE := fun ρ => do
  let (_, _, ρ1) ← f ρ
  pure (.nx ρ1)
def sIf (c : BE) (s t : SE) : SE := fun ρ => do
  let (b, ρ1) ← c ρ
  if b = true then s ρ1 else t ρ1
/-- the flag in slot i lets it be set -/
def canSet (ρ : Env) (i : Nat) : Bool := match ρ[i]? with
  | some (some (_, .lk)) => false
  | some (some (_, .pn)) => false
  | some _ => true
  | none => false
/-- name = value: frozen, or owned where fl is ow and the value is new -/
def setSlot (fl : Fl) (i : Nat) (d : D) (k : Kd) (ρ : Env) : Res Env :=
  if canSet ρ i = true then
    match k, fl with
    | .fz, _ => .ok (ρ.set i (some (d, .fz)))
    | .ow, .ow => .ok (ρ.set i (some (d, .ow)))
    | .ow, _ => if d.fzOk = true then .ok (ρ.set i (some (d, .fz))) else .bad
    | .br, _ => .bad
  else .bad
def sSet (fl : Fl) (i : Nat) (f : EE) : SE := fun ρ => do
  let (d, k, ρ1) ← f ρ
  let ρ2 ← setSlot fl i d k ρ1
  pure (.nx ρ2)
def sRet (f : EE) : SE := fun ρ => do
  let (d, k, ρ1) ← f ρ
  match k with
  | .br => .bad
  | _ => pure (.rt d k ρ1)
/-- an owned list is handed back -/
def sRetV (i : Nat) : SE := fun ρ => match ρ[i]? with
  | some (some (d, .fz)) => pure (.rt d .fz ρ)
  | some (some (d, .ow)) => pure (.rt d .ow ρ)
  | _ => .bad
def sRetN : SE := fun ρ => pure (.rt .non .fz ρ)
/-- slot i is frozen from here on (no Python stands for it) -/
def sFrz (i : Nat) (s : SE) : SE := fun ρ => match ρ[i]? with
  | some (some (d, .ow)) => if d.fzOk = true then s (ρ.set i (some (d, .fz))) else .bad
  | _ => s ρ
theorem canSet_spec {ρ : Env} {i : Nat} (h : canSet ρ i = true) : i < ρ.length ∧ ∀ d' fl', ρ[i]? = some (some (d', fl')) → fl' = .fz ∨ fl' = .ow := by
  unfold canSet at h
  cases e : ρ[i]? with
  | none => rw [e] at h; cases h
  | some s =>
    refine ⟨(List.getElem?_eq_some_iff.mp e).1, fun d' fl' q => ?_⟩
    cases q
    rw [e] at h
    cases fl' <;> simp at h ⊢
theorem nodup_mid {o1 old o3 r fp : List Addr} (h : ((o1 ++ (old ++ o3)) ++ r).Nodup) (hf : fp.Nodup) (hd : ∀ a ∈ fp, a ∉ o1 ∧ a ∉ o3 ∧ a ∉ r) : ((o1 ++ (fp ++ o3)) ++ r).Nodup := by
  simp only [List.nodup_append, List.mem_append] at h ⊢
  obtain ⟨⟨n1, ⟨_, n3, _⟩, n13⟩, nr, nn⟩ := h
  refine ⟨⟨n1, ⟨hf, n3, fun a ha b hb e => (hd a ha).2.1 (e ▸ hb)⟩, fun a ha b hb e => ?_⟩, nr, fun a ha b hb e => ?_⟩
  · rcases hb with hb | hb
    · exact (hd b hb).1 (e ▸ ha)
    · exact n13 a ha b (.inr hb) e
  · rcases ha with ha | ha | ha
    · exact nn a (.inl ha) b hb e
    · exact (hd a ha).2.2 (e ▸ hb)
    · exact nn a (.inr (.inr ha)) b hb e
/-- a slot is set -/
theorem set_step {G : Gm} {z x y : Stt} {s : Bool} {v : V} {d : D} {k : Kd} {fv : List Addr} {fl : Fl} {i : Nat} {ρ2 : Env} (hx : SInv G x) (hz : EInv z x) (P : EPost G s x y v d k fv) (h : setSlot fl i d k y.rho = .ok ρ2) :
    ∃ w : Stt, w.rho = ρ2 ∧ w.sg = y.sg.set i (some v) ∧ w.H = y.H ∧ SStep G z x w := by
  unfold setSlot at h
  by_cases hc : canSet y.rho i = true
  · rw [if_pos hc] at h
    obtain ⟨hi, hn⟩ := canSet_spec hc
    have st := SStep.ext hz hx P.inv P.ext
    have dis : k = .ow → ∀ a ∈ fv, a ∉ y.o ∧ a ∉ y.p ∧ a ∉ y.b := fun e a ha => by subst e; exact (P.kd.2 a ha).2
    have lkk : ∀ {sl : Option (D × Fl)} (j : Nat) (d0 : D) (fl0 : Fl), y.rho[j]? = some (some (d0, fl0)) → fl0 = Fl.lk ∨ fl0 = Fl.pn → ∃ d', (y.rho.set i sl)[j]? = some (some (d', fl0)) ∧ (fl0 = Fl.lk → d' = d0) ∧ (y.sg.set i (some v))[j]? = y.sg[j]? := by
      intro sl j d0 fl0 e hf
      have ne : i ≠ j := by
        intro q; subst q
        rcases hn _ _ e with q | q <;> subst q <;> simp at hf
      exact ⟨d0, by rw [List.getElem?_set_ne ne]; exact e, fun _ => rfl, by rw [List.getElem?_set_ne ne]⟩
    -- frozen
    have frz : (k = .fz ∨ k = .ow ∧ d.fzOk = true) → ρ2 = y.rho.set i (some (d, .fz)) → ∃ w : Stt, w.rho = ρ2 ∧ w.sg = y.sg.set i (some v) ∧ w.H = y.H ∧ SStep G z x w := by
      intro hk e
      have hF : SInv G { y with F := fun a => y.F a ∨ a ∈ fv } := P.inv.freeze fun a ha => by
        rcases hk with q | q
        · subst q; have : fv = [] := P.kd; rw [this] at ha; simp at ha
        · exact ⟨(P.own.there a ha).2, dis q.1 a ha⟩
      have hr : Rep G (fun a => y.F a ∨ a ∈ fv) y.H [v] [d] := by
        rcases hk with q | q
        · subst q
          have : fv = [] := P.kd
          subst this
          cases P.own with
          | fz r => exact r.keep (fun _ h => .inl h) .refl
        · exact P.own.rep (fun a ha => .inr ha) (fun _ h => .inl h) q.2
      obtain ⟨o1, old, o3, eo, sl⟩ := hF.sl.set (i := i) hi hn (.fz hr)
      have eo : y.o = o1 ++ (old ++ o3) := eo
      refine ⟨⟨fun a => y.F a ∨ a ∈ fv, ρ2, y.sg.set i (some v), y.H, o1 ++ ([] ++ o3), y.p, y.b⟩, rfl, rfl, rfl, st.trans ⟨⟨by rw [e]; exact sl, ?_, hF.dom, P.inv.tb⟩, ⟨fun a f => ?_, st.ent.kp, st.ent.p1, fun a ha => st.ent.o1 a ?_, st.ent.dm, fun a f => .inl (st.ent.f0 a f)⟩, ?_, .refl, fun a f => .inl f⟩⟩
      · have := P.inv.nd; rw [eo] at this
        exact nodup_mid this (by simp) (by simp)
      · rcases f with f | f
        · exact st.ent.f1 a f
        · rcases hk with q | q
          · subst q; have : fv = [] := P.kd; rw [this] at f; simp at f
          · obtain ⟨q, _⟩ := q; subst q; exact .inr (hz.dm a (P.kd.2 a f).1)
      · rw [eo]; simp only [List.mem_append, List.nil_append] at ha ⊢; rcases ha with q | q
        · exact .inl q
        · exact .inr (.inr q)
      · rw [e]; exact lkk
    cases k with
    | br => simp at h
    | fz => simp at h; exact frz (.inl rfl) h.symm
    | ow =>
      cases fl with
      | ow =>
        simp at h
        obtain ⟨o1, old, o3, eo, sl⟩ := P.inv.sl.set (i := i) hi hn (.ow P.own P.kd.1)
        refine ⟨⟨y.F, ρ2, y.sg.set i (some v), y.H, o1 ++ (fv ++ o3), y.p, y.b⟩, rfl, rfl, rfl, st.trans ⟨⟨by rw [← h]; exact sl, ?_, P.inv.dom, P.inv.tb⟩, ⟨st.ent.f1, st.ent.kp, st.ent.p1, fun a ha => ?_, st.ent.dm, st.ent.f0⟩, by rw [← h]; exact lkk, .refl, fun _ f => f⟩⟩
        · have := P.inv.nd; rw [eo] at this
          refine nodup_mid this P.own.nodup fun a ha => ?_
          obtain ⟨n1, n2, n3⟩ := dis rfl a ha
          rw [eo] at n1
          simp only [List.mem_append, not_or] at n1 ⊢
          exact ⟨n1.1, n1.2.2, n2, n3⟩
        · simp only [List.mem_append] at ha
          rcases ha with q | q | q
          · exact st.ent.o1 a (by rw [eo]; simp [q])
          · exact hz.dm a (P.kd.2 a q).1
          · exact st.ent.o1 a (by rw [eo]; simp [q])
      | fz => by_cases hd : d.fzOk = true
              · simp [hd] at h; exact frz (.inr ⟨rfl, hd⟩) h.symm
              · simp [hd] at h
      | pn => by_cases hd : d.fzOk = true
              · simp [hd] at h; exact frz (.inr ⟨rfl, hd⟩) h.symm
              · simp [hd] at h
      | lk => by_cases hd : d.fzOk = true
              · simp [hd] at h; exact frz (.inr ⟨rfl, hd⟩) h.symm
              · simp [hd] at h
  · rw [if_neg hc] at h; cases h
section
variable {X : Cx} {G : Gm} {W : WX} {z : Stt}
/-- from a statement's reading to its expression's -/
theorem tT_expr {s : Bool} {f : EE} {Dn : Ends} {σ H} {k : D → Kd → Env → Res Flo} {Q : VK} (h : tT G W z (fun ρ => do let (d, kd, ρ1) ← f ρ; k d kd ρ1) Dn σ H)
    (hQ : ∀ x y v d kd fv, SInv G x → EInv z x → x.sg = σ → EPost G s x y v d kd fv → TQ G W z x Dn (k d kd y.rho) → Q v y.H) : tS G W s f σ H Q := by
  obtain ⟨x, rfl, rfl, hi, hz, q⟩ := h
  refine ⟨x, rfl, rfl, hi, ?_⟩
  cases h1 : f x.rho with
  | bad => simp only [h1, Res.bind_bad] at q; exact q
  | err c d ρ' =>
    simp only [h1, Res.bind_err] at q
    intro y cls dx hρ iy ey hev
    have := q y cls dx hρ (SStep.ext hz hi iy ey) hev
    rw [ey.sg] at this; exact this
  | ok r =>
    obtain ⟨d, kd, ρ1⟩ := r
    simp only [h1, Res.bind_ok] at q
    intro y v fv hρ P
    exact hQ x y v d kd fv hi hz rfl P (by rw [hρ]; exact q)
theorem r_ex {e : Expr} {pos : Pos} {s : Bool} {f : EE} (he : PE X e (tS G W s f)) (hs : swapsWith e none pos.line X.env = pure false := by rfl) : PS X (.Expr e pos) (tT G W z (sEx f)) := PS.of (ps_expr he hs) fun D σ H h =>
  tT_expr (k := fun _ _ ρ1 => pure (.nx ρ1)) h fun x y v d kd fv hi hz e P q => by
    have := q y rfl (SStep.ext hz hi P.inv P.ext)
    rw [P.ext.sg, e] at this; exact this
theorem r_ret {e : Expr} {pos : Pos} {s : Bool} {f : EE} (he : PE X e (tS G W s f)) : PS X (.Return (some e) pos) (tT G W z (sRet f)) := PS.of (ps_ret he) fun D σ H h =>
  tT_expr (k := fun d k ρ1 => match k with | .br => .bad | _ => pure (.rt d k ρ1)) h fun x y v d kd fv hi hz e P q => by
    have st := SStep.ext hz hi P.inv P.ext
    cases kd with
    | br => exact q.elim
    | fz => exact q y v fv rfl st P.own P.kd
    | ow => exact q y v fv rfl st P.own ⟨P.kd.1, fun a ha => hz.dm a (P.kd.2 a ha).1⟩
theorem r_retv {i : Nat} {e : Expr} {pos : Pos} (he : PE X e (tVar i)) : PS X (.Return (some e) pos) (tT G W z (sRetV i)) := PS.of (ps_ret he) fun D σ H h => by
  obtain ⟨x, rfl, rfl, hi, hz, q⟩ := h
  unfold sRetV at q
  cases hρ : x.rho[i]? with
  | none => rw [hρ] at q; exact q.elim
  | some sl =>
    cases sl with
    | none => rw [hρ] at q; exact q.elim
    | some df =>
      obtain ⟨d, fl⟩ := df
      rw [hρ] at q
      obtain ⟨v, fp, e1, w, f0, n0, m⟩ := hi.sl.get hρ
      refine ⟨v, e1, ?_⟩
      cases fl with
      | fz => exact q x v fp rfl (.refl hi hz) w (f0 rfl)
      | ow =>
        refine q x v fp rfl (.refl hi hz) w ⟨n0 (.inl rfl), fun a ha => ?_⟩
        rcases m a ha with z | z | z
        · exact hz.o1 a z.2
        · simp at z
        · simp at z
      | pn => exact q.elim
      | lk => exact q.elim
theorem r_retn {pos : Pos} : PS X (.Return none pos) (tT G W z sRetN) := PS.of ps_retN fun D σ H h => by
  obtain ⟨x, rfl, rfl, hi, hz, q⟩ := h
  exact q x .non [] rfl (.refl hi hz) (.fz (.atom rfl .nil)) rfl
theorem r_nil : PSs X [] (tT G W z sNil) := PSs.of pss_nil fun D σ H h => by
  obtain ⟨x, rfl, rfl, hi, hz, q⟩ := h
  exact q x rfl (.refl hi hz)
theorem r_pass {pos : Pos} : PS X (.Pass pos) (tT G W z sNil) := PS.of ps_pass fun D σ H h => by
  obtain ⟨x, rfl, rfl, hi, hz, q⟩ := h
  exact q x rfl (.refl hi hz)
def sBrk : SE := fun ρ => pure (.bk ρ)
def sCnt : SE := fun ρ => pure (.ct ρ)
theorem r_break {pos : Pos} : PS X (.Break pos) (tT G W z sBrk) := PS.of ps_break fun D σ H h => by
  obtain ⟨x, rfl, rfl, hi, hz, q⟩ := h
  exact q x rfl (.refl hi hz)
theorem r_continue {pos : Pos} : PS X (.Continue pos) (tT G W z sCnt) := PS.of ps_continue fun D σ H h => by
  obtain ⟨x, rfl, rfl, hi, hz, q⟩ := h
  exact q x rfl (.refl hi hz)
theorem r_cons {st : Stmt} {rest : List Stmt} {s t : SE} (h1 : PS X st (tT G W z s)) (h2 : PSs X rest (tT G W z t)) : PSs X (st :: rest) (tT G W z (sSeq s t)) := PSs.of (pss_cons h1 h2) fun D σ H h => by
  obtain ⟨x, rfl, rfl, hi, hz, q⟩ := h
  refine ⟨x, rfl, rfl, hi, hz, ?_⟩
  unfold sSeq at q
  cases e : s x.rho with
  | bad => simp only [e, Res.bind_bad] at q; exact q
  | err c d ρ' => simp only [e, Res.bind_err] at q; exact q
  | ok f =>
    simp only [e, Res.bind_ok] at q
    cases f with
    | nx ρ' => exact fun y hy st => ⟨y, rfl, rfl, st.inv, st.ent, by rw [hy]; exact TQ.step q st⟩
    | bk ρ' => exact q
    | ct ρ' => exact q
    | rt d k ρ' => exact q
theorem r_one {st : Stmt} {s : SE} (h1 : PS X st (tT G W z s)) : PSs X [st] (tT G W z s) := pss_one h1
theorem r_if {c : Expr} {a b : List Stmt} {pos : Pos} {sc : Bool} {f : BE} {s t : SE} (hc : PT X c (tB G W sc f)) (ha : PSs X a (tT G W z s)) (hb : PSs X b (tT G W z t)) : PS X (.If c a b pos) (tT G W z (sIf f s t)) := PS.of (ps_if hc ha hb) fun D σ H h => by
  obtain ⟨x, rfl, rfl, hi, hz, q⟩ := h
  refine ⟨x, rfl, rfl, hi, ?_⟩
  unfold sIf at q
  cases e : f x.rho with
  | bad => simp only [e, Res.bind_bad] at q; exact q
  | err c d ρ' =>
    simp only [e, Res.bind_err] at q
    intro y cls dx hρ iy ey hev
    have := q y cls dx hρ (SStep.ext hz hi iy ey) hev
    rw [ey.sg] at this; exact this
  | ok r =>
    obtain ⟨b, ρ1⟩ := r
    simp only [e, Res.bind_ok] at q
    intro y hρ iy ey
    have st := SStep.ext hz hi iy ey
    cases b with
    | true => rw [if_pos rfl] at q ⊢; exact ⟨y, ey.sg, rfl, iy, st.ent, by rw [hρ]; exact TQ.step q st⟩
    | false => rw [if_neg (by simp)] at q ⊢; exact ⟨y, ey.sg, rfl, iy, st.ent, by rw [hρ]; exact TQ.step q st⟩
theorem r_set {fl : Fl} {i : Nat} {tg e : Expr} {pos : Pos} {s : Bool} {f : EE} (h : PS X (.Assign [tg] e pos) (tAsg (tS G W s f) (gName i))) : PS X (.Assign [tg] e pos) (tT G W z (sSet fl i f)) := PS.of h fun D σ H h =>
  tT_expr (k := fun d k ρ1 => do let ρ2 ← setSlot fl i d k ρ1; pure (.nx ρ2)) h fun x y v d kd fv hi hz e P q => by
    cases h1 : setSlot fl i d kd y.rho with
    | bad => simp only [h1, Res.bind_bad] at q; exact q.elim
    | err c d' ρ' =>
      exfalso
      unfold setSlot at h1
      split at h1
      · split at h1 <;> first | cases h1 | (split at h1 <;> cases h1)
      · cases h1
    | ok ρ2 =>
      simp only [h1, Res.bind_ok] at q
      obtain ⟨w, w1, w2, w3, w4⟩ := set_step hi hz P h1
      have := q w w1 w4
      rw [w2, w3, P.ext.sg, e] at this
      exact this
theorem r_frz {i : Nat} {st : Stmt} {s : SE} (h : PS X st (tT G W z s)) : PS X st (tT G W z (sFrz i s)) := PS.of h fun D σ H h => by
  obtain ⟨x, rfl, rfl, hi, hz, q⟩ := h
  unfold sFrz at q
  split at q
  · rename_i d hρ
    split at q
    · rename_i hd
      obtain ⟨v, fp, o1, o3, e1, w, eo, sl⟩ := hi.sl.drop hρ
      have hil : i < x.rho.length := (List.getElem?_eq_some_iff.mp hρ).1
      have nd := hi.nd
      rw [eo] at nd
      have nd' : ((o1 ++ ([] ++ o3)) ++ (x.p ++ x.b)).Nodup := nodup_mid nd (by simp) (by simp)
      have hdis : ∀ a ∈ fp, a ∉ o1 ++ o3 ∧ a ∉ x.p ∧ a ∉ x.b := by
        intro a ha
        simp only [List.nodup_append, List.mem_append] at nd
        obtain ⟨⟨n1, ⟨n2, n3, n23⟩, n13⟩, nr, nn⟩ := nd
        refine ⟨fun z => ?_, fun z => nn a (.inr (.inl ha)) a (.inl z) rfl, fun z => nn a (.inr (.inl ha)) a (.inr z) rfl⟩
        rcases List.mem_append.mp z with z | z
        · exact n13 a z a (.inl ha) rfl
        · exact n23 a ha a z rfl
      have i1 : SInv G { x with rho := x.rho.set i none, o := o1 ++ o3 } := ⟨sl, by simpa using nd', hi.dom, hi.tb⟩
      have i2 := i1.freeze (fv := fp) fun a ha => ⟨(w.there a ha).2, hdis a ha⟩
      have r : Rep G (fun a => x.F a ∨ a ∈ fp) x.H [v] [d] := w.rep (fun a ha => .inr ha) (fun _ h => .inl h) hd
      obtain ⟨p1, old, p3, ep, sl3⟩ := i2.sl.set (i := i) (v := v) (d := d) (by simpa using hil) (fun d' fl' e => by
        have e : (x.rho.set i none)[i]? = some (some (d', fl')) := e
        rw [List.getElem?_set_self hil] at e; cases e) (.fz r)
      have sl3 : Slots G (fun a => x.F a ∨ a ∈ fp) x.H ((x.rho.set i none).set i (some (d, .fz))) (x.sg.set i (some v)) (p1 ++ ([] ++ p3)) x.p x.b := sl3
      have ep : o1 ++ o3 = p1 ++ (old ++ p3) := ep
      rw [List.set_set] at sl3
      have es : x.sg.set i (some v) = x.sg := by
        apply List.ext_getElem?
        intro j
        by_cases ej : i = j
        · subst ej; rw [List.getElem?_set_self (by have := (List.getElem?_eq_some_iff.mp e1).1; exact this), e1]
        · rw [List.getElem?_set_ne ej]
      rw [es] at sl3
      have nd3 : ((p1 ++ ([] ++ p3)) ++ (x.p ++ x.b)).Nodup := by
        have : ((o1 ++ o3) ++ (x.p ++ x.b)).Nodup := by simpa using nd'
        rw [ep] at this
        exact nodup_mid this (by simp) (by simp)
      have sub : ∀ a ∈ p1 ++ ([] ++ p3), a ∈ x.o := fun a ha => by
        have : a ∈ o1 ++ o3 := by
          rw [ep]; simp only [List.mem_append, List.nil_append] at ha ⊢
          rcases ha with z | z
          · exact .inl z
          · exact .inr (.inr z)
        rw [eo]; simp only [List.mem_append] at this ⊢
        rcases this with z | z
        · exact .inl z
        · exact .inr (.inr z)
      let y : Stt := ⟨fun a => x.F a ∨ a ∈ fp, x.rho.set i (some (d, .fz)), x.sg, x.H, p1 ++ ([] ++ p3), x.p, x.b⟩
      have st : SStep G z x y := by
        refine ⟨⟨sl3, nd3, i2.dom, hi.tb⟩, ⟨fun a f => ?_, hz.kp, hz.p1, fun a ha => hz.o1 a (sub a ha), hz.dm, fun a f => .inl (hz.f0 a f)⟩, fun j d0 fl0 e hf => ⟨d0, ?_, fun _ => rfl, rfl⟩, .refl, fun _ f => .inl f⟩
        · rcases f with f | f
          · exact hz.f1 a f
          · exact .inr (hz.o1 a (by rw [eo]; simp [f]))
        · have ne : i ≠ j := by
            intro q; subst q
            rw [hρ] at e; cases e; simp at hf
          show (x.rho.set i (some (d, .fz)))[j]? = _
          rw [List.getElem?_set_ne ne]; exact e
      exact ⟨y, rfl, rfl, st.inv, st.ent, TQ.step q st⟩
    · exact q.elim
  · exact ⟨x, rfl, rfl, hi, hz, q⟩
end
end VL
/-! VL7: what is walked, targets, for and while. -/
namespace VL
open PySem PySem.Spec PyProof.Rows L2

/-! ### targets -/
structure TStep (G : Gm) (is : List Nat) (x y : Stt) : Prop where
  inv : SInv G y
  out : ∀ j, j ∉ is → y.sg[j]? = x.sg[j]?
  len : y.sg.length = x.sg.length
  H : y.H = x.H
  F : y.F = x.F
  o1 : ∀ a ∈ y.o, a ∈ x.o
  p1 : y.p = x.p
  b1 : y.b = x.b
  lk : ∀ (j : Nat) (d : D) (fl : Fl), x.rho[j]? = some (some (d, fl)) → fl = Fl.lk ∨ fl = Fl.pn → y.rho[j]? = some (some (d, fl)) ∧ y.sg[j]? = x.sg[j]?
theorem TStep.refl {G is x} (h : SInv G x) : TStep G is x x := ⟨h, fun _ _ => rfl, rfl, rfl, rfl, fun _ h => h, rfl, rfl, fun _ _ _ e _ => ⟨e, rfl⟩⟩
theorem TStep.mono {G is js x y} (a : TStep G is x y) (h : ∀ j ∈ is, j ∈ js) : TStep G js x y := { a with out := fun j hj => a.out j fun z => hj (h j z) }
theorem TStep.trans {G is x y w} (a : TStep G is x y) (b : TStep G is y w) : TStep G is x w := ⟨b.inv, fun j h => (b.out j h).trans (a.out j h), b.len.trans a.len, b.H.trans a.H, b.F.trans a.F, fun c h => a.o1 c (b.o1 c h), b.p1.trans a.p1, b.b1.trans a.b1, fun j d fl e hf => by
  obtain ⟨e1, s1⟩ := a.lk j d fl e hf
  obtain ⟨e2, s2⟩ := b.lk j d fl e1 hf
  exact ⟨e2, s2.trans s1⟩⟩
theorem TStep.step {G is z x y} (e : EInv z x) (t : TStep G is x y) : SStep G z x y where
  inv := t.inv
  ent := ⟨fun a f => e.f1 a (by rw [← t.F]; exact f), by rw [t.H]; exact e.kp, t.p1.trans e.p1, fun a h => e.o1 a (t.o1 a h), fun a h => e.dm a (by rw [← t.H]; exact h), fun a f => by rw [t.F]; exact e.f0 a f⟩
  lk := fun j d fl e1 hf => by
    obtain ⟨e2, s2⟩ := t.lk j d fl e1 hf
    exact ⟨d, e2, fun _ => rfl, s2⟩
  kf := by rw [t.H]; exact .refl
  f1 := fun a f => by rw [t.F]; exact f
abbrev GE := D → Env → Res Env
def tG (G : Gm) (is : List Nat) (g : GE) : TG := fun v σ H Q => ∃ (x : Stt) (d : D), x.sg = σ ∧ x.H = H ∧ SInv G x ∧ Rep G x.F x.H [v] [d] ∧
  match g d x.rho with
  | .ok ρ' => ∀ y, y.rho = ρ' → TStep G is x y → Q y.sg y.H
  | _ => False
def tGs (G : Gm) (is : List Nat) (g : List D → Env → Res Env) : TGs := fun vs σ H Q => ∃ (x : Stt) (ds : List D), x.sg = σ ∧ x.H = H ∧ SInv G x ∧ Rep G x.F x.H vs ds ∧
  match g ds x.rho with
  | .ok ρ' => ∀ y, y.rho = ρ' → TStep G is x y → Q y.sg y.H
  | _ => False
def gNm (i : Nat) : GE := fun d ρ => setSlot .fz i d .fz ρ
def gsN : List D → Env → Res Env := fun ds ρ => match ds with
  | [] => .ok ρ
  | _ => .bad
def gsC (g : GE) (gs : List D → Env → Res Env) : List D → Env → Res Env := fun ds ρ => match ds with
  | d :: r => do
    let ρ1 ← g d ρ
    gs r ρ1
  | [] => .bad
def gTp (n : Nat) (gs : List D → Env → Res Env) : GE := fun d ρ => match d with
  | .tup ds => if ds.length = n then gs ds ρ else .bad
  | _ => .bad
theorem set_tstep {G : Gm} {x : Stt} {v : V} {d : D} {i : Nat} {ρ2 : Env} (hx : SInv G x) (r : Rep G x.F x.H [v] [d]) (h : setSlot .fz i d .fz x.rho = .ok ρ2) :
    ∃ w : Stt, w.rho = ρ2 ∧ w.sg = x.sg.set i (some v) ∧ w.H = x.H ∧ TStep G [i] x w := by
  unfold setSlot at h
  by_cases hc : canSet x.rho i = true
  · rw [if_pos hc] at h
    obtain ⟨hi, hn⟩ := canSet_spec hc
    simp at h
    obtain ⟨o1, old, o3, eo, sl⟩ := hx.sl.set (i := i) hi hn (.fz r)
    refine ⟨⟨x.F, ρ2, x.sg.set i (some v), x.H, o1 ++ ([] ++ o3), x.p, x.b⟩, rfl, rfl, rfl, ⟨⟨by rw [← h]; exact sl, ?_, hx.dom, hx.tb⟩, fun j hj => List.getElem?_set_ne (by simpa using fun e => hj (by simp [e])), by simp, rfl, rfl, fun a ha => ?_, rfl, rfl, fun j d0 fl0 e hf => ?_⟩⟩
    · have := hx.nd; rw [eo] at this
      exact nodup_mid this (by simp) (by simp)
    · rw [eo]; simp only [List.mem_append, List.nil_append] at ha ⊢
      rcases ha with q | q
      · exact .inl q
      · exact .inr (.inr q)
    · have ne : i ≠ j := by
        intro q; subst q
        rcases hn _ _ e with q | q <;> subst q <;> simp at hf
      rw [← h]
      exact ⟨by rw [List.getElem?_set_ne ne]; exact e, by rw [List.getElem?_set_ne ne]⟩
  · rw [if_neg hc] at h; cases h
section
variable {X : Cx} {G : Gm} {W : WX} {z : Stt}
theorem PG.of {e : Expr} {t u : TG} (h : PG X e t) (i : ∀ v σ H Q, u v σ H Q → t v σ H Q) : PG X e u := ⟨fun pins s σ H v w Q I r q => h.run pins s σ H v w Q I r (i v σ H Q q)⟩
theorem PGs.of {e : List Expr} {t u : TGs} (h : PGs X e t) (i : ∀ v σ H Q, u v σ H Q → t v σ H Q) : PGs X e u := ⟨fun pins s σ H v w Q I r q => h.run pins s σ H v w Q I r (i v σ H Q q)⟩
theorem g_name {i : Nat} {e : Expr} (h : PG X e (gName i)) : PG X e (tG G [i] (gNm i)) := PG.of h fun v σ H Q ⟨x, d, e1, e2, hi, r, q⟩ => by
  subst e1 e2
  unfold gNm at q
  cases h1 : setSlot .fz i d .fz x.rho with
  | bad => rw [h1] at q; exact q.elim
  | err c d' ρ' => rw [h1] at q; exact q.elim
  | ok ρ2 =>
    rw [h1] at q
    obtain ⟨w, w1, w2, w3, w4⟩ := set_tstep hi r h1
    have := q w w1 w4
    rw [w2, w3] at this; exact this
theorem g_nil : PGs X [] (tGs G [] gsN) := PGs.of pgs_nil fun vs σ H Q ⟨x, ds, e1, e2, hi, r, q⟩ => by
  subst e1 e2
  cases ds with
  | nil => exact ⟨r.nil_of, q x rfl (.refl hi)⟩
  | cons d ds => exact q.elim
theorem g_cons {e : Expr} {es : List Expr} {is js : List Nat} {g : GE} {gs : List D → Env → Res Env} (h1 : PG X e (tG G is g)) (h2 : PGs X es (tGs G js gs)) (hs : (assignEach (e :: es) X.env).map (·.2) = assign e X.env :: (assignEach es X.env).map (·.2) := by rfl) :
    PGs X (e :: es) (tGs G (is ++ js) (gsC g gs)) := PGs.of (pgs_cons h1 h2 hs) fun vs σ H Q ⟨x, ds, e1, e2, hi, r, q⟩ => by
  subst e1 e2
  cases ds with
  | nil => exact q.elim
  | cons d ds =>
    obtain ⟨v, ws, rfl, r1, r2⟩ := r.cons_of
    refine ⟨v, ws, rfl, x, d, rfl, rfl, hi, r1, ?_⟩
    simp only [gsC] at q
    cases h1 : g d x.rho with
    | bad => simp only [h1, Res.bind_bad] at q
    | err c d' ρ' => simp only [h1, Res.bind_err] at q
    | ok ρ1 =>
      simp only [h1, Res.bind_ok] at q
      intro y hy st
      refine ⟨y, ds, rfl, rfl, st.inv, by rw [st.F, st.H]; exact r2, ?_⟩
      rw [hy]
      cases h2 : gs ds ρ1 with
      | bad => simp only [h2] at q
      | err c d' ρ' => simp only [h2] at q
      | ok ρ2 =>
        simp only [h2] at q
        exact fun w hw st2 => q w hw ((st.mono fun j h => by simp [h]).trans (st2.mono fun j h => by simp [h]))
theorem g_tup {es : List Expr} {k : Nat} {pos : Pos} {is : List Nat} {gs : List D → Env → Res Env} {n : Nat} (hc : X.calm = true) (hK : X.K = G.K) (h : PGs X es (tGs G is gs))
    (hn : (assignEach es X.env).length = n := by rfl) (hst : (assignEach es X.env).findIdx? (·.1) = none := by rfl) : PG X (.Tuple es k pos) (tG G is (gTp n gs)) := PG.of (pg_tup hc h hn hst) fun v σ H Q ⟨x, d, e1, e2, hi, r, q⟩ => by
  subst e1 e2
  unfold gTp at q
  cases d <;> first | exact q.elim | skip
  case tup ds =>
    simp only at q
    by_cases hl : ds.length = n
    · rw [if_pos hl] at q
      have : ∃ a ws, v = .ref a ∧ SqT X.K x.H a ws ∧ Rep G x.F x.H ws ds := by
        cases r with
        | atom e _ => cases v <;> simp [atomD] at e
        | tup f e z r1 _ => exact ⟨_, _, rfl, .of e, r1⟩
        | tupK f z r1 _ => exact ⟨_, _, rfl, .inr (by rw [hK]; exact f), r1⟩
      obtain ⟨a, ws, rfl, sq, r1⟩ := this
      exact ⟨a, ws, rfl, sq, by rw [r1.length]; exact hl, x, ds, rfl, rfl, hi, r1, q⟩
    · rw [if_neg hl] at q; exact q.elim
end

theorem Own.fz_of {G : Gm} {F : Addr → Prop} {H : Hp} {v : V} {d : D} (h : Own G F H v d []) : Rep G F H [v] [d] := by
  cases h with
  | fz r => exact r
/-! ### what is walked -/
/-- J walks the data ds, as long as what y froze stands (where br: as long as all stands) -/
def Walks (G : Gm) (y : Stt) (J : It) (ds : List D) (br : Bool) : Prop := ∀ w : Stt, SInv G w → (∀ a, y.F a → w.F a) → KeptF y.F y.H w.H → (br = true → Kept [] y.H w.H) →
  ∀ i, (∀ d, ds[i]? = some d → J.go i w.H ∧ ∀ v H', J.yld i w.H v H' → ∃ F', NewV G w.F w.H F' H' v d .fz []) ∧ (ds.length ≤ i → J.stop i w.H)
abbrev IE := Env → Res (List D × Bool × Env)
def tI (G : Gm) (W : WX) (still : Bool) (f : IE) : TI := fun σ H R => ∃ x : Stt, x.sg = σ ∧ x.H = H ∧ SInv G x ∧
  match f x.rho with
  | .ok (ds, br, ρ') => ∀ y J, y.rho = ρ' → SInv G y → Ext still x y → Walks G y J ds br → R J y.H
  | .err c d ρ' => ∀ y cls dx, y.rho = ρ' → SInv G y → Ext still x y → ErrV G y cls dx c d → W cls dx σ y.H
  | .bad => False
def forL (g : GE) (body : SE) : List D → Env → Res Flo
  | [], ρ => .ok (.nx ρ)
  | d :: ds, ρ => do
    let ρ1 ← g d ρ
    match ← body ρ1 with
    | .nx ρ2 => forL g body ds ρ2
    | .ct ρ2 => forL g body ds ρ2
    | .bk ρ2 => .ok (.nx ρ2)
    | .rt d k ρ2 => .ok (.rt d k ρ2)
def sFor (it : IE) (g : GE) (body : SE) : SE := fun ρ => do
  let (ds, br, ρ1) ← it ρ
  if br = true then .bad else forL g body ds ρ1
def whileL (c : BE) (body : SE) : Nat → Env → Res Flo
  | 0, _ => .bad
  | n + 1, ρ => do
    let (b, ρ1) ← c ρ
    if b = true then do
      match ← body ρ1 with
      | .nx ρ2 => whileL c body n ρ2
      | .ct ρ2 => whileL c body n ρ2
      | .bk ρ2 => .ok (.nx ρ2)
      | .rt d k ρ2 => .ok (.rt d k ρ2)
    else .ok (.nx ρ1)
def sWhile (n : Nat) (c : BE) (body : SE) : SE := fun ρ => whileL c body n ρ
section
variable {X : Cx} {G : Gm} {W : WX} {z : Stt}
theorem PI.of {tg e : Expr} {t u : TI} (h : PI X tg e t) (i : ∀ σ H R, u σ H R → t σ H R) : PI X tg e u := ⟨fun pins s σ H R I w => h.run pins s σ H R I (i σ H R w)⟩
theorem PI.or {tg e : Expr} {t u : TI} (h : PI X tg e t) (h' : PI X tg e u) : PI X tg e (fun σ H R => t σ H R ∨ u σ H R) := ⟨fun pins s σ H R I w => w.elim (h.run pins s σ H R I) (h'.run pins s σ H R I)⟩
theorem g_ok {g : GE} {body : SE} {d : D} {ds : List D} {x : Stt} {Dn : Ends} (q : TQ G W z x Dn (forL g body (d :: ds) x.rho)) :
    (∃ ρ1, g d x.rho = .ok ρ1 ∧ TQ G W z x Dn (do match ← body ρ1 with | .nx ρ2 => forL g body ds ρ2 | .ct ρ2 => forL g body ds ρ2 | .bk ρ2 => .ok (.nx ρ2) | .rt d k ρ2 => .ok (.rt d k ρ2))) ∨ ∃ c e ρ', g d x.rho = .err c e ρ' := by
  simp only [forL] at q
  cases h : g d x.rho with
  | bad => simp only [h, Res.bind_bad] at q; exact q.elim
  | err c e ρ' => exact .inr ⟨c, e, ρ', rfl⟩
  | ok ρ1 => simp only [h, Res.bind_ok] at q; exact .inl ⟨ρ1, rfl, q⟩
/-- targets never raise -/
def NoErr (g : GE) : Prop := ∀ d ρ c e ρ', g d ρ ≠ .err c e ρ'
def NoErrs (g : List D → Env → Res Env) : Prop := ∀ d ρ c e ρ', g d ρ ≠ .err c e ρ'
theorem ne_name {i : Nat} : NoErr (gNm i) := fun d ρ c e ρ' h => by
  unfold gNm setSlot at h
  split at h
  · simp at h
  · cases h
theorem ne_nil : NoErrs gsN := fun ds ρ c e ρ' h => by cases ds <;> simp [gsN] at h
theorem ne_cons {g gs} (h1 : NoErr g) (h2 : NoErrs gs) : NoErrs (gsC g gs) := fun ds ρ c e ρ' h => by
  cases ds with
  | nil => simp [gsC] at h
  | cons d ds =>
    simp only [gsC] at h
    cases h3 : g d ρ with
    | bad => simp [h3] at h
    | err c1 e1 ρ1 => exact h1 d ρ c1 e1 ρ1 h3
    | ok ρ1 => simp only [h3, Res.bind_ok] at h; exact h2 _ _ _ _ _ h
theorem ne_tup {n gs} (h : NoErrs gs) : NoErr (gTp n gs) := fun d ρ c e ρ' q => by
  unfold gTp at q
  split at q
  · split at q
    · exact h _ _ _ _ _ q
    · cases q
  · cases q
theorem r_for {tg iter : Expr} {body : List Stmt} {pos : Pos} {s : Bool} {it : IE} {is : List Nat} {g : GE} {bd : SE} (hp : PassesOwn (model X.prog X.w) X.A X.env X.xe) (hc : X.calm = true) (hi : PI X tg iter (tI G W s it)) (hg : PG X tg (tG G is g)) (hne : NoErr g) (hb : PSs X body (tT G W z bd))
    (hs : ∀ x, foldedSetIterable iter X.env x = pure x := by intro _; rfl) : PS X (.For tg iter body [] pos) (tT G W z (sFor it g bd)) := PS.of (ps_for hp hc hi hg hb hs) fun Dn σ H h => by
  obtain ⟨x, rfl, rfl, hx, hz, q⟩ := h
  refine ⟨x, rfl, rfl, hx, ?_⟩
  unfold sFor at q
  cases e : it x.rho with
  | bad => simp only [e, Res.bind_bad] at q; exact q
  | err c d ρ' =>
    simp only [e, Res.bind_err] at q
    intro y cls dx hρ iy ey hev
    have := q y cls dx hρ (SStep.ext hz hx iy ey) hev
    rw [ey.sg] at this; exact this
  | ok r =>
    obtain ⟨ds, br, ρ1⟩ := r
    simp only [e, Res.bind_ok] at q
    intro y J hρ iy ey wk
    cases br with
    | true => rw [if_pos rfl] at q; exact q.elim
    | false =>
    rw [if_neg (by simp)] at q
    have st0 := SStep.ext hz hx iy ey
    have q0 : TQ G W z y Dn (forL g bd ds y.rho) := by rw [hρ]; exact TQ.step q st0
    refine ⟨fun i m σ' H' => ∃ w : Stt, w.sg = σ' ∧ w.H = H' ∧ SStep G z y w ∧ m = ds.length - i ∧ i ≤ ds.length ∧ TQ G W z w Dn (forL g bd (ds.drop i) w.rho), ⟨ds.length, y, ey.sg, rfl, .refl iy st0.ent, by simp, Nat.zero_le _, q0⟩, ?_⟩
    rintro i m σ' H' ⟨w, rfl, rfl, sw, rfl, hi, qw⟩
    have wkw := wk w sw.inv sw.f1 sw.kf (by simp) i
    by_cases hlt : i < ds.length
    · have ed : ds[i]? = some ds[i] := List.getElem?_eq_getElem hlt
      obtain ⟨hgo, hy⟩ := wkw.1 _ ed
      rw [List.drop_eq_getElem_cons hlt] at qw
      rcases g_ok qw with ⟨ρ2, hg2, qb⟩ | ⟨c, e', ρ', hg2⟩
      · refine .inr ⟨hgo, fun σ' H' => ∃ w' : Stt, w'.sg = σ' ∧ w'.H = H' ∧ SStep G z y w' ∧ TQ G W z w' Dn (forL g bd (ds.drop (i + 1)) w'.rho), fun σ' H' ⟨w', e1, e2, s2, q2⟩ => ⟨ds.length - (i + 1), by omega, w', e1, e2, s2, rfl, hlt, q2⟩, fun v H' yl => ?_⟩
        obtain ⟨F', n⟩ := hy v H' yl
        have P := n.post sw.inv
        have s1 := SStep.ext sw.ent sw.inv P.inv P.ext
        have r1 : Rep G F' H' [v] [ds[i]] := n.own.fz_of
        refine ⟨{ w with F := F', H := H' }, ds[i], rfl, rfl, P.inv, r1, ?_⟩
        show (match g ds[i] w.rho with | .ok ρ' => _ | _ => False)
        rw [hg2]
        intro u hu tu
        have s2 := s1.trans (tu.step s1.ent)
        refine ⟨u, rfl, rfl, tu.inv, s2.ent, ?_⟩
        have qb := TQ.step qb s2
        rw [hu]
        cases e3 : bd ρ2 with
        | bad => simp only [e3, Res.bind_bad] at qb; exact qb
        | err c d ρ' => simp only [e3, Res.bind_err] at qb; exact qb
        | ok f =>
          simp only [e3, Res.bind_ok] at qb
          cases f with
          | nx ρ3 => exact fun w' hw' sw' => ⟨w', rfl, rfl, (sw.trans s2).trans sw', by rw [hw']; exact TQ.step qb sw'⟩
          | ct ρ3 => exact fun w' hw' sw' => ⟨w', rfl, rfl, (sw.trans s2).trans sw', by rw [hw']; exact TQ.step qb sw'⟩
          | bk ρ3 => exact fun w' hw' sw' => qb w' hw' sw'
          | rt d k ρ3 => exact qb
      · exact absurd hg2 (hne _ _ _ _ _)
    · have ei : i = ds.length := by omega
      subst ei
      rw [List.drop_length] at qw
      exact .inl ⟨wkw.2 (Nat.le_refl _), qw w rfl (.refl sw.inv sw.ent)⟩
theorem r_while {c : Expr} {body : List Stmt} {pos : Pos} {s : Bool} {f : BE} {bd : SE} (n : Nat) (hp : PassesOwn (model X.prog X.w) X.A X.env X.xe) (hc : PT X c (tB G W s f)) (hb : PSs X body (tT G W z bd)) : PS X (.While c body [] pos) (tT G W z (sWhile n f bd)) := PS.of (ps_while hp hc hb) fun Dn σ H h => by
  obtain ⟨x, rfl, rfl, hx, hz, q⟩ := h
  refine ⟨fun m σ' H' => ∃ w : Stt, w.sg = σ' ∧ w.H = H' ∧ SStep G z x w ∧ TQ G W z w Dn (whileL f bd m w.rho), ⟨n, x, rfl, rfl, .refl hx hz, q⟩, ?_⟩
  rintro m σ' H' ⟨w, rfl, rfl, sw, qw⟩
  refine ⟨w, rfl, rfl, sw.inv, ?_⟩
  cases m with
  | zero => exact qw.elim
  | succ m =>
    simp only [whileL] at qw
    cases e : f w.rho with
    | bad => simp only [e, Res.bind_bad] at qw; exact qw
    | err c d ρ' =>
      simp only [e, Res.bind_err] at qw
      intro y cls dx hρ iy ey hev
      have := qw y cls dx hρ (SStep.ext sw.ent sw.inv iy ey) hev
      rw [ey.sg] at this; exact this
    | ok r =>
      obtain ⟨b, ρ1⟩ := r
      simp only [e, Res.bind_ok] at qw
      intro y hρ iy ey
      have s1 := SStep.ext sw.ent sw.inv iy ey
      have qw := TQ.step qw s1
      cases b with
      | true =>
        rw [if_pos rfl] at qw ⊢
        refine ⟨fun σ' H' => ∃ w' : Stt, w'.sg = σ' ∧ w'.H = H' ∧ SStep G z x w' ∧ TQ G W z w' Dn (whileL f bd m w'.rho), fun σ' H' ⟨w', e1, e2, s2, q2⟩ => ⟨m, Nat.lt_succ_self _, w', e1, e2, s2, q2⟩, y, ey.sg, rfl, iy, s1.ent, ?_⟩
        rw [hρ]
        cases e3 : bd ρ1 with
        | bad => simp only [e3, Res.bind_bad] at qw; exact qw
        | err c d ρ' => simp only [e3, Res.bind_err] at qw; exact qw
        | ok fl =>
          simp only [e3, Res.bind_ok] at qw
          cases fl with
          | nx ρ3 => exact fun w' hw' sw' => ⟨w', rfl, rfl, (sw.trans s1).trans sw', by rw [hw']; exact TQ.step qw sw'⟩
          | ct ρ3 => exact fun w' hw' sw' => ⟨w', rfl, rfl, (sw.trans s1).trans sw', by rw [hw']; exact TQ.step qw sw'⟩
          | bk ρ3 => exact fun w' hw' sw' => qw w' hw' sw'
          | rt d k ρ3 => exact qw
      | false =>
        rw [if_neg (by simp)] at qw ⊢
        have := qw y hρ (.refl iy s1.ent)
        rw [ey.sg] at this; exact this
end
end VL
/-! VL8: lists, tuples and ranges walked; comprehensions. -/
namespace VL
open PySem PySem.Spec PyProof.Rows L2

theorem Own.lst_of {G : Gm} {F : Addr → Prop} {H : Hp} {v : V} {ds : List D} {fp : List Addr} (h : Own G F H v (.lst ds) fp) (K : PySem.W.Frag) :
    ∃ a ws, v = .ref a ∧ SqL K H a ws ∧ ws.length ≤ sizeLine ∧ Rep G F H ws ds ∧
      ∀ (F' : Addr → Prop) (H' : Hp), (∀ x, F x → F' x) → KeptF F H H' → (F' a ∨ fp = [] ∨ Kept [] H H') → (F' a → fp ≠ [] → H' a = H a) → SqL K H' a ws := by
  cases h with
  | fz r =>
    cases r with
    | atom e _ => cases v <;> simp [atomD] at e
    | lst f e z r1 _ => exact ⟨_, _, rfl, .of e, z, r1, fun F' H' _ k _ _ => .of (k _ _ f e rfl)⟩
  | ow f ob =>
    obtain ⟨ws, e, z, r⟩ := ob
    refine ⟨_, ws, rfl, .of e, z, r, fun F' H' _ k c q => ?_⟩
    rcases c with c | c | c
    · exact .of (by rw [q c (by simp)]; exact e)
    · simp at c
    · exact .of (c _ _ e (by simp) rfl)
theorem Own.scr_of {G : Gm} {F : Addr → Prop} {H : Hp} {v : V} {ns : List Int} {fp : List Addr} (h : Own G F H v (.scr ns) fp) {K : PySem.W.Frag} (hK : K = G.K) :
    ∃ a, v = .ref a ∧ SqL K H a (ns.map V.int) ∧ ns.length ≤ sizeLine ∧ fp = [] ∧ ∀ (F' : Addr → Prop) (H' : Hp), (∀ x, F x → F' x) → KeptF F H H' → SqL K H' a (ns.map V.int) := by
  subst hK
  cases h with
  | fz r =>
    cases r with
    | atom e _ => cases v <;> simp [atomD] at e
    | scr f e z _ => exact ⟨_, rfl, .inl (.inr ⟨_, e⟩), z, rfl, fun F' H' _ k => .inl (.inr ⟨_, k _ _ f e rfl⟩)⟩
    | scrK f z _ => exact ⟨_, rfl, .inr f, z, rfl, fun _ _ _ _ => .inr f⟩
  | ow f ob => exact False.elim ob
theorem Own.tup_of {G : Gm} {F : Addr → Prop} {H : Hp} {v : V} {ds : List D} {fp : List Addr} (h : Own G F H v (.tup ds) fp) {K : PySem.W.Frag} (hK : K = G.K) :
    ∃ a ws, v = .ref a ∧ SqT K H a ws ∧ ws.length ≤ sizeLine ∧ Rep G F H ws ds ∧ fp = [] ∧ ∀ (F' : Addr → Prop) (H' : Hp), (∀ x, F x → F' x) → KeptF F H H' → SqT K H' a ws := by
  subst hK
  cases h with
  | fz r =>
    cases r with
    | atom e _ => cases v <;> simp [atomD] at e
    | tup f e z r1 _ => exact ⟨_, _, rfl, .of e, z, r1, rfl, fun F' H' _ k => .of (k _ _ f e rfl)⟩
    | tupK f z r1 _ => exact ⟨_, _, rfl, .inr f, z, r1, rfl, fun _ _ _ _ => .inr f⟩
  | ow f ob => exact False.elim ob
def iSeq (f : EE) : IE := fun ρ => do
  let (d, k, ρ1) ← f ρ
  match d with
  | .lst ds => pure (ds, decide (k = .br), ρ1)
  | .tup ds => pure (ds, false, ρ1)
  | .scr ns => pure (ns.map D.int, false, ρ1)
  | _ => .bad
section
variable {X : Cx} {G : Gm} {W : WX} {z : Stt}
theorem r_iseq {tg e : Expr} {s : Bool} {f : EE} (hK : X.K = G.K) (h : PE X e (tS G W s f)) : PI X tg e (tI G W s (iSeq f)) := PI.of (PI.or (pi_list h) (pi_tup h)) fun σ H R ⟨x, e1, e2, hx, q⟩ => by
  subst e1 e2
  unfold iSeq at q
  cases e : f x.rho with
  | bad => simp only [e, Res.bind_bad] at q
  | err c d ρ' =>
    simp only [e, Res.bind_err] at q
    refine .inl ⟨x, rfl, rfl, hx, ?_⟩
    rw [e]; exact q
  | ok r =>
    obtain ⟨d, k, ρ1⟩ := r
    simp only [e, Res.bind_ok] at q
    cases d <;> first | exact q.elim | skip
    case tup ds =>
      refine .inr ⟨x, rfl, rfl, hx, ?_⟩
      rw [e]
      intro y v fv hρ P
      obtain ⟨a, ws, rfl, sq, hz, r, hf, stay⟩ := P.own.tup_of hK
      refine ⟨a, rfl, ⟨ws, sq⟩, q y _ hρ P.inv P.ext fun w iw f1 kf _ i => ⟨fun d hd => ?_, fun hl => ⟨ws, stay _ _ f1 kf, by rw [r.length]; exact hl⟩⟩⟩
      obtain ⟨u, hu, ru⟩ := (r.keep f1 kf).get hd
      refine ⟨⟨ws, u, stay _ _ f1 kf, hu⟩, fun v H' yl => ?_⟩
      obtain ⟨e1, yl⟩ := yl
      subst e1
      have := yl ws (stay _ _ f1 kf)
      rw [hu] at this; cases this
      exact ⟨w.F, .same iw.dom ru⟩
    case scr ns =>
      refine .inl ⟨x, rfl, rfl, hx, ?_⟩
      rw [e]
      intro y v fv hρ P
      obtain ⟨a, rfl, sq, hz, hf, stay⟩ := P.own.scr_of hK
      have r : Rep G y.F y.H (ns.map V.int) (ns.map D.int) := Rep.ints ns
      refine ⟨a, rfl, ⟨_, sq⟩, q y _ hρ P.inv P.ext fun w iw f1 kf _ i => ⟨fun d hd => ?_, fun hl => ⟨_, stay _ _ f1 kf, by rw [r.length]; exact hl⟩⟩⟩
      obtain ⟨u, hu, ru⟩ := (r.keep f1 kf).get hd
      refine ⟨⟨_, u, stay _ _ f1 kf, hu⟩, fun v H' yl => ?_⟩
      obtain ⟨e1, yl⟩ := yl
      subst e1
      have := yl _ (stay _ _ f1 kf)
      rw [hu] at this; cases this
      exact ⟨w.F, .same iw.dom ru⟩
    case lst ds =>
      refine .inl ⟨x, rfl, rfl, hx, ?_⟩
      rw [e]
      intro y v fv hρ P
      obtain ⟨a, ws, rfl, sq, hz, r, stay⟩ := P.own.lst_of X.K
      have av : fv = [] ∨ fv = [a] := by
        cases P.own with
        | fz _ => exact .inl rfl
        | ow _ _ => exact .inr rfl
      refine ⟨a, rfl, ⟨ws, sq⟩, ?_⟩
      -- the walk, once it is known that the list stays
      have wk : ∀ (y' : Stt), y'.H = y.H → (∀ b, y.F b → y'.F b) → ∀ br, (∀ w : Stt, SInv G w → (∀ b, y'.F b → w.F b) → KeptF y'.F y'.H w.H → (br = true → Kept [] y'.H w.H) → SqL X.K w.H a ws) → Walks G y' (Itl X.K a) ds br := by
        intro y' eH f0 br st w iw f1 kf kb i
        have sw := st w iw f1 kf kb
        have rw' : Rep G w.F w.H ws ds := r.keep (fun b h => f1 b (f0 b h)) (by rw [← eH]; exact fun b o hb e t => kf b o (f0 b hb) e t)
        refine ⟨fun d hd => ?_, fun hl => ⟨ws, sw, by rw [r.length]; exact hl⟩⟩
        obtain ⟨u, hu, ru⟩ := rw'.get hd
        refine ⟨⟨ws, u, sw, hu⟩, fun v H' yl => ?_⟩
        obtain ⟨e1, yl⟩ := yl
        subst e1
        have := yl ws sw
        rw [hu] at this; cases this
        exact ⟨w.F, .same iw.dom ru⟩
      cases k with
      | fz =>
        have hf : fv = [] := P.kd
        refine q y _ hρ P.inv P.ext (wk y rfl (fun _ h => h) _ fun w iw f1 kf kb => stay _ _ f1 kf (.inr (.inl hf)) fun _ n => absurd hf n)
      | br =>
        refine q y _ hρ P.inv P.ext (wk y rfl (fun _ h => h) _ fun w iw f1 kf kb => stay _ _ f1 kf (.inr (.inr (kb (by simp)))) fun fa n => ?_)
        have ha : a ∈ fv := by rcases av with z | z <;> simp_all
        obtain ⟨_, o, ho, ht⟩ := P.own.there a ha
        rw [ho]; exact kb (by simp) a o ho (by simp) ht
      | ow =>
        have hF := P.inv.freeze (fv := fv) fun b hb => ⟨(P.own.there b hb).2, (P.kd.2 b hb).2⟩
        have hE : Ext s x { y with F := fun b => y.F b ∨ b ∈ fv } := { P.ext with f1 := fun b h => .inl (P.ext.f1 b h), f2 := fun b h => h.elim (P.ext.f2 b) fun h => .inr (P.kd.2 b h).1 }
        refine q { y with F := fun b => y.F b ∨ b ∈ fv } _ hρ hF hE (wk { y with F := fun b => y.F b ∨ b ∈ fv } rfl (fun _ h => .inl h) _ fun w iw f1 kf kb => ?_)
        have ha : a ∈ fv := by
          have n := P.kd.1
          rcases av with z | z
          · exact absurd z n
          · simp [z]
        obtain ⟨_, o, ho, ht⟩ := P.own.there a ha
        have h' := kf a o (.inr ha) ho ht
        exact stay _ _ (fun b h => f1 b (.inl h)) (fun b o hb e t => kf b o (.inl hb) e t) (.inl (f1 a (.inr ha))) fun _ _ => by rw [h', ho]
def rng (lo : Int) (n : Nat) : List D := (List.range n).map fun (i : Nat) => D.int (lo + (i : Int))
theorem walks_range {y : Stt} {lo : Int} {n : Nat} {b : Bool} : Walks G y (Itr lo n) (rng lo n) b := fun w iw f1 kf kb i => by
  refine ⟨fun d hd => ?_, fun h => ?_⟩
  · unfold rng at hd
    rw [List.getElem?_map] at hd
    cases e : (List.range n)[i]? with
    | none => rw [e] at hd; cases hd
    | some j =>
      rw [e] at hd
      obtain ⟨hj, ej⟩ := List.getElem?_eq_some_iff.mp e
      rw [List.getElem_range] at ej
      rw [List.length_range] at hj
      subst ej
      cases hd
      refine ⟨hj, fun v H' yl => ?_⟩
      obtain ⟨rfl, rfl⟩ := yl
      exact ⟨w.F, .atom iw.dom rfl⟩
  · simp only [rng, List.length_map, List.length_range] at h
    exact h
def rngOk (i : Int) : Bool := decide (-(2 ^ 62) ≤ i ∧ i < 2 ^ 62)
def int1 : List (D × Kd) → Option Int
  | [(.int j, _)] => some j
  | _ => none
def int2 : List (D × Kd) → Option (Int × Int)
  | [(.int i, _), (.int j, _)] => some (i, j)
  | _ => none
theorem int1_of {l : List (D × Kd)} {j : Int} (h : int1 l = some j) : l.map (·.1) = [.int j] := by
  unfold int1 at h
  split at h
  · cases h; rfl
  · cases h
theorem int2_of {l : List (D × Kd)} {i j : Int} (h : int2 l = some (i, j)) : l.map (·.1) = [.int i, .int j] := by
  unfold int2 at h
  split at h
  · cases h; rfl
  · cases h
def iRng1D (f : AE) : IE := fun ρ => do
  let (l, ρ1) ← f ρ
  match int1 l with
  | some j => if rngOk j = true then pure (rng 0 j.toNat, false, ρ1) else .bad
  | none => .bad
def iRng2D (f : AE) : IE := fun ρ => do
  let (l, ρ1) ← f ρ
  match int2 l with
  | some (i, j) => if rngOk i = true ∧ rngOk j = true then pure (rng i (j - i).toNat, false, ρ1) else .bad
  | none => .bad
theorem AOk.int1 {x y vs l j} (h : AOk G x y vs l) (e : l.map (·.1) = [.int j]) : vs = [.int j] := by
  cases h with
  | nil => simp at e
  | cons w kd _ r =>
    simp at e
    obtain ⟨rfl, e⟩ := e
    cases r with
    | nil =>
      cases w with
      | fz r => rw [r.int_of]
      | ow _ ob => exact False.elim ob
    | cons _ _ _ _ => simp at e
theorem AOk.int2 {x y vs l i j} (h : AOk G x y vs l) (e : l.map (·.1) = [.int i, .int j]) : vs = [.int i, .int j] := by
  cases h with
  | nil => simp at e
  | @cons v d k fv vs dks w kd _ r =>
    simp only [List.map_cons, List.cons.injEq] at e
    obtain ⟨rfl, e⟩ := e
    rw [r.int1 e]
    cases w with
    | fz r => rw [r.int_of]
    | ow _ ob => exact False.elim ob
theorem r_irange1 {tg a : Expr} {p pos : Pos} {s : Bool} {f : AE} (hg : Gl X "range") (hm : X.mg "range" = none) (ha : PA X [a] (tA G W s f)) (hs : starEach [a] X.env = [(false, eval a X.env)] := by rfl) : PI X tg (.Call (.Name "range" p) [a] [] pos) (tI G W s (iRng1D f)) := PI.of (pi_range1 hg hm ha hs) fun σ H R ⟨x, e1, e2, hx, q⟩ => by
  subst e1 e2
  refine ⟨x, rfl, rfl, hx, ?_⟩
  unfold iRng1D at q
  cases e : f x.rho with
  | bad => simp only [e, Res.bind_bad] at q
  | err c d ρ' => simp only [e, Res.bind_err] at q; exact q
  | ok r =>
    obtain ⟨l, ρ1⟩ := r
    simp only [e, Res.bind_ok] at q
    intro y vs hρ iy ey ay
    cases hl : int1 l with
    | none => simp only [hl] at q
    | some j =>
      simp only [hl] at q
      by_cases hj : rngOk j = true
      · rw [if_pos hj] at q
        have e1 := ay.int1 (int1_of hl)
        simp only [rngOk, decide_eq_true_eq] at hj
        exact ⟨j, e1, hj.1, hj.2, q y _ hρ iy ey walks_range⟩
      · rw [if_neg hj] at q; exact q.elim
theorem r_irange2 {tg a b : Expr} {p pos : Pos} {s : Bool} {f : AE} (hg : Gl X "range") (hm : X.mg "range" = none) (ha : PA X [a, b] (tA G W s f)) (hs : starEach [a, b] X.env = [(false, eval a X.env), (false, eval b X.env)] := by rfl) (hs2 : starEach [b] X.env = [(false, eval b X.env)] := by rfl) : PI X tg (.Call (.Name "range" p) [a, b] [] pos) (tI G W s (iRng2D f)) := PI.of (pi_range2 hg hm ha hs hs2) fun σ H R ⟨x, e1, e2, hx, q⟩ => by
  subst e1 e2
  refine ⟨x, rfl, rfl, hx, ?_⟩
  unfold iRng2D at q
  cases e : f x.rho with
  | bad => simp only [e, Res.bind_bad] at q
  | err c d ρ' => simp only [e, Res.bind_err] at q; exact q
  | ok r =>
    obtain ⟨l, ρ1⟩ := r
    simp only [e, Res.bind_ok] at q
    intro y vs hρ iy ey ay
    cases hl : int2 l with
    | none => simp only [hl] at q
    | some ij =>
      obtain ⟨i, j⟩ := ij
      simp only [hl] at q
      by_cases hj : rngOk i = true ∧ rngOk j = true
      · rw [if_pos hj] at q
        have e1 := ay.int2 (int2_of hl)
        simp only [rngOk, decide_eq_true_eq] at hj
        exact ⟨i, j, e1, ⟨hj.1.1, hj.1.2, hj.2.1, hj.2.2⟩, q y _ hρ iy ey walks_range⟩
      · rw [if_neg hj] at q; exact q.elim
end
end VL
/-! VL9: list comprehensions. -/
namespace VL
open PySem PySem.Spec PyProof.Rows L2

def wipeR (ρ : Env) : List Nat → Env
  | [] => ρ
  | v :: vs => (wipeR ρ vs).set v none
def slotFree (ρ : Env) (i : Nat) : Bool := match ρ[i]? with
  | some none => true
  | some (some (_, .fz)) => true
  | _ => false
def wipable (ρ : Env) (vs : List Nat) : Bool := vs.all (slotFree ρ)
theorem wipeR_length (ρ : Env) : ∀ vs : List Nat, (wipeR ρ vs).length = ρ.length
  | [] => rfl
  | v :: vs => by unfold wipeR; rw [List.length_set, wipeR_length ρ vs]
theorem wipeR_get (ρ : Env) (i : Nat) : ∀ vs : List Nat, (wipeR ρ vs)[i]? = if i ∈ vs ∧ i < ρ.length then some none else ρ[i]?
  | [] => by simp [wipeR]
  | v :: vs => by
    unfold wipeR
    by_cases e : v = i
    · subst e
      by_cases h : v < ρ.length
      · rw [List.getElem?_set_self (by rw [wipeR_length]; exact h)]; simp [h]
      · have : (ρ[v]? : Option Slot) = none := List.getElem?_eq_none (by omega)
        simp [h, wipeR_length]
    · rw [List.getElem?_set_ne e, wipeR_get ρ i vs]
      have : (i ∈ v :: vs) ↔ i ∈ vs := by simp [Ne.symm e]
      simp only [this]
theorem wipe_get (σ : St) (i : Nat) : ∀ vs : List Nat, (wipe σ vs)[i]? = if i ∈ vs ∧ i < σ.length then some none else σ[i]?
  | [] => by simp [wipe]
  | v :: vs => by
    unfold wipe
    by_cases e : v = i
    · subst e
      by_cases h : v < σ.length
      · rw [List.getElem?_set_self (by rw [wipe_length]; exact h)]; simp [h]
      · simp [h, wipe_length]
    · rw [List.getElem?_set_ne e, wipe_get σ i vs]
      have : (i ∈ v :: vs) ↔ i ∈ vs := by simp [Ne.symm e]
      simp only [this]
theorem wipe_same {σ τ : St} {is vs : List Nat} (hl : τ.length = σ.length) (h : ∀ j, j ∉ is → τ[j]? = (wipe σ vs)[j]?) (hs : ∀ j ∈ is, j ∈ vs) : wipe τ vs = wipe σ vs := by
  apply List.ext_getElem?
  intro j
  rw [wipe_get τ j vs, wipe_get σ j vs, hl]
  by_cases hj : j ∈ vs
  · by_cases hj2 : j < σ.length
    · simp [hj, hj2]
    · have e1 : (τ[j]? : Option (Option V)) = none := List.getElem?_eq_none (by omega)
      have e2 : (σ[j]? : Option (Option V)) = none := List.getElem?_eq_none (by omega)
      simp [hj2, e1, e2]
  · have := h j fun z => hj (hs j z)
    rw [wipe_get σ j vs] at this
    simp [hj] at this ⊢
    exact this
theorem Slots.setNone {G F H ρ σ o p b} (h : Slots G F H ρ σ o p b) : ∀ {i : Nat}, slotFree ρ i = true → Slots G F H (ρ.set i Option.none) (σ.set i Option.none) o p b := by
  induction h with
  | nil => intro i h; simp [slotFree] at h
  | none hs ih =>
    intro i h
    cases i with
    | zero => exact .none hs
    | succ i => exact .none (ih (by simpa [slotFree] using h))
  | fz r hs ih =>
    intro i h
    cases i with
    | zero => exact .none hs
    | succ i => exact .fz r (ih (by simpa [slotFree] using h))
  | ow w n hs ih =>
    intro i h
    cases i with
    | zero => simp [slotFree] at h
    | succ i => exact .ow w n (ih (by simpa [slotFree] using h))
  | pn w n hs ih =>
    intro i h
    cases i with
    | zero => simp [slotFree] at h
    | succ i => exact .pn w n (ih (by simpa [slotFree] using h))
  | lk w hs ih =>
    intro i h
    cases i with
    | zero => simp [slotFree] at h
    | succ i => exact .lk w (ih (by simpa [slotFree] using h))
theorem Slots.wipe {G F H ρ σ o p b} (h : Slots G F H ρ σ o p b) : ∀ {vs : List Nat}, wipable ρ vs = true → Slots G F H (wipeR ρ vs) (wipe σ vs) o p b
  | [], _ => h
  | v :: vs, hw => by
    simp only [wipable, List.all_cons, Bool.and_eq_true] at hw
    have ih := Slots.wipe h (vs := vs) hw.2
    refine ih.setNone ?_
    unfold slotFree
    rw [wipeR_get]
    by_cases hv : v ∈ vs ∧ v < ρ.length
    · simp [hv]
    · rw [if_neg hv]; exact hw.1
theorem tabs_upd {T : List (Addr × Str)} {H : Hp} {a : Addr} {o o' : HO} (t : LamX.Tabs T H) (h : H a = some o) (n1 : isTbl o = false) (n2 : ∀ φ, o ≠ .ext φ) : LamX.Tabs T (upd H a o') := fun p hp => by
  obtain ⟨ps, e, ok, c⟩ := t p hp
  have ne : p.1 ≠ a := fun z => by rw [z, h] at e; cases e; cases n1
  refine ⟨ps, by rw [upd_ne ne]; exact e, ok, fun pos cv hc => ?_⟩
  obtain ⟨c', e1, e2⟩ := c pos cv hc
  have ne2 : c' ≠ a := fun z => by rw [z, h] at e2; cases e2; exact n2 _ rfl
  exact ⟨c', e1, by rw [upd_ne ne2]; exact e2⟩

/-- one comprehension's turns where nothing but new things come: the function from data to data -/
def lcS (g : GE) (t : BE) (e : EE) (ρ : Env) : List D → Res (List D)
  | [] => .ok []
  | d :: ds => do
    let ρ1 ← g d ρ
    let (b, _) ← t ρ1
    if b = true then do
      let (v, k, _) ← e ρ1
      if decide (k ≠ .br) && v.fzOk then do
        let r ← lcS g t e ρ ds
        pure (v :: r)
      else .bad
    else lcS g t e ρ ds
def xLc (vs : List Nat) (it : IE) (g : GE) (t : BE) (e : EE) : EE := fun ρ => do
  let (ds, _, ρ1) ← it ρ
  if wipable ρ1 vs = true ∧ ds.length ≤ sizeLine then
    match lcS g t e (wipeR ρ1 vs) ds with
    | .ok l => .ok (.lst l, .ow, ρ1)
    | _ => .bad
  else .bad
def bYes : BE := fun ρ => pure (true, ρ)
/-- nothing is raised out of a comprehension -/
abbrev W0 : WX := fun _ _ _ _ => False
structure LcI (G : Gm) (y : Stt) (D0 : Addr) (ws : List V) (acc : List D) (F : Addr → Prop) (H : Hp) : Prop where
  f1 : ∀ a, y.F a → F a
  f2 : ∀ a, F a → y.F a ∨ y.H a = none
  kp : Kept [] y.H H
  dm : ∀ a, H a = none → y.H a = none
  dom : DomF F H
  tb : LamX.Tabs G.T H
  nD : ¬ F D0
  eD : H D0 = some (.lst ws)
  rep : Rep G F H ws acc
theorem LcI.slots {G y D0 ws acc F H} (hy : SInv G y) (I : LcI G y D0 ws acc F H) : Slots G F H y.rho y.sg y.o y.p y.b :=
  hy.sl.keep I.f1 (fun a o _ e t => I.kp a o e (by simp) t) fun a ha => ⟨fun f => by
    obtain ⟨nf, o, e, _⟩ := hy.sl.there a ha
    rcases I.f2 a f with q | q
    · exact nf q
    · (rw [e] at q; cases q), fun o e t => I.kp a o e (by simp) t⟩
theorem LcI.inv {G y D0 ws acc F H vs} (hy : SInv G y) (I : LcI G y D0 ws acc F H) (hw : wipable y.rho vs = true) : SInv G ⟨F, wipeR y.rho vs, wipe y.sg vs, H, y.o, y.p, y.b⟩ := by
  have s1 : Slots G F H y.rho y.sg y.o y.p y.b := hy.sl.keep I.f1 (fun a o _ e t => I.kp a o e (by simp) t) fun a ha => ⟨fun f => ?_, fun o e t => I.kp a o e (by simp) t⟩
  · exact ⟨s1.wipe hw, hy.nd, I.dom, I.tb⟩
  · obtain ⟨nf, o, e, _⟩ := hy.sl.there a ha
    rcases I.f2 a f with q | q
    · exact nf q
    · rw [e] at q; cases q
section
variable {X : Cx} {G : Gm} {W : WX} {z : Stt}
theorem pts_no : PTs X [] (tB G W0 true bYes) := ⟨fun pins s σ H Q I ⟨x, e1, e2, hi, q⟩ => by
  subst e1 e2
  exact pts_nil.run pins s x.sg x.H Q I (q x rfl hi .refl)⟩
theorem pts_if {c : Expr} {s : Bool} {f : BE} (h : PT X c (tB G W0 s f)) : PTs X [c] (tB G W0 s f) := pts_one h
theorem tS_lc {s : Bool} {vs is : List Nat} {it : IE} {g : GE} {t : BE} {e : EE} (his : ∀ j ∈ is, j ∈ vs) {σ H Q} (h : tS G W s (xLc vs it g t e) σ H Q) : tLc (tI G W s it) (tG G is g) (tB G W0 true t) (tS G W0 true e) vs σ H Q := by
  obtain ⟨x, rfl, rfl, hx, q⟩ := h
  refine ⟨x, rfl, rfl, hx, ?_⟩
  unfold xLc at q
  cases e1 : it x.rho with
  | bad => simp only [e1, Res.bind_bad] at q
  | err c d ρ' => simp only [e1, Res.bind_err] at q; exact q
  | ok r =>
    obtain ⟨ds, br, ρ1⟩ := r
    simp only [e1, Res.bind_ok] at q
    intro y J hρ iy ey wk D0 hD
    have hc : wipable ρ1 vs = true ∧ ds.length ≤ sizeLine := by
      by_cases hc : wipable ρ1 vs = true ∧ ds.length ≤ sizeLine
      · exact hc
      · rw [if_neg hc] at q; exact q.elim
    rw [if_pos hc] at q
    obtain ⟨hw, hz⟩ := hc
    rw [← hρ] at hw
    cases hl : lcS g t e (wipeR ρ1 vs) ds with
    | bad => simp only [hl] at q
    | err c d ρ' => simp only [hl] at q
    | ok l =>
    simp only [hl] at q
    rw [← hρ] at hl
    -- D0 is apart
    have apart : ∀ a, y.H a ≠ none → a ≠ D0 := fun a h z => h (by rw [z]; exact hD)
    refine ⟨fun i m H => ∃ F ws acc, LcI G y D0 ws acc F H ∧ ws.length ≤ i ∧ m = ds.length - i ∧ i ≤ ds.length ∧ ∃ r, lcS g t e (wipeR y.rho vs) (ds.drop i) = .ok r ∧ l = acc ++ r, ⟨ds.length, y.F, [], [], ⟨fun _ h => h, fun _ h => .inl h, fun a o e _ _ => by rw [upd_ne (ne_of_none e hD)]; exact e, fun a h => ?_, fun a f => ?_, ?_, fun f => ?_, upd_same, .nil⟩, by simp, by simp, Nat.zero_le _, l, by simpa using hl, by simp⟩, ?_⟩
    · by_cases ea : a = D0
      · rw [ea]; exact hD
      · rwa [upd_ne ea] at h
    · obtain ⟨o, e, tt⟩ := iy.dom a f
      exact ⟨o, by rw [upd_ne (ne_of_none e hD)]; exact e, tt⟩
    · exact iy.tb.ext fun b o e => by rw [upd_ne (ne_of_none e hD)]; exact e
    · obtain ⟨o, e, _⟩ := iy.dom D0 f
      rw [hD] at e; cases e
    rintro i m H1 ⟨F, ws, acc, I, hws, rfl, hi, r, hr, rfl⟩
    have iw := I.inv iy hw
    have wkw := wk ⟨F, wipeR y.rho vs, wipe y.sg vs, H1, y.o, y.p, y.b⟩ iw I.f1 (fun a o _ e tt => I.kp a o e (by simp) tt) (fun _ => I.kp) i
    rcases Nat.lt_or_ge i ds.length with hlt | hge
    rotate_left
    · have ei : i = ds.length := by omega
      subst ei
      rw [List.drop_length] at hr
      simp only [lcS, Res.ok.injEq] at hr
      subst hr
      refine .inl ⟨wkw.2 (Nat.le_refl _), ?_⟩
      have s1 := I.slots iy
      have E2 : Ext true y { y with F := F, H := H1 } := ⟨rfl, I.kp.mono (by simp), I.f1, I.f2, fun a h => .inl h, rfl, rfl, I.dm, fun _ d _ e _ => ⟨d, e, fun _ => rfl⟩, fun _ => ⟨rfl, I.kp, rfl⟩⟩
      have hE := ey.trans hx iy E2
      rw [Bool.and_true] at hE
      rw [List.append_nil] at q
      refine q { y with F := F, H := H1 } (.ref D0) [D0] hρ ⟨⟨s1, iy.nd, I.dom, I.tb⟩, hE, .ow I.nD ⟨ws, I.eD, by omega, I.rep⟩, ⟨by simp, fun a ha => ?_⟩, .ow⟩
      have : a = D0 := by simpa using ha
      subst this
      refine ⟨ey.dm a hD, fun z => ?_, fun z => ?_, fun z => ?_⟩
      · obtain ⟨_, o, e, _⟩ := iy.sl.there a (.inl z); rw [hD] at e; cases e
      · obtain ⟨_, o, e, _⟩ := iy.sl.there a (.inr (.inl z)); rw [hD] at e; cases e
      · obtain ⟨_, o, e, _⟩ := iy.sl.there a (.inr (.inr z)); rw [hD] at e; cases e
    · have ed : ds[i]? = some ds[i] := List.getElem?_eq_getElem hlt
      obtain ⟨hgo, hyld⟩ := wkw.1 _ ed
      rw [List.drop_eq_getElem_cons hlt] at hr
      simp only [lcS] at hr
      cases hg : g ds[i] (wipeR y.rho vs) with
      | bad => simp only [hg, Res.bind_bad] at hr; cases hr
      | err c d ρ' => simp only [hg, Res.bind_err] at hr; cases hr
      | ok ρ2 =>
      simp only [hg, Res.bind_ok] at hr
      cases ht : t ρ2 with
      | bad => simp only [ht, Res.bind_bad] at hr; cases hr
      | err c d ρ' => simp only [ht, Res.bind_err] at hr; cases hr
      | ok r2 =>
      obtain ⟨b, ρ3⟩ := r2
      simp only [ht, Res.bind_ok] at hr
      refine .inr ⟨hgo, fun H2 => ∃ F ws acc', LcI G y D0 ws acc' F H2 ∧ ws.length ≤ i + 1 ∧ ∃ r', lcS g t e (wipeR y.rho vs) (ds.drop (i + 1)) = .ok r' ∧ acc ++ r = acc' ++ r', fun H2 ⟨F, ws, acc', I2, h2, r', h3, h4⟩ => ⟨ds.length - (i + 1), by omega, F, ws, acc', I2, h2, rfl, hlt, r', h3, h4⟩, fun v H2 yl => ?_⟩
      obtain ⟨F2, n⟩ := hyld v H2 yl
      have P := n.post iw
      have r1 : Rep G F2 H2 [v] [ds[i]] := n.own.fz_of
      rw [ey.sg] at P
      refine ⟨⟨F2, wipeR y.rho vs, wipe x.sg vs, H2, y.o, y.p, y.b⟩, ds[i], rfl, rfl, P.inv, r1, ?_⟩
      show (match g ds[i] (wipeR y.rho vs) with | .ok ρ' => _ | _ => False)
      rw [hg]
      intro u hu tu
      refine ⟨wipe_same (tu.len.trans (wipe_length x.sg vs)) (fun j hj => tu.out j hj) his, u, rfl, rfl, tu.inv, ?_⟩
      rw [hu, ht]
      intro u2 hu2 iu2 eu2
      obtain ⟨ρu2, ku2, ou2⟩ := eu2.st rfl
      -- what is known behind the test
      have I2 : LcI G y D0 ws acc u2.F u2.H := by
        have hF : u.F = F2 := tu.F
        have hH : u.H = H2 := tu.H
        have kp2 : Kept [] H1 u2.H := by
          refine Kept.trans (m' := []) (fun a o e _ _ => n.kp a o e) (by rw [← hH]; exact ku2) (by simp)
        have f12 : ∀ a, F a → u2.F a := fun a f => eu2.f1 a (by rw [hF]; exact n.f1 a f)
        refine ⟨fun a f => f12 a (I.f1 a f), fun a f => ?_, I.kp.trans kp2 (by simp), fun a h => ?_, iu2.dom, iu2.tb, fun f => ?_, kp2 _ _ I.eD (by simp) rfl, I.rep.keep f12 fun a o _ e tt => kp2 a o e (by simp) tt⟩
        · rcases eu2.f2 a f with q | q
          · rw [hF] at q
            rcases n.f2 a q with q | q
            · exact I.f2 a q
            · exact .inr (I.dm a q)
          · rw [hH] at q; exact .inr (I.dm a (n.dm a q))
        · have h1 := eu2.dm a h
          rw [hH] at h1
          exact I.dm a (n.dm a h1)
        · rcases eu2.f2 D0 f with q | q
          · rw [hF] at q
            rcases n.f2 D0 q with q | q
            · exact I.nD q
            · have q' : H1 D0 = none := q
              rw [I.eD] at q'; cases q'
          · rw [hH, n.kp _ _ I.eD] at q; cases q
      cases b with
      | false =>
        rw [if_neg (by simp)] at hr ⊢
        exact ⟨u2.F, ws, acc, I2, by omega, r, hr, rfl⟩
      | true =>
        rw [if_pos rfl] at hr ⊢
        cases he : e ρ2 with
        | bad => simp only [he, Res.bind_bad] at hr; cases hr
        | err c d ρ' => simp only [he, Res.bind_err] at hr; cases hr
        | ok r3 =>
        obtain ⟨vd, k, ρ4⟩ := r3
        simp only [he, Res.bind_ok] at hr
        have hk : (decide (k ≠ .br) && vd.fzOk) = true := by
          by_cases hk : (decide (k ≠ .br) && vd.fzOk) = true
          · exact hk
          · rw [if_neg hk] at hr; cases hr
        rw [if_pos hk] at hr
        simp only [Bool.and_eq_true, decide_eq_true_eq] at hk
        cases h5 : lcS g t e (wipeR y.rho vs) (ds.drop (i + 1)) with
        | bad => simp only [h5, Res.bind_bad] at hr; cases hr
        | err c d ρ' => simp only [h5, Res.bind_err] at hr; cases hr
        | ok r' =>
        simp only [h5, Res.bind_ok, Res.pure_ok, Res.ok.injEq] at hr
        subst hr
        refine ⟨u2, eu2.sg, rfl, iu2, ?_⟩
        rw [ρu2, hu, he]
        intro u3 yv fv hu3 P3
        obtain ⟨ρu3, ku3, ou3⟩ := P3.ext.st rfl
        have eD3 : u3.H D0 = some (.lst ws) := ku3 _ _ I2.eD (by simp) rfl
        have nD3 : ¬ u3.F D0 := fun f => by
          rcases P3.ext.f2 D0 f with q | q
          · exact I2.nD q
          · rw [I2.eD] at q; cases q
        refine ⟨ws, eD3, by omega, ?_⟩
        have hv : D0 ∉ fv := fun z => by
          cases k with
          | br => exact hk.1 rfl
          | fz => have : fv = [] := P3.kd; rw [this] at z; simp at z
          | ow => have := (P3.kd.2 D0 z).1; rw [I2.eD] at this; cases this
        have hF3 : SInv G { u3 with F := fun a => u3.F a ∨ a ∈ fv } := P3.inv.freeze fun a ha => ⟨(P3.own.there a ha).2, by
          cases k with
          | br => exact absurd rfl hk.1
          | fz => have : fv = [] := P3.kd; rw [this] at ha; simp at ha
          | ow => exact (P3.kd.2 a ha).2⟩
        have fr : ∀ a ∈ fv, u2.H a = none := fun a ha => by
          cases k with
          | br => exact absurd rfl hk.1
          | fz => have : fv = [] := P3.kd; rw [this] at ha; simp at ha
          | ow => exact (P3.kd.2 a ha).1
        have rv : Rep G (fun a => u3.F a ∨ a ∈ fv) u3.H [yv] [vd] := P3.own.rep (fun a ha => .inr ha) (fun _ h => .inl h) hk.2
        have kD : ∀ a o, u3.H a = some o → a ≠ D0 → upd u3.H D0 (.lst (ws ++ [yv])) a = some o := fun a o e n => by rw [upd_ne n]; exact e
        have kfD : KeptF (fun a => u3.F a ∨ a ∈ fv) u3.H (upd u3.H D0 (.lst (ws ++ [yv]))) := fun a o f e _ => kD a o e fun z => by
          subst z
          rcases f with f | f
          · exact nD3 f
          · exact hv f
        refine ⟨fun a => u3.F a ∨ a ∈ fv, ws ++ [yv], acc ++ [vd], ⟨fun a f => .inl (P3.ext.f1 a (I2.f1 a f)), fun a f => ?_, ?_, fun a h => ?_, fun a f => ?_, tabs_upd P3.inv.tb eD3 rfl (fun φ z => by cases z), fun f => ?_, upd_same, ?_⟩, by simp; omega, r', rfl, by simp⟩
        · rcases f with f | f
          · rcases P3.ext.f2 a f with q | q
            · exact I2.f2 a q
            · exact .inr (I2.dm a q)
          · exact .inr (I2.dm a (fr a f))
        · intro a o e _ tt
          have h1 := ku3 a o (I2.kp a o e (by simp) tt) (by simp) tt
          exact kD a o h1 (apart a (by rw [e]; simp))
        · by_cases ea : a = D0
          · rw [ea]; exact hD
          · rw [upd_ne ea] at h
            exact I2.dm a (P3.ext.dm a h)
        · by_cases ea : a = D0
          · rw [ea]; exact ⟨_, upd_same, rfl⟩
          · obtain ⟨o, e, tt⟩ := hF3.dom a f
            exact ⟨o, kD a o e ea, tt⟩
        · rcases f with f | f
          · exact nD3 f
          · exact hv f
        · refine Rep.snoc ((I2.rep.keep P3.ext.f1 fun a o _ e tt => ku3 a o e (by simp) tt).keep (fun _ h => .inl h) ?_) (rv.keep (fun _ h => h) kfD)
          exact fun a o f e tt => kfD a o (.inl f) e tt
theorem r_lc {elt tg iter : Expr} {ifs : List Expr} {scope : Scope} {own : List (Str × Nat)} {pos : Pos} {s : Bool} {is : List Nat} {it : IE} {g : GE} {t : BE} {e : EE} (hc : X.calm = true) (hN : X.N.Nodup) (hi : PI X tg iter (tI G W s it)) (ok : BlkOk X.N X.env.scope scope own)
    (his : ∀ j ∈ is, j ∈ own.map (·.2))
    (hg : ∀ (s : Shared) (H : Hp) (C : Addr) (cl : List (Str × Addr)) (fp : List Addr), PG (X.blk s H scope (compEnvC scope cl C X.env) fp) tg (tG G is g)) (ht : ∀ (s : Shared) (H : Hp) (C : Addr) (cl : List (Str × Addr)) (fp : List Addr), PTs (X.blk s H scope (compEnvC scope cl C X.env) fp) ifs (tB G W0 true t))
    (he : ∀ (s : Shared) (H : Hp) (C : Addr) (cl : List (Str × Addr)) (fp : List Addr), PE (X.blk s H scope (compEnvC scope cl C X.env) fp) elt (tS G W0 true e)) (hs : ∀ x, foldedSetIterable iter X.env x = pure x := by intro _; rfl) :
    PE X (.ListComp elt [⟨tg, iter, ifs, 0⟩] scope pos) (tS G W s (xLc (own.map (·.2)) it g t e)) :=
  PE.of (pe_lc hc hN hi ok hg ht he hs) fun σ H Q h => tS_lc his h
theorem r_setlc {fl : Fl} {i : Nat} {y : Str} {py : Pos} {elt tg iter : Expr} {ifs : List Expr} {scope : Scope} {own : List (Str × Nat)} {pos spos : Pos} {s : Bool} {is : List Nat} {it : IE} {g : GE} {t : BE} {e : EE} (hc : X.calm = true) (hN : X.N.Nodup) (hy : X.N[i]? = some y) (hyl : X.env.scope.names.lookup y = some .local)
    (hsw : swapsWith (.ListComp elt [⟨tg, iter, ifs, 0⟩] scope pos) (some (.Name y py)) spos.line X.env = pure true) (hi : PI X tg iter (tI G W s it)) (ok : BlkOk X.N X.env.scope scope own)
    (his : ∀ j ∈ is, j ∈ own.map (·.2))
    (hg : ∀ (s : Shared) (H : Hp) (C : Addr) (cl : List (Str × Addr)) (fp : List Addr), PG (X.blk s H scope (compEnvC scope cl C X.env) fp) tg (tG G is g)) (ht : ∀ (s : Shared) (H : Hp) (C : Addr) (cl : List (Str × Addr)) (fp : List Addr), PTs (X.blk s H scope (compEnvC scope cl C X.env) fp) ifs (tB G W0 true t))
    (he : ∀ (s : Shared) (H : Hp) (C : Addr) (cl : List (Str × Addr)) (fp : List Addr), PE (X.blk s H scope (compEnvC scope cl C X.env) fp) elt (tS G W0 true e)) (hs : ∀ x, foldedSetIterable iter X.env x = pure x := by intro _; rfl) :
    PS X (.Assign [.Name y py] (.ListComp elt [⟨tg, iter, ifs, 0⟩] scope pos) spos) (tT G W z (sSet fl i (xLc (own.map (·.2)) it g t e))) :=
  r_set (PS.of (ps_setLc hc hN hy hyl hsw hi ok hg ht he hs) fun Dn σ H h => by
    have h : tS G W s (xLc (own.map (·.2)) it g t e) σ H (fun x H1 => gName i x σ H1 Dn.nx) := h
    exact tS_lc his h)
end
end VL
/-! VL0: defs' promises where it is known that no guard stands on the stack (repr of lists asks that). -/
namespace VL
open PySem PySem.Spec PyProof.Rows L2

structure RoomG (k : Nat) (A : Around) : Prop where
  room : Room k A
  g : A.guards = some []
theorem RoomG.mono {j k : Nat} {A : Around} (r : RoomG k A) (h : j ≤ k) : RoomG j A := ⟨r.room.mono h, r.g⟩
structure FnG (P : Program) (w : World) (K : PySem.W.Frag) (mg : Str → Option Value) (base : Heap) (k : Nat) (f : Addr) (fd : FuncData) (ps : List Str) (sp : Sp) : Prop where
  len : ∀ vs H Q E, sp vs H Q E → vs.length = ps.length
  go : ∀ (B : Around) (below : List PySem.Env) (t : Shared) (J : Hp) (as : Args) (us : List Value) (vs : List V) (R : VK) (E : XK),
    RoomG k B → Env0 P w K mg base B below t J → BindsTo t fd as (ps.zip us) → Vals vs us → sp vs J R E →
    codeAny (model P w) B (.call (.ref f) as) (CR (L2.CX P w) below P w J t R E) t
section
variable {P : Program} {w : World} {K : PySem.W.Frag} {mg : Str → Option Value} {base : Heap}
theorem FnG.mono {j k : Nat} {f : Addr} {fd : FuncData} {ps : List Str} {sp : Sp} (F : FnG P w K mg base j f fd ps sp) (h : j ≤ k) : FnG P w K mg base k f fd ps sp :=
  ⟨F.len, fun B below t J as us vs R E r => F.go B below t J as us vs R E (r.mono h)⟩
theorem FnG.imp {k : Nat} {f : Addr} {fd : FuncData} {ps : List Str} {sp sp' : Sp} (F : FnG P w K mg base k f fd ps sp) (h : ∀ vs H Q E, sp' vs H Q E → sp vs H Q E) : FnG P w K mg base k f fd ps sp' :=
  ⟨fun vs H Q E q => F.len vs H Q E (h _ _ _ _ q), fun B below t J as us vs R E r e b v q => F.go B below t J as us vs R E r e b v (h _ _ _ _ q)⟩
/-- a def of the text and its body -/
theorem fnG {x qual : Str} {st : Stmt} {f : Addr} {fd : FuncData} {N ps : List Str} {k : Nat} {sp : Sp} (F : Fun K x qual st f fd) (S : FnScope N ps (defScope st)) (len : ∀ vs H Q E, sp vs H Q E → vs.length = ps.length)
    (body : ∀ (cdv : Value) (B : Around) (below : List PySem.Env) (t : Shared) (J : Hp) (vs : List V) (R : VK) (E : XK), RoomG k (B.deeper (envOfC qual (defScope st) t.heap.objs.size f cdv)) → sp vs J R E →
      ∃ u, PSs (cxOf (L2.CX P w) P w K mg base N qual (defScope st) f cdv B below t J E) (defBody st) u ∧ u { nx := fun _ J' => R .non J', rt := R } (L2.start N vs) J) :
    FnG P w K mg base (k + 1) f fd ps sp := by
  obtain ⟨oc, od, kV, doc, pm, an, cdv, ct, osl, rfl, lk, cd⟩ := F.ex
  refine ⟨len, ?_⟩
  intro B below t J as us vs R E rg e0 hb rv hsp
  have nl := len _ _ _ _ hsp
  have KX : K.In t.heap := e0.mod.kin.keeps fun b o q => (e0.bs b o q).1
  have lim : t.heap.NoLimit := e0.mod.nolimit.keeps fun b o q => (e0.bs b o q).1
  have kinds : ∀ y ∈ ps.zip us, (defScope st).names.lookup y.1 = some .local ∨ ((defScope st).names.lookup y.1 = some .cell ∧ ((cellsFrom (t.heap.objs.size + 1) (defScope st).names []).lookup y.1).isSome = true) := by
    rintro ⟨n, v⟩ hy
    have hp := S.par n (List.of_mem_zip hy).1
    exact hp.elim .inl fun q => .inr ⟨q, PySem.W.cellsFrom_some _ _ _ (.inl q)⟩
  have inner : RoomG k (B.deeper (envOfC qual (defScope st) t.heap.objs.size f cdv)) := ⟨rg.room.deeper _, rg.g⟩
  refine codeAny_call_function rg.room.depth (KX _ _ lk) rfl S.co S.gen rfl (PySem.W.codeRec_of KX cd) (hb _ _ _ _ ?_)
  refine wpAny_newFunctionEnv_cells S.kind kinds ?_
  intro env he t1 x
  subst he
  refine ⟨lim.keeps x.toInCall.keep, codeAny_func ?_⟩
  obtain ⟨u, hu, hq⟩ := body cdv B below t J vs R E inner hsp
  have I0 := inv_start (CX := L2.CX P w) (E := E) S rg.room.hd e0 nl rv x
  have fin : ∀ {σ' : St} {J' : Hp} {v : V} {r : Value} {t' : Shared}, Inv (cxOf (L2.CX P w) P w K mg base N qual (defScope st) f cdv B below t J E) [] σ' J' t' → RelV v r → R v J' → CE below P w J t R r t' := by
    intro σ' J' v r t' I rr q
    exact ⟨v, J', I.os, I.bare, I.base, I.hok, rr, q⟩
  refine wpAny_mono (hu.run [] t1 _ J _ I0 hq) (fun fl t' h => ?_) (fun e t' h => h)
  cases fl with
  | ret r => exact let ⟨v, σ', J', I, rr, q⟩ := h; fin I rr q
  | next => exact let ⟨σ', J', I, q⟩ := h; fin (v := V.non) (r := Value.none) I rfl q
  | brk => exact let ⟨_, _, _, q⟩ := h; q.elim
  | cont => exact let ⟨_, _, _, q⟩ := h; q.elim
end
section
variable {X : Cx} {k : Nat} {f : Addr} {fd : FuncData} {ps : List Str} {sp : Sp} {E : St → XK}
theorem runG {pins : List (Addr × Obj)} {σ : St} {J : Hp} {t : Shared} {R : VK} {us : List Value} {vs : List V} (F : FnG X.prog X.w X.K X.mg X.base k f fd ps sp) (rg : RoomG k X.A) (hb : Binds X.K fd ps []) (hx : PassesAt (L2.CX X.prog X.w) X σ (E σ))
    (I : Inv X pins σ J t) (rv : Vals vs us) (q : sp vs J R (E σ)) : wpAny (model X.prog X.w) X.A (PySem.call (.ref f) us) (EP X pins σ R) X.xe t := by
  have nl : us.length = ps.length := by rw [← rv.length]; exact F.len _ _ _ _ q
  have bd := hb t us I.kIn (by simpa using nl)
  rw [List.append_nil] at bd
  refine wpAny_call (codeAny_mono (F.go X.A X.stack t J ⟨us, []⟩ us vs R (E σ) rg I.env0 bd rv q) ?_)
  intro r t' hq
  match r, hq with
  | .error e, hq => exact hx pins J t e t' I hq
  | .ok (.ret u), hq => exact I.after hq
  | .ok .next, hq => exact False.elim hq
  | .ok .brk, hq => exact False.elim hq
  | .ok .cont, hq => exact False.elim hq
theorem callG {x : Str} {p pos : Pos} {e : Expr} {es : List Expr} {t : TA} (F : FnG X.prog X.w X.K X.mg X.base k f fd ps sp) (rg : RoomG k X.A) (hg : Gl X x) (hm : X.mg x = some (.ref f)) (hk : PySem.W.keepIn X.K (.ref f) = true) (hb : Binds X.K fd ps []) (hx : ∀ σ, PassesAt (L2.CX X.prog X.w) X σ (E σ))
    (ha : PA X (e :: es) t) (hdb : (x == ("__debug__" : Str)) = false := by decide) (he : starEach (e :: es) X.env = (false, eval e X.env) :: starEach es X.env := by rfl) (hpl : (backTo pos (starEach es X.env)).any (·.1) = false := by rfl) :
    PE X (.Call (.Name x p) (e :: es) [] pos) (tCallS sp E t) := by
  constructor
  intro pins t0 σ J R I h
  refine wpAny_Call_Name_kw (ld_glob I hg hm ?_ hdb)
  refine PySem.W.callWith_K (h₀ := X.base) I.ok.mod.kin hk (thn (ha.run pos pins t0 σ J _ I h) ?_) he hpl
  rintro us t1 ⟨vs, J1, I1, rv, q⟩
  exact ⟨I1.kIn, runG F rg hb (hx σ) I1 rv q⟩
end
end VL
/-! VL10: defs: what a def promises, its body, its calls. -/
namespace VL
open PySem PySem.Spec PyProof.Rows L2

/-- a def as a function: its parameters' slots in, a datum out -/
abbrev FA := Env → Res (D × Kd)
/-- .. whose first parameter is lent for change: its new datum besides -/
abbrev FB := Env → Res (D × Kd × D)
structure ArgA (G : Gm) (np : Nat) (vs : List V) (H : Hp) (x : Stt) : Prop where
  sg : x.sg = vs.map some
  H : x.H = H
  inv : SInv G x
  len : x.rho.length = np
  o : x.o = []
def spA (G : Gm) (np : Nat) (m : FA) : Sp := fun vs H Q E => ∃ x : Stt, ArgA G np vs H x ∧ x.p = [] ∧
  match m x.rho with
  | .ok (d, k) => ∀ y v fv, y.rho = x.rho → EPost G true x y v d k fv → k ≠ .br → Q v y.H
  | .err c d _ => ∀ y cls dx, y.rho = x.rho → SInv G y → Ext true x y → ErrV G y cls dx c d → E cls dx y.H
  | .bad => False
/-- no slot is lent for change -/
def NoPn (r : Env) : Prop := ∀ s ∈ r, ∀ d : D, s ≠ some (d, Fl.pn)
/-- what an error hands back of the lent datum -/
def err1 : Env → Option D
  | [some (d1, .pn)] => some d1
  | _ => none
def spB (G : Gm) (np : Nat) (m : FB) : Sp := fun vs H Q E => ∃ (x : Stt) (d0 : D) (r : Env), ArgA G np vs H x ∧ x.rho = some (d0, .pn) :: r ∧ NoPn r ∧
  match m x.rho with
  | .ok (d, k, d1) => ∀ y v fv, y.rho = some (d1, .pn) :: r → EPost G false x y v d k fv → k ≠ .br → Q v y.H
  | .err c d ρ' => ∃ d1, err1 ρ' = some d1 ∧ ∀ y cls dx, y.rho = some (d1, .pn) :: r → SInv G y → Ext false x y → ErrV G y cls dx c d → E cls dx y.H
  | _ => False
def bodyEnv (n : Nat) (ρ : Env) : Env := ρ ++ List.replicate (n - ρ.length) none
def dA (n : Nat) (body : SE) : FA := fun ρ => match body (bodyEnv n ρ) with
  | .ok (.rt d k _) => if k = .br then .bad else .ok (d, k)
  | .ok (.nx _) => .ok (.non, .fz)
  | .err c d ρ' => .err c d ρ'
  | _ => .bad
def D.isDrw : D → Bool
  | .drw _ _ _ _ => true
  | _ => false
def pn0 (d0 : D) (ρ : Env) : Option D := match ρ[(0 : Nat)]? with
  | some (some (d1, .pn)) => if d1.isDrw = d0.isDrw then some d1 else none
  | _ => none
def dB (n : Nat) (body : SE) : FB := fun ρ => match ρ with
  | some (d0, _) :: _ => match body (bodyEnv n ρ) with
    | .ok (.rt d k ρ') => if k = .br then .bad else match pn0 d0 ρ' with
      | some d1 => .ok (d, k, d1)
      | none => .bad
    | .ok (.nx ρ') => match pn0 d0 ρ' with
      | some d1 => .ok (.non, .fz, d1)
      | none => .bad
    | .err c d ρ' => match pn0 d0 ρ' with
      | some d1 => .err c d [some (d1, .pn)]
      | none => .bad
    | _ => .bad
  | _ => .bad
theorem Slots.nones {G F H ρ σ o p b} (h : Slots G F H ρ σ o p b) : ∀ n, Slots G F H (ρ ++ List.replicate n Option.none) (σ ++ List.replicate n Option.none) o p b := by
  have key : ∀ n, Slots G F H (List.replicate n Option.none) (List.replicate n Option.none) [] [] [] := fun n => by
    induction n with
    | zero => exact .nil
    | succ n ih => exact .none ih
  intro n
  induction h with
  | nil => exact key n
  | none _ ih => exact .none ih
  | fz r _ ih => exact .fz r ih
  | ow w q _ ih => exact .ow w q ih
  | pn w q _ ih => exact .pn w q ih
  | lk w _ ih => exact .lk w ih
theorem EInv.start {z : Stt} (h : z.o = []) : EInv z z := ⟨fun _ f => .inl f, .refl, rfl, fun a ha => by rw [h] at ha; simp at ha, fun _ h => h, fun _ f => f⟩
section
variable {P : Program} {w : World} {K : PySem.W.Frag} {mg : Str → Option Value} {base : Heap} {G : Gm}
theorem entry {n np : Nat} {vs : List V} {H : Hp} {x : Stt} (h : ArgA G np vs H x) (N : List Str) (hn : N.length = n) :
    ∃ z : Stt, z.sg = L2.start N vs ∧ z.H = H ∧ SInv G z ∧ EInv z z ∧ z.rho = bodyEnv n x.rho ∧ z.F = x.F ∧ z.p = x.p ∧ z.b = x.b := by
  have hl : x.rho.length = vs.length := by rw [h.inv.sl.length, h.sg, List.length_map]
  refine ⟨⟨x.F, bodyEnv n x.rho, L2.start N vs, x.H, x.o, x.p, x.b⟩, rfl, h.H, ⟨?_, h.inv.nd, h.inv.dom, h.inv.tb⟩, EInv.start h.o, rfl, rfl, rfl, rfl⟩
  have s := h.inv.sl.nones (n - vs.length)
  rw [h.sg] at s
  show Slots G x.F x.H (x.rho ++ List.replicate (n - x.rho.length) none) (vs.map some ++ List.replicate (N.length - vs.length) none) x.o x.p x.b
  rw [hl, hn]; exact s
/-- the caller's view -/
def bkS (x y : Stt) : Stt := ⟨y.F, x.rho, x.sg, y.H, [], [], x.b⟩
/-- behind a body: back to the caller's view, where nothing was lent for change -/
theorem backA {np : Nat} {vs : List V} {H : Hp} {x z y : Stt} (h : ArgA G np vs H x) (hp : x.p = []) (hz : z.H = H) (hF : z.F = x.F) (zp : z.p = x.p) (st : SStep G z z y) :
    SInv G (bkS x y) ∧ Ext true x (bkS x y) := by
  have zH : z.H = x.H := hz.trans h.H.symm
  have f1 : ∀ a, x.F a → y.F a := fun a f => st.f1 a (by rw [hF]; exact f)
  have kp : Kept [] x.H y.H := by have := st.ent.kp; rw [zp, hp, zH] at this; exact this
  have f2 : ∀ a, y.F a → x.F a ∨ x.H a = none := fun a f => by have := st.ent.f1 a f; rwa [hF, zH] at this
  have dm : ∀ a, y.H a = none → x.H a = none := fun a q => by have := st.ent.dm a q; rwa [zH] at this
  have sl : Slots G y.F y.H x.rho x.sg [] [] x.b := by
    have := h.inv.sl
    rw [h.o, hp] at this
    refine this.keep f1 (fun a o f e t => kp a o e (by simp) t) fun a ha => ⟨fun f => ?_, fun o e t => kp a o e (by simp) t⟩
    obtain ⟨nf, o, e, _⟩ := this.there a ha
    rcases f2 a f with q | q
    · exact nf q
    · rw [e] at q; cases q
  have nd := h.inv.nd
  rw [h.o, hp] at nd
  exact ⟨⟨sl, nd, st.inv.dom, st.inv.tb⟩, ⟨rfl, kp.mono (by simp), f1, f2, fun a ha => by simp [bkS] at ha, hp.symm, rfl, dm, fun _ d _ e _ => ⟨d, e, fun _ => rfl⟩, fun _ => ⟨rfl, kp, h.o.symm⟩⟩⟩
theorem kd_back {x z y : Stt} {k : Kd} {fv : List Addr} {o p b : List Addr} (ho : o = []) (hz : z.H = x.H) (hx : ∀ a, a ∈ p ∨ a ∈ b → x.H a ≠ none) (h : KdS z k fv) : KdOk x ⟨y.F, y.rho, y.sg, y.H, o, p, b⟩ k fv := by
  subst ho
  cases k with
  | br => exact h.elim
  | fz => exact h
  | ow =>
    refine ⟨h.1, fun a ha => ?_⟩
    have n : x.H a = none := by rw [← hz]; exact h.2 a ha
    exact ⟨n, by simp, fun q => hx a (.inl q) n, fun q => hx a (.inr q) n⟩
theorem def_okA {x qual : Str} {st : Stmt} {f : Addr} {fd : FuncData} {N ps : List Str} {k n : Nat} {body : SE} (F : Fun K x qual st f fd) (S : FnScope N ps (defScope st)) (hn : N.length = n)
    (hb : ∀ (cdv : Value) (A : Around) (outer : List PySem.Env) (s : Shared) (H : Hp) (E : XK) (z : Stt), RoomG k (A.deeper (envOfC qual (defScope st) s.heap.objs.size f cdv)) →
      PSs (cxOf (L2.CX P w) P w K mg base N qual (defScope st) f cdv A outer s H E) (defBody st) (tT G (fun cls d _ H => E cls d H) z body)) :
    FnG P w K mg base (k + 1) f fd ps (spA G ps.length (dA n body)) := by
  refine fnG F S (fun vs H Q E h => ?_) (fun cdv A outer s H vs Q E hr h => ?_)
  · obtain ⟨x, h, _⟩ := h
    have := h.inv.sl.length
    rw [h.sg, List.length_map, h.len] at this
    exact this.symm
  · obtain ⟨x, h, hp, q⟩ := h
    obtain ⟨z, z1, z2, z3, z4, z5, z6, z7, z8⟩ := entry h N hn
    refine ⟨_, hb cdv A outer s H E z hr, z, z1, z2, z3, z4, ?_⟩
    rw [z5]
    unfold dA at q
    have zH : z.H = x.H := z2.trans h.H.symm
    have th : ∀ a, a ∈ ([] : List Addr) ∨ a ∈ x.b → x.H a ≠ none := fun a ha e => by
      rcases ha with z | z
      · simp at z
      · obtain ⟨_, o, e', _⟩ := h.inv.there (.inr (.inr z)); rw [e] at e'; cases e'
    cases e : body (bodyEnv n x.rho) with
    | bad => simp only [e] at q
    | err c d ρ' =>
      simp only [e] at q
      intro y cls dx hy sy hev
      obtain ⟨i1, e1⟩ := backA h hp z2 z6 z7 sy
      exact q (bkS x y) cls dx rfl i1 e1 hev
    | ok fl =>
      simp only [e] at q
      cases fl with
      | bk ρ' => simp only at q
      | ct ρ' => simp only at q
      | nx ρ' =>
        simp only at q
        intro y hy sy
        obtain ⟨i1, e1⟩ := backA h hp z2 z6 z7 sy
        exact q (bkS x y) .non [] rfl ⟨i1, e1, .fz (.atom rfl .nil), rfl, .fz⟩ (by simp)
      | rt d k ρ' =>
        simp only at q
        intro y v fv hy sy w kd
        obtain ⟨i1, e1⟩ := backA h hp z2 z6 z7 sy
        by_cases hk : k = .br
        · simp only [hk] at q; exact q.elim
        · simp only [if_neg hk] at q
          exact q (bkS x y) v fv rfl ⟨i1, e1, w, kd_back (y := bkS x y) rfl zH th kd, .ne hk⟩ hk
theorem Own.len {F : Addr → Prop} {H : Hp} {v : V} {d : D} {fp : List Addr} (h : Own G F H v d fp) (n : fp ≠ []) : fp.length = if d.isDrw = true then 2 else 1 := by
  cases h with
  | fz _ => exact absurd rfl n
  | ow f ob => cases d <;> first | rfl | exact False.elim ob
  | drw _ _ _ _ _ _ => rfl
theorem Slots.noPn {F H ρ σ o p b} (h : Slots G F H ρ σ o p b) (n : NoPn ρ) : p = [] := by
  induction h with
  | nil => rfl
  | none _ ih => exact ih fun s hs => n s (List.mem_cons_of_mem _ hs)
  | fz _ _ ih => exact ih fun s hs => n s (List.mem_cons_of_mem _ hs)
  | ow _ _ _ ih => exact ih fun s hs => n s (List.mem_cons_of_mem _ hs)
  | pn _ _ _ _ => exact absurd rfl (n _ List.mem_cons_self _)
  | lk _ _ ih => exact ih fun s hs => n s (List.mem_cons_of_mem _ hs)
def bkB (x y : Stt) (d1 : D) (r : Env) : Stt := ⟨y.F, some (d1, .pn) :: r, x.sg, y.H, [], x.p, x.b⟩
theorem backB {np n : Nat} {vs : List V} {H : Hp} {x z y : Stt} {d0 d1 : D} {r : Env} (h : ArgA G np vs H x) (hr : x.rho = some (d0, .pn) :: r) (nr : NoPn r) (hz : z.H = H) (hF : z.F = x.F) (zp : z.p = x.p) (zρ : z.rho = bodyEnv n x.rho) (zσ : z.sg[(0 : Nat)]? = x.sg[(0 : Nat)]?) (st : SStep G z z y) (hd : pn0 d0 y.rho = some d1) :
    SInv G (bkB x y d1 r) ∧ Ext false x (bkB x y d1 r) := by
  have zH : z.H = x.H := hz.trans h.H.symm
  have f1 : ∀ a, x.F a → y.F a := fun a f => st.f1 a (by rw [hF]; exact f)
  have kp : Kept x.p x.H y.H := by have := st.ent.kp; rw [zp, zH] at this; exact this
  have f2 : ∀ a, y.F a → x.F a ∨ x.H a = none := fun a f => by have := st.ent.f1 a f; rwa [hF, zH] at this
  have dm : ∀ a, y.H a = none → x.H a = none := fun a q => by have := st.ent.dm a q; rwa [zH] at this
  have e0 : z.rho[(0 : Nat)]? = some (some (d0, .pn)) := by rw [zρ, hr]; rfl
  obtain ⟨d1', e1, _, s1⟩ := st.lk 0 d0 .pn e0 (.inr rfl)
  have ed : d1' = d1 ∧ d1.isDrw = d0.isDrw := by
    unfold pn0 at hd
    rw [e1] at hd
    simp only at hd
    split at hd
    · rename_i hh; cases hd; exact ⟨rfl, hh⟩
    · cases hd
  obtain ⟨rfl, hdr⟩ := ed
  have hs := h.inv.sl
  rw [hr, h.o] at hs
  have hx := h.inv
  obtain ⟨xF, xρ, xσ, xH, xo, xp, xb⟩ := x
  obtain ⟨yF, yρ, yσ, yH, yo, yp, yb⟩ := y
  simp only at *
  subst hr
  cases hs with
  | @pn v _ fp ρ σ _ p _ w n0 hs =>
  have pe : p = [] := hs.noPn nr
  subst pe
  have ysl := st.inv.sl
  simp only at ysl
  have yp0 : yp = fp := by have := st.ent.p1; simp only at this; rw [this, zp]; simp
  cases ysl with
  | nil => simp at e1
  | none _ => simp at e1
  | fz _ _ => simp at e1
  | ow _ _ _ => simp at e1
  | lk _ _ => simp at e1
  | @pn v' d' fp' ρt σt _ pt _ w' n' hst =>
    simp only [List.getElem?_cons_zero, Option.some.injEq, Prod.mk.injEq, and_true] at e1
    subst e1
    have ev : v' = v := by
      rw [zσ] at s1
      simpa using s1
    subst ev
    have efp : fp' = fp := by
      have l1 := w.len n0
      have l2 := w'.len n'
      rw [hdr] at l2
      have : fp'.length = fp.length := by rw [l1, l2]
      have h3 : fp' ++ pt = fp := yp0
      have h4 := congrArg (List.take fp'.length) h3
      rw [List.take_left, this, List.take_length] at h4
      exact h4
    subst efp
    have nd := hx.nd
    have kf : KeptF xF xH yH := fun a o f e t => kp a o e (fun q => by
      simp only [List.append_nil] at q
      exact (w.there a q).1 f) t
    have disb : ∀ a ∈ xb, a ∉ fp' := fun a ha q => by
      have : (xo ++ ((fp' ++ []) ++ xb)).Nodup := nd
      simp only [List.nodup_append, List.mem_append] at this
      exact this.2.1.2.2 a (.inl q) a ha rfl
    have ho : xo = [] := h.o
    refine ⟨⟨.pn w' n' (hs.keep f1 kf fun a ha => ?_), ?_, st.inv.dom, st.inv.tb⟩, ⟨rfl, ?_, f1, f2, fun a ha => by simp [bkB] at ha, rfl, rfl, dm, fun j d fl e hf => ?_, by simp⟩⟩
    · rcases ha with q | q | q
      · simp at q
      · simp at q
      · refine ⟨fun f => ?_, fun o e t => kp a o e (fun z => disb a q (by simpa using z)) t⟩
        obtain ⟨nf, o, e, _⟩ := hs.there a (.inr (.inr q))
        rcases f2 a f with c | c
        · exact nf c
        · rw [e] at c; cases c
    · simp only [bkB]; rw [ho] at nd; exact nd
    · simp only [ho, List.nil_append]; exact kp
    · cases j with
      | zero =>
        simp only [List.getElem?_cons_zero, Option.some.injEq, Prod.mk.injEq] at e
        obtain ⟨rfl, rfl⟩ := e
        exact ⟨d', rfl, fun q => by cases q⟩
      | succ j =>
        refine ⟨d, ?_, fun _ => rfl⟩
        simp only [bkB, List.getElem?_cons_succ] at e ⊢
        exact e
theorem def_okB {x qual : Str} {st : Stmt} {f : Addr} {fd : FuncData} {N ps : List Str} {k n : Nat} {body : SE} (F : Fun K x qual st f fd) (S : FnScope N ps (defScope st)) (hn : N.length = n)
    (hb : ∀ (cdv : Value) (A : Around) (outer : List PySem.Env) (s : Shared) (H : Hp) (E : XK) (z : Stt), RoomG k (A.deeper (envOfC qual (defScope st) s.heap.objs.size f cdv)) →
      PSs (cxOf (L2.CX P w) P w K mg base N qual (defScope st) f cdv A outer s H E) (defBody st) (tT G (fun cls d _ H => E cls d H) z body)) :
    FnG P w K mg base (k + 1) f fd ps (spB G ps.length (dB n body)) := by
  refine fnG F S (fun vs H Q E h => ?_) (fun cdv A outer s H vs Q E hr h => ?_)
  · obtain ⟨x, _, _, h, _⟩ := h
    have := h.inv.sl.length
    rw [h.sg, List.length_map, h.len] at this
    exact this.symm
  · obtain ⟨x, d0, r, h, hρ, nr, q⟩ := h
    obtain ⟨z, z1, z2, z3, z4, z5, z6, z7, z8⟩ := entry h N hn
    refine ⟨_, hb cdv A outer s H E z hr, z, z1, z2, z3, z4, ?_⟩
    rw [z5]
    have zσ : z.sg[(0 : Nat)]? = x.sg[(0 : Nat)]? := by
      rw [z1, h.sg]
      have hl : x.rho.length = vs.length := by rw [h.inv.sl.length, h.sg, List.length_map]
      unfold L2.start
      cases vs with
      | nil => rw [hρ] at hl; simp at hl
      | cons v vs => rfl
    unfold dB at q
    rw [hρ] at q
    simp only at q
    rw [← hρ] at q
    have zH : z.H = x.H := z2.trans h.H.symm
    have th : ∀ a, a ∈ x.p ∨ a ∈ x.b → x.H a ≠ none := fun a ha e => by
      obtain ⟨_, o, e', _⟩ := h.inv.there (.inr ha); rw [e] at e'; cases e'
    cases e : body (bodyEnv n x.rho) with
    | bad => simp only [e] at q
    | err c d ρ' =>
      simp only [e] at q
      intro y cls dx hy sy hev
      cases hp : pn0 d0 ρ' with
      | none => simp only [hp] at q
      | some d1 =>
        simp only [hp] at q
        obtain ⟨d1', e1', q⟩ := q
        cases e1'
        obtain ⟨i1, e1⟩ := backB (n := n) h hρ nr z2 z6 z7 z5 zσ sy (by rw [hy]; exact hp)
        exact q (bkB x y d1 r) cls dx rfl i1 e1 hev
    | ok fl =>
      simp only [e] at q
      cases fl with
      | bk ρ' => simp only at q
      | ct ρ' => simp only at q
      | nx ρ' =>
        simp only at q
        intro y hy sy
        cases hp : pn0 d0 ρ' with
        | none => simp only [hp] at q
        | some d1 =>
          simp only [hp] at q
          obtain ⟨i1, e1⟩ := backB (n := n) h hρ nr z2 z6 z7 z5 zσ sy (by rw [hy]; exact hp)
          exact q (bkB x y d1 r) .non [] rfl ⟨i1, e1, .fz (.atom rfl .nil), rfl, .fz⟩ (by simp)
      | rt d k ρ' =>
        simp only at q
        intro y v fv hy sy w kd
        by_cases hk : k = .br
        · simp only [hk] at q; exact q.elim
        · simp only [if_neg hk] at q
          cases hp : pn0 d0 ρ' with
          | none => simp only [hp] at q
          | some d1 =>
            simp only [hp] at q
            obtain ⟨i1, e1⟩ := backB (n := n) h hρ nr z2 z6 z7 z5 zσ sy (by rw [hy]; exact hp)
            exact q (bkB x y d1 r) v fv rfl ⟨i1, e1, w, kd_back (y := bkB x y d1 r) rfl zH th kd, .ne hk⟩ hk
end
end VL
/-! VL11: calls of defs. -/
namespace VL
open PySem PySem.Spec PyProof.Rows L2

theorem Own.uniq {G : Gm} {F : Addr → Prop} {H : Hp} {v : V} {d : D} {fp fp' : List Addr} (w : Own G F H v d fp) (w' : Own G F H v d fp') : fp = fp' := by
  have key : ∀ {a : Addr} {d : D}, ¬ F a → Objs G F H a d → Rep G F H [.ref a] [d] → False := fun f ob r => by
    cases r <;> first | (exact f ‹_›) | (exact False.elim ob) | (rename_i h _; simp [atomD] at h)
  cases w with
  | fz r =>
    cases w' with
    | fz _ => rfl
    | ow f ob => exact (key f ob r).elim
    | drw f1 f2 f3 _ _ q => cases r; rename_i h _; simp [atomD] at h
  | ow f ob =>
    cases w' with
    | fz r => exact (key f ob r).elim
    | ow _ _ => rfl
    | drw _ _ _ _ _ _ => exact False.elim ob
  | drw f1 f2 f3 _ _ q =>
    cases w' with
    | fz r => cases r; rename_i h _; simp [atomD] at h
    | ow _ ob => exact False.elim ob
    | drw _ _ _ _ _ q' =>
      have e := q.1.symm.trans q'.1
      simp at e
      rw [e.1]
theorem Slots.ports {G F H ρ σ o p b} (h : Slots G F H ρ σ o p b) : (o ++ (p ++ b)).Nodup → ∃ port : Nat → List Addr,
    (∀ (i : Nat) (d : D) (fl : Fl), ρ[i]? = some (some (d, fl)) → ∃ v, σ[i]? = some (some v) ∧ Own G F H v d (port i)) ∧ (∀ i j, i ≠ j → ∀ a ∈ port i, a ∉ port j) ∧ ∀ i, ∀ a ∈ port i, a ∈ o ∨ a ∈ p ∨ a ∈ b := by
  -- one more slot in front
  have step : ∀ {x : Option (D × Fl)} {y : Option V} {ρ : Env} {σ : St} {o p b o' p' b' fp : List Addr} {port : Nat → List Addr},
      (∀ d fl, x = some (d, fl) → ∃ v, y = some v ∧ Own G F H v d fp) →
      (∀ a ∈ fp, a ∈ o' ∨ a ∈ p' ∨ a ∈ b') → (∀ a ∈ fp, ¬ (a ∈ o ∨ a ∈ p ∨ a ∈ b)) → (∀ a, a ∈ o ∨ a ∈ p ∨ a ∈ b → a ∈ o' ∨ a ∈ p' ∨ a ∈ b') →
      ((∀ (i : Nat) (d : D) (fl : Fl), ρ[i]? = some (some (d, fl)) → ∃ v, σ[i]? = some (some v) ∧ Own G F H v d (port i)) ∧ (∀ i j, i ≠ j → ∀ a ∈ port i, a ∉ port j) ∧ ∀ i, ∀ a ∈ port i, a ∈ o ∨ a ∈ p ∨ a ∈ b) →
      ∃ port : Nat → List Addr, (∀ (i : Nat) (d : D) (fl : Fl), (x :: ρ)[i]? = some (some (d, fl)) → ∃ v, (y :: σ)[i]? = some (some v) ∧ Own G F H v d (port i)) ∧ (∀ i j, i ≠ j → ∀ a ∈ port i, a ∉ port j) ∧ ∀ i, ∀ a ∈ port i, a ∈ o' ∨ a ∈ p' ∨ a ∈ b' := by
    intro x y ρ σ o p b o' p' b' fp port hx h1 h2 h3 ⟨p1, p2, p3⟩
    refine ⟨fun i => match i with | 0 => fp | i + 1 => port i, fun i d fl e => ?_, fun i j ne a ha hb => ?_, fun i a ha => ?_⟩
    · cases i with
      | zero => simp at e; obtain ⟨v, e1, w⟩ := hx d fl e; exact ⟨v, by simp [e1], w⟩
      | succ i => simpa using p1 i d fl (by simpa using e)
    · cases i with
      | zero =>
        cases j with
        | zero => exact ne rfl
        | succ j => exact h2 a ha (p3 j a hb)
      | succ i =>
        cases j with
        | zero => exact h2 a hb (p3 i a ha)
        | succ j => exact p2 i j (fun e => ne (by rw [e])) a ha hb
    · cases i with
      | zero => exact h1 a ha
      | succ i => exact h3 a (p3 i a ha)
  induction h with
  | nil => exact fun _ => ⟨fun _ => [], fun i d fl e => by simp at e, fun _ _ _ a ha => by simp at ha, fun _ a ha => by simp at ha⟩
  | none _ ih =>
    intro nd
    obtain ⟨port, q⟩ := ih nd
    exact step (fp := []) (fun _ _ e => by cases e) (fun a ha => by simp at ha) (fun a ha => by simp at ha) (fun _ h => h) q
  | fz r _ ih =>
    intro nd
    obtain ⟨port, q⟩ := ih nd
    exact step (fp := []) (fun _ _ e => by cases e; exact ⟨_, rfl, .fz r⟩) (fun a ha => by simp at ha) (fun a ha => by simp at ha) (fun _ h => h) q
  | @ow v d fp ρ σ o p b w n _ ih =>
    intro nd
    rw [List.append_assoc, List.nodup_append] at nd
    obtain ⟨port, q⟩ := ih nd.2.1
    refine step (fp := fp) (fun _ _ e => by cases e; exact ⟨_, rfl, w⟩) (fun a ha => .inl (by simp [ha])) (fun a ha z => nd.2.2 a ha a (by simpa using z) rfl) (fun a z => ?_) q
    rcases z with z | z | z
    · exact .inl (by simp [z])
    · exact .inr (.inl z)
    · exact .inr (.inr z)
  | @pn v d fp ρ σ o p b w n _ ih =>
    intro nd
    have nd1 : (o ++ (fp ++ (p ++ b))).Nodup := by rwa [List.append_assoc] at nd
    have nd2 := (List.nodup_append.mp nd1)
    have nd3 := (List.nodup_append.mp nd2.2.1)
    obtain ⟨port, q⟩ := ih (List.nodup_append.mpr ⟨nd2.1, nd3.2.1, fun a ha c hc => nd2.2.2 a ha c (by simp at hc ⊢; exact .inr hc)⟩)
    refine step (fp := fp) (fun _ _ e => by cases e; exact ⟨_, rfl, w⟩) (fun a ha => .inr (.inl (by simp [ha]))) (fun a ha z => ?_) (fun a z => ?_) q
    · rcases z with z | z | z
      · exact nd2.2.2 a z a (by simp [ha]) rfl
      · exact nd3.2.2 a ha a (by simp [z]) rfl
      · exact nd3.2.2 a ha a (by simp [z]) rfl
    · rcases z with z | z | z
      · exact .inl z
      · exact .inr (.inl (by simp [z]))
      · exact .inr (.inr z)
  | @lk v d fp ρ σ o p b w _ ih =>
    intro nd
    have nd2 := (List.nodup_append.mp nd)
    have nd3 := (List.nodup_append.mp nd2.2.1)
    have nd4 := (List.nodup_append.mp nd3.2.1)
    obtain ⟨port, q⟩ := ih (List.nodup_append.mpr ⟨nd2.1, List.nodup_append.mpr ⟨nd3.1, nd4.2.1, fun a ha c hc => nd3.2.2 a ha c (by simp [hc])⟩, fun a ha c hc => nd2.2.2 a ha c (by
        rcases List.mem_append.mp hc with q | q
        · simp [q]
        · simp [q])⟩)
    refine step (fp := fp) (fun _ _ e => by cases e; exact ⟨_, rfl, w⟩) (fun a ha => .inr (.inr (by simp [ha]))) (fun a ha z => ?_) (fun a z => ?_) q
    · rcases z with z | z | z
      · exact nd2.2.2 a z a (by simp [ha]) rfl
      · exact nd3.2.2 a z a (by simp [ha]) rfl
      · exact nd4.2.2 a ha a z rfl
    · rcases z with z | z | z
      · exact .inl z
      · exact .inr (.inl z)
      · exact .inr (.inr (by simp [z]))

/-! ### entering a def -/
def argS (dk : D × Kd) : Slot := some (dk.1, if dk.2 = .br then .lk else .fz)
/-- arguments that can be handed on: at most one is lent; what is new can be frozen -/
def argsOk (l : List (D × Kd)) : Bool := decide ((l.filter fun dk => decide (dk.2 = .br)).length ≤ 1) && l.all fun dk => decide (dk.2 = .br) || dk.1.fzOk
theorem AOk.enter {G : Gm} {x y : Stt} {vs : List V} {l : List (D × Kd)} (h : AOk G x y vs l) (h1 : (l.filter fun dk => decide (dk.2 = .br)).length ≤ 1) (h2 : (l.all fun dk => decide (dk.2 = .br) || dk.1.fzOk) = true) :
    ∃ fs b : List Addr, (∀ a ∈ fs, ((∃ o, y.H a = some o ∧ isTbl o = false) ∧ a ∉ y.o ∧ a ∉ y.p ∧ a ∉ y.b) ∧ x.H a = none) ∧ (∀ a ∈ b, a ∈ y.o ∨ a ∈ y.p ∨ a ∈ y.b) ∧ b.Nodup ∧
      (∀ a ∈ b, ∃ dk v fv, dk ∈ l ∧ dk.2 = .br ∧ Src y v dk.1 .br ∧ Own G y.F y.H v dk.1 fv ∧ a ∈ fv) ∧
      Slots G (fun a => y.F a ∨ a ∈ fs) y.H (l.map argS) (vs.map some) [] [] b := by
  induction h with
  | nil => exact ⟨[], [], by simp, by simp, by simp, by simp, .nil⟩
  | @cons v d k fv vs dks w kd sr r ih =>
    simp only [List.all_cons, Bool.and_eq_true, Bool.or_eq_true, decide_eq_true_eq] at h2
    cases k with
    | br =>
      have h1' : (dks.filter fun dk => decide (dk.2 = Kd.br)) = [] := by
        simp only [List.filter_cons, decide_true, if_true, List.length_cons] at h1
        exact List.eq_nil_of_length_eq_zero (by omega)
      obtain ⟨fs, b, q1, q2, q3, q4, q5⟩ := ih (by rw [h1']; simp) h2.2
      have hb : b = [] := by
        cases b with
        | nil => rfl
        | cons a b =>
          obtain ⟨dk, _, _, hm, he, _⟩ := q4 a List.mem_cons_self
          have : dk ∈ dks.filter fun dk => decide (dk.2 = Kd.br) := List.mem_filter.mpr ⟨hm, by simp [he]⟩
          rw [h1'] at this; simp at this
      subst hb
      refine ⟨fs, fv ++ [], q1, fun a ha => kd a (by simpa using ha), by simpa using w.nodup, fun a ha => ⟨(d, .br), v, fv, List.mem_cons_self, rfl, sr, w, by simpa using ha⟩, ?_⟩
      refine .lk (w.keep (fun _ h => .inl h) .refl fun a ha => ⟨fun f => ?_, fun o e _ => e⟩) q5
      rcases f with f | f
      · exact (w.there a ha).1 f
      · obtain ⟨⟨_, n1, n2, n3⟩, _⟩ := q1 a f
        rcases kd a ha with z | z | z
        · exact n1 z
        · exact n2 z
        · exact n3 z
    | fz =>
      obtain ⟨fs, b, q1, q2, q3, q4, q5⟩ := ih (by simpa [List.filter_cons] using h1) h2.2
      obtain rfl : fv = [] := kd
      refine ⟨fs, b, q1, q2, q3, fun a ha => ?_, .fz (w.rep (by simp) (fun _ h => .inl h) ?_) q5⟩
      · obtain ⟨dk, v', fv', m, r⟩ := q4 a ha
        exact ⟨dk, v', fv', List.mem_cons_of_mem _ m, r⟩
      · rcases h2.1 with z | z
        · cases z
        · exact z
    | ow =>
      obtain ⟨fs, b, q1, q2, q3, q4, q5⟩ := ih (by simpa [List.filter_cons] using h1) h2.2
      refine ⟨fv ++ fs, b, fun a ha => ?_, q2, q3, fun a ha => ?_, .fz (w.rep (fun a ha => .inr (by simp [ha])) (fun _ h => .inl h) ?_) (q5.keep (fun a h => ?_) .refl fun a ha => ⟨fun f => ?_, fun o e _ => e⟩)⟩
      · rcases List.mem_append.mp ha with q | q
        · exact ⟨⟨(w.there a q).2, (kd.2 a q).2⟩, (kd.2 a q).1⟩
        · exact q1 a q
      · obtain ⟨dk, v', fv', m, r⟩ := q4 a ha
        exact ⟨dk, v', fv', List.mem_cons_of_mem _ m, r⟩
      · rcases h2.1 with z | z
        · cases z
        · exact z
      · rcases h with h | h
        · exact .inl h
        · exact .inr (by simp [h])
      · rcases ha with z | z | z
        · simp at z
        · simp at z
        · rcases f with f | f
          · exact (q5.there a (.inr (.inr z))).1 (.inl f)
          · rcases List.mem_append.mp f with f | f
            · have n := (kd.2 a f).2
              rcases q2 a z with c | c | c
              · exact n.1 c
              · exact n.2.1 c
              · exact n.2.2 c
            · exact (q5.there a (.inr (.inr z))).1 (.inr f)
/-- the callee's state, nothing being lent for change -/
theorem enterA {G : Gm} {s : Bool} {x y : Stt} {vs : List V} {l : List (D × Kd)} (hy : SInv G y) (h : AOk G x y vs l) (hl : argsOk l = true) :
    ∃ c : Stt, ArgA G l.length vs y.H c ∧ c.rho = l.map argS ∧ c.p = [] ∧ (∀ a, y.F a → c.F a) ∧ ∀ a, c.F a → y.F a ∨ (x.H a = none ∧ a ∉ y.o ∧ a ∉ y.p ∧ a ∉ y.b) := by
  simp only [argsOk, Bool.and_eq_true, decide_eq_true_eq] at hl
  obtain ⟨fs, b, q1, q2, q3, q4, q5⟩ := h.enter hl.1 hl.2
  refine ⟨⟨fun a => y.F a ∨ a ∈ fs, l.map argS, vs.map some, y.H, [], [], b⟩, ⟨rfl, rfl, ⟨q5, by simpa using q3, fun a f => ?_, hy.tb⟩, by simp, rfl⟩, rfl, rfl, fun _ h => .inl h, fun a f => ?_⟩
  · rcases f with f | f
    · exact hy.dom a f
    · exact (q1 a f).1.1
  · rcases f with f | f
    · exact .inl f
    · exact .inr ⟨(q1 a f).2, (q1 a f).1.2⟩
theorem leaveA {G : Gm} {s : Bool} {x y c u : Stt} (hx : SInv G x) (hy : SInv G y) (e : Ext s x y) (hcH : c.H = y.H) (f1 : ∀ a, y.F a → c.F a) (f2 : ∀ a, c.F a → y.F a ∨ (x.H a = none ∧ a ∉ y.o ∧ a ∉ y.p ∧ a ∉ y.b)) (iu : SInv G u) (eu : Ext true c u) :
    SInv G { y with F := u.F, H := u.H } ∧ Ext s x { y with F := u.F, H := u.H } := by
  obtain ⟨_, ku, _⟩ := eu.st rfl
  rw [hcH] at ku
  have hf : ∀ a, y.F a → u.F a := fun a f => eu.f1 a (f1 a f)
  have hdm : ∀ a, u.H a = none → y.H a = none := fun a q => by have := eu.dm a q; rwa [hcH] at this
  have inv : SInv G { y with F := u.F, H := u.H } := by
    refine ⟨hy.sl.keep hf (fun a o f e t => ku a o e (by simp) t) fun a ha => ⟨fun f => ?_, fun o e t => ku a o e (by simp) t⟩, hy.nd, iu.dom, iu.tb⟩
    obtain ⟨nf, o, e', _⟩ := hy.sl.there a ha
    rcases eu.f2 a f with q | q
    · rcases f2 a q with q | q
      · exact nf q
      · rcases ha with z | z | z
        · exact q.2.1 z
        · exact q.2.2.1 z
        · exact q.2.2.2 z
    · rw [hcH, e'] at q; cases q
  refine ⟨inv, ⟨e.sg, e.kp.trans (m' := []) ku (by simp), fun a f => hf a (e.f1 a f), fun a f => ?_, e.o1, e.p1, e.b1, fun a q => e.dm a (hdm a q), e.lk, fun q => ?_⟩⟩
  · rcases eu.f2 a f with q | q
    · rcases f2 a q with q | q
      · exact e.f2 a q
      · exact .inr q.1
    · rw [hcH] at q; exact .inr (e.dm a q)
  · obtain ⟨r1, k1, o1⟩ := e.st q
    exact ⟨r1, k1.trans ku (by simp), o1⟩
theorem leaveA_post {G : Gm} {s : Bool} {x y c u : Stt} {v : V} {d : D} {k : Kd} {fv : List Addr} (hx : SInv G x) (hy : SInv G y) (e : Ext s x y) (hcH : c.H = y.H) (f1 : ∀ a, y.F a → c.F a) (f2 : ∀ a, c.F a → y.F a ∨ (x.H a = none ∧ a ∉ y.o ∧ a ∉ y.p ∧ a ∉ y.b)) (P : EPost G true c u v d k fv) (hk : k ≠ .br) :
    EPost G s x { y with F := u.F, H := u.H } v d k fv := by
  obtain ⟨i1, e1⟩ := leaveA hx hy e hcH f1 f2 P.inv P.ext
  refine ⟨i1, e1, P.own, ?_, .ne hk⟩
  have kd := P.kd
  cases k with
  | br => exact absurd rfl hk
  | fz => exact kd
  | ow =>
    refine ⟨kd.1, fun a ha => ?_⟩
    have n : y.H a = none := by rw [← hcH]; exact (kd.2 a ha).1
    refine ⟨e.dm a n, fun z => ?_, fun z => ?_, fun z => ?_⟩
    · obtain ⟨_, o, e', _⟩ := hy.there (.inl z); rw [n] at e'; cases e'
    · obtain ⟨_, o, e', _⟩ := hy.there (.inr (.inl z)); rw [n] at e'; cases e'
    · obtain ⟨_, o, e', _⟩ := hy.there (.inr (.inr z)); rw [n] at e'; cases e'
def xCall (m : FA) (f : AE) : EE := fun ρ => do
  let (l, ρ1) ← f ρ
  if argsOk l = true then
    match m (l.map argS) with
    | .ok (d, k) => if k = .br then .bad else .ok (d, k, ρ1)
    | .err c d _ => .err c d ρ1
    | .bad => .bad
  else .bad
section
variable {X : Cx} {G : Gm} {W : WX}
theorem tS_call {np : Nat} {m : FA} {s : Bool} {f : AE} {σ H Q} (h : tS G W s (xCall m f) σ H Q) (hn : ∀ ρ l ρ1, f ρ = .ok (l, ρ1) → l.length = np) : tA G W s f σ H fun vs H1 => spA G np m vs H1 Q (WE W σ) := by
  obtain ⟨x, rfl, rfl, hx, q⟩ := h
  refine ⟨x, rfl, rfl, hx, ?_⟩
  unfold xCall at q
  cases e : f x.rho with
  | bad => simp only [e, Res.bind_bad] at q
  | err c d ρ' => simp only [e, Res.bind_err] at q; exact q
  | ok r =>
    obtain ⟨l, ρ1⟩ := r
    simp only [e, Res.bind_ok] at q
    intro y vs hρ iy ey ay
    by_cases hl : argsOk l = true
    · rw [if_pos hl] at q
      obtain ⟨c, hc, hcρ, hcp, f1, f2⟩ := enterA (s := s) iy ay hl
      rw [hn _ _ _ e] at hc
      refine ⟨c, hc, hcp, ?_⟩
      rw [hcρ]
      cases e2 : m (l.map argS) with
      | bad => simp only [e2] at q
      | err c' d ρ' =>
        simp only [e2] at q
        intro u cls dx hu iu eu hev
        obtain ⟨i1, e1⟩ := leaveA hx iy ey hc.H f1 f2 iu eu
        exact q { y with F := u.F, H := u.H } cls dx hρ i1 e1 hev
      | ok r2 =>
        obtain ⟨d, k⟩ := r2
        simp only [e2] at q
        intro u v fv hu P hk
        rw [if_neg hk] at q
        exact q { y with F := u.F, H := u.H } v fv hρ (leaveA_post hx iy ey hc.H f1 f2 P hk)
    · rw [if_neg hl] at q; exact q.elim
/-- as many arguments as written -/
def ALen (n : Nat) (f : AE) : Prop := ∀ ρ l ρ1, f ρ = .ok (l, ρ1) → l.length = n
theorem alen_nil : ALen 0 aN := fun ρ l ρ1 h => by cases h; rfl
theorem alen_cons {n : Nat} {s : Bool} {f : EE} {g : AE} (h : ALen n g) : ALen (n + 1) (aC s f g) := fun ρ l ρ1 e => by
  unfold aC at e
  cases h1 : f ρ with
  | bad => simp [h1] at e
  | err c d ρ' => simp [h1] at e
  | ok r =>
    obtain ⟨d, k, ρ2⟩ := r
    simp only [h1, Res.bind_ok] at e
    split at e
    · cases e
    · cases h2 : g ρ2 with
      | bad => simp [h2] at e
      | err c d ρ' => simp [h2] at e
      | ok r2 =>
        obtain ⟨l2, ρ3⟩ := r2
        simp only [h2, Res.bind_ok, Res.pure_ok, Res.ok.injEq, Prod.mk.injEq] at e
        obtain ⟨rfl, _⟩ := e
        simp [h _ _ _ h2]
theorem r_call {x : Str} {p pos : Pos} {e : Expr} {es : List Expr} {k : Nat} {fa : Addr} {fd : FuncData} {ps : List Str} {m : FA} {s : Bool} {f : AE} (tk : Takes X W) (F : FnG X.prog X.w X.K X.mg X.base k fa fd ps (spA G ps.length m)) (hr : RoomG k X.A) (hg : Gl X x) (hm : X.mg x = some (.ref fa)) (hk : PySem.W.keepIn X.K (.ref fa) = true) (hb : Binds X.K fd ps [])
    (ha : PA X (e :: es) (tA G W s f)) (hn : ALen ps.length f) (hdb : (x == ("__debug__" : Str)) = false := by decide) (he : starEach (e :: es) X.env = (false, eval e X.env) :: starEach es X.env := by rfl) (hpl : (backTo pos (starEach es X.env)).any (·.1) = false := by rfl) :
    PE X (.Call (.Name x p) (e :: es) [] pos) (tS G W s (xCall m f)) :=
  PE.of (callG F hr hg hm hk hb (fun σ => passAt tk σ) ha hdb he hpl) fun σ H Q h => tS_call h hn
end
end VL
/-! VL12: calls of defs that change their first argument. -/
namespace VL
open PySem PySem.Spec PyProof.Rows L2

def ownFl (fl : Fl) : Bool := decide (fl = .ow) || decide (fl = .pn)
def callMK (m : FB) (i : Nat) (l : List (D × Kd)) (ρ1 : Env) : Res (D × Kd × Env) :=
  match ρ1[i]? with
  | some (some (d0, fl1)) =>
    if ownFl fl1 = true ∧ argsOk l = true ∧ (l.all fun dk => decide (dk.2 ≠ .br) || decide (dk.1.isDrw ≠ d0.isDrw)) = true then
      match m (some (d0, .pn) :: l.map argS) with
      | .ok (d, k, d1) => if k = .br then .bad else .ok (d, k, ρ1.set i (some (d1, fl1)))
      | .err c d ρ' => match err1 ρ' with
        | some d1 => .err c d (ρ1.set i (some (d1, fl1)))
        | none => .bad
      | _ => .bad
    else .bad
  | _ => .bad
def xCallM (m : FB) (i : Nat) (f : AE) : EE := fun ρ => match ρ[i]? with
  | some (some (_, fl)) => if ownFl fl = true then (do
      let (l, ρ1) ← f ρ
      callMK m i l ρ1) else .bad
  | _ => .bad
theorem noPn_args (l : List (D × Kd)) : NoPn (l.map argS) := fun s hs d e => by
  obtain ⟨dk, _, rfl⟩ := List.mem_map.mp hs
  unfold argS at e
  split at e <;> cases e
theorem ownFl_iff {fl : Fl} (h : ownFl fl = true) : fl = .ow ∨ fl = .pn := by
  cases fl <;> simp [ownFl] at h <;> simp
theorem enterB {G : Gm} {x y : Stt} {vs : List V} {l : List (D × Kd)} {i : Nat} {v0 : V} {d0 : D} {fl : Fl} (hy : SInv G y) (h : AOk G x y vs l) (hl : argsOk l = true) (hi : y.rho[i]? = some (some (d0, fl))) (hfl : fl = .ow ∨ fl = .pn) (hv : y.sg[i]? = some (some v0))
    (hd : (l.all fun dk => decide (dk.2 ≠ .br) || decide (dk.1.isDrw ≠ d0.isDrw)) = true) :
    ∃ (c : Stt) (fp : List Addr), ArgA G (l.length + 1) (v0 :: vs) y.H c ∧ c.rho = some (d0, .pn) :: l.map argS ∧ c.p = fp ∧ (∀ a, y.F a → c.F a) ∧ (∀ a, c.F a → y.F a ∨ (x.H a = none ∧ a ∉ y.o ∧ a ∉ y.p ∧ a ∉ y.b)) ∧
      Own G y.F y.H v0 d0 fp ∧ fp ≠ [] ∧ (∀ a ∈ fp, a ∈ y.o ∨ a ∈ y.p) := by
  simp only [argsOk, Bool.and_eq_true, decide_eq_true_eq] at hl
  obtain ⟨fs, b, q1, q2, q3, q4, q5⟩ := h.enter hl.1 hl.2
  obtain ⟨v0', fp, e1, w, _, n0, hm⟩ := hy.sl.get hi
  rw [hv] at e1; cases e1
  have n0 := n0 hfl
  obtain ⟨port, p1, p2, p3⟩ := hy.sl.ports hy.nd
  have pe : ∀ {j : Nat} {d : D} {flj : Fl} {v : V} {fv : List Addr}, y.rho[j]? = some (some (d, flj)) → y.sg[j]? = some (some v) → Own G y.F y.H v d fv → fv = port j := by
    intro j d flj v fv e2 e3 w2
    obtain ⟨v', e4, w3⟩ := p1 j d flj e2
    rw [e3] at e4; cases e4
    exact w2.uniq w3
  have hfp := pe hi hv w
  have dis : ∀ a ∈ fp, a ∉ b := fun a ha hb => by
    obtain ⟨dk, v, fv, m, hbr, sr, wv, hav⟩ := q4 a hb
    obtain ⟨j, flj, s1, s2, s3⟩ := sr rfl
    have hj : i ≠ j := fun e => by
      subst e
      rw [hi] at s1; cases s1
      have := List.all_eq_true.mp hd dk m
      simp [hbr] at this
    have := pe s1 s2 wv
    rw [this] at hav
    rw [hfp] at ha
    exact p2 i j hj a ha hav
  have nin : ∀ a ∈ fp, a ∉ fs := fun a ha hf => by
    obtain ⟨⟨_, n1, n2, n3⟩, _⟩ := q1 a hf
    rcases hm a ha with z | z | z
    · exact n1 z.2
    · exact n2 z.2
    · exact n3 z.2
  refine ⟨⟨fun a => y.F a ∨ a ∈ fs, some (d0, .pn) :: l.map argS, (v0 :: vs).map some, y.H, [], fp ++ [], b⟩, fp, ⟨rfl, rfl, ⟨.pn (w.keep (fun _ h => .inl h) .refl fun a ha => ⟨fun f => ?_, fun o e _ => e⟩) n0 q5, ?_, fun a f => ?_, hy.tb⟩, by simp, rfl⟩, rfl, by simp, fun _ h => .inl h, fun a f => ?_, w, n0, fun a ha => ?_⟩
  · rcases f with f | f
    · exact (w.there a ha).1 f
    · exact nin a ha f
  · simp only [List.nil_append, List.append_nil]
    exact List.nodup_append.mpr ⟨w.nodup, q3, fun a ha c hc e => dis a ha (e ▸ hc)⟩
  · rcases f with f | f
    · exact hy.dom a f
    · exact (q1 a f).1.1
  · rcases f with f | f
    · exact .inl f
    · exact .inr ⟨(q1 a f).2, (q1 a f).1.2⟩
  · rcases hm a ha with z | z | z
    · exact .inl z.2
    · exact .inr z.2
    · obtain ⟨z, _⟩ := z; rcases hfl with q | q <;> (rw [q] at z; cases z)
theorem leaveB0 {G : Gm} {s : Bool} {x y c u : Stt} {i : Nat} {v0 : V} {d0 d1 : D} {fp : List Addr} {fl : Fl} {l : List (D × Kd)} {vs : List V} (hx : SInv G x) (hy : SInv G y) (e : Ext s x y) (hi : y.rho[i]? = some (some (d0, fl))) (hfl : fl = .ow ∨ fl = .pn) (hv : y.sg[i]? = some (some v0))
    (hc : ArgA G (l.length + 1) (v0 :: vs) y.H c) (hcp : c.p = fp) (f1 : ∀ a, y.F a → c.F a) (f2 : ∀ a, c.F a → y.F a ∨ (x.H a = none ∧ a ∉ y.o ∧ a ∉ y.p ∧ a ∉ y.b)) (w : Own G y.F y.H v0 d0 fp) (n0 : fp ≠ []) (hm : ∀ a ∈ fp, a ∈ y.o ∨ a ∈ y.p)
    (hu : u.rho = some (d1, .pn) :: l.map argS) (iu : SInv G u) (eu : Ext false c u) :
    SInv G { y with F := u.F, H := u.H, rho := y.rho.set i (some (d1, fl)) } ∧ Ext false x { y with F := u.F, H := u.H, rho := y.rho.set i (some (d1, fl)) } := by
  have hcH := hc.H
  have kp : Kept fp y.H u.H := by
    have := eu.kp
    rw [hc.o, hcp, hcH] at this
    simpa using this
  have hf : ∀ a, y.F a → u.F a := fun a f => eu.f1 a (f1 a f)
  have hdm : ∀ a, u.H a = none → y.H a = none := fun a q => by have := eu.dm a q; rwa [hcH] at this
  have nuF : ∀ a, a ∈ y.o ∨ a ∈ y.p ∨ a ∈ y.b → ¬ u.F a := fun a ha f => by
    obtain ⟨nf, o, e', _⟩ := hy.sl.there a ha
    rcases eu.f2 a f with q | q
    · rcases f2 a q with q | q
      · exact nf q
      · rcases ha with z | z | z
        · exact q.2.1 z
        · exact q.2.2.1 z
        · exact q.2.2.2 z
    · rw [hcH, e'] at q; cases q
  have hm3 : ∀ a ∈ fp, a ∈ y.o ∨ a ∈ y.p ∨ a ∈ y.b := fun a ha => (hm a ha).elim .inl fun z => .inr (.inl z)
  -- the lent object behind the call
  have w' : Own G u.F u.H v0 d1 fp := by
    have us := iu.sl
    have hσ : u.sg = (v0 :: vs).map some := eu.sg.trans hc.sg
    have hp : u.p = fp := eu.p1.trans hcp
    rw [hu, hσ, hp] at us
    have gen : ∀ {ρ σ o p b}, Slots G u.F u.H ρ σ o p b → ρ = some (d1, .pn) :: l.map argS → σ = some v0 :: vs.map some → Own G u.F u.H v0 d1 p := by
      intro ρ σ o p b hs e1 e2
      cases hs with
      | nil => cases e1
      | none _ => cases e1
      | fz _ _ => cases e1
      | ow _ _ _ => cases e1
      | lk _ _ => cases e1
      | pn w' n' hs =>
        cases e1
        cases e2
        have := hs.noPn (noPn_args l)
        rw [this, List.append_nil]
        exact w'
    exact gen us rfl rfl
  have s1 : Slots G u.F y.H y.rho y.sg y.o y.p y.b := hy.sl.keep hf .refl fun a ha => ⟨nuF a ha, fun o e _ => e⟩
  have w1 : Own G u.F y.H v0 d0 fp := w.keep hf .refl fun a ha => ⟨nuF a (hm3 a ha), fun o e _ => e⟩
  have s2 := s1.mut (H' := u.H) hy.nd hi hfl hv w1 n0 w' fun a ob e n t => kp a ob e n t
  have hlen : i < y.rho.length := (List.getElem?_eq_some_iff.mp hi).1
  refine ⟨⟨s2, hy.nd, iu.dom, iu.tb⟩, ⟨e.sg, e.kp.trans kp fun a ha => ?_, fun a f => hf a (e.f1 a f), fun a f => ?_, e.o1, e.p1, e.b1, fun a q => e.dm a (hdm a q), fun j d' fl' e1 hf' => ?_, fun q => by cases q⟩⟩
  · rcases hm a ha with q | q
    · rcases e.o1 a q with q | q
      · exact .inl (by simp [q])
      · exact .inr q
    · rw [e.p1] at q; exact .inl (by simp [q])
  · rcases eu.f2 a f with q | q
    · rcases f2 a q with q | q
      · exact e.f2 a q
      · exact .inr q.1
    · rw [hcH] at q; exact .inr (e.dm a q)
  · obtain ⟨d2, e2, k2⟩ := e.lk j d' fl' e1 hf'
    by_cases hj : i = j
    · subst hj
      rw [hi] at e2; cases e2
      refine ⟨d1, List.getElem?_set_self hlen, fun z => ?_⟩
      rcases hfl with q | q <;> (rw [q] at z; cases z)
    · exact ⟨d2, by rw [List.getElem?_set_ne hj]; exact e2, k2⟩
theorem leaveB {G : Gm} {s : Bool} {x y c u : Stt} {i : Nat} {v0 v : V} {d0 d1 d : D} {k : Kd} {fv fp : List Addr} {fl : Fl} {l : List (D × Kd)} {vs : List V} (hx : SInv G x) (hy : SInv G y) (e : Ext s x y) (hi : y.rho[i]? = some (some (d0, fl))) (hfl : fl = .ow ∨ fl = .pn) (hv : y.sg[i]? = some (some v0))
    (hc : ArgA G (l.length + 1) (v0 :: vs) y.H c) (hcp : c.p = fp) (f1 : ∀ a, y.F a → c.F a) (f2 : ∀ a, c.F a → y.F a ∨ (x.H a = none ∧ a ∉ y.o ∧ a ∉ y.p ∧ a ∉ y.b)) (w : Own G y.F y.H v0 d0 fp) (n0 : fp ≠ []) (hm : ∀ a ∈ fp, a ∈ y.o ∨ a ∈ y.p)
    (hu : u.rho = some (d1, .pn) :: l.map argS) (P : EPost G false c u v d k fv) (hk : k ≠ .br) :
    EPost G false x { y with F := u.F, H := u.H, rho := y.rho.set i (some (d1, fl)) } v d k fv := by
  obtain ⟨i1, e1⟩ := leaveB0 hx hy e hi hfl hv hc hcp f1 f2 w n0 hm hu P.inv P.ext
  have hcH := hc.H
  refine ⟨i1, e1, P.own, ?_, .ne hk⟩
  have kd := P.kd
  cases k with
  | br => exact absurd rfl hk
  | fz => exact kd
  | ow =>
    refine ⟨kd.1, fun a ha => ?_⟩
    have n : y.H a = none := by rw [← hcH]; exact (kd.2 a ha).1
    refine ⟨e.dm a n, fun z => ?_, fun z => ?_, fun z => ?_⟩
    · obtain ⟨_, o, e', _⟩ := hy.there (.inl z); rw [n] at e'; cases e'
    · obtain ⟨_, o, e', _⟩ := hy.there (.inr (.inl z)); rw [n] at e'; cases e'
    · obtain ⟨_, o, e', _⟩ := hy.there (.inr (.inr z)); rw [n] at e'; cases e'
section
variable {X : Cx} {G : Gm} {W : WX}
theorem tS_callM {np i : Nat} {m : FB} {s : Bool} {f : AE} {σ H Q} (h : tS G W false (xCallM m i f) σ H Q) (hn : ALen np f) : tCons (tVar i) (tA G W s f) σ H fun vs H1 => spB G (np + 1) m vs H1 Q (WE W σ) := by
  obtain ⟨x, rfl, rfl, hx, q⟩ := h
  unfold xCallM at q
  cases e0 : x.rho[i]? with
  | none => simp only [e0] at q
  | some sl =>
  cases sl with
  | none => simp only [e0] at q
  | some df =>
  obtain ⟨d00, fl0⟩ := df
  simp only [e0] at q
  by_cases hfl0 : ownFl fl0 = true
  · rw [if_pos hfl0] at q
    obtain ⟨v0, fp0, ev, _⟩ := hx.sl.get e0
    refine ⟨v0, ev, x, rfl, rfl, hx, ?_⟩
    cases e : f x.rho with
    | bad => simp only [e, Res.bind_bad] at q
    | err c d ρ' =>
      simp only [e, Res.bind_err] at q
      exact fun y cls dx hρ iy ey hev => q y cls dx hρ iy (ey.weak fun z => by cases z) hev
    | ok r =>
      obtain ⟨l, ρ1⟩ := r
      simp only [e, Res.bind_ok] at q
      intro y vs hρ iy ey ay
      unfold callMK at q
      cases e1 : ρ1[i]? with
      | none => simp only [e1] at q
      | some sl1 =>
      cases sl1 with
      | none => simp only [e1] at q
      | some df1 =>
      obtain ⟨d0, fl⟩ := df1
      simp only [e1] at q
      by_cases hc : ownFl fl = true ∧ argsOk l = true ∧ (l.all fun dk => decide (dk.2 ≠ .br) || decide (dk.1.isDrw ≠ d0.isDrw)) = true
      · rw [if_pos hc] at q
        have hi : y.rho[i]? = some (some (d0, fl)) := by rw [hρ]; exact e1
        have hv : y.sg[i]? = some (some v0) := by rw [ey.sg]; exact ev
        obtain ⟨c, fp, a1, a2, a3, a4, a5, a6, a7, a8⟩ := enterB iy ay hc.2.1 hi (ownFl_iff hc.1) hv hc.2.2
        have a1' := a1
        rw [hn _ _ _ e] at a1
        refine ⟨c, d0, l.map argS, a1, a2, noPn_args l, ?_⟩
        rw [a2]
        cases e2 : m (some (d0, .pn) :: l.map argS) with
        | bad => simp only [e2] at q
        | err c' d ρ' =>
          simp only [e2] at q
          cases h1 : err1 ρ' with
          | none => simp only [h1] at q
          | some d1 =>
            simp only [h1] at q
            refine ⟨d1, h1, fun u cls dx hu iu eu hev => ?_⟩
            obtain ⟨i1, e1'⟩ := leaveB0 hx iy ey hi (ownFl_iff hc.1) hv a1' a3 a4 a5 a6 a7 a8 hu iu eu
            exact q { y with F := u.F, H := u.H, rho := y.rho.set i (some (d1, fl)) } cls dx (by rw [hρ]) i1 e1' hev
        | ok r2 =>
          obtain ⟨d, k, d1⟩ := r2
          simp only [e2] at q
          intro u v fv hu P hk
          rw [if_neg hk] at q
          have R := leaveB hx iy ey hi (ownFl_iff hc.1) hv a1' a3 a4 a5 a6 a7 a8 hu P hk
          exact q { y with F := u.F, H := u.H, rho := y.rho.set i (some (d1, fl)) } v fv (by rw [hρ]) R
      · rw [if_neg hc] at q; exact q.elim
  · rw [if_neg hfl0] at q; exact q.elim
theorem r_callM {x : Str} {p pos : Pos} {e : Expr} {es : List Expr} {k i : Nat} {fa : Addr} {fd : FuncData} {ps : List Str} {np : Nat} {m : FB} {s : Bool} {f : AE} (tk : Takes X W) (F : FnG X.prog X.w X.K X.mg X.base k fa fd ps (spB G ps.length m)) (hr : RoomG k X.A) (hg : Gl X x) (hm : X.mg x = some (.ref fa)) (hk : PySem.W.keepIn X.K (.ref fa) = true) (hb : Binds X.K fd ps [])
    (he0 : PE X e (tVar i)) (ha : PA X es (tA G W s f)) (hn : ALen np f) (hps : ps.length = np + 1 := by rfl) (hdb : (x == ("__debug__" : Str)) = false := by decide) (he : starEach (e :: es) X.env = (false, eval e X.env) :: starEach es X.env := by rfl) (hpl : (backTo pos (starEach es X.env)).any (·.1) = false := by rfl) :
    PE X (.Call (.Name x p) (e :: es) [] pos) (tS G W false (xCallM m i f)) :=
  PE.of (callG F hr hg hm hk hb (fun σ => passAt tk σ) (pa_cons he0 ha he) hdb he hpl) fun σ H Q h => by
    have := tS_callM (s := s) h hn
    rw [← hps] at this
    exact this
end
end VL
/-! VL13: functions on data for the built-in operations. -/
namespace VL
open PySem PySem.Spec PyProof.Rows L2

section
variable {G : Gm} {F : Addr → Prop} {H : Hp} {v w : V} {fv fw : List Addr}
theorem Own.int_of {i : Int} (h : Own G F H v (.int i) fv) : v = .int i := by
  cases h with
  | fz r => exact r.int_of
  | ow _ ob => exact False.elim ob
theorem Own.bl_of {i : Bool} (h : Own G F H v (.bl i) fv) : v = .bl i := by
  cases h with
  | fz r => exact r.bl_of
  | ow _ ob => exact False.elim ob
theorem Own.str_of {i : Str} (h : Own G F H v (.str i) fv) : v = .str i := by
  cases h with
  | fz r => exact r.str_of
  | ow _ ob => exact False.elim ob
theorem Own.non_of (h : Own G F H v .non fv) : v = .non := by
  cases h with
  | fz r => exact r.non_of
  | ow _ ob => exact False.elim ob
/-- is it None? -/
def D.isNon : D → Bool
  | .non => true
  | _ => false
theorem Own.isNon {d : D} (h : Own G F H v d fv) : decide (v = .non) = d.isNon := by
  cases d
  case non => rw [h.non_of]; rfl
  all_goals
    simp only [D.isNon, decide_eq_false_iff_not]
    rintro rfl
    cases h with
    | fz r => cases r; rename_i h _; simp [atomD] at h
end

/-! ### numbers -/
def d2I (g : Int → Int → Option (D × Kd)) : D → D → Option (D × Kd)
  | .int i, .int j => g i j
  | _, _ => none
theorem d2I_eq {g : Int → Int → Option (D × Kd)} {a b : D} {r : D × Kd} (h : d2I g a b = some r) : ∃ i j, a = .int i ∧ b = .int j ∧ g i j = some r := by
  unfold d2I at h
  split at h
  · exact ⟨_, _, rfl, rfl, h⟩
  · cases h
theorem fn_int2 {G : Gm} {r : R2} {g : Int → Int → Option (D × Kd)} (hr : ∀ i j e k Q H, g i j = some (e, k) → k = .fz ∧ ∃ v, atomD v = some e ∧ (Q v H → r (.int i) (.int j) H Q)) : FnD2 G r (d2I g) := by
  intro F H v w a b fv fw d k Q hd ha hb hg q
  obtain ⟨i, j, rfl, rfl, hg⟩ := d2I_eq hg
  rw [ha.int_of, hb.int_of]
  obtain ⟨rfl, u, hu, f⟩ := hr i j d k Q H hg
  exact f (q F H u [] (.atom hd hu))
def gI (f : Int → Int → Int) : Int → Int → Option (D × Kd) := fun i j => some (.int (f i j), .fz)
def gB (f : Int → Int → Bool) : Int → Int → Option (D × Kd) := fun i j => some (.bl (f i j), .fz)
def gIf (c : Int → Int → Prop) [∀ i j, Decidable (c i j)] (f : Int → Int → Int) : Int → Int → Option (D × Kd) := fun i j => if c i j then some (.int (f i j), .fz) else none
theorem fn_gI {G : Gm} {f : Int → Int → Int} : FnD2 G (rI0 fun i j => .int (f i j)) (d2I (gI f)) := fn_int2 fun i j e k Q H h => by
  simp only [gI, Option.some.injEq, Prod.mk.injEq] at h
  obtain ⟨rfl, rfl⟩ := h
  exact ⟨rfl, .int (f i j), rfl, fun q => ⟨i, j, rfl, rfl, q⟩⟩
theorem fn_gB {G : Gm} {f : Int → Int → Bool} : FnD2 G (rI0 fun i j => .bl (f i j)) (d2I (gB f)) := fn_int2 fun i j e k Q H h => by
  simp only [gB, Option.some.injEq, Prod.mk.injEq] at h
  obtain ⟨rfl, rfl⟩ := h
  exact ⟨rfl, .bl (f i j), rfl, fun q => ⟨i, j, rfl, rfl, q⟩⟩
theorem fn_gIf {G : Gm} {c : Int → Int → Prop} [∀ i j, Decidable (c i j)] {C : Int → Int → Prop} (hc : ∀ i j, c i j → C i j) {f : Int → Int → Int} : FnD2 G (rI C fun i j => .int (f i j)) (d2I (gIf c f)) := fn_int2 fun i j e k Q H h => by
  unfold gIf at h
  split at h
  · rename_i hh
    simp only [Option.some.injEq, Prod.mk.injEq] at h
    obtain ⟨rfl, rfl⟩ := h
    exact ⟨rfl, .int (f i j), rfl, fun q => ⟨i, j, rfl, rfl, hc _ _ hh, q⟩⟩
  · cases h
def dSub := d2I (gI fun i j => i - j)
def dLt := d2I (gB fun i j => decide (i < j))
def dLe := d2I (gB fun i j => decide (i ≤ j))
def dGt := d2I (gB fun i j => decide (j < i))
def dGe := d2I (gB fun i j => decide (j ≤ i))
def smallI (i : Int) : Prop := -(2 ^ 64) < i ∧ i < 2 ^ 64
instance {i : Int} : Decidable (smallI i) := by unfold smallI; infer_instance
instance {i j : Int} : Decidable (CDivN i j) := by unfold CDivN; infer_instance
instance {i j : Int} : Decidable (CPow i j) := by unfold CPow; infer_instance
instance {i j : Int} : Decidable (CMul i j) := by unfold CMul; infer_instance
/-- floor division by an open number below 2 ^ 30 -/
def dFdiv := d2I (gIf CDivN Int.fdiv)
def dMod := d2I (gIf (fun _ j => j ≠ 0) Int.fmod)
def dPow := d2I (gIf CPow fun i j => i ^ j.toNat)
section
variable {X : Cx} {G : Gm}
theorem o_sub : OpR X (binaryOp .Sub) (rI0 fun i j => .int (i - j)) ∧ FnD2 G (rI0 fun i j => .int (i - j)) dSub := ⟨op_sub, fn_gI⟩
theorem o_fdiv : OpR X (binaryOp .FloorDiv) (rI CDivN fun i j => .int (i.fdiv j)) ∧ FnD2 G (rI CDivN fun i j => .int (i.fdiv j)) dFdiv := ⟨op_fdivN, fn_gIf fun _ _ h => h⟩
theorem o_mod : OpR X (binaryOp .Mod) (rI (fun _ j => j ≠ 0) fun i j => .int (i.fmod j)) ∧ FnD2 G (rI (fun _ j => j ≠ 0) fun i j => .int (i.fmod j)) dMod := ⟨op_modN, fn_gIf fun _ _ h => h⟩
theorem o_pow : OpR X (binaryOp .Pow) (rI CPow fun i j => .int (i ^ j.toNat)) ∧ FnD2 G (rI CPow fun i j => .int (i ^ j.toNat)) dPow := ⟨op_pow, fn_gIf fun _ _ h => h⟩
theorem o_lt : OpR X (compareOp .Lt) (rI0 fun i j => .bl (decide (i < j))) ∧ FnD2 G (rI0 fun i j => .bl (decide (i < j))) dLt := ⟨op_lt, fn_gB⟩
theorem o_le : OpR X (compareOp .LtE) (rI0 fun i j => .bl (decide (i ≤ j))) ∧ FnD2 G (rI0 fun i j => .bl (decide (i ≤ j))) dLe := ⟨op_le, fn_gB⟩
theorem o_gt : OpR X (compareOp .Gt) (rI0 fun i j => .bl (decide (j < i))) ∧ FnD2 G (rI0 fun i j => .bl (decide (j < i))) dGt := ⟨op_gt, fn_gB⟩
theorem o_ge : OpR X (compareOp .GtE) (rI0 fun i j => .bl (decide (j ≤ i))) ∧ FnD2 G (rI0 fun i j => .bl (decide (j ≤ i))) dGe := ⟨op_ge, fn_gB⟩

/-! ### + and * -/
def dAdd : D → D → Option (D × Kd)
  | .int i, .int j => some (.int (i + j), .fz)
  | .str x, .str y => if x.length + y.length ≤ sizeLine then some (.str (x ++ y), .fz) else none
  | .lst a, .lst b => if a.length + b.length ≤ sizeLine then some (.lst (a ++ b), .ow) else none
  | .tup a, .tup b => if a ≠ [] ∧ b ≠ [] ∧ a.length + b.length ≤ sizeLine then some (.tup (a ++ b), .fz) else none
  | _, _ => none
theorem Own.lstM {F : Addr → Prop} {H : Hp} {v : V} {ds : List D} {fp : List Addr} (h : Own G F H v (.lst ds) fp) : ∃ a ws, v = .ref a ∧ H a = some (.lst ws) ∧ ws.length ≤ sizeLine ∧ Rep G F H ws ds := by
  cases h with
  | fz r =>
    cases r with
    | atom e _ => cases v <;> simp [atomD] at e
    | lst f e z r1 _ => exact ⟨_, _, rfl, e, z, r1⟩
  | ow f ob =>
    obtain ⟨ws, e, z, r⟩ := ob
    exact ⟨_, ws, rfl, e, z, r⟩
/-- lists but the script -/
def rAddAll (K : PySem.W.Frag) : R2 := fun x y H Q => rI0 (fun i j => .int (i + j)) x y H Q ∨ (∃ i j, x = .str i ∧ y = .str j ∧ i.length + j.length ≤ sizeLine ∧ Q (.str (i ++ j)) H) ∨ rCat x y H Q ∨ rCatT K x y H Q
theorem op_addAll : OpR X (binaryOp .Add) (rAddAll X.K) := op_add.or (op_add_str.or (op_cat.or op_catT))
theorem fn_add (hK : X.K = G.K) : FnD2 G (rAddAll X.K) dAdd := by
  intro F H v w a b fv fw d k Q hd ha hb hg q
  unfold dAdd at hg
  split at hg
  · cases hg
    rw [ha.int_of, hb.int_of]
    exact .inl ⟨_, _, rfl, rfl, q F H _ [] (.atom hd rfl)⟩
  · split at hg
    · rename_i hz
      cases hg
      rw [ha.str_of, hb.str_of]
      exact .inr (.inl ⟨_, _, rfl, rfl, hz, q F H _ [] (.atom hd rfl)⟩)
    · cases hg
  · split at hg
    · rename_i hz
      cases hg
      obtain ⟨a, ws, rfl, e1, z1, r1⟩ := ha.lstM
      obtain ⟨b, us, rfl, e2, z2, r2⟩ := hb.lstM
      have hz' : ws.length + us.length ≤ sizeLine := by rw [r1.length, r2.length]; exact hz
      exact .inr (.inr (.inl ⟨a, b, ws, us, rfl, rfl, e1, e2, hz', fun p hp => q _ _ _ _ (.lst hd hp (by simpa using hz') (r1.append r2))⟩))
    · cases hg
  · split at hg
    · rename_i hz
      cases hg
      obtain ⟨a, ws, rfl, e1, z1, r1, _⟩ := ha.tup_of hK
      obtain ⟨b, us, rfl, e2, z2, r2, _⟩ := hb.tup_of hK
      have hz' : ws.length + us.length ≤ sizeLine := by rw [r1.length, r2.length]; exact hz.2.2
      refine .inr (.inr (.inr ⟨a, b, ws, us, rfl, rfl, e1, e2, fun z => hz.1 ?_, hz', ?_⟩))
      · subst z; cases r1; rfl
      · have n2 : us ≠ [] := fun z => hz.2.1 (by subst z; cases r2; rfl)
        exact ⟨fun z => absurd z n2, fun _ p hp => q _ _ _ _ (.tup hd hp (by simpa using hz') (r1.append r2))⟩
    · cases hg
  · cases hg

def dMul : D → D → Option (D × Kd)
  | .int i, .int j => if CMul i j then some (.int (i * j), .fz) else none
  | .lst a, .int k => if -(2 ^ 63) ≤ k ∧ k < 2 ^ 63 ∧ a.length * k.toNat ≤ sizeLine then some (.lst (List.replicate k.toNat a).flatten, .ow) else none
  | _, _ => none
theorem Rep.rep {F : Addr → Prop} {H : Hp} {vs : List V} {ds : List D} (h : Rep G F H vs ds) : ∀ k, Rep G F H (List.replicate k vs).flatten (List.replicate k ds).flatten
  | 0 => .nil
  | k + 1 => by
    simp only [List.replicate_succ, List.flatten_cons]
    exact h.append (Rep.rep h k)
theorem len_rep {α : Type} (l : List α) : ∀ k, (List.replicate k l).flatten.length = l.length * k
  | 0 => by simp
  | k + 1 => by simp only [List.replicate_succ, List.flatten_cons, List.length_append, len_rep l k]; rw [Nat.mul_succ]; omega
def rMulAll : R2 := fun x y H Q => rI CMul (fun i j => .int (i * j)) x y H Q ∨ rRep x y H Q
theorem op_mulAll : OpR X (binaryOp .Mult) rMulAll := op_mul.or op_rep
theorem fn_mul : FnD2 G rMulAll dMul := by
  intro F H v w a b fv fw d k Q hd ha hb hg q
  unfold dMul at hg
  split at hg
  · split at hg
    · rename_i hc
      cases hg
      rw [ha.int_of, hb.int_of]
      exact .inl ⟨_, _, rfl, rfl, hc, q F H _ [] (.atom hd rfl)⟩
    · cases hg
  · rename_i l0 k0
    split at hg
    · rename_i hz
      cases hg
      obtain ⟨a, ws, rfl, e1, z1, r1⟩ := ha.lstM
      rw [hb.int_of]
      have hz' : ws.length * k0.toNat ≤ sizeLine := by rw [r1.length]; exact hz.2.2
      exact .inr ⟨a, _, ws, rfl, rfl, e1, hz.1, hz.2.1, hz', fun p hp => q _ _ _ _ (.lst hd hp (by rw [len_rep]; exact hz') (r1.rep _))⟩
    · cases hg
  · cases hg
theorem o_add (hK : X.K = G.K) : OpR X (binaryOp .Add) (rAddAll X.K) ∧ FnD2 G (rAddAll X.K) dAdd := ⟨op_addAll, fn_add hK⟩
theorem o_mul : OpR X (binaryOp .Mult) rMulAll ∧ FnD2 G rMulAll dMul := ⟨op_mulAll, fn_mul⟩

/-! ### data without objects of classes -/
end
mutual
def toPy : D → Option PyData
  | .non => some .none
  | .bl b => some (.bool b)
  | .int i => some (.int i)
  | .str x => some (.str x)
  | .tup l => (toPyL l).map .tuple
  | .lst l => (toPyL l).map .list
  | _ => none
def toPyL : List D → Option (List PyData)
  | [] => some []
  | d :: ds => match toPy d, toPyL ds with
    | some p, some ps => some (p :: ps)
    | _, _ => none
end
section
variable {X : Cx} {G : Gm} {F : Addr → Prop} {H : Hp}
theorem Rep.dp {vs : List V} {ds : List D} (h : Rep G F H vs ds) {K : PySem.W.Frag} (hK : K = G.K) : ∀ {ps : List PyData}, toPyL ds = some ps → DpAll K H vs ps := by
  subst hK
  have cut : ∀ {d : D} {ds : List D} {ps : List PyData}, toPyL (d :: ds) = some ps → ∃ p qs, ps = p :: qs ∧ toPy d = some p ∧ toPyL ds = some qs := by
    intro d ds ps e
    simp only [toPyL] at e
    cases e1 : toPy d with
    | none => rw [e1] at e; cases e
    | some p =>
      rw [e1] at e
      cases e2 : toPyL ds with
      | none => rw [e2] at e; cases e
      | some qs => rw [e2] at e; cases e; exact ⟨p, qs, rfl, rfl, rfl⟩
  induction h with
  | nil => intro ps e; simp [toPyL] at e; subst e; exact .nil
  | @atom v d vs ds hv _ ih =>
    intro ps e
    obtain ⟨p, qs, rfl, e1, e2⟩ := cut e
    refine .cons ?_ (ih e2)
    cases v <;> simp [atomD] at hv <;> subst hv <;> simp [toPy] at e1 <;> subst e1
    · exact .non
    · exact .bl _
    · exact .int _
    · exact .str _
  | tup f e z r1 _ ih1 ih2 =>
    intro ps e
    obtain ⟨p, qs, rfl, e1, e2⟩ := cut e
    simp only [toPy, Option.map_eq_some_iff] at e1
    obtain ⟨ws, e3, rfl⟩ := e1
    exact .cons (.tup (.of ‹_›) (ih1 e3)) (ih2 e2)
  | tupK f z r1 _ ih1 ih2 =>
    intro ps e
    obtain ⟨p, qs, rfl, e1, e2⟩ := cut e
    simp only [toPy, Option.map_eq_some_iff] at e1
    obtain ⟨ws, e3, rfl⟩ := e1
    exact .cons (.tup (.inr f) (ih1 e3)) (ih2 e2)
  | lst f e z r1 _ ih1 ih2 =>
    intro ps e
    obtain ⟨p, qs, rfl, e1, e2⟩ := cut e
    simp only [toPy, Option.map_eq_some_iff] at e1
    obtain ⟨ws, e3, rfl⟩ := e1
    exact .cons (.lst (.of ‹_›) (ih1 e3)) (ih2 e2)
  | scr _ _ _ _ _ => intro ps e; obtain ⟨p, qs, rfl, e1, e2⟩ := cut e; simp [toPy] at e1
  | scrK _ _ _ _ => intro ps e; obtain ⟨p, qs, rfl, e1, e2⟩ := cut e; simp [toPy] at e1
  | dK _ _ _ _ _ _ _ _ => intro ps e; obtain ⟨p, qs, rfl, e1, e2⟩ := cut e; simp [toPy] at e1
  | dT _ _ _ _ _ _ _ _ => intro ps e; obtain ⟨p, qs, rfl, e1, e2⟩ := cut e; simp [toPy] at e1
  | ins _ _ _ _ _ _ _ _ => intro ps e; obtain ⟨p, qs, rfl, e1, e2⟩ := cut e; simp [toPy] at e1
theorem Own.dp {v : V} {d : D} {fp : List Addr} (h : Own G F H v d fp) {K : PySem.W.Frag} (hK : K = G.K) {p : PyData} (e : toPy d = some p) : Dp K H v p := by
  cases h with
  | fz r =>
    have := r.dp hK (ps := [p]) (by simp [toPyL, e])
    cases this with
    | cons h _ => exact h
  | ow f ob =>
    cases d <;> first | exact False.elim ob | skip
    case lst es =>
      obtain ⟨ws, e1, z, r⟩ := ob
      simp only [toPy, Option.map_eq_some_iff] at e
      obtain ⟨qs, e3, rfl⟩ := e
      exact .lst (.of e1) (r.dp hK e3)
    all_goals simp [toPy] at e
  | drw _ _ _ _ _ _ => simp [toPy] at e
/-- == of data; texts by themselves -/
def pyEq (a b : D) : Option Bool := match toPy a, toPy b with
  | some p, some q => if SeqAt.shaped p = true ∧ SeqAt.shaped q = true then some (PyData.eqv p q) else none
  | _, _ => none
def dEqB : D → D → Option Bool
  | .str x, .str y => some (decide (x = y))
  | a, b => pyEq a b
def dEq (a b : D) : Option (D × Kd) := (dEqB a b).map fun c => (.bl c, .fz)
def dNe (a b : D) : Option (D × Kd) := (dEqB a b).map fun c => (.bl (!c), .fz)
theorem pyEq_of {a b : D} {c : Bool} (h : pyEq a b = some c) : ∃ p q, toPy a = some p ∧ toPy b = some q ∧ SeqAt.shaped p = true ∧ SeqAt.shaped q = true ∧ c = PyData.eqv p q := by
  unfold pyEq at h
  split at h
  · split at h
    · rename_i hs
      cases h
      exact ⟨_, _, ‹_›, ‹_›, hs.1, hs.2, rfl⟩
    · cases h
  · cases h
theorem dEqB_of {a b : D} {c : Bool} (h : dEqB a b = some c) : (∃ x y, a = .str x ∧ b = .str y ∧ c = decide (x = y)) ∨ pyEq a b = some c := by
  unfold dEqB at h
  split at h
  · cases h; exact .inl ⟨_, _, rfl, rfl, rfl⟩
  · exact .inr h
theorem fn_eq (hK : X.K = G.K) : FnD2 G (fun x y H Q => rEq x y H Q ∨ rEqD X.K x y H Q) dEq := by
  intro F H v w a b fv fw d k Q hd ha hb hg q
  simp only [dEq, Option.map_eq_some_iff] at hg
  obtain ⟨c, hc, e⟩ := hg
  cases e
  rcases dEqB_of hc with ⟨x, y, rfl, rfl, rfl⟩ | h
  · rw [ha.str_of, hb.str_of]
    refine .inl ⟨rfl, ?_⟩
    have : decide (V.str x = V.str y) = decide (x = y) := by by_cases e : x = y <;> simp [e]
    rw [this]
    exact q F H _ [] (.atom hd rfl)
  · obtain ⟨p, p', e1, e2, s1, s2, rfl⟩ := pyEq_of h
    exact .inr ⟨p, p', ha.dp hK e1, hb.dp hK e2, s1, s2, q F H _ [] (.atom hd rfl)⟩
theorem fn_ne (hK : X.K = G.K) : FnD2 G (fun x y H Q => rNe x y H Q ∨ rNeD X.K x y H Q) dNe := by
  intro F H v w a b fv fw d k Q hd ha hb hg q
  simp only [dNe, Option.map_eq_some_iff] at hg
  obtain ⟨c, hc, e⟩ := hg
  cases e
  rcases dEqB_of hc with ⟨x, y, rfl, rfl, rfl⟩ | h
  · rw [ha.str_of, hb.str_of]
    refine .inl ⟨rfl, ?_⟩
    have : decide (V.str x = V.str y) = decide (x = y) := by by_cases e : x = y <;> simp [e]
    rw [this]
    exact q F H _ [] (.atom hd rfl)
  · obtain ⟨p, p', e1, e2, s1, s2, rfl⟩ := pyEq_of h
    exact .inr ⟨p, p', ha.dp hK e1, hb.dp hK e2, s1, s2, q F H _ [] (.atom hd rfl)⟩
theorem o_eq {k : Nat} (hr : RoomG k X.A) (hK : X.K = G.K) : OpR X (compareOp .Eq) (fun x y H Q => rEq x y H Q ∨ rEqD X.K x y H Q) ∧ FnD2 G (fun x y H Q => rEq x y H Q ∨ rEqD X.K x y H Q) dEq := ⟨op_eq.or (op_eqD hr.room.units), fn_eq hK⟩
theorem o_ne {k : Nat} (hr : RoomG k X.A) (hK : X.K = G.K) : OpR X (compareOp .NotEq) (fun x y H Q => rNe x y H Q ∨ rNeD X.K x y H Q) ∧ FnD2 G (fun x y H Q => rNe x y H Q ∨ rNeD X.K x y H Q) dNe := ⟨op_ne.or (op_neD hr.room.units), fn_ne hK⟩
def dIs : D → D → Option (D × Kd)
  | a, .non => some (.bl a.isNon, .fz)
  | _, _ => none
def dIsNot : D → D → Option (D × Kd)
  | a, .non => some (.bl (!a.isNon), .fz)
  | _, _ => none
theorem o_is : OpR X (compareOp .Is) (fun x y H Q => y = .non ∧ Q (.bl (decide (x = .non))) H) ∧ FnD2 G (fun x y H Q => y = .non ∧ Q (.bl (decide (x = .non))) H) dIs := ⟨op_isN, by
  intro F H v w a b fv fw d k Q hd ha hb hg q
  cases b <;> simp [dIs] at hg
  obtain ⟨rfl, rfl⟩ := hg
  exact ⟨hb.non_of, by rw [ha.isNon]; exact q F H _ [] (.atom hd rfl)⟩⟩
theorem o_isnot : OpR X (compareOp .IsNot) (fun x y H Q => y = .non ∧ Q (.bl (!decide (x = .non))) H) ∧ FnD2 G (fun x y H Q => y = .non ∧ Q (.bl (!decide (x = .non))) H) dIsNot := ⟨op_notN, by
  intro F H v w a b fv fw d k Q hd ha hb hg q
  cases b <;> simp [dIsNot] at hg
  obtain ⟨rfl, rfl⟩ := hg
  exact ⟨hb.non_of, by rw [ha.isNon]; exact q F H _ [] (.atom hd rfl)⟩⟩
def dNeg : D → Option (D × Kd)
  | .int i => some (.int (-i), .fz)
  | _ => none
theorem o_neg : UnR X (unaryOp .USub) (rU fun i => .int (-i)) ∧ FnD1 G (rU fun i => .int (-i)) dNeg := ⟨un_neg, by
  intro F H v a fv d k Q hd ha hg q
  cases a <;> simp [dNeg] at hg
  obtain ⟨rfl, rfl⟩ := hg
  rw [ha.int_of]
  exact ⟨_, rfl, q F H _ [] (.atom hd rfl)⟩⟩

/-! ### items -/
def dIdx : D → D → Option (D × Kd)
  | .lst l, .int i => (atI l i).map fun d => (d, .fz)
  | .tup l, .int i => (atI l i).map fun d => (d, .fz)
  | .str x, .int i => if x.length ≤ sizeLine then (atI x.cps.toList i).map fun c => (.str ⟨#[c]⟩, .fz) else none
  | _, _ => none
theorem Rep.atI {vs : List V} {ds : List D} {i : Int} {d : D} (h : Rep G F H vs ds) (e : L2.atI ds i = some d) : ∃ v, L2.atI vs i = some v ∧ Rep G F H [v] [d] := by
  unfold L2.atI at e ⊢
  rw [h.length]
  cases e1 : ixN ds.length i with
  | none => rw [e1] at e; cases e
  | some j =>
    rw [e1] at e
    exact h.get e
theorem o_idx (hK : X.K = G.K) : IxR X (rIx X.K) ∧ FnD2 G (rIx X.K) dIdx := ⟨ix_seq, by
  intro F H v w a b fv fw d k Q hd ha hb hg q
  unfold dIdx at hg
  split at hg
  · simp only [Option.map_eq_some_iff, Prod.mk.injEq] at hg
    obtain ⟨d', e, rfl, rfl⟩ := hg
    obtain ⟨a, ws, rfl, e1, z1, r1⟩ := ha.lstM
    obtain ⟨u, hu, ru⟩ := r1.atI e
    rw [hb.int_of]
    exact .inl ⟨a, ws, _, u, rfl, rfl, .of e1, hu, q F H _ [] (.same hd ru)⟩
  · simp only [Option.map_eq_some_iff, Prod.mk.injEq] at hg
    obtain ⟨d', e, rfl, rfl⟩ := hg
    obtain ⟨a, ws, rfl, e1, z1, r1, _⟩ := ha.tup_of hK
    obtain ⟨u, hu, ru⟩ := r1.atI e
    rw [hb.int_of]
    exact .inr (.inl ⟨a, ws, _, u, rfl, rfl, e1, hu, q F H _ [] (.same hd ru)⟩)
  · split at hg
    · rename_i hz
      simp only [Option.map_eq_some_iff, Prod.mk.injEq] at hg
      obtain ⟨c, e, rfl, rfl⟩ := hg
      rw [ha.str_of, hb.int_of]
      exact .inr (.inr ⟨_, _, c, rfl, rfl, hz, e, q F H _ [] (.atom hd rfl)⟩)
    · cases hg
  · cases hg⟩

/-! ### built-in functions -/
theorem Reads.one {vs : List V} {d : D} (h : Reads G F H vs [d]) : ∃ v fp, vs = [v] ∧ Own G F H v d fp := by
  cases h with
  | cons w r => cases r; exact ⟨_, _, rfl, w⟩
theorem Reads.two {vs : List V} {d e : D} (h : Reads G F H vs [d, e]) : ∃ v w fv fw, vs = [v, w] ∧ Own G F H v d fv ∧ Own G F H w e fw := by
  cases h with
  | cons w r => obtain ⟨u, fu, rfl, w2⟩ := r.one; exact ⟨_, _, _, _, rfl, w, w2⟩
def f1 (g : D → Option (D × Kd)) : List D → Option (D × Kd)
  | [d] => g d
  | _ => none
def f2 (g : D → D → Option (D × Kd)) : List D → Option (D × Kd)
  | [d, e] => g d e
  | _ => none
theorem f1_of {g : D → Option (D × Kd)} {ds : List D} {r : D × Kd} (h : f1 g ds = some r) : ∃ d, ds = [d] ∧ g d = some r := by
  unfold f1 at h; split at h
  · exact ⟨_, rfl, h⟩
  · cases h
theorem f2_of {g : D → D → Option (D × Kd)} {ds : List D} {r : D × Kd} (h : f2 g ds = some r) : ∃ d e, ds = [d, e] ∧ g d e = some r := by
  unfold f2 at h; split at h
  · exact ⟨_, _, rfl, h⟩
  · cases h
def dLen : D → Option (D × Kd)
  | .lst l => some (.int l.length, .fz)
  | .tup l => some (.int l.length, .fz)
  | .scr l => some (.int l.length, .fz)
  | .str x => if x.length ≤ sizeLine then some (.int x.length, .fz) else none
  | _ => none
def rLen (K : PySem.W.Frag) : List V → Hp → VK → Prop := fun xs H Q => ∃ x n, xs = [x] ∧ LenV K x H n ∧ Q (.int n) H
theorem o_len (hK : X.K = G.K) : CallR X (.builtin "len") (rLen X.K) ∧ FnD G (rLen X.K) (f1 dLen) := ⟨call_len, by
  intro F H vs ds d k Q hd hr hg q
  obtain ⟨a, ea, hg'⟩ := f1_of hg
  clear hg
  subst ea
  have hg := hg'
  clear hg'
  obtain ⟨v, fp, rfl, w⟩ := hr.one
  unfold dLen at hg
  split at hg
  · cases hg
    obtain ⟨a, ws, rfl, e1, z1, r1⟩ := w.lstM
    rw [← r1.length] at q
    exact ⟨_, _, rfl, .inl ⟨ws, .of e1, rfl⟩, q F H _ [] (.atom hd rfl)⟩
  · cases hg
    obtain ⟨a, ws, rfl, e1, z1, r1, _⟩ := w.tup_of hK
    rw [← r1.length] at q
    exact ⟨_, _, rfl, .inr ⟨ws, e1, rfl⟩, q F H _ [] (.atom hd rfl)⟩
  · cases hg
    obtain ⟨a, rfl, e1, z1, _⟩ := w.scr_of hK
    exact ⟨_, _, rfl, .inl ⟨_, e1, by simp⟩, q F H _ [] (.atom hd rfl)⟩
  · split at hg
    · rename_i hz
      cases hg
      rw [w.str_of]
      exact ⟨_, _, rfl, ⟨hz, rfl⟩, q F H _ [] (.atom hd rfl)⟩
    · cases hg
  · cases hg⟩
def dMin2 := d2I (gI fun i j => if j < i then j else i)
def dMax2 := d2I (gI fun i j => if j > i then j else i)
theorem o_max (hc : X.calm = true) : CallR X (.builtin "max") (fun xs H Q => ∃ i j, xs = [.int i, .int j] ∧ Q (.int (if j > i then j else i)) H) ∧ FnD G (fun xs H Q => ∃ i j, xs = [.int i, .int j] ∧ Q (.int (if j > i then j else i)) H) (f2 dMax2) := ⟨call_max2 hc, by
  intro F H vs ds d k Q hd hr hg q
  obtain ⟨a, b, ea, hg'⟩ := f2_of hg
  clear hg
  subst ea
  have hg := hg'
  clear hg'
  obtain ⟨v, w, fv, fw, rfl, h1, h2⟩ := hr.two
  obtain ⟨i, j, rfl, rfl, hg⟩ := d2I_eq hg
  cases hg
  rw [h1.int_of, h2.int_of]
  exact ⟨_, _, rfl, q F H _ [] (.atom hd rfl)⟩⟩
theorem o_min (hc : X.calm = true) : CallR X (.builtin "min") (fun xs H Q => ∃ i j, xs = [.int i, .int j] ∧ Q (.int (if j < i then j else i)) H) ∧ FnD G (fun xs H Q => ∃ i j, xs = [.int i, .int j] ∧ Q (.int (if j < i then j else i)) H) (f2 dMin2) := ⟨call_min2 hc, by
  intro F H vs ds d k Q hd hr hg q
  obtain ⟨a, b, ea, hg'⟩ := f2_of hg
  clear hg
  subst ea
  have hg := hg'
  clear hg'
  obtain ⟨v, w, fv, fw, rfl, h1, h2⟩ := hr.two
  obtain ⟨i, j, rfl, rfl, hg⟩ := d2I_eq hg
  cases hg
  rw [h1.int_of, h2.int_of]
  exact ⟨_, _, rfl, q F H _ [] (.atom hd rfl)⟩⟩
def dAbs : D → Option (D × Kd)
  | .int i => some (.int (if i < 0 then -i else i), .fz)
  | _ => none
theorem o_abs : CallR X (.builtin "abs") (fun xs H Q => ∃ i, xs = [.int i] ∧ Q (.int (if i < 0 then -i else i)) H) ∧ FnD G (fun xs H Q => ∃ i, xs = [.int i] ∧ Q (.int (if i < 0 then -i else i)) H) (f1 dAbs) := ⟨call_abs, by
  intro F H vs ds d k Q hd hr hg q
  obtain ⟨a, ea, hg'⟩ := f1_of hg
  clear hg
  subst ea
  have hg := hg'
  clear hg'
  obtain ⟨v, fp, rfl, w⟩ := hr.one
  cases a <;> simp [dAbs] at hg
  obtain ⟨rfl, rfl⟩ := hg
  rw [w.int_of]
  exact ⟨_, rfl, q F H _ [] (.atom hd rfl)⟩⟩
def dInt : D → Option (D × Kd)
  | .int i => some (.int i, .fz)
  | .bl b => some (.int (if b then 1 else 0), .fz)
  | _ => none
def rInt : List V → Hp → VK → Prop := fun xs H Q => (∃ i, xs = [.int i] ∧ Q (.int i) H) ∨ ∃ k, xs = [.bl k] ∧ Q (.int (if k then 1 else 0)) H
theorem o_int : CallR X (.type "int") rInt ∧ FnD G rInt (f1 dInt) := ⟨call_int1, by
  intro F H vs ds d k Q hd hr hg q
  obtain ⟨a, ea, hg'⟩ := f1_of hg
  clear hg
  subst ea
  have hg := hg'
  clear hg'
  obtain ⟨v, fp, rfl, w⟩ := hr.one
  cases a <;> simp [dInt] at hg
  · obtain ⟨rfl, rfl⟩ := hg
    rw [w.bl_of]
    exact .inr ⟨_, rfl, q F H _ [] (.atom hd rfl)⟩
  · obtain ⟨rfl, rfl⟩ := hg
    rw [w.int_of]
    exact .inl ⟨_, rfl, q F H _ [] (.atom hd rfl)⟩⟩
def dTuple : D → Option (D × Kd)
  | .lst l => some (.tup l, .fz)
  | .tup l => some (.tup l, .fz)
  | _ => none
def rTuple (K : PySem.W.Frag) : List V → Hp → VK → Prop := fun xs H Q => ∃ p ys, xs = [.ref p] ∧ ((SqL K H p ys ∧ ∀ l, H l = none → Q (.ref l) (upd H l (.tup ys))) ∨ (SqT K H p ys ∧ Q (.ref p) H))
theorem Own.fzT {v : V} {l : List D} {fp : List Addr} (w : Own G F H v (.tup l) fp) : Rep G F H [v] [.tup l] := by
  cases w with
  | fz r => exact r
  | ow _ ob => exact False.elim ob
theorem o_tuple (hK : X.K = G.K) : CallR X (.type "tuple") (rTuple X.K) ∧ FnD G (rTuple X.K) (f1 dTuple) := ⟨call_tuple_of, by
  intro F H vs ds d k Q hd hr hg q
  obtain ⟨a, ea, hg'⟩ := f1_of hg
  clear hg
  subst ea
  have hg := hg'
  clear hg'
  obtain ⟨v, fp, rfl, w⟩ := hr.one
  cases a <;> simp [dTuple] at hg
  · obtain ⟨rfl, rfl⟩ := hg
    obtain ⟨a, ws, rfl, e1, z1, r1, _⟩ := w.tup_of hK
    exact ⟨a, ws, rfl, .inr ⟨e1, q F H _ [] (.same hd w.fzT)⟩⟩
  · obtain ⟨rfl, rfl⟩ := hg
    obtain ⟨a, ws, rfl, e1, z1, r1⟩ := w.lstM
    exact ⟨a, ws, rfl, .inl ⟨.of e1, fun l hl => q _ _ _ [] (.tup hd hl z1 r1)⟩⟩⟩
def dList : D → Option (D × Kd)
  | .lst l => some (.lst l, .ow)
  | .tup l => some (.lst l, .ow)
  | _ => none
def rList (K : PySem.W.Frag) : List V → Hp → VK → Prop := fun xs H Q => ∃ p ys, xs = [.ref p] ∧ (SqL K H p ys ∨ SqT K H p ys) ∧ ∀ l, H l = none → Q (.ref l) (upd H l (.lst ys))
theorem o_list (hK : X.K = G.K) : CallR X (.type "list") (rList X.K) ∧ FnD G (rList X.K) (f1 dList) := ⟨call_list_of, by
  intro F H vs ds d k Q hd hr hg q
  obtain ⟨a, ea, hg'⟩ := f1_of hg
  clear hg
  subst ea
  have hg := hg'
  clear hg'
  obtain ⟨v, fp, rfl, w⟩ := hr.one
  cases a <;> simp [dList] at hg
  · obtain ⟨rfl, rfl⟩ := hg
    obtain ⟨a, ws, rfl, e1, z1, r1, _⟩ := w.tup_of hK
    exact ⟨a, ws, rfl, .inr e1, fun l hl => q _ _ _ _ (.lst hd hl z1 r1)⟩
  · obtain ⟨rfl, rfl⟩ := hg
    obtain ⟨a, ws, rfl, e1, z1, r1⟩ := w.lstM
    exact ⟨a, ws, rfl, .inl (.of e1), fun l hl => q _ _ _ _ (.lst hd hl z1 r1)⟩⟩
end
end VL
/-! VL14: attributes, isinstance, repr. -/
namespace VL
open PySem PySem.Spec PyProof.Rows L2

theorem Rep.lookup {G : Gm} {F : Addr → Prop} {H : Hp} : ∀ {ws : List (Str × V)} {es : List (Str × D)} {f : Str} {d : D}, ws.map (·.1) = es.map (·.1) → Rep G F H (ws.map (·.2)) (es.map (·.2)) → es.lookup f = some d → ∃ v, ws.lookup f = some v ∧ Rep G F H [v] [d]
  | [], [], f, d, _, _, e => by simp at e
  | [], _ :: _, _, _, e, _, _ => by simp at e
  | _ :: _, [], _, _, e, _, _ => by simp at e
  | (n, v) :: ws, (m, e) :: es, f, d, hn, hr, hl => by
    simp only [List.map_cons, List.cons.injEq] at hn
    obtain ⟨rfl, hn⟩ := hn
    obtain ⟨r1, r2⟩ := Rep.cons_iff.mp (by simpa using hr)
    simp only [List.lookup_cons] at hl ⊢
    by_cases hf : f == n
    · simp only [hf] at hl ⊢
      cases hl
      exact ⟨v, rfl, r1⟩
    · simp only [hf] at hl ⊢
      exact Rep.lookup hn r2 hl
theorem Own.ins_of {G : Gm} {F : Addr → Prop} {H : Hp} {v : V} {c : Nat} {es : List (Str × D)} {fp : List Addr} (h : Own G F H v (.ins c es) fp) :
    ∃ (a C dx : Addr) (ws : List (Str × V)), v = .ref a ∧ H a = some (.ins C dx ws) ∧ G.cm c = some C ∧ ws.map (·.1) = es.map (·.1) ∧ Rep G F H (ws.map (·.2)) (es.map (·.2)) := by
  cases h with
  | fz r =>
    cases r with
    | atom e _ => cases v <;> simp [atomD] at e
    | ins f e c k r1 _ => exact ⟨_, _, _, _, rfl, e, c, k, r1⟩
  | ow f ob =>
    obtain ⟨C, dx, ws, e, c, k, r⟩ := ob
    exact ⟨_, C, dx, ws, rfl, e, c, k, r⟩
/-- e.f of instances of the classes cs -/
def dFld (cs : List Nat) (f : Str) : D → Option (D × Kd)
  | .ins c es => if cs.contains c = true then (es.lookup f).map fun d => (d, .fz) else none
  | _ => none
/-- what the classes cs must be, for their field f -/
def FldOk (G : Gm) (cs : List Nat) (f : Str) : Prop := ∀ c ∈ cs, ∀ C, G.cm c = some C → Cls G.K C ∧ NoAttr G.K C f
/-- the kinds that isinstance tells apart -/
inductive Tag where
  | ty (n : String) | cls (c : Nat)
  deriving DecidableEq
def D.tag : D → Option Tag
  | .non => some (.ty "NoneType")
  | .bl _ => some (.ty "bool")
  | .int _ => some (.ty "int")
  | .str _ => some (.ty "str")
  | .tup _ => some (.ty "tuple")
  | .lst _ => some (.ty "list")
  | .scr _ => some (.ty "list")
  | .dK _ => some (.ty "dict")
  | .dT _ => some (.ty "dict")
  | .ins c _ => some (.cls c)
  | .drw _ _ _ _ => some (.ty "dict")
/-- an instance's class, as isinstance asks it -/
structure ClsI (K : PySem.W.Frag) (C : Addr) : Prop where
  cl : Cls K C
  ha : PySem.W.findIn K (.ref C) "__class__" = some (some (.builtin "object.__class__"))
  hn : PySem.W.specialIn K (.builtin "object.__class__") "__get__" = some (some (.builtin "getset_descriptor.__get__"))
  htk : PySem.W.takesIn K (.builtin "object.__class__") = some true
  hm : PySem.W.mroIn K C (.type "object") = some true
def TagV (G : Gm) : Tag → Value → Prop
  | .ty n, t => t = .type n
  | .cls c, t => ∃ C, G.cm c = some C ∧ t = .ref C ∧ ClsI G.K C
theorem Own.ty {G : Gm} {F : Addr → Prop} {H : Hp} {v : V} {d : D} {fp : List Addr} (h : Own G F H v d fp) {tg : Tag} (e : d.tag = some tg) (hc : ∀ c, tg = .cls c → ∀ C, G.cm c = some C → ClsI G.K C) : ∃ t, TagV G tg t ∧ TyX G.K H v t := by
  cases d <;> simp only [D.tag, Option.some.injEq] at e <;> subst e
  case non => rw [h.non_of]; exact ⟨_, rfl, .base .non⟩
  case bl b => rw [h.bl_of]; exact ⟨_, rfl, .base (.bl b)⟩
  case int i => rw [h.int_of]; exact ⟨_, rfl, .base (.int i)⟩
  case str x => rw [h.str_of]; exact ⟨_, rfl, .base (.str x)⟩
  case tup l =>
    cases h.fzT with
    | atom e _ => cases v <;> simp [atomD] at e
    | tup f e z r1 _ => exact ⟨_, rfl, .base (.tup e)⟩
    | tupK f z r1 _ =>
      obtain ⟨o, its, n, h1, h2, _⟩ := f
      exact ⟨_, rfl, .kTuple h1 h2⟩
  case lst l =>
    obtain ⟨a, ws, rfl, e1, _⟩ := h.lstM
    exact ⟨_, rfl, .base (.lst e1)⟩
  case scr l =>
    cases h with
    | fz r =>
      cases r with
      | atom e _ => cases v <;> simp [atomD] at e
      | scr f e z _ => exact ⟨_, rfl, .base (.frz e)⟩
      | scrK f z _ =>
        obtain ⟨o, its, n, h1, h2, _⟩ := f
        exact ⟨_, rfl, .kList h1 h2⟩
    | ow _ ob => exact False.elim ob
  case dK l =>
    cases h with
    | fz r =>
      cases r with
      | atom e _ => cases v <;> simp [atomD] at e
      | dK f e z k r1 _ => exact ⟨_, rfl, .base (.dK e)⟩
    | ow _ ob => obtain ⟨ws, e, _⟩ := ob; exact ⟨_, rfl, .base (.dK e)⟩
  case dT l =>
    cases h with
    | fz r =>
      cases r with
      | atom e _ => cases v <;> simp [atomD] at e
      | dT f e z k r1 _ => exact ⟨_, rfl, .base (.dT e)⟩
    | ow _ ob => obtain ⟨ws, e, _⟩ := ob; exact ⟨_, rfl, .base (.dT e)⟩
  case ins c es =>
    obtain ⟨a, C, dx, ws, rfl, e1, e2, _⟩ := h.ins_of
    have q := hc c rfl C e2
    exact ⟨.ref C, ⟨C, e2, rfl, q⟩, .base (.ins e1 q.cl q.ha q.hn q.htk q.hm)⟩
  case drw gr r ce t =>
    cases h with
    | fz r => cases r; rename_i h _; cases v <;> simp [atomD] at h
    | ow _ ob => exact False.elim ob
    | drw _ _ _ _ _ q => exact ⟨_, rfl, .base (.dK q.1)⟩
def dIsi (tab : List (Tag × Bool)) : D → Option (D × Kd) := fun d => d.tag.bind fun t => (tab.lookup t).map fun b => (.bl b, .fz)
/-- the table tells isinstance for the class u -/
def IsiOk (G : Gm) (tab : List (Tag × Bool)) (us : List Value) : Prop := ∀ p ∈ tab, (∀ c, p.1 = .cls c → ∀ C, G.cm c = some C → ClsI G.K C) ∧ ∀ t, TagV G p.1 t → PySem.W.kitAny G.K t us = some p.2
theorem kitAny_one {K : PySem.W.Frag} {t u : Value} {b : Bool} (h : PySem.W.kitAny K t [u] = some b) : PySem.W.kitOne K t u = some b := by
  simp only [PySem.W.kitAny] at h
  cases e : PySem.W.kitOne K t u with
  | none => rw [e] at h; cases h
  | some c => rw [e] at h; cases c <;> simp at h <;> rw [h]
theorem lookup_mem {α β : Type} [BEq α] [LawfulBEq α] {l : List (α × β)} {a : α} {b : β} (h : l.lookup a = some b) : (a, b) ∈ l := by
  induction l with
  | nil => simp at h
  | cons p l ih =>
    obtain ⟨x, y⟩ := p
    simp only [List.lookup_cons] at h
    by_cases e : a == x
    · simp only [e] at h; cases h; rw [eq_of_beq e]; exact List.mem_cons_self
    · simp only [e] at h; exact List.mem_cons_of_mem _ (ih h)
section
variable {X : Cx} {G : Gm} {W : WX}
theorem r_fld {e : Expr} {f : Str} {pos : Pos} {s : Bool} {g : EE} {cs : List Nat} (hK : X.K = G.K) (hf : FldOk G cs f) (h : PE X e (tS G W s g)) (hb : attributeBase e f X.env (eval e X.env) = eval e X.env) : PE X (.Attribute e f pos) (tS G W s (xAp1 (dFld cs f) g)) :=
  PE.of (pe_fld h hb) fun σ H Q q => tS_ap1 (r := fun x H1 Q => ∃ a C dx fs v, x = .ref a ∧ H1 a = some (.ins C dx fs) ∧ Cls X.K C ∧ NoAttr X.K C f ∧ fs.lookup f = some v ∧ Q v H1) (fun F H v d fv d' k Q hd ha hg q => by
    cases d <;> simp only [dFld] at hg <;> first | cases hg | skip
    case ins c es =>
      split at hg
      · rename_i hc
        simp only [Option.map_eq_some_iff, Prod.mk.injEq] at hg
        obtain ⟨d', e1, rfl, rfl⟩ := hg
        obtain ⟨a, C, dx, ws, rfl, h1, h2, h3, h4⟩ := ha.ins_of
        obtain ⟨v, l, r⟩ := h4.lookup h3 e1
        obtain ⟨q1, q2⟩ := hf c (by simpa using hc) C h2
        rw [hK]
        exact ⟨a, C, dx, ws, v, rfl, h1, q1, q2, l, q F H _ [] (.same hd r)⟩
      · cases hg) q
/-- isinstance(x, c) -/
theorem r_isi {p pos : Pos} {a c : Expr} {s : Bool} {g : EE} {cv : V} {cu : Value} {tab : List (Tag × Bool)} (hK : X.K = G.K) (hg : Gl X "isinstance") (hm : X.mg "isinstance" = none) (h : PE X a (tS G W s g)) (hc : PE X c (tC cv)) (hcv : ClsV cv cu) (ht : IsiOk G tab [cu])
    (he : starEach [a, c] X.env = (false, eval a X.env) :: starEach [c] X.env := by rfl) (he2 : starEach [c] X.env = (false, eval c X.env) :: starEach [] X.env := by rfl) (hpl : (backTo pos (starEach [c] X.env)).any (·.1) = false := by rfl) :
    PE X (.Call (.Name "isinstance" p) [a, c] [] pos) (tS G W s (xAp1 (dIsi tab) g)) :=
  PE.of (pe_callB call_isi hg hm (by decide +kernel) (pa_cons h (pa_cons hc pa_nil he2) he) (by decide) (by decide) he hpl) fun σ H Q q => tS_ap1 (r := fun x H Q => rIsi X.K [x, cv] H Q) (fun F H v d fv d' k Q hd ha hg q => by
    simp only [dIsi, Option.bind_eq_some_iff, Option.map_eq_some_iff, Prod.mk.injEq] at hg
    obtain ⟨tg, e1, b, e2, rfl, rfl⟩ := hg
    obtain ⟨k1, k2⟩ := ht _ (lookup_mem e2)
    obtain ⟨t, t1, t2⟩ := ha.ty e1 k1
    rw [← hK] at t2
    exact ⟨v, cv, t, cu, b, rfl, hcv, t2, by rw [hK]; exact kitAny_one (k2 t t1), q F H _ [] (.atom hd rfl)⟩) q
/-- isinstance(x, (c1, c2)) -/
theorem r_isiT {p pos pos2 : Pos} {a : Expr} {cs : List Expr} {x1 : Nat} {s : Bool} {g : EE} {cvs : List V} {cus : List Value} {tab : List (Tag × Bool)} {t2 : TA} (hK : X.K = G.K) (hg : Gl X "isinstance") (hm : X.mg "isinstance" = none) (h : PE X a (tS G W s g)) (hc : PA X cs t2) (ht2 : ∀ σ H Q, Q cvs H → t2 σ H Q) (hz : cvs.length ≤ sizeLine) (hcv : Paired ClsV cvs cus) (ht : IsiOk G tab cus)
    (he : starEach [a, .Tuple cs x1 pos2] X.env = (false, eval a X.env) :: starEach [.Tuple cs x1 pos2] X.env := by rfl) (he2 : starEach [.Tuple cs x1 pos2] X.env = (false, eval (.Tuple cs x1 pos2) X.env) :: starEach [] X.env := by rfl) (hpl : (backTo pos (starEach [.Tuple cs x1 pos2] X.env)).any (·.1) = false := by rfl) :
    PE X (.Call (.Name "isinstance" p) [a, .Tuple cs x1 pos2] [] pos) (tS G W s (xAp1 (dIsi tab) g)) :=
  PE.of (pe_callB call_isiT hg hm (by decide +kernel) (pa_cons h (pa_cons (pe_tup hc) pa_nil he2) he) (by decide) (by decide) he hpl) fun σ H Q q => by
    have := tS_ap1 (r := fun x H Q => ∀ p, H p = none → rIsiT X.K [x, .ref p] (upd H p (.tup cvs)) Q) (G := G) (W := W) (s := s) (f := g) (g := dIsi tab) (fun F H v d fv d' k Q hd ha hg q p hp => by
      simp only [dIsi, Option.bind_eq_some_iff, Option.map_eq_some_iff, Prod.mk.injEq] at hg
      obtain ⟨tg, e1, b, e2, rfl, rfl⟩ := hg
      obtain ⟨k1, k2⟩ := ht _ (lookup_mem e2)
      have kp : ∀ a o, H a = some o → upd H p (.tup cvs) a = some o := fun a o e => by rw [upd_ne (ne_of_none e hp)]; exact e
      have ha' : Own G F (upd H p (.tup cvs)) v d fv := ha.keep (fun _ h => h) (fun a o _ e _ => kp a o e) fun a q => ⟨(ha.there a q).1, fun o e _ => kp a o e⟩
      obtain ⟨t, t1, t2⟩ := ha'.ty e1 k1
      rw [← hK] at t2
      refine ⟨v, p, cvs, t, cus, b, rfl, upd_same, hcv, t2, by rw [hK]; exact k2 t t1, q F _ _ [] ⟨fun a f => ?_, fun _ h => h, fun _ h => .inl h, kp, .fz (.atom rfl .nil), rfl⟩⟩
      obtain ⟨o, e, tt⟩ := hd a f
      exact ⟨o, kp a o e, tt⟩) q
    unfold tUn at this
    obtain ⟨x, r1, r2, hx, q⟩ := this
    refine ⟨x, r1, r2, hx, ?_⟩
    revert q
    cases g x.rho with
    | bad => exact id
    | err c d ρ' => exact id
    | ok r =>
      intro q y v fv hρ P
      exact ht2 _ _ _ ⟨hz, fun p hp => q y v fv hρ P p hp⟩

/-! ### repr of data -/
theorem Dp.noDict {K : PySem.W.Frag} {H : Hp} : ∀ (d : PyData) (v : V), Dp K H v d → d.hasDict = false
  | .none, _, _ => rfl
  | .bool _, _, _ => rfl
  | .int _, _, _ => rfl
  | .str _, _, _ => rfl
  | .list ds, _, h => by
    cases h with
    | lst hs ha => simp only [PyData.hasDict]; exact all ds _ ha
  | .tuple ds, _, h => by
    cases h with
    | tup hs ha => simp only [PyData.hasDict]; exact all ds _ ha
  | .dict _, _, h => by cases h
where all : ∀ (ds : List PyData) (vs : List V), DpAll K H vs ds → PyData.hasDictAll ds = false
  | [], _, _ => rfl
  | d :: ds, _, h => by
    cases h with
    | cons h1 h2 => simp only [PyData.hasDictAll, Dp.noDict d _ h1, all ds _ h2, Bool.or_self]
def rRepr (K : PySem.W.Frag) : List V → Hp → VK → Prop := fun xs H Q => ∃ x d, xs = [x] ∧ Dp K H x d ∧ d.showable = true ∧ d.depth ≤ 60 ∧ d.shown.length ≤ sizeLine ∧ Q (.str d.shown) H
theorem call_reprD (hg : X.A.guards = some []) (hu : X.A.units + 64 < cLine) : CallR X (.builtin "repr") (rRepr X.K) := by
  intro pins s σ H xs us Q I r h
  obtain ⟨x, d, rfl, hd, hs, hdp, hz, q⟩ := h
  obtain ⟨u, rfl, ru⟩ := vals1 r
  obtain ⟨as, rd⟩ := Dp.reads I d x u hd ru
  have fin : ∀ (h' : Heap) (t : Tok) (tk : Nat), (∀ b o, s.heap.get? b = some o → h'.get? b = some o) → EP X pins σ Q (.str d.shown t) { s with heap := h', toks := tk } := fun h' t tk k => ⟨.str d.shown, H, I.kept (t' := tk) k, ⟨t, rfl⟩, q⟩
  cases hd with
  | non => cases ru; exact PySem.P.repr_of_none (fin _ _ _ fun _ _ h => h)
  | bl b => cases ru; exact PySem.P.repr_of_bool (fin _ _ _ fun _ _ h => h)
  | int i => obtain ⟨t, rfl⟩ := ru; exact PySem.P.repr_of_int (by simpa [PyData.showable] using hs) (fin _ _ _ fun _ _ h => h)
  | str x => obtain ⟨t, rfl⟩ := ru; exact PySem.P.repr_of_str (fin _ _ _ fun _ _ h => h) hz
  | @lst a ys ps hs' ha =>
    cases ru
    exact repr_of_reads' rd hs (fun z => by rw [Dp.noDict _ _ (Dp.lst hs' ha)] at z; cases z) hg (by omega) (fun _ _ h => h) (fun h' t tk k => fin h' t tk k) hz
  | @tup a ys ps hs' ha =>
    cases ru
    exact repr_of_reads' rd hs (fun z => by rw [Dp.noDict _ _ (Dp.tup hs' ha)] at z; cases z) hg (by omega) (fun _ _ h => h) (fun h' t tk k => fin h' t tk k) hz
def dRepr (d : D) : Option (D × Kd) := match toPy d with
  | some p => if p.showable = true ∧ p.depth ≤ 60 ∧ p.shown.length ≤ sizeLine then some (.str p.shown, .fz) else none
  | none => none
theorem o_repr {k : Nat} (hr : RoomG k X.A) (hK : X.K = G.K) : CallR X (.builtin "repr") (rRepr X.K) ∧ FnD G (rRepr X.K) (f1 dRepr) := ⟨call_reprD hr.g hr.room.units, by
  intro F H vs ds d k Q hd hr hg q
  obtain ⟨a, ea, hg'⟩ := f1_of hg
  clear hg
  subst ea
  have hg := hg'
  clear hg'
  obtain ⟨v, fp, rfl, w⟩ := hr.one
  unfold dRepr at hg
  split at hg
  · rename_i p hp
    split at hg
    · rename_i hc
      cases hg
      exact ⟨v, p, rfl, w.dp hK hp, hc.1, hc.2.1, hc.2.2, q F H _ [] (.atom hd rfl)⟩
    · cases hg
  · cases hg⟩
end
end VL
/-! VL15: calls with keywords; new instances. -/
namespace VL
open PySem PySem.Spec PyProof.Rows L2

def pick {α : Type} : List Nat → List α → List α
  | [], _ => []
  | i :: is, xs => match xs[i]? with
    | some a => a :: pick is xs
    | none => pick is xs
theorem Vals.pick {vs : List V} {us : List Value} (r : Vals vs us) : ∀ is : List Nat, Vals (VL.pick is vs) (VL.pick is us)
  | [] => .nil
  | i :: is => by
    unfold VL.pick
    cases e : vs[i]? with
    | none =>
      have := r.none_of e
      rw [this]
      exact Vals.pick r is
    | some v =>
      obtain ⟨u, hu, ru⟩ := r.get e
      rw [hu]
      exact .cons ru (Vals.pick r is)
theorem AOk.get {G : Gm} {x y : Stt} {vs : List V} {l : List (D × Kd)} (h : AOk G x y vs l) : ∀ i : Nat, (vs[i]? = none ∧ l[i]? = none) ∨ ∃ v d k fv, vs[i]? = some v ∧ l[i]? = some (d, k) ∧ Own G y.F y.H v d fv ∧ KdOk x y k fv ∧ Src y v d k := by
  induction h with
  | nil => intro i; exact .inl ⟨by simp, by simp⟩
  | cons w kd sr _ ih =>
    intro i
    cases i with
    | zero => exact .inr ⟨_, _, _, _, rfl, rfl, w, kd, sr⟩
    | succ i => simpa using ih i
theorem AOk.pick {G : Gm} {x y : Stt} {vs : List V} {l : List (D × Kd)} (h : AOk G x y vs l) : ∀ is : List Nat, AOk G x y (VL.pick is vs) (VL.pick is l)
  | [] => .nil
  | i :: is => by
    unfold VL.pick
    rcases h.get i with ⟨e1, e2⟩ | ⟨v, d, k, fv, e1, e2, w, kd, sr⟩
    · rw [e1, e2]; exact AOk.pick h is
    · rw [e1, e2]; exact .cons w kd sr (AOk.pick h is)
theorem AOk.append {G : Gm} {x y : Stt} {vs ws : List V} {l m : List (D × Kd)} (h : AOk G x y vs l) (h2 : AOk G x y ws m) : AOk G x y (vs ++ ws) (l ++ m) := by
  induction h with
  | nil => exact h2
  | cons w kd sr _ ih => exact .cons w kd sr ih
theorem AOk.length {G : Gm} {x y : Stt} {vs : List V} {l : List (D × Kd)} (h : AOk G x y vs l) : vs.length = l.length := by
  induction h with
  | nil => rfl
  | cons _ _ _ _ ih => simp [ih]
/-- how a call with n values and the keywords ks binds: the parameters in their order are picked at the places perm -/
def KB (K : PySem.W.Frag) (fd : FuncData) (ps ks : List Str) (n : Nat) (perm : List Nat) : Prop :=
  ∀ (s : Shared) (us ws : List Value), K.In s.heap → us.length = n → ws.length = ks.length → BindsTo s fd ⟨us, ks.zip ws⟩ (ps.zip (pick perm (us ++ ws)))
theorem kb_of {K : PySem.W.Frag} {x qual : Str} {st : Stmt} {f : Addr} {fd : FuncData} {ps ks : List Str} {n : Nat} {perm : List Nat} (F : Fun K x qual st f fd)
    (h : ∀ (kV doc pm : Value) (an : Option Addr) (cdv ct : Value) (us ws : List Value), us.length = n → ws.length = ks.length → bindArgs (PySem.W.fnOf x qual (defArgs st) (defBody st) (defScope st) .none kV doc pm an cdv ct) ⟨us, ks.zip ws⟩ = pure (ps.zip (pick perm (us ++ ws)))) : KB K fd ps ks n perm := by
  obtain ⟨oc, od, kV, doc, pm, an, cdv, ct, osl, rfl, lk, hcd⟩ := F.ex
  exact fun s us ws _ h1 h2 => .of_eq (h kV doc pm an cdv ct us ws h1 h2)
def tCallKS (sp : Sp) (perm : List Nat) (n m : Nat) (E : St → XK) (t tk : TA) : TE := fun σ H Q => t σ H fun vs H1 => tk σ H1 fun zs H2 => vs.length = n ∧ zs.length = m ∧ sp (pick perm (vs ++ zs)) H2 Q (E σ)
section
variable {X : Cx} {k n : Nat} {f C : Addr} {fd : FuncData} {ps ks : List Str} {sp : Sp} {E : St → XK} {perm : List Nat}
theorem runKG {pins : List (Addr × Obj)} {σ : St} {J : Hp} {t : Shared} {R : VK} {us ws : List Value} {vs zs : List V} (F : FnG X.prog X.w X.K X.mg X.base k f fd ps sp) (rg : RoomG k X.A) (hb : KB X.K fd ps ks n perm) (hx : PassesAt (L2.CX X.prog X.w) X σ (E σ))
    (I : Inv X pins σ J t) (rv : Vals vs us) (rz : Vals zs ws) (l1 : vs.length = n) (l2 : zs.length = ks.length) (q : sp (pick perm (vs ++ zs)) J R (E σ)) : wpAny (model X.prog X.w) X.A (PySem.call (.ref f) us (ks.zip ws)) (EP X pins σ R) X.xe t := by
  have bd := hb t us ws I.kIn (by rw [← rv.length]; exact l1) (by rw [← rz.length]; exact l2)
  refine wpAny_call (codeAny_mono (F.go X.A X.stack t J ⟨us, ks.zip ws⟩ (pick perm (us ++ ws)) (pick perm (vs ++ zs)) R (E σ) rg I.env0 bd (VL.Vals.pick (rv.append rz) perm) q) ?_)
  intro r t' hq
  match r, hq with
  | .error e, hq => exact hx pins J t e t' I hq
  | .ok (.ret u), hq => exact I.after hq
  | .ok .next, hq => exact False.elim hq
  | .ok .brk, hq => exact False.elim hq
  | .ok .cont, hq => exact False.elim hq
theorem callKG0 {x : Str} {p pos : Pos} {kws : List Keyword} {tk : TA} (F : FnG X.prog X.w X.K X.mg X.base k f fd ps sp) (rg : RoomG k X.A) (hg : Gl X x) (hm : X.mg x = some (.ref f)) (hk : PySem.W.keepIn X.K (.ref f) = true) (hb : KB X.K fd ps ks 0 perm) (hx : ∀ σ, PassesAt (L2.CX X.prog X.w) X σ (E σ))
    (hkw : PK X kws tk) (hall : (backToKw pos (keywordEach kws X.env)).all (·.1.isSome) = true := by rfl) (hks : (backToKw pos (keywordEach kws X.env)).filterMap (·.1) = ks := by rfl) (hdb : (x == ("__debug__" : Str)) = false := by decide)
    (hpl : ((backTo pos (starEach [] X.env)).any (·.1) || (backToKw pos (keywordEach kws X.env)).any (·.1.isNone)) = false := by rfl) :
    PE X (.Call (.Name x p) [] kws pos) (tCallKS sp perm 0 ks.length E tNil tk) := by
  constructor
  intro pins t0 σ J R I h
  refine wpAny_Call_Name_kw (ld_glob I hg hm ?_ hdb)
  refine PySem.W.callWith_KW0 (h₀ := X.base) I.ok.mod.kin hk hall (thn (hkw.run pos pins t0 σ J _ I h) ?_) hpl
  rintro ws t1 ⟨zs, J1, I1, rz, l1, l2, q⟩
  refine ⟨I1.kIn, ?_⟩
  rw [hks]
  exact runKG F rg hb (hx σ) I1 .nil rz l1 l2 q
theorem callKG1 {x : Str} {p pos : Pos} {e : Expr} {es : List Expr} {kws : List Keyword} {t tk : TA} (F : FnG X.prog X.w X.K X.mg X.base k f fd ps sp) (rg : RoomG k X.A) (hg : Gl X x) (hm : X.mg x = some (.ref f)) (hk : PySem.W.keepIn X.K (.ref f) = true) (hb : KB X.K fd ps ks n perm) (hx : ∀ σ, PassesAt (L2.CX X.prog X.w) X σ (E σ))
    (ha : PA X (e :: es) t) (hkw : PK X kws tk) (hall : (backToKw pos (keywordEach kws X.env)).all (·.1.isSome) = true := by rfl) (hks : (backToKw pos (keywordEach kws X.env)).filterMap (·.1) = ks := by rfl) (hdb : (x == ("__debug__" : Str)) = false := by decide)
    (he : starEach (e :: es) X.env = (false, eval e X.env) :: starEach es X.env := by rfl)
    (hpl : ((backTo pos (starEach (e :: es) X.env)).any (·.1) || (backToKw pos (keywordEach kws X.env)).any (·.1.isNone)) = false := by rfl) :
    PE X (.Call (.Name x p) (e :: es) kws pos) (tCallKS sp perm n ks.length E t tk) := by
  constructor
  intro pins t0 σ J R I h
  refine wpAny_Call_Name_kw (ld_glob I hg hm ?_ hdb)
  refine PySem.W.callWith_KW (h₀ := X.base) I.ok.mod.kin hk hall (thn (ha.run pos pins t0 σ J _ I h) ?_) hpl he
  rintro us t1 ⟨vs, J1, I1, rv, q⟩
  refine thn (hkw.run pos pins t1 σ J1 _ I1 q) ?_
  rintro ws t2 ⟨zs, J2, I2, rz, l1, l2, q2⟩
  refine ⟨I2.kIn, ?_⟩
  rw [hks]
  exact runKG F rg hb (hx σ) I2 rv rz l1 l2 q2
end
section
variable {X : Cx} {G : Gm} {W : WX}
theorem PK.of {e : List Keyword} {t u : TA} (h : PK X e t) (i : ∀ σ H Q, u σ H Q → t σ H Q) : PK X e u := ⟨fun pos pins s σ H Q I w => h.run pos pins s σ H Q I (i σ H Q w)⟩
theorem r_knil : PK X [] (tA G W true aN) := PK.of pk_nil fun σ H Q ⟨x, e1, e2, hi, q⟩ => by
  subst e1 e2
  exact q x [] rfl hi .refl .nil
theorem tA_cons {s t : Bool} {f : EE} {g : AE} {σ H Q} (h : tA G W (s && t) (aC t f g) σ H Q) : tCons (tS G W s f) (tA G W t g) σ H Q := by
  obtain ⟨x, rfl, rfl, hi, q⟩ := h
  refine ⟨x, rfl, rfl, hi, ?_⟩
  unfold aC at q
  cases h1 : f x.rho with
  | bad => simp only [h1, Res.bind_bad] at q
  | err c d ρ' =>
    simp only [h1, Res.bind_err] at q
    intro y cls dx hρ iy ey hev
    refine q y cls dx hρ iy { ey with st := fun z => ey.st (by simp only [Bool.and_eq_true] at z; exact z.1) } hev
  | ok r =>
    obtain ⟨d, k, ρ1⟩ := r
    simp only [h1, Res.bind_ok] at q
    intro y v fv hρ P
    refine ⟨y, P.ext.sg, rfl, P.inv, ?_⟩
    by_cases hb : k = .br ∧ t = false
    · rw [if_pos hb] at q; exact q.elim
    · rw [if_neg hb] at q
      rw [hρ]
      cases h2 : g ρ1 with
      | bad => simp only [h2, Res.bind_bad] at q
      | err c d' ρ' =>
        simp only [h2, Res.bind_err] at q
        exact fun z cls dx hz iz ez hev => q z cls dx hz iz (P.ext.trans hi P.inv ez) hev
      | ok r2 =>
        obtain ⟨l, ρ2⟩ := r2
        simp only [h2, Res.bind_ok] at q
        intro z vs hz iz ez az
        have hk : k = .br → t = true := fun e => by
          cases t with
          | true => rfl
          | false => exact absurd ⟨e, rfl⟩ hb
        obtain ⟨w', kd', sr'⟩ := carry P.inv P.ext.dm P.own P.kd ez P.src hk
        exact q z (v :: vs) hz iz (P.ext.trans hi P.inv ez) (.cons w' kd' sr' (az.older P.ext.dm))
theorem r_kcons {nm : Option Str} {kpos : Pos} {e : Expr} {kws : List Keyword} {s t : Bool} {f : EE} {g : AE} (ha : PE X e (tS G W s f)) (hr : PK X kws (tA G W t g)) : PK X (⟨nm, e, kpos⟩ :: kws) (tA G W (s && t) (aC t f g)) :=
  PK.of (pk_cons ha hr) fun σ H Q h => tA_cons h
def xCallK (m : FA) (perm : List Nat) (s2 : Bool) (f fk : AE) : EE := fun ρ => do
  let (l1, ρ1) ← f ρ
  if (l1.any fun dk => decide (dk.2 = .br)) = true ∧ s2 = false then .bad else do
    let (l2, ρ2) ← fk ρ1
    let l := pick perm (l1 ++ l2)
    if argsOk l = true then
      match m (l.map argS) with
      | .ok (d, k) => if k = .br then .bad else .ok (d, k, ρ2)
      | .err c d _ => .err c d ρ2
      | .bad => .bad
    else .bad
theorem tS_callK {np n j : Nat} {m : FA} {perm : List Nat} {s s2 : Bool} {f fk : AE} {σ H Q} (h : tS G W (s && s2) (xCallK m perm s2 f fk) σ H Q) (hn : ALen n f) (hj : ALen j fk) (hp : ∀ l : List (D × Kd), l.length = n + j → (pick perm l).length = np) :
    tCallKS (spA G np m) perm n j (fun σ => WE W σ) (tA G W s f) (tA G W s2 fk) σ H Q := by
  obtain ⟨x, rfl, rfl, hx, q⟩ := h
  refine ⟨x, rfl, rfl, hx, ?_⟩
  unfold xCallK at q
  cases e : f x.rho with
  | bad => simp only [e, Res.bind_bad] at q
  | err c d ρ' =>
    simp only [e, Res.bind_err] at q
    exact fun y cls dx hρ iy ey hev => q y cls dx hρ iy (ey.weak fun z => by simp only [Bool.and_eq_true] at z; exact z.1) hev
  | ok r =>
    obtain ⟨l1, ρ1⟩ := r
    simp only [e, Res.bind_ok] at q
    intro y vs hρ iy ey ay
    by_cases hb : (l1.any fun dk => decide (dk.2 = .br)) = true ∧ s2 = false
    · rw [if_pos hb] at q; exact q.elim
    rw [if_neg hb] at q
    refine ⟨y, ey.sg, rfl, iy, ?_⟩
    rw [hρ]
    cases e2 : fk ρ1 with
    | bad => simp only [e2, Res.bind_bad] at q
    | err c d ρ' =>
      simp only [e2, Res.bind_err] at q
      exact fun z cls dx hz iz ez hev => q z cls dx hz iz (ey.trans hx iy ez) hev
    | ok r2 =>
      obtain ⟨l2, ρ2⟩ := r2
      simp only [e2, Res.bind_ok] at q
      intro z zs hz iz ez az
      have ay' : AOk G x z vs l1 := ay.carry iy ey.dm ez fun dk hdk hbr => by
        cases s2 with
        | true => rfl
        | false => exact absurd ⟨List.any_eq_true.mpr ⟨dk, hdk, by simp [hbr]⟩, rfl⟩ hb
      have all := (ay'.append (az.older ey.dm)).pick perm
      have exz := ey.trans hx iy ez
      refine ⟨by rw [ay.length]; exact hn _ _ _ e, by rw [az.length]; exact hj _ _ _ e2, ?_⟩
      by_cases hl : argsOk (pick perm (l1 ++ l2)) = true
      · rw [if_pos hl] at q
        obtain ⟨c, hc, hcρ, hcp, f1, f2⟩ := enterA (s := s && s2) iz all hl
        rw [hp _ (by rw [List.length_append, hn _ _ _ e, hj _ _ _ e2])] at hc
        refine ⟨c, hc, hcp, ?_⟩
        rw [hcρ]
        cases e3 : m ((pick perm (l1 ++ l2)).map argS) with
        | bad => simp only [e3] at q
        | err c' d ρ' =>
          simp only [e3] at q
          intro u cls dx hu iu eu hev
          obtain ⟨i1, e1⟩ := leaveA hx iz exz hc.H f1 f2 iu eu
          have := q { z with F := u.F, H := u.H } cls dx hz i1 e1 hev
          exact this
        | ok r3 =>
          obtain ⟨d, k⟩ := r3
          simp only [e3] at q
          intro u v fv hu P hk
          rw [if_neg hk] at q
          exact q { z with F := u.F, H := u.H } v fv hz (leaveA_post hx iz exz hc.H f1 f2 P hk)
      · rw [if_neg hl] at q; exact q.elim
theorem pick_len {perm : List Nat} {n : Nat} (h : perm.all (fun i => decide (i < n)) = true) : ∀ {α : Type} (l : List α), l.length = n → (pick perm l).length = perm.length := by
  intro α l hl
  induction perm with
  | nil => rfl
  | cons i is ih =>
    simp only [List.all_cons, Bool.and_eq_true, decide_eq_true_eq] at h
    unfold pick
    have : l[i]? = some (l[i]'(by omega)) := List.getElem?_eq_getElem (by omega)
    rw [this]
    simp [ih h.2]
theorem r_callK0 {x : Str} {p pos : Pos} {kws : List Keyword} {k j : Nat} {fa : Addr} {fd : FuncData} {ps ks : List Str} {perm : List Nat} {m : FA} {s2 : Bool} {fk : AE} (tk : Takes X W) (F : FnG X.prog X.w X.K X.mg X.base k fa fd ps (spA G ps.length m)) (hr : RoomG k X.A) (hg : Gl X x) (hm : X.mg x = some (.ref fa)) (hk : PySem.W.keepIn X.K (.ref fa) = true) (hb : KB X.K fd ps ks 0 perm)
    (hkw : PK X kws (tA G W s2 fk)) (hj : ALen j fk) (hjk : ks.length = j := by rfl) (hpl' : perm.all (fun i => decide (i < 0 + j)) = true := by decide) (hps : perm.length = ps.length := by rfl) (hall : (backToKw pos (keywordEach kws X.env)).all (·.1.isSome) = true := by rfl) (hks : (backToKw pos (keywordEach kws X.env)).filterMap (·.1) = ks := by rfl) (hdb : (x == ("__debug__" : Str)) = false := by decide)
    (hpl : ((backTo pos (starEach [] X.env)).any (·.1) || (backToKw pos (keywordEach kws X.env)).any (·.1.isNone)) = false := by rfl) :
    PE X (.Call (.Name x p) [] kws pos) (tS G W (true && s2) (xCallK m perm s2 aN fk)) :=
  PE.of (callKG0 F hr hg hm hk hb (fun σ => passAt tk σ) hkw hall hks hdb hpl) fun σ H Q h => by
    have q := tS_callK (np := ps.length) (n := 0) (j := j) h alen_nil hj fun l hl => by rw [← hps]; exact pick_len hpl' l hl
    rw [hjk]
    obtain ⟨x, rfl, rfl, hx, q⟩ := q
    exact q x [] rfl hx .refl .nil
theorem r_callK1 {x : Str} {p pos : Pos} {e : Expr} {es : List Expr} {kws : List Keyword} {k n j : Nat} {fa : Addr} {fd : FuncData} {ps ks : List Str} {perm : List Nat} {m : FA} {s s2 : Bool} {f fk : AE} (tk : Takes X W) (F : FnG X.prog X.w X.K X.mg X.base k fa fd ps (spA G ps.length m)) (hr : RoomG k X.A) (hg : Gl X x) (hm : X.mg x = some (.ref fa)) (hk : PySem.W.keepIn X.K (.ref fa) = true) (hb : KB X.K fd ps ks n perm)
    (ha : PA X (e :: es) (tA G W s f)) (hkw : PK X kws (tA G W s2 fk)) (hn : ALen n f) (hj : ALen j fk) (hjk : ks.length = j := by rfl) (hpl' : perm.all (fun i => decide (i < n + j)) = true := by decide) (hps : perm.length = ps.length := by rfl) (hall : (backToKw pos (keywordEach kws X.env)).all (·.1.isSome) = true := by rfl) (hks : (backToKw pos (keywordEach kws X.env)).filterMap (·.1) = ks := by rfl) (hdb : (x == ("__debug__" : Str)) = false := by decide)
    (he : starEach (e :: es) X.env = (false, eval e X.env) :: starEach es X.env := by rfl)
    (hpl : ((backTo pos (starEach (e :: es) X.env)).any (·.1) || (backToKw pos (keywordEach kws X.env)).any (·.1.isNone)) = false := by rfl) :
    PE X (.Call (.Name x p) (e :: es) kws pos) (tS G W (s && s2) (xCallK m perm s2 f fk)) :=
  PE.of (callKG1 F hr hg hm hk hb (fun σ => passAt tk σ) ha hkw hall hks hdb he hpl) fun σ H Q h => by
    have q := tS_callK (np := ps.length) (n := n) (j := j) h hn hj fun l hl => by rw [← hps]; exact pick_len hpl' l hl
    rw [hjk]
    exact q
end
end VL
/-! VL16: new instances; objects that change in their slots. -/
namespace VL
open PySem PySem.Spec PyProof.Rows L2

theorem make_guards {A : Around} {C : Addr} {us : List Value} {kw : List (Str × Value)} (h : A.guards = some []) : (A.under (.builtin "type.__call__" ⟨.ref C :: us, kw⟩)).guards = some [] := by
  show pushGuards (Code.guards (.builtin "type.__call__" ⟨.ref C :: us, kw⟩)) A.guards = some []
  rw [h]
  have e : Code.guards (.builtin "type.__call__" ⟨.ref C :: us, kw⟩) = [] := by
    unfold Code.guards
    rw [if_neg]
    show ¬ (guardIds.contains "type.__call__" = true)
    decide +kernel
  rw [e]; rfl
theorem RoomG.make {k : Nat} {A : Around} (r : RoomG (k + 1) A) (C : Addr) (us : List Value) (kw : List (Str × Value)) : RoomG k (A.under (.builtin "type.__call__" ⟨.ref C :: us, kw⟩)) := ⟨r.room.make C us kw, make_guards r.g⟩
def tMakeS (C : Addr) (sp : Sp) (E : St → XK) (t : TA) : TE := fun σ H Q => t σ H fun vs H1 => ∀ x dx, H1 x = none → H1 dx = none → dx ≠ x →
  sp (.ref x :: vs) (upd (upd H1 dx (.own x)) x (.ins C dx [])) (fun v H2 => v = .non ∧ Q (.ref x) H2) (E σ)
section
variable {X : Cx} {k : Nat} {f C : Addr} {fd : FuncData} {ps : List Str} {sp : Sp} {E : St → XK}
theorem runMk {pins : List (Addr × Obj)} {σ : St} {J : Hp} {t : Shared} {R : VK} {us : List Value} {vs : List V} (M : Mk X.K C f) (F : FnG X.prog X.w X.K X.mg X.base k f fd ps sp) (rg : RoomG (k + 1) X.A) (hb : Binds X.K fd ps []) (hx : PassesAt (L2.CX X.prog X.w) X σ (E σ))
    (I : Inv X pins σ J t) (rv : Vals vs us) (q : ∀ x dx, J x = none → J dx = none → dx ≠ x → sp (.ref x :: vs) (upd (upd J dx (.own x)) x (.ins C dx [])) (fun v H2 => v = .non ∧ R (.ref x) H2) (E σ)) :
    wpAny (model X.prog X.w) X.A (PySem.call (.ref C) us) (EP X pins σ R) X.xe t := by
  have q0 := q (t.heap.objs.size + 1) t.heap.objs.size (I.hok.fresh (Nat.le_succ _)) (I.hok.fresh (Nat.le_refl _)) (Nat.ne_of_lt (Nat.lt_succ_self _))
  have I2 := Inv.made (C := C) I
  have r2 : Vals (V.ref (t.heap.objs.size + 1) :: vs) (Value.ref (t.heap.objs.size + 1) :: us) := .cons rfl rv
  have nl : (Value.ref (t.heap.objs.size + 1) :: us).length = ps.length := by rw [← r2.length]; exact F.len _ _ _ _ q0
  have bd := hb _ (Value.ref (t.heap.objs.size + 1) :: us) I2.kIn (by simpa using nl)
  rw [List.append_nil] at bd
  refine wpAny_call (make_map (f := f) I.kIn M.makes M.init (beq_iff_eq.mp M.fn) (codeAny_mono (F.go _ X.stack _ _ ⟨_, []⟩ _ _ _ (E σ) (rg.make C us []) (I2.env0.make C us []) bd r2 q0) ?_))
  intro r t' hq
  match r, hq with
  | .error e, hq => exact hx pins _ _ e t' I2 hq
  | .ok (.ret u), hq =>
    obtain ⟨v, J', I3, rr, ev, q3⟩ := I2.after hq
    subst ev
    exact ⟨rr, ⟨V.ref (t.heap.objs.size + 1), J', I3, rfl, q3⟩⟩
  | .ok .next, hq => exact False.elim hq
  | .ok .brk, hq => exact False.elim hq
  | .ok .cont, hq => exact False.elim hq
theorem makeG {x : Str} {p pos : Pos} {e : Expr} {es : List Expr} {t : TA} (M : Mk X.K C f) (F : FnG X.prog X.w X.K X.mg X.base k f fd ps sp) (rg : RoomG (k + 1) X.A) (hg : Gl X x) (hm : X.mg x = some (.ref C)) (hb : Binds X.K fd ps []) (hx : ∀ σ, PassesAt (L2.CX X.prog X.w) X σ (E σ))
    (ha : PA X (e :: es) t) (hdb : (x == ("__debug__" : Str)) = false := by decide) (he : starEach (e :: es) X.env = (false, eval e X.env) :: starEach es X.env := by rfl) (hpl : (backTo pos (starEach es X.env)).any (·.1) = false := by rfl) :
    PE X (.Call (.Name x p) (e :: es) [] pos) (tMakeS C sp E t) := by
  constructor
  intro pins t0 σ J R I h
  refine wpAny_Call_Name_kw (ld_glob I hg hm ?_ hdb)
  refine PySem.W.callWith_K (h₀ := X.base) I.ok.mod.kin M.kp (thn (ha.run pos pins t0 σ J _ I h) ?_) he hpl
  rintro us t1 ⟨vs, J1, I1, rv, q⟩
  exact ⟨I1.kIn, runMk M F rg hb (hx σ) I1 rv q⟩
end
def xMake (cn : Nat) (m : FB) (f : AE) : EE := fun ρ => do
  let (l, ρ1) ← f ρ
  if argsOk l = true then
    match m (some (.ins cn [], .pn) :: l.map argS) with
    | .ok (.non, _, d1) => if d1.isDrw = true then .bad else .ok (d1, .ow, ρ1)
    | .err c d ρ' => match err1 ρ' with
      | some _ => .err c d ρ1
      | none => .bad
    | _ => .bad
  else .bad
section
variable {X : Cx} {G : Gm} {W : WX}
/-- the state at a new instance's __init__ -/
theorem enterMk {s : Bool} {x y : Stt} {vs : List V} {l : List (D × Kd)} {cn : Nat} {C a dx : Addr} (hy : SInv G y) (h : AOk G x y vs l) (hl : argsOk l = true) (hC : G.cm cn = some C) (ha : y.H a = none) (hd : y.H dx = none) (hne : dx ≠ a) :
    ∃ c : Stt, ArgA G (l.length + 1) (.ref a :: vs) (upd (upd y.H dx (.own a)) a (.ins C dx [])) c ∧ c.rho = some (.ins cn [], .pn) :: l.map argS ∧ c.p = [a] ∧ (∀ b, y.F b → c.F b) ∧ (∀ b, c.F b → y.F b ∨ (x.H b = none ∧ b ∉ y.o ∧ b ∉ y.p ∧ b ∉ y.b)) ∧ (∀ b o, y.H b = some o → c.H b = some o) ∧ ¬ c.F a := by
  simp only [argsOk, Bool.and_eq_true, decide_eq_true_eq] at hl
  obtain ⟨fs, b, q1, q2, q3, q4, q5⟩ := h.enter hl.1 hl.2
  have kp : ∀ b o, y.H b = some o → upd (upd y.H dx (.own a)) a (.ins C dx []) b = some o := fun b o e => by
    rw [upd_ne (ne_of_none e ha), upd_ne (ne_of_none e hd)]; exact e
  have nF : ¬ (y.F a ∨ a ∈ fs) := fun f => by
    rcases f with f | f
    · obtain ⟨o, e, _⟩ := hy.dom a f; rw [ha] at e; cases e
    · obtain ⟨⟨⟨o, e, _⟩, _⟩, _⟩ := q1 a f; rw [ha] at e; cases e
  have nb : a ∉ b := fun z => by
    obtain ⟨_, o, e, _⟩ := hy.there (q2 a z); rw [ha] at e; cases e
  refine ⟨⟨fun c => y.F c ∨ c ∈ fs, some (.ins cn [], .pn) :: l.map argS, (V.ref a :: vs).map some, upd (upd y.H dx (.own a)) a (.ins C dx []), [], [a] ++ [], b⟩, ⟨rfl, rfl, ⟨.pn (.ow nF ⟨C, dx, [], upd_same, hC, rfl, .nil⟩) (by simp) (q5.keep (fun _ h => h) (fun c o _ e _ => kp c o e) fun c hc => ⟨(q5.there c hc).1, fun o e _ => kp c o e⟩), ?_, fun c f => ?_, hy.tb.ext kp⟩, by simp, rfl⟩, rfl, by simp, fun _ h => .inl h, fun c f => ?_, kp, nF⟩
  · simp only [List.nil_append, List.append_nil]
    exact List.nodup_append.mpr ⟨by simp, q3, fun c hc d hd e => nb (by simp at hc; subst hc; subst e; exact hd)⟩
  · rcases f with f | f
    · obtain ⟨o, e, t⟩ := hy.dom c f; exact ⟨o, kp c o e, t⟩
    · obtain ⟨⟨⟨o, e, t⟩, _⟩, _⟩ := q1 c f; exact ⟨o, kp c o e, t⟩
  · rcases f with f | f
    · exact .inl f
    · exact .inr ⟨(q1 c f).2, (q1 c f).1.2⟩
theorem leaveMk {s : Bool} {x y c u : Stt} {a dx : Addr} {C : Addr} (hx : SInv G x) (hy : SInv G y) (e : Ext s x y) (ha : y.H a = none) (hd : y.H dx = none) (hcH : c.H = upd (upd y.H dx (.own a)) a (.ins C dx [])) (hco : c.o = []) (hcp : c.p = [a]) (f1 : ∀ b, y.F b → c.F b) (f2 : ∀ b, c.F b → y.F b ∨ (x.H b = none ∧ b ∉ y.o ∧ b ∉ y.p ∧ b ∉ y.b)) (kp : ∀ b o, y.H b = some o → c.H b = some o)
    (iu : SInv G u) (eu : Ext false c u) : SInv G { y with F := u.F, H := u.H } ∧ Ext s x { y with F := u.F, H := u.H } := by
  have ku : Kept [] y.H u.H := fun b o h _ t => by
    have := eu.kp b o (kp b o h) (by rw [hco, hcp]; simp only [List.nil_append, List.mem_singleton]; rintro rfl; rw [ha] at h; cases h) t
    exact this
  have hf : ∀ b, y.F b → u.F b := fun b f => eu.f1 b (f1 b f)
  have hdm : ∀ b, u.H b = none → y.H b = none := fun b q => by
    have h1 := eu.dm b q
    cases h2 : y.H b with
    | none => rfl
    | some o => rw [kp b o h2] at h1; cases h1
  have hcn : ∀ b, c.H b = none → y.H b = none := fun b q => by
    cases h2 : y.H b with
    | none => rfl
    | some o => rw [kp b o h2] at q; cases q
  have inv : SInv G { y with F := u.F, H := u.H } := by
    refine ⟨hy.sl.keep hf (fun b o f e t => ku b o e (by simp) t) fun b hb => ⟨fun f => ?_, fun o e t => ku b o e (by simp) t⟩, hy.nd, iu.dom, iu.tb⟩
    obtain ⟨nf, o, e', _⟩ := hy.sl.there b hb
    rcases eu.f2 b f with q | q
    · rcases f2 b q with q | q
      · exact nf q
      · rcases hb with z | z | z
        · exact q.2.1 z
        · exact q.2.2.1 z
        · exact q.2.2.2 z
    · have := hcn b q; rw [e'] at this; cases this
  refine ⟨inv, ⟨e.sg, e.kp.trans (m' := []) ku (by simp), fun b f => hf b (e.f1 b f), fun b f => ?_, e.o1, e.p1, e.b1, fun b q => e.dm b (hdm b q), e.lk, fun q => ?_⟩⟩
  · rcases eu.f2 b f with q | q
    · rcases f2 b q with q | q
      · exact e.f2 b q
      · exact .inr q.1
    · exact .inr (e.dm b (hcn b q))
  · obtain ⟨r1, k1, o1⟩ := e.st q
    exact ⟨r1, k1.trans ku (by simp), o1⟩
theorem tS_make {np cn : Nat} {C : Addr} {m : FB} {s : Bool} {f : AE} {σ H Q} (h : tS G W s (xMake cn m f) σ H Q) (hn : ALen np f) (hC : G.cm cn = some C) : tMakeS C (spB G (np + 1) m) (fun σ => WE W σ) (tA G W s f) σ H Q := by
  obtain ⟨x, rfl, rfl, hx, q⟩ := h
  refine ⟨x, rfl, rfl, hx, ?_⟩
  unfold xMake at q
  cases e : f x.rho with
  | bad => simp only [e, Res.bind_bad] at q
  | err c d ρ' => simp only [e, Res.bind_err] at q; exact q
  | ok r =>
    obtain ⟨l, ρ1⟩ := r
    simp only [e, Res.bind_ok] at q
    intro y vs hρ iy ey ay a dx ha hd hne
    by_cases hl : argsOk l = true
    · rw [if_pos hl] at q
      obtain ⟨c, a1, a2, a3, a4, a5, a6, a7⟩ := enterMk (s := s) iy ay hl hC ha hd hne
      have a1' := a1
      rw [hn _ _ _ e] at a1
      refine ⟨c, .ins cn [], l.map argS, a1, a2, noPn_args l, ?_⟩
      rw [a2]
      cases e2 : m (some (.ins cn [], .pn) :: l.map argS) with
      | bad => simp only [e2] at q
      | err c' d ρ' =>
        simp only [e2] at q
        cases h1 : err1 ρ' with
        | none => simp only [h1] at q
        | some d1 =>
          simp only [h1] at q
          refine ⟨d1, h1, fun u cls dx' hu iu eu hev => ?_⟩
          obtain ⟨i1, e1⟩ := leaveMk hx iy ey ha hd a1.H a1.o a3 a4 a5 a6 iu eu
          exact q { y with F := u.F, H := u.H } cls dx' hρ i1 e1 hev
      | ok r2 =>
        obtain ⟨d, k, d1⟩ := r2
        simp only [e2] at q
        cases d <;> first | exact q.elim | skip
        case non =>
          simp only at q
          have hdr : d1.isDrw = false := by
            cases hh : d1.isDrw with
            | false => rfl
            | true => simp only [hh, if_true] at q
          simp only [hdr, Bool.false_eq_true, if_false] at q
          intro u v fv hu P hk
          refine ⟨P.own.non_of, ?_⟩
          obtain ⟨i1, e1⟩ := leaveMk hx iy ey ha hd a1.H a1.o a3 a4 a5 a6 P.inv P.ext
          have us := P.inv.sl
          have hσ : u.sg = (V.ref a :: vs).map some := P.ext.sg.trans a1.sg
          have hp : u.p = [a] := P.ext.p1.trans a3
          rw [hu, hσ, hp] at us
          have gen : ∀ {ρ σ o p b}, Slots G u.F u.H ρ σ o p b → ρ = some (d1, .pn) :: l.map argS → σ = some (.ref a) :: vs.map some → Own G u.F u.H (.ref a) d1 p := by
            intro ρ σ o p b hs e1 e2
            cases hs with
            | nil => cases e1
            | none _ => cases e1
            | fz _ _ => cases e1
            | ow _ _ _ => cases e1
            | lk _ _ => cases e1
            | pn w' n' hs =>
              cases e1
              cases e2
              have := hs.noPn (noPn_args l)
              rw [this, List.append_nil]
              exact w'
          have w' := gen us rfl rfl
          refine q { y with F := u.F, H := u.H } (.ref a) [a] hρ ⟨i1, e1, w', ⟨by simp, fun b hb => ?_⟩, .ow⟩
          have : b = a := by simpa using hb
          subst this
          refine ⟨ey.dm b ha, fun z => ?_, fun z => ?_, fun z => ?_⟩
          · obtain ⟨_, o, e', _⟩ := iy.there (.inl z); rw [ha] at e'; cases e'
          · obtain ⟨_, o, e', _⟩ := iy.there (.inr (.inl z)); rw [ha] at e'; cases e'
          · obtain ⟨_, o, e', _⟩ := iy.there (.inr (.inr z)); rw [ha] at e'; cases e'
    · rw [if_neg hl] at q; exact q.elim
theorem r_make {x : Str} {p pos : Pos} {e : Expr} {es : List Expr} {k cn np : Nat} {C fa : Addr} {fd : FuncData} {ps : List Str} {m : FB} {s : Bool} {f : AE} (tk : Takes X W) (M : Mk X.K C fa) (F : FnG X.prog X.w X.K X.mg X.base k fa fd ps (spB G ps.length m)) (hr : RoomG (k + 1) X.A) (hC : G.cm cn = some C) (hg : Gl X x) (hm : X.mg x = some (.ref C)) (hb : Binds X.K fd ps [])
    (ha : PA X (e :: es) (tA G W s f)) (hn : ALen np f) (hps : ps.length = np + 1 := by rfl) (hdb : (x == ("__debug__" : Str)) = false := by decide) (he : starEach (e :: es) X.env = (false, eval e X.env) :: starEach es X.env := by rfl) (hpl : (backTo pos (starEach es X.env)).any (·.1) = false := by rfl) :
    PE X (.Call (.Name x p) (e :: es) [] pos) (tS G W s (xMake cn m f)) :=
  PE.of (makeG M F hr hg hm hb (fun σ => passAt tk σ) ha hdb he hpl) fun σ H Q h => by
    have := tS_make h hn hC
    rw [← hps] at this
    exact this

/-! ### changes of the object in a slot -/
def MutR (G : Gm) (r : V → List V → Hp → VK → Prop) (g : D → List D → Option (D × D)) : Prop := ∀ F H a d0 vs ds d1 dr Q, Objs G F H a d0 → ¬ F a → Rep G F H vs ds → g d0 ds = some (d1, dr) →
  (∀ o' u, isTbl o' = false → Objs G F (upd H a o') a d1 → Rep G F (upd H a o') [u] [dr] → Q u (upd H a o')) → r (.ref a) vs H Q
def mutK (p : D → Bool) (i : Nat) (g : D → List D → Option (D × D)) (l : List (D × Kd)) (ρ1 : Env) : Res (D × Kd × Env) := match ρ1[i]? with
  | some (some (d0, fl1)) => if ownFl fl1 = true ∧ fzAll l = true ∧ p d0 = true then
      match g d0 (l.map (·.1)) with
      | some (d1, dr) => .ok (dr, .fz, ρ1.set i (some (d1, fl1)))
      | none => .bad
    else .bad
  | _ => .bad
/-- x.m(e, ..), x in slot i -/
def xMut (p : D → Bool) (i : Nat) (g : D → List D → Option (D × D)) (f : AE) : EE := fun ρ => match ρ[i]? with
  | some (some (d0, fl)) => if ownFl fl = true ∧ p d0 = true then (do
      let (l, ρ1) ← f ρ
      mutK p i g l ρ1) else .bad
  | _ => .bad
theorem Objs.noExt {F H a d} (h : Objs G F H a d) : ∃ o, H a = some o ∧ isTbl o = false ∧ ∀ φ, o ≠ .ext φ := by
  cases d <;> first | exact False.elim h | skip
  case lst es => obtain ⟨ws, e, _⟩ := h; exact ⟨_, e, rfl, fun _ z => by cases z⟩
  case dK es => obtain ⟨ws, e, _⟩ := h; exact ⟨_, e, rfl, fun _ z => by cases z⟩
  case dT es => obtain ⟨ws, e, _⟩ := h; exact ⟨_, e, rfl, fun _ z => by cases z⟩
  case ins c es => obtain ⟨C, dx, ws, e, _⟩ := h; exact ⟨_, e, rfl, fun _ z => by cases z⟩
theorem mut_post {s : Bool} {x y : Stt} {vs : List V} {l : List (D × Kd)} {i : Nat} {d0 d1 : D} {fl : Fl} {a : Addr} {o' : HO} (hx : SInv G x) (hy : SInv G y) (e : Ext s x y) (hi : y.rho[i]? = some (some (d0, fl))) (hfl : fl = .ow ∨ fl = .pn) (hv : y.sg[i]? = some (some (.ref a))) (w : Own G y.F y.H (.ref a) d0 [a]) (ob : Objs G y.F y.H a d0) (nF : ¬ y.F a) (ho : isTbl o' = false)
    (ob' : Objs G y.F (upd y.H a o') a d1) :
    SInv G { y with H := upd y.H a o', rho := y.rho.set i (some (d1, fl)) } ∧ Ext false x { y with H := upd y.H a o', rho := y.rho.set i (some (d1, fl)) } := by
  obtain ⟨o, eo, to, no⟩ := ob.noExt
  have hlen : i < y.rho.length := (List.getElem?_eq_some_iff.mp hi).1
  have s2 := hy.sl.mut (H' := upd y.H a o') hy.nd hi hfl hv w (by simp) (.ow nF ob') fun b ob h n _ => by
    rw [upd_ne (by simpa using n)]; exact h
  have ha : a ∈ y.o ∨ a ∈ y.p := by
    obtain ⟨v0, fp, e1, w1, _, n0, hm⟩ := hy.sl.get hi
    rw [hv] at e1; cases e1
    have := w.uniq w1
    subst this
    rcases hm a (by simp) with z | z | z
    · exact .inl z.2
    · exact .inr z.2
    · obtain ⟨z, _⟩ := z; rcases hfl with q | q <;> (rw [q] at z; cases z)
  have kp : Kept [a] y.H (upd y.H a o') := fun b ob h n _ => by rw [upd_ne (by simpa using n)]; exact h
  have dm : ∀ b, upd y.H a o' b = none → y.H b = none := fun b h => by
    by_cases eb : b = a
    · subst eb; rw [upd_same] at h; cases h
    · rwa [upd_ne eb] at h
  refine ⟨⟨s2, hy.nd, fun b f => ?_, tabs_upd hy.tb eo to no⟩, ⟨e.sg, e.kp.trans kp fun b hb => ?_, e.f1, e.f2, e.o1, e.p1, e.b1, fun b h => e.dm b (dm b h), fun j d' fl' e1 hf' => ?_, fun q => by cases q⟩⟩
  · have nb : b ≠ a := fun z => nF (z ▸ f)
    obtain ⟨o, h, t⟩ := hy.dom b f
    exact ⟨o, by show upd y.H a o' b = some o; rw [upd_ne nb]; exact h, t⟩
  · have : b = a := by simpa using hb
    subst this
    rcases ha with q | q
    · rcases e.o1 b q with q | q
      · exact .inl (by simp [q])
      · exact .inr q
    · rw [e.p1] at q; exact .inl (by simp [q])
  · obtain ⟨d2, e2, k2⟩ := e.lk j d' fl' e1 hf'
    by_cases hj : i = j
    · subst hj
      rw [hi] at e2; cases e2
      refine ⟨d1, List.getElem?_set_self hlen, fun z => ?_⟩
      rcases hfl with q | q <;> (rw [q] at z; cases z)
    · exact ⟨d2, by rw [List.getElem?_set_ne hj]; exact e2, k2⟩
/-- the object that an owned slot holds -/
theorem own_slot {y : Stt} {i : Nat} {d0 : D} {fl : Fl} {v : V} (hy : SInv G y) (hi : y.rho[i]? = some (some (d0, fl))) (hfl : fl = .ow ∨ fl = .pn) (hd : d0.isDrw = false) (hv : y.sg[i]? = some (some v)) : ∃ a, v = .ref a ∧ Own G y.F y.H (.ref a) d0 [a] ∧ Objs G y.F y.H a d0 ∧ ¬ y.F a := by
  obtain ⟨v0, fp, e1, w1, _, n0, hm⟩ := hy.sl.get hi
  rw [hv] at e1; cases e1
  cases w1 with
  | fz r => exact absurd rfl (n0 hfl)
  | ow f ob => exact ⟨_, rfl, .ow f ob, ob, f⟩
  | drw _ _ _ _ _ _ => cases hd
theorem kf_upd {F : Addr → Prop} {H : Hp} {a : Addr} {o' : HO} (nF : ¬ F a) : KeptF F H (upd H a o') := fun b o f e _ => by
  have nb : b ≠ a := fun z => nF (by rw [← z]; exact f)
  rw [upd_ne nb]; exact e
def D.isLst : D → Bool
  | .lst _ => true
  | _ => false
theorem tS_mut {T : String} {r : V → List V → Hp → VK → Prop} {p : D → Bool} {g : D → List D → Option (D × D)} {i : Nat} {s : Bool} {f : AE} {σ H Q} (hg : MutR G r g) (hp : ∀ d, p d = true → d.isDrw = false) (hty : ∀ {F H a d0}, Objs G F H a d0 → p d0 = true → tyV X.K T (.ref a) H)
    (h : tS G W false (xMut p i g f) σ H Q) : tBM X.K T r (tVar i) (tA G W s f) σ H Q := by
  obtain ⟨x, rfl, rfl, hx, q⟩ := h
  unfold xMut at q
  cases e0 : x.rho[i]? with
  | none => simp only [e0] at q
  | some sl =>
  cases sl with
  | none => simp only [e0] at q
  | some df =>
  obtain ⟨d00, fl0⟩ := df
  simp only [e0] at q
  by_cases hfl0 : ownFl fl0 = true ∧ p d00 = true
  · rw [if_pos hfl0] at q
    obtain ⟨v0, fp0, ev, _⟩ := hx.sl.get e0
    obtain ⟨a0, rfl, w0, ob0, nf0⟩ := own_slot hx e0 (ownFl_iff hfl0.1) (hp _ hfl0.2) ev
    refine ⟨.ref a0, ev, hty ob0 hfl0.2, x, rfl, rfl, hx, ?_⟩
    cases e : f x.rho with
    | bad => simp only [e, Res.bind_bad] at q
    | err c d ρ' =>
      simp only [e, Res.bind_err] at q
      exact fun y cls dx hρ iy ey hev => q y cls dx hρ iy (ey.weak fun z => by cases z) hev
    | ok rr =>
      obtain ⟨l, ρ1⟩ := rr
      simp only [e, Res.bind_ok] at q
      intro y vs hρ iy ey ay
      unfold mutK at q
      cases e1 : ρ1[i]? with
      | none => simp only [e1] at q
      | some sl1 =>
      cases sl1 with
      | none => simp only [e1] at q
      | some df1 =>
      obtain ⟨d0, fl⟩ := df1
      simp only [e1] at q
      by_cases hc : ownFl fl = true ∧ fzAll l = true ∧ p d0 = true
      · rw [if_pos hc] at q
        cases e2 : g d0 (l.map (·.1)) with
        | none => simp only [e2] at q
        | some dd =>
          obtain ⟨d1, dr⟩ := dd
          simp only [e2] at q
          obtain ⟨F', i', e', rp⟩ := ay.frozen hx iy ey hc.2.1
          have hi : ({ y with F := F' } : Stt).rho[i]? = some (some (d0, fl)) := by show y.rho[i]? = _; rw [hρ]; exact e1
          have hv : ({ y with F := F' } : Stt).sg[i]? = some (some (.ref a0)) := by show y.sg[i]? = _; rw [ey.sg]; exact ev
          obtain ⟨a, ea, w, ob, nF⟩ := own_slot i' hi (ownFl_iff hc.1) (hp _ hc.2.2) hv
          cases ea
          refine hg F' y.H a0 _ vs _ d1 dr Q ob nF rp e2 fun o' u to ob' ru => ?_
          obtain ⟨i2, e2'⟩ := mut_post (l := l) (vs := vs) hx i' e' hi (ownFl_iff hc.1) hv w ob nF to ob'
          exact q { y with F := F', H := upd y.H a0 o', rho := y.rho.set i (some (d1, fl)) } u [] (by show y.rho.set i _ = _; rw [hρ]) ⟨i2, e2', .fz ru, rfl, .fz⟩
      · rw [if_neg hc] at q; exact q.elim
  · rw [if_neg hfl0] at q; exact q.elim
theorem isLst_ty {F H a d0} (ob : Objs G F H a d0) (h : d0.isLst = true) : tyV X.K "list" (.ref a) H := by
  cases d0 <;> first | cases h | skip
  case lst es => obtain ⟨ws, e, _⟩ := ob; exact .inl ⟨rfl, _, .of e⟩
theorem isLst_drw : ∀ d : D, d.isLst = true → d.isDrw = false := fun d h => by cases d <;> first | rfl | cases h
def mAppend : D → List D → Option (D × D)
  | .lst es, [d] => if es.length < sizeLine then some (.lst (es ++ [d]), .non) else none
  | _, _ => none
theorem m_append : MutR G rAppend mAppend := by
  intro F H a d0 vs ds d1 dr Q ob nF r hg q
  unfold mAppend at hg
  split at hg
  · split at hg
    · rename_i hz
      cases hg
      obtain ⟨ws, e, z, rw'⟩ := ob
      obtain ⟨v, us, rfl, r1, r2⟩ := r.cons_of
      rw [r2.nil_of]
      have kf : KeptF F H (upd H a (.lst (ws ++ [v]))) := kf_upd nF
      refine ⟨a, ws, v, rfl, rfl, e, by rw [rw'.length]; exact hz, q _ .non rfl ⟨_, upd_same, by simp; rw [rw'.length]; omega, (rw'.snoc r1).keep (fun _ h => h) kf⟩ (.atom rfl .nil)⟩
    · cases hg
  · cases hg
def mExtend : D → List D → Option (D × D)
  | .lst es, [.lst fs] => if es.length + fs.length ≤ sizeLine then some (.lst (es ++ fs), .non) else none
  | _, _ => none
theorem m_extend : MutR G rExtend mExtend := by
  intro F H a d0 vs ds d1 dr Q ob nF r hg q
  unfold mExtend at hg
  split at hg
  · split at hg
    · rename_i hz
      cases hg
      obtain ⟨ws, e, z, rw'⟩ := ob
      obtain ⟨v, us, rfl, r1, r2⟩ := r.cons_of
      rw [r2.nil_of]
      obtain ⟨b, zs, rfl, e2, z2, r3⟩ := (Own.fz r1).lstM
      have kf : KeptF F H (upd H a (.lst (ws ++ zs))) := kf_upd nF
      have hz' : ws.length + zs.length ≤ sizeLine := by rw [rw'.length, r3.length]; exact hz
      exact ⟨a, b, ws, zs, rfl, rfl, e, e2, hz', q _ .non rfl ⟨_, upd_same, by simpa using hz', (rw'.append r3).keep (fun _ h => h) kf⟩ (.atom rfl .nil)⟩
    · cases hg
  · cases hg
/-- pop of the last item -/
def mPop : D → List D → Option (D × D)
  | .lst es, [] => (es[es.length - 1]?).map fun d => (.lst es.dropLast, d)
  | _, _ => none
theorem Rep.dropLast {F : Addr → Prop} {H : Hp} {vs : List V} {ds : List D} (h : Rep G F H vs ds) : Rep G F H vs.dropLast ds.dropLast := by
  rw [List.dropLast_eq_take, List.dropLast_eq_take, h.length]
  exact h.take _
theorem m_pop : MutR G rPop mPop := by
  intro F H a d0 vs ds d1 dr Q ob nF r hg q
  unfold mPop at hg
  split at hg
  · simp only [Option.map_eq_some_iff, Prod.mk.injEq] at hg
    obtain ⟨d, e0, rfl, rfl⟩ := hg
    obtain ⟨ws, e, z, rw'⟩ := ob
    rw [r.nil_of]
    obtain ⟨v, ev, rv⟩ := rw'.get e0
    have kf : KeptF F H (upd H a (.lst ws.dropLast)) := kf_upd nF
    refine ⟨a, ws, v, rfl, rfl, e, by rw [rw'.length]; exact ev, q _ v rfl ⟨_, upd_same, by simp; omega, rw'.dropLast.keep (fun _ h => h) kf⟩ (rv.keep (fun _ h => h) kf)⟩
  · cases hg
/-- pop at a place -/
def mPopAt : D → List D → Option (D × D)
  | .lst es, [.int i] => if 0 ≤ i ∧ i < es.length ∧ es.length ≤ sizeLine then (es[i.toNat]?).map fun d => (.lst (es.eraseIdx i.toNat), d) else none
  | _, _ => none
theorem Rep.eraseIdx {F : Addr → Prop} {H : Hp} {vs : List V} {ds : List D} (h : Rep G F H vs ds) (i : Nat) : Rep G F H (vs.eraseIdx i) (ds.eraseIdx i) := by
  rw [List.eraseIdx_eq_take_drop_succ, List.eraseIdx_eq_take_drop_succ]
  exact (h.take _).append (h.drop _)
theorem m_popAt : MutR G rPopAt mPopAt := by
  intro F H a d0 vs ds d1 dr Q ob nF r hg q
  unfold mPopAt at hg
  split at hg
  · rename_i es i
    split at hg
    · rename_i hi
      simp only [Option.map_eq_some_iff, Prod.mk.injEq] at hg
      obtain ⟨d, e0, rfl, rfl⟩ := hg
      obtain ⟨ws, e, z, rw'⟩ := ob
      obtain ⟨v, us, rfl, r1, r2⟩ := r.cons_of
      rw [r2.nil_of, r1.int_of]
      obtain ⟨v, ev, rv⟩ := rw'.get e0
      have kf : KeptF F H (upd H a (.lst (ws.eraseIdx i.toNat))) := kf_upd nF
      have h63 := line63
      have hs : seqIndex? i ws.length = some i.toNat := by
        have := (ixN_seq (n := ws.length) (i := i) (j := i.toNat) (by unfold ixN; rw [if_pos hi.1, if_pos (by rw [rw'.length]; exact hi.2.1)])).1
        exact this
      refine ⟨a, ws, i, i.toNat, v, rfl, rfl, e, by omega, by omega, hs, ev, q _ v rfl ⟨_, upd_same, Nat.le_trans (len_erase _ _) z, (rw'.eraseIdx _).keep (fun _ h => h) kf⟩ (rv.keep (fun _ h => h) kf)⟩
    · cases hg
  · cases hg
theorem r_append {i : Nat} {o e : Expr} {apos pos : Pos} {s : Bool} {f : AE} (h : PE X (.Call (.Attribute o "append" apos) [e] [] pos) (tBM X.K "list" rAppend (tVar i) (tA G W s f))) : PE X (.Call (.Attribute o "append" apos) [e] [] pos) (tS G W false (xMut D.isLst i mAppend f)) :=
  PE.of h fun σ H Q q => tS_mut m_append isLst_drw isLst_ty q
theorem r_mut {i : Nat} {e : Expr} {T : String} {r : V → List V → Hp → VK → Prop} {p : D → Bool} {g : D → List D → Option (D × D)} {s : Bool} {f : AE} (hg : MutR G r g) (hp : ∀ d, p d = true → d.isDrw = false) (hty : ∀ {F H a d0}, Objs G F H a d0 → p d0 = true → tyV X.K T (.ref a) H) (h : PE X e (tBM X.K T r (tVar i) (tA G W s f))) : PE X e (tS G W false (xMut p i g f)) :=
  PE.of h fun σ H Q q => tS_mut hg hp hty q
end
end VL
/-! VL17: the draws; attributes stored; what is never reached. -/
namespace VL
open PySem PySem.Spec PyProof.Rows L2

theorem Own.drw_of {G : Gm} {F : Addr → Prop} {H : Hp} {v : V} {gr : List Int} {r : Int} {ce : List Int} {t : Int} {fp : List Addr} (h : Own G F H v (.drw gr r ce t) fp) : ∃ a g c, v = .ref a ∧ fp = [a, g] ∧ ¬ F a ∧ ¬ F g ∧ F c ∧ gr.length ≤ sizeLine ∧ ce.length ≤ sizeLine ∧ DrwAt H a g c gr r ce t := by
  cases h with
  | fz r => cases r; rename_i h _; cases v <;> simp [atomD] at h
  | ow _ ob => exact False.elim ob
  | drw f1 f2 f3 z1 z2 q => exact ⟨_, _, _, rfl, rfl, f1, f2, f3, z1, z2, q⟩
/-- the slot that holds the draws -/
def drwAt (i : Nat) (ρ : Env) : Option (List Int × Int × List Int × Int × Fl) := match ρ[i]? with
  | some (some (.drw gr r ce t, fl)) => if ownFl fl = true then some (gr, r, ce, t, fl) else none
  | _ => none
theorem drwAt_of {i : Nat} {ρ : Env} {gr r ce t fl} (h : drwAt i ρ = some (gr, r, ce, t, fl)) : ρ[i]? = some (some (.drw gr r ce t, fl)) ∧ (fl = .ow ∨ fl = .pn) := by
  unfold drwAt at h
  split at h
  · split at h
    · rename_i hf
      cases h
      exact ⟨‹_›, ownFl_iff hf⟩
    · cases h
  · cases h
def xDrwRest (i : Nat) : EE := fun ρ => match drwAt i ρ with
  | some (_, r, _, _, _) => .ok (.int r, .fz, ρ)
  | none => .bad
def xDrwTurn (i : Nat) : EE := fun ρ => match drwAt i ρ with
  | some (_, _, _, t, _) => .ok (.int t, .fz, ρ)
  | none => .bad
def xDrwCells (i : Nat) : EE := fun ρ => match drwAt i ρ with
  | some (_, _, ce, _, _) => .ok (.lst (ce.map D.int), .fz, ρ)
  | none => .bad
/-- great != [] -/
def xDrwNe (i : Nat) : EE := fun ρ => match drwAt i ρ with
  | some (gr, _, _, _, _) => .ok (.bl (!gr.isEmpty), .fz, ρ)
  | none => .bad
/-- great.pop(0) -/
def xDrwPop (i : Nat) : EE := fun ρ => match drwAt i ρ with
  | some (n :: gr, r, ce, t, fl) => .ok (.int n, .fz, ρ.set i (some (.drw gr r ce t, fl)))
  | _ => .bad
def sDrwRest (i : Nat) (f : EE) : SE := fun ρ => do
  let (d, _, ρ1) ← f ρ
  match d, drwAt i ρ1 with
  | .int n, some (gr, _, ce, t, fl) => .ok (.nx (ρ1.set i (some (.drw gr n ce t, fl))))
  | _, _ => .bad
def sDrwTurn (i : Nat) (f : EE) : SE := fun ρ => do
  let (d, _, ρ1) ← f ρ
  match d, drwAt i ρ1 with
  | .int n, some (gr, r, ce, _, fl) => .ok (.nx (ρ1.set i (some (.drw gr r ce n, fl))))
  | _, _ => .bad
def sBad : SE := fun _ => .bad
section
variable {X : Cx} {G : Gm} {W : WX} {z : Stt}
theorem r_never {st : Stmt} : PS X st (tT G W z sBad) := PS.of ps_never fun D σ H ⟨x, _, _, _, _, q⟩ => q
theorem drw_slot {x : Stt} {i : Nat} {gr r ce t fl} (hx : SInv G x) (h : drwAt i x.rho = some (gr, r, ce, t, fl)) : ∃ a g c, x.sg[i]? = some (some (.ref a)) ∧ Own G x.F x.H (.ref a) (.drw gr r ce t) [a, g] ∧ ¬ x.F a ∧ ¬ x.F g ∧ x.F c ∧ gr.length ≤ sizeLine ∧ ce.length ≤ sizeLine ∧ DrwAt x.H a g c gr r ce t ∧ (∀ b ∈ [a, g], b ∈ x.o ∨ b ∈ x.p) := by
  obtain ⟨e, hf⟩ := drwAt_of h
  obtain ⟨v, fp, ev, w, _, n0, m⟩ := hx.sl.get e
  obtain ⟨a, g, c, rfl, rfl, f1, f2, f3, z1, z2, q⟩ := w.drw_of
  refine ⟨a, g, c, ev, w, f1, f2, f3, z1, z2, q, fun b hb => ?_⟩
  rcases m b hb with z | z | z
  · exact .inl z.2
  · exact .inr z.2
  · obtain ⟨z, _⟩ := z; rcases hf with q | q <;> (rw [q] at z; cases z)
theorem dget {H : Hp} {a g c : Addr} {gr : List Int} {r : Int} {ce : List Int} {t : Int} (h : DrwAt H a g c gr r ce t) {key : Str} {v : V} (e : valV [(kw "great", V.ref g), (kw "rest", .int r), (kw "cells", .ref c), (kw "turn", .int t)] (kw key) = some v) : DGet H a (.str key) (some v) := by
  have := DGet.k (k := kw key) h.1
  rw [e] at this
  exact this
theorem v_great {g c : Addr} {r t : Int} : valV [(kw "great", V.ref g), (kw "rest", .int r), (kw "cells", .ref c), (kw "turn", .int t)] (kw "great") = some (.ref g) := rfl
theorem v_rest {g c : Addr} {r t : Int} : valV [(kw "great", V.ref g), (kw "rest", .int r), (kw "cells", .ref c), (kw "turn", .int t)] (kw "rest") = some (.int r) := rfl
theorem v_cells {g c : Addr} {r t : Int} : valV [(kw "great", V.ref g), (kw "rest", .int r), (kw "cells", .ref c), (kw "turn", .int t)] (kw "cells") = some (.ref c) := rfl
theorem v_turn {g c : Addr} {r t : Int} : valV [(kw "great", V.ref g), (kw "rest", .int r), (kw "cells", .ref c), (kw "turn", .int t)] (kw "turn") = some (.int t) := rfl
theorem p_rest {g c : Addr} {r t n : Int} : putK [(kw "great", V.ref g), (kw "rest", .int r), (kw "cells", .ref c), (kw "turn", .int t)] (kw "rest") (.int n) = [(kw "great", V.ref g), (kw "rest", .int n), (kw "cells", .ref c), (kw "turn", .int t)] := rfl
theorem p_turn {g c : Addr} {r t n : Int} : putK [(kw "great", V.ref g), (kw "rest", .int r), (kw "cells", .ref c), (kw "turn", .int t)] (kw "turn") (.int n) = [(kw "great", V.ref g), (kw "rest", .int r), (kw "cells", .ref c), (kw "turn", .int n)] := rfl
end
end VL
/-! VL18: the rules for the draws. -/
namespace VL
open PySem PySem.Spec PyProof.Rows L2

theorem mutF_post {G : Gm} {s : Bool} {x y : Stt} {i : Nat} {d0 d1 : D} {fl : Fl} {v : V} {fp : List Addr} {H' : Hp} (hx : SInv G x) (hy : SInv G y) (e : Ext s x y) (hi : y.rho[i]? = some (some (d0, fl))) (hfl : fl = .ow ∨ fl = .pn) (hv : y.sg[i]? = some (some v)) (w : Own G y.F y.H v d0 fp) (n : fp ≠ []) (w' : Own G y.F H' v d1 fp)
    (kp : Kept fp y.H H') (dm : ∀ b, H' b = none → y.H b = none) (tb : LamX.Tabs G.T H') :
    SInv G { y with H := H', rho := y.rho.set i (some (d1, fl)) } ∧ Ext false x { y with H := H', rho := y.rho.set i (some (d1, fl)) } := by
  have hlen : i < y.rho.length := (List.getElem?_eq_some_iff.mp hi).1
  have s2 := hy.sl.mut (H' := H') hy.nd hi hfl hv w n w' kp
  have ha : ∀ a ∈ fp, a ∈ y.o ∨ a ∈ y.p := by
    obtain ⟨v0, fp', e1, w1, _, n0, hm⟩ := hy.sl.get hi
    rw [hv] at e1; cases e1
    have := w.uniq w1
    subst this
    intro a ha
    rcases hm a ha with z | z | z
    · exact .inl z.2
    · exact .inr z.2
    · obtain ⟨z, _⟩ := z; rcases hfl with q | q <;> (rw [q] at z; cases z)
  refine ⟨⟨s2, hy.nd, fun b f => ?_, tb⟩, ⟨e.sg, e.kp.trans kp fun b hb => ?_, e.f1, e.f2, e.o1, e.p1, e.b1, fun b h => e.dm b (dm b h), fun j d' fl' e1 hf' => ?_, fun q => by cases q⟩⟩
  · obtain ⟨o, h, t⟩ := hy.dom b f
    exact ⟨o, kp b o h (fun z => (w.there b z).1 f) t, t⟩
  · rcases ha b hb with q | q
    · rcases e.o1 b q with q | q
      · exact .inl (by simp [q])
      · exact .inr q
    · rw [e.p1] at q; exact .inl (by simp [q])
  · obtain ⟨d2, e2, k2⟩ := e.lk j d' fl' e1 hf'
    by_cases hj : i = j
    · subst hj
      rw [hi] at e2; cases e2
      refine ⟨d1, List.getElem?_set_self hlen, fun z => ?_⟩
      rcases hfl with q | q <;> (rw [q] at z; cases z)
    · exact ⟨d2, by rw [List.getElem?_set_ne hj]; exact e2, k2⟩
section
variable {X : Cx} {G : Gm} {W : WX} {z : Stt} {i kk : Nat} {o k : Expr} {pos p1 : Pos}
theorem r_drwRest (hr : RoomG kk X.A) (ho : PE X o (tVar i)) (hk : PE X k (tC (.str "rest"))) (hs : NoSl k) : PE X (.Subscript o k pos) (tS G W true (xDrwRest i)) := PE.of (pe_dget (Nat.lt_of_le_of_lt (Nat.add_le_add_left (by decide) _) hr.room.units) ho hk hs) fun σ H Q h => by
  obtain ⟨x, rfl, rfl, hx, q⟩ := h
  unfold xDrwRest at q
  cases h1 : drwAt i x.rho with
  | none => simp only [h1] at q
  | some t =>
    obtain ⟨gr, r, ce, t, fl⟩ := t
    simp only [h1] at q
    obtain ⟨a, g, c, e1, w, f1, f2, f3, z1, z2, dd, m⟩ := drw_slot hx h1
    exact ⟨_, e1, a, .int r, rfl, dget dd v_rest, q x _ [] rfl ⟨hx, .refl, .fz (.atom rfl .nil), rfl, .fz⟩⟩
theorem r_drwTurn (hr : RoomG kk X.A) (ho : PE X o (tVar i)) (hk : PE X k (tC (.str "turn"))) (hs : NoSl k) : PE X (.Subscript o k pos) (tS G W true (xDrwTurn i)) := PE.of (pe_dget (Nat.lt_of_le_of_lt (Nat.add_le_add_left (by decide) _) hr.room.units) ho hk hs) fun σ H Q h => by
  obtain ⟨x, rfl, rfl, hx, q⟩ := h
  unfold xDrwTurn at q
  cases h1 : drwAt i x.rho with
  | none => simp only [h1] at q
  | some t =>
    obtain ⟨gr, r, ce, t, fl⟩ := t
    simp only [h1] at q
    obtain ⟨a, g, c, e1, w, f1, f2, f3, z1, z2, dd, m⟩ := drw_slot hx h1
    exact ⟨_, e1, a, .int t, rfl, dget dd v_turn, q x _ [] rfl ⟨hx, .refl, .fz (.atom rfl .nil), rfl, .fz⟩⟩
theorem r_drwCells (hr : RoomG kk X.A) (ho : PE X o (tVar i)) (hk : PE X k (tC (.str "cells"))) (hs : NoSl k) : PE X (.Subscript o k pos) (tS G W true (xDrwCells i)) := PE.of (pe_dget (Nat.lt_of_le_of_lt (Nat.add_le_add_left (by decide) _) hr.room.units) ho hk hs) fun σ H Q h => by
  obtain ⟨x, rfl, rfl, hx, q⟩ := h
  unfold xDrwCells at q
  cases h1 : drwAt i x.rho with
  | none => simp only [h1] at q
  | some t =>
    obtain ⟨gr, r, ce, t, fl⟩ := t
    simp only [h1] at q
    obtain ⟨a, g, c, e1, w, f1, f2, f3, z1, z2, dd, m⟩ := drw_slot hx h1
    exact ⟨_, e1, a, .ref c, rfl, dget dd v_cells, q x _ [] rfl ⟨hx, .refl, .fz (.lst f3 dd.2.2.1 (by simpa using z2) (Rep.ints _) .nil), rfl, .fz⟩⟩
theorem toPyL_ints : ∀ gr : List Int, toPyL (gr.map D.int) = some (gr.map fun n => PyData.int n)
  | [] => rfl
  | n :: gr => by simp [toPyL, toPy, toPyL_ints gr]
theorem lay_ints : ∀ gr : List Int, PyData.canLayAll0 (gr.map fun n => PyData.int n) = true ∧ PyData.depthAll (gr.map fun n => PyData.int n) ≤ 1
  | [] => by simp [PyData.canLayAll0, PyData.depthAll]
  | n :: gr => by
    obtain ⟨h1, h2⟩ := lay_ints gr
    simp only [List.map_cons, PyData.canLayAll0, PyData.canLay0, PyData.depthAll, PyData.depth, h1, Bool.and_self, true_and]
    omega
theorem shaped_ints (gr : List Int) : SeqAt.shaped (.list (gr.map fun n => PyData.int n)) = true := by
  obtain ⟨h1, h2⟩ := lay_ints gr
  unfold SeqAt.shaped
  have e : PyData.depth (.list (gr.map fun n => PyData.int n)) = PyData.depthAll (gr.map fun n => PyData.int n) + 1 := by simp only [PyData.depth]; try omega
  simp only [PyData.canLay0, e, h1, Bool.true_and, decide_eq_true_eq]
  omega
theorem dNe_nil (gr : List Int) : dNe (.lst (gr.map D.int)) (.lst []) = some (.bl (!gr.isEmpty), .fz) := by
  have e : dEqB (.lst (gr.map D.int)) (.lst []) = some gr.isEmpty := by
    show pyEq _ _ = _
    unfold pyEq
    have h1 : toPy (.lst (gr.map D.int)) = some (.list (gr.map fun n => PyData.int n)) := by simp [toPy, toPyL_ints]
    have h2 : toPy (.lst []) = some (.list []) := by simp [toPy, toPyL]
    rw [h1, h2]
    simp only
    rw [if_pos ⟨shaped_ints gr, shaped_ints []⟩]
    cases gr with
    | nil => simp [PyData.eqv, PyData.eqvAll]
    | cons n gr => simp [PyData.eqv, PyData.eqvAll]
  unfold dNe
  rw [e]; rfl
theorem Own.objs_of {F : Addr → Prop} {H : Hp} {a : Addr} {d : D} {b : Addr} (h : Own G F H (.ref a) d [b]) : Objs G F H a d := by
  cases h with
  | ow _ ob => exact ob
theorem drwGreat {gr : List Int} {F : Addr → Prop} {H : Hp} {a g c : Addr} {r t : Int} {ce : List Int} (f2 : ¬ F g) (z1 : gr.length ≤ sizeLine) (dd : DrwAt H a g c gr r ce t) : Own G F H (.ref g) (.lst (gr.map D.int)) [g] := .ow f2 ⟨_, dd.2.1, by simpa using z1, Rep.ints _⟩
theorem drwNe_imp (hr : RoomG kk X.A) (hK : X.K = G.K) {σ H} {Q : VK} (h : tS G W true (xDrwNe i) σ H Q) : tOp (fun x y H Q => rNe x y H Q ∨ rNeD X.K x y H Q) (tDGet (tVar i) (tC (.str "great"))) (tS G W true (xLst aN)) σ H Q := by
  obtain ⟨x, rfl, rfl, hx, q⟩ := h
  unfold xDrwNe at q
  cases h1 : drwAt i x.rho with
  | none => simp only [h1] at q
  | some t =>
    obtain ⟨gr, r, ce, t, fl⟩ := t
    simp only [h1] at q
    obtain ⟨a, g, c, e1, w, f1, f2, f3, z1, z2, dd, m⟩ := drw_slot hx h1
    refine ⟨_, e1, a, .ref g, rfl, dget dd v_great, x, rfl, rfl, hx, ?_⟩
    show ∀ (y : Stt) (v : V) (fv : List Addr), y.rho = x.rho → EPost G true x y v (.lst []) .ow fv → _
    intro y v fv hy P
    obtain ⟨k1, k2, k3⟩ := P.ext.st rfl
    have w2 : Own G y.F y.H (.ref g) (.lst (gr.map D.int)) [g] := (drwGreat f2 z1 dd).keep P.ext.f1 (P.ext.keptF hx) fun b hb => by
      have : b = g := by simpa using hb
      subst this
      refine ⟨fun f => ?_, fun o e t => k2 b o e (by simp) t⟩
      rcases P.ext.f2 b f with q | q
      · exact f2 q
      · rw [dd.2.1] at q; cases q
    refine (o_ne (G := G) hr hK).2 y.F y.H _ _ _ _ _ _ _ _ _ P.inv.dom w2 P.own (dNe_nil gr) fun F' H' u fu n => ?_
    exact q { y with F := F', H := H' } u fu hy (EPost.after hx P.inv P.ext n)
/-- great != [] -/
theorem r_drwNe {p2 p3 : Pos} (hr : RoomG kk X.A) (hK : X.K = G.K) (ho : PE X o (tVar i)) (hk : PE X k (tC (.str "great"))) (hs : NoSl k) : PE X (.Compare (.Subscript o k p1) [.NotEq] [.List [] p2] p3) (tS G W true (xDrwNe i)) :=
  PE.of (pe_cmpR (o_ne (G := G) hr hK).1 (pe_dget (Nat.lt_of_le_of_lt (Nat.add_le_add_left (by decide) _) hr.room.units) ho hk hs) (r_lst (G := G) (W := W) r_anil) rfl) fun σ H Q h => drwNe_imp hr hK h
/-- great.pop(0) -/
theorem r_drwPop {e : Expr} {apos cpos : Pos} (hr : RoomG kk X.A) (ho : PE X o (tVar i)) (hk : PE X k (tC (.str "great"))) (hs : NoSl k) (he : PE X e (tC (.int 0))) (hst : starEach [e] X.env = (false, eval e X.env) :: starEach [] X.env)
    (h : ∀ to t, PE X (.Subscript o k p1) to → PA X [e] t → PE X (.Call (.Attribute (.Subscript o k p1) "pop" apos) [e] [] cpos) (tBM X.K "list" rPopAt to t)) :
    PE X (.Call (.Attribute (.Subscript o k p1) "pop" apos) [e] [] cpos) (tS G W false (xDrwPop i)) :=
  PE.of (h _ _ (pe_dget (Nat.lt_of_le_of_lt (Nat.add_le_add_left (by decide) _) hr.room.units) ho hk hs) (pa_cons he pa_nil hst)) fun σ H Q h => by
  obtain ⟨x, rfl, rfl, hx, q⟩ := h
  unfold xDrwPop at q
  cases h1 : drwAt i x.rho with
  | none => simp only [h1] at q
  | some t =>
    obtain ⟨gr, r, ce, t, fl⟩ := t
    cases gr with
    | nil => simp only [h1] at q
    | cons n gr =>
    simp only [h1] at q
    obtain ⟨a, g, c, e1, w, f1, f2, f3, z1, z2, dd, m⟩ := drw_slot hx h1
    refine ⟨_, e1, a, .ref g, rfl, dget dd v_great, ?_⟩
    refine ⟨isLst_ty (G := G) (drwGreat f2 z1 dd).objs_of rfl, ?_⟩
    have h63 := line63
    refine ⟨g, _, 0, 0, .int n, rfl, rfl, dd.2.1, by decide, by decide, ?_, rfl, ?_⟩
    · have := (ixN_seq (n := ((n :: gr).map V.int).length) (i := 0) (j := 0) (by unfold ixN; simp)).1
      exact this
    obtain ⟨ei, hfl⟩ := drwAt_of h1
    have kp : Kept [a, g] x.H (upd x.H g (.lst (gr.map V.int))) := fun b o e n _ => by
      rw [upd_ne (fun z => n (by simp [z]))]; exact e
    have w' : Own G x.F (upd x.H g (.lst (gr.map V.int))) (.ref a) (.drw gr r ce t) [a, g] := by
      refine .drw (c := c) f1 f2 f3 (Nat.le_of_succ_le z1) z2 ⟨?_, upd_same, ?_, dd.2.2.2⟩
      · rw [upd_ne dd.2.2.2]; exact dd.1
      · rw [upd_ne (fun z : c = g => f2 (z ▸ f3))]; exact dd.2.2.1
    obtain ⟨i2, e2⟩ := mutF_post (s := true) hx hx .refl ei hfl e1 w (by simp) w' kp (fun b hb => by
      by_cases eb : b = g
      · subst eb; rw [upd_same] at hb; cases hb
      · rwa [upd_ne eb] at hb) (tabs_upd hx.tb dd.2.1 rfl (fun φ z => by cases z))
    exact q { x with H := upd x.H g (.lst (gr.map V.int)), rho := x.rho.set i (some (.drw gr r ce t, fl)) } (.int n) [] rfl ⟨i2, e2, .fz (.atom rfl .nil), rfl, .fz⟩
theorem drw_put {a g c : Addr} {gr : List Int} {r r' : Int} {ce : List Int} {t t' : Int} {x y : Stt} {fl : Fl} {s : Bool} {o' : List (Key × V)} (hx : SInv G x) (e : Ext s x y) (hy : SInv G y) (ei : y.rho[i]? = some (some (.drw gr r ce t, fl))) (hfl : fl = .ow ∨ fl = .pn) (e1 : y.sg[i]? = some (some (.ref a))) (w : Own G y.F y.H (.ref a) (.drw gr r ce t) [a, g]) (f1 : ¬ y.F a) (f2 : ¬ y.F g) (f3 : y.F c) (z1 : gr.length ≤ sizeLine) (z2 : ce.length ≤ sizeLine) (dd : DrwAt y.H a g c gr r ce t) (ho : o' = [(kw "great", .ref g), (kw "rest", .int r'), (kw "cells", .ref c), (kw "turn", .int t')]) :
    SInv G { y with H := upd y.H a (.dK o'), rho := y.rho.set i (some (.drw gr r' ce t', fl)) } ∧ Ext false x { y with H := upd y.H a (.dK o'), rho := y.rho.set i (some (.drw gr r' ce t', fl)) } := by
  subst ho
  refine mutF_post hx hy e ei hfl e1 w (by simp) (.drw (c := c) f1 f2 f3 z1 z2 ⟨upd_same, ?_, ?_, dd.2.2.2⟩) (fun b o e n _ => by
      rw [upd_ne (fun z => n (by simp [z]))]; exact e) (fun b hb => by
      by_cases eb : b = a
      · subst eb; rw [upd_same] at hb; cases hb
      · rwa [upd_ne eb] at hb) (tabs_upd hy.tb dd.1 rfl (fun φ z => by cases z))
  · rw [upd_ne (Ne.symm dd.2.2.2)]; exact dd.2.1
  · rw [upd_ne (fun z : c = a => f1 (z ▸ f3))]; exact dd.2.2.1
theorem r_drwSetRest {e : Expr} {s : Bool} {f : EE} (hr : RoomG kk X.A) (ho : PE X o (tVar i)) (hk : PE X k (tC (.str "rest"))) (he : PE X e (tS G W s f)) (hs : swapsWith e (some (.Subscript o k p1)) pos.line X.env = pure false := by rfl) :
    PS X (.Assign [.Subscript o k p1] e pos) (tT G W z (sDrwRest i f)) := PS.of (ps_dput (Nat.lt_of_le_of_lt (Nat.add_le_add_left (by decide) _) hr.room.units) ho hk he hs) fun D σ H h =>
  tT_expr (k := fun d _ ρ1 => match d, drwAt i ρ1 with
  | .int n, some (gr, _, ce, t, fl) => .ok (.nx (ρ1.set i (some (.drw gr n ce t, fl))))
  | _, _ => .bad) h fun x y v d kd fv hi hz ex P q => by
    cases d <;> first | exact q.elim | skip
    rename_i n
    cases h1 : drwAt i y.rho with
    | none => simp only [h1] at q; exact q.elim
    | some t =>
      obtain ⟨gr, r, ce, t, fl⟩ := t
      simp only [h1] at q
      obtain ⟨a, g, c, e1, w, f1, f2, f3, z1, z2, dd, m⟩ := drw_slot P.inv h1
      obtain ⟨ei, hfl⟩ := drwAt_of h1
      rw [P.own.int_of]
      refine ⟨_, by rw [← ex, ← P.ext.sg]; exact e1, a, _, rfl, DPut.k (k := kw "rest") dd.1 (by show 4 < sizeLine; rw [sizeLine_eq]; decide), ?_⟩
      obtain ⟨i2, e2⟩ := drw_put (r' := n) hi P.ext P.inv ei hfl e1 w f1 f2 f3 z1 z2 dd p_rest
      have := q _ rfl (SStep.ext hz hi i2 e2)
      rw [← ex, ← P.ext.sg]; exact this
theorem r_drwSetTurn {e : Expr} {s : Bool} {f : EE} (hr : RoomG kk X.A) (ho : PE X o (tVar i)) (hk : PE X k (tC (.str "turn"))) (he : PE X e (tS G W s f)) (hs : swapsWith e (some (.Subscript o k p1)) pos.line X.env = pure false := by rfl) :
    PS X (.Assign [.Subscript o k p1] e pos) (tT G W z (sDrwTurn i f)) := PS.of (ps_dput (Nat.lt_of_le_of_lt (Nat.add_le_add_left (by decide) _) hr.room.units) ho hk he hs) fun D σ H h =>
  tT_expr (k := fun d _ ρ1 => match d, drwAt i ρ1 with
  | .int n, some (gr, r, ce, _, fl) => .ok (.nx (ρ1.set i (some (.drw gr r ce n, fl))))
  | _, _ => .bad) h fun x y v d kd fv hi hz ex P q => by
    cases d <;> first | exact q.elim | skip
    rename_i n
    cases h1 : drwAt i y.rho with
    | none => simp only [h1] at q; exact q.elim
    | some t =>
      obtain ⟨gr, r, ce, t, fl⟩ := t
      simp only [h1] at q
      obtain ⟨a, g, c, e1, w, f1, f2, f3, z1, z2, dd, m⟩ := drw_slot P.inv h1
      obtain ⟨ei, hfl⟩ := drwAt_of h1
      rw [P.own.int_of]
      refine ⟨_, by rw [← ex, ← P.ext.sg]; exact e1, a, _, rfl, DPut.k (k := kw "turn") dd.1 (by show 4 < sizeLine; rw [sizeLine_eq]; decide), ?_⟩
      obtain ⟨i2, e2⟩ := drw_put (t' := n) hi P.ext P.inv ei hfl e1 w f1 f2 f3 z1 z2 dd p_turn
      have := q _ rfl (SStep.ext hz hi i2 e2)
      rw [← ex, ← P.ext.sg]; exact this
end
end VL
/-! VL19: values chosen by tests, chains, targets of a statement, attributes stored, the draws' beginning. -/
namespace VL
open PySem PySem.Spec PyProof.Rows L2

theorem EPost.older {G : Gm} {s t u : Bool} {x y z : Stt} {v : V} {d : D} {k : Kd} {fv : List Addr} (hx : SInv G x) (hy : SInv G y) (e : Ext s x y) (P : EPost G t y z v d k fv) (h : u = true → s = true ∧ t = true) : EPost G u x z v d k fv where
  inv := P.inv
  ext := (e.trans hx hy P.ext).weak fun q => by simp only [Bool.and_eq_true]; exact h q
  own := P.own
  src := P.src
  kd := by
    have q := P.kd
    cases k with
    | fz => exact q
    | br => exact q
    | ow => exact ⟨q.1, fun a ha => ⟨e.dm a (q.2 a ha).1, (q.2 a ha).2⟩⟩
def xIfD (f g g' : EE) : EE := fun ρ => do
  let (d, _, ρ1) ← f ρ
  match d with
  | .bl b => if b = true then g ρ1 else g' ρ1
  | _ => .bad
def xIfE (c : BE) (g g' : EE) : EE := fun ρ => do
  let (b, ρ1) ← c ρ
  if b = true then g ρ1 else g' ρ1
section
variable {X : Cx} {G : Gm} {W : WX} {z : Stt}
theorem tS_after {s t u : Bool} {x y : Stt} {g : EE} {Q : VK} (hx : SInv G x) (hy : SInv G y) (e : Ext s x y) (h : u = true → s = true ∧ t = true)
    (q : match g y.rho with
      | .ok (d, k, ρ') => ∀ y v fv, y.rho = ρ' → EPost G u x y v d k fv → Q v y.H
      | .err c d ρ' => ∀ y cls dx, y.rho = ρ' → SInv G y → Ext u x y → ErrV G y cls dx c d → W cls dx x.sg y.H
      | .bad => False) : tS G W t g x.sg y.H Q := by
  refine ⟨y, e.sg, rfl, hy, ?_⟩
  cases h2 : g y.rho with
  | bad => simp only [h2] at q
  | err c d' ρ' =>
    simp only [h2] at q
    exact fun z cls dx hz iz ez hev => q z cls dx hz iz ((e.trans hx hy ez).weak fun q => by simp only [Bool.and_eq_true]; exact h q) hev
  | ok r2 =>
    obtain ⟨d, k, ρ'⟩ := r2
    simp only [h2] at q
    exact fun z v fv hz P => q z v fv hz (P.older hx hy e h)
theorem tS_ifD {s t u : Bool} {f g g' : EE} {σ H} {Q : VK} (h : tS G W (s && (t && u)) (xIfD f g g') σ H Q) : tS G W s f σ H fun x H1 => ∃ c, x = .bl c ∧ if c = true then tS G W t g σ H1 Q else tS G W u g' σ H1 Q := by
  obtain ⟨x, rfl, rfl, hi, q⟩ := h
  refine ⟨x, rfl, rfl, hi, ?_⟩
  unfold xIfD at q
  cases h1 : f x.rho with
  | bad => simp only [h1, Res.bind_bad] at q
  | err c d ρ' =>
    simp only [h1, Res.bind_err] at q
    exact fun y cls dx hρ iy ey hev => q y cls dx hρ iy (ey.weak fun z => by simp only [Bool.and_eq_true] at z; exact z.1) hev
  | ok r1 =>
    obtain ⟨d, k, ρ1⟩ := r1
    simp only [h1, Res.bind_ok] at q
    intro y v fv hρ P
    cases d <;> first | exact q.elim | skip
    case bl b =>
      refine ⟨b, P.own.bl_of, ?_⟩
      rw [← hρ] at q
      cases b with
      | true =>
        simp only [if_true] at q ⊢
        exact tS_after hi P.inv P.ext (fun q => by simp only [Bool.and_eq_true] at q; exact ⟨q.1, q.2.1⟩) q
      | false =>
        simp only [Bool.false_eq_true, if_false] at q ⊢
        exact tS_after hi P.inv P.ext (fun q => by simp only [Bool.and_eq_true] at q; exact ⟨q.1, q.2.2⟩) q
theorem tS_ifE {s t u : Bool} {f : BE} {g g' : EE} {σ H} {Q : VK} (h : tS G W (s && (t && u)) (xIfE f g g') σ H Q) : tB G W s f σ H fun c H1 => if c = true then tS G W t g σ H1 Q else tS G W u g' σ H1 Q := by
  obtain ⟨x, rfl, rfl, hi, q⟩ := h
  refine ⟨x, rfl, rfl, hi, ?_⟩
  unfold xIfE at q
  cases h1 : f x.rho with
  | bad => simp only [h1, Res.bind_bad] at q
  | err c d ρ' =>
    simp only [h1, Res.bind_err] at q
    exact fun y cls dx hρ iy ey hev => q y cls dx hρ iy (ey.weak fun z => by simp only [Bool.and_eq_true] at z; exact z.1) hev
  | ok r1 =>
    obtain ⟨b, ρ1⟩ := r1
    simp only [h1, Res.bind_ok] at q
    intro y hρ iy ey
    rw [← hρ] at q
    cases b with
    | true =>
      simp only [if_true] at q ⊢
      exact tS_after hi iy ey (fun q => by simp only [Bool.and_eq_true] at q; exact ⟨q.1, q.2.1⟩) q
    | false =>
      simp only [Bool.false_eq_true, if_false] at q ⊢
      exact tS_after hi iy ey (fun q => by simp only [Bool.and_eq_true] at q; exact ⟨q.1, q.2.2⟩) q
theorem tS_const {s : Bool} {v : V} {d : D} {σ H} {Q : VK} (hd : atomD v = some d) (h : tS G W s (xC d) σ H Q) : Q v H := by
  obtain ⟨x, rfl, rfl, hi, q⟩ := h
  exact q x v [] rfl ⟨hi, .refl, .fz (.atom hd .nil), rfl, .fz⟩
def xAnd (f g : EE) : EE := xIfD f g (xC (.bl false))
def xOr (f g : EE) : EE := xIfD f (xC (.bl true)) g
def xNot (f : EE) : EE := xIfD f (xC (.bl false)) (xC (.bl true))
theorem r_andV {a b : Expr} {rest : List Expr} {pos : Pos} {s t : Bool} {f g : EE} (ha : PE X a (tS G W s f)) (hb : PE X (.BoolOp .And (b :: rest) pos) (tS G W t g)) : PE X (.BoolOp .And (a :: b :: rest) pos) (tS G W (s && t) (xAnd f g)) := PE.of (pe_and ha hb) fun σ H Q h => by
  have q := tS_ifD (s := s) (t := t) (u := true) (f := f) (g := g) (g' := xC (.bl false)) (by rw [Bool.and_true]; exact h)
  obtain ⟨x, e1, e2, hi, q⟩ := q
  refine ⟨x, e1, e2, hi, ?_⟩
  revert q
  cases f x.rho with
  | bad => exact id
  | err c d ρ' => exact id
  | ok r1 =>
    intro q y v fv hρ P
    obtain ⟨c, e, q⟩ := q y v fv hρ P
    refine ⟨c, e, ?_⟩
    cases c with
    | true => simpa using q
    | false => exact tS_const rfl (by simpa using q)
theorem r_orV {a b : Expr} {rest : List Expr} {pos : Pos} {s t : Bool} {f g : EE} (ha : PE X a (tS G W s f)) (hb : PE X (.BoolOp .Or (b :: rest) pos) (tS G W t g)) : PE X (.BoolOp .Or (a :: b :: rest) pos) (tS G W (s && t) (xOr f g)) := PE.of (pe_or ha hb) fun σ H Q h => by
  have q := tS_ifD (s := s) (t := true) (u := t) (f := f) (g := xC (.bl true)) (g' := g) (by rw [Bool.true_and]; exact h)
  obtain ⟨x, e1, e2, hi, q⟩ := q
  refine ⟨x, e1, e2, hi, ?_⟩
  revert q
  cases f x.rho with
  | bad => exact id
  | err c d ρ' => exact id
  | ok r1 =>
    intro q y v fv hρ P
    obtain ⟨c, e, q⟩ := q y v fv hρ P
    refine ⟨c, e, ?_⟩
    cases c with
    | true => exact tS_const rfl (by simpa using q)
    | false => simpa using q
theorem r_oneV {op} {a : Expr} {pos : Pos} {t : TE} (h : PE X a t) : PE X (.BoolOp op [a] pos) t := pe_one h
theorem r_notV {a : Expr} {pos : Pos} {s : Bool} {f : EE} (ha : PE X a (tS G W s f)) : PE X (.UnaryOp .Not a pos) (tS G W s (xNot f)) := PE.of (pe_not ha) fun σ H Q h => by
  have q := tS_ifD (s := s) (t := true) (u := true) (f := f) (g := xC (.bl false)) (g' := xC (.bl true)) (by rw [Bool.and_true, Bool.and_true]; exact h)
  obtain ⟨x, e1, e2, hi, q⟩ := q
  refine ⟨x, e1, e2, hi, ?_⟩
  revert q
  cases f x.rho with
  | bad => exact id
  | err c d ρ' => exact id
  | ok r1 =>
    intro q y v fv hρ P
    obtain ⟨c, e, q⟩ := q y v fv hρ P
    refine ⟨c, e, ?_⟩
    cases c with
    | true => exact tS_const (v := .bl false) rfl (by simpa using q)
    | false => exact tS_const (v := .bl true) rfl (by simpa using q)
theorem r_ifV {c a b : Expr} {pos : Pos} {s t u : Bool} {f : BE} {g g' : EE} (hc : PT X c (tB G W s f)) (ha : PE X a (tS G W t g)) (hb : PE X b (tS G W u g')) : PE X (.IfExp c a b pos) (tS G W (s && (t && u)) (xIfE f g g')) := PE.of (pe_ifExp hc ha hb) fun _ _ _ h => tS_ifE h
/-! ### chains -/
def chainK (g' : D → D → Option (D × Kd)) (f3 : EE) (b : D) (c : Bool) (ρ2 : Env) : Res (D × Kd × Env) :=
  if c = true then (f3 ρ2).bind fun r => match g' b r.1 with
    | some (d, k) => .ok (d, k, r.2.2)
    | none => .bad
  else .ok (.bl false, .fz, ρ2)
def chainM (g g' : D → D → Option (D × Kd)) (f3 : EE) (a b : D) (ρ2 : Env) : Res (D × Kd × Env) := match g a b with
  | some (.bl c, .fz) => chainK g' f3 b c ρ2
  | _ => .bad
def xChain (g g' : D → D → Option (D × Kd)) (f1 f2 f3 : EE) : EE := fun ρ => do
  let (a, k1, ρ1) ← f1 ρ
  if k1 = .br then .bad else do
    let (b, k2, ρ2) ← f2 ρ1
    if k2 = .br then .bad else chainM g g' f3 a b ρ2
theorem chainM_ok {g g' : D → D → Option (D × Kd)} {f3 : EE} {a b : D} {ρ2 : Env} {P : Res (D × Kd × Env) → Prop} (h : P (chainM g g' f3 a b ρ2)) (hb : ¬ P .bad) : ∃ c, g a b = some (.bl c, .fz) ∧ P (chainK g' f3 b c ρ2) := by
  unfold chainM at h
  split at h
  · rename_i c h3; exact ⟨c, h3, h⟩
  · exact absurd h hb
theorem tS_chain {r r' : R2} {s t u : Bool} {f1 f2 f3 : EE} {g g' : D → D → Option (D × Kd)} (hg : FnD2 G r g) (hg' : FnD2 G r' g') {σ H Q} (h : tS G W (s && (t && u)) (xChain g g' f1 f2 f3) σ H Q) : tChain r r' (tS G W s f1) (tS G W t f2) (tS G W u f3) σ H Q := by
  obtain ⟨x, rfl, rfl, hi, q⟩ := h
  refine ⟨x, rfl, rfl, hi, ?_⟩
  unfold xChain at q
  cases h1 : f1 x.rho with
  | bad => simp only [h1, Res.bind_bad] at q
  | err c d ρ' =>
    simp only [h1, Res.bind_err] at q
    exact fun y cls dx hρ iy ey hev => q y cls dx hρ iy (ey.weak fun z => by simp only [Bool.and_eq_true] at z; exact z.1) hev
  | ok r1 =>
  obtain ⟨a, k1, ρ1⟩ := r1
  simp only [h1, Res.bind_ok] at q
  intro y v fv hρ P
  by_cases hb1 : k1 = .br
  · rw [if_pos hb1] at q; exact q.elim
  rw [if_neg hb1] at q
  refine ⟨y, P.ext.sg, rfl, P.inv, ?_⟩
  rw [hρ]
  cases h2 : f2 ρ1 with
  | bad => simp only [h2, Res.bind_bad] at q
  | err c d' ρ' =>
    simp only [h2, Res.bind_err] at q
    exact fun z cls dx hz iz ez hev => q z cls dx hz iz ((P.ext.trans hi P.inv ez).weak fun z => by simp only [Bool.and_eq_true] at z ⊢; exact ⟨z.1, z.2.1⟩) hev
  | ok r2 =>
  obtain ⟨b, k2, ρ2⟩ := r2
  simp only [h2, Res.bind_ok] at q
  intro y2 w fw hρ2 P2
  subst hρ2
  by_cases hb2 : k2 = .br
  · rw [if_pos hb2] at q; exact q.elim
  rw [if_neg hb2] at q
  obtain ⟨w1, kd1, _⟩ := carry P.inv P.ext.dm P.own P.kd P2.ext P.src (fun e => absurd e hb1)
  have E2 : Ext (s && t) x y2 := P.ext.trans hi P.inv P2.ext
  obtain ⟨c, h3, q⟩ := chainM_ok (P := fun r => match r with
      | .ok (d, k, ρ') => ∀ y v fv, y.rho = ρ' → EPost G (s && (t && u)) x y v d k fv → Q v y.H
      | .err c d ρ' => ∀ y cls dx, y.rho = ρ' → SInv G y → Ext (s && (t && u)) x y → ErrV G y cls dx c d → W cls dx x.sg y.H
      | .bad => False) q id
  refine hg y2.F y2.H v w a b _ _ _ _ _ P2.inv.dom w1 P2.own h3 fun F' H' uv fu n => ?_
  have N := n.post P2.inv
  obtain ⟨w2, kd2, _⟩ := carry P2.inv P2.ext.dm P2.own P2.kd N.ext P2.src (fun e => absurd e hb2)
  refine ⟨c, n.own.bl_of, ?_⟩
  have E3 : Ext (s && t) x { y2 with F := F', H := H' } := (E2.trans hi P2.inv N.ext).weak fun z => by rw [Bool.and_true]; exact z
  unfold chainK at q
  cases c with
  | false =>
    simp only [Bool.false_eq_true, if_false] at q ⊢
    exact q { y2 with F := F', H := H' } (.bl false) [] rfl ⟨N.inv, E3.weak fun z => by simp only [Bool.and_eq_true] at z ⊢; exact ⟨z.1, z.2.1⟩, .fz (.atom rfl .nil), rfl, .fz⟩
  | true =>
    simp only [if_true] at q ⊢
    refine ⟨{ y2 with F := F', H := H' }, E3.sg, rfl, N.inv, ?_⟩
    show match f3 y2.rho with | .ok (d, k, ρ') => _ | .err c d ρ' => _ | .bad => _
    cases h4 : f3 y2.rho with
    | bad => simp only [h4, Res.bind] at q
    | err c d' ρ' =>
      simp only [h4, Res.bind] at q
      exact fun z cls dx hz iz ez hev => q z cls dx hz iz ((E3.trans hi N.inv ez).weak fun z => by simp only [Bool.and_eq_true] at z ⊢; exact ⟨⟨z.1, z.2.1⟩, z.2.2⟩) hev
    | ok r3 =>
    obtain ⟨e, k3, ρ3⟩ := r3
    simp only [h4, Res.bind] at q
    intro y3 w3 fw3 hρ3 P3
    obtain ⟨w4, kd4, _⟩ := carry N.inv (fun a h => P2.ext.dm a (n.dm a h)) w2 (x := y) kd2 P3.ext (.ne hb2) (fun e => absurd e hb2)
    cases h5 : g' b e with
    | none => simp only [h5] at q
    | some dk =>
      obtain ⟨d, k⟩ := dk
      simp only [h5] at q
      refine hg' y3.F y3.H w w3 b e _ _ d k Q P3.inv.dom w4 P3.own h5 fun F2 H2 u2 fu2 n2 => ?_
      have E4 := (E3.trans hi N.inv P3.ext)
      have := EPost.after hi P3.inv E4 n2
      exact q { y3 with F := F2, H := H2 } u2 fu2 hρ3 { this with ext := this.ext.weak fun z => by simp only [Bool.and_eq_true] at z ⊢; exact ⟨⟨z.1, z.2.1⟩, z.2.2⟩ }
theorem r_chain {op op' : CmpOp} {r r' : R2} {a b c : Expr} {pos : Pos} {s t u : Bool} {f1 f2 f3 : EE} {g g' : D → D → Option (D × Kd)} (ho : OpR X (compareOp op) r) (hg : FnD2 G r g) (ho' : OpR X (compareOp op') r') (hg' : FnD2 G r' g') (ha : PE X a (tS G W s f1)) (hb : PE X b (tS G W t f2)) (hc : PE X c (tS G W u f3))
    (hm : lastMarks [op, op'] [b, c] = false := by with_unfolding_all rfl) : PE X (.Compare a [op, op'] [b, c] pos) (tS G W (s && (t && u)) (xChain g g' f1 f2 f3)) := PE.of (pe_chain ho ho' ha hb hc hm) fun _ _ _ h => tS_chain hg hg' h
theorem r_tchain {op op' : CmpOp} {r r' : R2} {a b c : Expr} {pos : Pos} {s t u : Bool} {f1 f2 f3 : EE} {g g' : D → D → Option (D × Kd)} (ho : OpR X (compareOp op) r) (hg : FnD2 G r g) (ho' : OpR X (compareOp op') r') (hg' : FnD2 G r' g') (ha : PE X a (tS G W s f1)) (hb : PE X b (tS G W t f2)) (hc : PE X c (tS G W u f3))
    (hm : lastMarks [op, op'] [b, c] = false := by with_unfolding_all rfl) : PT X (.Compare a [op, op'] [b, c] pos) (tB G W (s && (t && u)) (xTst (xChain g g' f1 f2 f3))) := PT.of (pt_chain ho ho' ha hb hc hm) fun _ _ _ h => tS_chain hg hg' (tB_of h)
/-! ### a statement's target -/
def sAsg (g : GE) (f : EE) : SE := fun ρ => do
  let (d, k, ρ1) ← f ρ
  match k with
  | .fz => do
    let ρ2 ← g d ρ1
    pure (.nx ρ2)
  | _ => .bad
theorem r_asg {tg e : Expr} {pos : Pos} {s : Bool} {is : List Nat} {g : GE} {f : EE} (h : ∀ te tt, PE X e te → PG X tg tt → PS X (.Assign [tg] e pos) (tAsg te tt)) (he : PE X e (tS G W s f)) (hg : PG X tg (tG G is g)) (hne : NoErr g) : PS X (.Assign [tg] e pos) (tT G W z (sAsg g f)) := PS.of (h _ _ he hg) fun Dn σ H h =>
  tT_expr (k := fun d k ρ1 => match k with
  | .fz => do
    let ρ2 ← g d ρ1
    pure (.nx ρ2)
  | _ => .bad) h fun x y v d kd fv hi hz ex P q => by
    cases kd with
    | br => exact q.elim
    | ow => exact q.elim
    | fz =>
      obtain rfl : fv = [] := P.kd
      refine ⟨y, d, by rw [P.ext.sg, ex], rfl, P.inv, P.own.fz_of, ?_⟩
      cases h1 : g d y.rho with
      | bad => simp only [h1, Res.bind_bad] at q; exact q.elim
      | err c d' ρ' =>
        exact absurd h1 (hne _ _ _ _ _)
      | ok ρ2 =>
        simp only [h1, Res.bind_ok] at q
        intro w hw st
        exact q w hw ((SStep.ext hz hi P.inv P.ext).trans (st.step (hz.ext hi P.ext)))
/-! ### attributes stored -/
def putD (f : Str) (v : D) : List (Str × D) → List (Str × D)
  | [] => [(f, v)]
  | (g, x) :: r => if g = f then (g, v) :: r else (g, x) :: putD f v r
theorem putD_rep {F : Addr → Prop} {H : Hp} {f : Str} {v : V} {d : D} (r : Rep G F H [v] [d]) : ∀ {ws : List (Str × V)} {es : List (Str × D)}, ws.map (·.1) = es.map (·.1) → Rep G F H (ws.map (·.2)) (es.map (·.2)) → (putF f v ws).map (·.1) = (putD f d es).map (·.1) ∧ Rep G F H ((putF f v ws).map (·.2)) ((putD f d es).map (·.2))
  | [], [], _, _ => ⟨rfl, r⟩
  | [], _ :: _, e, _ => by simp at e
  | _ :: _, [], e, _ => by simp at e
  | (n, w) :: ws, (m, e) :: es, hn, hr => by
    simp only [List.map_cons, List.cons.injEq] at hn
    obtain ⟨rfl, hn⟩ := hn
    obtain ⟨r1, r2⟩ := Rep.cons_iff.mp (by simpa using hr)
    unfold putF putD
    by_cases hf : n = f
    · rw [if_pos hf, if_pos hf]
      exact ⟨by simp [hn], Rep.cons_iff.mpr ⟨r, r2⟩⟩
    · rw [if_neg hf, if_neg hf]
      obtain ⟨h1, h2⟩ := putD_rep r hn r2
      exact ⟨by simp [h1], Rep.cons_iff.mpr ⟨r1, h2⟩⟩
def fldK (cs : List Nat) (i : Nat) (f : Str) (d : D) (k : Kd) (ρ1 : Env) : Res Flo := match ρ1[i]? with
  | some (some (.ins c es, fl)) => if ownFl fl = true ∧ fzAll [(d, k)] = true ∧ cs.contains c = true ∧ es.length < 1000 then .ok (.nx (ρ1.set i (some (.ins c (putD f d es), fl)))) else .bad
  | _ => .bad
def sFldSet (cs : List Nat) (i : Nat) (f : Str) (g : EE) : SE := fun ρ => do
  let (d, k, ρ1) ← g ρ
  fldK cs i f d k ρ1
theorem r_fldset {o e : Expr} {i : Nat} {f : Str} {pos pos' : Pos} {s : Bool} {g : EE} {cs : List Nat} (hK : X.K = G.K) (hf : FldOk G cs f) (ho : PE X o (tVar i)) (he : PE X e (tS G W s g)) (hs : swapsWith e (some (.Attribute o f pos')) pos.line X.env = pure false := by rfl) :
    PS X (.Assign [.Attribute o f pos'] e pos) (tT G W z (sFldSet cs i f g)) := PS.of (ps_fld ho he hs) fun Dn σ H h =>
  tT_expr (k := fldK cs i f) h fun x y v d kd fv hi hz ex P q => by
    unfold fldK at q
    cases e1 : y.rho[i]? with
    | none => simp only [e1] at q; exact q.elim
    | some sl =>
    cases sl with
    | none => simp only [e1] at q; exact q.elim
    | some df =>
    obtain ⟨d0, fl⟩ := df
    simp only [e1] at q
    cases d0 <;> first | exact q.elim | skip
    rename_i c es
    simp only at q
    by_cases hc : ownFl fl = true ∧ fzAll [(d, kd)] = true ∧ cs.contains c = true ∧ es.length < 1000
    · rw [if_pos hc] at q
      obtain ⟨F', i', e', rp⟩ := (AOk.cons P.own P.kd P.src .nil : AOk G x y [v] [(d, kd)]).frozen hi P.inv P.ext hc.2.1
      have h1 : ({ y with F := F' } : Stt).rho[i]? = some (some (.ins c es, fl)) := e1
      obtain ⟨v0, fp0, ev, _⟩ := i'.sl.get h1
      obtain ⟨a, rfl, w, ob, nF⟩ := own_slot i' h1 (ownFl_iff hc.1) rfl ev
      obtain ⟨C, dx, ws, eo, cC, hn, hr⟩ := ob
      obtain ⟨m1, m2⟩ := hf c (by simpa using hc.2.2.1) C cC
      have hl : ws.length = es.length := by
        have := congrArg List.length hn
        simpa using this
      refine ⟨.ref a, by rw [← ex, ← P.ext.sg]; exact ev, a, C, dx, ws, rfl, eo, by rw [hK]; exact m1, by rw [hK]; exact m2, by rw [hl]; exact hc.2.2.2, ?_⟩
      obtain ⟨n1, n2⟩ := putD_rep (f := f) rp hn hr
      have ob' : Objs G F' (upd y.H a (.ins C dx (putF f v ws))) a (.ins c (putD f d es)) := ⟨C, dx, _, upd_same, cC, n1, n2.keep (fun _ h => h) (kf_upd nF)⟩
      obtain ⟨i2, e2⟩ := mut_post (l := []) (vs := []) hi i' e' h1 (ownFl_iff hc.1) ev w ⟨C, dx, ws, eo, cC, hn, hr⟩ nF rfl ob'
      have := q _ rfl (SStep.ext hz hi i2 e2)
      rw [← ex, ← P.ext.sg]; exact this
    · rw [if_neg hc] at q; exact q.elim
/-! ### the draws' beginning -/
def intsOf : List D → Option (List Int)
  | [] => some []
  | .int n :: r => (intsOf r).map (n :: ·)
  | _ :: _ => none
theorem intsOf_eq : ∀ {l : List D} {ns : List Int}, intsOf l = some ns → l = ns.map D.int
  | [], ns, h => by cases h; rfl
  | d :: r, ns, h => by
    cases d <;> first | cases h | skip
    simp only [intsOf, Option.map_eq_some_iff] at h
    obtain ⟨ms, h1, rfl⟩ := h
    rw [List.map_cons, intsOf_eq h1]
theorem intsOf_map : ∀ ns : List Int, intsOf (ns.map D.int) = some ns
  | [] => rfl
  | n :: ns => by simp [intsOf, intsOf_map ns]
theorem Rep.ints_of {F : Addr → Prop} {H : Hp} : ∀ {ns : List Int} {vs : List V}, Rep G F H vs (ns.map D.int) → vs = ns.map V.int
  | [], vs, h => h.nil_of
  | n :: ns, vs, h => by
    obtain ⟨v, ws, rfl, r1, r2⟩ := h.cons_of
    rw [r1.int_of, Rep.ints_of r2]; rfl
/-- return {'great': .., 'rest': 0, 'cells': .., 'turn': 0} -/
def sRetDrw (i : Nat) (f : EE) : SE := fun ρ => match ρ[i]? with
  | some (some (.lst es, .ow)) => match intsOf es with
    | some gr => (f ρ).bind fun r => match r with
      | (.lst cs, .ow, ρ1) => match intsOf cs with
        | some ce => .ok (.rt (.drw gr 0 ce 0) .ow ρ1)
        | none => .bad
      | _ => .bad
    | none => .bad
  | _ => .bad
theorem r_retDrw {i : Nat} {k1 k2 k3 k4 e1 e2 e3 e4 : Expr} {p1 pos : Pos} {f : EE} (h1 : PE X k1 (tC (.str "great"))) (h2 : PE X k2 (tC (.str "rest"))) (h3 : PE X k3 (tC (.str "cells"))) (h4 : PE X k4 (tC (.str "turn"))) (v1 : PE X e1 (tVar i)) (v2 : PE X e2 (tC (.int 0))) (v3 : PE X e3 (tS G W true f)) (v4 : PE X e4 (tC (.int 0))) :
    PS X (.Return (some (.Dict [some k1, some k2, some k3, some k4] [e1, e2, e3, e4] p1)) pos) (tT G W z (sRetDrw i f)) :=
  PS.of (ps_ret (pe_disp (pps_cons h1 v1 (pps_cons h2 v2 (pps_cons h3 v3 (pps_cons h4 v4 pps_nil)))) rfl rfl (by simp) (by simp))) fun Dn σ H h => by
  obtain ⟨x, rfl, rfl, hx, hz, q⟩ := h
  unfold sRetDrw at q
  cases e1 : x.rho[i]? with
  | none => simp only [e1] at q; exact q.elim
  | some sl =>
  cases sl with
  | none => simp only [e1] at q; exact q.elim
  | some df =>
  obtain ⟨d, fl⟩ := df
  simp only [e1] at q
  cases d <;> first | exact q.elim | skip
  cases fl <;> first | exact q.elim | skip
  rename_i es
  simp only at q
  cases eg : intsOf es with
  | none => simp only [eg] at q; exact q.elim
  | some gr =>
  simp only [eg] at q
  obtain rfl := intsOf_eq eg
  obtain ⟨v0, fp, ev, w0, _, n0, hm⟩ := hx.sl.get e1
  obtain ⟨g, rfl, w, ⟨wg, hg, zg, rg⟩, nFg⟩ := own_slot hx e1 (.inl rfl) rfl ev
  obtain rfl := Rep.ints_of rg
  have hgo : g ∈ x.o := by
    have := w.uniq w0
    subst this
    rcases hm g (by simp) with z | z | z
    · exact z.2
    · cases z.1
    · cases z.1
  intro p hp
  have hpg : p ≠ g := fun e => by rw [e, hg] at hp; cases hp
  have N := NewV.objs (G := G) (F := x.F) (ob := .dK []) (d := .dK []) hx.dom hp ⟨[], upd_same, by simp, rfl, .nil⟩
  have P1 := N.post hx
  refine ⟨.ref g, ev, { x with H := upd x.H p (.dK []) }, rfl, rfl, P1.inv, ?_⟩
  show match f x.rho with | .ok (d, k, ρ') => _ | .err c d ρ' => _ | .bad => _
  cases e2 : f x.rho with
  | bad => simp only [e2, Res.bind] at q; exact q.elim
  | err c d' ρ' =>
    simp only [e2, Res.bind] at q
    exact fun y cls dx hρ iy ey hev => by
      have E := P1.ext.trans hx P1.inv ey
      have := q y cls dx hρ (SStep.ext hz hx iy E) hev
      rw [E.sg] at this; exact this
  | ok r =>
  obtain ⟨dc, kc, ρ1⟩ := r
  simp only [e2, Res.bind] at q
  intro y cv fc hρ P2
  cases dc <;> first | exact q.elim | skip
  cases kc <;> first | exact q.elim | skip
  rename_i cs
  simp only at q
  cases ec : intsOf cs with
  | none => simp only [ec] at q; exact q.elim
  | some ce =>
  simp only [ec] at q
  obtain rfl := intsOf_eq ec
  have E2 : Ext true x y := P1.ext.trans hx P1.inv P2.ext
  obtain ⟨ρy, ky, oy⟩ := P2.ext.st rfl
  have hpy : y.H p = some (.dK []) := ky p _ upd_same (by simp) rfl
  have hgy : y.H g = some (.lst (gr.map V.int)) := ky g _ (by show upd x.H p (.dK []) g = _; rw [upd_ne (Ne.symm hpg)]; exact hg) (by simp) rfl
  have hc : ∃ c, cv = .ref c ∧ fc = [c] ∧ ¬ y.F c ∧ y.H c = some (.lst (ce.map V.int)) ∧ ce.length ≤ sizeLine := by
    have n := P2.kd.1
    cases P2.own with
    | fz _ => exact absurd rfl n
    | ow nf ob =>
      obtain ⟨ws, h1, h2, h3⟩ := ob
      obtain rfl := Rep.ints_of h3
      exact ⟨_, rfl, rfl, nf, h1, by simpa using h2⟩
  obtain ⟨c, rfl, rfl, nFc, hcy, zc⟩ := hc
  have kc := P2.kd.2 c (by simp)
  have hcx : x.H c = none := P1.ext.dm c kc.1
  have hcp : c ≠ p := fun e => by
    have := kc.1; rw [e] at this
    rw [show ({ x with H := upd x.H p (.dK []) } : Stt).H = upd x.H p (.dK []) from rfl, upd_same] at this; cases this
  have hcg : c ≠ g := fun e => by rw [e, hg] at hcx; cases hcx
  have nFp : ¬ y.F p := fun fp => by
    rcases P2.ext.f2 p fp with z | z
    · obtain ⟨o, e, _⟩ := hx.dom p z; rw [hp] at e; cases e
    · rw [show ({ x with H := upd x.H p (.dK []) } : Stt).H = upd x.H p (.dK []) from rfl, upd_same] at z; cases z
  have nFg' : ¬ y.F g := fun f => by
    rcases E2.f2 g f with z | z
    · exact nFg z
    · rw [hg] at z; cases z
  have out : ∀ a, a ∈ y.o ∨ a ∈ y.p ∨ a ∈ y.b → a ≠ p := fun a ha e => by
    subst e
    rw [show y.o = x.o from oy, E2.p1, E2.b1] at ha
    obtain ⟨_, o, e, _⟩ := hx.there ha
    rw [hp] at e; cases e
  have i3 := P2.inv.freeze (fv := [c]) fun a ha => by
    have : a = c := by simpa using ha
    subst this
    exact ⟨⟨_, hcy, rfl⟩, kc.2⟩
  have nF3 : ¬ (y.F p ∨ p ∈ [c]) := fun f => by
    rcases f with f | f
    · exact nFp f
    · have e : p = c := by simpa using f
      exact hcp e.symm
  refine ⟨hpy, [(kw "great", .ref g), (kw "rest", .int 0), (kw "cells", .ref c), (kw "turn", .int 0)], rfl, by simp, ?_⟩
  have em : mergeK [] [(kw "great", V.ref g), (kw "rest", .int 0), (kw "cells", .ref c), (kw "turn", .int 0)] = [(kw "great", .ref g), (kw "rest", .int 0), (kw "cells", .ref c), (kw "turn", .int 0)] := rfl
  rw [em]
  generalize ho : HO.dK [(kw "great", V.ref g), (kw "rest", .int 0), (kw "cells", .ref c), (kw "turn", .int 0)] = o'
  have dmu : ∀ b, upd y.H p o' b = none → y.H b = none := fun b hb => by
    by_cases eb : b = p
    · subst eb; rw [upd_same] at hb; cases hb
    · rwa [upd_ne eb] at hb
  have inv : SInv G { y with F := fun a => y.F a ∨ a ∈ [c], H := upd y.H p o' } := by
    refine ⟨i3.sl.keep (fun _ h => h) (kf_upd nF3) fun a ha => ⟨(i3.there ha).1, fun o e _ => by show upd y.H p o' a = _; rw [upd_ne (out a ha)]; exact e⟩, i3.nd, fun b f => ?_, tabs_upd P2.inv.tb hpy rfl (fun φ z => by cases z)⟩
    obtain ⟨o, h, t⟩ := i3.dom b f
    have nb : b ≠ p := fun z => nF3 (z ▸ f)
    exact ⟨o, by show upd y.H p o' b = some o; rw [upd_ne nb]; exact h, t⟩
  have kx : ∀ m, Kept m x.H y.H → Kept m x.H (upd y.H p o') := fun m k a o e n t => by
    have na : a ≠ p := fun z => by rw [z, hp] at e; cases e
    rw [upd_ne na]; exact k a o e n t
  have E3 : Ext true x { y with F := fun a => y.F a ∨ a ∈ [c], H := upd y.H p o' } := by
    refine ⟨E2.sg, kx _ E2.kp, fun a f => .inl (E2.f1 a f), fun a f => ?_, E2.o1, E2.p1, E2.b1, fun a h => E2.dm a (dmu a h), E2.lk, fun _ => ?_⟩
    · rcases f with f | f
      · exact E2.f2 a f
      · have : a = c := by simpa using f
        subst this; exact .inr hcx
    · obtain ⟨r1, k1, o1⟩ := E2.st rfl
      exact ⟨r1, kx _ k1, o1⟩
  refine q { y with F := fun a => y.F a ∨ a ∈ [c], H := upd y.H p o' } (.ref p) [p, g] hρ (SStep.ext hz hx inv E3) (.drw (c := c) nF3 (fun f => ?_) (.inr (by simp)) (by simpa using zg) zc ⟨?_, ?_, ?_, hpg⟩) ⟨by simp, fun a ha => ?_⟩
  · rcases f with f | f
    · exact nFg' f
    · have e : g = c := by simpa using f
      exact hcg e.symm
  · rw [← ho]; exact upd_same
  · show upd y.H p o' g = _; rw [upd_ne (Ne.symm hpg)]; exact hgy
  · show upd y.H p o' c = _; rw [upd_ne hcp]; exact hcy
  · have : a = p ∨ a = g := by simpa using ha
    rcases this with rfl | rfl
    · exact hz.dm _ hp
    · exact hz.o1 _ hgo
end
end VL
/-! VL20: the law's end. -/
namespace VL
open PySem PySem.Spec PyProof.Rows L2

def Done (t : Shared) : Except Value Flow → Shared → Prop := fun r t' => r = .ok (.ret (.bool true)) ∧ PySem.OldK t.heap t'.heap ∧ t'.os = t.os ∧ AllBare t'.gens
section
variable {P : Program} {wd : World} {K : PySem.W.Frag} {mg mb : Str → Option Value} {k : Nat} {fa sa : Addr} {fd : FuncData} {x : Str} {sp : Sp} {t : Shared} {us : List Value} {ns : List Int}
theorem lawIn (J : Hp) (inK : K.In t.heap) (nm : t.heap.Ns mainGlobals mg) (nb : t.heap.Ns builtinsNs mb) (bb : ∀ y : Str, y ≠ "__name__" → mb y = bootBuiltins y) (lim : t.heap.NoLimit) (ng : t.gens = #[]) (rm : Room k callerA)
    (so : t.heap.get? sa = some { cls := .type "list", data := .seq us.toArray }) (F : ∀ base : Heap, K.In base → base.Ns mainGlobals mg → FnG P wd K mg base k fa fd [x] sp) (bd : ∀ (s : Shared) (u : Value), BindsTo s fd ⟨[u], []⟩ [(x, u)])
    (only : Only J) (hk : HOk P wd J t.heap) (alone : ∀ b, J b ≠ none → b = sa) (nK : J sa ≠ none → K.lookup sa = none)
    (say : sp [.ref sa] J (fun v _ => v = .bl true) fun _ _ _ => False) : codeAny (model P wd) callerA (.call (.ref fa) ⟨[.ref sa], []⟩) (Done t) t := by
  have seen : ∀ {b : Addr} {ob : Obj}, t.heap.get? b = some ob → J b = none → (hidT t.heap J).get? b = some ob := fun e n => hidT_get e n
  have free : ∀ {b : Addr} {ob : Obj}, t.heap.get? b = some ob → b ≠ sa → J b = none := fun {b ob} e n => by
    cases q : J b with
    | none => rfl
    | some u => exact absurd (alone b (by rw [q]; simp)) n
  have dic : ∀ {b : Addr} {ob : Obj} {es : Array DictEntry} {ep : Nat}, t.heap.get? b = some ob → ob.data = .dict es ep → b ≠ sa := fun {b ob es ep} e d z => by
    subst z
    rw [so] at e
    cases e
    have d : Data.seq us.toArray _ = Data.dict es ep := d
    cases d
  have nsT : ∀ {b : Addr} {m : Str → Option Value}, t.heap.Ns b m → (hidT t.heap J).Ns b m := fun ⟨ob, es, ep, e, d, r⟩ => ⟨ob, es, ep, seen e (free e (dic e d)), d, r⟩
  have inB : K.In (hidT t.heap J) := fun b ob e => by
    have e1 := inK b ob e
    refine seen e1 ?_
    cases q : J b with
    | none => rfl
    | some u =>
      have z := alone b (by rw [q]; simp)
      subst z
      have := nK (by rw [q]; simp)
      rw [e] at this; cases this
  have limT : (hidT t.heap J).NoLimit := by
    obtain ⟨mc, h1, h2⟩ := lim
    exact ⟨mc, nsT h1, h2⟩
  have env : Env0 P wd K mg (hidT t.heap J) callerA [] t J := by
    refine ⟨rfl, ⟨inB, nsT nm, ⟨mb, nsT nb, bb⟩, limT⟩, fun b ob e => of_hidT e, Nat.le_of_eq (hidT_size _ _), trivial, fun b hb => ?_, hk, .of_eq ng⟩
    have : b ∈ ([] : List Addr) := hb
    simp at this
  have run := (F _ inB (nsT nm)).go callerA [] t J ⟨[.ref sa], []⟩ [.ref sa] [.ref sa] _ _ ⟨rm, rfl⟩ env (bd t (.ref sa)) (.cons rfl .nil) say
  refine codeAny_mono run fun r t' h => ?_
  match r, h with
  | .error e, h => obtain ⟨_, _, _, _, _, _, _, _, _, _, _, _, q⟩ := h; exact False.elim q
  | .ok .next, h => exact False.elim h
  | .ok .brk, h => exact False.elim h
  | .ok .cont, h => exact False.elim h
  | .ok (.ret u), h =>
    obtain ⟨v, J', os, bare, un, hk', rv, ev⟩ := h
    have ev : v = .bl true := ev
    subst ev
    have ru : u = Value.bool true := rv
    subst ru
    refine ⟨rfl, PySem.OldK.of_keep fun b ob e => ?_, os, bare⟩
    cases q : J b with
    | none =>
      refine un.keep b ob e q (fun z => ?_) (by simp)
      have : b ∈ ([] : List Addr) := z
      simp at this
    | some u =>
      rcases only b with z | ⟨o1, xs, z⟩
      · rw [z] at q; cases q
      · have e1 := (hk b _ z).1
        have e2 := (hk' b _ (un.frzs b o1 _ z)).1
        rw [e] at e1
        cases e1
        exact e2
theorem lawSays {G : Gm} {k' : Kd} {m : FA} {J : Hp} (hK : G.K = K) (hT : G.T = []) (lo : ns.length ≤ sizeLine) (h : m [some (.scr ns, .fz)] = .ok (.bl true, k')) (only : Only J) (sq : SqL K J sa (ns.map V.int)) :
    spA G 1 m [.ref sa] J (fun v _ => v = .bl true) fun _ _ _ => False := by
  subst hK
  have tb : LamX.Tabs G.T J := by rw [hT]; exact fun p hp => by simp at hp
  have fin : ∀ x : Stt, x.rho = [some (.scr ns, .fz)] → match m x.rho with
      | .ok (d, k) => ∀ (y : Stt) v fv, y.rho = x.rho → EPost G true x y v d k fv → k ≠ .br → v = .bl true
      | .err c d _ => ∀ (y : Stt) cls dx, y.rho = x.rho → SInv G y → Ext true x y → ErrV G y cls dx c d → False
      | .bad => False := by
    intro x hx
    rw [hx, h]
    exact fun y v fv _ P _ => P.own.bl_of
  have key : ∀ Fz : Addr → Prop, DomF Fz J → Rep G Fz J [.ref sa] [.scr ns] → spA G 1 m [.ref sa] J (fun v _ => v = .bl true) fun _ _ _ => False := fun Fz dm r => by
    refine ⟨⟨Fz, [some (.scr ns, .fz)], [some (.ref sa)], J, [], [], []⟩, ⟨rfl, rfl, ⟨.fz r .nil, by simp, dm, tb⟩, rfl, rfl⟩, rfl, fin _ rfl⟩
  rcases sq with q | q
  · rcases only sa with z | ⟨o, xs, z⟩
    · rcases q with q | ⟨o, q⟩ <;> (rw [z] at q; cases q)
    · have e : J sa = some (.frz o (.lst (ns.map V.int))) := by
        rcases q with q | ⟨o', q⟩
        · rw [z] at q; cases q
        · rw [z] at q; cases q; exact z
      refine key (fun a => a = sa) (fun a f => ?_) (.scr rfl e lo .nil)
      subst f
      exact ⟨_, e, rfl⟩
  · exact key (fun _ => False) (fun _ f => f.elim) (.scrK q lo .nil)
theorem lawRun {G : Gm} {m : FA} {k' : Kd} (hK : G.K = K) (hT : G.T = []) (inK : K.In t.heap) (nm : t.heap.Ns mainGlobals mg) (nb : t.heap.Ns builtinsNs mb) (bb : ∀ y : Str, y ≠ "__name__" → mb y = bootBuiltins y) (lim : t.heap.NoLimit) (ng : t.gens = #[]) (rm : Room k callerA)
    (so : t.heap.get? sa = some { cls := .type "list", data := .seq us.toArray }) (li : IntsAre us ns) (lo : ns.length ≤ sizeLine) (F : ∀ base : Heap, K.In base → base.Ns mainGlobals mg → FnG P wd K mg base k fa fd [x] (spA G 1 m)) (bd : ∀ (s : Shared) (u : Value), BindsTo s fd ⟨[u], []⟩ [(x, u)])
    (h : m [some (.scr ns, .fz)] = .ok (.bl true, k')) : codeAny (model P wd) callerA (.call (.ref fa) ⟨[.ref sa], []⟩) (Done t) t := by
  have rv := vals_ints li
  have ln := li.length
  cases hk : K.lookup sa with
  | some o =>
    have e := inK sa o hk
    rw [so] at e
    cases e
    have sq : SqL K (fun _ => none) sa (ns.map V.int) := .inr ⟨_, us.toArray, _, hk, rfl, rfl, rfl, by rw [List.size_toArray, ln]; exact lo, by simpa using rv⟩
    exact lawIn (fun _ => none) inK nm nb bb lim ng rm so F bd (fun _ => .inl rfl) (fun b u z => by have z : (none : Option HO) = some u := z; cases z) (fun b z => absurd rfl z) (fun z => absurd rfl z) (lawSays hK hT lo h (fun _ => .inl rfl) sq)
  | none =>
    let J : Hp := fun b => if b = sa then some (.frz { cls := .type "list", data := .seq us.toArray } (.lst (ns.map V.int))) else none
    have at1 : J sa = some (.frz { cls := .type "list", data := .seq us.toArray } (.lst (ns.map V.int))) := if_pos rfl
    have at2 : ∀ b, b ≠ sa → J b = none := fun b n => if_neg n
    have only : Only J := fun b => by
      by_cases e : b = sa
      · subst e; exact .inr ⟨_, _, at1⟩
      · exact .inl (at2 b e)
    refine lawIn J inK nm nb bb lim ng rm so F bd only (fun b u z => ?_) (fun b z => ?_) (fun _ => hk) (lawSays hK hT lo h only (.inl (.inr ⟨_, at1⟩)))
    · by_cases e : b = sa
      · subst e
        rw [at1] at z
        cases z
        exact ⟨so, by rw [List.length_map]; exact lo, us, _, rv, so⟩
      · rw [at2 b e] at z; cases z
    · by_cases e : b = sa
      · exact e
      · exact absurd (at2 b e) z
end
theorem lawWalk {l : PySem.W.OpenLaw} {n k : Nat} {q : Program} {loose : List Str} {XP : (Str → Option Value) → Heap → Prop} {YP : World → Heap → Prop} {df : DefRec} {KK : Params → PySem.W.Frag} {GG : World → (Str → Option Value) → Gm} {m : FA} {x : Str}
    (most : l.most = some n) (small : n ≤ sizeLine) (nd : df.params.defaults = []) (rm : Room k callerA) (inn : ∀ (wd : World) (h : Heap), YP wd h → (KK wd.params).In h)
    (hG : ∀ wd mg, (GG wd mg).K = KK wd.params ∧ (GG wd mg).T = [])
    (F : ∀ (wd : World) (mg : Str → Option Value) (fa : Addr) (h : Heap), (KK wd.params).In h → h.Ns mainGlobals mg → mg df.name = some (.ref fa) →
      ∃ fd : FuncData, (∀ (s : Shared) (u : Value), BindsTo s fd ⟨[u], []⟩ [(x, u)]) ∧ ∀ base : Heap, (KK wd.params).In base → base.Ns mainGlobals mg → FnG l.prog wd (KK wd.params) mg base k fa fd [x] (spA (GG wd mg) 1 m))
    (plain : ∀ ns : List Int, ns.length ≤ n → ∃ k', m [some (.scr ns, .fz)] = .ok (.bl true, k')) :
    PySem.W.WalkO q loose XP YP l.row.toRowW df [] (fun f vs => PySem.call f vs) :=
  Att.attach_call most nd fun wd s0 t mg mb fa o pm cd doc a us ns Gr Y ho hd hcd hmg so li lo ng => by
    obtain ⟨fd, bd, F'⟩ := F wd mg fa _ (inn wd _ Y) Gr.T.g hmg
    obtain ⟨k', pl⟩ := plain ns lo
    exact lawRun (hG wd mg).1 (hG wd mg).2 (inn wd _ Y) Gr.T.g Gr.T.b Gr.T.builtins Gr.T.nolimit ng rm so li (Nat.le_trans lo small) F' bd pl
end VL
/-! VL21: short words for walks. -/
namespace VL
open PySem PySem.Spec PyProof.Rows L2

def xBad : EE := fun _ => .bad
theorem tk0 {X : Cx} : Takes X W0 := fun u s' ⟨_, _, _, _, _, _, _, _, _, _, _, _, _, _, _, _, w⟩ => False.elim w
def kitsB (a : String) : List String → Option Bool
  | [] => some false
  | b :: r => match kitB a b with
    | some true => some true
    | some false => kitsB a r
    | none => none
theorem kits_any {K : PySem.W.Frag} {a : String} : ∀ {bs : List String} {r : Bool}, kitsB a bs = some r → PySem.W.kitAny K (.type a) (bs.map Value.type) = some r
  | [], _, h => h
  | b :: bs, r, h => by
    simp only [kitsB] at h
    cases e : kitB a b with
    | none => rw [e] at h; cases h
    | some c =>
      rw [e] at h
      cases c with
      | true => exact kitAny_cons (b := true) (kit_ty e) (fun z => by cases z) (fun _ => by simpa using h.symm)
      | false => exact kitAny_cons (b := false) (kit_ty e) (fun _ => kits_any h) (fun z => by cases z)
/-- isinstance for built-in classes alone -/
def tyTab (bs : List String) (ts : List String) : List (Tag × Bool) := ts.filterMap fun t => (kitsB t bs).map fun r => (.ty t, r)
theorem tyTab_ok {G : Gm} {bs ts : List String} {us : List Value} (h : us = bs.map Value.type) : IsiOk G (tyTab bs ts) us := by
  subst h
  intro p hp
  simp only [tyTab, List.mem_filterMap, Option.map_eq_some_iff] at hp
  obtain ⟨t, _, r, e, rfl⟩ := hp
  refine ⟨fun c z => (by cases z), fun v hv => ?_⟩
  obtain rfl : v = .type t := hv
  exact kits_any e
section
variable {X : Cx} {G : Gm} {W : WX} {z : Stt} {kk : Nat}
theorem r_globC {x : Str} {pos : Pos} {v : V} {d : D} (hg : Gl X x) (h : ∃ u, X.mg x = some u ∧ RelV v u) (hd : atomD v = some d) (hdb : (x == ("__debug__" : Str)) = false := by decide) : PE X (.Name x pos) (tS G W true (xC d)) := by
  obtain ⟨u, h1, h2⟩ := h
  exact r_const (pe_glob hg h1 h2 hdb) hd
theorem g_at {i : Nat} {x : Str} {pos : Pos} (hN : X.N.Nodup) (hi : X.N[i]? = some x := by rfl) (hx : Loc X.env.scope x := by first | exact Or.inl rfl | exact Or.inr rfl) (hf : X.fn x = true ∨ X.env.scope.names.lookup x = some .local := by first | exact Or.inl rfl | exact Or.inr rfl) : PG X (.Name x pos) (tG G [i] (gNm i)) := g_name (pg_name hN hi hx hf)
theorem set_at {fl : Fl} {i : Nat} {x : Str} {e : Expr} {s : Bool} {f : EE} {pos pos' : Pos} (hN : X.N.Nodup) (he : PE X e (tS G W s f)) (hi : X.N[i]? = some x := by rfl) (hx : Loc X.env.scope x := by first | exact Or.inl rfl | exact Or.inr rfl) (hs : swapsWith e (some (.Name x pos')) pos.line X.env = pure false := by rfl) (hf : X.fn x = true ∨ X.env.scope.names.lookup x = some .local := by first | exact Or.inl rfl | exact Or.inr rfl) :
    PS X (.Assign [.Name x pos'] e pos) (tT G W z (sSet fl i f)) := r_set (ps_set hN hi hx he hs hf)
theorem asg_at {tg e : Expr} {pos : Pos} {s : Bool} {is : List Nat} {g : GE} {f : EE} (he : PE X e (tS G W s f)) (hg : PG X tg (tG G is g)) (hne : NoErr g) (hs : swapsWithSole [tg] e pos.line X.env = pure false := by rfl) (hw : swappedStores [tg] e X.env = pure none := by rfl)
    (h1 : (assignEach [tg] X.env).map (·.2) = [assign tg X.env] := by rfl) : PS X (.Assign [tg] e pos) (tT G W z (sAsg g f)) := r_asg (fun _ _ a b => ps_asg a b hs hw h1) he hg hne
/-- a, b = x, y -/
def parK (i j : Nat) (ρ1 : Env) : List (D × Kd) → Res Flo
  | [(d1, k1), (d2, k2)] => if fzAll [(d1, k1), (d2, k2)] = true then
      (gNm i d1 ρ1).bind fun ρ2 => (gNm j d2 ρ2).bind fun ρ3 => .ok (.nx ρ3)
    else .bad
  | _ => .bad
def sPar (i j : Nat) (f : AE) : SE := fun ρ => do
  let (l, ρ1) ← f ρ
  parK i j ρ1 l
theorem r_par {i j : Nat} {x y : Str} {a b : Expr} {s : Bool} {f : AE} {px py pt pos : Pos} {kt k2 pt2} (hc : X.calm = true) (hN : X.N.Nodup) (hi : X.N[i]? = some x) (hj : X.N[j]? = some y) (hij : i ≠ j)
    (lx : X.env.scope.names.lookup x = some .local) (ly : X.env.scope.names.lookup y = some .local) (ha : PA X [a, b] (tA G W s f))
    (hw : swappedStores [.Tuple [.Name x px, .Name y py] kt pt] (.Tuple [a, b] k2 pt2) X.env = pure (some [x, y]) := by rfl)
    (hs : swapsWithSole [.Tuple [.Name x px, .Name y py] kt pt] (.Tuple [a, b] k2 pt2) pos.line X.env = pure false := by rfl) :
    PS X (.Assign [.Tuple [.Name x px, .Name y py] kt pt] (.Tuple [a, b] k2 pt2) pos) (tT G W z (sPar i j f)) := PS.of (ps_par hc hN hi hj hij lx ly ha hw hs) fun Dn σ H h => by
  obtain ⟨x, rfl, rfl, hx, hz, q⟩ := h
  refine ⟨x, rfl, rfl, hx, ?_⟩
  unfold sPar at q
  cases e : f x.rho with
  | bad => simp only [e, Res.bind_bad] at q; exact q.elim
  | err c d ρ' =>
    simp only [e, Res.bind_err] at q
    intro y cls dx hρ iy ey hev
    have := q y cls dx hρ (SStep.ext hz hx iy ey) hev
    rw [ey.sg] at this; exact this
  | ok r =>
    obtain ⟨l, ρ1⟩ := r
    simp only [e, Res.bind_ok] at q
    intro y vs hρ iy ey ay
    match l, ay, q with
    | [(d1, k1), (d2, k2)], ay, q =>
      simp only [parK] at q
      by_cases hf : fzAll [(d1, k1), (d2, k2)] = true
      · rw [if_pos hf] at q
        obtain ⟨F', i', e', rp⟩ := ay.frozen hx iy ey hf
        obtain ⟨v, ws, rfl, r1, r2⟩ := rp.cons_of
        obtain ⟨w, ws, rfl, r2, r3⟩ := r2.cons_of
        rw [r3.nil_of]
        refine ⟨v, w, rfl, ?_⟩
        rw [← hρ] at q
        cases h1 : gNm i d1 y.rho with
        | bad => simp only [h1, Res.bind] at q; exact q.elim
        | err c d' ρ' => exact absurd h1 (ne_name _ _ _ _ _)
        | ok ρ2 =>
          simp only [h1, Res.bind] at q
          obtain ⟨y1, y2, y3, y4, y5⟩ := set_tstep (x := { y with F := F' }) i' r1 h1
          cases h2 : gNm j d2 ρ2 with
          | bad => simp only [h2] at q; exact q.elim
          | err c d' ρ' => exact absurd h2 (ne_name _ _ _ _ _)
          | ok ρ3 =>
            simp only [h2] at q
            obtain ⟨u1, u2, u3, u4, u5⟩ := set_tstep (v := w) y5.inv (by rw [y5.F, y5.H]; exact r2) (show setSlot .fz j d2 .fz y1.rho = .ok ρ3 by rw [y2]; exact h2)
            have st := (SStep.ext hz hx i' e').trans ((y5.step (hz.ext hx e')).trans (u5.step ((y5.step (hz.ext hx e')).ent)))
            have := q u1 u2 st
            rw [u3, y3, u4, y4] at this
            rw [← ey.sg]; exact this
      · rw [if_neg hf] at q; exact q.elim
    | [], _, q => exact q.elim
    | [_], _, q => exact q.elim
    | _ :: _ :: _ :: _, _, q => exact q.elim
/-- all(list of truths) -/
def blsOf : List D → Option (List Bool)
  | [] => some []
  | .bl b :: r => (blsOf r).map (b :: ·)
  | _ :: _ => none
theorem blsOf_eq : ∀ {l : List D} {bs : List Bool}, blsOf l = some bs → l = bs.map D.bl
  | [], ns, h => by cases h; rfl
  | d :: r, ns, h => by
    cases d <;> first | cases h | skip
    simp only [blsOf, Option.map_eq_some_iff] at h
    obtain ⟨ms, h1, rfl⟩ := h
    rw [List.map_cons, blsOf_eq h1]
theorem Rep.bls_of {F : Addr → Prop} {H : Hp} : ∀ {ns : List Bool} {vs : List V}, Rep G F H vs (ns.map D.bl) → vs = ns.map V.bl
  | [], vs, h => h.nil_of
  | n :: ns, vs, h => by
    obtain ⟨v, ws, rfl, r1, r2⟩ := h.cons_of
    rw [r1.bl_of, Rep.bls_of r2]; rfl
def dAll : D → Option (D × Kd)
  | .lst es => (blsOf es).map fun bs => (.bl (bs.all id), .fz)
  | _ => none
theorem o_all (hc : X.calm = true) : CallR X (.builtin "all") (rAll X.K) ∧ FnD G (rAll X.K) (f1 dAll) := ⟨cr_all hc, by
  intro F H vs ds d k Q hd hr hg q
  obtain ⟨a, ea, hg'⟩ := f1_of hg
  subst ea
  obtain ⟨v, fp, rfl, w⟩ := hr.one
  cases a <;> first | cases hg' | skip
  simp only [dAll, Option.map_eq_some_iff, Prod.mk.injEq] at hg'
  obtain ⟨bs, e, rfl, rfl⟩ := hg'
  obtain rfl := blsOf_eq e
  obtain ⟨a, ws, rfl, e1, z1, r1⟩ := w.lstM
  obtain rfl := Rep.bls_of r1
  exact ⟨a, bs, rfl, .inl (.inl e1), q F H _ [] (.atom hd rfl)⟩⟩
/-- great != [] as a test -/
theorem r_tdrwNe {i : Nat} {o k : Expr} {p1 p2 p3 : Pos} (hr : RoomG kk X.A) (hK : X.K = G.K) (ho : PE X o (tVar i)) (hk : PE X k (tC (.str "great"))) (hs : NoSl k) : PT X (.Compare (.Subscript o k p1) [.NotEq] [.List [] p2] p3) (tB G W true (xTst (xDrwNe i))) :=
  PT.of (pt_cmpR (o_ne (G := G) hr hK).1 (pe_dget (Nat.lt_of_le_of_lt (Nat.add_le_add_left (by decide) _) hr.room.units) ho hk hs) (r_lst (G := G) (W := W) r_anil) rfl) fun σ H Q h => drwNe_imp hr hK (tB_of h)
end
section
variable {X : Cx} {G : Gm} {W : WX} {z : Stt}
theorem r_neverE {e : Expr} : PE X e (tS G W true xBad) := ⟨fun _ _ _ _ _ _ ⟨_, _, _, _, q⟩ => False.elim q⟩
theorem b_bin {op : Operator} {a b : Expr} {pos : Pos} {r : R2} {g : D → D → Option (D × Kd)} {s t : Bool} {f1 f2 : EE} (h : OpR X (binaryOp op) r ∧ FnD2 G r g) (ha : PE X a (tS G W s f1)) (hb : PE X b (tS G W t f2)) : PE X (.BinOp a op b pos) (tS G W (s && t) (xAp2 t g f1 f2)) := r_bin h.1 h.2 ha hb
theorem b_un {op : UnaryOp} {a : Expr} {pos : Pos} {r : V → Hp → VK → Prop} {g : D → Option (D × Kd)} {s : Bool} {f : EE} (h : UnR X (unaryOp op) r ∧ FnD1 G r g) (ha : PE X a (tS G W s f)) : PE X (.UnaryOp op a pos) (tS G W s (xAp1 g f)) := r_un h.1 h.2 ha
theorem b_cmp {op : CmpOp} {a b : Expr} {pos : Pos} {r : R2} {g : D → D → Option (D × Kd)} {s t : Bool} {f1 f2 : EE} (h : OpR X (compareOp op) r ∧ FnD2 G r g) (ha : PE X a (tS G W s f1)) (hb : PE X b (tS G W t f2)) (hm : behindInMarks op b = false := by rfl) : PE X (.Compare a [op] [b] pos) (tS G W (s && t) (xAp2 t g f1 f2)) := r_cmp h.1 h.2 ha hb hm
theorem b_tcmp {op : CmpOp} {a b : Expr} {pos : Pos} {r : R2} {g : D → D → Option (D × Kd)} {s t : Bool} {f1 f2 : EE} (h : OpR X (compareOp op) r ∧ FnD2 G r g) (ha : PE X a (tS G W s f1)) (hb : PE X b (tS G W t f2)) (hm : behindInMarks op b = false := by rfl) : PT X (.Compare a [op] [b] pos) (tB G W (s && t) (xTst (xAp2 t g f1 f2))) := r_tcmp h.1 h.2 ha hb hm
theorem b_chain {op op' : CmpOp} {r r' : R2} {a b c : Expr} {pos : Pos} {s t u : Bool} {f1 f2 f3 : EE} {g g' : D → D → Option (D × Kd)} (h : OpR X (compareOp op) r ∧ FnD2 G r g) (h' : OpR X (compareOp op') r' ∧ FnD2 G r' g') (ha : PE X a (tS G W s f1)) (hb : PE X b (tS G W t f2)) (hc : PE X c (tS G W u f3))
    (hm : lastMarks [op, op'] [b, c] = false := by with_unfolding_all rfl) : PE X (.Compare a [op, op'] [b, c] pos) (tS G W (s && (t && u)) (xChain g g' f1 f2 f3)) := r_chain h.1 h.2 h'.1 h'.2 ha hb hc hm
theorem b_tchain {op op' : CmpOp} {r r' : R2} {a b c : Expr} {pos : Pos} {s t u : Bool} {f1 f2 f3 : EE} {g g' : D → D → Option (D × Kd)} (h : OpR X (compareOp op) r ∧ FnD2 G r g) (h' : OpR X (compareOp op') r' ∧ FnD2 G r' g') (ha : PE X a (tS G W s f1)) (hb : PE X b (tS G W t f2)) (hc : PE X c (tS G W u f3))
    (hm : lastMarks [op, op'] [b, c] = false := by with_unfolding_all rfl) : PT X (.Compare a [op, op'] [b, c] pos) (tB G W (s && (t && u)) (xTst (xChain g g' f1 f2 f3))) := r_tchain h.1 h.2 h'.1 h'.2 ha hb hc hm
theorem b_ix {a b : Expr} {pos : Pos} {r : R2} {g : D → D → Option (D × Kd)} {s t : Bool} {f1 f2 : EE} (h : IxR X r ∧ FnD2 G r g) (ha : PE X a (tS G W s f1)) (hb : PE X b (tS G W t f2)) (hs : PlainIx b := by exact fun _ _ => rfl) : PE X (.Subscript a b pos) (tS G W (s && t) (xAp2 t g f1 f2)) := r_ix h.1 h.2 ha hb hs
theorem b_cb {id : String} {x : Str} {p pos : Pos} {e : Expr} {es : List Expr} {r : List V → Hp → VK → Prop} {g : List D → Option (D × Kd)} {s : Bool} {f : AE} (h : CallR X (.builtin id) r ∧ FnD G r g) (hm : X.mg x = none) (ha : PA X (e :: es) (tA G W s f)) (hg : Gl X x := by rfl) (hv : bootBuiltins x = some (.builtin id) := by decide +kernel)
    (hn : x ≠ "__name__" := by decide) (hdb : (x == ("__debug__" : Str)) = false := by decide) (he : starEach (e :: es) X.env = (false, eval e X.env) :: starEach es X.env := by rfl) (hpl : (backTo pos (starEach es X.env)).any (·.1) = false := by rfl) :
    PE X (.Call (.Name x p) (e :: es) [] pos) (tS G W s (xApp g f)) := r_callB h.1 h.2 hg hm hv ha hn hdb he hpl
theorem b_ct {T : String} {x : Str} {p pos : Pos} {e : Expr} {es : List Expr} {r : List V → Hp → VK → Prop} {g : List D → Option (D × Kd)} {s : Bool} {f : AE} (h : CallR X (.type T) r ∧ FnD G r g) (hm : X.mg x = none) (ha : PA X (e :: es) (tA G W s f)) (hg : Gl X x := by rfl) (hv : bootBuiltins x = some (.type T) := by decide +kernel)
    (hn : x ≠ "__name__" := by decide) (hdb : (x == ("__debug__" : Str)) = false := by decide) (he : starEach (e :: es) X.env = (false, eval e X.env) :: starEach es X.env := by rfl) (hpl : (backTo pos (starEach es X.env)).any (·.1) = false := by rfl) :
    PE X (.Call (.Name x p) (e :: es) [] pos) (tS G W s (xApp g f)) := r_callTy h.1 h.2 hg hm hv ha hn hdb he hpl
end
section
variable {P : Program} {w : World} {K : PySem.W.Frag} {mg : Str → Option Value} {base : Heap} {N : List Str} {qual : Str} {sc : Scope} {f : Addr} {cd : Value} {A : Around} {outer : List PySem.Env} {s : Shared} {H : Hp} {E : XK}
theorem tkD : Takes (cxOf (L2.CX P w) P w K mg base N qual sc f cd A outer s H E) (fun cls d _ H => E cls d H) := takes_of rfl rfl rfl rfl
theorem paD : PassesOwn (model (cxOf (L2.CX P w) P w K mg base N qual sc f cd A outer s H E).prog (cxOf (L2.CX P w) P w K mg base N qual sc f cd A outer s H E).w) (cxOf (L2.CX P w) P w K mg base N qual sc f cd A outer s H E).A (cxOf (L2.CX P w) P w K mg base N qual sc f cd A outer s H E).env (cxOf (L2.CX P w) P w K mg base N qual sc f cd A outer s H E).xe := passes_of rfl
end
/-- a class whose instances are plain -/
structure ClsOk (K : PySem.W.Frag) (C : Addr) : Prop where
  i : ClsI K C
theorem clsI_mk {K : PySem.W.Frag} {C : Addr} (pg : PySem.W.plainGet K C Str.empty = true) (hd : PySem.W.hasDictIn K C = true) (po : PySem.W.plainOver K C = true) (sa : PySem.W.findIn K (.ref C) "__setattr__" = some (some (.builtin "object.__setattr__")))
    (ha : PySem.W.findIn K (.ref C) "__class__" = some (some (.builtin "object.__class__"))) (hn : PySem.W.specialIn K (.builtin "object.__class__") "__get__" = some (some (.builtin "getset_descriptor.__get__"))) (ht : PySem.W.takesIn K (.builtin "object.__class__") = some true) (hm : PySem.W.mroIn K C (.type "object") = some true) : ClsI K C := ⟨⟨pg, hd, po, sa⟩, ha, hn, ht, hm⟩
theorem kit_self {K : PySem.W.Frag} {C : Addr} {us : List Value} : PySem.W.kitAny K (.ref C) (.ref C :: us) = some true := by
  have e : (Value.ref C == Value.ref C) = true := by simp
  simp only [PySem.W.kitAny, PySem.W.kitOne, e, if_true]
theorem isi_nil {G : Gm} {us : List Value} : IsiOk G [] us := fun p hp => by simp at hp
theorem isi_cons {G : Gm} {c : Nat} {C : Addr} {b : Bool} {tab : List (Tag × Bool)} {us : List Value} (hc : G.cm c = some C) (hi : ClsI G.K C) (hk : PySem.W.kitAny G.K (.ref C) us = some b) (h : IsiOk G tab us) : IsiOk G ((.cls c, b) :: tab) us := fun p hp => by
  rcases List.mem_cons.mp hp with e | hp
  · subst e
    refine ⟨fun c' e C' hC => ?_, fun t ht => ?_⟩
    · cases e; rw [hc] at hC; cases hC; exact hi
    · obtain ⟨C', hC, e, _⟩ := ht
      rw [hc] at hC; cases hC; subst e; exact hk
  · exact h p hp
theorem isi_consT {G : Gm} {n : String} {b : Bool} {tab : List (Tag × Bool)} {us : List Value} (hk : PySem.W.kitAny G.K (.type n) us = some b) (h : IsiOk G tab us) : IsiOk G ((.ty n, b) :: tab) us := fun p hp => by
  rcases List.mem_cons.mp hp with e | hp
  · subst e
    refine ⟨fun c' e => (by cases e), fun t ht => ?_⟩
    obtain rfl : t = .type n := ht
    exact hk
  · exact h p hp
theorem fld_nil {G : Gm} {f : Str} : FldOk G [] f := fun c hc => by simp at hc
theorem fld_cons {G : Gm} {c : Nat} {C : Addr} {cs : List Nat} {f : Str} (hc : G.cm c = some C) (cl : Cls G.K C) (na : NoAttr G.K C f) (h : FldOk G cs f) : FldOk G (c :: cs) f := fun c' hp C' hC => by
  rcases List.mem_cons.mp hp with e | hp
  · subst e
    rw [hc] at hC; cases hC; exact ⟨cl, na⟩
  · exact h c' hp C' hC
def adrOf : Option Value → Option Addr
  | some (.ref a) => some a
  | _ => none
end VL
/-! VLE: the mirrors unfolded. -/
namespace VL
open PySem PySem.Spec PyProof.Rows L2

@[simp] theorem ev_xC (d : D) (ρ : Env) : xC d ρ = (.ok (d, .fz, ρ)) := Eq.trans rfl rfl
@[simp] theorem ev_xV (i : Nat) (ρ : Env) : xV i ρ = (match ρ[i]? with
  | some (some (d, .fz)) => .ok (d, .fz, ρ)
  | some (some (d, _)) => .ok (d, .br, ρ)
  | _ => .bad) := Eq.trans rfl rfl
@[simp] theorem ev_aN (ρ : Env) : aN  ρ = (.ok ([], ρ)) := Eq.trans rfl rfl
@[simp] theorem ev_aC (s : Bool) (f : EE) (g : AE) (ρ : Env) : aC s f g ρ = (do
  let (d, k, ρ1) ← f ρ
  if k = .br ∧ s = false then .bad else do
    let (l, ρ2) ← g ρ1
    pure ((d, k) :: l, ρ2)) := Eq.trans rfl rfl
@[simp] theorem ev_xTup (f : AE) (ρ : Env) : xTup f ρ = (do
  let (l, ρ1) ← f ρ
  if fzAll l = true ∧ l.length ≤ sizeLine then pure (.tup (l.map (·.1)), .fz, ρ1) else .bad) := Eq.trans rfl rfl
@[simp] theorem ev_xLst (f : AE) (ρ : Env) : xLst f ρ = (do
  let (l, ρ1) ← f ρ
  if fzAll l = true ∧ l.length ≤ sizeLine then pure (.lst (l.map (·.1)), .ow, ρ1) else .bad) := Eq.trans rfl rfl
@[simp] theorem ev_xTst (f : EE) (ρ : Env) : xTst f ρ = (do
  let (d, _, ρ1) ← f ρ
  match d with
  | .bl b => pure (b, ρ1)
  | _ => .bad) := Eq.trans rfl rfl
@[simp] theorem ev_bNot (f : BE) (ρ : Env) : bNot f ρ = (do
  let (b, ρ1) ← f ρ
  pure (!b, ρ1)) := Eq.trans rfl rfl
@[simp] theorem ev_bK (b : Bool) (ρ : Env) : bK b ρ = (pure (b, ρ)) := Eq.trans rfl rfl
@[simp] theorem ev_bIf (f g g' : BE) (ρ : Env) : bIf f g g' ρ = (do
  let (b, ρ1) ← f ρ
  if b = true then g ρ1 else g' ρ1) := Eq.trans rfl rfl
@[simp] theorem ev_xCall (m : FA) (f : AE) (ρ : Env) : xCall m f ρ = (do
  let (l, ρ1) ← f ρ
  if argsOk l = true then
    match m (l.map argS) with
    | .ok (d, k) => if k = .br then .bad else .ok (d, k, ρ1)
    | .err c d _ => .err c d ρ1
    | .bad => .bad
  else .bad) := Eq.trans rfl rfl
@[simp] theorem ev_xCallM (m : FB) (i : Nat) (f : AE) (ρ : Env) : xCallM m i f ρ = (match ρ[i]? with
  | some (some (_, fl)) => if ownFl fl = true then (do
      let (l, ρ1) ← f ρ
      callMK m i l ρ1) else .bad
  | _ => .bad) := Eq.trans rfl rfl
@[simp] theorem ev_xMake (cn : Nat) (m : FB) (f : AE) (ρ : Env) : xMake cn m f ρ = (do
  let (l, ρ1) ← f ρ
  if argsOk l = true then
    match m (some (.ins cn [], .pn) :: l.map argS) with
    | .ok (.non, _, d1) => if d1.isDrw = true then .bad else .ok (d1, .ow, ρ1)
    | .err c d ρ' => match err1 ρ' with
      | some _ => .err c d ρ1
      | none => .bad
    | _ => .bad
  else .bad) := Eq.trans rfl rfl
@[simp] theorem ev_xDrwRest (i : Nat) (ρ : Env) : xDrwRest i ρ = (match drwAt i ρ with
  | some (_, r, _, _, _) => .ok (.int r, .fz, ρ)
  | none => .bad) := Eq.trans rfl rfl
@[simp] theorem ev_xDrwTurn (i : Nat) (ρ : Env) : xDrwTurn i ρ = (match drwAt i ρ with
  | some (_, _, _, t, _) => .ok (.int t, .fz, ρ)
  | none => .bad) := Eq.trans rfl rfl
@[simp] theorem ev_xDrwCells (i : Nat) (ρ : Env) : xDrwCells i ρ = (match drwAt i ρ with
  | some (_, _, ce, _, _) => .ok (.lst (ce.map D.int), .fz, ρ)
  | none => .bad) := Eq.trans rfl rfl
@[simp] theorem ev_xDrwNe (i : Nat) (ρ : Env) : xDrwNe i ρ = (match drwAt i ρ with
  | some (gr, _, _, _, _) => .ok (.bl (!gr.isEmpty), .fz, ρ)
  | none => .bad) := Eq.trans rfl rfl
@[simp] theorem ev_xDrwPop (i : Nat) (ρ : Env) : xDrwPop i ρ = (match drwAt i ρ with
  | some (n :: gr, r, ce, t, fl) => .ok (.int n, .fz, ρ.set i (some (.drw gr r ce t, fl)))
  | _ => .bad) := Eq.trans rfl rfl
@[simp] theorem ev_sDrwRest (i : Nat) (f : EE) (ρ : Env) : sDrwRest i f ρ = (do
  let (d, _, ρ1) ← f ρ
  match d, drwAt i ρ1 with
  | .int n, some (gr, _, ce, t, fl) => .ok (.nx (ρ1.set i (some (.drw gr n ce t, fl))))
  | _, _ => .bad) := Eq.trans rfl rfl
@[simp] theorem ev_sDrwTurn (i : Nat) (f : EE) (ρ : Env) : sDrwTurn i f ρ = (do
  let (d, _, ρ1) ← f ρ
  match d, drwAt i ρ1 with
  | .int n, some (gr, r, ce, _, fl) => .ok (.nx (ρ1.set i (some (.drw gr r ce n, fl))))
  | _, _ => .bad) := Eq.trans rfl rfl
@[simp] theorem ev_sBad (v0 : Env) : sBad  v0 = (.bad) := Eq.trans rfl rfl
@[simp] theorem ev_xBad (v0 : Env) : xBad  v0 = (.bad) := Eq.trans rfl rfl
@[simp] theorem ev_xIfD (f g g' : EE) (ρ : Env) : xIfD f g g' ρ = (do
  let (d, _, ρ1) ← f ρ
  match d with
  | .bl b => if b = true then g ρ1 else g' ρ1
  | _ => .bad) := Eq.trans rfl rfl
@[simp] theorem ev_xIfE (c : BE) (g g' : EE) (ρ : Env) : xIfE c g g' ρ = (do
  let (b, ρ1) ← c ρ
  if b = true then g ρ1 else g' ρ1) := Eq.trans rfl rfl
@[simp] theorem ev_sAsg (g : GE) (f : EE) (ρ : Env) : sAsg g f ρ = (do
  let (d, k, ρ1) ← f ρ
  match k with
  | .fz => do
    let ρ2 ← g d ρ1
    pure (.nx ρ2)
  | _ => .bad) := Eq.trans rfl rfl
@[simp] theorem ev_sFldSet (cs : List Nat) (i : Nat) (f : Str) (g : EE) (ρ : Env) : sFldSet cs i f g ρ = (do
  let (d, k, ρ1) ← g ρ
  fldK cs i f d k ρ1) := Eq.trans rfl rfl
@[simp] theorem ev_sRetDrw (i : Nat) (f : EE) (ρ : Env) : sRetDrw i f ρ = (match ρ[i]? with
  | some (some (.lst es, .ow)) => match intsOf es with
    | some gr => (f ρ).bind fun r => match r with
      | (.lst cs, .ow, ρ1) => match intsOf cs with
        | some ce => .ok (.rt (.drw gr 0 ce 0) .ow ρ1)
        | none => .bad
      | _ => .bad
    | none => .bad
  | _ => .bad) := Eq.trans rfl rfl
@[simp] theorem ev_sSeq (s t : SE) (ρ : Env) : sSeq s t ρ = (do
  match ← s ρ with
  | .nx ρ1 => t ρ1
  | f => pure f) := Eq.trans rfl rfl
@[simp] theorem ev_sNil (ρ : Env) : sNil  ρ = (pure (.nx ρ)) := Eq.trans rfl rfl
@[simp] theorem ev_sEx (f : EE) (ρ : Env) : sEx f ρ = (do
  let (_, _, ρ1) ← f ρ
  pure (.nx ρ1)) := Eq.trans rfl rfl
@[simp] theorem ev_sIf (c : BE) (s t : SE) (ρ : Env) : sIf c s t ρ = (do
  let (b, ρ1) ← c ρ
  if b = true then s ρ1 else t ρ1) := Eq.trans rfl rfl
@[simp] theorem ev_sSet (fl : Fl) (i : Nat) (f : EE) (ρ : Env) : sSet fl i f ρ = (do
  let (d, k, ρ1) ← f ρ
  let ρ2 ← setSlot fl i d k ρ1
  pure (.nx ρ2)) := Eq.trans rfl rfl
@[simp] theorem ev_sRet (f : EE) (ρ : Env) : sRet f ρ = (do
  let (d, k, ρ1) ← f ρ
  match k with
  | .br => .bad
  | _ => pure (.rt d k ρ1)) := Eq.trans rfl rfl
@[simp] theorem ev_sRetV (i : Nat) (ρ : Env) : sRetV i ρ = (match ρ[i]? with
  | some (some (d, .fz)) => pure (.rt d .fz ρ)
  | some (some (d, .ow)) => pure (.rt d .ow ρ)
  | _ => .bad) := Eq.trans rfl rfl
@[simp] theorem ev_sRetN (ρ : Env) : sRetN  ρ = (pure (.rt .non .fz ρ)) := Eq.trans rfl rfl
@[simp] theorem ev_sFrz (i : Nat) (s : SE) (ρ : Env) : sFrz i s ρ = (match ρ[i]? with
  | some (some (d, .ow)) => if d.fzOk = true then s (ρ.set i (some (d, .fz))) else .bad
  | _ => s ρ) := Eq.trans rfl rfl
@[simp] theorem ev_sBrk (ρ : Env) : sBrk  ρ = (pure (.bk ρ)) := Eq.trans rfl rfl
@[simp] theorem ev_sCnt (ρ : Env) : sCnt  ρ = (pure (.ct ρ)) := Eq.trans rfl rfl
@[simp] theorem ev_gNm (i : Nat) (d : D) (ρ : Env) : gNm i d ρ = (setSlot .fz i d .fz ρ) := Eq.trans rfl rfl
@[simp] theorem ev_gsN (ds : List D) (ρ : Env) : gsN  ds ρ = (match ds with
  | [] => .ok ρ
  | _ => .bad) := Eq.trans rfl rfl
@[simp] theorem ev_gsC (g : GE) (gs : List D → Env → Res Env) (ds : List D) (ρ : Env) : gsC g gs ds ρ = (match ds with
  | d :: r => do
    let ρ1 ← g d ρ
    gs r ρ1
  | [] => .bad) := Eq.trans rfl rfl
@[simp] theorem ev_gTp (n : Nat) (gs : List D → Env → Res Env) (d : D) (ρ : Env) : gTp n gs d ρ = (match d with
  | .tup ds => if ds.length = n then gs ds ρ else .bad
  | _ => .bad) := Eq.trans rfl rfl
@[simp] theorem ev_sFor (it : IE) (g : GE) (body : SE) (ρ : Env) : sFor it g body ρ = (do
  let (ds, br, ρ1) ← it ρ
  if br = true then .bad else forL g body ds ρ1) := Eq.trans rfl rfl
@[simp] theorem ev_iSeq (f : EE) (ρ : Env) : iSeq f ρ = (do
  let (d, k, ρ1) ← f ρ
  match d with
  | .lst ds => pure (ds, decide (k = .br), ρ1)
  | .tup ds => pure (ds, false, ρ1)
  | .scr ns => pure (ns.map D.int, false, ρ1)
  | _ => .bad) := Eq.trans rfl rfl
@[simp] theorem ev_bYes (ρ : Env) : bYes  ρ = (pure (true, ρ)) := Eq.trans rfl rfl
@[simp] theorem ev_xLc (vs : List Nat) (it : IE) (g : GE) (t : BE) (e : EE) (ρ : Env) : xLc vs it g t e ρ = (do
  let (ds, _, ρ1) ← it ρ
  if wipable ρ1 vs = true ∧ ds.length ≤ sizeLine then
    match lcS g t e (wipeR ρ1 vs) ds with
    | .ok l => .ok (.lst l, .ow, ρ1)
    | _ => .bad
  else .bad) := Eq.trans rfl rfl
@[simp] theorem ev_sPar (i j : Nat) (f : AE) (ρ : Env) : sPar i j f ρ = (do
  let (l, ρ1) ← f ρ
  parK i j ρ1 l) := Eq.trans rfl rfl
@[simp] theorem ev_xCallK (m : FA) (perm : List Nat) (s2 : Bool) (f fk : AE) (ρ : Env) : xCallK m perm s2 f fk ρ = (do
  let (l1, ρ1) ← f ρ
  if (l1.any fun dk => decide (dk.2 = .br)) = true ∧ s2 = false then .bad else do
    let (l2, ρ2) ← fk ρ1
    let l := pick perm (l1 ++ l2)
    if argsOk l = true then
      match m (l.map argS) with
      | .ok (d, k) => if k = .br then .bad else .ok (d, k, ρ2)
      | .err c d _ => .err c d ρ2
      | .bad => .bad
    else .bad) := Eq.trans rfl rfl
@[simp] theorem ev_bAnd (f g : BE) : bAnd f g = (bIf f g (bK false)) := Eq.trans rfl rfl
@[simp] theorem ev_bOr (f g : BE) : bOr f g = (bIf f (bK true) g) := Eq.trans rfl rfl
@[simp] theorem ev_xAnd (f g : EE) : xAnd f g = (xIfD f g (xC (.bl false))) := Eq.trans rfl rfl
@[simp] theorem ev_xOr (f g : EE) : xOr f g = (xIfD f (xC (.bl true)) g) := Eq.trans rfl rfl
@[simp] theorem ev_xNot (f : EE) : xNot f = (xIfD f (xC (.bl false)) (xC (.bl true))) := Eq.trans rfl rfl
@[simp] theorem ev_xApp (g : List D → Option (D × Kd)) (f : AE) (ρ : Env) : xApp g f ρ = (do
  let (l, ρ1) ← f ρ
  match g (l.map (·.1)) with
  | some (d, k) => pure (d, k, ρ1)
  | none => .bad) := Eq.trans rfl rfl
@[simp] theorem ev_xAp2 (s2 : Bool) (g : D → D → Option (D × Kd)) (f1 f2 : EE) (ρ : Env) : xAp2 s2 g f1 f2 ρ = (do
  let (a, k1, ρ1) ← f1 ρ
  if k1 = .br ∧ s2 = false then .bad else do
    let (b, _, ρ2) ← f2 ρ1
    match g a b with
    | some (d, k) => pure (d, k, ρ2)
    | none => .bad) := Eq.trans rfl rfl
@[simp] theorem ev_xAp1 (g : D → Option (D × Kd)) (f : EE) (ρ : Env) : xAp1 g f ρ = (do
  let (a, _, ρ1) ← f ρ
  match g a with
  | some (d, k) => pure (d, k, ρ1)
  | none => .bad) := Eq.trans rfl rfl
@[simp] theorem ev_xMut (p : D → Bool) (i : Nat) (g : D → List D → Option (D × D)) (f : AE) (ρ : Env) : xMut p i g f ρ = (match ρ[i]? with
  | some (some (d0, fl)) => if ownFl fl = true ∧ p d0 = true then (do
      let (l, ρ1) ← f ρ
      mutK p i g l ρ1) else .bad
  | _ => .bad) := Eq.trans rfl rfl
@[simp] theorem ev_xChain (g g' : D → D → Option (D × Kd)) (f1 f2 f3 : EE) (ρ : Env) : xChain g g' f1 f2 f3 ρ = (do
  let (a, k1, ρ1) ← f1 ρ
  if k1 = .br then .bad else do
    let (b, k2, ρ2) ← f2 ρ1
    if k2 = .br then .bad else chainM g g' f3 a b ρ2) := Eq.trans rfl rfl
@[simp] theorem ev_append (es : List D) (d : D) : mAppend (.lst es) [d] = if es.length < sizeLine then some (.lst (es ++ [d]), .non) else none := Eq.trans rfl rfl
def rngK1 (l : List (D × Kd)) (ρ1 : Env) : Res (List D × Bool × Env) := match int1 l with
  | some j => if rngOk j = true then pure (rng 0 j.toNat, false, ρ1) else .bad
  | none => .bad
def rngK2 (l : List (D × Kd)) (ρ1 : Env) : Res (List D × Bool × Env) := match int2 l with
  | some (i, j) => if rngOk i = true ∧ rngOk j = true then pure (rng i (j - i).toNat, false, ρ1) else .bad
  | none => .bad
@[simp] theorem ev_iRng1D (f : AE) (ρ : Env) : iRng1D f ρ = (do
  let (l, ρ1) ← f ρ
  rngK1 l ρ1) := Eq.trans rfl rfl
@[simp] theorem ev_iRng2D (f : AE) (ρ : Env) : iRng2D f ρ = (do
  let (l, ρ1) ← f ρ
  rngK2 l ρ1) := Eq.trans rfl rfl
theorem rngOk_small {j : Int} (h : -1000000 < j ∧ j < 1000000) : rngOk j = true := by
  unfold rngOk
  rw [decide_eq_true_eq]
  omega
theorem rngK1_ok {j : Int} {k : Kd} {ρ1 : Env} (h : -1000000 < j ∧ j < 1000000) : rngK1 [(.int j, k)] ρ1 = .ok (rng 0 j.toNat, false, ρ1) := by
  unfold rngK1 int1
  exact if_pos (rngOk_small h)
theorem rngK2_ok {i j : Int} {k k' : Kd} {ρ1 : Env} (h : -1000000 < i ∧ i < 1000000) (h' : -1000000 < j ∧ j < 1000000) : rngK2 [(.int i, k), (.int j, k')] ρ1 = .ok (rng i (j - i).toNat, false, ρ1) := by
  unfold rngK2 int2
  exact if_pos ⟨rngOk_small h, rngOk_small h'⟩
theorem rng_nat {j : Int} {n : Nat} (h : j = n) : rng 0 j.toNat = (List.range n).map fun (k : Nat) => D.int k := by
  subst h
  unfold rng
  simp
theorem rngK1_len {n : Nat} {k : Kd} {ρ1 : Env} (h : n < 1000000) : rngK1 [(.int n, k)] ρ1 = .ok ((List.range n).map fun (k : Nat) => D.int k, false, ρ1) := by
  rw [rngK1_ok (by omega), rng_nat rfl]
theorem rngK2_len {i j : Int} {n : Nat} {k k' : Kd} {ρ1 : Env} (h : -1000000 < i ∧ i < 1000000) (e : j = i + n) (h' : j < 1000000) : rngK2 [(.int i, k), (.int j, k')] ρ1 = .ok ((List.range n).map fun (k : Nat) => D.int (i + k), false, ρ1) := by
  rw [rngK2_ok h (by omega)]
  have e2 : (j - i).toNat = n := by omega
  rw [e2]; rfl
theorem sSeq_nx {s t : SE} {ρ ρ1 : Env} (h : s ρ = .ok (.nx ρ1)) : sSeq s t ρ = t ρ1 := by rw [ev_sSeq, h]; rfl
theorem sSeq_rt {s t : SE} {ρ ρ1 : Env} {d : D} {k : Kd} (h : s ρ = .ok (.rt d k ρ1)) : sSeq s t ρ = .ok (.rt d k ρ1) := by rw [ev_sSeq, h]; rfl
theorem xLc_ok {vs : List Nat} {it : IE} {g : GE} {t : BE} {e : EE} {ρ ρ1 : Env} {ds l : List D} {br : Bool} (h : it ρ = .ok (ds, br, ρ1)) (hw : wipable ρ1 vs = true) (hz : ds.length ≤ sizeLine) (hl : lcS g t e (wipeR ρ1 vs) ds = .ok l) : xLc vs it g t e ρ = .ok (.lst l, .ow, ρ1) := by
  rw [ev_xLc, h]
  simp only [Res.bind_ok, hw, hz, and_self, if_true, hl]
theorem iRng_1 {f : AE} {ρ ρ1 ρ2 : Env} {l : List (D × Kd)} {ds : List D} (h : f ρ = .ok (l, ρ1)) (rk : rngK1 l ρ1 = .ok (ds, false, ρ2)) : iRng1D f ρ = .ok (ds, false, ρ2) := by
  rw [ev_iRng1D, h]; exact rk
theorem iRng_2 {f : AE} {ρ ρ1 ρ2 : Env} {l : List (D × Kd)} {ds : List D} (h : f ρ = .ok (l, ρ1)) (rk : rngK2 l ρ1 = .ok (ds, false, ρ2)) : iRng2D f ρ = .ok (ds, false, ρ2) := by
  rw [ev_iRng2D, h]; exact rk
theorem sSet_ok {fl : Fl} {i : Nat} {f : EE} {ρ ρ1 ρ2 : Env} {d : D} {k : Kd} (h : f ρ = .ok (d, k, ρ1)) (hs : setSlot fl i d k ρ1 = .ok ρ2) : sSet fl i f ρ = .ok (.nx ρ2) := by
  rw [ev_sSet, h]
  simp only [Res.bind_ok, hs, Res.pure_ok]
theorem sEx_ok {f : EE} {ρ ρ1 : Env} {d : D} {k : Kd} (h : f ρ = .ok (d, k, ρ1)) : sEx f ρ = .ok (.nx ρ1) := by
  rw [ev_sEx, h]; rfl
theorem sIf_ok {c : BE} {s t : SE} {ρ ρ1 : Env} {b : Bool} {r : Res Flo} (h : c ρ = .ok (b, ρ1)) (h1 : b = true → s ρ1 = r) (h2 : b = false → t ρ1 = r) : sIf c s t ρ = r := by
  rw [ev_sIf, h]
  cases b with
  | true => exact h1 rfl
  | false => exact h2 rfl
theorem sFor_1 {f : AE} {g : GE} {b : SE} {ρ ρ1 ρ2 : Env} {l : List (D × Kd)} {ds : List D} (h : f ρ = .ok (l, ρ1)) (rk : rngK1 l ρ1 = .ok (ds, false, ρ2)) : sFor (iRng1D f) g b ρ = forL g b ds ρ2 := by
  rw [ev_sFor, ev_iRng1D, h]
  simp only [Res.bind_ok, rk]
  rfl
theorem sFor_2 {f : AE} {g : GE} {b : SE} {ρ ρ1 ρ2 : Env} {l : List (D × Kd)} {ds : List D} (h : f ρ = .ok (l, ρ1)) (rk : rngK2 l ρ1 = .ok (ds, false, ρ2)) : sFor (iRng2D f) g b ρ = forL g b ds ρ2 := by
  rw [ev_sFor, ev_iRng2D, h]
  simp only [Res.bind_ok, rk]
  rfl
/-! data -/
@[simp] theorem ev_add (a b : Int) : dAdd (.int a) (.int b) = some (.int (a + b), .fz) := Eq.trans rfl rfl
@[simp] theorem ev_sub (a b : Int) : dSub (.int a) (.int b) = some (.int (a - b), .fz) := Eq.trans rfl rfl
@[simp] theorem ev_mul (a b : Int) : dMul (.int a) (.int b) = if CMul a b then some (.int (a * b), .fz) else none := Eq.trans rfl rfl
@[simp] theorem ev_fdiv (a b : Int) : dFdiv (.int a) (.int b) = if CDivN a b then some (.int (a.fdiv b), .fz) else none := Eq.trans rfl rfl
@[simp] theorem ev_mod (a b : Int) : dMod (.int a) (.int b) = if b ≠ 0 then some (.int (a.fmod b), .fz) else none := Eq.trans rfl rfl
@[simp] theorem ev_pow (a b : Int) : dPow (.int a) (.int b) = if CPow a b then some (.int (a ^ b.toNat), .fz) else none := Eq.trans rfl rfl
@[simp] theorem ev_lt (a b : Int) : dLt (.int a) (.int b) = some (.bl (decide (a < b)), .fz) := Eq.trans rfl rfl
@[simp] theorem ev_le (a b : Int) : dLe (.int a) (.int b) = some (.bl (decide (a ≤ b)), .fz) := Eq.trans rfl rfl
@[simp] theorem ev_gt (a b : Int) : dGt (.int a) (.int b) = some (.bl (decide (b < a)), .fz) := Eq.trans rfl rfl
@[simp] theorem ev_ge (a b : Int) : dGe (.int a) (.int b) = some (.bl (decide (b ≤ a)), .fz) := Eq.trans rfl rfl
@[simp] theorem ev_neg (a : Int) : dNeg (.int a) = some (.int (-a), .fz) := Eq.trans rfl rfl
@[simp] theorem ev_min (a b : Int) : dMin2 (.int a) (.int b) = some (.int (if b < a then b else a), .fz) := Eq.trans rfl rfl
@[simp] theorem ev_max (a b : Int) : dMax2 (.int a) (.int b) = some (.int (if b > a then b else a), .fz) := Eq.trans rfl rfl
@[simp] theorem ev_abs (a : Int) : dAbs (.int a) = some (.int (if a < 0 then -a else a), .fz) := Eq.trans rfl rfl
@[simp] theorem ev_int (a : Int) : dInt (.int a) = some (.int a, .fz) := Eq.trans rfl rfl
@[simp] theorem ev_intb (b : Bool) : dInt (.bl b) = some (.int (if b then 1 else 0), .fz) := Eq.trans rfl rfl
@[simp] theorem ev_is_non : dIs .non .non = some (.bl true, .fz) := Eq.trans rfl rfl
@[simp] theorem ev_is_int (a : Int) : dIs (.int a) .non = some (.bl false, .fz) := Eq.trans rfl rfl
@[simp] theorem ev_f1 (g : D → Option (D × Kd)) (d : D) : f1 g [d] = g d := Eq.trans rfl rfl
@[simp] theorem ev_f2 (g : D → D → Option (D × Kd)) (d e : D) : f2 g [d, e] = g d e := Eq.trans rfl rfl
@[simp] theorem ev_len_l (l : List D) : dLen (.lst l) = some (.int l.length, .fz) := Eq.trans rfl rfl
@[simp] theorem ev_len_t (l : List D) : dLen (.tup l) = some (.int l.length, .fz) := Eq.trans rfl rfl
@[simp] theorem ev_len_s (l : List Int) : dLen (.scr l) = some (.int l.length, .fz) := Eq.trans rfl rfl
@[simp] theorem ev_idx_l (l : List D) (i : Int) : dIdx (.lst l) (.int i) = (atI l i).map fun d => (d, .fz) := Eq.trans rfl rfl
@[simp] theorem ev_idx_t (l : List D) (i : Int) : dIdx (.tup l) (.int i) = (atI l i).map fun d => (d, .fz) := Eq.trans rfl rfl
@[simp] theorem ev_argS (d : D) (k : Kd) : argS (d, k) = some (d, if k = .br then .lk else .fz) := Eq.trans rfl rfl
@[simp] theorem ev_tuple_l (l : List D) : dTuple (.lst l) = some (.tup l, .fz) := Eq.trans rfl rfl
@[simp] theorem ev_tuple_t (l : List D) : dTuple (.tup l) = some (.tup l, .fz) := Eq.trans rfl rfl
@[simp] theorem ev_rbind_ok {α β : Type} (a : α) (f : α → Res β) : (Res.ok a).bind f = f a := Eq.trans rfl rfl
@[simp] theorem ev_int1 (j : Int) (k : Kd) : int1 [(.int j, k)] = some j := Eq.trans rfl rfl
@[simp] theorem ev_int2 (i j : Int) (k k' : Kd) : int2 [(.int i, k), (.int j, k')] = some (i, j) := Eq.trans rfl rfl
@[simp] theorem ev_dA (n : Nat) (b : SE) (ρ : Env) : dA n b ρ = match b (bodyEnv n ρ) with
  | .ok (.rt d k _) => if k = .br then .bad else .ok (d, k)
  | .ok (.nx _) => .ok (.non, .fz)
  | .err c d ρ' => .err c d ρ'
  | _ => .bad := Eq.trans rfl rfl
@[simp] theorem ev_dB (n : Nat) (b : SE) (d0 : D) (fl : Fl) (r : Env) : dB n b (some (d0, fl) :: r) = match b (bodyEnv n (some (d0, fl) :: r)) with
  | .ok (.rt d k ρ') => if k = .br then .bad else match pn0 d0 ρ' with
    | some d1 => .ok (d, k, d1)
    | none => .bad
  | .ok (.nx ρ') => match pn0 d0 ρ' with
    | some d1 => .ok (.non, .fz, d1)
    | none => .bad
  | .err c d ρ' => match pn0 d0 ρ' with
    | some d1 => .err c d [some (d1, .pn)]
    | none => .bad
  | _ => .bad := Eq.trans rfl rfl
theorem dA_rt {n : Nat} {b : SE} {ρ ρ1 : Env} {d : D} {k : Kd} (h : b (bodyEnv n ρ) = .ok (.rt d k ρ1)) (hk : k ≠ .br) : dA n b ρ = .ok (d, k) := by rw [ev_dA, h]; exact if_neg hk
theorem dEq_int (a b : Int) : dEq (.int a) (.int b) = some (.bl (decide (a = b)), .fz) := by
  have s : ∀ a : Int, SeqAt.shaped (.int a) = true := fun a => by
    unfold SeqAt.shaped; simp [PyData.canLay0, PyData.depth]
  have : dEqB (.int a) (.int b) = some (decide (a = b)) := by
    have e : dEqB (.int a) (.int b) = pyEq (.int a) (.int b) := rfl
    rw [e]
    unfold pyEq
    simp only [toPy, s, and_self, if_true, PyData.eqv]
    congr 1
  unfold dEq; rw [this]; rfl
@[simp] theorem ev_eq (a b : Int) : dEq (.int a) (.int b) = some (.bl (decide (a = b)), .fz) := dEq_int a b
@[simp] theorem ev_ne_s (a b : Str) : dNe (.str a) (.str b) = some (.bl (!decide (a = b)), .fz) := Eq.trans rfl rfl
end VL
/-! VL22: the mirrors reckoned; the draws' own functions. -/
namespace VL
open PySem PySem.Spec PyProof.Rows L2

theorem lcS_map {α : Type} {g : GE} {t : BE} {e : EE} {ρ : Env} (f : α → D) (b : α → Bool) (v : α → D) : ∀ xs : List α, (∀ x ∈ xs, ∃ ρ1, g (f x) ρ = .ok ρ1 ∧ ∃ ρ2, t ρ1 = .ok (b x, ρ2) ∧ (b x = true → ∃ k ρ3, e ρ1 = .ok (v x, k, ρ3) ∧ k ≠ .br ∧ (v x).fzOk = true)) →
    lcS g t e ρ (xs.map f) = .ok ((xs.filter b).map v)
  | [], _ => rfl
  | x :: xs, h => by
    have ih := lcS_map f b v xs fun y hy => h y (List.mem_cons_of_mem _ hy)
    obtain ⟨ρ1, h1, ρ2, h2, h3⟩ := h x List.mem_cons_self
    simp only [List.map_cons, lcS, h1, Res.bind_ok, h2]
    cases e : b x with
    | true =>
      obtain ⟨k, ρ3, h4, h5, h6⟩ := h3 e
      simp [h4, h5, h6, ih, e]
    | false => simp [ih, e]
theorem forL_map {α : Type} {g : GE} {body : SE} (f : α → D) (I : List α → Env → Prop) (R : Res Flo → Prop) (h : ∀ x xs ρ, I (x :: xs) ρ → ∃ ρ1, g (f x) ρ = .ok ρ1 ∧ ((∃ ρ2, (body ρ1 = .ok (.nx ρ2) ∨ body ρ1 = .ok (.ct ρ2)) ∧ I xs ρ2) ∨ (∃ ρ2, body ρ1 = .ok (.bk ρ2) ∧ R (.ok (.nx ρ2))) ∨ ∃ d k ρ2, body ρ1 = .ok (.rt d k ρ2) ∧ R (.ok (.rt d k ρ2))))
    (h0 : ∀ ρ, I [] ρ → R (.ok (.nx ρ))) : ∀ xs ρ, I xs ρ → R (forL g body (xs.map f) ρ)
  | [], ρ, hI => h0 ρ hI
  | x :: xs, ρ, hI => by
    obtain ⟨ρ1, h1, h2⟩ := h x xs ρ hI
    simp only [List.map_cons, forL, h1, Res.bind_ok]
    rcases h2 with ⟨ρ2, e, hI'⟩ | ⟨ρ2, e, r⟩ | ⟨d, k, ρ2, e, r⟩
    · rcases e with e | e
      · simp only [e, Res.bind_ok]; exact forL_map f I R h h0 xs ρ2 hI'
      · simp only [e, Res.bind_ok]; exact forL_map f I R h h0 xs ρ2 hI'
    · simp only [e, Res.bind_ok]; exact r
    · simp only [e, Res.bind_ok]; exact r
@[simp] theorem atI_zero {α : Type} {x : α} {l : List α} : atI (x :: l) 0 = some x := by
  simpa using atI_nat (xs := x :: l) (j := 0) rfl
/-! the draws -/
def m_law_begin : SE := (sSeq (sSet .ow 1 (xLc [2] (iSeq (xV 0)) (gNm 2) (xTst (xAp2 true dGe (xApp (f1 dAbs) (aC true (xV 2) aN)) (xAp2 true dPow (xC (.int 10)) (xC (.int 18))))) (xAp2 true dSub (xApp (f1 dAbs) (aC true (xV 2) aN)) (xAp2 true dPow (xC (.int 10)) (xC (.int 18))))))
  (sRetDrw 1 (xLc [2] (iSeq (xV 0)) (gNm 2) bYes (xApp (f1 dAbs) (aC true (xV 2) aN)))))
def D_law_begin : FA := dA 3 m_law_begin
def mb_law_blend_2 : SE := (sSet .fz 4 (xAp2 true dMod (xApp (f1 dInt) (aC true (xAp2 true dAdd (xAp2 true dMul (xV 4) (xC (.int 48271))) (xV 5)) aN)) (xV 3)))
def mb_law_blend_1 : SE := (sSeq (sSet .fz 4 (xAp2 true dMod (xApp (f1 dInt) (aC true (xAp2 true dAdd (xAp2 true dMul (xV 1) (xC (.int 69621))) (xAp2 true dFdiv (xV 3) (xC (.int 7)))) aN)) (xV 3)))
  (sSeq (sFor (iSeq (xDrwCells 0)) (gNm 5) mb_law_blend_2)
  (sSet .fz 2 (xAp2 true dAdd (xAp2 true dMul (xV 2) (xC (.int 2147483647))) (xAp2 true dMod (xApp (f1 dInt) (aC true (xAp2 true dPow (xV 4) (xC (.int 5))) aN)) (xV 3))))))
def m_law_blend : SE := (sSeq (sSet .fz 1 (xAp2 true dAdd (xDrwTurn 0) (xC (.int 1))))
  (sSeq (sDrwTurn 0 (xV 1))
  (sSeq (sSet .fz 2 (xC (.int 0)))
  (sSeq (sFor (iSeq (xLst (aC true (xC (.int 2147483629)) (aC true (xC (.int 2147483587)) (aC true (xC (.int 2147483579)) (aC true (xC (.int 2147483563)) aN)))))) (gNm 3) mb_law_blend_1)
  (sRetV 2)))))
def D_law_blend : FB := dB 6 m_law_blend
def m_law_take : SE := (sSeq (sIf (bAnd (xTst (xAp2 true dEq (xDrwRest 0) (xC (.int 0)))) (xTst (xDrwNe 0)))
  (sDrwRest 0 (xDrwPop 0))
  sNil)
  (sSeq (sIf (xTst (xAp2 true dEq (xDrwRest 0) (xC (.int 0))))
  (sDrwRest 0 (xCallM D_law_blend 0 aN))
  sNil)
  (sSeq (sSet .fz 2 (xAp2 true dMod (xApp (f1 dInt) (aC true (xDrwRest 0) aN)) (xV 1)))
  (sSeq (sDrwRest 0 (xAp2 true dFdiv (xDrwRest 0) (xV 1)))
  (sRetV 2)))))
def D_law_take : FB := dB 3 m_law_take
def m_law_pick : SE := (sRet (xAp2 false dIdx (xV 1) (xCallM D_law_take 0 (aC true (xApp (f1 dLen) (aC true (xV 1) aN)) aN))))
def D_law_pick : FB := dB 2 m_law_pick

/-- a slot that holds nothing or an int -/
def IsI (s : Slot) : Prop := s = none ∨ ∃ n, s = some (.int n, .fz)
theorem IsI.set {s : Slot} (h : IsI s) : (match (some s : Option Slot) with
  | some (some (_, .lk)) => false
  | some (some (_, .pn)) => false
  | some _ => true
  | none => false) = true := by
  rcases h with rfl | ⟨n, rfl⟩ <;> rfl
def blP (p : Int) : Prop := 0 < p ∧ p < 2147483648
theorem blend_in {a b c : Slot} {p : Int} (hp : blP p) : ∀ (ce : List Int) (ρ : Env), (∃ h s5, ρ = [a, b, c, some (.int p, .fz), some (.int h, .fz), s5] ∧ 0 ≤ h ∧ h < p ∧ IsI s5) →
    ∃ ρ', forL (gNm 5) mb_law_blend_2 (ce.map D.int) ρ = .ok (.nx ρ') ∧ ∃ h s5, ρ' = [a, b, c, some (.int p, .fz), some (.int h, .fz), s5] ∧ 0 ≤ h ∧ h < p ∧ IsI s5 := fun ce ρ hI => by
  refine forL_map D.int (fun _ ρ => ∃ h s5, ρ = [a, b, c, some (.int p, .fz), some (.int h, .fz), s5] ∧ 0 ≤ h ∧ h < p ∧ IsI s5) (fun r => ∃ ρ', r = .ok (.nx ρ') ∧ ∃ h s5, ρ' = [a, b, c, some (.int p, .fz), some (.int h, .fz), s5] ∧ 0 ≤ h ∧ h < p ∧ IsI s5) (fun x xs ρ hI => ?_) (fun ρ hI => ⟨ρ, rfl, hI⟩) ce ρ hI
  obtain ⟨h, s5, rfl, h1, h2, h5⟩ := hI
  have hp0 : p ≠ 0 := by have := hp.1; omega
  have hm : CMul h 48271 := .inr (by decide)
  have cs : canSet [a, b, c, some (.int p, .fz), some (.int h, .fz), s5] 5 = true := h5.set
  refine ⟨[a, b, c, some (.int p, .fz), some (.int h, .fz), some (.int x, .fz)], by simp [setSlot, cs], .inl ⟨[a, b, c, some (.int p, .fz), some (.int ((h * 48271 + x).fmod p), .fz), some (.int x, .fz)], .inl ?_, _, _, rfl, Int.fmod_nonneg_of_pos _ hp.1, Int.fmod_lt_of_pos _ hp.1, .inr ⟨x, rfl⟩⟩⟩
  simp [mb_law_blend_2, hp0, hm, setSlot, canSet]
theorem blend_out {gr ce : List Int} {r t u : Int} : ∀ (ps : List Int) (ρ : Env), ((∃ f s3 s4 s5, ρ = [some (.drw gr r ce t, .pn), some (.int u, .fz), some (.int f, .fz), s3, s4, s5] ∧ IsI s3 ∧ IsI s4 ∧ IsI s5) ∧ ∀ p ∈ ps, blP p) →
    ∃ ρ', forL (gNm 3) mb_law_blend_1 (ps.map D.int) ρ = .ok (.nx ρ') ∧ ∃ f s3 s4 s5, ρ' = [some (.drw gr r ce t, .pn), some (.int u, .fz), some (.int f, .fz), s3, s4, s5] ∧ IsI s3 ∧ IsI s4 ∧ IsI s5 := fun ps ρ hI => by
  refine forL_map D.int (fun ps ρ => (∃ f s3 s4 s5, ρ = [some (.drw gr r ce t, .pn), some (.int u, .fz), some (.int f, .fz), s3, s4, s5] ∧ IsI s3 ∧ IsI s4 ∧ IsI s5) ∧ ∀ p ∈ ps, blP p) (fun r' => ∃ ρ', r' = .ok (.nx ρ') ∧ ∃ f s3 s4 s5, ρ' = [some (.drw gr r ce t, .pn), some (.int u, .fz), some (.int f, .fz), s3, s4, s5] ∧ IsI s3 ∧ IsI s4 ∧ IsI s5) (fun p ps ρ hI => ?_) (fun ρ hI => ⟨ρ, rfl, hI.1⟩) ps ρ hI
  obtain ⟨⟨f, s3, s4, s5, rfl, h3, h4, h5⟩, hps⟩ := hI
  have hp : blP p := hps p List.mem_cons_self
  have hp0 : p ≠ 0 := by have := hp.1; omega
  have hm : CMul u 69621 := .inr (by decide)
  have hm2 : CMul f 2147483647 := .inr (by decide)
  have hd : CDivN p 7 := by constructor <;> decide
  have cs : canSet [some (.drw gr r ce t, .pn), some (.int u, .fz), some (.int f, .fz), s3, s4, s5] 3 = true := h3.set
  have cs4 : canSet [some (.drw gr r ce t, .pn), some (.int u, .fz), some (.int f, .fz), some (.int p, .fz), s4, s5] 4 = true := h4.set
  obtain ⟨ρ', e1, h, s5', rfl, k1, k2, k5⟩ := blend_in (a := some (.drw gr r ce t, .pn)) (b := some (.int u, .fz)) (c := some (.int f, .fz)) hp ce _ ⟨_, _, rfl, Int.fmod_nonneg_of_pos (u * 69621 + p.fdiv 7) hp.1, Int.fmod_lt_of_pos _ hp.1, h5⟩
  have hw : CPow h 5 := ⟨by decide, by decide, by have := hp.2; omega⟩
  refine ⟨[some (.drw gr r ce t, .pn), some (.int u, .fz), some (.int f, .fz), some (.int p, .fz), s4, s5], by simp [setSlot, cs], .inl ⟨[some (.drw gr r ce t, .pn), some (.int u, .fz), some (.int (f * 2147483647 + (h ^ 5).fmod p), .fz), some (.int p, .fz), some (.int h, .fz), s5'], .inl ?_, ⟨_, _, _, _, rfl, .inr ⟨_, rfl⟩, .inr ⟨_, rfl⟩, k5⟩, fun q hq => hps q (List.mem_cons_of_mem _ hq)⟩⟩
  simp [mb_law_blend_1, hp0, hm, hm2, hd, setSlot, cs4, drwAt, ownFl, e1, hw]
  simp [canSet]
theorem blend_eq (gr : List Int) (r : Int) (ce : List Int) (t : Int) : ∃ v, D_law_blend [some (.drw gr r ce t, .pn)] = .ok (.int v, .fz, .drw gr r ce (t + 1)) := by
  obtain ⟨ρ', e, f, s3, s4, s5, rfl, _⟩ := blend_out (gr := gr) (ce := ce) (r := r) (t := t + 1) (u := t + 1) [2147483629, 2147483587, 2147483579, 2147483563] [some (.drw gr r ce (t + 1), .pn), some (.int (t + 1), .fz), some (.int 0, .fz), none, none, none] ⟨⟨0, none, none, none, rfl, .inl rfl, .inl rfl, .inl rfl⟩, fun p hp => by
    simp only [List.mem_cons, List.not_mem_nil, or_false] at hp
    rcases hp with rfl | rfl | rfl | rfl <;> constructor <;> decide⟩
  simp only [List.map_cons, List.map_nil] at e
  have z : 4 ≤ sizeLine := by rw [sizeLine_eq]; decide
  refine ⟨f, ?_⟩
  simp [D_law_blend, m_law_blend, bodyEnv, drwAt, ownFl, setSlot, canSet, fzAll, D.fzOk, z, e, pn0, D.isDrw]
theorem take_eq {gr : List Int} {r : Int} {ce : List Int} {t n : Int} (h0 : 0 < n) (h1 : n < 1000000) :
    ∃ v gr' r' t', D_law_take [some (.drw gr r ce t, .pn), some (.int n, .fz)] = .ok (.int v, .fz, .drw gr' r' ce t') ∧ 0 ≤ v ∧ v < n := by
  have hd : n ≠ 0 := by omega
  have hc : ∀ v, CDivN v n := fun v => ⟨hd, by omega⟩
  have fin : ∀ v : Int, 0 ≤ v.fmod n ∧ v.fmod n < n := fun v => ⟨Int.fmod_nonneg_of_pos v h0, Int.fmod_lt_of_pos v h0⟩
  have dry : ∀ gr, r = 0 → gr = [] → ∃ v gr' r' t', D_law_take [some (.drw gr r ce t, .pn), some (.int n, .fz)] = .ok (.int v, .fz, .drw gr' r' ce t') ∧ 0 ≤ v ∧ v < n := fun gr hr hg => by
    subst hr hg
    obtain ⟨v, hv⟩ := blend_eq [] 0 ce t
    refine ⟨v.fmod n, [], v.fdiv n, t + 1, ?_, fin v⟩
    simp [D_law_take, m_law_take, bodyEnv, drwAt, ownFl, callMK, argsOk, hv, setSlot, canSet, D.isDrw, hd, hc, pn0]
  by_cases hr : r = 0
  · cases gr with
    | nil => exact dry [] hr rfl
    | cons m gr =>
      subst hr
      by_cases hm : m = 0
      · subst hm
        obtain ⟨v, hv⟩ := blend_eq gr 0 ce t
        refine ⟨v.fmod n, gr, v.fdiv n, t + 1, ?_, fin v⟩
        simp [D_law_take, m_law_take, bodyEnv, drwAt, ownFl, callMK, argsOk, hv, setSlot, canSet, D.isDrw, hd, hc, pn0]
      · refine ⟨m.fmod n, gr, m.fdiv n, t, ?_, fin m⟩
        simp [D_law_take, m_law_take, bodyEnv, drwAt, ownFl, setSlot, canSet, D.isDrw, hd, hc, pn0, hm]
  · refine ⟨r.fmod n, gr, r.fdiv n, t, ?_, fin r⟩
    simp [D_law_take, m_law_take, bodyEnv, drwAt, ownFl, setSlot, canSet, D.isDrw, hd, hc, pn0, hr]
theorem pick_eq {gr : List Int} {r : Int} {ce : List Int} {t : Int} {xs : List D} (h0 : xs ≠ []) (h1 : xs.length < 1000000) :
    ∃ x gr' r' t', D_law_pick [some (.drw gr r ce t, .pn), some (.lst xs, .fz)] = .ok (x, .fz, .drw gr' r' ce t') ∧ x ∈ xs := by
  have hl : 0 < xs.length := by cases xs with
    | nil => exact absurd rfl h0
    | cons _ _ => simp
  obtain ⟨v, gr', r', t', e, k1, k2⟩ := take_eq (gr := gr) (r := r) (ce := ce) (t := t) (n := xs.length) (by omega) (by omega)
  obtain ⟨j, rfl⟩ : ∃ j : Nat, v = j := ⟨v.toNat, by omega⟩
  have hj : j < xs.length := by omega
  have ea : atI xs (j : Int) = some xs[j] := atI_nat (List.getElem?_eq_getElem hj)
  refine ⟨xs[j], gr', r', t', ?_, List.getElem_mem _⟩
  simp [D_law_pick, m_law_pick, bodyEnv, ownFl, callMK, argsOk, e, D.isDrw, ea, pn0, D.fzOk]
theorem begin_eq {ns : List Int} (hn : ns.length ≤ 63) : ∃ gr ce, D_law_begin [some (.scr ns, .fz)] = .ok (.drw gr 0 ce 0, .ow) := by
  have hz : ns.length ≤ sizeLine := by rw [sizeLine_eq]; omega
  have hw : CPow 10 18 := by refine ⟨?_, ?_, ?_⟩ <;> decide
  refine ⟨(ns.filter fun n => decide ((10 : Int) ^ 18 ≤ if n < 0 then -n else n)).map fun n => (if n < 0 then -n else n) - 10 ^ 18, ns.map fun n => if n < 0 then -n else n, ?_⟩
  have i1 : ∀ ms : List Int, intsOf (ms.map fun n => D.int n) = some ms := fun ms => intsOf_map ms
  simp only [D_law_begin, m_law_begin, ev_dA, ev_sSeq, ev_sSet, ev_xLc, ev_iSeq, ev_xV, bodyEnv, List.length_cons, List.length_nil, List.replicate, List.cons_append, List.nil_append, List.getElem?_cons_zero, Res.bind_ok, Res.pure_ok, List.length_map, wipeR, List.set_cons_succ, List.set_cons_zero, wipable, slotFree, List.all_cons, List.all_nil, List.getElem?_cons_succ, Bool.and_self, true_and, hz, if_true]
  rw [lcS_map D.int (fun n => decide ((10 : Int) ^ 18 ≤ if n < 0 then -n else n)) (fun n => .int ((if n < 0 then -n else n) - 10 ^ 18)) ns (fun x _ => ?_)]
  · simp only [setSlot, canSet, List.getElem?_cons_succ, List.getElem?_cons_zero, if_true, Res.bind_ok, List.set_cons_succ, List.set_cons_zero, Res.pure_ok, ev_sRetDrw]
    rw [show ((ns.filter fun n => decide ((10 : Int) ^ 18 ≤ if n < 0 then -n else n)).map fun n => D.int ((if n < 0 then -n else n) - 10 ^ 18)) = (((ns.filter fun n => decide ((10 : Int) ^ 18 ≤ if n < 0 then -n else n)).map fun n => (if n < 0 then -n else n) - 10 ^ 18)).map D.int by rw [List.map_map]; rfl, intsOf_map]
    simp only [ev_xLc, ev_iSeq, ev_xV, List.getElem?_cons_zero, Res.bind_ok, Res.pure_ok, List.length_map, wipeR, List.set_cons_succ, List.set_cons_zero, wipable, slotFree, List.all_cons, List.all_nil, List.getElem?_cons_succ, Bool.and_self, true_and, hz, if_true]
    rw [lcS_map D.int (fun n => true) (fun n => .int (if n < 0 then -n else n)) ns (fun x _ => ?_)]
    · rw [show ((ns.filter fun _ => true).map fun n => D.int (if n < 0 then -n else n)) = (ns.map fun n => if n < 0 then -n else n).map D.int by rw [List.filter_eq_self.mpr (fun _ _ => rfl), List.map_map]; rfl]
      simp only [ev_rbind_ok, intsOf_map]
      simp
    · exact ⟨_, by simp [setSlot, canSet]; rfl, _, by simp; rfl, fun _ => ⟨.fz, _, by simp; rfl, by simp, rfl⟩⟩
  · refine ⟨[some (.scr ns, .fz), none, some (.int x, .fz)], by simp [setSlot, canSet], [some (.scr ns, .fz), none, some (.int x, .fz)], by simp [hw], fun _ => ⟨.fz, [some (.scr ns, .fz), none, some (.int x, .fz)], by simp [hw], by simp, rfl⟩⟩
end VL
/-! VL23: more of the mirrors reckoned. -/
namespace VL
open PySem PySem.Spec PyProof.Rows L2

def okRepr (p : PyData) : Bool := p.showable && (decide (p.depth ≤ 60) && decide (p.shown.length ≤ sizeLine))
theorem repr_ok {d : D} {p : PyData} (h : toPy d = some p) (ok : okRepr p = true) : dRepr d = some (.str p.shown, .fz) := by
  simp only [okRepr, Bool.and_eq_true, decide_eq_true_eq] at ok
  unfold dRepr
  rw [h]
  simp only
  rw [if_pos ok]
def oI : Option Nat → D
  | none => .non
  | some k => .int k
def oP : Option Nat → PyData
  | none => .none
  | some k => .int k
theorem oI_py (o : Option Nat) : toPy (oI o) = some (oP o) := by cases o <;> rfl
theorem okRepr_two : ∀ k : Nat, k < 128 → okRepr (.list [.int (k : Int), .int (k : Int)]) = true := by decide +kernel
theorem okRepr_non : okRepr (.list [.none, .none]) = true := by decide +kernel
theorem repr_two {o : Option Nat} (h : ∀ k, o = some k → k < 128) : ∃ s, dRepr (.lst [oI o, oI o]) = some (.str s, .fz) := by
  refine ⟨_, repr_ok (p := .list [oP o, oP o]) ?_ ?_⟩
  · simp [toPy, toPyL, oI_py]
  · cases o with
    | none => exact okRepr_non
    | some k => exact okRepr_two k (h k rfl)
abbrev TS : List String := ["int", "bool", "str", "NoneType", "list", "tuple", "dict"]
theorem tab_int : (tyTab ["int"] TS).lookup (.ty "int") = some true := by decide +kernel
theorem tab_bool : (tyTab ["bool"] TS).lookup (.ty "int") = some false := by decide +kernel
theorem tab_list : (tyTab ["list", "tuple"] TS).lookup (.ty "list") = some true := by decide +kernel
@[simp] theorem isi_int_int (n : Int) : dIsi (tyTab ["int"] TS) (.int n) = some (.bl true, .fz) := by simp [dIsi, D.tag, tab_int]
@[simp] theorem isi_int_bool (n : Int) : dIsi (tyTab ["bool"] TS) (.int n) = some (.bl false, .fz) := by simp [dIsi, D.tag, tab_bool]
@[simp] theorem isi_list (l : List D) : dIsi (tyTab ["list", "tuple"] TS) (.lst l) = some (.bl true, .fz) := by simp [dIsi, D.tag, tab_list]
theorem find_range {c : Nat → Bool} {n m : Nat} (h : n ≤ m) (hc : ∀ k, n ≤ k → k < m → c k = true → ∃ j, j < n ∧ c j = true) : (List.range m).find? c = (List.range n).find? c := by
  cases e : (List.range n).find? c with
  | some i =>
    rw [List.find?_range_eq_some] at e ⊢
    obtain ⟨h1, h2, h3⟩ := e
    exact ⟨h1, List.mem_range.mpr (Nat.lt_of_lt_of_le (List.mem_range.mp h2) h), h3⟩
  | none =>
    rw [List.find?_range_eq_none] at e ⊢
    intro k hk
    by_cases hn : k < n
    · exact e k hn
    · cases q : c k with
      | false => rfl
      | true =>
        obtain ⟨j, hj, hcj⟩ := hc k (by omega) hk q
        have := e j hj
        rw [hcj] at this; cases this
/-- a loop that returns at the first hit -/
theorem forL_find {α : Type} {g : GE} {body : SE} (f : α → D) (c : α → Bool) (v : α → D) (I : Env → Prop) (h : ∀ x ρ, I ρ → ∃ ρ1, g (f x) ρ = .ok ρ1 ∧ (c x = false → ∃ ρ2, body ρ1 = .ok (.nx ρ2) ∧ I ρ2) ∧ (c x = true → ∃ ρ2, body ρ1 = .ok (.rt (v x) .fz ρ2))) : ∀ (xs : List α) (ρ : Env), I ρ →
    (∀ x, xs.find? c = some x → ∃ ρ', forL g body (xs.map f) ρ = .ok (.rt (v x) .fz ρ')) ∧ (xs.find? c = none → ∃ ρ', forL g body (xs.map f) ρ = .ok (.nx ρ') ∧ I ρ')
  | [], ρ, hI => ⟨fun x e => (by simp at e), fun _ => ⟨ρ, rfl, hI⟩⟩
  | x :: xs, ρ, hI => by
    obtain ⟨ρ1, h1, h2, h3⟩ := h x ρ hI
    simp only [List.map_cons, forL, h1, Res.bind_ok, List.find?_cons]
    cases e : c x with
    | true =>
      obtain ⟨ρ2, h4⟩ := h3 e
      simp only [h4, Res.bind_ok]
      exact ⟨fun y q => by cases q; exact ⟨ρ2, rfl⟩, fun q => (by cases q)⟩
    | false =>
      obtain ⟨ρ2, h4, h5⟩ := h2 e
      simp only [h4, Res.bind_ok]
      exact forL_find f c v I h xs ρ2 h5
end VL
namespace Lk55
open PySem PySem.Spec PyProof.Rows L2 VL
def tab_TrailRule : List (Tag × Bool) := [(.cls 3, true)]
def tab_TrailRule_WayRule : List (Tag × Bool) := [(.cls 3, true)]
def mb_law_trail_row_1 : SE := (sSeq (sSet .fz 4 (xCallM D_law_pick 0 (aC true (xLst (aC false (xV 1) (aC false (xV 1) (aC false (xAp2 true dSub (xV 1) (xC (.int 1))) (aC false (xAp2 true dAdd (xV 1) (xC (.int 1))) (aC false (xC (.int 0)) (aC true (xCallM D_law_take 0 (aC true (xC (.int 9)) aN)) aN))))))) aN)))
  (sEx (xMut D.isLst 2 mAppend (aC true (xApp (f2 dMin2) (aC true (xC (.int 40)) (aC true (xAp2 true dAdd (xAp2 true dIdx (xV 2) (xAp1 dNeg (xC (.int 1)))) (xV 4)) aN))) aN))))
def m_law_trail_row : SE := (sSeq (sSet .fz 1 (xAp2 false dAdd (xC (.int 1)) (xCallM D_law_take 0 (aC true (xC (.int 5)) aN))))
  (sSeq (sSet .ow 2 (xLst (aC true (xCallM D_law_take 0 (aC true (xC (.int 9)) aN)) aN)))
  (sSeq (sFor (iRng1D (aC true (xCallM D_law_take 0 (aC true (xC (.int 4)) aN)) aN)) (gNm 3) mb_law_trail_row_1)
  (sFrz 2 (sRet (xTup (aC false (xV 2) (aC true (xCallM D_law_pick 0 (aC true (xLst (aC false (xV 1) (aC false (xV 1) (aC false (xAp2 true dSub (xV 1) (xC (.int 1))) (aC false (xC (.int 0)) (aC false (xC (.int 10)) (aC true (xCallM D_law_take 0 (aC true (xC (.int 11)) aN)) aN))))))) aN)) (aC true (xV 1) aN)))))))))
def D_law_trail_row : FB := dB 5 m_law_trail_row
def m_is_list : SE := (sRet (xAp1 (dIsi (tyTab ["list", "tuple"] ["int", "bool", "str", "NoneType", "list", "tuple", "dict"])) (xV 0)))
def D_is_list : FA := dA 1 m_is_list
def m_is_number : SE := (sRet (xAnd (xAp1 (dIsi (tyTab ["int"] ["int", "bool", "str", "NoneType", "list", "tuple", "dict"])) (xV 0)) (xNot (xAp1 (dIsi (tyTab ["bool"] ["int", "bool", "str", "NoneType", "list", "tuple", "dict"])) (xV 0)))))
def D_is_number : FA := dA 1 m_is_number
def m_is_number_in : SE := (sRet (xAnd (xCall D_is_number (aC true (xV 0) aN)) (xChain dLe dLe (xV 1) (xV 0) (xV 2))))
def D_is_number_in : FA := dA 3 m_is_number_in
def m_TrailRule_init : SE := (sSeq (sIf (bOr (bNot (xTst (xCall D_is_list (aC true (xV 1) aN)))) (bNot (xTst (xChain dLe dLe (xC (.int 1)) (xApp (f1 dLen) (aC true (xV 1) aN)) (xC (.int 4))))))
  sBad
  sNil)
  (sSeq (sIf (bNot (xTst (xApp (f1 dAll) (aC true (xLc [3] (iSeq (xV 1)) (gNm 3) bYes (xCall D_is_number_in (aC true (xV 3) (aC true (xC (.int 0)) (aC true (xC (.int 40)) aN))))) aN))))
  sBad
  sNil)
  (sSeq (sIf (bNot (xTst (xCall D_is_number_in (aC true (xV 2) (aC true (xC (.int 0)) (aC true (xC (.int 10)) aN))))))
  sBad
  sNil)
  (sSeq (sFldSet [3] 0 "own_listed" (xApp (f1 dTuple) (aC true (xV 1) aN)))
  (sFldSet [3] 0 "own_growth" (xV 2))))))
def D_TrailRule_init : FB := dB 4 m_TrailRule_init
def m_law_until : SE := (sSeq (sAsg (gTp 3 (gsC (gNm 2) (gsC (gNm 3) (gsC (gNm 4) gsN)))) (xV 0))
  (sRet (xAp2 true dAdd (xAp2 true dIdx (xV 2) (xApp (f2 dMin2) (aC true (xV 1) (aC true (xAp2 true dSub (xApp (f1 dLen) (aC true (xV 2) aN)) (xC (.int 1))) aN)))) (xAp2 true dMul (xV 3) (xApp (f2 dMax2) (aC true (xC (.int 0)) (aC true (xAp2 true dAdd (xAp2 true dSub (xV 1) (xApp (f1 dLen) (aC true (xV 2) aN))) (xC (.int 1))) aN)))))))
def D_law_until : FA := dA 5 m_law_until
def m_law_trail_losing : SE := (sSeq (sSet .fz 1 (xAp2 true dIdx (xV 0) (xC (.int 2))))
  (sSeq (sSet .fz 2 (xLc [3] (iRng1D (aC true (xC (.int 60)) aN)) (gNm 3) (xTst (xAp2 true dGt (xAp2 true dAdd (xCall D_law_until (aC true (xV 0) (aC true (xV 3) aN))) (xV 1)) (xCall D_law_until (aC true (xV 0) (aC true (xAp2 true dAdd (xV 3) (xC (.int 1))) aN))))) (xV 3)))
  (sRet (xIfE (xTst (xAp2 true dNe (xV 2) (xLst aN))) (xAp2 true dAdd (xAp2 true dIdx (xV 2) (xC (.int 0))) (xC (.int 2))) (xC (.non))))))
def D_law_trail_losing : FA := dA 4 m_law_trail_losing
def m_need_wait : SE := (sIf (bNot (xTst (xCall D_is_number_in (aC true (xV 0) (aC true (xC (.int 1)) (aC true (xC (.int 5)) aN))))))
  sBad
  sNil)
def D_need_wait : FA := dA 1 m_need_wait
def m_need_rule : SE := (sSeq (sIf (bNot (xTst (xAp1 (dIsi tab_TrailRule_WayRule) (xV 0))))
  sBad
  sNil)
  (sEx (xCall D_need_wait (aC true (xV 1) aN))))
def D_need_rule : FA := dA 2 m_need_rule
def m_tick_by : SE := (sSeq (sSet .fz 2 (xAp2 true dSub (xApp (f1 dLen) (aC true (xAp1 (dFld [3] "own_listed") (xV 0)) aN)) (xC (.int 1))))
  (sSeq (sIf (xTst (xAp2 true dLe (xV 1) (xV 2)))
  (sRet (xAp2 true dIdx (xAp1 (dFld [3] "own_listed") (xV 0)) (xV 1)))
  sNil)
  (sRet (xAp2 true dAdd (xAp2 true dIdx (xAp1 (dFld [3] "own_listed") (xV 0)) (xV 2)) (xAp2 true dMul (xAp1 (dFld [3] "own_growth") (xV 0)) (xAp2 true dSub (xV 1) (xV 2)))))))
def D_tick_by : FA := dA 3 m_tick_by
def mb_trail_losing_1 : SE := (sIf (xTst (xAp2 true dGt (xAp2 true dAdd (xCall D_tick_by (aC true (xV 0) (aC true (xV 2) aN))) (xV 1)) (xCall D_tick_by (aC true (xV 0) (aC true (xAp2 true dAdd (xV 2) (xC (.int 1))) aN)))))
  (sRet (xAp2 true dAdd (xV 2) (xC (.int 2))))
  sNil)
def m_trail_losing : SE := (sSeq (sFor (iRng1D (aC true (xApp (f1 dLen) (aC true (xAp1 (dFld [3] "own_listed") (xV 0)) aN)) aN)) (gNm 2) mb_trail_losing_1)
  (sRet (xC (.non))))
def D_trail_losing : FA := dA 3 m_trail_losing
def m_least_losing : SE := (sSeq (sEx (xCall D_need_rule (aC true (xV 0) (aC true (xV 1) aN))))
  (sRet (xIfE (xTst (xAp1 (dIsi tab_TrailRule) (xV 0))) (xCall D_trail_losing (aC true (xV 0) (aC true (xV 1) aN))) xBad)))
def D_least_losing : FA := dA 2 m_least_losing
def m_law_trail_stuck : SE := (sSeq (sSet .fz 1 (xLc [2] (iRng1D (aC true (xC (.int 60)) aN)) (gNm 2) (xTst (xAp2 true dLt (xCall D_law_until (aC true (xV 0) (aC true (xV 2) aN))) (xAp2 true dMul (xAp2 true dIdx (xV 0) (xC (.int 2))) (xV 2)))) (xV 2)))
  (sRet (xIfE (xTst (xAp2 true dNe (xV 1) (xLst aN))) (xAp2 true dAdd (xAp2 true dIdx (xV 1) (xC (.int 0))) (xC (.int 1))) (xC (.non)))))
def D_law_trail_stuck : FA := dA 3 m_law_trail_stuck
def mb_trail_stuck_1 : SE := (sIf (xTst (xAp2 true dLt (xCall D_tick_by (aC true (xV 0) (aC true (xV 3) aN))) (xAp2 true dMul (xV 1) (xV 3))))
  (sRet (xAp2 true dAdd (xV 3) (xC (.int 1))))
  sNil)
def m_trail_stuck : SE := (sSeq (sSet .fz 2 (xAp2 true dSub (xApp (f1 dLen) (aC true (xAp1 (dFld [3] "own_listed") (xV 0)) aN)) (xC (.int 1))))
  (sSeq (sFor (iRng2D (aC true (xC (.int 1)) (aC true (xAp2 true dAdd (xV 2) (xC (.int 1))) aN))) (gNm 3) mb_trail_stuck_1)
  (sSeq (sIf (xTst (xAp2 true dGe (xAp1 (dFld [3] "own_growth") (xV 0)) (xV 1)))
  (sRet (xC (.non)))
  sNil)
  (sSeq (sSet .fz 4 (xAp2 true dSub (xAp2 true dIdx (xAp1 (dFld [3] "own_listed") (xV 0)) (xV 2)) (xAp2 true dMul (xAp1 (dFld [3] "own_growth") (xV 0)) (xV 2))))
  (sRet (xAp2 true dAdd (xAp2 true dFdiv (xV 4) (xAp2 true dSub (xV 1) (xAp1 (dFld [3] "own_growth") (xV 0)))) (xC (.int 2))))))))
def D_trail_stuck : FA := dA 5 m_trail_stuck
def m_least_stuck : SE := (sSeq (sEx (xCall D_need_rule (aC true (xV 0) (aC true (xV 1) aN))))
  (sRet (xIfE (xTst (xAp1 (dIsi tab_TrailRule) (xV 0))) (xCall D_trail_stuck (aC true (xV 0) (aC true (xV 1) aN))) xBad)))
def D_least_stuck : FA := dA 2 m_least_stuck
def mb_most_wait_1 : SE := (sIf (xTst (xAp2 true dIs (xCall D_least_losing (aC true (xV 0) (aC true (xV 2) aN))) (xC (.non))))
  (sEx (xMut D.isLst 1 mAppend (aC true (xV 2) aN)))
  sNil)
def m_most_wait : SE := (sSeq (sSet .ow 1 (xLst (aC true (xC (.int 0)) aN)))
  (sSeq (sFor (iRng2D (aC true (xC (.int 1)) (aC true (xAp2 true dAdd (xC (.int 5)) (xC (.int 1))) aN))) (gNm 2) mb_most_wait_1)
  (sRet (xAp2 true dIdx (xV 1) (xAp1 dNeg (xC (.int 1)))))))
def D_most_wait : FA := dA 3 m_most_wait
def mb_law_2 : SE := (sSeq (sSet .fz 7 (xTup (aC true (xAp2 true dIdx (xV 3) (xC (.int 0))) (aC true (xAp2 true dIdx (xV 3) (xC (.int 1))) (aC true (xV 6) aN)))))
  (sSeq (sSet .fz 8 (xCall D_law_trail_losing (aC true (xV 7) aN)))
  (sSeq (sIf (xTst (xAp2 true dNe (xApp (f1 dRepr) (aC true (xLst (aC true (xCall D_least_losing (aC true (xV 4) (aC true (xV 6) aN))) (aC true (xCallK D_least_losing [1, 0] true aN (aC true (xV 6) (aC true (xV 4) aN))) aN))) aN)) (xApp (f1 dRepr) (aC true (xLst (aC true (xV 8) (aC true (xV 8) aN))) aN))))
  (sRet (xC (.bl false)))
  sNil)
  (sSeq (sSet .fz 5 (xAp2 true dAdd (xV 5) (xAp2 true dMul (xLst (aC true (xV 6) aN)) (xApp (f1 dInt) (aC true (xAp2 true dIs (xV 8) (xC (.non))) aN)))))
  (sSeq (sSet .fz 8 (xCall D_law_trail_stuck (aC true (xV 7) aN)))
  (sIf (xTst (xAp2 true dNe (xApp (f1 dRepr) (aC true (xLst (aC true (xCall D_least_stuck (aC true (xV 4) (aC true (xV 6) aN))) (aC true (xCallK D_least_stuck [1, 0] true aN (aC true (xV 6) (aC true (xV 4) aN))) aN))) aN)) (xApp (f1 dRepr) (aC true (xLst (aC true (xV 8) (aC true (xV 8) aN))) aN))))
  (sRet (xC (.bl false)))
  sNil))))))
def mb_law_1 : SE := (sSeq (sSet .fz 3 (xCallM D_law_trail_row 1 aN))
  (sSeq (sPar 4 5 (aC true (xMake 3 D_TrailRule_init (aC true (xAp2 true dIdx (xV 3) (xC (.int 0))) (aC true (xAp2 true dIdx (xV 3) (xC (.int 1))) aN))) (aC true (xLst (aC true (xC (.int 0)) aN)) aN)))
  (sSeq (sFor (iRng2D (aC true (xC (.int 1)) (aC true (xC (.int 6)) aN))) (gNm 6) mb_law_2)
  (sIf (xTst (xAp2 true dNe (xApp (f1 dRepr) (aC true (xLst (aC true (xCall D_most_wait (aC true (xV 4) aN)) (aC true (xCallK D_most_wait [0] true aN (aC true (xV 4) aN)) aN))) aN)) (xApp (f1 dRepr) (aC true (xAp2 true dMul (xLst (aC true (xAp2 true dIdx (xV 5) (xAp1 dNeg (xC (.int 1)))) aN)) (xC (.int 2))) aN))))
  (sRet (xC (.bl false)))
  sNil))))
def m_law : SE := (sSeq (sSet .ow 1 (xCall D_law_begin (aC true (xV 0) aN)))
  (sSeq (sFor (iRng1D (aC true (xApp (f2 dMax2) (aC true (xC (.int 2)) (aC true (xApp (f2 dMin2) (aC true (xC (.int 6)) (aC true (xApp (f1 dLen) (aC true (xV 0) aN)) aN))) aN))) aN)) (gNm 2) mb_law_1)
  (sRet (xC (.bl true)))))
def D_law : FA := dA 9 m_law
end Lk55
namespace Lk55
open PySem PySem.Spec PyProof.Rows L2 VL
def topS (i : Nat) : Stmt := PySem.Challenge.pw_handlocks_k55_rules_by_trails.main.body.getD i (.Pass ⟨0, 0, 0, 0⟩)
def subS (s : Stmt) (j : Nat) : Stmt := match s with
  | .ClassDef _ _ _ b _ _ _ _ _ _ _ => b.getD j (.Pass ⟨0, 0, 0, 0⟩)
  | _ => .Pass ⟨0, 0, 0, 0⟩
abbrev s_law_begin : Stmt := (topS 29)
abbrev N_law_begin : List Str := ["_law_script", "_law_great", "_law_cell"]
theorem S_law_begin : FnScope N_law_begin ["_law_script"] (defScope s_law_begin) := ⟨rfl, rfl, rfl, by decide +kernel, rfl, by decide +kernel, by decide +kernel⟩
abbrev s_law_blend : Stmt := (topS 30)
abbrev N_law_blend : List Str := ["_law_draw", "_law_turn", "_law_found", "_law_prime", "_law_blend_here", "_law_cell"]
theorem S_law_blend : FnScope N_law_blend ["_law_draw"] (defScope s_law_blend) := ⟨rfl, rfl, rfl, by decide +kernel, rfl, by decide +kernel, by decide +kernel⟩
abbrev s_law_take : Stmt := (topS 32)
abbrev N_law_take : List Str := ["_law_draw", "_law_size", "_law_found"]
theorem S_law_take : FnScope N_law_take ["_law_draw", "_law_size"] (defScope s_law_take) := ⟨rfl, rfl, rfl, by decide +kernel, rfl, by decide +kernel, by decide +kernel⟩
abbrev s_law_pick : Stmt := (topS 31)
abbrev N_law_pick : List Str := ["_law_draw", "_law_some"]
theorem S_law_pick : FnScope N_law_pick ["_law_draw", "_law_some"] (defScope s_law_pick) := ⟨rfl, rfl, rfl, by decide +kernel, rfl, by decide +kernel, by decide +kernel⟩
abbrev s_law_trail_row : Stmt := (topS 33)
abbrev N_law_trail_row : List Str := ["_law_draw", "_law_wait_here", "_law_listed_here", "_law_turn", "_law_more"]
theorem S_law_trail_row : FnScope N_law_trail_row ["_law_draw"] (defScope s_law_trail_row) := ⟨rfl, rfl, rfl, by decide +kernel, rfl, by decide +kernel, by decide +kernel⟩
abbrev s_is_list : Stmt := (topS 8)
abbrev N_is_list : List Str := ["thing"]
theorem S_is_list : FnScope N_is_list ["thing"] (defScope s_is_list) := ⟨rfl, rfl, rfl, by decide +kernel, rfl, by decide +kernel, by decide +kernel⟩
abbrev s_is_number : Stmt := (topS 6)
abbrev N_is_number : List Str := ["thing"]
theorem S_is_number : FnScope N_is_number ["thing"] (defScope s_is_number) := ⟨rfl, rfl, rfl, by decide +kernel, rfl, by decide +kernel, by decide +kernel⟩
abbrev s_is_number_in : Stmt := (topS 7)
abbrev N_is_number_in : List Str := ["thing", "least", "most"]
theorem S_is_number_in : FnScope N_is_number_in ["thing", "least", "most"] (defScope s_is_number_in) := ⟨rfl, rfl, rfl, by decide +kernel, rfl, by decide +kernel, by decide +kernel⟩
abbrev s_TrailRule_init : Stmt := (subS (topS 17) 0)
abbrev N_TrailRule_init : List Str := ["self", "listed", "growth", "number"]
theorem S_TrailRule_init : FnScope N_TrailRule_init ["self", "listed", "growth"] (defScope s_TrailRule_init) := ⟨rfl, rfl, rfl, by decide +kernel, rfl, by decide +kernel, by decide +kernel⟩
abbrev s_law_until : Stmt := (topS 34)
abbrev N_law_until : List Str := ["_law_row", "_law_size", "_law_listed_here", "_law_more", "_law_wait_here"]
theorem S_law_until : FnScope N_law_until ["_law_row", "_law_size"] (defScope s_law_until) := ⟨rfl, rfl, rfl, by decide +kernel, rfl, by decide +kernel, by decide +kernel⟩
abbrev s_law_trail_losing : Stmt := (topS 35)
abbrev N_law_trail_losing : List Str := ["_law_row", "_law_wait_here", "_law_bad", "_law_k"]
theorem S_law_trail_losing : FnScope N_law_trail_losing ["_law_row"] (defScope s_law_trail_losing) := ⟨rfl, rfl, rfl, by decide +kernel, rfl, by decide +kernel, by decide +kernel⟩
abbrev s_need_wait : Stmt := (topS 11)
abbrev N_need_wait : List Str := ["wait"]
theorem S_need_wait : FnScope N_need_wait ["wait"] (defScope s_need_wait) := ⟨rfl, rfl, rfl, by decide +kernel, rfl, by decide +kernel, by decide +kernel⟩
abbrev s_need_rule : Stmt := (topS 20)
abbrev N_need_rule : List Str := ["rule", "wait"]
theorem S_need_rule : FnScope N_need_rule ["rule", "wait"] (defScope s_need_rule) := ⟨rfl, rfl, rfl, by decide +kernel, rfl, by decide +kernel, by decide +kernel⟩
abbrev s_tick_by : Stmt := (topS 19)
abbrev N_tick_by : List Str := ["rule", "length", "most"]
theorem S_tick_by : FnScope N_tick_by ["rule", "length"] (defScope s_tick_by) := ⟨rfl, rfl, rfl, by decide +kernel, rfl, by decide +kernel, by decide +kernel⟩
abbrev s_trail_losing : Stmt := (topS 21)
abbrev N_trail_losing : List Str := ["rule", "wait", "length"]
theorem S_trail_losing : FnScope N_trail_losing ["rule", "wait"] (defScope s_trail_losing) := ⟨rfl, rfl, rfl, by decide +kernel, rfl, by decide +kernel, by decide +kernel⟩
abbrev s_least_losing : Stmt := (topS 23)
abbrev N_least_losing : List Str := ["rule", "wait"]
theorem S_least_losing : FnScope N_least_losing ["rule", "wait"] (defScope s_least_losing) := ⟨rfl, rfl, rfl, by decide +kernel, rfl, by decide +kernel, by decide +kernel⟩
abbrev s_law_trail_stuck : Stmt := (topS 36)
abbrev N_law_trail_stuck : List Str := ["_law_row", "_law_bad", "_law_k"]
theorem S_law_trail_stuck : FnScope N_law_trail_stuck ["_law_row"] (defScope s_law_trail_stuck) := ⟨rfl, rfl, rfl, by decide +kernel, rfl, by decide +kernel, by decide +kernel⟩
abbrev s_trail_stuck : Stmt := (topS 25)
abbrev N_trail_stuck : List Str := ["rule", "wait", "most", "length", "over"]
theorem S_trail_stuck : FnScope N_trail_stuck ["rule", "wait"] (defScope s_trail_stuck) := ⟨rfl, rfl, rfl, by decide +kernel, rfl, by decide +kernel, by decide +kernel⟩
abbrev s_least_stuck : Stmt := (topS 27)
abbrev N_least_stuck : List Str := ["rule", "wait"]
theorem S_least_stuck : FnScope N_least_stuck ["rule", "wait"] (defScope s_least_stuck) := ⟨rfl, rfl, rfl, by decide +kernel, rfl, by decide +kernel, by decide +kernel⟩
abbrev s_most_wait : Stmt := (topS 24)
abbrev N_most_wait : List Str := ["rule", "found", "wait"]
theorem S_most_wait : FnScope N_most_wait ["rule"] (defScope s_most_wait) := ⟨rfl, rfl, rfl, by decide +kernel, rfl, by decide +kernel, by decide +kernel⟩
abbrev s_law : Stmt := (topS 37)
abbrev N_law : List Str := ["_law_script", "_law_draw", "_law_turn", "_law_row", "_law_made", "_law_calm", "_law_wait_here", "_law_near", "_law_due"]
theorem S_law : FnScope N_law ["_law_script"] (defScope s_law) := ⟨rfl, rfl, rfl, by decide +kernel, rfl, by decide +kernel, by decide +kernel⟩
structure Tie (K : PySem.W.Frag) (mg : Str → Option Value) (G : Gm) where
  hK : K = G.K
  hT : G.T = []
  n_abs : mg "abs" = none
  n_all : mg "all" = none
  n_bool : mg "bool" = none
  n_int : mg "int" = none
  n_isinstance : mg "isinstance" = none
  n_len : mg "len" = none
  n_list : mg "list" = none
  n_max : mg "max" = none
  n_min : mg "min" = none
  n_range : mg "range" = none
  n_repr : mg "repr" = none
  n_tuple : mg "tuple" = none
  c_MOST_GROWTH : ∃ u, mg "MOST_GROWTH" = some u ∧ RelV (.int 10) u
  c_MOST_LISTED : ∃ u, mg "MOST_LISTED" = some u ∧ RelV (.int 4) u
  c_MOST_TOLD : ∃ u, mg "MOST_TOLD" = some u ∧ RelV (.int 40) u
  c_MOST_WAIT : ∃ u, mg "MOST_WAIT" = some u ∧ RelV (.int 5) u
  f_law_begin : Addr
  fd_law_begin : FuncData
  F_law_begin : Fun K "_law_begin" "_law_begin" s_law_begin f_law_begin fd_law_begin
  b_law_begin : Binds K fd_law_begin ["_law_script"] []
  g_law_begin : mg "_law_begin" = some (.ref f_law_begin)
  f_law_blend : Addr
  fd_law_blend : FuncData
  F_law_blend : Fun K "_law_blend" "_law_blend" s_law_blend f_law_blend fd_law_blend
  b_law_blend : Binds K fd_law_blend ["_law_draw"] []
  g_law_blend : mg "_law_blend" = some (.ref f_law_blend)
  f_law_take : Addr
  fd_law_take : FuncData
  F_law_take : Fun K "_law_take" "_law_take" s_law_take f_law_take fd_law_take
  b_law_take : Binds K fd_law_take ["_law_draw", "_law_size"] []
  g_law_take : mg "_law_take" = some (.ref f_law_take)
  f_law_pick : Addr
  fd_law_pick : FuncData
  F_law_pick : Fun K "_law_pick" "_law_pick" s_law_pick f_law_pick fd_law_pick
  b_law_pick : Binds K fd_law_pick ["_law_draw", "_law_some"] []
  g_law_pick : mg "_law_pick" = some (.ref f_law_pick)
  f_law_trail_row : Addr
  fd_law_trail_row : FuncData
  F_law_trail_row : Fun K "_law_trail_row" "_law_trail_row" s_law_trail_row f_law_trail_row fd_law_trail_row
  b_law_trail_row : Binds K fd_law_trail_row ["_law_draw"] []
  g_law_trail_row : mg "_law_trail_row" = some (.ref f_law_trail_row)
  f_is_list : Addr
  fd_is_list : FuncData
  F_is_list : Fun K "is_list" "is_list" s_is_list f_is_list fd_is_list
  b_is_list : Binds K fd_is_list ["thing"] []
  g_is_list : mg "is_list" = some (.ref f_is_list)
  f_is_number : Addr
  fd_is_number : FuncData
  F_is_number : Fun K "is_number" "is_number" s_is_number f_is_number fd_is_number
  b_is_number : Binds K fd_is_number ["thing"] []
  g_is_number : mg "is_number" = some (.ref f_is_number)
  f_is_number_in : Addr
  fd_is_number_in : FuncData
  F_is_number_in : Fun K "is_number_in" "is_number_in" s_is_number_in f_is_number_in fd_is_number_in
  b_is_number_in : Binds K fd_is_number_in ["thing", "least", "most"] []
  g_is_number_in : mg "is_number_in" = some (.ref f_is_number_in)
  f_TrailRule_init : Addr
  fd_TrailRule_init : FuncData
  F_TrailRule_init : Fun K "__init__" "TrailRule.__init__" s_TrailRule_init f_TrailRule_init fd_TrailRule_init
  b_TrailRule_init : Binds K fd_TrailRule_init ["self", "listed", "growth"] []
  f_law_until : Addr
  fd_law_until : FuncData
  F_law_until : Fun K "_law_until" "_law_until" s_law_until f_law_until fd_law_until
  b_law_until : Binds K fd_law_until ["_law_row", "_law_size"] []
  g_law_until : mg "_law_until" = some (.ref f_law_until)
  f_law_trail_losing : Addr
  fd_law_trail_losing : FuncData
  F_law_trail_losing : Fun K "_law_trail_losing" "_law_trail_losing" s_law_trail_losing f_law_trail_losing fd_law_trail_losing
  b_law_trail_losing : Binds K fd_law_trail_losing ["_law_row"] []
  g_law_trail_losing : mg "_law_trail_losing" = some (.ref f_law_trail_losing)
  f_need_wait : Addr
  fd_need_wait : FuncData
  F_need_wait : Fun K "need_wait" "need_wait" s_need_wait f_need_wait fd_need_wait
  b_need_wait : Binds K fd_need_wait ["wait"] []
  g_need_wait : mg "need_wait" = some (.ref f_need_wait)
  f_need_rule : Addr
  fd_need_rule : FuncData
  F_need_rule : Fun K "need_rule" "need_rule" s_need_rule f_need_rule fd_need_rule
  b_need_rule : Binds K fd_need_rule ["rule", "wait"] []
  g_need_rule : mg "need_rule" = some (.ref f_need_rule)
  f_tick_by : Addr
  fd_tick_by : FuncData
  F_tick_by : Fun K "tick_by" "tick_by" s_tick_by f_tick_by fd_tick_by
  b_tick_by : Binds K fd_tick_by ["rule", "length"] []
  g_tick_by : mg "tick_by" = some (.ref f_tick_by)
  f_trail_losing : Addr
  fd_trail_losing : FuncData
  F_trail_losing : Fun K "trail_losing" "trail_losing" s_trail_losing f_trail_losing fd_trail_losing
  b_trail_losing : Binds K fd_trail_losing ["rule", "wait"] []
  g_trail_losing : mg "trail_losing" = some (.ref f_trail_losing)
  f_least_losing : Addr
  fd_least_losing : FuncData
  F_least_losing : Fun K "least_losing" "least_losing" s_least_losing f_least_losing fd_least_losing
  b_least_losing : Binds K fd_least_losing ["rule", "wait"] []
  g_least_losing : mg "least_losing" = some (.ref f_least_losing)
  f_law_trail_stuck : Addr
  fd_law_trail_stuck : FuncData
  F_law_trail_stuck : Fun K "_law_trail_stuck" "_law_trail_stuck" s_law_trail_stuck f_law_trail_stuck fd_law_trail_stuck
  b_law_trail_stuck : Binds K fd_law_trail_stuck ["_law_row"] []
  g_law_trail_stuck : mg "_law_trail_stuck" = some (.ref f_law_trail_stuck)
  f_trail_stuck : Addr
  fd_trail_stuck : FuncData
  F_trail_stuck : Fun K "trail_stuck" "trail_stuck" s_trail_stuck f_trail_stuck fd_trail_stuck
  b_trail_stuck : Binds K fd_trail_stuck ["rule", "wait"] []
  g_trail_stuck : mg "trail_stuck" = some (.ref f_trail_stuck)
  f_least_stuck : Addr
  fd_least_stuck : FuncData
  F_least_stuck : Fun K "least_stuck" "least_stuck" s_least_stuck f_least_stuck fd_least_stuck
  b_least_stuck : Binds K fd_least_stuck ["rule", "wait"] []
  g_least_stuck : mg "least_stuck" = some (.ref f_least_stuck)
  f_most_wait : Addr
  fd_most_wait : FuncData
  F_most_wait : Fun K "most_wait" "most_wait" s_most_wait f_most_wait fd_most_wait
  b_most_wait : Binds K fd_most_wait ["rule"] []
  g_most_wait : mg "most_wait" = some (.ref f_most_wait)
  f_law : Addr
  fd_law : FuncData
  F_law : Fun K "law" "law" s_law f_law fd_law
  b_law : Binds K fd_law ["_law_script"] []
  g_law : mg "law" = some (.ref f_law)
  kb_least_losing_0_wait_rule : KB K fd_least_losing ["rule", "wait"] ["wait", "rule"] 0 [1, 0]
  kb_least_stuck_0_wait_rule : KB K fd_least_stuck ["rule", "wait"] ["wait", "rule"] 0 [1, 0]
  kb_most_wait_0_rule : KB K fd_most_wait ["rule"] ["rule"] 0 [0]
  A_TrailRule : Addr
  gc_TrailRule : mg "TrailRule" = some (.ref A_TrailRule)
  cm_TrailRule : G.cm 3 = some A_TrailRule
  mk_TrailRule : Mk K A_TrailRule f_TrailRule_init
  A_WayRule : Addr
  gc_WayRule : mg "WayRule" = some (.ref A_WayRule)
  cm_WayRule : G.cm 4 = some A_WayRule
  a_own_growth : FldOk G [3] "own_growth"
  a_own_listed : FldOk G [3] "own_listed"
  isi_TrailRule : IsiOk G tab_TrailRule [.ref A_TrailRule]
  isi_TrailRule_WayRule : IsiOk G tab_TrailRule_WayRule [.ref A_TrailRule, .ref A_WayRule]
section
variable {P : Program} {w : World} {K : PySem.W.Frag} {mg : Str → Option Value} {base : Heap} {G : Gm}
set_option maxHeartbeats 4000000
theorem ok_law_begin (t : Tie K mg G) : FnG P w K mg base 1 t.f_law_begin t.fd_law_begin ["_law_script"] (spA G 1 D_law_begin) :=
  have S := S_law_begin
  def_okA t.F_law_begin S rfl fun cdv A outer s H E z hr =>
  (r_cons (r_setlc (fl := .ow) (i := 1) rfl S.nd rfl rfl rfl (own := [("_law_cell", 2)]) (r_iseq t.hK (r_var (pv 0))) (by show BlkOk N_law_begin (defScope s_law_begin) _ _; exact ⟨rfl, by decide +kernel, by decide +kernel, by decide +kernel, by decide +kernel⟩) (by decide) (fun _ _ _ _ _ => (g_at (i := 2) S.nd)) (fun _ _ _ _ _ => (pts_if (b_tcmp (o_ge) (b_cb (o_abs) t.n_abs (r_acons (r_var (pv 2)) r_anil)) (b_bin (o_pow) (r_const pe_int rfl) (r_const pe_int rfl))))) (fun _ _ _ _ _ => (b_bin (o_sub) (b_cb (o_abs) t.n_abs (r_acons (r_var (pv 2)) r_anil)) (b_bin (o_pow) (r_const pe_int rfl) (r_const pe_int rfl)))))
  (r_one (r_retDrw pe_str pe_str pe_str pe_str (pv 1) pe_int (r_lc rfl S.nd (own := [("_law_cell", 2)]) (r_iseq t.hK (r_var (pv 0))) (by show BlkOk N_law_begin (defScope s_law_begin) _ _; exact ⟨rfl, by decide +kernel, by decide +kernel, by decide +kernel, by decide +kernel⟩) (by decide) (fun _ _ _ _ _ => (g_at (i := 2) S.nd)) (fun _ _ _ _ _ => pts_no) (fun _ _ _ _ _ => (b_cb (o_abs) t.n_abs (r_acons (r_var (pv 2)) r_anil)))) pe_int)))
theorem ok_law_blend (t : Tie K mg G) : FnG P w K mg base 1 t.f_law_blend t.fd_law_blend ["_law_draw"] (spB G 1 D_law_blend) :=
  have S := S_law_blend
  def_okB t.F_law_blend S rfl fun cdv A outer s H E z hr =>
  (r_cons (set_at (fl := .fz) (i := 1) S.nd (b_bin (o_add t.hK) (r_drwTurn hr (pv 0) pe_str (fun _ _ => rfl)) (r_const pe_int rfl)))
  (r_cons (r_drwSetTurn hr (pv 0) pe_str (r_var (pv 1)))
  (r_cons (set_at (fl := .fz) (i := 2) S.nd (r_const pe_int rfl))
  (r_cons (r_for paD rfl (r_iseq t.hK (r_lst (r_acons (r_const pe_int rfl) (r_acons (r_const pe_int rfl) (r_acons (r_const pe_int rfl) (r_acons (r_const pe_int rfl) r_anil)))))) (g_at (i := 3) S.nd) ne_name
  (r_cons (set_at (fl := .fz) (i := 4) S.nd (b_bin (o_mod) (b_ct (o_int) t.n_int (r_acons (b_bin (o_add t.hK) (b_bin (o_mul) (r_var (pv 1)) (r_const pe_int rfl)) (b_bin (o_fdiv) (r_var (pv 3)) (r_const pe_int rfl))) r_anil)) (r_var (pv 3))))
  (r_cons (r_for paD rfl (r_iseq t.hK (r_drwCells hr (pv 0) pe_str (fun _ _ => rfl))) (g_at (i := 5) S.nd) ne_name
  (r_one (set_at (fl := .fz) (i := 4) S.nd (b_bin (o_mod) (b_ct (o_int) t.n_int (r_acons (b_bin (o_add t.hK) (b_bin (o_mul) (r_var (pv 4)) (r_const pe_int rfl)) (r_var (pv 5))) r_anil)) (r_var (pv 3))))))
  (r_one (set_at (fl := .fz) (i := 2) S.nd (b_bin (o_add t.hK) (b_bin (o_mul) (r_var (pv 2)) (r_const pe_int rfl)) (b_bin (o_mod) (b_ct (o_int) t.n_int (r_acons (b_bin (o_pow) (r_var (pv 4)) (r_const pe_int rfl)) r_anil)) (r_var (pv 3)))))))))
  (r_one (r_retv (pv 2)))))))
theorem ok_law_take (t : Tie K mg G) : FnG P w K mg base 2 t.f_law_take t.fd_law_take ["_law_draw", "_law_size"] (spB G 2 D_law_take) :=
  have S := S_law_take
  def_okB t.F_law_take S rfl fun cdv A outer s H E z hr =>
  (r_cons (r_if (r_and (b_tcmp (o_eq hr t.hK) (r_drwRest hr (pv 0) pe_str (fun _ _ => rfl)) (r_const pe_int rfl)) (r_and1 (r_tdrwNe hr t.hK (pv 0) pe_str (fun _ _ => rfl)))).pt
  (r_one (r_drwSetRest hr (pv 0) pe_str (r_drwPop hr (pv 0) pe_str (fun _ _ => rfl) pe_int rfl (fun _ _ a b => pe_bm PySem.F.plainAttrs_list PySem.F.slot_list_pop PySem.F.type_list_pop mt_popAt a b))))
  r_nil)
  (r_cons (r_if (b_tcmp (o_eq hr t.hK) (r_drwRest hr (pv 0) pe_str (fun _ _ => rfl)) (r_const pe_int rfl))
  (r_one (r_drwSetRest hr (pv 0) pe_str (r_callM tkD (ok_law_blend t) (hr.mono (by decide)) (by rfl) t.g_law_blend t.F_law_blend.kp t.b_law_blend (pv 0) r_anil (by exact alen_nil))))
  r_nil)
  (r_cons (set_at (fl := .fz) (i := 2) S.nd (b_bin (o_mod) (b_ct (o_int) t.n_int (r_acons (r_drwRest hr (pv 0) pe_str (fun _ _ => rfl)) r_anil)) (r_var (pv 1))))
  (r_cons (r_drwSetRest hr (pv 0) pe_str (b_bin (o_fdiv) (r_drwRest hr (pv 0) pe_str (fun _ _ => rfl)) (r_var (pv 1))))
  (r_one (r_retv (pv 2)))))))
theorem ok_law_pick (t : Tie K mg G) : FnG P w K mg base 3 t.f_law_pick t.fd_law_pick ["_law_draw", "_law_some"] (spB G 2 D_law_pick) :=
  have S := S_law_pick
  def_okB t.F_law_pick S rfl fun cdv A outer s H E z hr =>
  (r_one (r_ret (b_ix (o_idx t.hK) (r_var (pv 1)) (r_callM tkD (ok_law_take t) (hr.mono (by decide)) (by rfl) t.g_law_take t.F_law_take.kp t.b_law_take (pv 0) (r_acons (b_cb (o_len t.hK) t.n_len (r_acons (r_var (pv 1)) r_anil)) r_anil) (by exact (alen_cons alen_nil))))))
theorem ok_law_trail_row (t : Tie K mg G) : FnG P w K mg base 4 t.f_law_trail_row t.fd_law_trail_row ["_law_draw"] (spB G 1 D_law_trail_row) :=
  have S := S_law_trail_row
  def_okB t.F_law_trail_row S rfl fun cdv A outer s H E z hr =>
  (r_cons (set_at (fl := .fz) (i := 1) S.nd (b_bin (o_add t.hK) (r_const pe_int rfl) (r_callM tkD (ok_law_take t) (hr.mono (by decide)) (by rfl) t.g_law_take t.F_law_take.kp t.b_law_take (pv 0) (r_acons (r_const pe_int rfl) r_anil) (by exact (alen_cons alen_nil)))))
  (r_cons (set_at (fl := .ow) (i := 2) S.nd (r_lst (r_acons (r_callM tkD (ok_law_take t) (hr.mono (by decide)) (by rfl) t.g_law_take t.F_law_take.kp t.b_law_take (pv 0) (r_acons (r_const pe_int rfl) r_anil) (by exact (alen_cons alen_nil))) r_anil)))
  (r_cons (r_for paD rfl (r_irange1 rfl t.n_range (r_acons (r_callM tkD (ok_law_take t) (hr.mono (by decide)) (by rfl) t.g_law_take t.F_law_take.kp t.b_law_take (pv 0) (r_acons (r_const pe_int rfl) r_anil) (by exact (alen_cons alen_nil))) r_anil)) (g_at (i := 3) S.nd) ne_name
  (r_cons (set_at (fl := .fz) (i := 4) S.nd (r_callM tkD (ok_law_pick t) (hr.mono (by decide)) (by rfl) t.g_law_pick t.F_law_pick.kp t.b_law_pick (pv 0) (r_acons (r_lst (r_acons (r_var (pv 1)) (r_acons (r_var (pv 1)) (r_acons (b_bin (o_sub) (r_var (pv 1)) (r_const pe_int rfl)) (r_acons (b_bin (o_add t.hK) (r_var (pv 1)) (r_const pe_int rfl)) (r_acons (r_const pe_int rfl) (r_acons (r_callM tkD (ok_law_take t) (hr.mono (by decide)) (by rfl) t.g_law_take t.F_law_take.kp t.b_law_take (pv 0) (r_acons (r_const pe_int rfl) r_anil) (by exact (alen_cons alen_nil))) r_anil))))))) r_anil) (by exact (alen_cons alen_nil))))
  (r_one (r_ex (r_append (pe_bm PySem.F.plainAttrs_list PySem.F.slot_list_append PySem.F.type_list_append mt_append (pv 2) (r_acons (b_cb (o_min rfl) t.n_min (r_acons (r_const pe_int rfl) (r_acons (b_bin (o_add t.hK) (b_ix (o_idx t.hK) (r_var (pv 2)) (b_un o_neg (r_const pe_int rfl))) (r_var (pv 4))) r_anil))) r_anil)))))))
  (r_one (r_frz (i := 2) (r_ret (r_tup (r_acons (r_var (pv 2)) (r_acons (r_callM tkD (ok_law_pick t) (hr.mono (by decide)) (by rfl) t.g_law_pick t.F_law_pick.kp t.b_law_pick (pv 0) (r_acons (r_lst (r_acons (r_var (pv 1)) (r_acons (r_var (pv 1)) (r_acons (b_bin (o_sub) (r_var (pv 1)) (r_const pe_int rfl)) (r_acons (r_const pe_int rfl) (r_acons (r_const pe_int rfl) (r_acons (r_callM tkD (ok_law_take t) (hr.mono (by decide)) (by rfl) t.g_law_take t.F_law_take.kp t.b_law_take (pv 0) (r_acons (r_const pe_int rfl) r_anil) (by exact (alen_cons alen_nil))) r_anil))))))) r_anil) (by exact (alen_cons alen_nil))) (r_acons (r_var (pv 1)) r_anil))))))))))
theorem ok_is_list (t : Tie K mg G) : FnG P w K mg base 1 t.f_is_list t.fd_is_list ["thing"] (spA G 1 D_is_list) :=
  have S := S_is_list
  def_okA t.F_is_list S rfl fun cdv A outer s H E z hr =>
  (r_one (r_ret (r_isiT (cus := [.type "list", .type "tuple"]) t.hK rfl t.n_isinstance (r_var (pv 0)) (pa_cons (pe_bltn (v := .ty "list") (by rfl) t.n_list (by decide +kernel) rfl) (pa_cons (pe_bltn (v := .ty "tuple") (by rfl) t.n_tuple (by decide +kernel) rfl) pa_nil)) (fun _ _ _ h => h) (by show 2 ≤ sizeLine; rw [sizeLine_eq]; decide) (.cons (.ty _) (.cons (.ty _) .nil)) (tyTab_ok rfl))))
theorem ok_is_number (t : Tie K mg G) : FnG P w K mg base 1 t.f_is_number t.fd_is_number ["thing"] (spA G 1 D_is_number) :=
  have S := S_is_number
  def_okA t.F_is_number S rfl fun cdv A outer s H E z hr =>
  (r_one (r_ret (r_andV (r_isi (cu := .type "int") t.hK rfl t.n_isinstance (r_var (pv 0)) (pe_bltn (v := .ty "int") (by rfl) t.n_int (by decide +kernel) rfl) (.ty _) (tyTab_ok rfl)) (r_oneV (r_notV (r_isi (cu := .type "bool") t.hK rfl t.n_isinstance (r_var (pv 0)) (pe_bltn (v := .ty "bool") (by rfl) t.n_bool (by decide +kernel) rfl) (.ty _) (tyTab_ok rfl)))))))
theorem ok_is_number_in (t : Tie K mg G) : FnG P w K mg base 2 t.f_is_number_in t.fd_is_number_in ["thing", "least", "most"] (spA G 3 D_is_number_in) :=
  have S := S_is_number_in
  def_okA t.F_is_number_in S rfl fun cdv A outer s H E z hr =>
  (r_one (r_ret (r_andV (r_call tkD (ok_is_number t) (hr.mono (by decide)) (by rfl) t.g_is_number t.F_is_number.kp t.b_is_number (r_acons (r_var (pv 0)) r_anil) (by exact (alen_cons alen_nil))) (r_oneV (b_chain (o_le) (o_le) (r_var (pv 1)) (r_var (pv 0)) (r_var (pv 2)))))))
theorem ok_TrailRule_init (t : Tie K mg G) : FnG P w K mg base 3 t.f_TrailRule_init t.fd_TrailRule_init ["self", "listed", "growth"] (spB G 3 D_TrailRule_init) :=
  have S := S_TrailRule_init
  def_okB t.F_TrailRule_init S rfl fun cdv A outer s H E z hr =>
  (r_cons (r_if (r_or (r_not (r_test (r_call tkD (ok_is_list t) (hr.mono (by decide)) (by rfl) t.g_is_list t.F_is_list.kp t.b_is_list (r_acons (r_var (pv 1)) r_anil) (by exact (alen_cons alen_nil))))) (r_or1 (r_not (b_tchain (o_le) (o_le) (r_const pe_int rfl) (b_cb (o_len t.hK) t.n_len (r_acons (r_var (pv 1)) r_anil)) (r_globC (by rfl) t.c_MOST_LISTED rfl))))).pt
  (r_one r_never)
  r_nil)
  (r_cons (r_if (r_not (r_test (b_cb (o_all rfl) t.n_all (r_acons (r_lc rfl S.nd (own := [("number", 3)]) (r_iseq t.hK (r_var (pv 1))) (by show BlkOk N_TrailRule_init (defScope s_TrailRule_init) _ _; exact ⟨rfl, by decide +kernel, by decide +kernel, by decide +kernel, by decide +kernel⟩) (by decide) (fun _ _ _ _ _ => (g_at (i := 3) S.nd)) (fun _ _ _ _ _ => pts_no) (fun _ _ _ _ _ => (r_call tk0 (ok_is_number_in t) (hr.mono (by decide)) (by rfl) t.g_is_number_in t.F_is_number_in.kp t.b_is_number_in (r_acons (r_var (pv 3)) (r_acons (r_const pe_int rfl) (r_acons (r_globC (by rfl) t.c_MOST_TOLD rfl) r_anil))) (by exact (alen_cons (alen_cons (alen_cons alen_nil))))))) r_anil))))
  (r_one r_never)
  r_nil)
  (r_cons (r_if (r_not (r_test (r_call tkD (ok_is_number_in t) (hr.mono (by decide)) (by rfl) t.g_is_number_in t.F_is_number_in.kp t.b_is_number_in (r_acons (r_var (pv 2)) (r_acons (r_const pe_int rfl) (r_acons (r_globC (by rfl) t.c_MOST_GROWTH rfl) r_anil))) (by exact (alen_cons (alen_cons (alen_cons alen_nil)))))))
  (r_one r_never)
  r_nil)
  (r_cons (r_fldset t.hK t.a_own_listed (pv 0) (b_ct (o_tuple t.hK) t.n_tuple (r_acons (r_var (pv 1)) r_anil)))
  (r_one (r_fldset t.hK t.a_own_growth (pv 0) (r_var (pv 2))))))))
theorem ok_law_until (t : Tie K mg G) : FnG P w K mg base 1 t.f_law_until t.fd_law_until ["_law_row", "_law_size"] (spA G 2 D_law_until) :=
  have S := S_law_until
  def_okA t.F_law_until S rfl fun cdv A outer s H E z hr =>
  (r_cons (asg_at (r_var (pv 0)) (g_tup rfl t.hK (g_cons (g_at (i := 2) S.nd) (g_cons (g_at (i := 3) S.nd) (g_cons (g_at (i := 4) S.nd) g_nil)))) (ne_tup (ne_cons ne_name (ne_cons ne_name (ne_cons ne_name ne_nil)))))
  (r_one (r_ret (b_bin (o_add t.hK) (b_ix (o_idx t.hK) (r_var (pv 2)) (b_cb (o_min rfl) t.n_min (r_acons (r_var (pv 1)) (r_acons (b_bin (o_sub) (b_cb (o_len t.hK) t.n_len (r_acons (r_var (pv 2)) r_anil)) (r_const pe_int rfl)) r_anil)))) (b_bin (o_mul) (r_var (pv 3)) (b_cb (o_max rfl) t.n_max (r_acons (r_const pe_int rfl) (r_acons (b_bin (o_add t.hK) (b_bin (o_sub) (r_var (pv 1)) (b_cb (o_len t.hK) t.n_len (r_acons (r_var (pv 2)) r_anil))) (r_const pe_int rfl)) r_anil))))))))
theorem ok_law_trail_losing (t : Tie K mg G) : FnG P w K mg base 2 t.f_law_trail_losing t.fd_law_trail_losing ["_law_row"] (spA G 1 D_law_trail_losing) :=
  have S := S_law_trail_losing
  def_okA t.F_law_trail_losing S rfl fun cdv A outer s H E z hr =>
  (r_cons (set_at (fl := .fz) (i := 1) S.nd (b_ix (o_idx t.hK) (r_var (pv 0)) (r_const pe_int rfl)))
  (r_cons (r_setlc (fl := .fz) (i := 2) rfl S.nd rfl rfl rfl (own := [("_law_k", 3)]) (r_irange1 rfl t.n_range (r_acons (r_const pe_int rfl) r_anil)) (by show BlkOk N_law_trail_losing (defScope s_law_trail_losing) _ _; exact ⟨rfl, by decide +kernel, by decide +kernel, by decide +kernel, by decide +kernel⟩) (by decide) (fun _ _ _ _ _ => (g_at (i := 3) S.nd)) (fun _ _ _ _ _ => (pts_if (b_tcmp (o_gt) (b_bin (o_add t.hK) (r_call tk0 (ok_law_until t) (hr.mono (by decide)) (by rfl) t.g_law_until t.F_law_until.kp t.b_law_until (r_acons (r_var (pv 0)) (r_acons (r_var (pv 3)) r_anil)) (by exact (alen_cons (alen_cons alen_nil)))) (r_var (pv 1))) (r_call tk0 (ok_law_until t) (hr.mono (by decide)) (by rfl) t.g_law_until t.F_law_until.kp t.b_law_until (r_acons (r_var (pv 0)) (r_acons (b_bin (o_add t.hK) (r_var (pv 3)) (r_const pe_int rfl)) r_anil)) (by exact (alen_cons (alen_cons alen_nil))))))) (fun _ _ _ _ _ => (r_var (pv 3))))
  (r_one (r_ret (r_ifV (b_tcmp (o_ne hr t.hK) (r_var (pv 2)) (r_lst r_anil)) (b_bin (o_add t.hK) (b_ix (o_idx t.hK) (r_var (pv 2)) (r_const pe_int rfl)) (r_const pe_int rfl)) (r_const pe_non rfl))))))
theorem ok_need_wait (t : Tie K mg G) : FnG P w K mg base 3 t.f_need_wait t.fd_need_wait ["wait"] (spA G 1 D_need_wait) :=
  have S := S_need_wait
  def_okA t.F_need_wait S rfl fun cdv A outer s H E z hr =>
  (r_one (r_if (r_not (r_test (r_call tkD (ok_is_number_in t) (hr.mono (by decide)) (by rfl) t.g_is_number_in t.F_is_number_in.kp t.b_is_number_in (r_acons (r_var (pv 0)) (r_acons (r_const pe_int rfl) (r_acons (r_globC (by rfl) t.c_MOST_WAIT rfl) r_anil))) (by exact (alen_cons (alen_cons (alen_cons alen_nil)))))))
  (r_one r_never)
  r_nil))
theorem ok_need_rule (t : Tie K mg G) : FnG P w K mg base 4 t.f_need_rule t.fd_need_rule ["rule", "wait"] (spA G 2 D_need_rule) :=
  have S := S_need_rule
  def_okA t.F_need_rule S rfl fun cdv A outer s H E z hr =>
  (r_cons (r_if (r_not (r_test (r_isiT (cus := [.ref t.A_TrailRule, .ref t.A_WayRule]) t.hK rfl t.n_isinstance (r_var (pv 0)) (pa_cons (pe_glob (v := .ref t.A_TrailRule) (by rfl) t.gc_TrailRule rfl) (pa_cons (pe_glob (v := .ref t.A_WayRule) (by rfl) t.gc_WayRule rfl) pa_nil)) (fun _ _ _ h => h) (by show 2 ≤ sizeLine; rw [sizeLine_eq]; decide) (.cons (.own _) (.cons (.own _) .nil)) t.isi_TrailRule_WayRule)))
  (r_one r_never)
  r_nil)
  (r_one (r_ex (r_call tkD (ok_need_wait t) (hr.mono (by decide)) (by rfl) t.g_need_wait t.F_need_wait.kp t.b_need_wait (r_acons (r_var (pv 1)) r_anil) (by exact (alen_cons alen_nil))))))
theorem ok_tick_by (t : Tie K mg G) : FnG P w K mg base 1 t.f_tick_by t.fd_tick_by ["rule", "length"] (spA G 2 D_tick_by) :=
  have S := S_tick_by
  def_okA t.F_tick_by S rfl fun cdv A outer s H E z hr =>
  (r_cons (set_at (fl := .fz) (i := 2) S.nd (b_bin (o_sub) (b_cb (o_len t.hK) t.n_len (r_acons (r_fld t.hK t.a_own_listed (r_var (pv 0)) rfl) r_anil)) (r_const pe_int rfl)))
  (r_cons (r_if (b_tcmp (o_le) (r_var (pv 1)) (r_var (pv 2)))
  (r_one (r_ret (b_ix (o_idx t.hK) (r_fld t.hK t.a_own_listed (r_var (pv 0)) rfl) (r_var (pv 1)))))
  r_nil)
  (r_one (r_ret (b_bin (o_add t.hK) (b_ix (o_idx t.hK) (r_fld t.hK t.a_own_listed (r_var (pv 0)) rfl) (r_var (pv 2))) (b_bin (o_mul) (r_fld t.hK t.a_own_growth (r_var (pv 0)) rfl) (b_bin (o_sub) (r_var (pv 1)) (r_var (pv 2)))))))))
theorem ok_trail_losing (t : Tie K mg G) : FnG P w K mg base 2 t.f_trail_losing t.fd_trail_losing ["rule", "wait"] (spA G 2 D_trail_losing) :=
  have S := S_trail_losing
  def_okA t.F_trail_losing S rfl fun cdv A outer s H E z hr =>
  (r_cons (r_for paD rfl (r_irange1 rfl t.n_range (r_acons (b_cb (o_len t.hK) t.n_len (r_acons (r_fld t.hK t.a_own_listed (r_var (pv 0)) rfl) r_anil)) r_anil)) (g_at (i := 2) S.nd) ne_name
  (r_one (r_if (b_tcmp (o_gt) (b_bin (o_add t.hK) (r_call tkD (ok_tick_by t) (hr.mono (by decide)) (by rfl) t.g_tick_by t.F_tick_by.kp t.b_tick_by (r_acons (r_var (pv 0)) (r_acons (r_var (pv 2)) r_anil)) (by exact (alen_cons (alen_cons alen_nil)))) (r_var (pv 1))) (r_call tkD (ok_tick_by t) (hr.mono (by decide)) (by rfl) t.g_tick_by t.F_tick_by.kp t.b_tick_by (r_acons (r_var (pv 0)) (r_acons (b_bin (o_add t.hK) (r_var (pv 2)) (r_const pe_int rfl)) r_anil)) (by exact (alen_cons (alen_cons alen_nil)))))
  (r_one (r_ret (b_bin (o_add t.hK) (r_var (pv 2)) (r_const pe_int rfl))))
  r_nil)))
  (r_one (r_ret (r_const pe_non rfl))))
theorem ok_least_losing (t : Tie K mg G) : FnG P w K mg base 5 t.f_least_losing t.fd_least_losing ["rule", "wait"] (spA G 2 D_least_losing) :=
  have S := S_least_losing
  def_okA t.F_least_losing S rfl fun cdv A outer s H E z hr =>
  (r_cons (r_ex (r_call tkD (ok_need_rule t) (hr.mono (by decide)) (by rfl) t.g_need_rule t.F_need_rule.kp t.b_need_rule (r_acons (r_var (pv 0)) (r_acons (r_var (pv 1)) r_anil)) (by exact (alen_cons (alen_cons alen_nil)))))
  (r_one (r_ret (r_ifV (r_test (r_isi (cu := .ref t.A_TrailRule) t.hK rfl t.n_isinstance (r_var (pv 0)) (pe_glob (v := .ref t.A_TrailRule) (by rfl) t.gc_TrailRule rfl) (.own _) t.isi_TrailRule)) (r_call tkD (ok_trail_losing t) (hr.mono (by decide)) (by rfl) t.g_trail_losing t.F_trail_losing.kp t.b_trail_losing (r_acons (r_var (pv 0)) (r_acons (r_var (pv 1)) r_anil)) (by exact (alen_cons (alen_cons alen_nil)))) r_neverE))))
theorem ok_law_trail_stuck (t : Tie K mg G) : FnG P w K mg base 2 t.f_law_trail_stuck t.fd_law_trail_stuck ["_law_row"] (spA G 1 D_law_trail_stuck) :=
  have S := S_law_trail_stuck
  def_okA t.F_law_trail_stuck S rfl fun cdv A outer s H E z hr =>
  (r_cons (r_setlc (fl := .fz) (i := 1) rfl S.nd rfl rfl rfl (own := [("_law_k", 2)]) (r_irange1 rfl t.n_range (r_acons (r_const pe_int rfl) r_anil)) (by show BlkOk N_law_trail_stuck (defScope s_law_trail_stuck) _ _; exact ⟨rfl, by decide +kernel, by decide +kernel, by decide +kernel, by decide +kernel⟩) (by decide) (fun _ _ _ _ _ => (g_at (i := 2) S.nd)) (fun _ _ _ _ _ => (pts_if (b_tcmp (o_lt) (r_call tk0 (ok_law_until t) (hr.mono (by decide)) (by rfl) t.g_law_until t.F_law_until.kp t.b_law_until (r_acons (r_var (pv 0)) (r_acons (r_var (pv 2)) r_anil)) (by exact (alen_cons (alen_cons alen_nil)))) (b_bin (o_mul) (b_ix (o_idx t.hK) (r_var (pv 0)) (r_const pe_int rfl)) (r_var (pv 2)))))) (fun _ _ _ _ _ => (r_var (pv 2))))
  (r_one (r_ret (r_ifV (b_tcmp (o_ne hr t.hK) (r_var (pv 1)) (r_lst r_anil)) (b_bin (o_add t.hK) (b_ix (o_idx t.hK) (r_var (pv 1)) (r_const pe_int rfl)) (r_const pe_int rfl)) (r_const pe_non rfl)))))
theorem ok_trail_stuck (t : Tie K mg G) : FnG P w K mg base 2 t.f_trail_stuck t.fd_trail_stuck ["rule", "wait"] (spA G 2 D_trail_stuck) :=
  have S := S_trail_stuck
  def_okA t.F_trail_stuck S rfl fun cdv A outer s H E z hr =>
  (r_cons (set_at (fl := .fz) (i := 2) S.nd (b_bin (o_sub) (b_cb (o_len t.hK) t.n_len (r_acons (r_fld t.hK t.a_own_listed (r_var (pv 0)) rfl) r_anil)) (r_const pe_int rfl)))
  (r_cons (r_for paD rfl (r_irange2 rfl t.n_range (r_acons (r_const pe_int rfl) (r_acons (b_bin (o_add t.hK) (r_var (pv 2)) (r_const pe_int rfl)) r_anil))) (g_at (i := 3) S.nd) ne_name
  (r_one (r_if (b_tcmp (o_lt) (r_call tkD (ok_tick_by t) (hr.mono (by decide)) (by rfl) t.g_tick_by t.F_tick_by.kp t.b_tick_by (r_acons (r_var (pv 0)) (r_acons (r_var (pv 3)) r_anil)) (by exact (alen_cons (alen_cons alen_nil)))) (b_bin (o_mul) (r_var (pv 1)) (r_var (pv 3))))
  (r_one (r_ret (b_bin (o_add t.hK) (r_var (pv 3)) (r_const pe_int rfl))))
  r_nil)))
  (r_cons (r_if (b_tcmp (o_ge) (r_fld t.hK t.a_own_growth (r_var (pv 0)) rfl) (r_var (pv 1)))
  (r_one (r_ret (r_const pe_non rfl)))
  r_nil)
  (r_cons (set_at (fl := .fz) (i := 4) S.nd (b_bin (o_sub) (b_ix (o_idx t.hK) (r_fld t.hK t.a_own_listed (r_var (pv 0)) rfl) (r_var (pv 2))) (b_bin (o_mul) (r_fld t.hK t.a_own_growth (r_var (pv 0)) rfl) (r_var (pv 2)))))
  (r_one (r_ret (b_bin (o_add t.hK) (b_bin (o_fdiv) (r_var (pv 4)) (b_bin (o_sub) (r_var (pv 1)) (r_fld t.hK t.a_own_growth (r_var (pv 0)) rfl))) (r_const pe_int rfl))))))))
theorem ok_least_stuck (t : Tie K mg G) : FnG P w K mg base 5 t.f_least_stuck t.fd_least_stuck ["rule", "wait"] (spA G 2 D_least_stuck) :=
  have S := S_least_stuck
  def_okA t.F_least_stuck S rfl fun cdv A outer s H E z hr =>
  (r_cons (r_ex (r_call tkD (ok_need_rule t) (hr.mono (by decide)) (by rfl) t.g_need_rule t.F_need_rule.kp t.b_need_rule (r_acons (r_var (pv 0)) (r_acons (r_var (pv 1)) r_anil)) (by exact (alen_cons (alen_cons alen_nil)))))
  (r_one (r_ret (r_ifV (r_test (r_isi (cu := .ref t.A_TrailRule) t.hK rfl t.n_isinstance (r_var (pv 0)) (pe_glob (v := .ref t.A_TrailRule) (by rfl) t.gc_TrailRule rfl) (.own _) t.isi_TrailRule)) (r_call tkD (ok_trail_stuck t) (hr.mono (by decide)) (by rfl) t.g_trail_stuck t.F_trail_stuck.kp t.b_trail_stuck (r_acons (r_var (pv 0)) (r_acons (r_var (pv 1)) r_anil)) (by exact (alen_cons (alen_cons alen_nil)))) r_neverE))))
theorem ok_most_wait (t : Tie K mg G) : FnG P w K mg base 6 t.f_most_wait t.fd_most_wait ["rule"] (spA G 1 D_most_wait) :=
  have S := S_most_wait
  def_okA t.F_most_wait S rfl fun cdv A outer s H E z hr =>
  (r_cons (set_at (fl := .ow) (i := 1) S.nd (r_lst (r_acons (r_const pe_int rfl) r_anil)))
  (r_cons (r_for paD rfl (r_irange2 rfl t.n_range (r_acons (r_const pe_int rfl) (r_acons (b_bin (o_add t.hK) (r_globC (by rfl) t.c_MOST_WAIT rfl) (r_const pe_int rfl)) r_anil))) (g_at (i := 2) S.nd) ne_name
  (r_one (r_if (b_tcmp (o_is) (r_call tkD (ok_least_losing t) (hr.mono (by decide)) (by rfl) t.g_least_losing t.F_least_losing.kp t.b_least_losing (r_acons (r_var (pv 0)) (r_acons (r_var (pv 2)) r_anil)) (by exact (alen_cons (alen_cons alen_nil)))) (r_const pe_non rfl))
  (r_one (r_ex (r_append (pe_bm PySem.F.plainAttrs_list PySem.F.slot_list_append PySem.F.type_list_append mt_append (pv 1) (r_acons (r_var (pv 2)) r_anil)))))
  r_nil)))
  (r_one (r_ret (b_ix (o_idx t.hK) (r_var (pv 1)) (b_un o_neg (r_const pe_int rfl)))))))
theorem ok_law (t : Tie K mg G) : FnG P w K mg base 7 t.f_law t.fd_law ["_law_script"] (spA G 1 D_law) :=
  have S := S_law
  def_okA t.F_law S rfl fun cdv A outer s H E z hr =>
  (r_cons (set_at (fl := .ow) (i := 1) S.nd (r_call tkD (ok_law_begin t) (hr.mono (by decide)) (by rfl) t.g_law_begin t.F_law_begin.kp t.b_law_begin (r_acons (r_var (pv 0)) r_anil) (by exact (alen_cons alen_nil))))
  (r_cons (r_for paD rfl (r_irange1 rfl t.n_range (r_acons (b_cb (o_max rfl) t.n_max (r_acons (r_const pe_int rfl) (r_acons (b_cb (o_min rfl) t.n_min (r_acons (r_const pe_int rfl) (r_acons (b_cb (o_len t.hK) t.n_len (r_acons (r_var (pv 0)) r_anil)) r_anil))) r_anil))) r_anil)) (g_at (i := 2) S.nd) ne_name
  (r_cons (set_at (fl := .fz) (i := 3) S.nd (r_callM tkD (ok_law_trail_row t) (hr.mono (by decide)) (by rfl) t.g_law_trail_row t.F_law_trail_row.kp t.b_law_trail_row (pv 1) r_anil (by exact alen_nil)))
  (r_cons (r_par (i := 4) (j := 5) rfl S.nd rfl rfl (by decide) rfl rfl (r_acons (r_make tkD t.mk_TrailRule (ok_TrailRule_init t) (hr.mono (by decide)) t.cm_TrailRule (by rfl) t.gc_TrailRule t.b_TrailRule_init (r_acons (b_ix (o_idx t.hK) (r_var (pv 3)) (r_const pe_int rfl)) (r_acons (b_ix (o_idx t.hK) (r_var (pv 3)) (r_const pe_int rfl)) r_anil)) (by exact (alen_cons (alen_cons alen_nil)))) (r_acons (r_lst (r_acons (r_const pe_int rfl) r_anil)) r_anil)))
  (r_cons (r_for paD rfl (r_irange2 rfl t.n_range (r_acons (r_const pe_int rfl) (r_acons (r_const pe_int rfl) r_anil))) (g_at (i := 6) S.nd) ne_name
  (r_cons (set_at (fl := .fz) (i := 7) S.nd (r_tup (r_acons (b_ix (o_idx t.hK) (r_var (pv 3)) (r_const pe_int rfl)) (r_acons (b_ix (o_idx t.hK) (r_var (pv 3)) (r_const pe_int rfl)) (r_acons (r_var (pv 6)) r_anil)))))
  (r_cons (set_at (fl := .fz) (i := 8) S.nd (r_call tkD (ok_law_trail_losing t) (hr.mono (by decide)) (by rfl) t.g_law_trail_losing t.F_law_trail_losing.kp t.b_law_trail_losing (r_acons (r_var (pv 7)) r_anil) (by exact (alen_cons alen_nil))))
  (r_cons (r_if (b_tcmp (o_ne hr t.hK) (b_cb (o_repr hr t.hK) t.n_repr (r_acons (r_lst (r_acons (r_call tkD (ok_least_losing t) (hr.mono (by decide)) (by rfl) t.g_least_losing t.F_least_losing.kp t.b_least_losing (r_acons (r_var (pv 4)) (r_acons (r_var (pv 6)) r_anil)) (by exact (alen_cons (alen_cons alen_nil)))) (r_acons (r_callK0 tkD (ok_least_losing t) (hr.mono (by decide)) (by rfl) t.g_least_losing t.F_least_losing.kp t.kb_least_losing_0_wait_rule (r_kcons (r_var (pv 6)) (r_kcons (r_var (pv 4)) r_knil)) (by exact (alen_cons (alen_cons alen_nil)))) r_anil))) r_anil)) (b_cb (o_repr hr t.hK) t.n_repr (r_acons (r_lst (r_acons (r_var (pv 8)) (r_acons (r_var (pv 8)) r_anil))) r_anil)))
  (r_one (r_ret (r_const pe_bl rfl)))
  r_nil)
  (r_cons (set_at (fl := .fz) (i := 5) S.nd (b_bin (o_add t.hK) (r_var (pv 5)) (b_bin (o_mul) (r_lst (r_acons (r_var (pv 6)) r_anil)) (b_ct (o_int) t.n_int (r_acons (b_cmp (o_is) (r_var (pv 8)) (r_const pe_non rfl)) r_anil)))))
  (r_cons (set_at (fl := .fz) (i := 8) S.nd (r_call tkD (ok_law_trail_stuck t) (hr.mono (by decide)) (by rfl) t.g_law_trail_stuck t.F_law_trail_stuck.kp t.b_law_trail_stuck (r_acons (r_var (pv 7)) r_anil) (by exact (alen_cons alen_nil))))
  (r_one (r_if (b_tcmp (o_ne hr t.hK) (b_cb (o_repr hr t.hK) t.n_repr (r_acons (r_lst (r_acons (r_call tkD (ok_least_stuck t) (hr.mono (by decide)) (by rfl) t.g_least_stuck t.F_least_stuck.kp t.b_least_stuck (r_acons (r_var (pv 4)) (r_acons (r_var (pv 6)) r_anil)) (by exact (alen_cons (alen_cons alen_nil)))) (r_acons (r_callK0 tkD (ok_least_stuck t) (hr.mono (by decide)) (by rfl) t.g_least_stuck t.F_least_stuck.kp t.kb_least_stuck_0_wait_rule (r_kcons (r_var (pv 6)) (r_kcons (r_var (pv 4)) r_knil)) (by exact (alen_cons (alen_cons alen_nil)))) r_anil))) r_anil)) (b_cb (o_repr hr t.hK) t.n_repr (r_acons (r_lst (r_acons (r_var (pv 8)) (r_acons (r_var (pv 8)) r_anil))) r_anil)))
  (r_one (r_ret (r_const pe_bl rfl)))
  r_nil))))))))
  (r_one (r_if (b_tcmp (o_ne hr t.hK) (b_cb (o_repr hr t.hK) t.n_repr (r_acons (r_lst (r_acons (r_call tkD (ok_most_wait t) (hr.mono (by decide)) (by rfl) t.g_most_wait t.F_most_wait.kp t.b_most_wait (r_acons (r_var (pv 4)) r_anil) (by exact (alen_cons alen_nil))) (r_acons (r_callK0 tkD (ok_most_wait t) (hr.mono (by decide)) (by rfl) t.g_most_wait t.F_most_wait.kp t.kb_most_wait_0_rule (r_kcons (r_var (pv 4)) r_knil) (by exact (alen_cons alen_nil))) r_anil))) r_anil)) (b_cb (o_repr hr t.hK) t.n_repr (r_acons (b_bin (o_mul) (r_lst (r_acons (b_ix (o_idx t.hK) (r_var (pv 5)) (b_un o_neg (r_const pe_int rfl))) r_anil)) (r_const pe_int rfl)) r_anil)))
  (r_one (r_ret (r_const pe_bl rfl)))
  r_nil))))))
  (r_one (r_ret (r_const pe_bl rfl)))))
end
end Lk55
namespace Lk55
open PySem PySem.Spec PyProof.Rows L2 VL

abbrev IL (l : List Int) : List D := l.map D.int
def rowD (l : List Int) (g w : Int) : D := .tup [.lst (IL l), .int g, .int w]
def ruleD (l : List Int) (g : Int) : D := .ins 3 [("own_listed", .tup (IL l)), ("own_growth", .int g)]
structure Ok (l : List Int) (g w : Int) : Prop where
  ne : l ≠ []
  len : l.length ≤ 4
  b : ∀ x ∈ l, 0 ≤ x ∧ x ≤ 40
  g0 : 0 ≤ g
  g1 : g ≤ 10
  w0 : 1 ≤ w
  w1 : w ≤ 5
def tk (l : List Int) (g : Int) (k : Nat) : Int := if k < l.length then l.getD k 0 else l.getD (l.length - 1) 0 + g * ((k : Int) - ((l.length - 1 : Nat) : Int))
theorem at_l {l : List Int} {k : Nat} (h : k < l.length) : atI (IL l) (k : Int) = some (.int (l.getD k 0)) := by
  refine atI_nat ?_
  simp [h]
theorem isnum_eq (n : Int) : D_is_number [some (.int n, .fz)] = .ok (.bl true, .fz) := by
  simp [D_is_number, m_is_number, bodyEnv]
theorem islist_eq (l : List D) : D_is_list [some (.lst l, .fz)] = .ok (.bl true, .fz) := by
  simp [D_is_list, m_is_list, bodyEnv]
theorem numin_eq {n a b : Int} (h1 : a ≤ n) (h2 : n ≤ b) : D_is_number_in [some (.int n, .fz), some (.int a, .fz), some (.int b, .fz)] = .ok (.bl true, .fz) := by
  simp [D_is_number_in, m_is_number_in, bodyEnv, VL.argsOk, D.fzOk, isnum_eq, chainM, chainK, h1, h2]
theorem init_eq {l : List Int} {g : Int} (hl : l ≠ []) (h4 : l.length ≤ 4) (hb : ∀ x ∈ l, 0 ≤ x ∧ x ≤ 40) (g0 : 0 ≤ g) (g1 : g ≤ 10) :
    D_TrailRule_init [some (.ins 3 [], .pn), some (.lst (IL l), .fz), some (.int g, .fz)] = .ok (.non, .fz, ruleD l g) := by
  have hz : l.length ≤ sizeLine := by rw [sizeLine_eq]; omega
  have l1 : (1 : Int) ≤ l.length := by cases l with
    | nil => exact absurd rfl hl
    | cons _ _ => simp; omega
  have l4 : ((l.length : Nat) : Int) ≤ 4 := by omega
  have hne : ¬ (("own_listed" : Str) = "own_growth") := by decide
  have ea : blsOf (l.map fun _ => D.bl true) = some (l.map fun _ => true) := by
    clear hl h4 hb hz l1 l4
    induction l with
    | nil => rfl
    | cons x l ih => simp [blsOf, ih]
  simp [D_TrailRule_init, m_TrailRule_init, bodyEnv, VL.argsOk, D.fzOk, islist_eq, chainM, chainK, l1, l4, wipable, slotFree, hz, wipeR]
  rw [lcS_map D.int (fun n => true) (fun n => .bl true) l (fun x hx => ?_)]
  · rw [List.filter_eq_self.mpr (fun _ _ => rfl)]
    simp [dAll, ea, numin_eq g0 g1, VL.argsOk, D.fzOk, fldK, ownFl, fzAll, putD, hne, pn0, D.isDrw, ruleD]
  · exact ⟨_, by simp [setSlot, canSet]; rfl, _, by simp; rfl, fun _ => ⟨.fz, _, by simp [VL.argsOk, D.fzOk, numin_eq (hb x hx).1 (hb x hx).2]; rfl, by simp, rfl⟩⟩
theorem until_eq {l : List Int} {g w : Int} (h : Ok l g w) (k : Nat) : D_law_until [some (rowD l g w, .fz), some (.int k, .fz)] = .ok (.int (tk l g k), .fz) := by
  have l1 : 0 < l.length := List.length_pos_iff.mpr h.ne
  have h4 := h.len
  have em : (if ((l.length : Nat) : Int) - 1 < (k : Int) then ((l.length : Nat) : Int) - 1 else (k : Int)) = ((min k (l.length - 1) : Nat) : Int) := by split <;> omega
  have ex : (if (k : Int) - ((l.length : Nat) : Int) + 1 > 0 then (k : Int) - ((l.length : Nat) : Int) + 1 else 0) = (((k - (l.length - 1) : Nat)) : Int) := by split <;> omega
  have hm : ∀ x : Int, CMul g x := fun x => .inl ⟨by have := h.g0; omega, by have := h.g1; omega⟩
  have ea : atI (IL l) ((min k (l.length - 1) : Nat) : Int) = some (.int (l.getD (min k (l.length - 1)) 0)) := at_l (by omega)
  simp only [D_law_until, m_law_until, rowD]
  simp [bodyEnv, setSlot, canSet, em, ex, ea, hm]
  unfold tk
  by_cases c : k < l.length
  · rw [if_pos c]
    have e1 : min k (l.length - 1) = k := by omega
    have e2 : k - (l.length - 1) = 0 := by omega
    simp [e1, e2]
  · rw [if_neg c]
    have e1 : min k (l.length - 1) = l.length - 1 := by omega
    have e2 : ((k - (l.length - 1) : Nat) : Int) = (k : Int) - ((l.length - 1 : Nat) : Int) := by omega
    rw [e1, e2]; simp
@[simp] theorem fld_l {l : List Int} {g : Int} : dFld [3] "own_listed" (ruleD l g) = some (.tup (IL l), .fz) := Eq.trans rfl rfl
@[simp] theorem fld_g {l : List Int} {g : Int} : dFld [3] "own_growth" (ruleD l g) = some (.int g, .fz) := Eq.trans rfl rfl
@[simp] theorem isi_r1 {l : List Int} {g : Int} : dIsi tab_TrailRule (ruleD l g) = some (.bl true, .fz) := Eq.trans rfl rfl
@[simp] theorem isi_r2 {l : List Int} {g : Int} : dIsi tab_TrailRule_WayRule (ruleD l g) = some (.bl true, .fz) := Eq.trans rfl rfl
@[simp] theorem fz_rule {l : List Int} {g : Int} : (ruleD l g).fzOk = true := Eq.trans rfl rfl
@[simp] theorem fz_int {n : Int} : (D.int n).fzOk = true := Eq.trans rfl rfl
@[simp] theorem fz_row {l : List Int} {g w : Int} : (rowD l g w).fzOk = true := Eq.trans rfl rfl
theorem tick_eq {l : List Int} {g w : Int} (h : Ok l g w) (k : Nat) : D_tick_by [some (ruleD l g, .fz), some (.int k, .fz)] = .ok (.int (tk l g k), .fz) := by
  have l1 : 0 < l.length := List.length_pos_iff.mpr h.ne
  have h4 := h.len
  have em : ((l.length : Nat) : Int) - 1 = ((l.length - 1 : Nat) : Int) := by omega
  have hm : ∀ x : Int, CMul g x := fun x => .inl ⟨by have := h.g0; omega, by have := h.g1; omega⟩
  have ea : atI (IL l) ((l.length - 1 : Nat) : Int) = some (.int (l.getD (l.length - 1) 0)) := at_l (by omega)
  unfold tk
  by_cases c : k < l.length
  · rw [if_pos c]
    have ek : atI (IL l) (k : Int) = some (.int (l.getD k 0)) := at_l c
    have c2 : k ≤ l.length - 1 := by omega
    simp only [D_tick_by, m_tick_by]
    simp [bodyEnv, setSlot, canSet, em, ek, c2]
  · rw [if_neg c]
    have c2 : ¬ k ≤ l.length - 1 := by omega
    simp only [D_tick_by, m_tick_by]
    simp [bodyEnv, setSlot, canSet, em, ea, c2, hm]
theorem wait_eq {w : Int} (h0 : 1 ≤ w) (h1 : w ≤ 5) : D_need_wait [some (.int w, .fz)] = .ok (.non, .fz) := by
  simp [D_need_wait, m_need_wait, bodyEnv, VL.argsOk, numin_eq h0 h1]
theorem need_eq {l : List Int} {g w : Int} (h : Ok l g w) : D_need_rule [some (ruleD l g, .fz), some (.int w, .fz)] = .ok (.non, .fz) := by
  simp [D_need_rule, m_need_rule, bodyEnv, VL.argsOk, wait_eq h.w0 h.w1]
theorem tl_1 {R : D} {w a b : Int} {k : Nat} (h2 : R.fzOk = true) (t0 : D_tick_by [some (R, .fz), some (.int k, .fz)] = .ok (.int a, .fz)) (t1 : D_tick_by [some (R, .fz), some (.int (k + 1), .fz)] = .ok (.int b, .fz)) (c : ¬ b < a + w) : mb_trail_losing_1 [some (R, .fz), some (.int w, .fz), some (.int k, .fz)] = .ok (.nx [some (R, .fz), some (.int w, .fz), some (.int k, .fz)]) := by
  simp [mb_trail_losing_1, VL.argsOk, t0, t1, c, h2, fz_int]
theorem tl_2 {R : D} {w a b : Int} {k : Nat} (h2 : R.fzOk = true) (t0 : D_tick_by [some (R, .fz), some (.int k, .fz)] = .ok (.int a, .fz)) (t1 : D_tick_by [some (R, .fz), some (.int (k + 1), .fz)] = .ok (.int b, .fz)) (c : b < a + w) : mb_trail_losing_1 [some (R, .fz), some (.int w, .fz), some (.int k, .fz)] = .ok (.rt (.int (k + 2)) .fz [some (R, .fz), some (.int w, .fz), some (.int k, .fz)]) := by
  simp [mb_trail_losing_1, VL.argsOk, t0, t1, c, h2, fz_int]
theorem tl_0 {R : D} {L : List D} {w : Int} (hl : dFld [3] "own_listed" R = some (.tup L, .fz)) : aC true (xApp (f1 dLen) (aC true (xAp1 (dFld [3] "own_listed") (xV 0)) aN)) aN [some (R, .fz), some (.int w, .fz), none] = .ok ([(.int L.length, .fz)], [some (R, .fz), some (.int w, .fz), none]) := by
  simp [hl]
theorem tl_3 {R : D} {L ds : List D} {w : Int} {ρ : VL.Env} (hl : dFld [3] "own_listed" R = some (.tup L, .fz)) (rk : rngK1 [(.int L.length, .fz)] [some (R, .fz), some (.int w, .fz), none] = .ok (ds, false, [some (R, .fz), some (.int w, .fz), none])) (e' : forL (gNm 2) mb_trail_losing_1 ds [some (R, .fz), some (.int w, .fz), none] = .ok (.nx ρ)) : D_trail_losing [some (R, .fz), some (.int w, .fz)] = .ok (.non, .fz) :=
  dA_rt (ρ1 := ρ) ((sSeq_nx ((sFor_1 (tl_0 hl) rk).trans e')).trans (by simp)) (by simp)
theorem tl_4 {R : D} {L ds : List D} {w k : Int} {ρ : VL.Env} (hl : dFld [3] "own_listed" R = some (.tup L, .fz)) (rk : rngK1 [(.int L.length, .fz)] [some (R, .fz), some (.int w, .fz), none] = .ok (ds, false, [some (R, .fz), some (.int w, .fz), none])) (e' : forL (gNm 2) mb_trail_losing_1 ds [some (R, .fz), some (.int w, .fz), none] = .ok (.rt (.int k) .fz ρ)) : D_trail_losing [some (R, .fz), some (.int w, .fz)] = .ok (.int k, .fz) :=
  dA_rt (ρ1 := ρ) (sSeq_rt ((sFor_1 (tl_0 hl) rk).trans e')) (by simp)
theorem t_losing_gen {R : D} {L : List D} {w : Int} {T : Nat → Int} {o : Option Nat} (h2 : R.fzOk = true) (hl : dFld [3] "own_listed" R = some (.tup L, .fz)) (ro : L.length < 1000000) (ht : ∀ k : Nat, D_tick_by [some (R, .fz), some (.int k, .fz)] = .ok (.int (T k), .fz)) (ho : (List.range L.length).find? (fun k => decide (T (k + 1) < T k + w)) = o) :
    D_trail_losing [some (R, .fz), some (.int w, .fz)] = .ok (oI (o.map (· + 2)), .fz) := by
  obtain ⟨f1, f2⟩ := forL_find (g := gNm 2) (body := mb_trail_losing_1) (fun (k : Nat) => D.int k) (fun k => decide (T (k + 1) < T k + w)) (fun k => .int ((k : Int) + 2)) (fun ρ => ∃ s, ρ = [some (R, .fz), some (.int w, .fz), s] ∧ IsI s) (fun k ρ hI => by
    obtain ⟨s, rfl, hs⟩ := hI
    have cs : canSet [some (R, .fz), some (.int w, .fz), s] 2 = true := hs.set
    have t1 := ht (k + 1)
    rw [show ((k + 1 : Nat) : Int) = (k : Int) + 1 by omega] at t1
    exact ⟨[some (R, .fz), some (.int w, .fz), some (.int k, .fz)], by simp [setSlot, cs], fun c => ⟨_, tl_1 h2 (ht k) t1 (by simpa using c), _, rfl, .inr ⟨_, rfl⟩⟩, fun c => ⟨_, tl_2 h2 (ht k) t1 (by simpa using c)⟩⟩) (List.range L.length) [some (R, .fz), some (.int w, .fz), none] ⟨none, rfl, .inl rfl⟩
  rw [ho] at f1 f2
  cases o with
  | some k =>
    obtain ⟨ρ', e'⟩ := f1 k rfl
    exact tl_4 hl (rngK1_len ro) e'
  | none =>
    obtain ⟨ρ', e', _⟩ := f2 rfl
    exact tl_3 hl (rngK1_len ro) e'
def cL (l : List Int) (g w : Int) (k : Nat) : Bool := decide (tk l g (k + 1) < tk l g k + w)
def lose (l : List Int) (g w : Int) : Option Nat := ((List.range l.length).find? (cL l g w)).map (· + 2)
theorem len_il (l : List Int) : (IL l).length = l.length := List.length_map _
theorem rng_il {l : List Int} (h : l.length ≤ 4) : (IL l).length < 1000000 := by
  rw [len_il]; omega
theorem t_losing_eq {l : List Int} {g w : Int} (h : Ok l g w) : D_trail_losing [some (ruleD l g, .fz), some (.int w, .fz)] = .ok (oI (lose l g w), .fz) :=
  t_losing_gen (T := tk l g) (L := IL l) rfl rfl (rng_il h.len) (tick_eq h) (by rw [len_il]; rfl)
theorem losing_gen {R r w : D} (h1 : dIsi tab_TrailRule R = some (.bl true, .fz)) (h2 : R.fzOk = true) (hw : w.fzOk = true) (hn : D_need_rule [some (R, .fz), some (w, .fz)] = .ok (.non, .fz)) (ht : D_trail_losing [some (R, .fz), some (w, .fz)] = .ok (r, .fz)) : D_least_losing [some (R, .fz), some (w, .fz)] = .ok (r, .fz) := by
  simp [D_least_losing, m_least_losing, bodyEnv, VL.argsOk, hn, ht, h1, h2, hw]
theorem losing_eq {l : List Int} {g w : Int} (h : Ok l g w) : D_least_losing [some (ruleD l g, .fz), some (.int w, .fz)] = .ok (oI (lose l g w), .fz) := losing_gen rfl rfl rfl (need_eq h) (t_losing_eq h)
/-! the law's own reckoning -/
theorem ll_ret {r0 r1 r3 : Slot} {gr : List Int} {k : Int} : sRet (xIfE (xTst (xAp2 true dNe (xV 2) (xLst aN))) (xAp2 true dAdd (xAp2 true dIdx (xV 2) (xC (.int 0))) (xC (.int k))) (xC (.non))) [r0, r1, some (.lst (IL gr), .fz), r3] = .ok (.rt (match gr with | [] => .non | a :: _ => .int (a + k)) .fz [r0, r1, some (.lst (IL gr), .fz), r3]) := by
  have z : 0 ≤ sizeLine := Nat.zero_le _
  have n1 := dNe_nil gr
  cases gr with
  | nil => simp at n1; simp [fzAll, n1]
  | cons a gr => simp at n1; simp [fzAll, n1]
theorem ll_lc {l : List Int} {g w : Int} (h : Ok l g w) {n : Nat} : lcS (gNm 3) (xTst (xAp2 true dGt (xAp2 true dAdd (xCall D_law_until (aC true (xV 0) (aC true (xV 3) aN))) (xV 1)) (xCall D_law_until (aC true (xV 0) (aC true (xAp2 true dAdd (xV 3) (xC (.int 1))) aN))))) (xV 3) [some (rowD l g w, .fz), some (.int w, .fz), none, none] ((List.range n).map fun (k : Nat) => D.int k) = .ok (((List.range n).filter (cL l g w)).map fun (k : Nat) => D.int k) :=
  lcS_map (fun (k : Nat) => D.int k) (cL l g w) (fun (k : Nat) => D.int k) (List.range n) fun k _ => by
    have t0 := until_eq h k
    have t1 := until_eq h (k + 1)
    rw [show ((k + 1 : Nat) : Int) = (k : Int) + 1 by omega] at t1
    have fz := fz_row (l := l) (g := g) (w := w)
    generalize rowD l g w = R at *
    unfold cL
    generalize tk l g (k + 1) = b at *
    generalize tk l g k = a at *
    exact ⟨[some (R, .fz), some (.int w, .fz), none, some (.int k, .fz)], by simp [setSlot, canSet], [some (R, .fz), some (.int w, .fz), none, some (.int k, .fz)], by simp [VL.argsOk, t0, t1, fz], fun _ => ⟨.fz, [some (R, .fz), some (.int w, .fz), none, some (.int k, .fz)], by simp, by simp, rfl⟩⟩
theorem map_cast (F : List Nat) : (F.map fun (k : Nat) => D.int k) = IL (F.map fun (k : Nat) => (k : Int)) := by
  show _ = List.map D.int (List.map _ F)
  rw [List.map_map]; rfl
theorem row_w {l : List Int} {g w : Int} : dIdx (rowD l g w) (.int 2) = some (.int w, .fz) := rfl
theorem row_1 {l : List Int} {g w : Int} : dIdx (rowD l g w) (.int 1) = some (.int g, .fz) := rfl
theorem row_0 {l : List Int} {g w : Int} : dIdx (rowD l g w) (.int 0) = some (.lst (IL l), .fz) := rfl
theorem fz_il (gr : List Int) : (D.lst (IL gr)).fzOk = true := rfl
theorem small60 {n : Nat} (h : n ≤ 60) {α : Type} {f : Nat → α} : ((List.range n).map f).length ≤ sizeLine := by
  rw [List.length_map, List.length_range, sizeLine_eq]; omega
theorem head_of {F : List Nat} {k : Int} : (match F.map fun (k : Nat) => (k : Int) with | [] => D.non | a :: _ => .int (a + k)) = match F.head? with | none => D.non | some a => .int ((a : Int) + k) := by cases F <;> rfl
theorem llosing_eq {l : List Int} {g w : Int} (h : Ok l g w) : D_law_trail_losing [some (rowD l g w, .fz)] = .ok (oI (((List.range 60).find? (cL l g w)).map (· + 2)), .fz) := by
  have rk : rngK1 [(.int 60, .fz)] [some (rowD l g w, .fz), some (.int w, .fz), none, none] = .ok ((List.range 60).map fun (k : Nat) => D.int k, false, [some (rowD l g w, .fz), some (.int w, .fz), none, none]) := rngK1_len (n := 60) (by decide)
  have hz : ((List.range 60).map fun (k : Nat) => D.int k).length ≤ sizeLine := small60 (Nat.le_refl _)
  have e2 := ll_lc h (n := 60)
  rw [map_cast ((List.range 60).filter (cL l g w))] at e2
  rw [← List.head?_filter]
  generalize (List.range 60).map (fun (k : Nat) => D.int k) = ds at *
  generalize (List.range 60).filter (cL l g w) = F at *
  have r : sRet (xIfE (xTst (xAp2 true dNe (xV 2) (xLst aN))) (xAp2 true dAdd (xAp2 true dIdx (xV 2) (xC (.int 0))) (xC (.int 2))) (xC (.non))) [some (rowD l g w, .fz), some (.int w, .fz), some (.lst (IL (F.map fun (k : Nat) => (k : Int))), .fz), none] = .ok (.rt (oI (F.head?.map (· + 2))) .fz [some (rowD l g w, .fz), some (.int w, .fz), some (.lst (IL (F.map fun (k : Nat) => (k : Int))), .fz), none]) := by
    rw [ll_ret, head_of]
    cases F <;> rfl
  have e1 : sSet .fz 1 (xAp2 true dIdx (xV 0) (xC (.int 2))) [some (rowD l g w, .fz), none, none, none] = .ok (.nx [some (rowD l g w, .fz), some (.int w, .fz), none, none]) := by
    have := row_w (l := l) (g := g) (w := w)
    generalize rowD l g w = R at *
    simp [this, setSlot, canSet]
  have ea : aC true (xC (.int 60)) aN [some (rowD l g w, .fz), some (.int w, .fz), none, none] = .ok ([(.int 60, .fz)], [some (rowD l g w, .fz), some (.int w, .fz), none, none]) := rfl
  exact dA_rt ((sSeq_nx e1).trans ((sSeq_nx (sSet_ok (xLc_ok (iRng_1 ea rk) rfl hz e2) rfl)).trans r)) (by simp)
/-! stuck -/
def sS (l : List Int) (g w : Int) (k : Nat) : Bool := decide (tk l g k < w * k)
theorem ls_ret {r0 r3 : Slot} {gr : List Int} {k : Int} : sRet (xIfE (xTst (xAp2 true dNe (xV 1) (xLst aN))) (xAp2 true dAdd (xAp2 true dIdx (xV 1) (xC (.int 0))) (xC (.int k))) (xC (.non))) [r0, some (.lst (IL gr), .fz), r3] = .ok (.rt (match gr with | [] => .non | a :: _ => .int (a + k)) .fz [r0, some (.lst (IL gr), .fz), r3]) := by
  have z : 0 ≤ sizeLine := Nat.zero_le _
  have n1 := dNe_nil gr
  cases gr with
  | nil => simp at n1; simp [fzAll, n1]
  | cons a gr => simp at n1; simp [fzAll, n1]
theorem ls_lc {l : List Int} {g w : Int} (h : Ok l g w) {n : Nat} : lcS (gNm 2) (xTst (xAp2 true dLt (xCall D_law_until (aC true (xV 0) (aC true (xV 2) aN))) (xAp2 true dMul (xAp2 true dIdx (xV 0) (xC (.int 2))) (xV 2)))) (xV 2) [some (rowD l g w, .fz), none, none] ((List.range n).map fun (k : Nat) => D.int k) = .ok (((List.range n).filter (sS l g w)).map fun (k : Nat) => D.int k) :=
  lcS_map (fun (k : Nat) => D.int k) (sS l g w) (fun (k : Nat) => D.int k) (List.range n) fun k _ => by
    have t0 := until_eq h k
    have fz := fz_row (l := l) (g := g) (w := w)
    have rw' := row_w (l := l) (g := g) (w := w)
    have hm : CMul w k := .inl ⟨by have := h.w0; omega, by have := h.w1; omega⟩
    generalize rowD l g w = R at *
    unfold sS
    generalize tk l g k = a at *
    exact ⟨[some (R, .fz), none, some (.int k, .fz)], by simp [setSlot, canSet], [some (R, .fz), none, some (.int k, .fz)], by simp [VL.argsOk, t0, fz, rw', hm], fun _ => ⟨.fz, [some (R, .fz), none, some (.int k, .fz)], by simp, by simp, rfl⟩⟩
theorem lstuck_eq {l : List Int} {g w : Int} (h : Ok l g w) : D_law_trail_stuck [some (rowD l g w, .fz)] = .ok (oI (((List.range 60).find? (sS l g w)).map (· + 1)), .fz) := by
  have rk : rngK1 [(.int 60, .fz)] [some (rowD l g w, .fz), none, none] = .ok ((List.range 60).map fun (k : Nat) => D.int k, false, [some (rowD l g w, .fz), none, none]) := rngK1_len (n := 60) (by decide)
  have hz : ((List.range 60).map fun (k : Nat) => D.int k).length ≤ sizeLine := small60 (Nat.le_refl _)
  have e2 := ls_lc h (n := 60)
  rw [map_cast ((List.range 60).filter (sS l g w))] at e2
  rw [← List.head?_filter]
  generalize (List.range 60).map (fun (k : Nat) => D.int k) = ds at *
  generalize (List.range 60).filter (sS l g w) = F at *
  have r : sRet (xIfE (xTst (xAp2 true dNe (xV 1) (xLst aN))) (xAp2 true dAdd (xAp2 true dIdx (xV 1) (xC (.int 0))) (xC (.int 1))) (xC (.non))) [some (rowD l g w, .fz), some (.lst (IL (F.map fun (k : Nat) => (k : Int))), .fz), none] = .ok (.rt (oI (F.head?.map (· + 1))) .fz [some (rowD l g w, .fz), some (.lst (IL (F.map fun (k : Nat) => (k : Int))), .fz), none]) := by
    rw [ls_ret, head_of]
    cases F <;> rfl
  have ea : aC true (xC (.int 60)) aN [some (rowD l g w, .fz), none, none] = .ok ([(.int 60, .fz)], [some (rowD l g w, .fz), none, none]) := rfl
  exact dA_rt ((sSeq_nx (sSet_ok (xLc_ok (iRng_1 ea rk) rfl hz e2) rfl)).trans r) (by simp)
def stkD (w g y : Int) : Option Nat → D
  | some k => .int ((k : Int) + 2)
  | none => if w ≤ g then .non else .int (y.fdiv (w - g) + 2)
section
variable {R : D} {L : List D} {w g x : Int} {n : Nat}
theorem ts_1 {a k : Int} {s4 : Slot} (h2 : R.fzOk = true) (t0 : D_tick_by [some (R, .fz), some (.int k, .fz)] = .ok (.int a, .fz)) (hm : CMul w k) (c : ¬ a < w * k) : mb_trail_stuck_1 [some (R, .fz), some (.int w, .fz), some (.int n, .fz), some (.int k, .fz), s4] = .ok (.nx [some (R, .fz), some (.int w, .fz), some (.int n, .fz), some (.int k, .fz), s4]) := by
  simp [mb_trail_stuck_1, VL.argsOk, t0, c, h2, fz_int, hm]
theorem ts_2 {a k : Int} {s4 : Slot} (h2 : R.fzOk = true) (t0 : D_tick_by [some (R, .fz), some (.int k, .fz)] = .ok (.int a, .fz)) (hm : CMul w k) (c : a < w * k) : mb_trail_stuck_1 [some (R, .fz), some (.int w, .fz), some (.int n, .fz), some (.int k, .fz), s4] = .ok (.rt (.int (k + 1)) .fz [some (R, .fz), some (.int w, .fz), some (.int n, .fz), some (.int k, .fz), s4]) := by
  simp [mb_trail_stuck_1, VL.argsOk, t0, c, h2, fz_int, hm]
theorem ts_0 (hl : dFld [3] "own_listed" R = some (.tup L, .fz)) (hn : L.length = n + 1) : sSet .fz 2 (xAp2 true dSub (xApp (f1 dLen) (aC true (xAp1 (dFld [3] "own_listed") (xV 0)) aN)) (xC (.int 1))) [some (R, .fz), some (.int w, .fz), none, none, none] = .ok (.nx [some (R, .fz), some (.int w, .fz), some (.int n, .fz), none, none]) := by
  have e : ((L.length : Nat) : Int) - 1 = (n : Int) := by omega
  simp [hl, e, setSlot, canSet]
theorem ts_a {r0 r1 r3 r4 : Slot} : aC true (xC (.int 1)) (aC true (xAp2 true dAdd (xV 2) (xC (.int 1))) aN) [r0, r1, some (.int n, .fz), r3, r4] = .ok ([(.int 1, .fz), (.int ((n : Int) + 1), .fz)], [r0, r1, some (.int n, .fz), r3, r4]) := by
  simp
theorem ts_5 {s3 : Slot} (hg : dFld [3] "own_growth" R = some (.int g, .fz)) (c : w ≤ g) {t : SE} : sSeq (sIf (xTst (xAp2 true dGe (xAp1 (dFld [3] "own_growth") (xV 0)) (xV 1))) (sRet (xC (.non))) sNil) t [some (R, .fz), some (.int w, .fz), some (.int n, .fz), s3, none] = .ok (.rt .non .fz [some (R, .fz), some (.int w, .fz), some (.int n, .fz), s3, none]) := by
  simp [hg, c]
theorem ts_6 {s3 : Slot} (hl : dFld [3] "own_listed" R = some (.tup L, .fz)) (hg : dFld [3] "own_growth" R = some (.int g, .fz)) (hx : atI L (n : Int) = some (.int x)) (c : ¬ w ≤ g) (hm : CMul g n) (hd : ∀ y, CDivN y (w - g)) : sSeq (sIf (xTst (xAp2 true dGe (xAp1 (dFld [3] "own_growth") (xV 0)) (xV 1)))
  (sRet (xC (.non)))
  sNil)
  (sSeq (sSet .fz 4 (xAp2 true dSub (xAp2 true dIdx (xAp1 (dFld [3] "own_listed") (xV 0)) (xV 2)) (xAp2 true dMul (xAp1 (dFld [3] "own_growth") (xV 0)) (xV 2))))
  (sRet (xAp2 true dAdd (xAp2 true dFdiv (xV 4) (xAp2 true dSub (xV 1) (xAp1 (dFld [3] "own_growth") (xV 0)))) (xC (.int 2))))) [some (R, .fz), some (.int w, .fz), some (.int n, .fz), s3, none] = .ok (.rt (.int ((x - g * n).fdiv (w - g) + 2)) .fz [some (R, .fz), some (.int w, .fz), some (.int n, .fz), s3, some (.int (x - g * n), .fz)]) := by
  simp [hg, hl, hx, c, hm, hd, setSlot, canSet]
theorem t_stuck_gen {T : Nat → Int} {o : Option Nat} (h2 : R.fzOk = true) (hl : dFld [3] "own_listed" R = some (.tup L, .fz)) (hg : dFld [3] "own_growth" R = some (.int g, .fz)) (hn : L.length = n + 1) (hn4 : n < 100) (hx : atI L (n : Int) = some (.int x)) (hm : ∀ k, CMul w k) (hmg : CMul g n) (hd : ¬ w ≤ g → ∀ y, CDivN y (w - g)) (ht : ∀ k : Nat, D_tick_by [some (R, .fz), some (.int k, .fz)] = .ok (.int (T k), .fz)) (ho : (List.range n).find? (fun k => decide (T (k + 1) < w * ((k + 1 : Nat) : Int))) = o) :
    D_trail_stuck [some (R, .fz), some (.int w, .fz)] = .ok (stkD w g (x - g * n) o, .fz) := by
  obtain ⟨f1, f2⟩ := forL_find (g := gNm 3) (body := mb_trail_stuck_1) (fun (k : Nat) => D.int (1 + k)) (fun k => decide (T (k + 1) < w * ((k + 1 : Nat) : Int))) (fun k => .int (1 + (k : Int) + 1)) (fun ρ => ∃ s, ρ = [some (R, .fz), some (.int w, .fz), some (.int n, .fz), s, none] ∧ IsI s) (fun k ρ hI => by
    obtain ⟨s, rfl, hs⟩ := hI
    have cs : canSet [some (R, .fz), some (.int w, .fz), some (.int n, .fz), s, none] 3 = true := hs.set
    have t1 := ht (k + 1)
    rw [show ((k + 1 : Nat) : Int) = 1 + (k : Int) by omega] at t1
    refine ⟨[some (R, .fz), some (.int w, .fz), some (.int n, .fz), some (.int (1 + k), .fz), none], by simp [setSlot, cs], fun c => ⟨_, ts_1 h2 t1 (hm _) ?_, _, rfl, .inr ⟨_, rfl⟩⟩, fun c => ⟨_, ts_2 h2 t1 (hm _) ?_⟩⟩
    · rw [show ((k + 1 : Nat) : Int) = 1 + (k : Int) by omega] at c
      simpa using c
    · rw [show ((k + 1 : Nat) : Int) = 1 + (k : Int) by omega] at c
      simpa using c) (List.range n) [some (R, .fz), some (.int w, .fz), some (.int n, .fz), none, none] ⟨none, rfl, .inl rfl⟩
  rw [ho] at f1 f2
  have rk : rngK2 [(.int 1, .fz), (.int ((n : Int) + 1), .fz)] [some (R, .fz), some (.int w, .fz), some (.int n, .fz), none, none] = .ok ((List.range n).map fun (k : Nat) => D.int (1 + k), false, [some (R, .fz), some (.int w, .fz), some (.int n, .fz), none, none]) := rngK2_len (by omega) (by omega) (by omega)
  generalize (List.range n).map (fun (k : Nat) => D.int (1 + k)) = ds at *
  cases o with
  | some k =>
    obtain ⟨ρ', e'⟩ := f1 k rfl
    rw [show (1 + (k : Int) + 1) = (k : Int) + 2 by omega] at e'
    exact dA_rt (ρ1 := ρ') ((sSeq_nx (ts_0 hl hn)).trans (sSeq_rt ((sFor_2 ts_a rk).trans e'))) (by simp)
  | none =>
    obtain ⟨ρ', e', s, rfl, _⟩ := f2 rfl
    by_cases c : w ≤ g
    · simp only [stkD, if_pos c]
      exact dA_rt ((sSeq_nx (ts_0 hl hn)).trans ((sSeq_nx ((sFor_2 ts_a rk).trans e')).trans (ts_5 hg c))) (by simp)
    · simp only [stkD, if_neg c]
      exact dA_rt ((sSeq_nx (ts_0 hl hn)).trans ((sSeq_nx ((sFor_2 ts_a rk).trans e')).trans (ts_6 hl hg hx c hmg (hd c)))) (by simp)
end
end Lk55
namespace Lk55
open PySem PySem.Spec PyProof.Rows L2 VL
theorem tk_lt {l : List Int} {g : Int} {k : Nat} (h : k < l.length) : tk l g k = l.getD k 0 := if_pos h
theorem tk_ge {l : List Int} {g : Int} {k : Nat} (h : ¬ k < l.length) : tk l g k = l.getD (l.length - 1) 0 + g * ((k : Int) - ((l.length - 1 : Nat) : Int)) := if_neg h
theorem lose_60 {l : List Int} {g w : Int} (h : Ok l g w) : (List.range 60).find? (cL l g w) = (List.range l.length).find? (cL l g w) := by
  have l1 : 0 < l.length := List.length_pos_iff.mpr h.ne
  have h4 := h.len
  refine find_range (by omega) fun k hk _ hc => ⟨l.length - 1, by omega, ?_⟩
  unfold cL at hc ⊢
  rw [decide_eq_true_eq] at hc ⊢
  rw [tk_ge (by omega), tk_ge (by omega)] at hc
  rw [tk_lt (by omega : l.length - 1 < l.length), tk_ge (by omega)]
  have e1 : g * (((k + 1 : Nat) : Int) - ((l.length - 1 : Nat) : Int)) = g * ((k : Int) - ((l.length - 1 : Nat) : Int)) + g := by
    rw [show ((k + 1 : Nat) : Int) - ((l.length - 1 : Nat) : Int) = ((k : Int) - ((l.length - 1 : Nat) : Int)) + 1 by omega, Int.mul_add, Int.mul_one]
  have e2 : g * (((l.length - 1 + 1 : Nat) : Int) - ((l.length - 1 : Nat) : Int)) = g := by
    rw [show ((l.length - 1 + 1 : Nat) : Int) - ((l.length - 1 : Nat) : Int) = 1 by omega, Int.mul_one]
  rw [e1] at hc
  rw [e2]
  omega
theorem get_b {l : List Int} {g w : Int} (h : Ok l g w) {k : Nat} (hk : k < l.length) : 0 ≤ l.getD k 0 ∧ l.getD k 0 ≤ 40 := by
  have : l.getD k 0 ∈ l := by
    rw [List.getD_eq_getElem?_getD, List.getElem?_eq_getElem hk]
    exact List.getElem_mem hk
  exact h.b _ this
theorem stuck_60 {l : List Int} {g w : Int} (h : Ok l g w) : stkD w g (l.getD (l.length - 1) 0 - g * ((l.length - 1 : Nat) : Int)) ((List.range (l.length - 1)).find? (fun k => decide (tk l g (k + 1) < w * ((k + 1 : Nat) : Int)))) = oI (((List.range 60).find? (sS l g w)).map (· + 1)) := by
  have l1 : 0 < l.length := List.length_pos_iff.mpr h.ne
  have h4 := h.len
  have s0 : sS l g w 0 = false := by
    unfold sS
    rw [decide_eq_false_iff_not, tk_lt l1]
    have := (get_b h l1).1
    have e : w * ((0 : Nat) : Int) = 0 := Int.mul_zero w
    omega
  cases e : (List.range (l.length - 1)).find? (fun k => decide (tk l g (k + 1) < w * ((k + 1 : Nat) : Int))) with
  | some k =>
    rw [List.find?_range_eq_some] at e
    obtain ⟨e1, e2, e3⟩ := e
    have hk : k < l.length - 1 := List.mem_range.mp e2
    have : (List.range 60).find? (sS l g w) = some (k + 1) := by
      rw [List.find?_range_eq_some]
      refine ⟨e1, List.mem_range.mpr (by omega), fun j hj => ?_⟩
      cases j with
      | zero => rw [s0]; rfl
      | succ j => exact e3 j (by omega)
    rw [this]
    exact congrArg D.int (show (k : Int) + 2 = ((k + 1 + 1 : Nat) : Int) by omega)
  | none =>
    rw [List.find?_range_eq_none] at e
    have low : ∀ k, k < l.length → sS l g w k = false := fun k hk => by
      cases k with
      | zero => exact s0
      | succ k =>
        have h1 := e k (by omega)
        show decide (tk l g (k + 1) < w * ((k + 1 : Nat) : Int)) = false
        cases hh : decide (tk l g (k + 1) < w * ((k + 1 : Nat) : Int)) with
        | false => rfl
        | true => rw [hh] at h1; cases h1
    have hx := get_b h (k := l.length - 1) (by omega)
    have top : w * ((l.length - 1 : Nat) : Int) ≤ l.getD (l.length - 1) 0 := by
      have := low (l.length - 1) (by omega)
      unfold sS at this
      rw [decide_eq_false_iff_not, tk_lt (by omega)] at this
      omega
    have hi : ∀ k, ¬ k < l.length → tk l g k = l.getD (l.length - 1) 0 + g * ((k : Int) - ((l.length - 1 : Nat) : Int)) := fun k hk => tk_ge hk
    have g0 := h.g0
    have g1 := h.g1
    have w0 := h.w0
    have w1 := h.w1
    have hs : ∀ k, sS l g w k = decide (tk l g k < w * k) := fun _ => rfl
    have hn : ∃ n : Nat, l.length = n + 1 := ⟨l.length - 1, by omega⟩
    obtain ⟨n, hn⟩ := hn
    rw [hn] at hx top hi low h4 ⊢
    simp only [Nat.add_sub_cancel] at hx top hi low ⊢
    generalize l.getD n 0 = x at *
    clear e
    show (if w ≤ g then D.non else .int ((x - g * (n : Int)).fdiv (w - g) + 2)) = _
    by_cases c : w ≤ g
    · rw [if_pos c]
      have : (List.range 60).find? (sS l g w) = none := by
        rw [List.find?_range_eq_none]
        intro k _
        by_cases hk : k < n + 1
        · rw [low k hk]; rfl
        · rw [hs, hi k hk]
          have m : w * ((k : Int) - n) ≤ g * ((k : Int) - n) := Int.mul_le_mul_of_nonneg_right c (by omega)
          have m2 : w * ((k : Int) - n) = w * k - w * n := Int.mul_sub _ _ _
          simp only [Bool.not_eq_true', decide_eq_false_iff_not]
          omega
      rw [this]; rfl
    · rw [if_neg c]
      have fd : (x - g * n).fdiv (w - g) = (x - g * n) / (w - g) := Int.fdiv_eq_ediv_of_nonneg _ (by omega)
      rw [fd]
      obtain ⟨q, hq⟩ : ∃ q, q = (x - g * n) / (w - g) := ⟨_, rfl⟩
      have hw : w = 1 ∨ w = 2 ∨ w = 3 ∨ w = 4 ∨ w = 5 := by omega
      have hg : g = 0 ∨ g = 1 ∨ g = 2 ∨ g = 3 ∨ g = 4 := by omega
      have key : (n : Int) ≤ q ∧ q ≤ 40 ∧ (∀ k : Int, (n : Int) < k → (x + g * (k - n) < w * k ↔ q < k)) := by
        rcases hw with rfl | rfl | rfl | rfl | rfl <;> rcases hg with rfl | rfl | rfl | rfl | rfl <;> first | (exfalso; omega) | (refine ⟨?_, ?_, fun k hk => ?_⟩ <;> omega)
      rw [← hq]
      obtain ⟨k1, k2, k3⟩ := key
      have : (List.range 60).find? (sS l g w) = some (q + 1).toNat := by
        rw [List.find?_range_eq_some]
        refine ⟨?_, List.mem_range.mpr (by omega), fun j hj => ?_⟩
        · rw [hs, hi _ (by omega), decide_eq_true_eq]
          exact (k3 _ (by omega)).mpr (by omega)
        · by_cases hk : j < n + 1
          · rw [low j hk]; rfl
          · rw [hs, hi j hk]
            simp only [Bool.not_eq_true', decide_eq_false_iff_not]
            intro z
            have := (k3 j (by omega)).mp z
            omega
      rw [this]
      exact congrArg D.int (show q + 2 = (((q + 1).toNat + 1 : Nat) : Int) by omega)
theorem tstuck_eq {l : List Int} {g w : Int} (h : Ok l g w) : D_trail_stuck [some (ruleD l g, .fz), some (.int w, .fz)] = .ok (oI (((List.range 60).find? (sS l g w)).map (· + 1)), .fz) := by
  have l1 : 0 < l.length := List.length_pos_iff.mpr h.ne
  have h4 := h.len
  have := t_stuck_gen (R := ruleD l g) (L := IL l) (w := w) (g := g) (x := l.getD (l.length - 1) 0) (n := l.length - 1) (T := tk l g) rfl rfl rfl (by rw [len_il]; omega) (by omega) (at_l (by omega)) (fun k => .inl ⟨by have := h.w0; omega, by have := h.w1; omega⟩) (.inl ⟨by have := h.g0; omega, by have := h.g1; omega⟩) (fun c y => ⟨by omega, by have := h.w1; have := h.g0; omega⟩) (tick_eq h) rfl
  rw [stuck_60 h] at this
  exact this
theorem stuck_gen {R r w : D} (h1 : dIsi tab_TrailRule R = some (.bl true, .fz)) (h2 : R.fzOk = true) (hw : w.fzOk = true) (hn : D_need_rule [some (R, .fz), some (w, .fz)] = .ok (.non, .fz)) (ht : D_trail_stuck [some (R, .fz), some (w, .fz)] = .ok (r, .fz)) : D_least_stuck [some (R, .fz), some (w, .fz)] = .ok (r, .fz) := by
  simp [D_least_stuck, m_least_stuck, bodyEnv, VL.argsOk, hn, ht, h1, h2, hw]
theorem stuck_eq {l : List Int} {g w : Int} (h : Ok l g w) : D_least_stuck [some (ruleD l g, .fz), some (.int w, .fz)] = .ok (oI (((List.range 60).find? (sS l g w)).map (· + 1)), .fz) := stuck_gen rfl rfl rfl (need_eq h) (tstuck_eq h)
def los (l : List Int) (g w : Int) : Option Nat := ((List.range 60).find? (cL l g w)).map (· + 2)
def stk (l : List Int) (g w : Int) : Option Nat := ((List.range 60).find? (sS l g w)).map (· + 1)
theorem los_eq {l : List Int} {g w : Int} (h : Ok l g w) : D_least_losing [some (ruleD l g, .fz), some (.int w, .fz)] = .ok (oI (los l g w), .fz) := by
  have := losing_eq h
  unfold lose at this
  rw [← lose_60 h] at this
  exact this
theorem small_find {c : Nat → Bool} {j : Nat} (hj : j ≤ 2) {k : Nat} (h : ((List.range 60).find? c).map (· + j) = some k) : k < 128 := by
  cases e : (List.range 60).find? c with
  | none => rw [e] at h; cases h
  | some i =>
    rw [e] at h
    cases h
    rw [List.find?_range_eq_some] at e
    have := List.mem_range.mp e.2.1
    show i + j < 128
    omega
end Lk55
namespace Lk55
open PySem PySem.Spec PyProof.Rows L2 VL
/-! the row -/
theorem row_body {gr ce : List Int} {r t w : Int} {l : List Int} {s3 s4 : Slot} (w0 : 1 ≤ w) (w1 : w ≤ 5) (ne : l ≠ []) (lz : l.length < 100) (lb : ∀ x ∈ l, 0 ≤ x ∧ x ≤ 40) (h4 : IsI s4) :
    ∃ gr' r' t' y s4', mb_law_trail_row_1 [some (.drw gr r ce t, .pn), some (.int w, .fz), some (.lst (IL l), .ow), s3, s4] = .ok (.nx [some (.drw gr' r' ce t', .pn), some (.int w, .fz), some (.lst (IL (l ++ [y])), .ow), s3, s4']) ∧ 0 ≤ y ∧ y ≤ 40 ∧ IsI s4' := by
  obtain ⟨v, gr1, r1, t1, e1, v0, v1⟩ := take_eq (gr := gr) (r := r) (ce := ce) (t := t) (n := 9) (by decide) (by decide)
  obtain ⟨x, gr2, r2, t2, e2, hx⟩ := pick_eq (gr := gr1) (r := r1) (ce := ce) (t := t1) (xs := [.int w, .int w, .int (w - 1), .int (w + 1), .int 0, .int v]) (by simp) (by simp)
  have hm : ∃ m, x = .int m ∧ 0 ≤ m ∧ m ≤ 8 := by
    simp only [List.mem_cons, List.not_mem_nil, or_false] at hx
    rcases hx with rfl | rfl | rfl | rfl | rfl | rfl <;> exact ⟨_, rfl, by omega, by omega⟩
  obtain ⟨m, rfl, m0, m1⟩ := hm
  have z6 : 6 ≤ sizeLine := by rw [sizeLine_eq]; decide
  have zl : l.length < sizeLine := by rw [sizeLine_eq]; omega
  have last : atI (IL l) (-1) = some (.int (l.getLast ne)) := by
    have := atI_last (IL l.dropLast) (D.int (l.getLast ne))
    rw [show IL l.dropLast ++ [D.int (l.getLast ne)] = IL (l.dropLast ++ [l.getLast ne]) by simp, List.dropLast_concat_getLast] at this
    exact this
  have lb' := lb _ (List.getLast_mem ne)
  have cs : canSet [some (.drw gr2 r2 ce t2, .pn), some (.int w, .fz), some (.lst (IL l), .ow), s3, s4] 4 = true := h4.set
  generalize l.getLast ne = z at *
  have e3 : (sSet .fz 4 (xCallM D_law_pick 0 (aC true (xLst (aC false (xV 1) (aC false (xV 1) (aC false (xAp2 true dSub (xV 1) (xC (.int 1))) (aC false (xAp2 true dAdd (xV 1) (xC (.int 1))) (aC false (xC (.int 0)) (aC true (xCallM D_law_take 0 (aC true (xC (.int 9)) aN)) aN))))))) aN))) [some (.drw gr r ce t, .pn), some (.int w, .fz), some (.lst (IL l), .ow), s3, s4] = .ok (.nx [some (.drw gr2 r2 ce t2, .pn), some (.int w, .fz), some (.lst (IL l), .ow), s3, some (.int m, .fz)]) := by
    generalize IL l = L at *
    generalize D_law_pick = DP at *
    generalize D_law_take = DT at *
    simp [ownFl, callMK, VL.argsOk, D.fzOk, D.isDrw, e1, fzAll, z6, e2, setSlot, cs]
  refine ⟨gr2, r2, t2, if z + m < 40 then z + m else 40, some (.int m, .fz), (sSeq_nx e3).trans ?_, by split <;> omega, by split <;> omega, .inr ⟨_, rfl⟩⟩
  have zl' : (IL l).length < sizeLine := by rw [len_il]; exact zl
  rw [show IL (l ++ [if z + m < 40 then z + m else 40]) = IL l ++ [.int (if z + m < 40 then z + m else 40)] by simp]
  generalize IL l = L at *
  simp [ownFl, D.isLst, last, mutK, fzAll, D.fzOk, zl']
theorem trow_eq {gr ce : List Int} {r t : Int} : ∃ l g w gr' r' t', D_law_trail_row [some (.drw gr r ce t, .pn)] = .ok (rowD l g w, .fz, .drw gr' r' ce t') ∧ Ok l g w := by
  obtain ⟨v, gr1, r1, t1, e1, v0, v1⟩ := take_eq (gr := gr) (r := r) (ce := ce) (t := t) (n := 5) (by decide) (by decide)
  obtain ⟨u, gr2, r2, t2, e2, u0, u1⟩ := take_eq (gr := gr1) (r := r1) (ce := ce) (t := t1) (n := 9) (by decide) (by decide)
  obtain ⟨c, gr3, r3, t3, e3, c0, c1⟩ := take_eq (gr := gr2) (r := r2) (ce := ce) (t := t2) (n := 4) (by decide) (by decide)
  obtain ⟨n, rfl⟩ : ∃ n : Nat, c = n := ⟨c.toNat, by omega⟩
  have z1 : 1 ≤ sizeLine := by rw [sizeLine_eq]; decide
  have a1 : sSet .fz 1 (xAp2 false dAdd (xC (.int 1)) (xCallM D_law_take 0 (aC true (xC (.int 5)) aN))) [some (.drw gr r ce t, .pn), none, none, none, none] = .ok (.nx [some (.drw gr1 r1 ce t1, .pn), some (.int (1 + v), .fz), none, none, none]) := by
    generalize D_law_take = DT at *
    simp [ownFl, callMK, VL.argsOk, D.fzOk, D.isDrw, e1, setSlot, canSet]
  have a2 : sSet .ow 2 (xLst (aC true (xCallM D_law_take 0 (aC true (xC (.int 9)) aN)) aN)) [some (.drw gr1 r1 ce t1, .pn), some (.int (1 + v), .fz), none, none, none] = .ok (.nx [some (.drw gr2 r2 ce t2, .pn), some (.int (1 + v), .fz), some (.lst (IL [u]), .ow), none, none]) := by
    generalize D_law_take = DT at *
    simp [ownFl, callMK, VL.argsOk, D.fzOk, D.isDrw, e2, setSlot, canSet, fzAll, z1]
  have a3 : aC true (xCallM D_law_take 0 (aC true (xC (.int 4)) aN)) aN [some (.drw gr2 r2 ce t2, .pn), some (.int (1 + v), .fz), some (.lst (IL [u]), .ow), none, none] = .ok ([(.int n, .fz)], [some (.drw gr3 r3 ce t3, .pn), some (.int (1 + v), .fz), some (.lst (IL [u]), .ow), none, none]) := by
    generalize D_law_take = DT at *
    generalize IL [u] = L at *
    simp [ownFl, callMK, VL.argsOk, D.fzOk, D.isDrw, e3]
  have rk : rngK1 [(.int n, .fz)] [some (.drw gr3 r3 ce t3, .pn), some (.int (1 + v), .fz), some (.lst (IL [u]), .ow), none, none] = .ok ((List.range n).map fun (k : Nat) => D.int k, false, [some (.drw gr3 r3 ce t3, .pn), some (.int (1 + v), .fz), some (.lst (IL [u]), .ow), none, none]) := rngK1_len (by omega)
  have loop : ∃ ρ', forL (gNm 3) mb_law_trail_row_1 ((List.range n).map fun (k : Nat) => D.int k) [some (.drw gr3 r3 ce t3, .pn), some (.int (1 + v), .fz), some (.lst (IL [u]), .ow), none, none] = .ok (.nx ρ') ∧ ∃ gr' r' t' l s3 s4, ρ' = [some (.drw gr' r' ce t', .pn), some (.int (1 + v), .fz), some (.lst (IL l), .ow), s3, s4] ∧ l ≠ [] ∧ l.length ≤ 4 ∧ (∀ x ∈ l, 0 ≤ x ∧ x ≤ 40) := by
    refine forL_map (fun (k : Nat) => D.int k) (fun ys ρ => ∃ gr' r' t' l s3 s4, ρ = [some (.drw gr' r' ce t', .pn), some (.int (1 + v), .fz), some (.lst (IL l), .ow), s3, s4] ∧ l ≠ [] ∧ l.length + ys.length ≤ 4 ∧ (∀ x ∈ l, 0 ≤ x ∧ x ≤ 40) ∧ IsI s3 ∧ IsI s4) (fun q => ∃ ρ', q = .ok (.nx ρ') ∧ ∃ gr' r' t' l s3 s4, ρ' = [some (.drw gr' r' ce t', .pn), some (.int (1 + v), .fz), some (.lst (IL l), .ow), s3, s4] ∧ l ≠ [] ∧ l.length ≤ 4 ∧ (∀ x ∈ l, 0 ≤ x ∧ x ≤ 40)) (fun k ys ρ hI => ?_) (fun ρ hI => ?_) (List.range n) _ ⟨gr3, r3, t3, [u], none, none, rfl, by simp, by simp; omega, by simp; omega, .inl rfl, .inl rfl⟩
    · obtain ⟨gr', r', t', l, s3, s4, rfl, ne, len, lb, h3, h4⟩ := hI
      simp only [List.length_cons] at len
      have cs : canSet [some (.drw gr' r' ce t', .pn), some (.int (1 + v), .fz), some (.lst (IL l), .ow), s3, s4] 3 = true := h3.set
      obtain ⟨gr'', r'', t'', y, s4', e, y0, y1, h4'⟩ := row_body (gr := gr') (r := r') (ce := ce) (t := t') (w := 1 + v) (l := l) (s3 := some (.int k, .fz)) (s4 := s4) (by omega) (by omega) ne (by omega) lb h4
      refine ⟨[some (.drw gr' r' ce t', .pn), some (.int (1 + v), .fz), some (.lst (IL l), .ow), some (.int k, .fz), s4], by simp [setSlot, cs], .inl ⟨_, .inl e, gr'', r'', t'', l ++ [y], _, _, rfl, by simp, by simp; omega, fun x hx => ?_, .inr ⟨_, rfl⟩, h4'⟩⟩
      simp only [List.mem_append, List.mem_singleton] at hx
      rcases hx with hx | rfl
      · exact lb x hx
      · exact ⟨y0, y1⟩
    · obtain ⟨gr', r', t', l, s3, s4, rfl, ne, len, lb, _⟩ := hI
      exact ⟨_, rfl, gr', r', t', l, s3, s4, rfl, ne, by simpa using len, lb⟩
  obtain ⟨ρ', e5, gr4, r4, t4, l, s3, s4, rfl, ne, len, lb⟩ := loop
  obtain ⟨q, gr5, r5, t5, e6, q0, q1⟩ := take_eq (gr := gr4) (r := r4) (ce := ce) (t := t4) (n := 11) (by decide) (by decide)
  obtain ⟨x, gr6, r6, t6, e7, hx⟩ := pick_eq (gr := gr5) (r := r5) (ce := ce) (t := t5) (xs := [.int (1 + v), .int (1 + v), .int (1 + v - 1), .int 0, .int 10, .int q]) (by simp) (by simp)
  have hm : ∃ m, x = .int m ∧ 0 ≤ m ∧ m ≤ 10 := by
    simp only [List.mem_cons, List.not_mem_nil, or_false] at hx
    rcases hx with rfl | rfl | rfl | rfl | rfl | rfl <;> exact ⟨_, rfl, by omega, by omega⟩
  obtain ⟨m, rfl, m0, m1⟩ := hm
  have z6 : 6 ≤ sizeLine := by rw [sizeLine_eq]; decide
  have z3 : 3 ≤ sizeLine := by rw [sizeLine_eq]; decide
  refine ⟨l, m, 1 + v, gr6, r6, t6, ?_, ⟨ne, len, lb, m0, m1, by omega, by omega⟩⟩
  have fin : sFrz 2 (sRet (xTup (aC false (xV 2) (aC true (xCallM D_law_pick 0 (aC true (xLst (aC false (xV 1) (aC false (xV 1) (aC false (xAp2 true dSub (xV 1) (xC (.int 1))) (aC false (xC (.int 0)) (aC false (xC (.int 10)) (aC true (xCallM D_law_take 0 (aC true (xC (.int 11)) aN)) aN))))))) aN)) (aC true (xV 1) aN))))) [some (.drw gr4 r4 ce t4, .pn), some (.int (1 + v), .fz), some (.lst (IL l), .ow), s3, s4] = .ok (.rt (rowD l m (1 + v)) .fz [some (.drw gr6 r6 ce t6, .pn), some (.int (1 + v), .fz), some (.lst (IL l), .fz), s3, s4]) := by
    have fz := fz_il l
    unfold rowD
    generalize IL l = L at *
    generalize D_law_pick = DP at *
    generalize D_law_take = DT at *
    simp [fz, ownFl, callMK, VL.argsOk, D.fzOk, D.isDrw, e6, fzAll, z6, z3, e7]
  have body : m_law_trail_row (bodyEnv 5 [some (.drw gr r ce t, .pn)]) = .ok (.rt (rowD l m (1 + v)) .fz [some (.drw gr6 r6 ce t6, .pn), some (.int (1 + v), .fz), some (.lst (IL l), .fz), s3, s4]) :=
    (sSeq_nx a1).trans ((sSeq_nx a2).trans ((sSeq_nx ((sFor_1 a3 rk).trans e5)).trans fin))
  unfold D_law_trail_row
  rw [ev_dB, body]
  generalize rowD l m (1 + v) = RD
  simp [pn0, D.isDrw]
end Lk55
namespace Lk55
open PySem PySem.Spec PyProof.Rows L2 VL
def Fz (s : Slot) : Prop := s = none ∨ ∃ d, s = some (d, .fz)
theorem Fz.set {s : Slot} (h : Fz s) : (match (some s : Option Slot) with
  | some (some (_, .lk)) => false
  | some (some (_, .pn)) => false
  | some _ => true
  | none => false) = true := by
  rcases h with rfl | ⟨d, rfl⟩ <;> rfl
abbrev NL (xs : List Nat) : List D := xs.map fun (k : Nat) => D.int k
/-- what a rule promises -/
structure RuleOk (R : D) (lo st : Nat → Option Nat) : Prop where
  fz : R.fzOk = true
  lose : ∀ k : Nat, k < 5 → D_least_losing [some (R, .fz), some (.int (1 + (k : Int)), .fz)] = .ok (oI (lo k), .fz)
  stuck : ∀ k : Nat, k < 5 → D_least_stuck [some (R, .fz), some (.int (1 + (k : Int)), .fz)] = .ok (oI (st k), .fz)
  l128 : ∀ k j, lo k = some j → j < 128
  s128 : ∀ k j, st k = some j → j < 128
def acc (lo : Nat → Option Nat) (xs : List Nat) : List Nat := 0 :: ((xs.filter fun k => (lo k).isNone).map fun k => 1 + k)
theorem acc_snoc (lo : Nat → Option Nat) (xs : List Nat) (k : Nat) : acc lo (xs ++ [k]) = if (lo k).isNone = true then acc lo xs ++ [1 + k] else acc lo xs := by
  unfold acc
  rw [List.filter_append]
  cases h : (lo k).isNone <;> simp [h]
theorem acc_len (lo : Nat → Option Nat) (xs : List Nat) : (acc lo xs).length ≤ xs.length + 1 := by
  unfold acc
  simp only [List.length_cons, List.length_map]
  have := List.length_filter_le (fun k => (lo k).isNone) xs
  omega
theorem acc_b (lo : Nat → Option Nat) (xs : List Nat) (h : ∀ k ∈ xs, k < 5) : ∀ a ∈ acc lo xs, a < 128 := by
  intro a ha
  unfold acc at ha
  simp only [List.mem_cons, List.mem_map, List.mem_filter] at ha
  rcases ha with rfl | ⟨k, ⟨hk, _⟩, rfl⟩
  · omega
  · have := h k hk; omega
theorem last_nl (xs : List Nat) (ne : xs ≠ []) : atI (NL xs) (-1) = some (.int (xs.getLast ne : Nat)) := by
  have := atI_last (NL xs.dropLast) (D.int (xs.getLast ne : Nat))
  rw [show NL xs.dropLast ++ [D.int (xs.getLast ne : Nat)] = NL (xs.dropLast ++ [xs.getLast ne]) by simp, List.dropLast_concat_getLast] at this
  exact this
theorem dIs_oI (o : Option Nat) : dIs (oI o) .non = some (.bl o.isNone, .fz) := by cases o <;> rfl
theorem fz_oI (o : Option Nat) : (oI o).fzOk = true := by cases o <;> rfl
theorem mw_body {R : D} {L : List D} {w : Int} {d : D} {b : Bool} (h2 : R.fzOk = true) (hL : D_least_losing [some (R, .fz), some (.int w, .fz)] = .ok (d, .fz)) (hd : dIs d .non = some (.bl b, .fz)) (z : L.length < sizeLine) :
    mb_most_wait_1 [some (R, .fz), some (.lst L, .ow), some (.int w, .fz)] = .ok (.nx [some (R, .fz), some (.lst (if b = true then L ++ [.int w] else L), .ow), some (.int w, .fz)]) := by
  cases b with
  | true => simp [mb_most_wait_1, VL.argsOk, h2, fz_int, hL, hd, ownFl, D.isLst, mutK, fzAll, z]
  | false => simp [mb_most_wait_1, VL.argsOk, h2, fz_int, hL, hd]
theorem mwait_eq {R : D} {lo st : Nat → Option Nat} (h : RuleOk R lo st) : D_most_wait [some (R, .fz)] = .ok (.int ((acc lo (List.range 5)).getLast (by simp [acc]) : Nat), .fz) := by
  have z1 : 1 ≤ sizeLine := by rw [sizeLine_eq]; decide
  have a1 : sSet .ow 1 (xLst (aC true (xC (.int 0)) aN)) [some (R, .fz), none, none] = .ok (.nx [some (R, .fz), some (.lst (NL (acc lo [])), .ow), none]) := by
    simp [setSlot, canSet, fzAll, D.fzOk, z1, acc]
  have a2 : aC true (xC (.int 1)) (aC true (xAp2 true dAdd (xC (.int 5)) (xC (.int 1))) aN) [some (R, .fz), some (.lst (NL (acc lo [])), .ow), none] = .ok ([(.int 1, .fz), (.int 6, .fz)], [some (R, .fz), some (.lst (NL (acc lo [])), .ow), none]) := rfl
  have rk : rngK2 [(.int 1, .fz), (.int 6, .fz)] [some (R, .fz), some (.lst (NL (acc lo [])), .ow), none] = .ok ((List.range 5).map fun (k : Nat) => D.int (1 + k), false, [some (R, .fz), some (.lst (NL (acc lo [])), .ow), none]) := rngK2_len (n := 5) (by decide) (by decide) (by decide)
  have loop : ∃ s, forL (gNm 2) mb_most_wait_1 ((List.range 5).map fun (k : Nat) => D.int (1 + k)) [some (R, .fz), some (.lst (NL (acc lo [])), .ow), none] = .ok (.nx [some (R, .fz), some (.lst (NL (acc lo (List.range 5))), .ow), s]) := by
    refine forL_map (fun (k : Nat) => D.int (1 + k)) (fun ys ρ => ∃ pre s, pre ++ ys = List.range 5 ∧ ρ = [some (R, .fz), some (.lst (NL (acc lo pre)), .ow), s] ∧ IsI s) (fun q => ∃ s, q = .ok (.nx [some (R, .fz), some (.lst (NL (acc lo (List.range 5))), .ow), s])) (fun k ys ρ hI => ?_) (fun ρ hI => ?_) (List.range 5) _ ⟨[], none, rfl, rfl, .inl rfl⟩
    · obtain ⟨pre, s, hp, rfl, hs⟩ := hI
      have cs : canSet [some (R, .fz), some (.lst (NL (acc lo pre)), .ow), s] 2 = true := hs.set
      have hk : k < 5 := List.mem_range.mp (by rw [← hp]; simp)
      have hl : pre.length ≤ 5 := by have := congrArg List.length hp; simp at this; omega
      have zl : (NL (acc lo pre)).length < sizeLine := by
        have := acc_len lo pre
        rw [List.length_map, sizeLine_eq]; omega
      have b := mw_body h.fz (h.lose k hk) (dIs_oI _) zl
      refine ⟨[some (R, .fz), some (.lst (NL (acc lo pre)), .ow), some (.int (1 + k), .fz)], by simp [setSlot, cs], .inl ⟨_, .inl b, pre ++ [k], some (.int (1 + k), .fz), by rw [← hp]; simp, ?_, .inr ⟨_, rfl⟩⟩⟩
      rw [acc_snoc]
      cases (lo k).isNone with
      | true => simp
      | false => simp
    · obtain ⟨pre, s, hp, rfl, hs⟩ := hI
      rw [List.append_nil] at hp
      subst hp
      exact ⟨s, rfl⟩
  obtain ⟨s, e⟩ := loop
  have la := last_nl (acc lo (List.range 5)) (by simp [acc])
  generalize (List.range 5).map (fun (k : Nat) => D.int (1 + k)) = ds at *
  have fin : sRet (xAp2 true dIdx (xV 1) (xAp1 dNeg (xC (.int 1)))) [some (R, .fz), some (.lst (NL (acc lo (List.range 5))), .ow), s] = .ok (.rt (.int ((acc lo (List.range 5)).getLast (by simp [acc]) : Nat)) .fz [some (R, .fz), some (.lst (NL (acc lo (List.range 5))), .ow), s]) := by
    generalize NL (acc lo (List.range 5)) = L at *
    generalize (acc lo (List.range 5)).getLast (by simp [acc]) = x at *
    simp [la]
  exact dA_rt ((sSeq_nx a1).trans ((sSeq_nx ((sFor_2 a2 rk).trans e)).trans fin)) (by simp)
end Lk55
namespace Lk55
open PySem PySem.Spec PyProof.Rows L2 VL
section
variable {a0 a1 a2 s3 s4 s5 s6 s7 s8 : Slot} {R X3 A B N d : D} {L : List D} {w : Int} {b : Bool} {s : Str}
theorem li_1 (h0 : dIdx X3 (.int 0) = some (A, .fz)) (h1 : dIdx X3 (.int 1) = some (B, .fz)) (fA : A.fzOk = true) (fB : B.fzOk = true) (h7 : Fz s7) : sSet .fz 7 (xTup (aC true (xAp2 true dIdx (xV 3) (xC (.int 0))) (aC true (xAp2 true dIdx (xV 3) (xC (.int 1))) (aC true (xV 6) aN)))) [a0, a1, a2, some (X3, .fz), s4, s5, some (.int w, .fz), s7, s8] = .ok (.nx [a0, a1, a2, some (X3, .fz), s4, s5, some (.int w, .fz), some (.tup [A, B, .int w], .fz), s8]) := by
  have cs : canSet [a0, a1, a2, some (X3, .fz), s4, s5, some (.int w, .fz), s7, s8] 7 = true := h7.set
  have z3 : 3 ≤ sizeLine := by rw [sizeLine_eq]; decide
  simp [h0, h1, fA, fB, fz_int, fzAll, z3, setSlot, cs]
theorem li_2 (h : D_law_trail_losing [some (N, .fz)] = .ok (d, .fz)) (fN : N.fzOk = true) (h8 : Fz s8) : sSet .fz 8 (xCall D_law_trail_losing (aC true (xV 7) aN)) [a0, a1, a2, s3, s4, s5, s6, some (N, .fz), s8] = .ok (.nx [a0, a1, a2, s3, s4, s5, s6, some (N, .fz), some (d, .fz)]) := by
  have cs : canSet [a0, a1, a2, s3, s4, s5, s6, some (N, .fz), s8] 8 = true := h8.set
  simp [VL.argsOk, fN, h, setSlot, cs]
theorem li_5 (h : D_law_trail_stuck [some (N, .fz)] = .ok (d, .fz)) (fN : N.fzOk = true) (h8 : Fz s8) : sSet .fz 8 (xCall D_law_trail_stuck (aC true (xV 7) aN)) [a0, a1, a2, s3, s4, s5, s6, some (N, .fz), s8] = .ok (.nx [a0, a1, a2, s3, s4, s5, s6, some (N, .fz), some (d, .fz)]) := by
  have cs : canSet [a0, a1, a2, s3, s4, s5, s6, some (N, .fz), s8] 8 = true := h8.set
  simp [VL.argsOk, fN, h, setSlot, cs]
theorem li_3 {t : SE} (h : D_least_losing [some (R, .fz), some (.int w, .fz)] = .ok (d, .fz)) (fR : R.fzOk = true) (fd : d.fzOk = true) (hr : dRepr (.lst [d, d]) = some (.str s, .fz)) : sIf (xTst (xAp2 true dNe (xApp (f1 dRepr) (aC true (xLst (aC true (xCall D_least_losing (aC true (xV 4) (aC true (xV 6) aN))) (aC true (xCallK D_least_losing [1, 0] true aN (aC true (xV 6) (aC true (xV 4) aN))) aN))) aN)) (xApp (f1 dRepr) (aC true (xLst (aC true (xV 8) (aC true (xV 8) aN))) aN)))) t sNil [a0, a1, a2, s3, some (R, .fz), s5, some (.int w, .fz), s7, some (d, .fz)] = .ok (.nx [a0, a1, a2, s3, some (R, .fz), s5, some (.int w, .fz), s7, some (d, .fz)]) := by
  have z2 : 2 ≤ sizeLine := by rw [sizeLine_eq]; decide
  simp [VL.argsOk, fR, fd, fz_int, h, fzAll, z2, hr, pick]
theorem li_6 {t : SE} (h : D_least_stuck [some (R, .fz), some (.int w, .fz)] = .ok (d, .fz)) (fR : R.fzOk = true) (fd : d.fzOk = true) (hr : dRepr (.lst [d, d]) = some (.str s, .fz)) : sIf (xTst (xAp2 true dNe (xApp (f1 dRepr) (aC true (xLst (aC true (xCall D_least_stuck (aC true (xV 4) (aC true (xV 6) aN))) (aC true (xCallK D_least_stuck [1, 0] true aN (aC true (xV 6) (aC true (xV 4) aN))) aN))) aN)) (xApp (f1 dRepr) (aC true (xLst (aC true (xV 8) (aC true (xV 8) aN))) aN)))) t sNil [a0, a1, a2, s3, some (R, .fz), s5, some (.int w, .fz), s7, some (d, .fz)] = .ok (.nx [a0, a1, a2, s3, some (R, .fz), s5, some (.int w, .fz), s7, some (d, .fz)]) := by
  have z2 : 2 ≤ sizeLine := by rw [sizeLine_eq]; decide
  simp [VL.argsOk, fR, fd, fz_int, h, fzAll, z2, hr, pick]
theorem dMul_one {w : Int} {b : Bool} : dMul (.lst [.int w]) (.int (if b then 1 else 0)) = some (.lst (if b = true then [.int w] else []), .ow) := by
  have z : 1 ≤ sizeLine := by rw [sizeLine_eq]; decide
  cases b with
  | true => simp [dMul, z]
  | false => simp [dMul]
theorem dAdd_l {L M : List D} (z : L.length + M.length ≤ sizeLine) : dAdd (.lst L) (.lst M) = some (.lst (L ++ M), .ow) := by
  simp [dAdd, z]
theorem li_4 (hd : dIs d .non = some (.bl b, .fz)) (fd : d.fzOk = true) (z : L.length + 1 ≤ sizeLine) (fL : (D.lst (L ++ [.int w])).fzOk = true) (fL2 : (D.lst L).fzOk = true) : sSet .fz 5 (xAp2 true dAdd (xV 5) (xAp2 true dMul (xLst (aC true (xV 6) aN)) (xApp (f1 dInt) (aC true (xAp2 true dIs (xV 8) (xC (.non))) aN)))) [a0, a1, a2, s3, s4, some (.lst L, .fz), some (.int w, .fz), s7, some (d, .fz)] = .ok (.nx [a0, a1, a2, s3, s4, some (.lst (if b = true then L ++ [.int w] else L), .fz), some (.int w, .fz), s7, some (d, .fz)]) := by
  have z1 : 1 ≤ sizeLine := by rw [sizeLine_eq]; decide
  have m := dMul_one (w := w) (b := b)
  cases b with
  | true =>
    have e := dAdd_l (L := L) (M := [.int w]) (by simpa using z)
    simp at m
    simp [hd, fz_int, fzAll, z1, m, e, setSlot, canSet, fL]
  | false =>
    have e := dAdd_l (L := L) (M := []) (by simp; omega)
    simp at m e
    simp [hd, fz_int, fzAll, z1, m, e, setSlot, canSet, fL2]
end
theorem inner {a0 a1 a2 s7 s8 : Slot} {R X3 : D} {L : List D} {l : List Int} {g : Int} {lo st : Nat → Option Nat} {k : Nat} (hk : k < 5) (hR : RuleOk R lo st) (h0 : dIdx X3 (.int 0) = some (.lst (IL l), .fz)) (h1 : dIdx X3 (.int 1) = some (.int g, .fz)) (hl : D_law_trail_losing [some (rowD l g (1 + (k : Int)), .fz)] = .ok (oI (lo k), .fz)) (hs : D_law_trail_stuck [some (rowD l g (1 + (k : Int)), .fz)] = .ok (oI (st k), .fz)) (h7 : Fz s7) (h8 : Fz s8) (z : L.length + 1 ≤ sizeLine) :
    mb_law_2 [a0, a1, a2, some (X3, .fz), some (R, .fz), some (.lst L, .fz), some (.int (1 + (k : Int)), .fz), s7, s8] = .ok (.nx [a0, a1, a2, some (X3, .fz), some (R, .fz), some (.lst (if (lo k).isNone = true then L ++ [.int (1 + (k : Int))] else L), .fz), some (.int (1 + (k : Int)), .fz), some (rowD l g (1 + (k : Int)), .fz), some (oI (st k), .fz)]) := by
  obtain ⟨s1, r1⟩ := repr_two (o := lo k) (hR.l128 k)
  obtain ⟨s2, r2⟩ := repr_two (o := st k) (hR.s128 k)
  have e1 := li_1 (a0 := a0) (a1 := a1) (a2 := a2) (s4 := some (R, .fz)) (s5 := some (.lst L, .fz)) (w := 1 + (k : Int)) (s8 := s8) h0 h1 (fz_il l) fz_int h7
  rw [show D.tup [.lst (IL l), .int g, .int (1 + (k : Int))] = rowD l g (1 + (k : Int)) from rfl] at e1
  exact (sSeq_nx e1).trans ((sSeq_nx (li_2 hl fz_row h8)).trans ((sSeq_nx (li_3 (hR.lose k hk) hR.fz (fz_oI _) r1)).trans ((sSeq_nx (li_4 (dIs_oI _) (fz_oI _) z rfl rfl)).trans ((sSeq_nx (li_5 hs fz_row (.inr ⟨_, rfl⟩))).trans (li_6 (hR.stuck k hk) hR.fz (fz_oI _) r2)))))
/-! the outer turn -/
theorem rule_ok {l : List Int} {g w : Int} (h : Ok l g w) : RuleOk (ruleD l g) (fun k => los l g (1 + (k : Int))) (fun k => stk l g (1 + (k : Int))) := by
  have hk : ∀ k : Nat, k < 5 → Ok l g (1 + (k : Int)) := fun k hk => ⟨h.ne, h.len, h.b, h.g0, h.g1, by omega, by omega⟩
  exact ⟨rfl, fun k h5 => los_eq (hk k h5), fun k h5 => stuck_eq (hk k h5), fun k j e => small_find (Nat.le_refl 2) e, fun k j e => small_find (by omega) e⟩
theorem okRepr_N : ∀ k : Nat, k < 128 → okRepr (.list [.int (k : Int), .int (k : Int)]) = true := okRepr_two
section
variable {a0 a1 a2 s3 s6 s7 s8 : Slot} {R : D} {L : List D} {n : Nat}
theorem lo_end {t : SE} {s : Str} (hm : D_most_wait [some (R, .fz)] = .ok (.int n, .fz)) (fR : R.fzOk = true) (hL : atI L (-1) = some (.int n)) (hr : dRepr (.lst [.int (n : Int), .int (n : Int)]) = some (.str s, .fz)) : sIf (xTst (xAp2 true dNe (xApp (f1 dRepr) (aC true (xLst (aC true (xCall D_most_wait (aC true (xV 4) aN)) (aC true (xCallK D_most_wait [0] true aN (aC true (xV 4) aN)) aN))) aN)) (xApp (f1 dRepr) (aC true (xAp2 true dMul (xLst (aC true (xAp2 true dIdx (xV 5) (xAp1 dNeg (xC (.int 1)))) aN)) (xC (.int 2))) aN)))) t sNil [a0, a1, a2, s3, some (R, .fz), some (.lst L, .fz), s6, s7, s8] = .ok (.nx [a0, a1, a2, s3, some (R, .fz), some (.lst L, .fz), s6, s7, s8]) := by
  have z2 : 2 ≤ sizeLine := by rw [sizeLine_eq]; decide
  have z1 : 1 ≤ sizeLine := by rw [sizeLine_eq]; decide
  have m : dMul (.lst [.int (n : Int)]) (.int 2) = some (.lst [.int (n : Int), .int (n : Int)], .ow) := by
    simp [dMul, z2, List.replicate]
  simp [VL.argsOk, fR, fz_int, hm, fzAll, z1, z2, hr, pick, hL, m]
theorem lo_row {gr ce gr' : List Int} {r t r' t' : Int} {X : D} (e : D_law_trail_row [some (.drw gr r ce t, .pn)] = .ok (X, .fz, .drw gr' r' ce t')) (h3 : Fz s3) {s4 s5 : Slot} : sSet .fz 3 (xCallM D_law_trail_row 1 aN) [a0, some (.drw gr r ce t, .ow), a2, s3, s4, s5, s6, s7, s8] = .ok (.nx [a0, some (.drw gr' r' ce t', .ow), a2, some (X, .fz), s4, s5, s6, s7, s8]) := by
  have cs : canSet [a0, some (.drw gr' r' ce t', .ow), a2, s3, s4, s5, s6, s7, s8] 3 = true := h3.set
  simp [ownFl, callMK, VL.argsOk, e, setSlot, cs]
theorem lo_par {X A R : D} {g : Int} {s4 s5 : Slot} (h0 : dIdx X (.int 0) = some (A, .fz)) (h1 : dIdx X (.int 1) = some (.int g, .fz)) (fA : A.fzOk = true) (hi : D_TrailRule_init [some (.ins 3 [], .pn), some (A, .fz), some (.int g, .fz)] = .ok (.non, .fz, R)) (hd : R.isDrw = false) (fR : R.fzOk = true) (h4 : Fz s4) (h5 : Fz s5) : sPar 4 5 (aC true (xMake 3 D_TrailRule_init (aC true (xAp2 true dIdx (xV 3) (xC (.int 0))) (aC true (xAp2 true dIdx (xV 3) (xC (.int 1))) aN))) (aC true (xLst (aC true (xC (.int 0)) aN)) aN)) [a0, a1, a2, some (X, .fz), s4, s5, s6, s7, s8] = .ok (.nx [a0, a1, a2, some (X, .fz), some (R, .fz), some (.lst [.int 0], .fz), s6, s7, s8]) := by
  have z1 : 1 ≤ sizeLine := by rw [sizeLine_eq]; decide
  have c4 : canSet [a0, a1, a2, some (X, .fz), s4, s5, s6, s7, s8] 4 = true := h4.set
  have c5 : canSet [a0, a1, a2, some (X, .fz), some (R, .fz), s5, s6, s7, s8] 5 = true := h5.set
  have fl : (D.lst [.int 0]).fzOk = true := rfl
  simp [VL.argsOk, h0, h1, fA, fz_int, hi, hd, fzAll, z1, parK, fR, fl, setSlot, c4, c5]
end
def St (ce : List Int) (scr : D) (ρ : VL.Env) : Prop := ∃ gr r t s2 s3 s4 s5 s6 s7 s8, ρ = [some (scr, .fz), some (.drw gr r ce t, .ow), s2, s3, s4, s5, s6, s7, s8] ∧ Fz s2 ∧ Fz s3 ∧ Fz s4 ∧ Fz s5 ∧ Fz s6 ∧ Fz s7 ∧ Fz s8
theorem outer {ce : List Int} {scr : D} {gr : List Int} {r t : Int} {s2 s3 s4 s5 s6 s7 s8 : Slot} (h2 : Fz s2) (h3 : Fz s3) (h4 : Fz s4) (h5 : Fz s5) (h6 : Fz s6) (h7 : Fz s7) (h8 : Fz s8) : ∃ ρ', mb_law_1 [some (scr, .fz), some (.drw gr r ce t, .ow), s2, s3, s4, s5, s6, s7, s8] = .ok (.nx ρ') ∧ St ce scr ρ' := by
  obtain ⟨l, g, w, gr', r', t', e1, ok⟩ := trow_eq (gr := gr) (r := r) (ce := ce) (t := t)
  have R := rule_ok ok
  have hk : ∀ k : Nat, k < 5 → Ok l g (1 + (k : Int)) := fun k hk => ⟨ok.ne, ok.len, ok.b, ok.g0, ok.g1, by omega, by omega⟩
  have q1 := lo_row (a0 := some (scr, .fz)) (a2 := s2) (s6 := s6) (s7 := s7) (s8 := s8) e1 h3 (s4 := s4) (s5 := s5)
  have q2 := lo_par (a0 := some (scr, .fz)) (a1 := some (.drw gr' r' ce t', .ow)) (a2 := s2) (s6 := s6) (s7 := s7) (s8 := s8) (row_0 (l := l) (g := g) (w := w)) row_1 (fz_il l) (init_eq ok.ne ok.len ok.b ok.g0 ok.g1) rfl rfl h4 h5
  have a2 : aC true (xC (.int 1)) (aC true (xC (.int 6)) aN) [some (scr, .fz), some (.drw gr' r' ce t', .ow), s2, some (rowD l g w, .fz), some (ruleD l g, .fz), some (.lst [.int 0], .fz), s6, s7, s8] = .ok ([(.int 1, .fz), (.int 6, .fz)], [some (scr, .fz), some (.drw gr' r' ce t', .ow), s2, some (rowD l g w, .fz), some (ruleD l g, .fz), some (.lst [.int 0], .fz), s6, s7, s8]) := rfl
  have rk : rngK2 [(.int 1, .fz), (.int 6, .fz)] [some (scr, .fz), some (.drw gr' r' ce t', .ow), s2, some (rowD l g w, .fz), some (ruleD l g, .fz), some (.lst [.int 0], .fz), s6, s7, s8] = .ok ((List.range 5).map fun (k : Nat) => D.int (1 + k), false, [some (scr, .fz), some (.drw gr' r' ce t', .ow), s2, some (rowD l g w, .fz), some (ruleD l g, .fz), some (.lst [.int 0], .fz), s6, s7, s8]) := rngK2_len (n := 5) (by decide) (by decide) (by decide)
  have loop : ∃ u6 u7 u8, forL (gNm 6) mb_law_2 ((List.range 5).map fun (k : Nat) => D.int (1 + k)) [some (scr, .fz), some (.drw gr' r' ce t', .ow), s2, some (rowD l g w, .fz), some (ruleD l g, .fz), some (.lst [.int 0], .fz), s6, s7, s8] = .ok (.nx [some (scr, .fz), some (.drw gr' r' ce t', .ow), s2, some (rowD l g w, .fz), some (ruleD l g, .fz), some (.lst (NL (acc (fun k => los l g (1 + (k : Int))) (List.range 5))), .fz), u6, u7, u8]) ∧ Fz u6 ∧ Fz u7 ∧ Fz u8 := by
    refine forL_map (fun (k : Nat) => D.int (1 + k)) (fun ys ρ => ∃ pre s6 s7 s8, pre ++ ys = List.range 5 ∧ ρ = [some (scr, .fz), some (.drw gr' r' ce t', .ow), s2, some (rowD l g w, .fz), some (ruleD l g, .fz), some (.lst (NL (acc (fun k => los l g (1 + (k : Int))) pre)), .fz), s6, s7, s8] ∧ Fz s6 ∧ Fz s7 ∧ Fz s8) (fun q => ∃ s6 s7 s8, q = .ok (.nx [some (scr, .fz), some (.drw gr' r' ce t', .ow), s2, some (rowD l g w, .fz), some (ruleD l g, .fz), some (.lst (NL (acc (fun k => los l g (1 + (k : Int))) (List.range 5))), .fz), s6, s7, s8]) ∧ Fz s6 ∧ Fz s7 ∧ Fz s8) (fun k ys ρ hI => ?_) (fun ρ hI => ?_) (List.range 5) _ ⟨[], s6, s7, s8, rfl, rfl, h6, h7, h8⟩
    · obtain ⟨pre, s6, s7, s8, hp, rfl, h6, h7, h8⟩ := hI
      have hk5 : k < 5 := List.mem_range.mp (by rw [← hp]; simp)
      have hl : pre.length ≤ 5 := by have := congrArg List.length hp; simp at this; omega
      have zl : (NL (acc (fun k => los l g (1 + (k : Int))) pre)).length + 1 ≤ sizeLine := by
        have := acc_len (fun k => los l g (1 + (k : Int))) pre
        rw [List.length_map, sizeLine_eq]; omega
      have cs : canSet [some (scr, .fz), some (.drw gr' r' ce t', .ow), s2, some (rowD l g w, .fz), some (ruleD l g, .fz), some (.lst (NL (acc (fun k => los l g (1 + (k : Int))) pre)), .fz), s6, s7, s8] 6 = true := h6.set
      have b := inner (a0 := some (scr, .fz)) (a1 := some (.drw gr' r' ce t', .ow)) (a2 := s2) (L := NL (acc (fun k => los l g (1 + (k : Int))) pre)) hk5 R (row_0 (l := l) (g := g) (w := w)) row_1 (llosing_eq (hk k hk5)) (lstuck_eq (hk k hk5)) h7 h8 zl
      have st : gNm 6 (D.int (1 + k)) [some (scr, .fz), some (.drw gr' r' ce t', .ow), s2, some (rowD l g w, .fz), some (ruleD l g, .fz), some (.lst (NL (acc (fun k => los l g (1 + (k : Int))) pre)), .fz), s6, s7, s8] = .ok [some (scr, .fz), some (.drw gr' r' ce t', .ow), s2, some (rowD l g w, .fz), some (ruleD l g, .fz), some (.lst (NL (acc (fun k => los l g (1 + (k : Int))) pre)), .fz), some (.int (1 + k), .fz), s7, s8] := by
        rw [ev_gNm]
        unfold setSlot
        rw [if_pos cs]
        rfl
      refine ⟨_, st, .inl ⟨_, .inl b, pre ++ [k], some (.int (1 + k), .fz), some (rowD l g (1 + (k : Int)), .fz), some (oI (stk l g (1 + (k : Int))), .fz), by rw [← hp]; simp, ?_, .inr ⟨_, rfl⟩, .inr ⟨_, rfl⟩, .inr ⟨_, rfl⟩⟩⟩
      rw [acc_snoc]
      cases (los l g (1 + (k : Int))).isNone with
      | true => simp
      | false => simp
    · obtain ⟨pre, s6, s7, s8, hp, rfl, h6, h7, h8⟩ := hI
      rw [List.append_nil] at hp
      subst hp
      exact ⟨s6, s7, s8, rfl, h6, h7, h8⟩
  obtain ⟨s6', s7', s8', e, h6', h7', h8'⟩ := loop
  have ne : acc (fun k => los l g (1 + (k : Int))) (List.range 5) ≠ [] := by simp [acc]
  have q3 := lo_end (a0 := some (scr, .fz)) (a1 := some (.drw gr' r' ce t', .ow)) (a2 := s2) (s3 := some (rowD l g w, .fz)) (s6 := s6') (s7 := s7') (s8 := s8') (t := sRet (xC (.bl false))) (mwait_eq R) R.fz (last_nl _ ne) (repr_ok (p := .list [.int _, .int _]) rfl (okRepr_two _ (acc_b _ _ (fun k hk => List.mem_range.mp hk) _ (List.getLast_mem ne))))
  exact ⟨_, (sSeq_nx q1).trans ((sSeq_nx q2).trans ((sSeq_nx ((sFor_2 a2 rk).trans e)).trans q3)), gr', r', t', s2, _, _, _, _, _, _, rfl, h2, .inr ⟨_, rfl⟩, .inr ⟨_, rfl⟩, .inr ⟨_, rfl⟩, h6', h7', h8'⟩
theorem plain : ∀ ns : List Int, ns.length ≤ 63 → ∃ k', D_law [some (.scr ns, .fz)] = .ok (.bl true, k') := by
  intro ns hn
  obtain ⟨gr, ce, eb⟩ := begin_eq hn
  have a1 : sSet .ow 1 (xCall D_law_begin (aC true (xV 0) aN)) [some (.scr ns, .fz), none, none, none, none, none, none, none, none] = .ok (.nx [some (.scr ns, .fz), some (.drw gr 0 ce 0, .ow), none, none, none, none, none, none, none]) := by
    generalize D_law_begin = DB at *
    simp [VL.argsOk, D.fzOk, eb, setSlot, canSet]
  obtain ⟨n, hn1, hn2⟩ : ∃ n : Nat, n < 1000000 ∧ aC true (xApp (f2 dMax2) (aC true (xC (.int 2)) (aC true (xApp (f2 dMin2) (aC true (xC (.int 6)) (aC true (xApp (f1 dLen) (aC true (xV 0) aN)) aN))) aN))) aN [some (.scr ns, .fz), some (.drw gr 0 ce 0, .ow), none, none, none, none, none, none, none] = .ok ([(.int n, .fz)], [some (.scr ns, .fz), some (.drw gr 0 ce 0, .ow), none, none, none, none, none, none, none]) := by
    refine ⟨max 2 (min 6 ns.length), by omega, ?_⟩
    have e : (if (if ((ns.length : Nat) : Int) < 6 then ((ns.length : Nat) : Int) else 6) > 2 then (if ((ns.length : Nat) : Int) < 6 then ((ns.length : Nat) : Int) else 6) else 2) = ((max 2 (min 6 ns.length) : Nat) : Int) := by split <;> split <;> omega
    rw [← e]
    simp
  have rk : rngK1 [(.int n, .fz)] [some (.scr ns, .fz), some (.drw gr 0 ce 0, .ow), none, none, none, none, none, none, none] = .ok ((List.range n).map fun (k : Nat) => D.int k, false, [some (.scr ns, .fz), some (.drw gr 0 ce 0, .ow), none, none, none, none, none, none, none]) := rngK1_len hn1
  have loop : ∃ ρ', forL (gNm 2) mb_law_1 ((List.range n).map fun (k : Nat) => D.int k) [some (.scr ns, .fz), some (.drw gr 0 ce 0, .ow), none, none, none, none, none, none, none] = .ok (.nx ρ') := by
    refine forL_map (fun (k : Nat) => D.int k) (fun _ ρ => St ce (.scr ns) ρ) (fun q => ∃ ρ', q = .ok (.nx ρ')) (fun k ys ρ hI => ?_) (fun ρ _ => ⟨ρ, rfl⟩) (List.range n) _ ⟨gr, 0, 0, none, none, none, none, none, none, none, rfl, .inl rfl, .inl rfl, .inl rfl, .inl rfl, .inl rfl, .inl rfl, .inl rfl⟩
    obtain ⟨gr, r, t, s2, s3, s4, s5, s6, s7, s8, rfl, h2, h3, h4, h5, h6, h7, h8⟩ := hI
    have cs : canSet [some (.scr ns, .fz), some (.drw gr r ce t, .ow), s2, s3, s4, s5, s6, s7, s8] 2 = true := h2.set
    obtain ⟨ρ', e, hS⟩ := outer (scr := .scr ns) (ce := ce) (gr := gr) (r := r) (t := t) (s2 := some (.int k, .fz)) (.inr ⟨_, rfl⟩) h3 h4 h5 h6 h7 h8
    exact ⟨[some (.scr ns, .fz), some (.drw gr r ce t, .ow), some (.int k, .fz), s3, s4, s5, s6, s7, s8], by simp [setSlot, cs], .inl ⟨ρ', .inl e, hS⟩⟩
  obtain ⟨ρ', e⟩ := loop
  exact ⟨.fz, dA_rt (ρ1 := ρ') ((sSeq_nx a1).trans ((sSeq_nx ((sFor_1 hn2 rk).trans e)).trans (by simp))) (by simp)⟩
end Lk55
namespace Lk55
open PySem PySem.Spec PyProof.Rows L2 VL
def GG (K : PySem.W.Frag) (mg : Str → Option Value) : Gm := ⟨K, fun c => match c with
  | 3 => adrOf (mg "TrailRule")
  | 4 => adrOf (mg "WayRule")
  | _ => none, []⟩
theorem cm_at {o : Option Value} {A : Addr} (h : o = some (.ref A)) : adrOf o = some A := by rw [h]; rfl
def Tied (K : PySem.W.Frag) (mg : Str → Option Value) : Prop := ∃ t : Tie K mg (GG K mg), mg "law" = some (.ref t.f_law) ∧ ∀ (s : Shared) (u : Value), BindsTo s t.fd_law ⟨[u], []⟩ [("_law_script", u)]
theorem tied {P : Program} {w : World} {K : PySem.W.Frag} {mg : Str → Option Value} {fa : Addr} (hm : mg "law" = some (.ref fa)) (h : Tied K mg) : ∃ fd : FuncData, (∀ (s : Shared) (u : Value), BindsTo s fd ⟨[u], []⟩ [("_law_script", u)]) ∧ ∀ base : Heap, K.In base → base.Ns mainGlobals mg → FnG P w K mg base 7 fa fd ["_law_script"] (spA (GG K mg) 1 D_law) := by
  obtain ⟨t, e, b⟩ := h
  have e' : fa = t.f_law := Value.ref.inj (Option.some.inj (hm.symm.trans e))
  subst e'
  exact ⟨t.fd_law, b, fun base _ _ => ok_law t⟩
theorem tie_mk {K : PySem.W.Frag} {h : Heap} {mg : Str → Option Value} (X : K.In h) (Gn : h.Ns mainGlobals mg)
    {A_TrailRule : Addr}
    {A_WayRule : Addr}
    {f_law_begin : Addr} {od_law_begin an_law_begin : Option Addr} {sl_law_begin : Array (Option Value)} {oc_law_begin kV_law_begin dc_law_begin pm_law_begin cd_law_begin ct_law_begin : Value}
    {f_law_blend : Addr} {od_law_blend an_law_blend : Option Addr} {sl_law_blend : Array (Option Value)} {oc_law_blend kV_law_blend dc_law_blend pm_law_blend cd_law_blend ct_law_blend : Value}
    {f_law_take : Addr} {od_law_take an_law_take : Option Addr} {sl_law_take : Array (Option Value)} {oc_law_take kV_law_take dc_law_take pm_law_take cd_law_take ct_law_take : Value}
    {f_law_pick : Addr} {od_law_pick an_law_pick : Option Addr} {sl_law_pick : Array (Option Value)} {oc_law_pick kV_law_pick dc_law_pick pm_law_pick cd_law_pick ct_law_pick : Value}
    {f_law_trail_row : Addr} {od_law_trail_row an_law_trail_row : Option Addr} {sl_law_trail_row : Array (Option Value)} {oc_law_trail_row kV_law_trail_row dc_law_trail_row pm_law_trail_row cd_law_trail_row ct_law_trail_row : Value}
    {f_is_list : Addr} {od_is_list an_is_list : Option Addr} {sl_is_list : Array (Option Value)} {oc_is_list kV_is_list dc_is_list pm_is_list cd_is_list ct_is_list : Value}
    {f_is_number : Addr} {od_is_number an_is_number : Option Addr} {sl_is_number : Array (Option Value)} {oc_is_number kV_is_number dc_is_number pm_is_number cd_is_number ct_is_number : Value}
    {f_is_number_in : Addr} {od_is_number_in an_is_number_in : Option Addr} {sl_is_number_in : Array (Option Value)} {oc_is_number_in kV_is_number_in dc_is_number_in pm_is_number_in cd_is_number_in ct_is_number_in : Value}
    {f_TrailRule_init : Addr} {od_TrailRule_init an_TrailRule_init : Option Addr} {sl_TrailRule_init : Array (Option Value)} {oc_TrailRule_init kV_TrailRule_init dc_TrailRule_init pm_TrailRule_init cd_TrailRule_init ct_TrailRule_init : Value}
    {f_law_until : Addr} {od_law_until an_law_until : Option Addr} {sl_law_until : Array (Option Value)} {oc_law_until kV_law_until dc_law_until pm_law_until cd_law_until ct_law_until : Value}
    {f_law_trail_losing : Addr} {od_law_trail_losing an_law_trail_losing : Option Addr} {sl_law_trail_losing : Array (Option Value)} {oc_law_trail_losing kV_law_trail_losing dc_law_trail_losing pm_law_trail_losing cd_law_trail_losing ct_law_trail_losing : Value}
    {f_need_wait : Addr} {od_need_wait an_need_wait : Option Addr} {sl_need_wait : Array (Option Value)} {oc_need_wait kV_need_wait dc_need_wait pm_need_wait cd_need_wait ct_need_wait : Value}
    {f_need_rule : Addr} {od_need_rule an_need_rule : Option Addr} {sl_need_rule : Array (Option Value)} {oc_need_rule kV_need_rule dc_need_rule pm_need_rule cd_need_rule ct_need_rule : Value}
    {f_tick_by : Addr} {od_tick_by an_tick_by : Option Addr} {sl_tick_by : Array (Option Value)} {oc_tick_by kV_tick_by dc_tick_by pm_tick_by cd_tick_by ct_tick_by : Value}
    {f_trail_losing : Addr} {od_trail_losing an_trail_losing : Option Addr} {sl_trail_losing : Array (Option Value)} {oc_trail_losing kV_trail_losing dc_trail_losing pm_trail_losing cd_trail_losing ct_trail_losing : Value}
    {f_least_losing : Addr} {od_least_losing an_least_losing : Option Addr} {sl_least_losing : Array (Option Value)} {oc_least_losing kV_least_losing dc_least_losing pm_least_losing cd_least_losing ct_least_losing : Value}
    {f_law_trail_stuck : Addr} {od_law_trail_stuck an_law_trail_stuck : Option Addr} {sl_law_trail_stuck : Array (Option Value)} {oc_law_trail_stuck kV_law_trail_stuck dc_law_trail_stuck pm_law_trail_stuck cd_law_trail_stuck ct_law_trail_stuck : Value}
    {f_trail_stuck : Addr} {od_trail_stuck an_trail_stuck : Option Addr} {sl_trail_stuck : Array (Option Value)} {oc_trail_stuck kV_trail_stuck dc_trail_stuck pm_trail_stuck cd_trail_stuck ct_trail_stuck : Value}
    {f_least_stuck : Addr} {od_least_stuck an_least_stuck : Option Addr} {sl_least_stuck : Array (Option Value)} {oc_least_stuck kV_least_stuck dc_least_stuck pm_least_stuck cd_least_stuck ct_least_stuck : Value}
    {f_most_wait : Addr} {od_most_wait an_most_wait : Option Addr} {sl_most_wait : Array (Option Value)} {oc_most_wait kV_most_wait dc_most_wait pm_most_wait cd_most_wait ct_most_wait : Value}
    {f_law : Addr} {od_law an_law : Option Addr} {sl_law : Array (Option Value)} {oc_law kV_law dc_law pm_law cd_law ct_law : Value}
    {tk_MOST_GROWTH : Tok}
    {tk_MOST_LISTED : Tok}
    {tk_MOST_TOLD : Tok}
    {tk_MOST_WAIT : Tok}
    (aC_TrailRule : PySem.W.nsIn K mainGlobals "TrailRule" = some (some (.ref A_TrailRule)))
    (pg_TrailRule : PySem.W.plainGet K A_TrailRule Str.empty = true)
    (hd_TrailRule : PySem.W.hasDictIn K A_TrailRule = true)
    (po_TrailRule : PySem.W.plainOver K A_TrailRule = true)
    (sa_TrailRule : PySem.W.findIn K (.ref A_TrailRule) "__setattr__" = some (some (.builtin "object.__setattr__")))
    (ha_TrailRule : PySem.W.findIn K (.ref A_TrailRule) "__class__" = some (some (.builtin "object.__class__")))
    (hm_TrailRule : PySem.W.mroIn K A_TrailRule (.type "object") = some true)
    (mk_TrailRule : PySem.W.makesIn K A_TrailRule = true)
    (kc_TrailRule : PySem.W.keepIn K (.ref A_TrailRule) = true)
    (aC_WayRule : PySem.W.nsIn K mainGlobals "WayRule" = some (some (.ref A_WayRule)))
    (hn : PySem.W.specialIn K (.builtin "object.__class__") "__get__" = some (some (.builtin "getset_descriptor.__get__")))
    (ht : PySem.W.takesIn K (.builtin "object.__class__") = some true)
    (na_own_growth_3 : PySem.W.findIn K (.ref A_TrailRule) "own_growth" = some none)
    (na_own_listed_3 : PySem.W.findIn K (.ref A_TrailRule) "own_listed" = some none)
    (a_law_begin : PySem.W.nsIn K mainGlobals "_law_begin" = some (some (.ref f_law_begin)))
    (l_law_begin : K.lookup f_law_begin = some ⟨oc_law_begin, od_law_begin, .func (PySem.W.fnOf "_law_begin" "_law_begin" (defArgs s_law_begin) (defBody s_law_begin) (defScope s_law_begin) .none kV_law_begin dc_law_begin pm_law_begin an_law_begin cd_law_begin ct_law_begin), sl_law_begin⟩)
    (c_law_begin : PySem.W.codeIn K cd_law_begin "_law_begin" = true)
    (k_law_begin : PySem.W.keepIn K (.ref f_law_begin) = true)
    (a_law_blend : PySem.W.nsIn K mainGlobals "_law_blend" = some (some (.ref f_law_blend)))
    (l_law_blend : K.lookup f_law_blend = some ⟨oc_law_blend, od_law_blend, .func (PySem.W.fnOf "_law_blend" "_law_blend" (defArgs s_law_blend) (defBody s_law_blend) (defScope s_law_blend) .none kV_law_blend dc_law_blend pm_law_blend an_law_blend cd_law_blend ct_law_blend), sl_law_blend⟩)
    (c_law_blend : PySem.W.codeIn K cd_law_blend "_law_blend" = true)
    (k_law_blend : PySem.W.keepIn K (.ref f_law_blend) = true)
    (a_law_take : PySem.W.nsIn K mainGlobals "_law_take" = some (some (.ref f_law_take)))
    (l_law_take : K.lookup f_law_take = some ⟨oc_law_take, od_law_take, .func (PySem.W.fnOf "_law_take" "_law_take" (defArgs s_law_take) (defBody s_law_take) (defScope s_law_take) .none kV_law_take dc_law_take pm_law_take an_law_take cd_law_take ct_law_take), sl_law_take⟩)
    (c_law_take : PySem.W.codeIn K cd_law_take "_law_take" = true)
    (k_law_take : PySem.W.keepIn K (.ref f_law_take) = true)
    (a_law_pick : PySem.W.nsIn K mainGlobals "_law_pick" = some (some (.ref f_law_pick)))
    (l_law_pick : K.lookup f_law_pick = some ⟨oc_law_pick, od_law_pick, .func (PySem.W.fnOf "_law_pick" "_law_pick" (defArgs s_law_pick) (defBody s_law_pick) (defScope s_law_pick) .none kV_law_pick dc_law_pick pm_law_pick an_law_pick cd_law_pick ct_law_pick), sl_law_pick⟩)
    (c_law_pick : PySem.W.codeIn K cd_law_pick "_law_pick" = true)
    (k_law_pick : PySem.W.keepIn K (.ref f_law_pick) = true)
    (a_law_trail_row : PySem.W.nsIn K mainGlobals "_law_trail_row" = some (some (.ref f_law_trail_row)))
    (l_law_trail_row : K.lookup f_law_trail_row = some ⟨oc_law_trail_row, od_law_trail_row, .func (PySem.W.fnOf "_law_trail_row" "_law_trail_row" (defArgs s_law_trail_row) (defBody s_law_trail_row) (defScope s_law_trail_row) .none kV_law_trail_row dc_law_trail_row pm_law_trail_row an_law_trail_row cd_law_trail_row ct_law_trail_row), sl_law_trail_row⟩)
    (c_law_trail_row : PySem.W.codeIn K cd_law_trail_row "_law_trail_row" = true)
    (k_law_trail_row : PySem.W.keepIn K (.ref f_law_trail_row) = true)
    (a_is_list : PySem.W.nsIn K mainGlobals "is_list" = some (some (.ref f_is_list)))
    (l_is_list : K.lookup f_is_list = some ⟨oc_is_list, od_is_list, .func (PySem.W.fnOf "is_list" "is_list" (defArgs s_is_list) (defBody s_is_list) (defScope s_is_list) .none kV_is_list dc_is_list pm_is_list an_is_list cd_is_list ct_is_list), sl_is_list⟩)
    (c_is_list : PySem.W.codeIn K cd_is_list "is_list" = true)
    (k_is_list : PySem.W.keepIn K (.ref f_is_list) = true)
    (a_is_number : PySem.W.nsIn K mainGlobals "is_number" = some (some (.ref f_is_number)))
    (l_is_number : K.lookup f_is_number = some ⟨oc_is_number, od_is_number, .func (PySem.W.fnOf "is_number" "is_number" (defArgs s_is_number) (defBody s_is_number) (defScope s_is_number) .none kV_is_number dc_is_number pm_is_number an_is_number cd_is_number ct_is_number), sl_is_number⟩)
    (c_is_number : PySem.W.codeIn K cd_is_number "is_number" = true)
    (k_is_number : PySem.W.keepIn K (.ref f_is_number) = true)
    (a_is_number_in : PySem.W.nsIn K mainGlobals "is_number_in" = some (some (.ref f_is_number_in)))
    (l_is_number_in : K.lookup f_is_number_in = some ⟨oc_is_number_in, od_is_number_in, .func (PySem.W.fnOf "is_number_in" "is_number_in" (defArgs s_is_number_in) (defBody s_is_number_in) (defScope s_is_number_in) .none kV_is_number_in dc_is_number_in pm_is_number_in an_is_number_in cd_is_number_in ct_is_number_in), sl_is_number_in⟩)
    (c_is_number_in : PySem.W.codeIn K cd_is_number_in "is_number_in" = true)
    (k_is_number_in : PySem.W.keepIn K (.ref f_is_number_in) = true)
    (a_TrailRule_init : PySem.W.findIn K (.ref A_TrailRule) "__init__" = some (some (.ref f_TrailRule_init)))
    (i_TrailRule_init : PySem.W.isFn K (.ref f_TrailRule_init) = true)
    (l_TrailRule_init : K.lookup f_TrailRule_init = some ⟨oc_TrailRule_init, od_TrailRule_init, .func (PySem.W.fnOf "__init__" "TrailRule.__init__" (defArgs s_TrailRule_init) (defBody s_TrailRule_init) (defScope s_TrailRule_init) .none kV_TrailRule_init dc_TrailRule_init pm_TrailRule_init an_TrailRule_init cd_TrailRule_init ct_TrailRule_init), sl_TrailRule_init⟩)
    (c_TrailRule_init : PySem.W.codeIn K cd_TrailRule_init "TrailRule.__init__" = true)
    (k_TrailRule_init : PySem.W.keepIn K (.ref f_TrailRule_init) = true)
    (a_law_until : PySem.W.nsIn K mainGlobals "_law_until" = some (some (.ref f_law_until)))
    (l_law_until : K.lookup f_law_until = some ⟨oc_law_until, od_law_until, .func (PySem.W.fnOf "_law_until" "_law_until" (defArgs s_law_until) (defBody s_law_until) (defScope s_law_until) .none kV_law_until dc_law_until pm_law_until an_law_until cd_law_until ct_law_until), sl_law_until⟩)
    (c_law_until : PySem.W.codeIn K cd_law_until "_law_until" = true)
    (k_law_until : PySem.W.keepIn K (.ref f_law_until) = true)
    (a_law_trail_losing : PySem.W.nsIn K mainGlobals "_law_trail_losing" = some (some (.ref f_law_trail_losing)))
    (l_law_trail_losing : K.lookup f_law_trail_losing = some ⟨oc_law_trail_losing, od_law_trail_losing, .func (PySem.W.fnOf "_law_trail_losing" "_law_trail_losing" (defArgs s_law_trail_losing) (defBody s_law_trail_losing) (defScope s_law_trail_losing) .none kV_law_trail_losing dc_law_trail_losing pm_law_trail_losing an_law_trail_losing cd_law_trail_losing ct_law_trail_losing), sl_law_trail_losing⟩)
    (c_law_trail_losing : PySem.W.codeIn K cd_law_trail_losing "_law_trail_losing" = true)
    (k_law_trail_losing : PySem.W.keepIn K (.ref f_law_trail_losing) = true)
    (a_need_wait : PySem.W.nsIn K mainGlobals "need_wait" = some (some (.ref f_need_wait)))
    (l_need_wait : K.lookup f_need_wait = some ⟨oc_need_wait, od_need_wait, .func (PySem.W.fnOf "need_wait" "need_wait" (defArgs s_need_wait) (defBody s_need_wait) (defScope s_need_wait) .none kV_need_wait dc_need_wait pm_need_wait an_need_wait cd_need_wait ct_need_wait), sl_need_wait⟩)
    (c_need_wait : PySem.W.codeIn K cd_need_wait "need_wait" = true)
    (k_need_wait : PySem.W.keepIn K (.ref f_need_wait) = true)
    (a_need_rule : PySem.W.nsIn K mainGlobals "need_rule" = some (some (.ref f_need_rule)))
    (l_need_rule : K.lookup f_need_rule = some ⟨oc_need_rule, od_need_rule, .func (PySem.W.fnOf "need_rule" "need_rule" (defArgs s_need_rule) (defBody s_need_rule) (defScope s_need_rule) .none kV_need_rule dc_need_rule pm_need_rule an_need_rule cd_need_rule ct_need_rule), sl_need_rule⟩)
    (c_need_rule : PySem.W.codeIn K cd_need_rule "need_rule" = true)
    (k_need_rule : PySem.W.keepIn K (.ref f_need_rule) = true)
    (a_tick_by : PySem.W.nsIn K mainGlobals "tick_by" = some (some (.ref f_tick_by)))
    (l_tick_by : K.lookup f_tick_by = some ⟨oc_tick_by, od_tick_by, .func (PySem.W.fnOf "tick_by" "tick_by" (defArgs s_tick_by) (defBody s_tick_by) (defScope s_tick_by) .none kV_tick_by dc_tick_by pm_tick_by an_tick_by cd_tick_by ct_tick_by), sl_tick_by⟩)
    (c_tick_by : PySem.W.codeIn K cd_tick_by "tick_by" = true)
    (k_tick_by : PySem.W.keepIn K (.ref f_tick_by) = true)
    (a_trail_losing : PySem.W.nsIn K mainGlobals "trail_losing" = some (some (.ref f_trail_losing)))
    (l_trail_losing : K.lookup f_trail_losing = some ⟨oc_trail_losing, od_trail_losing, .func (PySem.W.fnOf "trail_losing" "trail_losing" (defArgs s_trail_losing) (defBody s_trail_losing) (defScope s_trail_losing) .none kV_trail_losing dc_trail_losing pm_trail_losing an_trail_losing cd_trail_losing ct_trail_losing), sl_trail_losing⟩)
    (c_trail_losing : PySem.W.codeIn K cd_trail_losing "trail_losing" = true)
    (k_trail_losing : PySem.W.keepIn K (.ref f_trail_losing) = true)
    (a_least_losing : PySem.W.nsIn K mainGlobals "least_losing" = some (some (.ref f_least_losing)))
    (l_least_losing : K.lookup f_least_losing = some ⟨oc_least_losing, od_least_losing, .func (PySem.W.fnOf "least_losing" "least_losing" (defArgs s_least_losing) (defBody s_least_losing) (defScope s_least_losing) .none kV_least_losing dc_least_losing pm_least_losing an_least_losing cd_least_losing ct_least_losing), sl_least_losing⟩)
    (c_least_losing : PySem.W.codeIn K cd_least_losing "least_losing" = true)
    (k_least_losing : PySem.W.keepIn K (.ref f_least_losing) = true)
    (a_law_trail_stuck : PySem.W.nsIn K mainGlobals "_law_trail_stuck" = some (some (.ref f_law_trail_stuck)))
    (l_law_trail_stuck : K.lookup f_law_trail_stuck = some ⟨oc_law_trail_stuck, od_law_trail_stuck, .func (PySem.W.fnOf "_law_trail_stuck" "_law_trail_stuck" (defArgs s_law_trail_stuck) (defBody s_law_trail_stuck) (defScope s_law_trail_stuck) .none kV_law_trail_stuck dc_law_trail_stuck pm_law_trail_stuck an_law_trail_stuck cd_law_trail_stuck ct_law_trail_stuck), sl_law_trail_stuck⟩)
    (c_law_trail_stuck : PySem.W.codeIn K cd_law_trail_stuck "_law_trail_stuck" = true)
    (k_law_trail_stuck : PySem.W.keepIn K (.ref f_law_trail_stuck) = true)
    (a_trail_stuck : PySem.W.nsIn K mainGlobals "trail_stuck" = some (some (.ref f_trail_stuck)))
    (l_trail_stuck : K.lookup f_trail_stuck = some ⟨oc_trail_stuck, od_trail_stuck, .func (PySem.W.fnOf "trail_stuck" "trail_stuck" (defArgs s_trail_stuck) (defBody s_trail_stuck) (defScope s_trail_stuck) .none kV_trail_stuck dc_trail_stuck pm_trail_stuck an_trail_stuck cd_trail_stuck ct_trail_stuck), sl_trail_stuck⟩)
    (c_trail_stuck : PySem.W.codeIn K cd_trail_stuck "trail_stuck" = true)
    (k_trail_stuck : PySem.W.keepIn K (.ref f_trail_stuck) = true)
    (a_least_stuck : PySem.W.nsIn K mainGlobals "least_stuck" = some (some (.ref f_least_stuck)))
    (l_least_stuck : K.lookup f_least_stuck = some ⟨oc_least_stuck, od_least_stuck, .func (PySem.W.fnOf "least_stuck" "least_stuck" (defArgs s_least_stuck) (defBody s_least_stuck) (defScope s_least_stuck) .none kV_least_stuck dc_least_stuck pm_least_stuck an_least_stuck cd_least_stuck ct_least_stuck), sl_least_stuck⟩)
    (c_least_stuck : PySem.W.codeIn K cd_least_stuck "least_stuck" = true)
    (k_least_stuck : PySem.W.keepIn K (.ref f_least_stuck) = true)
    (a_most_wait : PySem.W.nsIn K mainGlobals "most_wait" = some (some (.ref f_most_wait)))
    (l_most_wait : K.lookup f_most_wait = some ⟨oc_most_wait, od_most_wait, .func (PySem.W.fnOf "most_wait" "most_wait" (defArgs s_most_wait) (defBody s_most_wait) (defScope s_most_wait) .none kV_most_wait dc_most_wait pm_most_wait an_most_wait cd_most_wait ct_most_wait), sl_most_wait⟩)
    (c_most_wait : PySem.W.codeIn K cd_most_wait "most_wait" = true)
    (k_most_wait : PySem.W.keepIn K (.ref f_most_wait) = true)
    (a_law : PySem.W.nsIn K mainGlobals "law" = some (some (.ref f_law)))
    (l_law : K.lookup f_law = some ⟨oc_law, od_law, .func (PySem.W.fnOf "law" "law" (defArgs s_law) (defBody s_law) (defScope s_law) .none kV_law dc_law pm_law an_law cd_law ct_law), sl_law⟩)
    (c_law : PySem.W.codeIn K cd_law "law" = true)
    (k_law : PySem.W.keepIn K (.ref f_law) = true)
    (z_abs : PySem.W.nsIn K mainGlobals "abs" = some none)
    (z_all : PySem.W.nsIn K mainGlobals "all" = some none)
    (z_bool : PySem.W.nsIn K mainGlobals "bool" = some none)
    (z_int : PySem.W.nsIn K mainGlobals "int" = some none)
    (z_isinstance : PySem.W.nsIn K mainGlobals "isinstance" = some none)
    (z_len : PySem.W.nsIn K mainGlobals "len" = some none)
    (z_list : PySem.W.nsIn K mainGlobals "list" = some none)
    (z_max : PySem.W.nsIn K mainGlobals "max" = some none)
    (z_min : PySem.W.nsIn K mainGlobals "min" = some none)
    (z_range : PySem.W.nsIn K mainGlobals "range" = some none)
    (z_repr : PySem.W.nsIn K mainGlobals "repr" = some none)
    (z_tuple : PySem.W.nsIn K mainGlobals "tuple" = some none)
    (q_MOST_GROWTH : PySem.W.nsIn K mainGlobals "MOST_GROWTH" = some (some (.int 10 tk_MOST_GROWTH)))
    (q_MOST_LISTED : PySem.W.nsIn K mainGlobals "MOST_LISTED" = some (some (.int 4 tk_MOST_LISTED)))
    (q_MOST_TOLD : PySem.W.nsIn K mainGlobals "MOST_TOLD" = some (some (.int 40 tk_MOST_TOLD)))
    (q_MOST_WAIT : PySem.W.nsIn K mainGlobals "MOST_WAIT" = some (some (.int 5 tk_MOST_WAIT))) : Tied K mg := ⟨{
    hK := rfl
    hT := rfl
    n_abs := PySem.W.mg_none_of X Gn z_abs
    n_all := PySem.W.mg_none_of X Gn z_all
    n_bool := PySem.W.mg_none_of X Gn z_bool
    n_int := PySem.W.mg_none_of X Gn z_int
    n_isinstance := PySem.W.mg_none_of X Gn z_isinstance
    n_len := PySem.W.mg_none_of X Gn z_len
    n_list := PySem.W.mg_none_of X Gn z_list
    n_max := PySem.W.mg_none_of X Gn z_max
    n_min := PySem.W.mg_none_of X Gn z_min
    n_range := PySem.W.mg_none_of X Gn z_range
    n_repr := PySem.W.mg_none_of X Gn z_repr
    n_tuple := PySem.W.mg_none_of X Gn z_tuple
    c_MOST_GROWTH := ⟨_, PySem.W.mg_of X Gn q_MOST_GROWTH, ⟨_, rfl⟩⟩
    c_MOST_LISTED := ⟨_, PySem.W.mg_of X Gn q_MOST_LISTED, ⟨_, rfl⟩⟩
    c_MOST_TOLD := ⟨_, PySem.W.mg_of X Gn q_MOST_TOLD, ⟨_, rfl⟩⟩
    c_MOST_WAIT := ⟨_, PySem.W.mg_of X Gn q_MOST_WAIT, ⟨_, rfl⟩⟩
    f_law_begin := f_law_begin
    fd_law_begin := _
    F_law_begin := fun_mk (st := s_law_begin) l_law_begin c_law_begin k_law_begin
    b_law_begin := (fun_mk (st := s_law_begin) l_law_begin c_law_begin k_law_begin).binds (ps := ["_law_script"]) fun _ _ _ _ _ _ us hl => match us, hl with | [_], _ => rfl
    g_law_begin := PySem.W.mg_of X Gn a_law_begin
    f_law_blend := f_law_blend
    fd_law_blend := _
    F_law_blend := fun_mk (st := s_law_blend) l_law_blend c_law_blend k_law_blend
    b_law_blend := (fun_mk (st := s_law_blend) l_law_blend c_law_blend k_law_blend).binds (ps := ["_law_draw"]) fun _ _ _ _ _ _ us hl => match us, hl with | [_], _ => rfl
    g_law_blend := PySem.W.mg_of X Gn a_law_blend
    f_law_take := f_law_take
    fd_law_take := _
    F_law_take := fun_mk (st := s_law_take) l_law_take c_law_take k_law_take
    b_law_take := (fun_mk (st := s_law_take) l_law_take c_law_take k_law_take).binds (ps := ["_law_draw", "_law_size"]) fun _ _ _ _ _ _ us hl => match us, hl with | [_, _], _ => rfl
    g_law_take := PySem.W.mg_of X Gn a_law_take
    f_law_pick := f_law_pick
    fd_law_pick := _
    F_law_pick := fun_mk (st := s_law_pick) l_law_pick c_law_pick k_law_pick
    b_law_pick := (fun_mk (st := s_law_pick) l_law_pick c_law_pick k_law_pick).binds (ps := ["_law_draw", "_law_some"]) fun _ _ _ _ _ _ us hl => match us, hl with | [_, _], _ => rfl
    g_law_pick := PySem.W.mg_of X Gn a_law_pick
    f_law_trail_row := f_law_trail_row
    fd_law_trail_row := _
    F_law_trail_row := fun_mk (st := s_law_trail_row) l_law_trail_row c_law_trail_row k_law_trail_row
    b_law_trail_row := (fun_mk (st := s_law_trail_row) l_law_trail_row c_law_trail_row k_law_trail_row).binds (ps := ["_law_draw"]) fun _ _ _ _ _ _ us hl => match us, hl with | [_], _ => rfl
    g_law_trail_row := PySem.W.mg_of X Gn a_law_trail_row
    f_is_list := f_is_list
    fd_is_list := _
    F_is_list := fun_mk (st := s_is_list) l_is_list c_is_list k_is_list
    b_is_list := (fun_mk (st := s_is_list) l_is_list c_is_list k_is_list).binds (ps := ["thing"]) fun _ _ _ _ _ _ us hl => match us, hl with | [_], _ => rfl
    g_is_list := PySem.W.mg_of X Gn a_is_list
    f_is_number := f_is_number
    fd_is_number := _
    F_is_number := fun_mk (st := s_is_number) l_is_number c_is_number k_is_number
    b_is_number := (fun_mk (st := s_is_number) l_is_number c_is_number k_is_number).binds (ps := ["thing"]) fun _ _ _ _ _ _ us hl => match us, hl with | [_], _ => rfl
    g_is_number := PySem.W.mg_of X Gn a_is_number
    f_is_number_in := f_is_number_in
    fd_is_number_in := _
    F_is_number_in := fun_mk (st := s_is_number_in) l_is_number_in c_is_number_in k_is_number_in
    b_is_number_in := (fun_mk (st := s_is_number_in) l_is_number_in c_is_number_in k_is_number_in).binds (ps := ["thing", "least", "most"]) fun _ _ _ _ _ _ us hl => match us, hl with | [_, _, _], _ => rfl
    g_is_number_in := PySem.W.mg_of X Gn a_is_number_in
    f_TrailRule_init := f_TrailRule_init
    fd_TrailRule_init := _
    F_TrailRule_init := fun_mk (st := s_TrailRule_init) l_TrailRule_init c_TrailRule_init k_TrailRule_init
    b_TrailRule_init := (fun_mk (st := s_TrailRule_init) l_TrailRule_init c_TrailRule_init k_TrailRule_init).binds (ps := ["self", "listed", "growth"]) fun _ _ _ _ _ _ us hl => match us, hl with | [_, _, _], _ => rfl
    f_law_until := f_law_until
    fd_law_until := _
    F_law_until := fun_mk (st := s_law_until) l_law_until c_law_until k_law_until
    b_law_until := (fun_mk (st := s_law_until) l_law_until c_law_until k_law_until).binds (ps := ["_law_row", "_law_size"]) fun _ _ _ _ _ _ us hl => match us, hl with | [_, _], _ => rfl
    g_law_until := PySem.W.mg_of X Gn a_law_until
    f_law_trail_losing := f_law_trail_losing
    fd_law_trail_losing := _
    F_law_trail_losing := fun_mk (st := s_law_trail_losing) l_law_trail_losing c_law_trail_losing k_law_trail_losing
    b_law_trail_losing := (fun_mk (st := s_law_trail_losing) l_law_trail_losing c_law_trail_losing k_law_trail_losing).binds (ps := ["_law_row"]) fun _ _ _ _ _ _ us hl => match us, hl with | [_], _ => rfl
    g_law_trail_losing := PySem.W.mg_of X Gn a_law_trail_losing
    f_need_wait := f_need_wait
    fd_need_wait := _
    F_need_wait := fun_mk (st := s_need_wait) l_need_wait c_need_wait k_need_wait
    b_need_wait := (fun_mk (st := s_need_wait) l_need_wait c_need_wait k_need_wait).binds (ps := ["wait"]) fun _ _ _ _ _ _ us hl => match us, hl with | [_], _ => rfl
    g_need_wait := PySem.W.mg_of X Gn a_need_wait
    f_need_rule := f_need_rule
    fd_need_rule := _
    F_need_rule := fun_mk (st := s_need_rule) l_need_rule c_need_rule k_need_rule
    b_need_rule := (fun_mk (st := s_need_rule) l_need_rule c_need_rule k_need_rule).binds (ps := ["rule", "wait"]) fun _ _ _ _ _ _ us hl => match us, hl with | [_, _], _ => rfl
    g_need_rule := PySem.W.mg_of X Gn a_need_rule
    f_tick_by := f_tick_by
    fd_tick_by := _
    F_tick_by := fun_mk (st := s_tick_by) l_tick_by c_tick_by k_tick_by
    b_tick_by := (fun_mk (st := s_tick_by) l_tick_by c_tick_by k_tick_by).binds (ps := ["rule", "length"]) fun _ _ _ _ _ _ us hl => match us, hl with | [_, _], _ => rfl
    g_tick_by := PySem.W.mg_of X Gn a_tick_by
    f_trail_losing := f_trail_losing
    fd_trail_losing := _
    F_trail_losing := fun_mk (st := s_trail_losing) l_trail_losing c_trail_losing k_trail_losing
    b_trail_losing := (fun_mk (st := s_trail_losing) l_trail_losing c_trail_losing k_trail_losing).binds (ps := ["rule", "wait"]) fun _ _ _ _ _ _ us hl => match us, hl with | [_, _], _ => rfl
    g_trail_losing := PySem.W.mg_of X Gn a_trail_losing
    f_least_losing := f_least_losing
    fd_least_losing := _
    F_least_losing := fun_mk (st := s_least_losing) l_least_losing c_least_losing k_least_losing
    b_least_losing := (fun_mk (st := s_least_losing) l_least_losing c_least_losing k_least_losing).binds (ps := ["rule", "wait"]) fun _ _ _ _ _ _ us hl => match us, hl with | [_, _], _ => rfl
    g_least_losing := PySem.W.mg_of X Gn a_least_losing
    f_law_trail_stuck := f_law_trail_stuck
    fd_law_trail_stuck := _
    F_law_trail_stuck := fun_mk (st := s_law_trail_stuck) l_law_trail_stuck c_law_trail_stuck k_law_trail_stuck
    b_law_trail_stuck := (fun_mk (st := s_law_trail_stuck) l_law_trail_stuck c_law_trail_stuck k_law_trail_stuck).binds (ps := ["_law_row"]) fun _ _ _ _ _ _ us hl => match us, hl with | [_], _ => rfl
    g_law_trail_stuck := PySem.W.mg_of X Gn a_law_trail_stuck
    f_trail_stuck := f_trail_stuck
    fd_trail_stuck := _
    F_trail_stuck := fun_mk (st := s_trail_stuck) l_trail_stuck c_trail_stuck k_trail_stuck
    b_trail_stuck := (fun_mk (st := s_trail_stuck) l_trail_stuck c_trail_stuck k_trail_stuck).binds (ps := ["rule", "wait"]) fun _ _ _ _ _ _ us hl => match us, hl with | [_, _], _ => rfl
    g_trail_stuck := PySem.W.mg_of X Gn a_trail_stuck
    f_least_stuck := f_least_stuck
    fd_least_stuck := _
    F_least_stuck := fun_mk (st := s_least_stuck) l_least_stuck c_least_stuck k_least_stuck
    b_least_stuck := (fun_mk (st := s_least_stuck) l_least_stuck c_least_stuck k_least_stuck).binds (ps := ["rule", "wait"]) fun _ _ _ _ _ _ us hl => match us, hl with | [_, _], _ => rfl
    g_least_stuck := PySem.W.mg_of X Gn a_least_stuck
    f_most_wait := f_most_wait
    fd_most_wait := _
    F_most_wait := fun_mk (st := s_most_wait) l_most_wait c_most_wait k_most_wait
    b_most_wait := (fun_mk (st := s_most_wait) l_most_wait c_most_wait k_most_wait).binds (ps := ["rule"]) fun _ _ _ _ _ _ us hl => match us, hl with | [_], _ => rfl
    g_most_wait := PySem.W.mg_of X Gn a_most_wait
    f_law := f_law
    fd_law := _
    F_law := fun_mk (st := s_law) l_law c_law k_law
    b_law := (fun_mk (st := s_law) l_law c_law k_law).binds (ps := ["_law_script"]) fun _ _ _ _ _ _ us hl => match us, hl with | [_], _ => rfl
    g_law := PySem.W.mg_of X Gn a_law
    kb_least_losing_0_wait_rule := kb_of (fun_mk (st := s_least_losing) l_least_losing c_least_losing k_least_losing) fun _ _ _ _ _ _ us ws h1 h2 => match us, ws, h1, h2 with | [], [_, _], _, _ => rfl
    kb_least_stuck_0_wait_rule := kb_of (fun_mk (st := s_least_stuck) l_least_stuck c_least_stuck k_least_stuck) fun _ _ _ _ _ _ us ws h1 h2 => match us, ws, h1, h2 with | [], [_, _], _, _ => rfl
    kb_most_wait_0_rule := kb_of (fun_mk (st := s_most_wait) l_most_wait c_most_wait k_most_wait) fun _ _ _ _ _ _ us ws h1 h2 => match us, ws, h1, h2 with | [], [_], _, _ => rfl
    A_TrailRule := A_TrailRule
    gc_TrailRule := PySem.W.mg_of X Gn aC_TrailRule
    cm_TrailRule := cm_at (PySem.W.mg_of X Gn aC_TrailRule)
    mk_TrailRule := ⟨mk_TrailRule, a_TrailRule_init, i_TrailRule_init, kc_TrailRule⟩
    A_WayRule := A_WayRule
    gc_WayRule := PySem.W.mg_of X Gn aC_WayRule
    cm_WayRule := cm_at (PySem.W.mg_of X Gn aC_WayRule)
    a_own_growth := (fld_cons (cm_at (PySem.W.mg_of X Gn aC_TrailRule)) ⟨pg_TrailRule, hd_TrailRule, po_TrailRule, sa_TrailRule⟩ na_own_growth_3 fld_nil)
    a_own_listed := (fld_cons (cm_at (PySem.W.mg_of X Gn aC_TrailRule)) ⟨pg_TrailRule, hd_TrailRule, po_TrailRule, sa_TrailRule⟩ na_own_listed_3 fld_nil)
    isi_TrailRule := (isi_cons (cm_at (PySem.W.mg_of X Gn aC_TrailRule)) (clsI_mk pg_TrailRule hd_TrailRule po_TrailRule sa_TrailRule ha_TrailRule hn ht hm_TrailRule) kit_self isi_nil)
    isi_TrailRule_WayRule := (isi_cons (cm_at (PySem.W.mg_of X Gn aC_TrailRule)) (clsI_mk pg_TrailRule hd_TrailRule po_TrailRule sa_TrailRule ha_TrailRule hn ht hm_TrailRule) kit_self isi_nil) }, PySem.W.mg_of X Gn a_law, fun s u => .of_eq rfl⟩
end Lk55
open PySem PySem.W PyProof.Rows
set_option maxHeartbeats 0 in
theorem PySem.Challenge.cw_handlocks_k55_rules_by_trails_holds : PySem.Challenge.rw_handlocks_k55_rules_by_trails.Holds := by
  w_on; o_law; k_head; (case hw => w_witness2)
  k_fill
  refine VL.lawWalk (l := PySem.Challenge.rw_handlocks_k55_rules_by_trails) (n := 63) (k := 7) (x := "_law_script") (GG := fun wd mg => Lk55.GG _ mg) (m := Lk55.D_law) rfl (by decide) rfl ⟨rfl, by decide, by decide⟩ (fun w h Y => PySem.W.kIn_of Y) (fun _ _ => ⟨rfl, rfl⟩) ?F Lk55.plain
  case F =>
    intro w mg fa h KX G hmg
    refine Lk55.tied hmg (?_ : Lk55.Tied _ mg)
    refine' Lk55.tie_mk KX G ?aC_TrailRule ?pg_TrailRule ?hd_TrailRule ?po_TrailRule ?sa_TrailRule ?ha_TrailRule ?hm_TrailRule ?mk_TrailRule ?kc_TrailRule ?aC_WayRule ?hn ?ht ?na_own_growth_3 ?na_own_listed_3 ?a_law_begin ?l_law_begin ?c_law_begin ?k_law_begin ?a_law_blend ?l_law_blend ?c_law_blend ?k_law_blend ?a_law_take ?l_law_take ?c_law_take ?k_law_take ?a_law_pick ?l_law_pick ?c_law_pick ?k_law_pick ?a_law_trail_row ?l_law_trail_row ?c_law_trail_row ?k_law_trail_row ?a_is_list ?l_is_list ?c_is_list ?k_is_list ?a_is_number ?l_is_number ?c_is_number ?k_is_number ?a_is_number_in ?l_is_number_in ?c_is_number_in ?k_is_number_in ?a_TrailRule_init ?i_TrailRule_init ?l_TrailRule_init ?c_TrailRule_init ?k_TrailRule_init ?a_law_until ?l_law_until ?c_law_until ?k_law_until ?a_law_trail_losing ?l_law_trail_losing ?c_law_trail_losing ?k_law_trail_losing ?a_need_wait ?l_need_wait ?c_need_wait ?k_need_wait ?a_need_rule ?l_need_rule ?c_need_rule ?k_need_rule ?a_tick_by ?l_tick_by ?c_tick_by ?k_tick_by ?a_trail_losing ?l_trail_losing ?c_trail_losing ?k_trail_losing ?a_least_losing ?l_least_losing ?c_least_losing ?k_least_losing ?a_law_trail_stuck ?l_law_trail_stuck ?c_law_trail_stuck ?k_law_trail_stuck ?a_trail_stuck ?l_trail_stuck ?c_trail_stuck ?k_trail_stuck ?a_least_stuck ?l_least_stuck ?c_least_stuck ?k_least_stuck ?a_most_wait ?l_most_wait ?c_most_wait ?k_most_wait ?a_law ?l_law ?c_law ?k_law ?z_abs ?z_all ?z_bool ?z_int ?z_isinstance ?z_len ?z_list ?z_max ?z_min ?z_range ?z_repr ?z_tuple ?q_MOST_GROWTH ?q_MOST_LISTED ?q_MOST_TOLD ?q_MOST_WAIT
    (case aC_TrailRule => k_is)
    (case pg_TrailRule => k_is)
    (case hd_TrailRule => k_is)
    (case po_TrailRule => k_is)
    (case sa_TrailRule => k_is)
    (case ha_TrailRule => k_is)
    (case hm_TrailRule => k_is)
    (case mk_TrailRule => k_is)
    (case kc_TrailRule => k_is)
    (case aC_WayRule => k_is)
    (case hn => k_is)
    (case ht => k_is)
    (case na_own_growth_3 => k_is)
    (case na_own_listed_3 => k_is)
    (case a_law_begin => k_is)
    (case l_law_begin => k_is)
    (case c_law_begin => k_is)
    (case k_law_begin => k_is)
    (case a_law_blend => k_is)
    (case l_law_blend => k_is)
    (case c_law_blend => k_is)
    (case k_law_blend => k_is)
    (case a_law_take => k_is)
    (case l_law_take => k_is)
    (case c_law_take => k_is)
    (case k_law_take => k_is)
    (case a_law_pick => k_is)
    (case l_law_pick => k_is)
    (case c_law_pick => k_is)
    (case k_law_pick => k_is)
    (case a_law_trail_row => k_is)
    (case l_law_trail_row => k_is)
    (case c_law_trail_row => k_is)
    (case k_law_trail_row => k_is)
    (case a_is_list => k_is)
    (case l_is_list => k_is)
    (case c_is_list => k_is)
    (case k_is_list => k_is)
    (case a_is_number => k_is)
    (case l_is_number => k_is)
    (case c_is_number => k_is)
    (case k_is_number => k_is)
    (case a_is_number_in => k_is)
    (case l_is_number_in => k_is)
    (case c_is_number_in => k_is)
    (case k_is_number_in => k_is)
    (case a_TrailRule_init => k_is)
    (case i_TrailRule_init => k_is)
    (case l_TrailRule_init => k_is)
    (case c_TrailRule_init => k_is)
    (case k_TrailRule_init => k_is)
    (case a_law_until => k_is)
    (case l_law_until => k_is)
    (case c_law_until => k_is)
    (case k_law_until => k_is)
    (case a_law_trail_losing => k_is)
    (case l_law_trail_losing => k_is)
    (case c_law_trail_losing => k_is)
    (case k_law_trail_losing => k_is)
    (case a_need_wait => k_is)
    (case l_need_wait => k_is)
    (case c_need_wait => k_is)
    (case k_need_wait => k_is)
    (case a_need_rule => k_is)
    (case l_need_rule => k_is)
    (case c_need_rule => k_is)
    (case k_need_rule => k_is)
    (case a_tick_by => k_is)
    (case l_tick_by => k_is)
    (case c_tick_by => k_is)
    (case k_tick_by => k_is)
    (case a_trail_losing => k_is)
    (case l_trail_losing => k_is)
    (case c_trail_losing => k_is)
    (case k_trail_losing => k_is)
    (case a_least_losing => k_is)
    (case l_least_losing => k_is)
    (case c_least_losing => k_is)
    (case k_least_losing => k_is)
    (case a_law_trail_stuck => k_is)
    (case l_law_trail_stuck => k_is)
    (case c_law_trail_stuck => k_is)
    (case k_law_trail_stuck => k_is)
    (case a_trail_stuck => k_is)
    (case l_trail_stuck => k_is)
    (case c_trail_stuck => k_is)
    (case k_trail_stuck => k_is)
    (case a_least_stuck => k_is)
    (case l_least_stuck => k_is)
    (case c_least_stuck => k_is)
    (case k_least_stuck => k_is)
    (case a_most_wait => k_is)
    (case l_most_wait => k_is)
    (case c_most_wait => k_is)
    (case k_most_wait => k_is)
    (case a_law => k_is)
    (case l_law => k_is)
    (case c_law => k_is)
    (case k_law => k_is)
    (case z_abs => k_is)
    (case z_all => k_is)
    (case z_bool => k_is)
    (case z_int => k_is)
    (case z_isinstance => k_is)
    (case z_len => k_is)
    (case z_list => k_is)
    (case z_max => k_is)
    (case z_min => k_is)
    (case z_range => k_is)
    (case z_repr => k_is)
    (case z_tuple => k_is)
    (case q_MOST_GROWTH => k_is)
    (case q_MOST_LISTED => k_is)
    (case q_MOST_TOLD => k_is)
    (case q_MOST_WAIT => k_is)
