import PyProof.Rows.All
import HandS.ForMost
import HandS.ForExc
import HandS.IsInst
import HandS.Property
import HandS.Wide
import HandS.Flow
import HandS.Lambda
import HandS.Deep
import KE.KExcIs
import HandS.ExcField
import HandS.TupAny
import HandS.Style
import Wide.All
import OpenK.AllK
import Wide.FinOn
import KE.KSuper
import KE.KExcSuper
import HandS.Exc
import HandS.ExcInit
import KE.KExcStr
import HandS.ExcValue
import HandS.Iter
import KE.RegKIsAll
import PySem.Challenge.RW_handlocks_k01_errors_by_hand
set_option Elab.async false
set_option linter.all false
set_option maxRecDepth 100000
/-! VL1: plain data, what stands for it in the abstract heap, slots with ownership, the readings of expressions. -/
namespace VL
open PySem PySem.Spec PyProof.Rows L2

/-- plain data -/
inductive D where
  | non | bl (b : Bool) | int (i : Int) | str (x : Str)
  | tup (l : List D) | lst (l : List D)
  | dK (l : List (Key × D)) | dT (l : List (List Key × D))
  | ins (c : Nat) (fs : List (Str × D))
  | exc (c : Nat) (fs : List (Str × D)) | exs (c : Nat) (x : Str)
  | drw (great : List Int) (rest : Int) (cells : List Int) (turn : Int)
  | scr (ns : List Int)
  deriving Inhabited

/-- how a slot holds its datum: frozen for good, owned, owned by the caller and lent for change, lent to be read -/
inductive Fl where | fz | ow | pn | lk
  deriving DecidableEq
/-- how a value comes: frozen, a new owned object, read off an owned slot -/
inductive Kd where | fz | ow | br
  deriving DecidableEq
abbrev St := L2.St
abbrev Slot := Option (D × Fl)
abbrev Env := List Slot

inductive Res (α : Type) where
  | ok (a : α)
  | err (c : Nat) (d : D) (ρ : Env)
  | bad
def Res.bind {α β : Type} (x : Res α) (f : α → Res β) : Res β := match x with
  | .ok a => f a
  | .err c d ρ => .err c d ρ
  | .bad => .bad
instance : Monad Res where
  pure := Res.ok
  bind := Res.bind
@[simp] theorem Res.bind_ok {α β : Type} (a : α) (f : α → Res β) : (Res.ok a >>= f) = f a := rfl
@[simp] theorem Res.bind_bad {α β : Type} (f : α → Res β) : ((Res.bad : Res α) >>= f) = Res.bad := rfl
@[simp] theorem Res.bind_err {α β : Type} (c : Nat) (d : D) (ρ : Env) (f : α → Res β) : ((Res.err c d ρ : Res α) >>= f) = Res.err c d ρ := rfl
@[simp] theorem Res.pure_ok {α : Type} (a : α) : (pure a : Res α) = Res.ok a := rfl

/-- the law's own context: the written part, the classes by number, the tables of code objects -/
structure Gm where
  K : PySem.W.Frag
  cm : Nat → Option Addr
  T : List (Addr × Str)

def atomD : V → Option D
  | .non => some .non
  | .bl b => some (.bl b)
  | .int i => some (.int i)
  | .str x => some (.str x)
  | _ => none

/-- the tuple at a is a part of the written text -/
def KTup (K : PySem.W.Frag) (a : Addr) (xs : List V) : Prop :=
  ∃ (o : Obj) (its : Array Value) (n : Nat), K.lookup a = some o ∧ o.cls = .type "tuple" ∧ o.data = .seq its n ∧ its.size ≤ sizeLine ∧ Vals xs its.toList

/-- .. a list of ints, as the law's script may be -/
def KLst (K : PySem.W.Frag) (a : Addr) (xs : List V) : Prop :=
  ∃ (o : Obj) (its : Array Value) (n : Nat), K.lookup a = some o ∧ o.cls = .type "list" ∧ o.dict = none ∧ o.data = .seq its n ∧ its.size ≤ sizeLine ∧ Vals xs its.toList

/-- an exception's object of the class at C, its dict at dx -/
def exv (a C dx : Addr) : HO := .ext fun h => ∃ (oe : Obj) (vs : Array Value), h.get? a = some oe ∧ Zc (.ref C) (some dx) oe ∧ oe.data = .fields vs
/-- one without a dict, its arguments in the tuple at ta -/
def exw (a C ta : Addr) : HO := .ext fun h => ∃ (oe : Obj) (vs : Array Value), h.get? a = some oe ∧ Zc (.ref C) none oe ∧ oe.data = .fields vs ∧ vs[0]? = some (.ref ta)
/-- values that stand for data, within the frozen region F -/
inductive Rep (G : Gm) (F : Addr → Prop) (H : Hp) : List V → List D → Prop
  | nil : Rep G F H [] []
  | atom {v d vs ds} : atomD v = some d → Rep G F H vs ds → Rep G F H (v :: vs) (d :: ds)
  | tup {a ws es vs ds} : F a → H a = some (.tup ws) → ws.length ≤ sizeLine → Rep G F H ws es → Rep G F H vs ds → Rep G F H (.ref a :: vs) (.tup es :: ds)
  | tupK {a ws es vs ds} : KTup G.K a ws → ws.length ≤ sizeLine → Rep G F H ws es → Rep G F H vs ds → Rep G F H (.ref a :: vs) (.tup es :: ds)
  | lst {a ws es vs ds} : F a → H a = some (.lst ws) → ws.length ≤ sizeLine → Rep G F H ws es → Rep G F H vs ds → Rep G F H (.ref a :: vs) (.lst es :: ds)
  | scr {a o ns vs ds} : F a → H a = some (.frz o (.lst (ns.map V.int))) → ns.length ≤ sizeLine → Rep G F H vs ds → Rep G F H (.ref a :: vs) (.scr ns :: ds)
  | scrK {a ns vs ds} : KLst G.K a (ns.map V.int) → ns.length ≤ sizeLine → Rep G F H vs ds → Rep G F H (.ref a :: vs) (.scr ns :: ds)
  | dK {a} {ws : List (Key × V)} {es : List (Key × D)} {vs ds} : F a → H a = some (.dK ws) → ws.length ≤ sizeLine → ws.map (·.1) = es.map (·.1) → Rep G F H (ws.map (·.2)) (es.map (·.2)) → Rep G F H vs ds → Rep G F H (.ref a :: vs) (.dK es :: ds)
  | dT {a} {ws : List (List Key × V)} {es : List (List Key × D)} {vs ds} : F a → H a = some (.dT ws) → ws.length ≤ sizeLine → ws.map (·.1) = es.map (·.1) → Rep G F H (ws.map (·.2)) (es.map (·.2)) → Rep G F H vs ds → Rep G F H (.ref a :: vs) (.dT es :: ds)
  | ins {a C dx c} {ws : List (Str × V)} {es : List (Str × D)} {vs ds} : F a → H a = some (.ins C dx ws) → G.cm c = some C → ws.map (·.1) = es.map (·.1) → Rep G F H (ws.map (·.2)) (es.map (·.2)) → Rep G F H vs ds → Rep G F H (.ref a :: vs) (.ins c es :: ds)
  | exc {a C dx c} {ws : List (Str × V)} {es : List (Str × D)} {vs ds} : F a → H a = some (exv a C dx) → F dx → H dx = some (.xd ws) → G.cm c = some C → ws.map (·.1) = es.map (·.1) → Rep G F H (ws.map (·.2)) (es.map (·.2)) → Rep G F H vs ds → Rep G F H (.ref a :: vs) (.exc c es :: ds)
  | exs {a C ta c x vs ds} : F a → H a = some (exw a C ta) → F ta → H ta = some (.tup [.str x]) → G.cm c = some C → Rep G F H vs ds → Rep G F H (.ref a :: vs) (.exs c x :: ds)

/-- one object that may be changed, by its datum; its parts are frozen -/
def Objs (G : Gm) (F : Addr → Prop) (H : Hp) (a : Addr) : D → Prop
  | .lst es => ∃ ws, H a = some (.lst ws) ∧ ws.length ≤ sizeLine ∧ Rep G F H ws es
  | .dK es => ∃ ws : List (Key × V), H a = some (.dK ws) ∧ ws.length ≤ sizeLine ∧ ws.map (·.1) = es.map (·.1) ∧ Rep G F H (ws.map (·.2)) (es.map (·.2))
  | .dT es => ∃ ws : List (List Key × V), H a = some (.dT ws) ∧ ws.length ≤ sizeLine ∧ ws.map (·.1) = es.map (·.1) ∧ Rep G F H (ws.map (·.2)) (es.map (·.2))
  | .ins c es => ∃ (C dx : Addr) (ws : List (Str × V)), H a = some (.ins C dx ws) ∧ G.cm c = some C ∧ ws.map (·.1) = es.map (·.1) ∧ Rep G F H (ws.map (·.2)) (es.map (·.2))
  | _ => False

def kw (x : Str) : Key := Sum.inr x
/-- the state of the draws -/
def DrwAt (H : Hp) (a g c : Addr) (gr : List Int) (r : Int) (ce : List Int) (t : Int) : Prop :=
  H a = some (.dK [(kw "great", .ref g), (kw "rest", .int r), (kw "cells", .ref c), (kw "turn", .int t)]) ∧ H g = some (.lst (gr.map V.int)) ∧ H c = some (.lst (ce.map V.int)) ∧ a ≠ g

/-- a value, its datum, the addresses that it owns -/
inductive Own (G : Gm) (F : Addr → Prop) (H : Hp) : V → D → List Addr → Prop
  | fz {v d} : Rep G F H [v] [d] → Own G F H v d []
  | ow {a d} : ¬ F a → Objs G F H a d → Own G F H (.ref a) d [a]
  | drw {a g c gr r ce t} : ¬ F a → ¬ F g → F c → gr.length ≤ sizeLine → ce.length ≤ sizeLine → DrwAt H a g c gr r ce t → Own G F H (.ref a) (.drw gr r ce t) [a, g]

/-- o: what the owned slots own, p: what the lent ones own, b: what is lent to be read -/
inductive Slots (G : Gm) (F : Addr → Prop) (H : Hp) : Env → St → List Addr → List Addr → List Addr → Prop
  | nil : Slots G F H [] [] [] [] []
  | none {x ρ σ o p b} : Slots G F H ρ σ o p b → Slots G F H (none :: ρ) (x :: σ) o p b
  | fz {v d ρ σ o p b} : Rep G F H [v] [d] → Slots G F H ρ σ o p b → Slots G F H (some (d, .fz) :: ρ) (some v :: σ) o p b
  | ow {v d fp ρ σ o p b} : Own G F H v d fp → fp ≠ [] → Slots G F H ρ σ o p b → Slots G F H (some (d, .ow) :: ρ) (some v :: σ) (fp ++ o) p b
  | pn {v d fp ρ σ o p b} : Own G F H v d fp → fp ≠ [] → Slots G F H ρ σ o p b → Slots G F H (some (d, .pn) :: ρ) (some v :: σ) o (fp ++ p) b
  | lk {v d fp ρ σ o p b} : Own G F H v d fp → Slots G F H ρ σ o p b → Slots G F H (some (d, .lk) :: ρ) (some v :: σ) o p (fp ++ b)

/-! ### how these carry over -/
def isTbl : HO → Bool
  | .tbl _ => true
  | _ => false
/-- all tracked objects outside m are kept -/
def Kept (m : List Addr) (H H' : Hp) : Prop := ∀ a o, H a = some o → a ∉ m → isTbl o = false → H' a = some o
theorem Kept.refl {m H} : Kept m H H := fun _ _ h _ _ => h
theorem Kept.trans {m m' H H1 H2} (a : Kept m H H1) (b : Kept m' H1 H2) (hm : ∀ x, x ∈ m' → x ∈ m ∨ H x = none) : Kept m H H2 := fun x o h n t => by
  refine b x o (a x o h n t) (fun z => ?_) t
  rcases hm x z with q | q
  · exact n q
  · rw [h] at q; cases q
theorem Kept.mono {m m' H H'} (a : Kept m H H') (hm : ∀ x, x ∈ m → x ∈ m') : Kept m' H H' := fun x o h n t => a x o h (fun z => n (hm x z)) t
/-- what a region's objects are, all else being free -/
def KeptF (F : Addr → Prop) (H H' : Hp) : Prop := ∀ a o, F a → H a = some o → isTbl o = false → H' a = some o
theorem KeptF.refl {F H} : KeptF F H H := fun _ _ _ h _ => h
theorem KeptF.trans {F F' H H1 H2} (a : KeptF F H H1) (b : KeptF F' H1 H2) (hf : ∀ x, F x → F' x) : KeptF F H H2 := fun x o f h t => b x o (hf x f) (a x o f h t) t
theorem Rep.keep {G F F' H H' vs ds} (h : Rep G F H vs ds) (hf : ∀ a, F a → F' a) (hk : KeptF F H H') : Rep G F' H' vs ds := by
  induction h with
  | nil => exact .nil
  | atom e _ ih => exact .atom e ih
  | tup f e z _ _ ih1 ih2 => exact .tup (hf _ f) (hk _ _ f e rfl) z ih1 ih2
  | tupK f z _ _ ih1 ih2 => exact .tupK f z ih1 ih2
  | lst f e z _ _ ih1 ih2 => exact .lst (hf _ f) (hk _ _ f e rfl) z ih1 ih2
  | scr f e z _ ih2 => exact .scr (hf _ f) (hk _ _ f e rfl) z ih2
  | scrK f z _ ih2 => exact .scrK f z ih2
  | dK f e z k _ _ ih1 ih2 => exact .dK (hf _ f) (hk _ _ f e rfl) z k ih1 ih2
  | dT f e z k _ _ ih1 ih2 => exact .dT (hf _ f) (hk _ _ f e rfl) z k ih1 ih2
  | ins f e c k _ _ ih1 ih2 => exact .ins (hf _ f) (hk _ _ f e rfl) c k ih1 ih2
  | exc f e f2 e2 c k _ _ ih1 ih2 => exact .exc (hf _ f) (hk _ _ f e rfl) (hf _ f2) (hk _ _ f2 e2 rfl) c k ih1 ih2
  | exs f e f2 e2 c _ ih => exact .exs (hf _ f) (hk _ _ f e rfl) (hf _ f2) (hk _ _ f2 e2 rfl) c ih
theorem Rep.length {G F H vs ds} (h : Rep G F H vs ds) : vs.length = ds.length := by
  induction h with
  | nil => rfl
  | atom _ _ ih => simp [ih]
  | tup _ _ _ _ _ _ ih => simp [ih]
  | tupK _ _ _ _ _ ih => simp [ih]
  | lst _ _ _ _ _ _ ih => simp [ih]
  | scr _ _ _ _ ih => simp [ih]
  | scrK _ _ _ ih => simp [ih]
  | dK _ _ _ _ _ _ _ ih => simp [ih]
  | dT _ _ _ _ _ _ _ ih => simp [ih]
  | ins _ _ _ _ _ _ _ ih => simp [ih]
  | exc _ _ _ _ _ _ _ _ _ ih => simp [ih]
  | exs _ _ _ _ _ _ ih => simp [ih]
theorem Rep.cons_iff {G F H v vs d ds} : Rep G F H (v :: vs) (d :: ds) ↔ Rep G F H [v] [d] ∧ Rep G F H vs ds := by
  constructor
  · intro h
    cases h with
    | atom e r => exact ⟨.atom e .nil, r⟩
    | tup f e z r1 r2 => exact ⟨.tup f e z r1 .nil, r2⟩
    | tupK f z r1 r2 => exact ⟨.tupK f z r1 .nil, r2⟩
    | lst f e z r1 r2 => exact ⟨.lst f e z r1 .nil, r2⟩
    | scr f e z r2 => exact ⟨.scr f e z .nil, r2⟩
    | scrK f z r2 => exact ⟨.scrK f z .nil, r2⟩
    | dK f e z k r1 r2 => exact ⟨.dK f e z k r1 .nil, r2⟩
    | dT f e z k r1 r2 => exact ⟨.dT f e z k r1 .nil, r2⟩
    | ins f e c k r1 r2 => exact ⟨.ins f e c k r1 .nil, r2⟩
    | exc f e f2 e2 c k r1 r2 => exact ⟨.exc f e f2 e2 c k r1 .nil, r2⟩
    | exs f e f2 e2 c r2 => exact ⟨.exs f e f2 e2 c .nil, r2⟩
  · rintro ⟨h, r⟩
    cases h with
    | atom e _ => exact .atom e r
    | tup f e z r1 _ => exact .tup f e z r1 r
    | tupK f z r1 _ => exact .tupK f z r1 r
    | lst f e z r1 _ => exact .lst f e z r1 r
    | scr f e z _ => exact .scr f e z r
    | scrK f z _ => exact .scrK f z r
    | dK f e z k r1 _ => exact .dK f e z k r1 r
    | dT f e z k r1 _ => exact .dT f e z k r1 r
    | ins f e c k r1 _ => exact .ins f e c k r1 r
    | exc f e f2 e2 c k r1 _ => exact .exc f e f2 e2 c k r1 r
    | exs f e f2 e2 c _ => exact .exs f e f2 e2 c r
theorem Rep.nil_of {G F H vs} (h : Rep G F H vs []) : vs = [] := by cases h; rfl
theorem Rep.cons_of {G F H vs d ds} (h : Rep G F H vs (d :: ds)) : ∃ v ws, vs = v :: ws ∧ Rep G F H [v] [d] ∧ Rep G F H ws ds := by
  cases vs with
  | nil => exact absurd h.length (by simp)
  | cons v ws => exact ⟨v, ws, rfl, Rep.cons_iff.mp h⟩
theorem Rep.get {G F H} : ∀ {ds : List D} {vs : List V} {i : Nat} {d : D}, Rep G F H vs ds → ds[i]? = some d → ∃ v, vs[i]? = some v ∧ Rep G F H [v] [d]
  | [], _, _, _, _, e => by simp at e
  | d :: ds, vs, 0, d', h, e => by
    obtain ⟨v, ws, rfl, r, _⟩ := h.cons_of
    simp at e; subst e
    exact ⟨v, rfl, r⟩
  | d :: ds, vs, i + 1, d', h, e => by
    obtain ⟨v, ws, rfl, _, r⟩ := h.cons_of
    obtain ⟨u, e1, r1⟩ := Rep.get (i := i) r (by simpa using e)
    exact ⟨u, by simpa using e1, r1⟩
theorem Rep.append {G F H} : ∀ {ds es : List D} {vs ws : List V}, Rep G F H vs ds → Rep G F H ws es → Rep G F H (vs ++ ws) (ds ++ es)
  | [], _, vs, _, h, r => by rw [h.nil_of]; exact r
  | d :: ds, es, vs, ws, h, r => by
    obtain ⟨v, us, rfl, r1, r2⟩ := h.cons_of
    exact Rep.cons_iff.mpr ⟨r1, Rep.append r2 r⟩
theorem Rep.take {G F H} : ∀ {ds : List D} {vs : List V} (n : Nat), Rep G F H vs ds → Rep G F H (vs.take n) (ds.take n)
  | [], vs, n, h => by rw [h.nil_of]; simp; exact .nil
  | d :: ds, vs, 0, h => by simp; exact .nil
  | d :: ds, vs, n + 1, h => by
    obtain ⟨v, us, rfl, r1, r2⟩ := h.cons_of
    exact Rep.cons_iff.mpr ⟨r1, Rep.take n r2⟩
theorem Rep.drop {G F H} : ∀ {ds : List D} {vs : List V} (n : Nat), Rep G F H vs ds → Rep G F H (vs.drop n) (ds.drop n)
  | [], vs, n, h => by rw [h.nil_of]; simp; exact .nil
  | d :: ds, vs, 0, h => by simpa using h
  | d :: ds, vs, n + 1, h => by
    obtain ⟨v, us, rfl, r1, r2⟩ := h.cons_of
    exact Rep.drop n r2
theorem Rep.snoc {G F H v d} {ds : List D} {vs : List V} (h : Rep G F H vs ds) (r : Rep G F H [v] [d]) : Rep G F H (vs ++ [v]) (ds ++ [d]) := h.append r
theorem Rep.ints {G F H} : ∀ (ns : List Int), Rep G F H (ns.map V.int) (ns.map D.int)
  | [] => .nil
  | n :: ns => .atom rfl (Rep.ints ns)
theorem Rep.int_of {G F H v i} (h : Rep G F H [v] [.int i]) : v = .int i := by
  cases h with
  | atom e _ => cases v <;> simp [atomD] at e <;> simp [e]
theorem Rep.str_of {G F H v x} (h : Rep G F H [v] [.str x]) : v = .str x := by
  cases h with
  | atom e _ => cases v <;> simp [atomD] at e <;> simp [e]
theorem Rep.bl_of {G F H v b} (h : Rep G F H [v] [.bl b]) : v = .bl b := by
  cases h with
  | atom e _ => cases v <;> simp [atomD] at e <;> simp [e]
theorem Rep.non_of {G F H v} (h : Rep G F H [v] [.non]) : v = .non := by
  cases h with
  | atom e _ => cases v <;> simp [atomD] at e <;> rfl
theorem Objs.keep {G F F' H H' a d} (h : Objs G F H a d) (hf : ∀ x, F x → F' x) (hk : KeptF F H H') (ha : ∀ o, H a = some o → isTbl o = false → H' a = some o) : Objs G F' H' a d := by
  cases d <;> first | exact h.elim | skip
  case lst es => obtain ⟨ws, e, z, r⟩ := h; exact ⟨ws, ha _ e rfl, z, r.keep hf hk⟩
  case dK es => obtain ⟨ws, e, z, k, r⟩ := h; exact ⟨ws, ha _ e rfl, z, k, r.keep hf hk⟩
  case dT es => obtain ⟨ws, e, z, k, r⟩ := h; exact ⟨ws, ha _ e rfl, z, k, r.keep hf hk⟩
  case ins c es => obtain ⟨C, dx, ws, e, z, k, r⟩ := h; exact ⟨C, dx, ws, ha _ e rfl, z, k, r.keep hf hk⟩
theorem Objs.there {G F H a d} (h : Objs G F H a d) : ∃ o, H a = some o ∧ isTbl o = false := by
  cases d <;> first | exact h.elim | skip
  case lst es => obtain ⟨ws, e, _⟩ := h; exact ⟨_, e, rfl⟩
  case dK es => obtain ⟨ws, e, _⟩ := h; exact ⟨_, e, rfl⟩
  case dT es => obtain ⟨ws, e, _⟩ := h; exact ⟨_, e, rfl⟩
  case ins c es => obtain ⟨C, dx, ws, e, _⟩ := h; exact ⟨_, e, rfl⟩
theorem Own.there {G F H v d fp} (h : Own G F H v d fp) : ∀ a ∈ fp, ¬ F a ∧ ∃ o, H a = some o ∧ isTbl o = false := by
  intro a ha
  cases h with
  | fz r => simp at ha
  | ow f ob => simp at ha; subst ha; exact ⟨f, ob.there⟩
  | drw f1 f2 f3 z1 z2 q =>
    obtain ⟨e1, e2, e3, _⟩ := q
    simp at ha
    rcases ha with rfl | rfl
    · exact ⟨f1, _, e1, rfl⟩
    · exact ⟨f2, _, e2, rfl⟩
theorem Own.keep {G F F' H H' v d fp} (h : Own G F H v d fp) (hf : ∀ x, F x → F' x) (hk : KeptF F H H') (ha : ∀ a ∈ fp, ¬ F' a ∧ ∀ o, H a = some o → isTbl o = false → H' a = some o) : Own G F' H' v d fp := by
  cases h with
  | fz r => exact .fz (r.keep hf hk)
  | ow f ob => exact .ow (ha _ (by simp)).1 (ob.keep hf hk (ha _ (by simp)).2)
  | drw f1 f2 f3 z1 z2 q =>
    obtain ⟨e1, e2, e3, n⟩ := q
    exact .drw (ha _ (by simp)).1 (ha _ (by simp)).1 (hf _ f3) z1 z2 ⟨(ha _ (by simp)).2 _ e1 rfl, (ha _ (by simp)).2 _ e2 rfl, hk _ _ f3 e3 rfl, n⟩
theorem Slots.there {G F H ρ σ o p b} (h : Slots G F H ρ σ o p b) : ∀ a, a ∈ o ∨ a ∈ p ∨ a ∈ b → ¬ F a ∧ ∃ o, H a = some o ∧ isTbl o = false := by
  induction h with
  | nil => simp
  | none _ ih => exact ih
  | fz _ _ ih => exact ih
  | ow w _ _ ih =>
    intro a ha
    simp only [List.mem_append] at ha
    rcases ha with (ha | ha) | ha | ha
    · exact w.there a ha
    · exact ih a (.inl ha)
    · exact ih a (.inr (.inl ha))
    · exact ih a (.inr (.inr ha))
  | pn w _ _ ih =>
    intro a ha
    simp only [List.mem_append] at ha
    rcases ha with ha | (ha | ha) | ha
    · exact ih a (.inl ha)
    · exact w.there a ha
    · exact ih a (.inr (.inl ha))
    · exact ih a (.inr (.inr ha))
  | lk w _ ih =>
    intro a ha
    simp only [List.mem_append] at ha
    rcases ha with ha | ha | (ha | ha)
    · exact ih a (.inl ha)
    · exact ih a (.inr (.inl ha))
    · exact w.there a ha
    · exact ih a (.inr (.inr ha))
theorem Slots.keep {G F F' H H' ρ σ o p b} (h : Slots G F H ρ σ o p b) (hf : ∀ x, F x → F' x) (hk : KeptF F H H') (ha : ∀ a, a ∈ o ∨ a ∈ p ∨ a ∈ b → ¬ F' a ∧ ∀ o, H a = some o → isTbl o = false → H' a = some o) : Slots G F' H' ρ σ o p b := by
  induction h with
  | nil => exact .nil
  | none _ ih => exact .none (ih ha)
  | fz r _ ih => exact .fz (r.keep hf hk) (ih ha)
  | ow w n _ ih =>
    refine .ow (w.keep hf hk fun a h => ha a (.inl (by simp [h]))) n (ih fun a h => ha a ?_)
    rcases h with h | h | h
    · exact .inl (by simp [h])
    · exact .inr (.inl h)
    · exact .inr (.inr h)
  | pn w n _ ih =>
    refine .pn (w.keep hf hk fun a h => ha a (.inr (.inl (by simp [h])))) n (ih fun a h => ha a ?_)
    rcases h with h | h | h
    · exact .inl h
    · exact .inr (.inl (by simp [h]))
    · exact .inr (.inr h)
  | lk w _ ih =>
    refine .lk (w.keep hf hk fun a h => ha a (.inr (.inr (by simp [h])))) (ih fun a h => ha a ?_)
    rcases h with h | h | h
    · exact .inl h
    · exact .inr (.inl h)
    · exact .inr (.inr (by simp [h]))
theorem Slots.length {G F H ρ σ o p b} (h : Slots G F H ρ σ o p b) : ρ.length = σ.length := by
  induction h <;> simp_all
/-- reading a slot -/
theorem Slots.get {G F H ρ σ o p b} (h : Slots G F H ρ σ o p b) : ∀ {i : Nat} {d : D} {fl : Fl}, ρ[i]? = some (some (d, fl)) →
    ∃ v fp, σ[i]? = some (some v) ∧ Own G F H v d fp ∧ (fl = .fz → fp = []) ∧ (fl = .ow ∨ fl = .pn → fp ≠ []) ∧ ∀ a ∈ fp, (fl = .ow ∧ a ∈ o) ∨ (fl = .pn ∧ a ∈ p) ∨ (fl = .lk ∧ a ∈ b) := by
  induction h with
  | nil => intro i d fl e; simp at e
  | none _ ih =>
    intro i d fl e
    cases i with
    | zero => simp at e
    | succ i => exact ih (by simpa using e)
  | fz r _ ih =>
    intro i d fl e
    cases i with
    | zero =>
      simp at e; obtain ⟨rfl, rfl⟩ := e
      exact ⟨_, [], rfl, .fz r, fun _ => rfl, by simp, by simp⟩
    | succ i => exact ih (by simpa using e)
  | ow w n _ ih =>
    intro i d fl e
    cases i with
    | zero =>
      simp at e; obtain ⟨rfl, rfl⟩ := e
      exact ⟨_, _, rfl, w, fun z => by simp at z, fun _ => n, fun a ha => .inl ⟨rfl, by simp [ha]⟩⟩
    | succ i =>
      obtain ⟨v, fp, e1, w1, f1, g1, m1⟩ := ih (i := i) (d := d) (fl := fl) (by simpa using e)
      refine ⟨v, fp, by simpa using e1, w1, f1, g1, fun a ha => ?_⟩
      rcases m1 a ha with q | q | q
      · exact .inl ⟨q.1, by simp [q.2]⟩
      · exact .inr (.inl q)
      · exact .inr (.inr q)
  | pn w n _ ih =>
    intro i d fl e
    cases i with
    | zero =>
      simp at e; obtain ⟨rfl, rfl⟩ := e
      exact ⟨_, _, rfl, w, fun z => by simp at z, fun _ => n, fun a ha => .inr (.inl ⟨rfl, by simp [ha]⟩)⟩
    | succ i =>
      obtain ⟨v, fp, e1, w1, f1, g1, m1⟩ := ih (i := i) (d := d) (fl := fl) (by simpa using e)
      refine ⟨v, fp, by simpa using e1, w1, f1, g1, fun a ha => ?_⟩
      rcases m1 a ha with q | q | q
      · exact .inl q
      · exact .inr (.inl ⟨q.1, by simp [q.2]⟩)
      · exact .inr (.inr q)
  | lk w _ ih =>
    intro i d fl e
    cases i with
    | zero =>
      simp at e; obtain ⟨rfl, rfl⟩ := e
      exact ⟨_, _, rfl, w, fun z => by simp at z, by simp, fun a ha => .inr (.inr ⟨rfl, by simp [ha]⟩)⟩
    | succ i =>
      obtain ⟨v, fp, e1, w1, f1, g1, m1⟩ := ih (i := i) (d := d) (fl := fl) (by simpa using e)
      refine ⟨v, fp, by simpa using e1, w1, f1, g1, fun a ha => ?_⟩
      rcases m1 a ha with q | q | q
      · exact .inl q
      · exact .inr (.inl q)
      · exact .inr (.inr ⟨q.1, by simp [q.2]⟩)
end VL
/-! VL2: states, readings of expressions, their rules. -/
namespace VL
open PySem PySem.Spec PyProof.Rows L2

/-- a state -/
structure Stt where
  F : Addr → Prop
  rho : Env
  sg : St
  H : Hp
  o : List Addr
  p : List Addr
  b : List Addr
def DomF (F : Addr → Prop) (H : Hp) : Prop := ∀ a, F a → ∃ o, H a = some o ∧ isTbl o = false
structure SInv (G : Gm) (x : Stt) : Prop where
  sl : Slots G x.F x.H x.rho x.sg x.o x.p x.b
  nd : (x.o ++ (x.p ++ x.b)).Nodup
  dom : DomF x.F x.H
  tb : LamX.Tabs G.T x.H
/-- what an expression may do -/
structure Ext (still : Bool) (x y : Stt) : Prop where
  sg : y.sg = x.sg
  kp : Kept (x.o ++ x.p) x.H y.H
  f1 : ∀ a, x.F a → y.F a
  f2 : ∀ a, y.F a → x.F a ∨ x.H a = none
  o1 : ∀ a ∈ y.o, a ∈ x.o ∨ x.H a = none
  p1 : y.p = x.p
  b1 : y.b = x.b
  dm : ∀ a, y.H a = none → x.H a = none
  lk : ∀ (j : Nat) (d : D) (fl : Fl), x.rho[j]? = some (some (d, fl)) → fl = Fl.lk ∨ fl = Fl.pn → ∃ d', y.rho[j]? = some (some (d', fl)) ∧ (fl = Fl.lk → d' = d)
  st : still = true → y.rho = x.rho ∧ Kept [] x.H y.H ∧ y.o = x.o
theorem Ext.refl {b x} : Ext b x x := ⟨rfl, .refl, fun _ h => h, fun _ h => .inl h, fun _ h => .inl h, rfl, rfl, fun _ h => h, fun _ d _ e _ => ⟨d, e, fun _ => rfl⟩, fun _ => ⟨rfl, .refl, rfl⟩⟩
theorem SInv.there {G x} (h : SInv G x) {a : Addr} (ha : a ∈ x.o ∨ a ∈ x.p ∨ a ∈ x.b) : ¬ x.F a ∧ ∃ o, x.H a = some o ∧ isTbl o = false := h.sl.there a ha
theorem SInv.keptF {G x} (h : SInv G x) {m : List Addr} {H' : Hp} (hm : ∀ a ∈ m, a ∈ x.o ∨ a ∈ x.p ∨ a ∈ x.b) (k : Kept m x.H H') : KeptF x.F x.H H' := fun a o f e t => k a o e (fun z => (h.there (hm a z)).1 f) t
theorem Ext.keptF {G b x y} (h : SInv G x) (e : Ext b x y) : KeptF x.F x.H y.H := h.keptF (fun a ha => by
  rcases List.mem_append.mp ha with q | q
  · exact .inl q
  · exact .inr (.inl q)) e.kp
theorem none_of_kept {m H H'} (k : Kept m H H') {a : Addr} (hm : a ∉ m) (h : H' a = none) (ht : ∀ o, H a = some o → isTbl o = false) : H a = none := by
  cases q : H a with
  | none => rfl
  | some o => rw [k a o q hm (ht o q)] at h; cases h
/-- tables are told apart from what is free -/
theorem Ext.free {G b x y} (h : SInv G x) (hy : SInv G y) (e : Ext b x y) {a : Addr} (q : y.F a ∨ a ∈ y.o) (n : ¬ x.F a) (n2 : a ∉ x.o) : x.H a = none := by
  rcases q with q | q
  · exact (e.f2 a q).resolve_left n
  · exact (e.o1 a q).resolve_left n2
theorem Ext.trans {G b c x y z} (hx : SInv G x) (hy : SInv G y) (e : Ext b x y) (f : Ext c y z) : Ext (b && c) x z where
  sg := f.sg.trans e.sg
  kp := e.kp.trans f.kp fun a ha => by
    rcases List.mem_append.mp ha with q | q
    · rcases e.o1 a q with q | q
      · exact .inl (List.mem_append_left _ q)
      · exact .inr q
    · rw [e.p1] at q; exact .inl (List.mem_append_right _ q)
  f1 := fun a h => f.f1 a (e.f1 a h)
  f2 := fun a h => by
    rcases f.f2 a h with q | q
    · exact e.f2 a q
    · exact .inr (e.dm a q)
  o1 := fun a h => by
    rcases f.o1 a h with q | q
    · exact e.o1 a q
    · exact .inr (e.dm a q)
  p1 := f.p1.trans e.p1
  b1 := f.b1.trans e.b1
  dm := fun a h => e.dm a (f.dm a h)
  lk := fun j d fl e1 hf => by
    obtain ⟨d1, e2, k2⟩ := e.lk j d fl e1 hf
    obtain ⟨d2, e3, k3⟩ := f.lk j d1 fl e2 hf
    exact ⟨d2, e3, fun h => (k3 h).trans (k2 h)⟩
  st := fun h => by
    simp only [Bool.and_eq_true] at h
    obtain ⟨r1, k1, o1⟩ := e.st h.1
    obtain ⟨r2, k2, o2⟩ := f.st h.2
    exact ⟨r2.trans r1, k1.trans k2 (by simp), o2.trans o1⟩

def KdOk (x y : Stt) (k : Kd) (fv : List Addr) : Prop := match k with
  | .fz => fv = []
  | .ow => fv ≠ [] ∧ ∀ a ∈ fv, x.H a = none ∧ a ∉ y.o ∧ a ∉ y.p ∧ a ∉ y.b
  | .br => ∀ a ∈ fv, a ∈ y.o ∨ a ∈ y.p ∨ a ∈ y.b
/-- what is lent is just what a slot holds -/
def Src (y : Stt) (v : V) (d : D) (k : Kd) : Prop := k = .br → ∃ (j : Nat) (fl : Fl), y.rho[j]? = some (some (d, fl)) ∧ y.sg[j]? = some (some v) ∧ fl ≠ .fz
theorem Src.fz {y v d} : Src y v d .fz := fun h => by cases h
theorem Src.ow {y v d} : Src y v d .ow := fun h => by cases h
theorem Src.ne {y v d k} (h : k ≠ .br) : Src y v d k := fun e => absurd e h
structure EPost (G : Gm) (still : Bool) (x y : Stt) (v : V) (d : D) (k : Kd) (fv : List Addr) : Prop where
  inv : SInv G y
  ext : Ext still x y
  own : Own G y.F y.H v d fv
  kd : KdOk x y k fv
  src : Src y v d k
/-- an exception, by its class's number and what it bears -/
def ErrV (G : Gm) (y : Stt) (cls : Value) (dx : Option Addr) (c : Nat) (d : D) : Prop :=
  ∃ C, G.cm c = some C ∧ cls = Value.ref C ∧ ((dx = none ∧ d = .non) ∨ ∃ (a : Addr) (f : Str) (v : V) (d' : D), dx = some a ∧ y.H a = some (.xd [(f, v)]) ∧ d = .tup [.str f, d'] ∧ Rep G y.F y.H [v] [d'])

abbrev EE := Env → Res (D × Kd × Env)
abbrev AE := Env → Res (List (D × Kd) × Env)
def tS (G : Gm) (W : WX) (still : Bool) (f : EE) : TE := fun σ H Q => ∃ x : Stt, x.sg = σ ∧ x.H = H ∧ SInv G x ∧
  match f x.rho with
  | .ok (d, k, ρ') => ∀ y v fv, y.rho = ρ' → EPost G still x y v d k fv → Q v y.H
  | .err c d ρ' => ∀ y cls dx, y.rho = ρ' → SInv G y → Ext still x y → ErrV G y cls dx c d → W cls dx σ y.H
  | .bad => False
inductive AOk (G : Gm) (x y : Stt) : List V → List (D × Kd) → Prop
  | nil : AOk G x y [] []
  | cons {v d k fv vs dks} : Own G y.F y.H v d fv → KdOk x y k fv → Src y v d k → AOk G x y vs dks → AOk G x y (v :: vs) ((d, k) :: dks)
def tA (G : Gm) (W : WX) (still : Bool) (f : AE) : TA := fun σ H Q => ∃ x : Stt, x.sg = σ ∧ x.H = H ∧ SInv G x ∧
  match f x.rho with
  | .ok (l, ρ') => ∀ y vs, y.rho = ρ' → SInv G y → Ext still x y → AOk G x y vs l → Q vs y.H
  | .err c d ρ' => ∀ y cls dx, y.rho = ρ' → SInv G y → Ext still x y → ErrV G y cls dx c d → W cls dx σ y.H
  | .bad => False

theorem Own.nodup {G F H v d fp} (h : Own G F H v d fp) : fp.Nodup := by
  cases h with
  | fz _ => simp
  | ow _ _ => simp
  | drw _ _ _ _ _ q => obtain ⟨_, _, _, n1⟩ := q; simp [n1]
/-- a value stays what it is while others are reckoned -/
theorem carry {G s x y z v d k fv} (hy : SInv G y) (hxy : ∀ a, y.H a = none → x.H a = none) (w : Own G y.F y.H v d fv) (kd : KdOk x y k fv) (e : Ext s y z) (hs : Src y v d k) (hk : k = .br → s = true) : Own G z.F z.H v d fv ∧ KdOk x z k fv ∧ Src z v d k := by
  have kf : KeptF y.F y.H z.H := e.keptF hy
  cases k with
  | fz =>
    obtain rfl : fv = [] := kd
    cases w with
    | fz r => exact ⟨.fz (r.keep e.f1 kf), rfl, .fz⟩
  | ow =>
    obtain ⟨n0, kd⟩ := kd
    have th := w.there
    have nn : ∀ a ∈ fv, y.H a ≠ none := fun a ha z => by
      obtain ⟨_, o, ho, _⟩ := th a ha
      rw [ho] at z; cases z
    refine ⟨w.keep e.f1 kf fun a ha => ⟨fun f => ?_, fun o ho t => ?_⟩, ⟨n0, fun a ha => ⟨(kd a ha).1, fun q => ?_, fun q => ?_, fun q => ?_⟩⟩, .ow⟩
    · rcases e.f2 a f with q | q
      · exact (th a ha).1 q
      · exact nn a ha q
    · refine e.kp a o ho (fun q => ?_) t
      rcases List.mem_append.mp q with q | q
      · exact (kd a ha).2.1 q
      · exact (kd a ha).2.2.1 q
    · rcases e.o1 a q with q | q
      · exact (kd a ha).2.1 q
      · exact nn a ha q
    · rw [e.p1] at q; exact (kd a ha).2.2.1 q
    · rw [e.b1] at q; exact (kd a ha).2.2.2 q
  | br =>
    obtain ⟨r1, k1, o1⟩ := e.st (hk rfl)
    have th := w.there
    refine ⟨w.keep e.f1 kf fun a ha => ⟨fun f => ?_, fun o ho t => k1 a o ho (by simp) t⟩, fun a ha => ?_, fun e' => by obtain ⟨j, fl, e1, e2, e3⟩ := hs e'; exact ⟨j, fl, by rw [r1]; exact e1, by rw [e.sg]; exact e2, e3⟩⟩
    · rcases e.f2 a f with q | q
      · exact (th a ha).1 q
      · obtain ⟨_, o, ho, _⟩ := th a ha
        rw [ho] at q; cases q
    · have := kd a ha
      rw [o1, e.p1, e.b1]; exact this

section
variable {X : Cx} {G : Gm} {W : WX}
theorem PE.of {e : Expr} {t u : TE} (h : PE X e t) (i : ∀ σ H Q, u σ H Q → t σ H Q) : PE X e u := ⟨fun pins s σ H Q I w => h.run pins s σ H Q I (i σ H Q w)⟩
theorem PA.of {e : List Expr} {t u : TA} (h : PA X e t) (i : ∀ σ H Q, u σ H Q → t σ H Q) : PA X e u := ⟨fun pos pins s σ H Q I w => h.run pos pins s σ H Q I (i σ H Q w)⟩
theorem PS.of {e : Stmt} {t u : TS} (h : PS X e t) (i : ∀ D σ H, u D σ H → t D σ H) : PS X e u := ⟨fun pins s σ H D I w => h.run pins s σ H D I (i D σ H w)⟩
theorem PSs.of {e : List Stmt} {t u : TS} (h : PSs X e t) (i : ∀ D σ H, u D σ H → t D σ H) : PSs X e u := ⟨fun pins s σ H D I w => h.run pins s σ H D I (i D σ H w)⟩
theorem PT.of {e : Expr} {t u : TT} (h : PT X e t) (i : ∀ σ H Q, u σ H Q → t σ H Q) : PT X e u := ⟨fun pins s σ H Q I w => h.run pins s σ H Q I (i σ H Q w)⟩

/-! ### constants and names -/
def xC (d : D) : EE := fun ρ => .ok (d, .fz, ρ)
theorem r_const {e : Expr} {v : V} {d : D} (h : PE X e (tC v)) (hd : atomD v = some d) : PE X e (tS G W true (xC d)) := PE.of h fun σ H Q ⟨x, e1, e2, hi, q⟩ => by
  subst e1 e2
  exact q x v [] rfl ⟨hi, .refl, .fz (.atom hd .nil), rfl, .fz⟩
def xV (i : Nat) : EE := fun ρ => match ρ[i]? with
  | some (some (d, .fz)) => .ok (d, .fz, ρ)
  | some (some (d, _)) => .ok (d, .br, ρ)
  | _ => .bad
theorem r_var {e : Expr} {i : Nat} (h : PE X e (tVar i)) : PE X e (tS G W true (xV i)) := PE.of h fun σ H Q ⟨x, e1, e2, hi, q⟩ => by
  subst e1 e2
  unfold xV at q
  cases hρ : x.rho[i]? with
  | none => rw [hρ] at q; exact q.elim
  | some sl =>
    cases sl with
    | none => rw [hρ] at q; exact q.elim
    | some df =>
      obtain ⟨d, fl⟩ := df
      rw [hρ] at q
      obtain ⟨v, fp, e1, w, f0, _, m⟩ := hi.sl.get hρ
      refine ⟨v, e1, ?_⟩
      cases fl with
      | fz =>
        obtain rfl := f0 rfl
        exact q x v [] rfl ⟨hi, .refl, w, rfl, .fz⟩
      | ow => exact q x v fp rfl ⟨hi, .refl, w, (fun a ha => by rcases m a ha with z | z | z <;> simp_all), fun _ => ⟨i, .ow, hρ, e1, by simp⟩⟩
      | pn => exact q x v fp rfl ⟨hi, .refl, w, (fun a ha => by rcases m a ha with z | z | z <;> simp_all), fun _ => ⟨i, .pn, hρ, e1, by simp⟩⟩
      | lk => exact q x v fp rfl ⟨hi, .refl, w, (fun a ha => by rcases m a ha with z | z | z <;> simp_all), fun _ => ⟨i, .lk, hρ, e1, by simp⟩⟩

/-! ### argument lists -/
def aN : AE := fun ρ => .ok ([], ρ)
def aC (s : Bool) (f : EE) (g : AE) : AE := fun ρ => do
  let (d, k, ρ1) ← f ρ
  if k = .br ∧ s = false then .bad else do
    let (l, ρ2) ← g ρ1
    pure ((d, k) :: l, ρ2)
theorem r_anil : PA X [] (tA G W true aN) := PA.of pa_nil fun σ H Q ⟨x, e1, e2, hi, q⟩ => by
  subst e1 e2
  exact q x [] rfl hi .refl .nil
theorem AOk.carry {s x y z vs l} (hy : SInv G y) (hxy : ∀ a, y.H a = none → x.H a = none) (e : Ext s y z) (h : AOk G x y vs l) (hk : ∀ dk ∈ l, dk.2 = Kd.br → s = true) : AOk G x z vs l := by
  induction h with
  | nil => exact .nil
  | cons w kd sr _ ih =>
    obtain ⟨w', kd', sr'⟩ := VL.carry hy hxy w kd e sr (hk _ List.mem_cons_self)
    exact .cons w' kd' sr' (ih fun dk h => hk dk (List.mem_cons_of_mem _ h))
theorem AOk.older {x x' y vs l} (h : AOk G x' y vs l) (hx : ∀ a, x'.H a = none → x.H a = none) : AOk G x y vs l := by
  induction h with
  | nil => exact .nil
  | @cons v d k fv vs dks w kd sr _ ih =>
    refine .cons w ?_ sr ih
    cases k with
    | fz => exact kd
    | ow => exact ⟨kd.1, fun a ha => ⟨hx a (kd.2 a ha).1, (kd.2 a ha).2⟩⟩
    | br => exact kd
theorem r_acons {e : Expr} {es : List Expr} {s t : Bool} {f : EE} {g : AE} (ha : PE X e (tS G W s f)) (hr : PA X es (tA G W t g)) (hs : starEach (e :: es) X.env = (false, eval e X.env) :: starEach es X.env := by rfl) : PA X (e :: es) (tA G W (s && t) (aC t f g)) := PA.of (pa_cons ha hr hs) fun σ H Q ⟨x, e1, e2, hi, q⟩ => by
  subst e1 e2
  refine ⟨x, rfl, rfl, hi, ?_⟩
  unfold aC at q
  cases h1 : f x.rho with
  | bad => simp only [h1, Res.bind_bad] at q
  | err c d ρ' =>
    simp only [h1, Res.bind_err] at q
    intro y cls dx hρ iy ey hev
    refine q y cls dx hρ iy { ey with st := fun z => ey.st (by simp only [Bool.and_eq_true] at z; exact z.1) } hev
  | ok r =>
    obtain ⟨d, k, ρ1⟩ := r
    simp only [h1, Res.bind_ok] at q
    intro y v fv hρ P
    refine ⟨y, P.ext.sg, rfl, P.inv, ?_⟩
    by_cases hb : k = .br ∧ t = false
    · rw [if_pos hb] at q; exact q.elim
    · rw [if_neg hb] at q
      rw [hρ]
      cases h2 : g ρ1 with
      | bad => simp only [h2, Res.bind_bad] at q
      | err c d' ρ' =>
        simp only [h2, Res.bind_err] at q
        intro z cls dx hz iz ez hev
        exact q z cls dx hz iz (P.ext.trans hi P.inv ez) hev
      | ok r2 =>
        obtain ⟨l, ρ2⟩ := r2
        simp only [h2, Res.bind_ok] at q
        intro z vs hz iz ez az
        have hk : k = .br → t = true := fun e => by
          cases t with
          | true => rfl
          | false => exact absurd ⟨e, rfl⟩ hb
        obtain ⟨w', kd', sr'⟩ := carry P.inv P.ext.dm P.own P.kd ez P.src hk
        exact q z (v :: vs) hz iz (P.ext.trans hi P.inv ez) (.cons w' kd' sr' (az.older P.ext.dm))
end
end VL
/-! VL3: functions on data applied to reckoned values; tests. -/
namespace VL
open PySem PySem.Spec PyProof.Rows L2

/-- what a built-in operation makes: all stays, perhaps something new -/
structure NewV (G : Gm) (F : Addr → Prop) (H : Hp) (F' : Addr → Prop) (H' : Hp) (v : V) (d : D) (k : Kd) (fv : List Addr) : Prop where
  dom : DomF F' H'
  f1 : ∀ a, F a → F' a
  f2 : ∀ a, F' a → F a ∨ H a = none
  kp : ∀ a o, H a = some o → H' a = some o
  own : Own G F' H' v d fv
  kd : match k with
    | .fz => fv = []
    | .ow => fv ≠ [] ∧ ∀ a ∈ fv, H a = none
    | .br => False
theorem NewV.dm {G F H F' H' v d k fv} (n : NewV G F H F' H' v d k fv) : ∀ a, H' a = none → H a = none := fun a h => by
  cases q : H a with
  | none => rfl
  | some o => rw [n.kp a o q] at h; cases h
theorem NewV.post {G : Gm} {y : Stt} {F' H' v d k fv} (hy : SInv G y) (n : NewV G y.F y.H F' H' v d k fv) :
    EPost G true y { y with F := F', H := H' } v d k fv where
  inv := by
    have kf : KeptF y.F y.H H' := fun a o _ e _ => n.kp a o e
    refine ⟨hy.sl.keep n.f1 kf fun a ha => ⟨fun f => ?_, fun o e _ => n.kp a o e⟩, hy.nd, n.dom, hy.tb.ext n.kp⟩
    obtain ⟨nf, o, e, _⟩ := hy.sl.there a ha
    rcases n.f2 a f with q | q
    · exact nf q
    · rw [e] at q; cases q
  ext := ⟨rfl, fun a o e _ _ => n.kp a o e, n.f1, n.f2, fun a h => .inl h, rfl, rfl, n.dm, fun _ d _ e _ => ⟨d, e, fun _ => rfl⟩, fun _ => ⟨rfl, fun a o e _ _ => n.kp a o e, rfl⟩⟩
  own := n.own
  src := .ne fun e => by subst e; exact n.kd.elim
  kd := by
    have q := n.kd
    cases k with
    | fz => exact q
    | br => exact q.elim
    | ow =>
      refine ⟨q.1, fun a ha => ⟨q.2 a ha, fun z => ?_, fun z => ?_, fun z => ?_⟩⟩
      · obtain ⟨_, o, e, _⟩ := hy.sl.there a (.inl z); rw [q.2 a ha] at e; cases e
      · obtain ⟨_, o, e, _⟩ := hy.sl.there a (.inr (.inl z)); rw [q.2 a ha] at e; cases e
      · obtain ⟨_, o, e, _⟩ := hy.sl.there a (.inr (.inr z)); rw [q.2 a ha] at e; cases e
theorem EPost.after {G : Gm} {s : Bool} {x y : Stt} {F' H' v d k fv} (hx : SInv G x) (hy : SInv G y) (e : Ext s x y) (n : NewV G y.F y.H F' H' v d k fv) :
    EPost G s x { y with F := F', H := H' } v d k fv := by
  have p := n.post hy
  refine ⟨p.inv, by have := e.trans hx hy p.ext; rwa [Bool.and_true] at this, p.own, ?_, p.src⟩
  have q := p.kd
  cases k with
  | fz => exact q
  | br => exact q
  | ow => exact ⟨q.1, fun a ha => ⟨e.dm a (q.2 a ha).1, (q.2 a ha).2⟩⟩
/-- nothing new -/
theorem NewV.same {G F H v d} (hd : DomF F H) (r : Rep G F H [v] [d]) : NewV G F H F H v d .fz [] := ⟨hd, fun _ h => h, fun _ h => .inl h, fun _ _ h => h, .fz r, rfl⟩
theorem NewV.atom {G F H v d} (hd : DomF F H) (e : atomD v = some d) : NewV G F H F H v d .fz [] := .same hd (.atom e .nil)
/-- a new list, owned -/
theorem NewV.lst {G : Gm} {F H p ws es} (hd : DomF F H) (hp : H p = none) (hz : ws.length ≤ sizeLine) (r : Rep G F H ws es) : NewV G F H F (upd H p (.lst ws)) (.ref p) (.lst es) .ow [p] := by
  have kp : ∀ a o, H a = some o → upd H p (.lst ws) a = some o := fun a o e => by rw [upd_ne (ne_of_none e hp)]; exact e
  have nf : ¬ F p := fun f => by obtain ⟨o, e, _⟩ := hd p f; rw [hp] at e; cases e
  exact ⟨fun a f => by obtain ⟨o, e, t⟩ := hd a f; exact ⟨o, kp a o e, t⟩, fun _ h => h, fun _ h => .inl h, kp, .ow nf ⟨ws, upd_same, hz, r.keep (fun _ h => h) fun a o _ e _ => kp a o e⟩, by simp, by simpa using hp⟩
theorem NewV.objs {G : Gm} {F H p d ob} (hd : DomF F H) (hp : H p = none) (r : Objs G F (upd H p ob) p d) : NewV G F H F (upd H p ob) (.ref p) d .ow [p] := by
  have kp : ∀ a o, H a = some o → upd H p ob a = some o := fun a o e => by rw [upd_ne (ne_of_none e hp)]; exact e
  have nf : ¬ F p := fun f => by obtain ⟨o, e, _⟩ := hd p f; rw [hp] at e; cases e
  exact ⟨fun a f => by obtain ⟨o, e, t⟩ := hd a f; exact ⟨o, kp a o e, t⟩, fun _ h => h, fun _ h => .inl h, kp, .ow nf r, by simp, by simpa using hp⟩
/-- a new tuple, frozen at once -/
theorem NewV.tup {G : Gm} {F H p ws es} (hd : DomF F H) (hp : H p = none) (hz : ws.length ≤ sizeLine) (r : Rep G F H ws es) : NewV G F H (fun a => F a ∨ a = p) (upd H p (.tup ws)) (.ref p) (.tup es) .fz [] := by
  have kp : ∀ a o, H a = some o → upd H p (.tup ws) a = some o := fun a o e => by rw [upd_ne (ne_of_none e hp)]; exact e
  refine ⟨fun a f => ?_, fun _ h => .inl h, fun a h => ?_, kp, .fz (.tup (.inr rfl) upd_same hz (r.keep (fun _ h => .inl h) fun a o _ e _ => kp a o e) .nil), rfl⟩
  · rcases f with f | rfl
    · obtain ⟨o, e, t⟩ := hd a f; exact ⟨o, kp a o e, t⟩
    · exact ⟨_, upd_same, rfl⟩
  · rcases h with h | rfl
    · exact .inl h
    · exact .inr hp

inductive Reads (G : Gm) (F : Addr → Prop) (H : Hp) : List V → List D → Prop
  | nil : Reads G F H [] []
  | cons {v d fp vs ds} : Own G F H v d fp → Reads G F H vs ds → Reads G F H (v :: vs) (d :: ds)
theorem AOk.reads {G x y vs l} (h : AOk G x y vs l) : Reads G y.F y.H vs (l.map (·.1)) := by
  induction h with
  | nil => exact .nil
  | cons w _ _ _ ih => exact .cons w ih

/-- an operation over values, as a function on data -/
def FnD (G : Gm) (r : List V → Hp → VK → Prop) (g : List D → Option (D × Kd)) : Prop := ∀ F H vs ds d k Q, DomF F H → Reads G F H vs ds → g ds = some (d, k) →
  (∀ F' H' v fv, NewV G F H F' H' v d k fv → Q v H') → r vs H Q
def FnD2 (G : Gm) (r : R2) (g : D → D → Option (D × Kd)) : Prop := ∀ F H v w a b fv fw d k Q, DomF F H → Own G F H v a fv → Own G F H w b fw → g a b = some (d, k) →
  (∀ F' H' u fu, NewV G F H F' H' u d k fu → Q u H') → r v w H Q
def FnD1 (G : Gm) (r : V → Hp → VK → Prop) (g : D → Option (D × Kd)) : Prop := ∀ F H v a fv d k Q, DomF F H → Own G F H v a fv → g a = some (d, k) →
  (∀ F' H' u fu, NewV G F H F' H' u d k fu → Q u H') → r v H Q
def xApp (g : List D → Option (D × Kd)) (f : AE) : EE := fun ρ => do
  let (l, ρ1) ← f ρ
  match g (l.map (·.1)) with
  | some (d, k) => pure (d, k, ρ1)
  | none => .bad
def xAp2 (s2 : Bool) (g : D → D → Option (D × Kd)) (f1 f2 : EE) : EE := fun ρ => do
  let (a, k1, ρ1) ← f1 ρ
  if k1 = .br ∧ s2 = false then .bad else do
    let (b, _, ρ2) ← f2 ρ1
    match g a b with
    | some (d, k) => pure (d, k, ρ2)
    | none => .bad
def xAp1 (g : D → Option (D × Kd)) (f : EE) : EE := fun ρ => do
  let (a, _, ρ1) ← f ρ
  match g a with
  | some (d, k) => pure (d, k, ρ1)
  | none => .bad
section
variable {X : Cx} {G : Gm} {W : WX}
theorem tS_app {t : TA} {r : List V → Hp → VK → Prop} {s : Bool} {f : AE} {g : List D → Option (D × Kd)} (hg : FnD G r g) {σ H Q} (h : tS G W s (xApp g f) σ H Q) : tA G W s f σ H fun vs H1 => r vs H1 Q := by
  obtain ⟨x, rfl, rfl, hi, q⟩ := h
  refine ⟨x, rfl, rfl, hi, ?_⟩
  unfold xApp at q
  cases h1 : f x.rho with
  | bad => simp only [h1, Res.bind_bad] at q
  | err c d ρ' => simp only [h1, Res.bind_err] at q; exact q
  | ok r1 =>
    obtain ⟨l, ρ1⟩ := r1
    simp only [h1, Res.bind_ok] at q
    intro y vs hρ iy ey ay
    cases h2 : g (l.map (·.1)) with
    | none => simp only [h2] at q
    | some dk =>
      obtain ⟨d, k⟩ := dk
      simp only [h2, Res.pure_ok] at q
      refine hg y.F y.H vs _ d k Q iy.dom ay.reads h2 fun F' H' v fv n => ?_
      exact q { y with F := F', H := H' } v fv hρ (EPost.after hi iy ey n)
theorem tS_ap2 {r : R2} {s t : Bool} {f1 f2 : EE} {g : D → D → Option (D × Kd)} (hg : FnD2 G r g) {σ H Q} (h : tS G W (s && t) (xAp2 t g f1 f2) σ H Q) : tOp r (tS G W s f1) (tS G W t f2) σ H Q := by
  obtain ⟨x, rfl, rfl, hi, q⟩ := h
  refine ⟨x, rfl, rfl, hi, ?_⟩
  unfold xAp2 at q
  cases h1 : f1 x.rho with
  | bad => simp only [h1, Res.bind_bad] at q
  | err c d ρ' =>
    simp only [h1, Res.bind_err] at q
    exact fun y cls dx hρ iy ey hev => q y cls dx hρ iy { ey with st := fun z => ey.st (by simp only [Bool.and_eq_true] at z; exact z.1) } hev
  | ok r1 =>
    obtain ⟨a, k1, ρ1⟩ := r1
    simp only [h1, Res.bind_ok] at q
    intro y v fv hρ P
    by_cases hb : k1 = .br ∧ t = false
    · rw [if_pos hb] at q; exact q.elim
    rw [if_neg hb] at q
    have hk : k1 = .br → t = true := fun e => by
      cases t with
      | true => rfl
      | false => exact absurd ⟨e, rfl⟩ hb
    refine ⟨y, P.ext.sg, rfl, P.inv, ?_⟩
    rw [hρ]
    cases h2 : f2 ρ1 with
    | bad => simp only [h2, Res.bind_bad] at q
    | err c d' ρ' =>
      simp only [h2, Res.bind_err] at q
      exact fun z cls dx hz iz ez hev => q z cls dx hz iz (P.ext.trans hi P.inv ez) hev
    | ok r2 =>
      obtain ⟨b, k2, ρ2⟩ := r2
      simp only [h2, Res.bind_ok] at q
      intro z w fw hz P2
      cases h3 : g a b with
      | none => simp only [h3] at q
      | some dk =>
        obtain ⟨d, k⟩ := dk
        simp only [h3, Res.pure_ok] at q
        obtain ⟨w', kd', _⟩ := carry P.inv P.ext.dm P.own P.kd P2.ext P.src hk
        refine hg z.F z.H v w a b _ _ d k Q P2.inv.dom w' P2.own h3 fun F' H' u fu n => ?_
        exact q { z with F := F', H := H' } u fu hz (EPost.after hi P2.inv (P.ext.trans hi P.inv P2.ext) n)
theorem tS_ap1 {r : V → Hp → VK → Prop} {s : Bool} {f : EE} {g : D → Option (D × Kd)} (hg : FnD1 G r g) {σ H Q} (h : tS G W s (xAp1 g f) σ H Q) : tUn r (tS G W s f) σ H Q := by
  obtain ⟨x, rfl, rfl, hi, q⟩ := h
  refine ⟨x, rfl, rfl, hi, ?_⟩
  unfold xAp1 at q
  cases h1 : f x.rho with
  | bad => simp only [h1, Res.bind_bad] at q
  | err c d ρ' => simp only [h1, Res.bind_err] at q; exact q
  | ok r1 =>
    obtain ⟨a, k1, ρ1⟩ := r1
    simp only [h1, Res.bind_ok] at q
    intro y v fv hρ P
    cases h3 : g a with
    | none => simp only [h3] at q
    | some dk =>
      obtain ⟨d, k⟩ := dk
      simp only [h3, Res.pure_ok] at q
      refine hg y.F y.H v a fv d k Q P.inv.dom P.own h3 fun F' H' u fu n => ?_
      exact q { y with F := F', H := H' } u fu hρ (EPost.after hi P.inv P.ext n)
theorem r_bin {op : Operator} {a b : Expr} {pos : Pos} {r : R2} {g : D → D → Option (D × Kd)} {s t : Bool} {f1 f2 : EE} (ho : OpR X (binaryOp op) r) (hg : FnD2 G r g) (ha : PE X a (tS G W s f1)) (hb : PE X b (tS G W t f2)) : PE X (.BinOp a op b pos) (tS G W (s && t) (xAp2 t g f1 f2)) :=
  PE.of (pe_op ho ha hb) fun _ _ _ h => tS_ap2 hg h
theorem r_un {op : UnaryOp} {a : Expr} {pos : Pos} {r : V → Hp → VK → Prop} {g : D → Option (D × Kd)} {s : Bool} {f : EE} (ho : UnR X (unaryOp op) r) (hg : FnD1 G r g) (ha : PE X a (tS G W s f)) : PE X (.UnaryOp op a pos) (tS G W s (xAp1 g f)) :=
  PE.of (pe_un ho ha) fun _ _ _ h => tS_ap1 hg h
theorem r_cmp {op : CmpOp} {a b : Expr} {pos : Pos} {r : R2} {g : D → D → Option (D × Kd)} {s t : Bool} {f1 f2 : EE} (ho : OpR X (compareOp op) r) (hg : FnD2 G r g) (ha : PE X a (tS G W s f1)) (hb : PE X b (tS G W t f2)) (hm : behindInMarks op b = false) : PE X (.Compare a [op] [b] pos) (tS G W (s && t) (xAp2 t g f1 f2)) :=
  PE.of (pe_cmpR ho ha hb hm) fun _ _ _ h => tS_ap2 hg h
theorem r_ix {a b : Expr} {pos : Pos} {r : R2} {g : D → D → Option (D × Kd)} {s t : Bool} {f1 f2 : EE} (ho : IxR X r) (hg : FnD2 G r g) (ha : PE X a (tS G W s f1)) (hb : PE X b (tS G W t f2)) (hs : PlainIx b) : PE X (.Subscript a b pos) (tS G W (s && t) (xAp2 t g f1 f2)) :=
  PE.of (pe_ix ho ha hb hs) fun _ _ _ h => tS_ap2 hg h
theorem r_callB {id : String} {x : Str} {p pos : Pos} {e : Expr} {es : List Expr} {r : List V → Hp → VK → Prop} {g : List D → Option (D × Kd)} {s : Bool} {f : AE} (hc : CallR X (.builtin id) r) (hg' : FnD G r g) (hg : Gl X x) (hm : X.mg x = none) (hv : bootBuiltins x = some (.builtin id)) (ha : PA X (e :: es) (tA G W s f))
    (hn : x ≠ "__name__" := by decide) (hdb : (x == ("__debug__" : Str)) = false := by decide) (he : starEach (e :: es) X.env = (false, eval e X.env) :: starEach es X.env := by rfl) (hpl : (backTo pos (starEach es X.env)).any (·.1) = false := by rfl) :
    PE X (.Call (.Name x p) (e :: es) [] pos) (tS G W s (xApp g f)) :=
  PE.of (pe_callB hc hg hm hv ha hn hdb he hpl) fun _ _ _ h => tS_app (t := tA G W s f) hg' h
theorem r_callTy {T : String} {x : Str} {p pos : Pos} {e : Expr} {es : List Expr} {r : List V → Hp → VK → Prop} {g : List D → Option (D × Kd)} {s : Bool} {f : AE} (hc : CallR X (.type T) r) (hg' : FnD G r g) (hg : Gl X x) (hm : X.mg x = none) (hv : bootBuiltins x = some (.type T)) (ha : PA X (e :: es) (tA G W s f))
    (hn : x ≠ "__name__" := by decide) (hdb : (x == ("__debug__" : Str)) = false := by decide) (he : starEach (e :: es) X.env = (false, eval e X.env) :: starEach es X.env := by rfl) (hpl : (backTo pos (starEach es X.env)).any (·.1) = false := by rfl) :
    PE X (.Call (.Name x p) (e :: es) [] pos) (tS G W s (xApp g f)) :=
  PE.of (pe_callTy hc hg hm hv ha hn hdb he hpl) fun _ _ _ h => tS_app (t := tA G W s f) hg' h
end
end VL
/-! VL4: displays, tests, and or not, conditional expressions, attributes. -/
namespace VL
open PySem PySem.Spec PyProof.Rows L2

/-- freezing what is owned by a reckoned value -/
theorem SInv.freeze {G : Gm} {y : Stt} {fv : List Addr} (hy : SInv G y) (hd : ∀ a ∈ fv, (∃ o, y.H a = some o ∧ isTbl o = false) ∧ a ∉ y.o ∧ a ∉ y.p ∧ a ∉ y.b) : SInv G { y with F := fun a => y.F a ∨ a ∈ fv } := by
  refine ⟨hy.sl.keep (fun _ h => .inl h) KeptF.refl fun a ha => ⟨fun f => ?_, fun o e _ => e⟩, hy.nd, fun a f => ?_, hy.tb⟩
  · rcases f with f | f
    · exact (hy.sl.there a ha).1 f
    · obtain ⟨_, n1, n2, n3⟩ := hd a f
      rcases ha with z | z | z
      · exact n1 z
      · exact n2 z
      · exact n3 z
  · rcases f with f | f
    · exact hy.dom a f
    · exact (hd a f).1

def D.fzOk : D → Bool
  | .drw _ _ _ _ => false
  | _ => true
theorem Objs.rep {G : Gm} {F F' : Addr → Prop} {H : Hp} {a : Addr} {d : D} (h : Objs G F H a d) (fa : F' a) (hf : ∀ x, F x → F' x) : Rep G F' H [.ref a] [d] := by
  cases d <;> first | exact h.elim | skip
  case lst es => obtain ⟨ws, e, z, r⟩ := h; exact .lst fa e z (r.keep hf .refl) .nil
  case dK es => obtain ⟨ws, e, z, k, r⟩ := h; exact .dK fa e z k (r.keep hf .refl) .nil
  case dT es => obtain ⟨ws, e, z, k, r⟩ := h; exact .dT fa e z k (r.keep hf .refl) .nil
  case ins c es => obtain ⟨C, dx, ws, e, z, k, r⟩ := h; exact .ins fa e z k (r.keep hf .refl) .nil
theorem Own.rep {G : Gm} {F F' : Addr → Prop} {H : Hp} {v : V} {d : D} {fp : List Addr} (h : Own G F H v d fp) (fa : ∀ a ∈ fp, F' a) (hf : ∀ x, F x → F' x) (hd : d.fzOk = true) : Rep G F' H [v] [d] := by
  cases h with
  | fz r => exact r.keep hf .refl
  | ow _ ob => exact ob.rep (fa _ (by simp)) hf
  | drw => cases hd
def fzAll (l : List (D × Kd)) : Bool := l.all fun dk => (decide (dk.2 ≠ .br)) && dk.1.fzOk
theorem AOk.temps {G : Gm} {x y : Stt} {vs : List V} {l : List (D × Kd)} (h : AOk G x y vs l) (hb : fzAll l = true) :
    ∃ fs : List Addr, (∀ a ∈ fs, ((∃ o, y.H a = some o ∧ isTbl o = false) ∧ a ∉ y.o ∧ a ∉ y.p ∧ a ∉ y.b) ∧ x.H a = none) ∧ Rep G (fun a => y.F a ∨ a ∈ fs) y.H vs (l.map (·.1)) := by
  induction h with
  | nil => exact ⟨[], by simp, .nil⟩
  | @cons v d k fv vs dks w kd _ _ ih =>
    simp only [fzAll, List.all_cons, Bool.and_eq_true, decide_eq_true_eq] at hb
    obtain ⟨⟨hk, hd⟩, hb⟩ := hb
    obtain ⟨fs, h1, r⟩ := ih (by simpa [fzAll] using hb)
    cases k with
    | br => exact absurd rfl hk
    | fz =>
      obtain rfl : fv = [] := kd
      exact ⟨fs, h1, Rep.cons_iff.mpr ⟨w.rep (by simp) (fun _ h => .inl h) hd, r⟩⟩
    | ow =>
      refine ⟨fv ++ fs, fun a ha => ?_, Rep.cons_iff.mpr ⟨w.rep (fun a ha => .inr (by simp [ha])) (fun _ h => .inl h) hd, r.keep (fun a h => ?_) .refl⟩⟩
      · rcases List.mem_append.mp ha with q | q
        · exact ⟨⟨(w.there a q).2, (kd.2 a q).2⟩, (kd.2 a q).1⟩
        · exact h1 a q
      · rcases h with h | h
        · exact .inl h
        · exact .inr (by simp [h])
theorem AOk.frozen {G : Gm} {s : Bool} {x y : Stt} {vs : List V} {l : List (D × Kd)} (hx : SInv G x) (hy : SInv G y) (e : Ext s x y) (h : AOk G x y vs l) (hb : fzAll l = true) :
    ∃ F' : Addr → Prop, SInv G { y with F := F' } ∧ Ext s x { y with F := F' } ∧ Rep G F' y.H vs (l.map (·.1)) := by
  obtain ⟨fs, h1, r⟩ := h.temps hb
  refine ⟨fun a => y.F a ∨ a ∈ fs, hy.freeze fun a ha => (h1 a ha).1, ⟨e.sg, e.kp, fun a f => .inl (e.f1 a f), fun a f => ?_, e.o1, e.p1, e.b1, e.dm, e.lk, e.st⟩, r⟩
  rcases f with f | f
  · exact e.f2 a f
  · exact .inr (h1 a f).2
def xTup (f : AE) : EE := fun ρ => do
  let (l, ρ1) ← f ρ
  if fzAll l = true ∧ l.length ≤ sizeLine then pure (.tup (l.map (·.1)), .fz, ρ1) else .bad
def xLst (f : AE) : EE := fun ρ => do
  let (l, ρ1) ← f ρ
  if fzAll l = true ∧ l.length ≤ sizeLine then pure (.lst (l.map (·.1)), .ow, ρ1) else .bad
section
variable {X : Cx} {G : Gm} {W : WX}
theorem r_tup {es : List Expr} {x1 : Nat} {pos : Pos} {s : Bool} {f : AE} (h : PA X es (tA G W s f)) : PE X (.Tuple es x1 pos) (tS G W s (xTup f)) := PE.of (pe_tup h) fun σ H Q ⟨x, e1, e2, hi, q⟩ => by
  subst e1 e2
  refine ⟨x, rfl, rfl, hi, ?_⟩
  unfold xTup at q
  cases h1 : f x.rho with
  | bad => simp only [h1, Res.bind_bad] at q
  | err c d ρ' => simp only [h1, Res.bind_err] at q; exact q
  | ok r1 =>
    obtain ⟨l, ρ1⟩ := r1
    simp only [h1, Res.bind_ok] at q
    intro y vs hρ iy ey ay
    by_cases hc : fzAll l = true ∧ l.length ≤ sizeLine
    · rw [if_pos hc] at q
      obtain ⟨F', i', e', r⟩ := ay.frozen hi iy ey hc.1
      have hz : vs.length ≤ sizeLine := by rw [r.length, List.length_map]; exact hc.2
      refine ⟨hz, fun p hp => ?_⟩
      have P := EPost.after (y := { y with F := F' }) hi i' e' (NewV.tup i'.dom hp hz r)
      exact q { F := _, rho := y.rho, sg := y.sg, H := _, o := y.o, p := y.p, b := y.b } _ [] hρ P
    · rw [if_neg hc] at q; exact q.elim
theorem r_lst {es : List Expr} {pos : Pos} {s : Bool} {f : AE} (h : PA X es (tA G W s f)) : PE X (.List es pos) (tS G W s (xLst f)) := PE.of (pe_lst h) fun σ H Q ⟨x, e1, e2, hi, q⟩ => by
  subst e1 e2
  refine ⟨x, rfl, rfl, hi, ?_⟩
  unfold xLst at q
  cases h1 : f x.rho with
  | bad => simp only [h1, Res.bind_bad] at q
  | err c d ρ' => simp only [h1, Res.bind_err] at q; exact q
  | ok r1 =>
    obtain ⟨l, ρ1⟩ := r1
    simp only [h1, Res.bind_ok] at q
    intro y vs hρ iy ey ay
    by_cases hc : fzAll l = true ∧ l.length ≤ sizeLine
    · rw [if_pos hc] at q
      obtain ⟨F', i', e', r⟩ := ay.frozen hi iy ey hc.1
      have hz : vs.length ≤ sizeLine := by rw [r.length, List.length_map]; exact hc.2
      refine ⟨hz, fun p hp => ?_⟩
      have P := EPost.after (y := { y with F := F' }) hi i' e' (NewV.lst i'.dom hp hz r)
      exact q { F := _, rho := y.rho, sg := y.sg, H := _, o := y.o, p := y.p, b := y.b } _ _ hρ P
    · rw [if_neg hc] at q; exact q.elim

/-! ### tests -/
abbrev BE := Env → Res (Bool × Env)
def tB (G : Gm) (W : WX) (still : Bool) (f : BE) : TT := fun σ H Q => ∃ x : Stt, x.sg = σ ∧ x.H = H ∧ SInv G x ∧
  match f x.rho with
  | .ok (b, ρ') => ∀ y, y.rho = ρ' → SInv G y → Ext still x y → Q b y.H
  | .err c d ρ' => ∀ y cls dx, y.rho = ρ' → SInv G y → Ext still x y → ErrV G y cls dx c d → W cls dx σ y.H
  | .bad => False
def xTst (f : EE) : BE := fun ρ => do
  let (d, _, ρ1) ← f ρ
  match d with
  | .bl b => pure (b, ρ1)
  | _ => .bad
theorem tB_of {s : Bool} {f : EE} {σ H} {Q : Bool → Hp → Prop} (h : tB G W s (xTst f) σ H Q) : tS G W s f σ H fun x H1 => ∃ c, x = .bl c ∧ Q c H1 := by
  obtain ⟨x, rfl, rfl, hi, q⟩ := h
  refine ⟨x, rfl, rfl, hi, ?_⟩
  unfold xTst at q
  cases h1 : f x.rho with
  | bad => simp only [h1, Res.bind_bad] at q
  | err c d ρ' => simp only [h1, Res.bind_err] at q; exact q
  | ok r1 =>
    obtain ⟨d, k, ρ1⟩ := r1
    simp only [h1, Res.bind_ok] at q
    intro y v fv hρ P
    cases d <;> first | exact q.elim | skip
    case bl b =>
      have w := P.own
      have : v = .bl b := by
        cases w with
        | fz r => exact r.bl_of
        | ow _ ob => exact ob.elim
      exact ⟨b, this, q y hρ P.inv P.ext⟩
theorem r_test {e : Expr} {s : Bool} {f : EE} (h : PE X e (tS G W s f)) (he : ∀ whole, isTrue e X.env whole = (do let v ← whole; standAt e.pos; holding [v] (truthy v)) := by intro _; rfl) : PT X e (tB G W s (xTst f)) := PT.of (pt_val h he) fun _ _ _ h => tB_of h
theorem r_tcmp {op : CmpOp} {a b : Expr} {pos : Pos} {r : R2} {g : D → D → Option (D × Kd)} {s t : Bool} {f1 f2 : EE} (ho : OpR X (compareOp op) r) (hg : FnD2 G r g) (ha : PE X a (tS G W s f1)) (hb : PE X b (tS G W t f2)) (hm : behindInMarks op b = false) : PT X (.Compare a [op] [b] pos) (tB G W (s && t) (xTst (xAp2 t g f1 f2))) :=
  PT.of (pt_cmpR ho ha hb hm) fun _ _ _ h => tS_ap2 hg (tB_of h)
def bNot (f : BE) : BE := fun ρ => do
  let (b, ρ1) ← f ρ
  pure (!b, ρ1)
def bK (b : Bool) : BE := fun ρ => pure (b, ρ)
def bIf (f g g' : BE) : BE := fun ρ => do
  let (b, ρ1) ← f ρ
  if b = true then g ρ1 else g' ρ1
def bAnd (f g : BE) : BE := bIf f g (bK false)
def bOr (f g : BE) : BE := bIf f (bK true) g
theorem Ext.weak {s t : Bool} {x y : Stt} (e : Ext s x y) (h : t = true → s = true) : Ext t x y := { e with st := fun z => e.st (h z) }
theorem r_not {a : Expr} {pos : Pos} {s : Bool} {f : BE} (h : PT X a (tB G W s f)) : PT X (.UnaryOp .Not a pos) (tB G W s (bNot f)) := PT.of (pt_not h) fun σ H Q ⟨x, e1, e2, hi, q⟩ => by
  subst e1 e2
  refine ⟨x, rfl, rfl, hi, ?_⟩
  unfold bNot at q
  cases h1 : f x.rho with
  | bad => simp only [h1, Res.bind_bad] at q
  | err c d ρ' => simp only [h1, Res.bind_err] at q; exact q
  | ok r1 =>
    obtain ⟨b, ρ1⟩ := r1
    simp only [h1, Res.bind_ok] at q
    exact q
theorem tB_cond {s t u : Bool} {f g g' : BE} {σ H} {Q : Bool → Hp → Prop} (h : tB G W (s && (t && u)) (bIf f g g') σ H Q) :
    tB G W s f σ H fun c H1 => if c = true then tB G W t g σ H1 Q else tB G W u g' σ H1 Q := by
  obtain ⟨x, rfl, rfl, hi, q⟩ := h
  refine ⟨x, rfl, rfl, hi, ?_⟩
  unfold bIf at q
  cases h1 : f x.rho with
  | bad => simp only [h1, Res.bind_bad] at q
  | err c d ρ' =>
    simp only [h1, Res.bind_err] at q
    exact fun y cls dx hρ iy ey hev => q y cls dx hρ iy (ey.weak fun z => by simp only [Bool.and_eq_true] at z; exact z.1) hev
  | ok r1 =>
    obtain ⟨b, ρ1⟩ := r1
    simp only [h1, Res.bind_ok] at q
    intro y hρ iy ey
    cases b with
    | true =>
      rw [if_pos rfl]; rw [if_pos rfl] at q
      refine ⟨y, ey.sg, rfl, iy, ?_⟩
      rw [hρ]
      cases h2 : g ρ1 with
      | bad => simp only [h2] at q
      | err c d' ρ' =>
        simp only [h2] at q
        exact fun z cls dx hz iz ez hev => q z cls dx hz iz ((ey.trans hi iy ez).weak fun z => by simp only [Bool.and_eq_true] at z ⊢; exact ⟨z.1, z.2.1⟩) hev
      | ok r2 =>
        simp only [h2] at q
        exact fun z hz iz ez => q z hz iz ((ey.trans hi iy ez).weak fun z => by simp only [Bool.and_eq_true] at z ⊢; exact ⟨z.1, z.2.1⟩)
    | false =>
      rw [if_neg (by simp)]; rw [if_neg (by simp)] at q
      refine ⟨y, ey.sg, rfl, iy, ?_⟩
      rw [hρ]
      cases h2 : g' ρ1 with
      | bad => simp only [h2] at q
      | err c d' ρ' =>
        simp only [h2] at q
        exact fun z cls dx hz iz ez hev => q z cls dx hz iz ((ey.trans hi iy ez).weak fun z => by simp only [Bool.and_eq_true] at z ⊢; exact ⟨z.1, z.2.2⟩) hev
      | ok r2 =>
        simp only [h2] at q
        exact fun z hz iz ez => q z hz iz ((ey.trans hi iy ez).weak fun z => by simp only [Bool.and_eq_true] at z ⊢; exact ⟨z.1, z.2.2⟩)
theorem tB_pure {s : Bool} {b : Bool} {σ H} {Q : Bool → Hp → Prop} (h : tB G W s (bK b) σ H Q) : Q b H := by
  obtain ⟨x, rfl, rfl, hi, q⟩ := h
  exact q x rfl hi .refl
theorem tB_imp {s : Bool} {f : BE} {σ H} {Q Q' : Bool → Hp → Prop} (h : tB G W s f σ H Q) (i : ∀ b H', Q b H' → Q' b H') : tB G W s f σ H Q' := by
  obtain ⟨x, e1, e2, hi, q⟩ := h
  refine ⟨x, e1, e2, hi, ?_⟩
  revert q
  cases f x.rho with
  | bad => exact id
  | err c d ρ' => exact id
  | ok r1 => exact fun q y hρ iy ey => i _ _ (q y hρ iy ey)
theorem r_and {a b : Expr} {rest : List Expr} {pos : Pos} {s t : Bool} {f g : BE} (ha : PT X a (tB G W s f)) (hb : PW X (.BoolOp .And (b :: rest) pos) (tB G W t g)) : PW X (.BoolOp .And (a :: b :: rest) pos) (tB G W (s && t) (bAnd f g)) := by
  have h := pw_and (pos := pos) ha hb
  refine ⟨fun wh pins st σ H Q I w => h.run wh pins st σ H Q I ?_⟩
  have q := tB_cond (u := true) (s := s) (t := t) (f := f) (g := g) (g' := bK false) (by rw [Bool.and_true]; exact w)
  refine tB_imp q fun b H' q => ?_
  split
  · rename_i hb; rw [if_pos hb] at q; exact q
  · rename_i hb; rw [if_neg hb] at q; exact tB_pure q
theorem r_or {a b : Expr} {rest : List Expr} {pos : Pos} {s t : Bool} {f g : BE} (ha : PT X a (tB G W s f)) (hb : PW X (.BoolOp .Or (b :: rest) pos) (tB G W t g)) : PW X (.BoolOp .Or (a :: b :: rest) pos) (tB G W (s && t) (bOr f g)) := by
  have h := pw_or (pos := pos) ha hb
  refine ⟨fun wh pins st σ H Q I w => h.run wh pins st σ H Q I ?_⟩
  have q := tB_cond (t := true) (s := s) (u := t) (f := f) (g := bK true) (g' := g) (by rw [Bool.true_and]; exact w)
  refine tB_imp q fun b H' q => ?_
  split
  · rename_i hb; rw [if_pos hb] at q; exact tB_pure q
  · rename_i hb; rw [if_neg hb] at q; exact q
theorem r_and1 {a : Expr} {pos : Pos} {s : Bool} {f : BE} (ha : PT X a (tB G W s f)) : PW X (.BoolOp .And [a] pos) (tB G W s f) := pw_and1 ha
theorem r_or1 {a : Expr} {pos : Pos} {s : Bool} {f : BE} (ha : PT X a (tB G W s f)) : PW X (.BoolOp .Or [a] pos) (tB G W s f) := pw_or1 ha
end
end VL
/-! VL5: slots changed; conditional expressions; attributes; readings of statements. -/
namespace VL
open PySem PySem.Spec PyProof.Rows L2

/-- what a slot may hold anew -/
inductive SlotOk (G : Gm) (F : Addr → Prop) (H : Hp) (v : V) (d : D) : Fl → List Addr → Prop
  | fz : Rep G F H [v] [d] → SlotOk G F H v d .fz []
  | ow {fp} : Own G F H v d fp → fp ≠ [] → SlotOk G F H v d .ow fp
theorem Slots.set {G F H ρ σ o p b} (h : Slots G F H ρ σ o p b) : ∀ {i : Nat} {v : V} {d : D} {fl : Fl} {fp : List Addr}, i < ρ.length → (∀ d' fl', ρ[i]? = some (some (d', fl')) → fl' = .fz ∨ fl' = .ow) → SlotOk G F H v d fl fp →
    ∃ o1 old o3, o = o1 ++ (old ++ o3) ∧ Slots G F H (ρ.set i (some (d, fl))) (σ.set i (some v)) (o1 ++ (fp ++ o3)) p b := by
  induction h with
  | nil => intro i v d fl fp hi; simp at hi
  | @none x ρ σ o p b hs ih =>
    intro i v d fl fp hi hn w
    cases i with
    | zero =>
      refine ⟨[], [], o, rfl, ?_⟩
      cases w with
      | fz r => exact .fz r hs
      | ow r n => exact Slots.ow (fp := fp) r n hs
    | succ i =>
      obtain ⟨o1, old, o3, e, q⟩ := ih (i := i) (by simpa using hi) (fun d' fl' e => hn d' fl' (by simpa using e)) w
      exact ⟨o1, old, o3, e, .none q⟩
  | @fz v0 d0 ρ σ o p b r0 hs ih =>
    intro i v d fl fp hi hn w
    cases i with
    | zero =>
      refine ⟨[], [], o, rfl, ?_⟩
      cases w with
      | fz r => exact .fz r hs
      | ow r n => exact Slots.ow (fp := fp) r n hs
    | succ i =>
      obtain ⟨o1, old, o3, e, q⟩ := ih (i := i) (by simpa using hi) (fun d' fl' e => hn d' fl' (by simpa using e)) w
      exact ⟨o1, old, o3, e, .fz r0 q⟩
  | @ow v0 d0 fp0 ρ σ o p b r0 n0 hs ih =>
    intro i v d fl fp hi hn w
    cases i with
    | zero =>
      refine ⟨[], fp0, o, rfl, ?_⟩
      cases w with
      | fz r => exact .fz r hs
      | ow r n => exact Slots.ow (fp := fp) r n hs
    | succ i =>
      obtain ⟨o1, old, o3, e, q⟩ := ih (i := i) (by simpa using hi) (fun d' fl' e => hn d' fl' (by simpa using e)) w
      refine ⟨fp0 ++ o1, old, o3, by rw [e, List.append_assoc], ?_⟩
      rw [List.append_assoc]
      exact .ow r0 n0 q
  | @pn v0 d0 fp0 ρ σ o p b r0 n0 hs ih =>
    intro i v d fl fp hi hn w
    cases i with
    | zero => have := hn d0 .pn rfl; simp at this
    | succ i =>
      obtain ⟨o1, old, o3, e, q⟩ := ih (i := i) (by simpa using hi) (fun d' fl' e => hn d' fl' (by simpa using e)) w
      exact ⟨o1, old, o3, e, .pn r0 n0 q⟩
  | @lk v0 d0 fp0 ρ σ o p b r0 hs ih =>
    intro i v d fl fp hi hn w
    cases i with
    | zero => have := hn d0 .lk rfl; simp at this
    | succ i =>
      obtain ⟨o1, old, o3, e, q⟩ := ih (i := i) (by simpa using hi) (fun d' fl' e => hn d' fl' (by simpa using e)) w
      exact ⟨o1, old, o3, e, .lk r0 q⟩
/-- the object of an owned slot is changed -/
theorem Slots.mut {G F H H' ρ σ o p b} (h : Slots G F H ρ σ o p b) : ∀ {i : Nat} {d d' : D} {fl : Fl} {v : V} {fp : List Addr}, (o ++ (p ++ b)).Nodup → ρ[i]? = some (some (d, fl)) → (fl = .ow ∨ fl = .pn) → σ[i]? = some (some v) → Own G F H v d fp → fp ≠ [] → Own G F H' v d' fp →
    (∀ a ob, H a = some ob → a ∉ fp → isTbl ob = false → H' a = some ob) → Slots G F H' (ρ.set i (some (d', fl))) σ o p b := by
  have key : ∀ {ρ σ o p b}, Slots G F H ρ σ o p b → ∀ fp : List Addr, (∀ a ∈ fp, ¬ F a) → (∀ a ob, H a = some ob → a ∉ fp → isTbl ob = false → H' a = some ob) → (∀ a, a ∈ o ∨ a ∈ p ∨ a ∈ b → a ∉ fp) → Slots G F H' ρ σ o p b := by
    intro ρ σ o p b hs fp nf k dis
    refine hs.keep (fun _ h => h) (fun a ob f e t => k a ob e (fun z => nf a z f) t) fun a ha => ⟨(hs.there a ha).1, fun ob e t => k a ob e (dis a ha) t⟩
  have own1 : ∀ {v d fp fp'}, Own G F H v d fp → Own G F H v d fp' → fp ≠ [] → fp' ≠ [] → fp = fp' := by
    intro v d fp fp' w w' n n'
    cases w with
    | fz _ => exact absurd rfl n
    | ow f ob =>
      cases w' with
      | fz _ => exact absurd rfl n'
      | ow _ _ => rfl
      | drw _ _ _ _ _ _ => exact ob.elim
    | drw f1 f2 f3 _ _ q =>
      cases w' with
      | fz _ => exact absurd rfl n'
      | ow _ ob => exact ob.elim
      | drw _ _ _ _ _ q' =>
        have e := q.1.symm.trans q'.1
        simp at e
        rw [e.1]
  induction h with
  | nil => intro i d d' fl v fp nd e; simp at e
  | none hs ih =>
    intro i d d' fl v fp nd e hf ev w n w' k
    cases i with
    | zero => simp at e
    | succ i => exact .none (ih nd (by simpa using e) hf (by simpa using ev) w n w' k)
  | fz r hs ih =>
    intro i d d' fl v fp nd e hf ev w n w' k
    cases i with
    | zero => simp at e; obtain ⟨rfl, rfl⟩ := e; simp at hf
    | succ i => exact .fz (r.keep (fun _ h => h) fun a ob f e t => k a ob e (fun z => (w.there a z).1 f) t) (ih nd (by simpa using e) hf (by simpa using ev) w n w' k)
  | @ow v0 d0 fp0 ρ σ o p b w0 n0 hs ih =>
    intro i d d' fl v fp nd e hf ev w n w' k
    cases i with
    | zero =>
      simp at e ev; obtain ⟨rfl, rfl⟩ := e; subst ev
      obtain rfl := own1 w0 w n0 n
      refine .ow w' n (key hs fp0 (fun a ha => (w.there a ha).1) k fun a ha z => ?_)
      rw [List.append_assoc, List.nodup_append] at nd
      exact nd.2.2 a z a (by simp [ha]) rfl
    | succ i =>
      have e' : ρ[i]? = some (some (d, fl)) := by simpa using e
      have nd' : (o ++ (p ++ b)).Nodup := by rw [List.append_assoc, List.nodup_append] at nd; exact nd.2.1
      have ev' : σ[i]? = some (some v) := by simpa using ev
      obtain ⟨v1, fp1, q1, q2, _, q5, q4⟩ := hs.get e'
      rw [ev'] at q1; cases q1
      have sub : ∀ a ∈ fp, a ∈ o ∨ a ∈ p ∨ a ∈ b := fun a ha => by
        have h1 : fp1 ≠ [] := q5 hf
        obtain rfl := own1 q2 w h1 n
        rcases q4 a ha with z | z | z
        · exact .inl z.2
        · exact .inr (.inl z.2)
        · exact .inr (.inr z.2)
      refine .ow (w0.keep (fun _ h => h) (fun a ob f e t => k a ob e (fun z => (w.there a z).1 f) t) fun a ha => ⟨(w0.there a ha).1, fun ob e t => k a ob e (fun z => ?_) t⟩) n0 (ih nd' e' hf ev' w n w' k)
      rw [List.append_assoc, List.nodup_append] at nd
      exact nd.2.2 a ha a (by simpa using sub a z) rfl
  | @pn v0 d0 fp0 ρ σ o p b w0 n0 hs ih =>
    intro i d d' fl v fp nd e hf ev w n w' k
    have nd1 : (o ++ (fp0 ++ (p ++ b))).Nodup := by rwa [List.append_assoc] at nd
    have nd2 := (List.nodup_append.mp nd1)
    have nd3 := (List.nodup_append.mp nd2.2.1)
    cases i with
    | zero =>
      simp at e ev; obtain ⟨rfl, rfl⟩ := e; subst ev
      obtain rfl := own1 w0 w n0 n
      refine .pn w' n (key hs fp0 (fun a ha => (w.there a ha).1) k fun a ha z => ?_)
      rcases ha with q | q | q
      · exact nd2.2.2 a q a (by simp [z]) rfl
      · exact nd3.2.2 a z a (by simp [q]) rfl
      · exact nd3.2.2 a z a (by simp [q]) rfl
    | succ i =>
      have e' : ρ[i]? = some (some (d, fl)) := by simpa using e
      have nd' : (o ++ (p ++ b)).Nodup := List.nodup_append.mpr ⟨nd2.1, nd3.2.1, fun a ha c hc => nd2.2.2 a ha c (by simp at hc ⊢; exact .inr hc)⟩
      have ev' : σ[i]? = some (some v) := by simpa using ev
      obtain ⟨v1, fp1, q1, q2, _, q5, q4⟩ := hs.get e'
      rw [ev'] at q1; cases q1
      have sub : ∀ a ∈ fp, a ∈ o ∨ a ∈ p ∨ a ∈ b := fun a ha => by
        have h1 : fp1 ≠ [] := q5 hf
        obtain rfl := own1 q2 w h1 n
        rcases q4 a ha with z | z | z
        · exact .inl z.2
        · exact .inr (.inl z.2)
        · exact .inr (.inr z.2)
      refine .pn (w0.keep (fun _ h => h) (fun a ob f e t => k a ob e (fun z => (w.there a z).1 f) t) fun a ha => ⟨(w0.there a ha).1, fun ob e t => k a ob e (fun z => ?_) t⟩) n0 (ih nd' e' hf ev' w n w' k)
      rcases sub a z with q | q | q
      · exact nd2.2.2 a q a (by simp [ha]) rfl
      · exact nd3.2.2 a ha a (by simp [q]) rfl
      · exact nd3.2.2 a ha a (by simp [q]) rfl
  | @lk v0 d0 fp0 ρ σ o p b w0 hs ih =>
    intro i d d' fl v fp nd e hf ev w n w' k
    cases i with
    | zero => simp at e; obtain ⟨rfl, rfl⟩ := e; simp at hf
    | succ i =>
      have e' : ρ[i]? = some (some (d, fl)) := by simpa using e
      have ev' : σ[i]? = some (some v) := by simpa using ev
      have nd2 := (List.nodup_append.mp nd)
      have nd3 := (List.nodup_append.mp nd2.2.1)
      have nd4 := (List.nodup_append.mp nd3.2.1)
      have nd' : (o ++ (p ++ b)).Nodup := List.nodup_append.mpr ⟨nd2.1, List.nodup_append.mpr ⟨nd3.1, nd4.2.1, fun a ha c hc => nd3.2.2 a ha c (by simp [hc])⟩, fun a ha c hc => nd2.2.2 a ha c (by
        rcases List.mem_append.mp hc with q | q
        · simp [q]
        · simp [q])⟩
      obtain ⟨v1, fp1, q1, q2, _, q5, q4⟩ := hs.get e'
      rw [ev'] at q1; cases q1
      have sub : ∀ a ∈ fp, (a ∈ o ∨ a ∈ p) := fun a ha => by
        have h1 : fp1 ≠ [] := q5 hf
        obtain rfl := own1 q2 w h1 n
        rcases q4 a ha with z | z | z
        · exact .inl z.2
        · exact .inr z.2
        · rcases hf with q | q <;> simp [q] at z
      refine .lk (w0.keep (fun _ h => h) (fun a ob f e t => k a ob e (fun z => (w.there a z).1 f) t) fun a ha => ⟨(w0.there a ha).1, fun ob e t => k a ob e (fun z => ?_) t⟩) (ih nd' e' hf ev' w n w' k)
      rcases sub a z with q | q
      · exact nd2.2.2 a q a (by simp [ha]) rfl
      · exact nd3.2.2 a q a (by simp [ha]) rfl
/-- an owned slot is emptied -/
theorem Slots.drop {G F H ρ σ o p b} (h : Slots G F H ρ σ o p b) : ∀ {i : Nat} {d : D}, ρ[i]? = some (some (d, .ow)) →
    ∃ v fp o1 o3, σ[i]? = some (some v) ∧ Own G F H v d fp ∧ o = o1 ++ (fp ++ o3) ∧ Slots G F H (ρ.set i Option.none) σ (o1 ++ o3) p b := by
  induction h with
  | nil => intro i d e; simp at e
  | none _ ih =>
    intro i d e
    cases i with
    | zero => simp at e
    | succ i =>
      obtain ⟨v, fp, o1, o3, e1, w, e2, q⟩ := ih (i := i) (by simpa using e)
      exact ⟨v, fp, o1, o3, by simpa using e1, w, e2, .none q⟩
  | fz r _ ih =>
    intro i d e
    cases i with
    | zero => simp at e
    | succ i =>
      obtain ⟨v, fp, o1, o3, e1, w, e2, q⟩ := ih (i := i) (by simpa using e)
      exact ⟨v, fp, o1, o3, by simpa using e1, w, e2, .fz r q⟩
  | @ow v0 d0 fp0 ρ σ o p b w0 n0 hs ih =>
    intro i d e
    cases i with
    | zero =>
      simp at e; subst e
      exact ⟨v0, fp0, [], o, rfl, w0, rfl, .none hs⟩
    | succ i =>
      obtain ⟨v, fp, o1, o3, e1, w, e2, q⟩ := ih (i := i) (by simpa using e)
      refine ⟨v, fp, fp0 ++ o1, o3, by simpa using e1, w, by rw [e2, List.append_assoc], ?_⟩
      rw [List.append_assoc]
      exact .ow w0 n0 q
  | pn w0 n0 _ ih =>
    intro i d e
    cases i with
    | zero => simp at e
    | succ i =>
      obtain ⟨v, fp, o1, o3, e1, w, e2, q⟩ := ih (i := i) (by simpa using e)
      exact ⟨v, fp, o1, o3, by simpa using e1, w, e2, .pn w0 n0 q⟩
  | lk w0 _ ih =>
    intro i d e
    cases i with
    | zero => simp at e
    | succ i =>
      obtain ⟨v, fp, o1, o3, e1, w, e2, q⟩ := ih (i := i) (by simpa using e)
      exact ⟨v, fp, o1, o3, by simpa using e1, w, e2, .lk w0 q⟩
end VL
/-! VL6: readings of statements and their rules. -/
namespace VL
open PySem PySem.Spec PyProof.Rows L2

/-- z: the state at the def's entry -/
structure EInv (z x : Stt) : Prop where
  f1 : ∀ a, x.F a → z.F a ∨ z.H a = none
  kp : Kept z.p z.H x.H
  p1 : x.p = z.p
  o1 : ∀ a ∈ x.o, z.H a = none
  dm : ∀ a, x.H a = none → z.H a = none
  f0 : ∀ a, z.F a → x.F a
structure SStep (G : Gm) (z x y : Stt) : Prop where
  inv : SInv G y
  ent : EInv z y
  lk : ∀ (j : Nat) (d : D) (fl : Fl), x.rho[j]? = some (some (d, fl)) → fl = Fl.lk ∨ fl = Fl.pn → ∃ d', y.rho[j]? = some (some (d', fl)) ∧ (fl = Fl.lk → d' = d) ∧ y.sg[j]? = x.sg[j]?
  kf : KeptF x.F x.H y.H
  f1 : ∀ a, x.F a → y.F a
theorem SStep.refl {G z x} (h : SInv G x) (e : EInv z x) : SStep G z x x := ⟨h, e, fun _ d _ e _ => ⟨d, e, fun _ => rfl, rfl⟩, .refl, fun _ h => h⟩
theorem SStep.trans {G z x y w} (a : SStep G z x y) (b : SStep G z y w) : SStep G z x w where
  inv := b.inv
  ent := b.ent
  lk := fun j d fl e hf => by
    obtain ⟨d1, e1, k1, s1⟩ := a.lk j d fl e hf
    obtain ⟨d2, e2, k2, s2⟩ := b.lk j d1 fl e1 hf
    exact ⟨d2, e2, fun h => (k2 h).trans (k1 h), s2.trans s1⟩
  kf := a.kf.trans b.kf a.f1
  f1 := fun c h => b.f1 c (a.f1 c h)
theorem EInv.ext {G s z x y} (h : EInv z x) (hx : SInv G x) (e : Ext s x y) : EInv z y where
  f1 := fun a f => by
    rcases e.f2 a f with q | q
    · exact h.f1 a q
    · exact .inr (h.dm a q)
  kp := fun a o e1 n t => by
    refine e.kp a o (h.kp a o e1 n t) (fun q => ?_) t
    rcases List.mem_append.mp q with q | q
    · rw [h.o1 a q] at e1; cases e1
    · rw [h.p1] at q; exact n q
  p1 := e.p1.trans h.p1
  o1 := fun a q => by
    rcases e.o1 a q with q | q
    · exact h.o1 a q
    · exact h.dm a q
  dm := fun a q => h.dm a (e.dm a q)
  f0 := fun a f => e.f1 a (h.f0 a f)
theorem SStep.ext {G s z x y} (h : EInv z x) (hx : SInv G x) (hy : SInv G y) (e : Ext s x y) : SStep G z x y where
  inv := hy
  ent := h.ext hx e
  lk := fun j d fl e1 hf => by
    obtain ⟨d', e2, k⟩ := e.lk j d fl e1 hf
    exact ⟨d', e2, k, by rw [e.sg]⟩
  kf := e.keptF hx
  f1 := e.f1

inductive Flo where
  | nx (ρ : Env) | rt (d : D) (k : Kd) (ρ : Env) | bk (ρ : Env) | ct (ρ : Env)
abbrev SE := Env → Res Flo
def KdS (z : Stt) (k : Kd) (fv : List Addr) : Prop := match k with
  | .fz => fv = []
  | .ow => fv ≠ [] ∧ ∀ a ∈ fv, z.H a = none
  | .br => False
/-- what is wanted behind a statement, by what its function says -/
def TQ (G : Gm) (W : WX) (z x : Stt) (Dn : Ends) : Res Flo → Prop
  | .ok (.nx ρ') => ∀ y, y.rho = ρ' → SStep G z x y → Dn.nx y.sg y.H
  | .ok (.bk ρ') => ∀ y, y.rho = ρ' → SStep G z x y → Dn.bk y.sg y.H
  | .ok (.ct ρ') => ∀ y, y.rho = ρ' → SStep G z x y → Dn.ct y.sg y.H
  | .ok (.rt d k ρ') => ∀ y v fv, y.rho = ρ' → SStep G z x y → Own G y.F y.H v d fv → KdS z k fv → Dn.rt v y.H
  | .err c d ρ' => ∀ y cls dx, y.rho = ρ' → SStep G z x y → ErrV G y cls dx c d → W cls dx y.sg y.H
  | .bad => False
def tT (G : Gm) (W : WX) (z : Stt) (s : SE) : TS := fun Dn σ H => ∃ x : Stt, x.sg = σ ∧ x.H = H ∧ SInv G x ∧ EInv z x ∧ TQ G W z x Dn (s x.rho)
theorem TQ.step {G W z x y Dn r} (h : TQ G W z x Dn r) (e : SStep G z x y) : TQ G W z y Dn r := by
  cases r with
  | bad => exact h
  | err c d ρ' => exact fun w cls dx h1 h2 h3 => h w cls dx h1 (e.trans h2) h3
  | ok f =>
    cases f with
    | nx ρ' => exact fun w h1 h2 => h w h1 (e.trans h2)
    | bk ρ' => exact fun w h1 h2 => h w h1 (e.trans h2)
    | ct ρ' => exact fun w h1 h2 => h w h1 (e.trans h2)
    | rt d k ρ' => exact fun w v fv h1 h2 => h w v fv h1 (e.trans h2)
def sSeq (s t : SE) : SE := fun ρ => do
  match ← s ρ with
  | .nx ρ1 => t ρ1
  | f => pure f
def sNil : SE := fun ρ => pure (.nx ρ)
def sEx (f : EE) : SE := fun ρ => do
  let (_, _, ρ1) ← f ρ
  pure (.nx ρ1)
def sIf (c : BE) (s t : SE) : SE := fun ρ => do
  let (b, ρ1) ← c ρ
  if b = true then s ρ1 else t ρ1
/-- the flag in slot i lets it be set -/
def canSet (ρ : Env) (i : Nat) : Bool := match ρ[i]? with
  | some (some (_, .lk)) => false
  | some (some (_, .pn)) => false
  | some _ => true
  | none => false
/-- name = value: frozen, or owned where fl is ow and the value is new -/
def setSlot (fl : Fl) (i : Nat) (d : D) (k : Kd) (ρ : Env) : Res Env :=
  if canSet ρ i = true then
    match k, fl with
    | .fz, _ => .ok (ρ.set i (some (d, .fz)))
    | .ow, .ow => .ok (ρ.set i (some (d, .ow)))
    | .ow, _ => if d.fzOk = true then .ok (ρ.set i (some (d, .fz))) else .bad
    | .br, _ => .bad
  else .bad
def sSet (fl : Fl) (i : Nat) (f : EE) : SE := fun ρ => do
  let (d, k, ρ1) ← f ρ
  let ρ2 ← setSlot fl i d k ρ1
  pure (.nx ρ2)
def sRet (f : EE) : SE := fun ρ => do
  let (d, k, ρ1) ← f ρ
  match k with
  | .br => .bad
  | _ => pure (.rt d k ρ1)
/-- an owned list is handed back -/
def sRetV (i : Nat) : SE := fun ρ => match ρ[i]? with
  | some (some (d, .fz)) => pure (.rt d .fz ρ)
  | some (some (d, .ow)) => pure (.rt d .ow ρ)
  | _ => .bad
def sRetN : SE := fun ρ => pure (.rt .non .fz ρ)
/-- slot i is frozen from here on (no Python stands for it) -/
def sFrz (i : Nat) (s : SE) : SE := fun ρ => match ρ[i]? with
  | some (some (d, .ow)) => if d.fzOk = true then s (ρ.set i (some (d, .fz))) else .bad
  | _ => s ρ
theorem canSet_spec {ρ : Env} {i : Nat} (h : canSet ρ i = true) : i < ρ.length ∧ ∀ d' fl', ρ[i]? = some (some (d', fl')) → fl' = .fz ∨ fl' = .ow := by
  unfold canSet at h
  cases e : ρ[i]? with
  | none => rw [e] at h; cases h
  | some s =>
    refine ⟨(List.getElem?_eq_some_iff.mp e).1, fun d' fl' q => ?_⟩
    cases q
    rw [e] at h
    cases fl' <;> simp at h ⊢
theorem nodup_mid {o1 old o3 r fp : List Addr} (h : ((o1 ++ (old ++ o3)) ++ r).Nodup) (hf : fp.Nodup) (hd : ∀ a ∈ fp, a ∉ o1 ∧ a ∉ o3 ∧ a ∉ r) : ((o1 ++ (fp ++ o3)) ++ r).Nodup := by
  simp only [List.nodup_append, List.mem_append] at h ⊢
  obtain ⟨⟨n1, ⟨_, n3, _⟩, n13⟩, nr, nn⟩ := h
  refine ⟨⟨n1, ⟨hf, n3, fun a ha b hb e => (hd a ha).2.1 (e ▸ hb)⟩, fun a ha b hb e => ?_⟩, nr, fun a ha b hb e => ?_⟩
  · rcases hb with hb | hb
    · exact (hd b hb).1 (e ▸ ha)
    · exact n13 a ha b (.inr hb) e
  · rcases ha with ha | ha | ha
    · exact nn a (.inl ha) b hb e
    · exact (hd a ha).2.2 (e ▸ hb)
    · exact nn a (.inr (.inr ha)) b hb e
/-- a slot is set -/
theorem set_step {G : Gm} {z x y : Stt} {s : Bool} {v : V} {d : D} {k : Kd} {fv : List Addr} {fl : Fl} {i : Nat} {ρ2 : Env} (hx : SInv G x) (hz : EInv z x) (P : EPost G s x y v d k fv) (h : setSlot fl i d k y.rho = .ok ρ2) :
    ∃ w : Stt, w.rho = ρ2 ∧ w.sg = y.sg.set i (some v) ∧ w.H = y.H ∧ SStep G z x w := by
  unfold setSlot at h
  by_cases hc : canSet y.rho i = true
  · rw [if_pos hc] at h
    obtain ⟨hi, hn⟩ := canSet_spec hc
    have st := SStep.ext hz hx P.inv P.ext
    have dis : k = .ow → ∀ a ∈ fv, a ∉ y.o ∧ a ∉ y.p ∧ a ∉ y.b := fun e a ha => by subst e; exact (P.kd.2 a ha).2
    have lkk : ∀ {sl : Option (D × Fl)} (j : Nat) (d0 : D) (fl0 : Fl), y.rho[j]? = some (some (d0, fl0)) → fl0 = Fl.lk ∨ fl0 = Fl.pn → ∃ d', (y.rho.set i sl)[j]? = some (some (d', fl0)) ∧ (fl0 = Fl.lk → d' = d0) ∧ (y.sg.set i (some v))[j]? = y.sg[j]? := by
      intro sl j d0 fl0 e hf
      have ne : i ≠ j := by
        intro q; subst q
        rcases hn _ _ e with q | q <;> subst q <;> simp at hf
      exact ⟨d0, by rw [List.getElem?_set_ne ne]; exact e, fun _ => rfl, by rw [List.getElem?_set_ne ne]⟩
    -- frozen
    have frz : (k = .fz ∨ k = .ow ∧ d.fzOk = true) → ρ2 = y.rho.set i (some (d, .fz)) → ∃ w : Stt, w.rho = ρ2 ∧ w.sg = y.sg.set i (some v) ∧ w.H = y.H ∧ SStep G z x w := by
      intro hk e
      have hF : SInv G { y with F := fun a => y.F a ∨ a ∈ fv } := P.inv.freeze fun a ha => by
        rcases hk with q | q
        · subst q; have : fv = [] := P.kd; rw [this] at ha; simp at ha
        · exact ⟨(P.own.there a ha).2, dis q.1 a ha⟩
      have hr : Rep G (fun a => y.F a ∨ a ∈ fv) y.H [v] [d] := by
        rcases hk with q | q
        · subst q
          have : fv = [] := P.kd
          subst this
          cases P.own with
          | fz r => exact r.keep (fun _ h => .inl h) .refl
        · exact P.own.rep (fun a ha => .inr ha) (fun _ h => .inl h) q.2
      obtain ⟨o1, old, o3, eo, sl⟩ := hF.sl.set (i := i) hi hn (.fz hr)
      have eo : y.o = o1 ++ (old ++ o3) := eo
      refine ⟨⟨fun a => y.F a ∨ a ∈ fv, ρ2, y.sg.set i (some v), y.H, o1 ++ ([] ++ o3), y.p, y.b⟩, rfl, rfl, rfl, st.trans ⟨⟨by rw [e]; exact sl, ?_, hF.dom, P.inv.tb⟩, ⟨fun a f => ?_, st.ent.kp, st.ent.p1, fun a ha => st.ent.o1 a ?_, st.ent.dm, fun a f => .inl (st.ent.f0 a f)⟩, ?_, .refl, fun a f => .inl f⟩⟩
      · have := P.inv.nd; rw [eo] at this
        exact nodup_mid this (by simp) (by simp)
      · rcases f with f | f
        · exact st.ent.f1 a f
        · rcases hk with q | q
          · subst q; have : fv = [] := P.kd; rw [this] at f; simp at f
          · obtain ⟨q, _⟩ := q; subst q; exact .inr (hz.dm a (P.kd.2 a f).1)
      · rw [eo]; simp only [List.mem_append, List.nil_append] at ha ⊢; rcases ha with q | q
        · exact .inl q
        · exact .inr (.inr q)
      · rw [e]; exact lkk
    cases k with
    | br => simp at h
    | fz => simp at h; exact frz (.inl rfl) h.symm
    | ow =>
      cases fl with
      | ow =>
        simp at h
        obtain ⟨o1, old, o3, eo, sl⟩ := P.inv.sl.set (i := i) hi hn (.ow P.own P.kd.1)
        refine ⟨⟨y.F, ρ2, y.sg.set i (some v), y.H, o1 ++ (fv ++ o3), y.p, y.b⟩, rfl, rfl, rfl, st.trans ⟨⟨by rw [← h]; exact sl, ?_, P.inv.dom, P.inv.tb⟩, ⟨st.ent.f1, st.ent.kp, st.ent.p1, fun a ha => ?_, st.ent.dm, st.ent.f0⟩, by rw [← h]; exact lkk, .refl, fun _ f => f⟩⟩
        · have := P.inv.nd; rw [eo] at this
          refine nodup_mid this P.own.nodup fun a ha => ?_
          obtain ⟨n1, n2, n3⟩ := dis rfl a ha
          rw [eo] at n1
          simp only [List.mem_append, not_or] at n1 ⊢
          exact ⟨n1.1, n1.2.2, n2, n3⟩
        · simp only [List.mem_append] at ha
          rcases ha with q | q | q
          · exact st.ent.o1 a (by rw [eo]; simp [q])
          · exact hz.dm a (P.kd.2 a q).1
          · exact st.ent.o1 a (by rw [eo]; simp [q])
      | fz => by_cases hd : d.fzOk = true
              · simp [hd] at h; exact frz (.inr ⟨rfl, hd⟩) h.symm
              · simp [hd] at h
      | pn => by_cases hd : d.fzOk = true
              · simp [hd] at h; exact frz (.inr ⟨rfl, hd⟩) h.symm
              · simp [hd] at h
      | lk => by_cases hd : d.fzOk = true
              · simp [hd] at h; exact frz (.inr ⟨rfl, hd⟩) h.symm
              · simp [hd] at h
  · rw [if_neg hc] at h; cases h
section
variable {X : Cx} {G : Gm} {W : WX} {z : Stt}
/-- from a statement's reading to its expression's -/
theorem tT_expr {s : Bool} {f : EE} {Dn : Ends} {σ H} {k : D → Kd → Env → Res Flo} {Q : VK} (h : tT G W z (fun ρ => do let (d, kd, ρ1) ← f ρ; k d kd ρ1) Dn σ H)
    (hQ : ∀ x y v d kd fv, SInv G x → EInv z x → x.sg = σ → EPost G s x y v d kd fv → TQ G W z x Dn (k d kd y.rho) → Q v y.H) : tS G W s f σ H Q := by
  obtain ⟨x, rfl, rfl, hi, hz, q⟩ := h
  refine ⟨x, rfl, rfl, hi, ?_⟩
  cases h1 : f x.rho with
  | bad => simp only [h1, Res.bind_bad] at q; exact q
  | err c d ρ' =>
    simp only [h1, Res.bind_err] at q
    intro y cls dx hρ iy ey hev
    have := q y cls dx hρ (SStep.ext hz hi iy ey) hev
    rw [ey.sg] at this; exact this
  | ok r =>
    obtain ⟨d, kd, ρ1⟩ := r
    simp only [h1, Res.bind_ok] at q
    intro y v fv hρ P
    exact hQ x y v d kd fv hi hz rfl P (by rw [hρ]; exact q)
theorem r_ex {e : Expr} {pos : Pos} {s : Bool} {f : EE} (he : PE X e (tS G W s f)) (hs : swapsWith e none pos.line X.env = pure false := by rfl) : PS X (.Expr e pos) (tT G W z (sEx f)) := PS.of (ps_expr he hs) fun D σ H h =>
  tT_expr (k := fun _ _ ρ1 => pure (.nx ρ1)) h fun x y v d kd fv hi hz e P q => by
    have := q y rfl (SStep.ext hz hi P.inv P.ext)
    rw [P.ext.sg, e] at this; exact this
theorem r_ret {e : Expr} {pos : Pos} {s : Bool} {f : EE} (he : PE X e (tS G W s f)) : PS X (.Return (some e) pos) (tT G W z (sRet f)) := PS.of (ps_ret he) fun D σ H h =>
  tT_expr (k := fun d k ρ1 => match k with | .br => .bad | _ => pure (.rt d k ρ1)) h fun x y v d kd fv hi hz e P q => by
    have st := SStep.ext hz hi P.inv P.ext
    cases kd with
    | br => exact q.elim
    | fz => exact q y v fv rfl st P.own P.kd
    | ow => exact q y v fv rfl st P.own ⟨P.kd.1, fun a ha => hz.dm a (P.kd.2 a ha).1⟩
theorem r_retv {i : Nat} {e : Expr} {pos : Pos} (he : PE X e (tVar i)) : PS X (.Return (some e) pos) (tT G W z (sRetV i)) := PS.of (ps_ret he) fun D σ H h => by
  obtain ⟨x, rfl, rfl, hi, hz, q⟩ := h
  unfold sRetV at q
  cases hρ : x.rho[i]? with
  | none => rw [hρ] at q; exact q.elim
  | some sl =>
    cases sl with
    | none => rw [hρ] at q; exact q.elim
    | some df =>
      obtain ⟨d, fl⟩ := df
      rw [hρ] at q
      obtain ⟨v, fp, e1, w, f0, n0, m⟩ := hi.sl.get hρ
      refine ⟨v, e1, ?_⟩
      cases fl with
      | fz => exact q x v fp rfl (.refl hi hz) w (f0 rfl)
      | ow =>
        refine q x v fp rfl (.refl hi hz) w ⟨n0 (.inl rfl), fun a ha => ?_⟩
        rcases m a ha with z | z | z
        · exact hz.o1 a z.2
        · simp at z
        · simp at z
      | pn => exact q.elim
      | lk => exact q.elim
theorem r_retn {pos : Pos} : PS X (.Return none pos) (tT G W z sRetN) := PS.of ps_retN fun D σ H h => by
  obtain ⟨x, rfl, rfl, hi, hz, q⟩ := h
  exact q x .non [] rfl (.refl hi hz) (.fz (.atom rfl .nil)) rfl
theorem r_nil : PSs X [] (tT G W z sNil) := PSs.of pss_nil fun D σ H h => by
  obtain ⟨x, rfl, rfl, hi, hz, q⟩ := h
  exact q x rfl (.refl hi hz)
theorem r_pass {pos : Pos} : PS X (.Pass pos) (tT G W z sNil) := PS.of ps_pass fun D σ H h => by
  obtain ⟨x, rfl, rfl, hi, hz, q⟩ := h
  exact q x rfl (.refl hi hz)
def sBrk : SE := fun ρ => pure (.bk ρ)
def sCnt : SE := fun ρ => pure (.ct ρ)
theorem r_break {pos : Pos} : PS X (.Break pos) (tT G W z sBrk) := PS.of ps_break fun D σ H h => by
  obtain ⟨x, rfl, rfl, hi, hz, q⟩ := h
  exact q x rfl (.refl hi hz)
theorem r_continue {pos : Pos} : PS X (.Continue pos) (tT G W z sCnt) := PS.of ps_continue fun D σ H h => by
  obtain ⟨x, rfl, rfl, hi, hz, q⟩ := h
  exact q x rfl (.refl hi hz)
theorem r_cons {st : Stmt} {rest : List Stmt} {s t : SE} (h1 : PS X st (tT G W z s)) (h2 : PSs X rest (tT G W z t)) : PSs X (st :: rest) (tT G W z (sSeq s t)) := PSs.of (pss_cons h1 h2) fun D σ H h => by
  obtain ⟨x, rfl, rfl, hi, hz, q⟩ := h
  refine ⟨x, rfl, rfl, hi, hz, ?_⟩
  unfold sSeq at q
  cases e : s x.rho with
  | bad => simp only [e, Res.bind_bad] at q; exact q
  | err c d ρ' => simp only [e, Res.bind_err] at q; exact q
  | ok f =>
    simp only [e, Res.bind_ok] at q
    cases f with
    | nx ρ' => exact fun y hy st => ⟨y, rfl, rfl, st.inv, st.ent, by rw [hy]; exact TQ.step q st⟩
    | bk ρ' => exact q
    | ct ρ' => exact q
    | rt d k ρ' => exact q
theorem r_one {st : Stmt} {s : SE} (h1 : PS X st (tT G W z s)) : PSs X [st] (tT G W z s) := pss_one h1
theorem r_if {c : Expr} {a b : List Stmt} {pos : Pos} {sc : Bool} {f : BE} {s t : SE} (hc : PT X c (tB G W sc f)) (ha : PSs X a (tT G W z s)) (hb : PSs X b (tT G W z t)) : PS X (.If c a b pos) (tT G W z (sIf f s t)) := PS.of (ps_if hc ha hb) fun D σ H h => by
  obtain ⟨x, rfl, rfl, hi, hz, q⟩ := h
  refine ⟨x, rfl, rfl, hi, ?_⟩
  unfold sIf at q
  cases e : f x.rho with
  | bad => simp only [e, Res.bind_bad] at q; exact q
  | err c d ρ' =>
    simp only [e, Res.bind_err] at q
    intro y cls dx hρ iy ey hev
    have := q y cls dx hρ (SStep.ext hz hi iy ey) hev
    rw [ey.sg] at this; exact this
  | ok r =>
    obtain ⟨b, ρ1⟩ := r
    simp only [e, Res.bind_ok] at q
    intro y hρ iy ey
    have st := SStep.ext hz hi iy ey
    cases b with
    | true => rw [if_pos rfl] at q ⊢; exact ⟨y, ey.sg, rfl, iy, st.ent, by rw [hρ]; exact TQ.step q st⟩
    | false => rw [if_neg (by simp)] at q ⊢; exact ⟨y, ey.sg, rfl, iy, st.ent, by rw [hρ]; exact TQ.step q st⟩
theorem r_set {fl : Fl} {i : Nat} {tg e : Expr} {pos : Pos} {s : Bool} {f : EE} (h : PS X (.Assign [tg] e pos) (tAsg (tS G W s f) (gName i))) : PS X (.Assign [tg] e pos) (tT G W z (sSet fl i f)) := PS.of h fun D σ H h =>
  tT_expr (k := fun d k ρ1 => do let ρ2 ← setSlot fl i d k ρ1; pure (.nx ρ2)) h fun x y v d kd fv hi hz e P q => by
    cases h1 : setSlot fl i d kd y.rho with
    | bad => simp only [h1, Res.bind_bad] at q; exact q.elim
    | err c d' ρ' =>
      exfalso
      unfold setSlot at h1
      split at h1
      · split at h1 <;> first | cases h1 | (split at h1 <;> cases h1)
      · cases h1
    | ok ρ2 =>
      simp only [h1, Res.bind_ok] at q
      obtain ⟨w, w1, w2, w3, w4⟩ := set_step hi hz P h1
      have := q w w1 w4
      rw [w2, w3, P.ext.sg, e] at this
      exact this
theorem r_frz {i : Nat} {st : Stmt} {s : SE} (h : PS X st (tT G W z s)) : PS X st (tT G W z (sFrz i s)) := PS.of h fun D σ H h => by
  obtain ⟨x, rfl, rfl, hi, hz, q⟩ := h
  unfold sFrz at q
  split at q
  · rename_i d hρ
    split at q
    · rename_i hd
      obtain ⟨v, fp, o1, o3, e1, w, eo, sl⟩ := hi.sl.drop hρ
      have hil : i < x.rho.length := (List.getElem?_eq_some_iff.mp hρ).1
      have nd := hi.nd
      rw [eo] at nd
      have nd' : ((o1 ++ ([] ++ o3)) ++ (x.p ++ x.b)).Nodup := nodup_mid nd (by simp) (by simp)
      have hdis : ∀ a ∈ fp, a ∉ o1 ++ o3 ∧ a ∉ x.p ∧ a ∉ x.b := by
        intro a ha
        simp only [List.nodup_append, List.mem_append] at nd
        obtain ⟨⟨n1, ⟨n2, n3, n23⟩, n13⟩, nr, nn⟩ := nd
        refine ⟨fun z => ?_, fun z => nn a (.inr (.inl ha)) a (.inl z) rfl, fun z => nn a (.inr (.inl ha)) a (.inr z) rfl⟩
        rcases List.mem_append.mp z with z | z
        · exact n13 a z a (.inl ha) rfl
        · exact n23 a ha a z rfl
      have i1 : SInv G { x with rho := x.rho.set i none, o := o1 ++ o3 } := ⟨sl, by simpa using nd', hi.dom, hi.tb⟩
      have i2 := i1.freeze (fv := fp) fun a ha => ⟨(w.there a ha).2, hdis a ha⟩
      have r : Rep G (fun a => x.F a ∨ a ∈ fp) x.H [v] [d] := w.rep (fun a ha => .inr ha) (fun _ h => .inl h) hd
      obtain ⟨p1, old, p3, ep, sl3⟩ := i2.sl.set (i := i) (v := v) (d := d) (by simpa using hil) (fun d' fl' e => by
        have e : (x.rho.set i none)[i]? = some (some (d', fl')) := e
        rw [List.getElem?_set_self hil] at e; cases e) (.fz r)
      have sl3 : Slots G (fun a => x.F a ∨ a ∈ fp) x.H ((x.rho.set i none).set i (some (d, .fz))) (x.sg.set i (some v)) (p1 ++ ([] ++ p3)) x.p x.b := sl3
      have ep : o1 ++ o3 = p1 ++ (old ++ p3) := ep
      rw [List.set_set] at sl3
      have es : x.sg.set i (some v) = x.sg := by
        apply List.ext_getElem?
        intro j
        by_cases ej : i = j
        · subst ej; rw [List.getElem?_set_self (by have := (List.getElem?_eq_some_iff.mp e1).1; exact this), e1]
        · rw [List.getElem?_set_ne ej]
      rw [es] at sl3
      have nd3 : ((p1 ++ ([] ++ p3)) ++ (x.p ++ x.b)).Nodup := by
        have : ((o1 ++ o3) ++ (x.p ++ x.b)).Nodup := by simpa using nd'
        rw [ep] at this
        exact nodup_mid this (by simp) (by simp)
      have sub : ∀ a ∈ p1 ++ ([] ++ p3), a ∈ x.o := fun a ha => by
        have : a ∈ o1 ++ o3 := by
          rw [ep]; simp only [List.mem_append, List.nil_append] at ha ⊢
          rcases ha with z | z
          · exact .inl z
          · exact .inr (.inr z)
        rw [eo]; simp only [List.mem_append] at this ⊢
        rcases this with z | z
        · exact .inl z
        · exact .inr (.inr z)
      let y : Stt := ⟨fun a => x.F a ∨ a ∈ fp, x.rho.set i (some (d, .fz)), x.sg, x.H, p1 ++ ([] ++ p3), x.p, x.b⟩
      have st : SStep G z x y := by
        refine ⟨⟨sl3, nd3, i2.dom, hi.tb⟩, ⟨fun a f => ?_, hz.kp, hz.p1, fun a ha => hz.o1 a (sub a ha), hz.dm, fun a f => .inl (hz.f0 a f)⟩, fun j d0 fl0 e hf => ⟨d0, ?_, fun _ => rfl, rfl⟩, .refl, fun _ f => .inl f⟩
        · rcases f with f | f
          · exact hz.f1 a f
          · exact .inr (hz.o1 a (by rw [eo]; simp [f]))
        · have ne : i ≠ j := by
            intro q; subst q
            rw [hρ] at e; cases e; simp at hf
          show (x.rho.set i (some (d, .fz)))[j]? = _
          rw [List.getElem?_set_ne ne]; exact e
      exact ⟨y, rfl, rfl, st.inv, st.ent, TQ.step q st⟩
    · exact q.elim
  · exact ⟨x, rfl, rfl, hi, hz, q⟩
end
end VL
/-! VL7: what is walked, targets, for and while. -/
namespace VL
open PySem PySem.Spec PyProof.Rows L2

/-! ### targets -/
structure TStep (G : Gm) (is : List Nat) (x y : Stt) : Prop where
  inv : SInv G y
  out : ∀ j, j ∉ is → y.sg[j]? = x.sg[j]?
  len : y.sg.length = x.sg.length
  H : y.H = x.H
  F : y.F = x.F
  o1 : ∀ a ∈ y.o, a ∈ x.o
  p1 : y.p = x.p
  b1 : y.b = x.b
  lk : ∀ (j : Nat) (d : D) (fl : Fl), x.rho[j]? = some (some (d, fl)) → fl = Fl.lk ∨ fl = Fl.pn → y.rho[j]? = some (some (d, fl)) ∧ y.sg[j]? = x.sg[j]?
theorem TStep.refl {G is x} (h : SInv G x) : TStep G is x x := ⟨h, fun _ _ => rfl, rfl, rfl, rfl, fun _ h => h, rfl, rfl, fun _ _ _ e _ => ⟨e, rfl⟩⟩
theorem TStep.mono {G is js x y} (a : TStep G is x y) (h : ∀ j ∈ is, j ∈ js) : TStep G js x y := { a with out := fun j hj => a.out j fun z => hj (h j z) }
theorem TStep.trans {G is x y w} (a : TStep G is x y) (b : TStep G is y w) : TStep G is x w := ⟨b.inv, fun j h => (b.out j h).trans (a.out j h), b.len.trans a.len, b.H.trans a.H, b.F.trans a.F, fun c h => a.o1 c (b.o1 c h), b.p1.trans a.p1, b.b1.trans a.b1, fun j d fl e hf => by
  obtain ⟨e1, s1⟩ := a.lk j d fl e hf
  obtain ⟨e2, s2⟩ := b.lk j d fl e1 hf
  exact ⟨e2, s2.trans s1⟩⟩
theorem TStep.step {G is z x y} (e : EInv z x) (t : TStep G is x y) : SStep G z x y where
  inv := t.inv
  ent := ⟨fun a f => e.f1 a (by rw [← t.F]; exact f), by rw [t.H]; exact e.kp, t.p1.trans e.p1, fun a h => e.o1 a (t.o1 a h), fun a h => e.dm a (by rw [← t.H]; exact h), fun a f => by rw [t.F]; exact e.f0 a f⟩
  lk := fun j d fl e1 hf => by
    obtain ⟨e2, s2⟩ := t.lk j d fl e1 hf
    exact ⟨d, e2, fun _ => rfl, s2⟩
  kf := by rw [t.H]; exact .refl
  f1 := fun a f => by rw [t.F]; exact f
abbrev GE := D → Env → Res Env
def tG (G : Gm) (is : List Nat) (g : GE) : TG := fun v σ H Q => ∃ (x : Stt) (d : D), x.sg = σ ∧ x.H = H ∧ SInv G x ∧ Rep G x.F x.H [v] [d] ∧
  match g d x.rho with
  | .ok ρ' => ∀ y, y.rho = ρ' → TStep G is x y → Q y.sg y.H
  | _ => False
def tGs (G : Gm) (is : List Nat) (g : List D → Env → Res Env) : TGs := fun vs σ H Q => ∃ (x : Stt) (ds : List D), x.sg = σ ∧ x.H = H ∧ SInv G x ∧ Rep G x.F x.H vs ds ∧
  match g ds x.rho with
  | .ok ρ' => ∀ y, y.rho = ρ' → TStep G is x y → Q y.sg y.H
  | _ => False
def gNm (i : Nat) : GE := fun d ρ => setSlot .fz i d .fz ρ
def gsN : List D → Env → Res Env := fun ds ρ => match ds with
  | [] => .ok ρ
  | _ => .bad
def gsC (g : GE) (gs : List D → Env → Res Env) : List D → Env → Res Env := fun ds ρ => match ds with
  | d :: r => do
    let ρ1 ← g d ρ
    gs r ρ1
  | [] => .bad
def gTp (n : Nat) (gs : List D → Env → Res Env) : GE := fun d ρ => match d with
  | .tup ds => if ds.length = n then gs ds ρ else .bad
  | _ => .bad
theorem set_tstep {G : Gm} {x : Stt} {v : V} {d : D} {i : Nat} {ρ2 : Env} (hx : SInv G x) (r : Rep G x.F x.H [v] [d]) (h : setSlot .fz i d .fz x.rho = .ok ρ2) :
    ∃ w : Stt, w.rho = ρ2 ∧ w.sg = x.sg.set i (some v) ∧ w.H = x.H ∧ TStep G [i] x w := by
  unfold setSlot at h
  by_cases hc : canSet x.rho i = true
  · rw [if_pos hc] at h
    obtain ⟨hi, hn⟩ := canSet_spec hc
    simp at h
    obtain ⟨o1, old, o3, eo, sl⟩ := hx.sl.set (i := i) hi hn (.fz r)
    refine ⟨⟨x.F, ρ2, x.sg.set i (some v), x.H, o1 ++ ([] ++ o3), x.p, x.b⟩, rfl, rfl, rfl, ⟨⟨by rw [← h]; exact sl, ?_, hx.dom, hx.tb⟩, fun j hj => List.getElem?_set_ne (by simpa using fun e => hj (by simp [e])), by simp, rfl, rfl, fun a ha => ?_, rfl, rfl, fun j d0 fl0 e hf => ?_⟩⟩
    · have := hx.nd; rw [eo] at this
      exact nodup_mid this (by simp) (by simp)
    · rw [eo]; simp only [List.mem_append, List.nil_append] at ha ⊢
      rcases ha with q | q
      · exact .inl q
      · exact .inr (.inr q)
    · have ne : i ≠ j := by
        intro q; subst q
        rcases hn _ _ e with q | q <;> subst q <;> simp at hf
      rw [← h]
      exact ⟨by rw [List.getElem?_set_ne ne]; exact e, by rw [List.getElem?_set_ne ne]⟩
  · rw [if_neg hc] at h; cases h
section
variable {X : Cx} {G : Gm} {W : WX} {z : Stt}
theorem PG.of {e : Expr} {t u : TG} (h : PG X e t) (i : ∀ v σ H Q, u v σ H Q → t v σ H Q) : PG X e u := ⟨fun pins s σ H v w Q I r q => h.run pins s σ H v w Q I r (i v σ H Q q)⟩
theorem PGs.of {e : List Expr} {t u : TGs} (h : PGs X e t) (i : ∀ v σ H Q, u v σ H Q → t v σ H Q) : PGs X e u := ⟨fun pins s σ H v w Q I r q => h.run pins s σ H v w Q I r (i v σ H Q q)⟩
theorem g_name {i : Nat} {e : Expr} (h : PG X e (gName i)) : PG X e (tG G [i] (gNm i)) := PG.of h fun v σ H Q ⟨x, d, e1, e2, hi, r, q⟩ => by
  subst e1 e2
  unfold gNm at q
  cases h1 : setSlot .fz i d .fz x.rho with
  | bad => rw [h1] at q; exact q.elim
  | err c d' ρ' => rw [h1] at q; exact q.elim
  | ok ρ2 =>
    rw [h1] at q
    obtain ⟨w, w1, w2, w3, w4⟩ := set_tstep hi r h1
    have := q w w1 w4
    rw [w2, w3] at this; exact this
theorem g_nil : PGs X [] (tGs G [] gsN) := PGs.of pgs_nil fun vs σ H Q ⟨x, ds, e1, e2, hi, r, q⟩ => by
  subst e1 e2
  cases ds with
  | nil => exact ⟨r.nil_of, q x rfl (.refl hi)⟩
  | cons d ds => exact q.elim
theorem g_cons {e : Expr} {es : List Expr} {is js : List Nat} {g : GE} {gs : List D → Env → Res Env} (h1 : PG X e (tG G is g)) (h2 : PGs X es (tGs G js gs)) (hs : (assignEach (e :: es) X.env).map (·.2) = assign e X.env :: (assignEach es X.env).map (·.2) := by rfl) :
    PGs X (e :: es) (tGs G (is ++ js) (gsC g gs)) := PGs.of (pgs_cons h1 h2 hs) fun vs σ H Q ⟨x, ds, e1, e2, hi, r, q⟩ => by
  subst e1 e2
  cases ds with
  | nil => exact q.elim
  | cons d ds =>
    obtain ⟨v, ws, rfl, r1, r2⟩ := r.cons_of
    refine ⟨v, ws, rfl, x, d, rfl, rfl, hi, r1, ?_⟩
    simp only [gsC] at q
    cases h1 : g d x.rho with
    | bad => simp only [h1, Res.bind_bad] at q
    | err c d' ρ' => simp only [h1, Res.bind_err] at q
    | ok ρ1 =>
      simp only [h1, Res.bind_ok] at q
      intro y hy st
      refine ⟨y, ds, rfl, rfl, st.inv, by rw [st.F, st.H]; exact r2, ?_⟩
      rw [hy]
      cases h2 : gs ds ρ1 with
      | bad => simp only [h2] at q
      | err c d' ρ' => simp only [h2] at q
      | ok ρ2 =>
        simp only [h2] at q
        exact fun w hw st2 => q w hw ((st.mono fun j h => by simp [h]).trans (st2.mono fun j h => by simp [h]))
theorem g_tup {es : List Expr} {k : Nat} {pos : Pos} {is : List Nat} {gs : List D → Env → Res Env} {n : Nat} (hc : X.calm = true) (hK : X.K = G.K) (h : PGs X es (tGs G is gs))
    (hn : (assignEach es X.env).length = n := by rfl) (hst : (assignEach es X.env).findIdx? (·.1) = none := by rfl) : PG X (.Tuple es k pos) (tG G is (gTp n gs)) := PG.of (pg_tup hc h hn hst) fun v σ H Q ⟨x, d, e1, e2, hi, r, q⟩ => by
  subst e1 e2
  unfold gTp at q
  cases d <;> first | exact q.elim | skip
  case tup ds =>
    simp only at q
    by_cases hl : ds.length = n
    · rw [if_pos hl] at q
      have : ∃ a ws, v = .ref a ∧ SqT X.K x.H a ws ∧ Rep G x.F x.H ws ds := by
        cases r with
        | atom e _ => cases v <;> simp [atomD] at e
        | tup f e z r1 _ => exact ⟨_, _, rfl, .of e, r1⟩
        | tupK f z r1 _ => exact ⟨_, _, rfl, .inr (by rw [hK]; exact f), r1⟩
      obtain ⟨a, ws, rfl, sq, r1⟩ := this
      exact ⟨a, ws, rfl, sq, by rw [r1.length]; exact hl, x, ds, rfl, rfl, hi, r1, q⟩
    · rw [if_neg hl] at q; exact q.elim
end

theorem Own.fz_of {G : Gm} {F : Addr → Prop} {H : Hp} {v : V} {d : D} (h : Own G F H v d []) : Rep G F H [v] [d] := by
  cases h with
  | fz r => exact r
/-! ### what is walked -/
/-- J walks the data ds, as long as what y froze stands (where br: as long as all stands) -/
def Walks (G : Gm) (y : Stt) (J : It) (ds : List D) (br : Bool) : Prop := ∀ w : Stt, SInv G w → (∀ a, y.F a → w.F a) → KeptF y.F y.H w.H → (br = true → Kept [] y.H w.H) →
  ∀ i, (∀ d, ds[i]? = some d → J.go i w.H ∧ ∀ v H', J.yld i w.H v H' → ∃ F', NewV G w.F w.H F' H' v d .fz []) ∧ (ds.length ≤ i → J.stop i w.H)
abbrev IE := Env → Res (List D × Bool × Env)
def tI (G : Gm) (W : WX) (still : Bool) (f : IE) : TI := fun σ H R => ∃ x : Stt, x.sg = σ ∧ x.H = H ∧ SInv G x ∧
  match f x.rho with
  | .ok (ds, br, ρ') => ∀ y J, y.rho = ρ' → SInv G y → Ext still x y → Walks G y J ds br → R J y.H
  | .err c d ρ' => ∀ y cls dx, y.rho = ρ' → SInv G y → Ext still x y → ErrV G y cls dx c d → W cls dx σ y.H
  | .bad => False
def forL (g : GE) (body : SE) : List D → Env → Res Flo
  | [], ρ => .ok (.nx ρ)
  | d :: ds, ρ => do
    let ρ1 ← g d ρ
    match ← body ρ1 with
    | .nx ρ2 => forL g body ds ρ2
    | .ct ρ2 => forL g body ds ρ2
    | .bk ρ2 => .ok (.nx ρ2)
    | .rt d k ρ2 => .ok (.rt d k ρ2)
def sFor (it : IE) (g : GE) (body : SE) : SE := fun ρ => do
  let (ds, br, ρ1) ← it ρ
  if br = true then .bad else forL g body ds ρ1
def whileL (c : BE) (body : SE) : Nat → Env → Res Flo
  | 0, _ => .bad
  | n + 1, ρ => do
    let (b, ρ1) ← c ρ
    if b = true then do
      match ← body ρ1 with
      | .nx ρ2 => whileL c body n ρ2
      | .ct ρ2 => whileL c body n ρ2
      | .bk ρ2 => .ok (.nx ρ2)
      | .rt d k ρ2 => .ok (.rt d k ρ2)
    else .ok (.nx ρ1)
def sWhile (n : Nat) (c : BE) (body : SE) : SE := fun ρ => whileL c body n ρ
section
variable {X : Cx} {G : Gm} {W : WX} {z : Stt}
theorem PI.of {tg e : Expr} {t u : TI} (h : PI X tg e t) (i : ∀ σ H R, u σ H R → t σ H R) : PI X tg e u := ⟨fun pins s σ H R I w => h.run pins s σ H R I (i σ H R w)⟩
theorem PI.or {tg e : Expr} {t u : TI} (h : PI X tg e t) (h' : PI X tg e u) : PI X tg e (fun σ H R => t σ H R ∨ u σ H R) := ⟨fun pins s σ H R I w => w.elim (h.run pins s σ H R I) (h'.run pins s σ H R I)⟩
theorem g_ok {g : GE} {body : SE} {d : D} {ds : List D} {x : Stt} {Dn : Ends} (q : TQ G W z x Dn (forL g body (d :: ds) x.rho)) :
    (∃ ρ1, g d x.rho = .ok ρ1 ∧ TQ G W z x Dn (do match ← body ρ1 with | .nx ρ2 => forL g body ds ρ2 | .ct ρ2 => forL g body ds ρ2 | .bk ρ2 => .ok (.nx ρ2) | .rt d k ρ2 => .ok (.rt d k ρ2))) ∨ ∃ c e ρ', g d x.rho = .err c e ρ' := by
  simp only [forL] at q
  cases h : g d x.rho with
  | bad => simp only [h, Res.bind_bad] at q; exact q.elim
  | err c e ρ' => exact .inr ⟨c, e, ρ', rfl⟩
  | ok ρ1 => simp only [h, Res.bind_ok] at q; exact .inl ⟨ρ1, rfl, q⟩
/-- targets never raise -/
def NoErr (g : GE) : Prop := ∀ d ρ c e ρ', g d ρ ≠ .err c e ρ'
def NoErrs (g : List D → Env → Res Env) : Prop := ∀ d ρ c e ρ', g d ρ ≠ .err c e ρ'
theorem ne_name {i : Nat} : NoErr (gNm i) := fun d ρ c e ρ' h => by
  unfold gNm setSlot at h
  split at h
  · simp at h
  · cases h
theorem ne_nil : NoErrs gsN := fun ds ρ c e ρ' h => by cases ds <;> simp [gsN] at h
theorem ne_cons {g gs} (h1 : NoErr g) (h2 : NoErrs gs) : NoErrs (gsC g gs) := fun ds ρ c e ρ' h => by
  cases ds with
  | nil => simp [gsC] at h
  | cons d ds =>
    simp only [gsC] at h
    cases h3 : g d ρ with
    | bad => simp [h3] at h
    | err c1 e1 ρ1 => exact h1 d ρ c1 e1 ρ1 h3
    | ok ρ1 => simp only [h3, Res.bind_ok] at h; exact h2 _ _ _ _ _ h
theorem ne_tup {n gs} (h : NoErrs gs) : NoErr (gTp n gs) := fun d ρ c e ρ' q => by
  unfold gTp at q
  split at q
  · split at q
    · exact h _ _ _ _ _ q
    · cases q
  · cases q
theorem r_for {tg iter : Expr} {body : List Stmt} {pos : Pos} {s : Bool} {it : IE} {is : List Nat} {g : GE} {bd : SE} (hp : PassesOwn (model X.prog X.w) X.A X.env X.xe) (hc : X.calm = true) (hi : PI X tg iter (tI G W s it)) (hg : PG X tg (tG G is g)) (hne : NoErr g) (hb : PSs X body (tT G W z bd))
    (hs : ∀ x, foldedSetIterable iter X.env x = pure x := by intro _; rfl) : PS X (.For tg iter body [] pos) (tT G W z (sFor it g bd)) := PS.of (ps_for hp hc hi hg hb hs) fun Dn σ H h => by
  obtain ⟨x, rfl, rfl, hx, hz, q⟩ := h
  refine ⟨x, rfl, rfl, hx, ?_⟩
  unfold sFor at q
  cases e : it x.rho with
  | bad => simp only [e, Res.bind_bad] at q; exact q
  | err c d ρ' =>
    simp only [e, Res.bind_err] at q
    intro y cls dx hρ iy ey hev
    have := q y cls dx hρ (SStep.ext hz hx iy ey) hev
    rw [ey.sg] at this; exact this
  | ok r =>
    obtain ⟨ds, br, ρ1⟩ := r
    simp only [e, Res.bind_ok] at q
    intro y J hρ iy ey wk
    cases br with
    | true => rw [if_pos rfl] at q; exact q.elim
    | false =>
    rw [if_neg (by simp)] at q
    have st0 := SStep.ext hz hx iy ey
    have q0 : TQ G W z y Dn (forL g bd ds y.rho) := by rw [hρ]; exact TQ.step q st0
    refine ⟨fun i m σ' H' => ∃ w : Stt, w.sg = σ' ∧ w.H = H' ∧ SStep G z y w ∧ m = ds.length - i ∧ i ≤ ds.length ∧ TQ G W z w Dn (forL g bd (ds.drop i) w.rho), ⟨ds.length, y, ey.sg, rfl, .refl iy st0.ent, by simp, Nat.zero_le _, q0⟩, ?_⟩
    rintro i m σ' H' ⟨w, rfl, rfl, sw, rfl, hi, qw⟩
    have wkw := wk w sw.inv sw.f1 sw.kf (by simp) i
    by_cases hlt : i < ds.length
    · have ed : ds[i]? = some ds[i] := List.getElem?_eq_getElem hlt
      obtain ⟨hgo, hy⟩ := wkw.1 _ ed
      rw [List.drop_eq_getElem_cons hlt] at qw
      rcases g_ok qw with ⟨ρ2, hg2, qb⟩ | ⟨c, e', ρ', hg2⟩
      · refine .inr ⟨hgo, fun σ' H' => ∃ w' : Stt, w'.sg = σ' ∧ w'.H = H' ∧ SStep G z y w' ∧ TQ G W z w' Dn (forL g bd (ds.drop (i + 1)) w'.rho), fun σ' H' ⟨w', e1, e2, s2, q2⟩ => ⟨ds.length - (i + 1), by omega, w', e1, e2, s2, rfl, hlt, q2⟩, fun v H' yl => ?_⟩
        obtain ⟨F', n⟩ := hy v H' yl
        have P := n.post sw.inv
        have s1 := SStep.ext sw.ent sw.inv P.inv P.ext
        have r1 : Rep G F' H' [v] [ds[i]] := n.own.fz_of
        refine ⟨{ w with F := F', H := H' }, ds[i], rfl, rfl, P.inv, r1, ?_⟩
        show (match g ds[i] w.rho with | .ok ρ' => _ | _ => False)
        rw [hg2]
        intro u hu tu
        have s2 := s1.trans (tu.step s1.ent)
        refine ⟨u, rfl, rfl, tu.inv, s2.ent, ?_⟩
        have qb := TQ.step qb s2
        rw [hu]
        cases e3 : bd ρ2 with
        | bad => simp only [e3, Res.bind_bad] at qb; exact qb
        | err c d ρ' => simp only [e3, Res.bind_err] at qb; exact qb
        | ok f =>
          simp only [e3, Res.bind_ok] at qb
          cases f with
          | nx ρ3 => exact fun w' hw' sw' => ⟨w', rfl, rfl, (sw.trans s2).trans sw', by rw [hw']; exact TQ.step qb sw'⟩
          | ct ρ3 => exact fun w' hw' sw' => ⟨w', rfl, rfl, (sw.trans s2).trans sw', by rw [hw']; exact TQ.step qb sw'⟩
          | bk ρ3 => exact fun w' hw' sw' => qb w' hw' sw'
          | rt d k ρ3 => exact qb
      · exact absurd hg2 (hne _ _ _ _ _)
    · have ei : i = ds.length := by omega
      subst ei
      rw [List.drop_length] at qw
      exact .inl ⟨wkw.2 (Nat.le_refl _), qw w rfl (.refl sw.inv sw.ent)⟩
theorem r_while {c : Expr} {body : List Stmt} {pos : Pos} {s : Bool} {f : BE} {bd : SE} (n : Nat) (hp : PassesOwn (model X.prog X.w) X.A X.env X.xe) (hc : PT X c (tB G W s f)) (hb : PSs X body (tT G W z bd)) : PS X (.While c body [] pos) (tT G W z (sWhile n f bd)) := PS.of (ps_while hp hc hb) fun Dn σ H h => by
  obtain ⟨x, rfl, rfl, hx, hz, q⟩ := h
  refine ⟨fun m σ' H' => ∃ w : Stt, w.sg = σ' ∧ w.H = H' ∧ SStep G z x w ∧ TQ G W z w Dn (whileL f bd m w.rho), ⟨n, x, rfl, rfl, .refl hx hz, q⟩, ?_⟩
  rintro m σ' H' ⟨w, rfl, rfl, sw, qw⟩
  refine ⟨w, rfl, rfl, sw.inv, ?_⟩
  cases m with
  | zero => exact qw.elim
  | succ m =>
    simp only [whileL] at qw
    cases e : f w.rho with
    | bad => simp only [e, Res.bind_bad] at qw; exact qw
    | err c d ρ' =>
      simp only [e, Res.bind_err] at qw
      intro y cls dx hρ iy ey hev
      have := qw y cls dx hρ (SStep.ext sw.ent sw.inv iy ey) hev
      rw [ey.sg] at this; exact this
    | ok r =>
      obtain ⟨b, ρ1⟩ := r
      simp only [e, Res.bind_ok] at qw
      intro y hρ iy ey
      have s1 := SStep.ext sw.ent sw.inv iy ey
      have qw := TQ.step qw s1
      cases b with
      | true =>
        rw [if_pos rfl] at qw ⊢
        refine ⟨fun σ' H' => ∃ w' : Stt, w'.sg = σ' ∧ w'.H = H' ∧ SStep G z x w' ∧ TQ G W z w' Dn (whileL f bd m w'.rho), fun σ' H' ⟨w', e1, e2, s2, q2⟩ => ⟨m, Nat.lt_succ_self _, w', e1, e2, s2, q2⟩, y, ey.sg, rfl, iy, s1.ent, ?_⟩
        rw [hρ]
        cases e3 : bd ρ1 with
        | bad => simp only [e3, Res.bind_bad] at qw; exact qw
        | err c d ρ' => simp only [e3, Res.bind_err] at qw; exact qw
        | ok fl =>
          simp only [e3, Res.bind_ok] at qw
          cases fl with
          | nx ρ3 => exact fun w' hw' sw' => ⟨w', rfl, rfl, (sw.trans s1).trans sw', by rw [hw']; exact TQ.step qw sw'⟩
          | ct ρ3 => exact fun w' hw' sw' => ⟨w', rfl, rfl, (sw.trans s1).trans sw', by rw [hw']; exact TQ.step qw sw'⟩
          | bk ρ3 => exact fun w' hw' sw' => qw w' hw' sw'
          | rt d k ρ3 => exact qw
      | false =>
        rw [if_neg (by simp)] at qw ⊢
        have := qw y hρ (.refl iy s1.ent)
        rw [ey.sg] at this; exact this
end
end VL
/-! VL8: lists, tuples and ranges walked; comprehensions. -/
namespace VL
open PySem PySem.Spec PyProof.Rows L2

theorem Own.lst_of {G : Gm} {F : Addr → Prop} {H : Hp} {v : V} {ds : List D} {fp : List Addr} (h : Own G F H v (.lst ds) fp) (K : PySem.W.Frag) :
    ∃ a ws, v = .ref a ∧ SqL K H a ws ∧ ws.length ≤ sizeLine ∧ Rep G F H ws ds ∧
      ∀ (F' : Addr → Prop) (H' : Hp), (∀ x, F x → F' x) → KeptF F H H' → (F' a ∨ fp = [] ∨ Kept [] H H') → (F' a → fp ≠ [] → H' a = H a) → SqL K H' a ws := by
  cases h with
  | fz r =>
    cases r with
    | atom e _ => cases v <;> simp [atomD] at e
    | lst f e z r1 _ => exact ⟨_, _, rfl, .of e, z, r1, fun F' H' _ k _ _ => .of (k _ _ f e rfl)⟩
  | ow f ob =>
    obtain ⟨ws, e, z, r⟩ := ob
    refine ⟨_, ws, rfl, .of e, z, r, fun F' H' _ k c q => ?_⟩
    rcases c with c | c | c
    · exact .of (by rw [q c (by simp)]; exact e)
    · simp at c
    · exact .of (c _ _ e (by simp) rfl)
theorem Own.scr_of {G : Gm} {F : Addr → Prop} {H : Hp} {v : V} {ns : List Int} {fp : List Addr} (h : Own G F H v (.scr ns) fp) {K : PySem.W.Frag} (hK : K = G.K) :
    ∃ a, v = .ref a ∧ SqL K H a (ns.map V.int) ∧ ns.length ≤ sizeLine ∧ fp = [] ∧ ∀ (F' : Addr → Prop) (H' : Hp), (∀ x, F x → F' x) → KeptF F H H' → SqL K H' a (ns.map V.int) := by
  subst hK
  cases h with
  | fz r =>
    cases r with
    | atom e _ => cases v <;> simp [atomD] at e
    | scr f e z _ => exact ⟨_, rfl, .inl (.inr ⟨_, e⟩), z, rfl, fun F' H' _ k => .inl (.inr ⟨_, k _ _ f e rfl⟩)⟩
    | scrK f z _ => exact ⟨_, rfl, .inr f, z, rfl, fun _ _ _ _ => .inr f⟩
  | ow f ob => exact False.elim ob
theorem Own.tup_of {G : Gm} {F : Addr → Prop} {H : Hp} {v : V} {ds : List D} {fp : List Addr} (h : Own G F H v (.tup ds) fp) {K : PySem.W.Frag} (hK : K = G.K) :
    ∃ a ws, v = .ref a ∧ SqT K H a ws ∧ ws.length ≤ sizeLine ∧ Rep G F H ws ds ∧ fp = [] ∧ ∀ (F' : Addr → Prop) (H' : Hp), (∀ x, F x → F' x) → KeptF F H H' → SqT K H' a ws := by
  subst hK
  cases h with
  | fz r =>
    cases r with
    | atom e _ => cases v <;> simp [atomD] at e
    | tup f e z r1 _ => exact ⟨_, _, rfl, .of e, z, r1, rfl, fun F' H' _ k => .of (k _ _ f e rfl)⟩
    | tupK f z r1 _ => exact ⟨_, _, rfl, .inr f, z, r1, rfl, fun _ _ _ _ => .inr f⟩
  | ow f ob => exact False.elim ob
def iSeq (f : EE) : IE := fun ρ => do
  let (d, k, ρ1) ← f ρ
  match d with
  | .lst ds => pure (ds, decide (k = .br), ρ1)
  | .tup ds => pure (ds, false, ρ1)
  | .scr ns => pure (ns.map D.int, false, ρ1)
  | _ => .bad
section
variable {X : Cx} {G : Gm} {W : WX} {z : Stt}
theorem r_iseq {tg e : Expr} {s : Bool} {f : EE} (hK : X.K = G.K) (h : PE X e (tS G W s f)) : PI X tg e (tI G W s (iSeq f)) := PI.of (PI.or (pi_list h) (pi_tup h)) fun σ H R ⟨x, e1, e2, hx, q⟩ => by
  subst e1 e2
  unfold iSeq at q
  cases e : f x.rho with
  | bad => simp only [e, Res.bind_bad] at q
  | err c d ρ' =>
    simp only [e, Res.bind_err] at q
    refine .inl ⟨x, rfl, rfl, hx, ?_⟩
    rw [e]; exact q
  | ok r =>
    obtain ⟨d, k, ρ1⟩ := r
    simp only [e, Res.bind_ok] at q
    cases d <;> first | exact q.elim | skip
    case tup ds =>
      refine .inr ⟨x, rfl, rfl, hx, ?_⟩
      rw [e]
      intro y v fv hρ P
      obtain ⟨a, ws, rfl, sq, hz, r, hf, stay⟩ := P.own.tup_of hK
      refine ⟨a, rfl, ⟨ws, sq⟩, q y _ hρ P.inv P.ext fun w iw f1 kf _ i => ⟨fun d hd => ?_, fun hl => ⟨ws, stay _ _ f1 kf, by rw [r.length]; exact hl⟩⟩⟩
      obtain ⟨u, hu, ru⟩ := (r.keep f1 kf).get hd
      refine ⟨⟨ws, u, stay _ _ f1 kf, hu⟩, fun v H' yl => ?_⟩
      obtain ⟨e1, yl⟩ := yl
      subst e1
      have := yl ws (stay _ _ f1 kf)
      rw [hu] at this; cases this
      exact ⟨w.F, .same iw.dom ru⟩
    case scr ns =>
      refine .inl ⟨x, rfl, rfl, hx, ?_⟩
      rw [e]
      intro y v fv hρ P
      obtain ⟨a, rfl, sq, hz, hf, stay⟩ := P.own.scr_of hK
      have r : Rep G y.F y.H (ns.map V.int) (ns.map D.int) := Rep.ints ns
      refine ⟨a, rfl, ⟨_, sq⟩, q y _ hρ P.inv P.ext fun w iw f1 kf _ i => ⟨fun d hd => ?_, fun hl => ⟨_, stay _ _ f1 kf, by rw [r.length]; exact hl⟩⟩⟩
      obtain ⟨u, hu, ru⟩ := (r.keep f1 kf).get hd
      refine ⟨⟨_, u, stay _ _ f1 kf, hu⟩, fun v H' yl => ?_⟩
      obtain ⟨e1, yl⟩ := yl
      subst e1
      have := yl _ (stay _ _ f1 kf)
      rw [hu] at this; cases this
      exact ⟨w.F, .same iw.dom ru⟩
    case lst ds =>
      refine .inl ⟨x, rfl, rfl, hx, ?_⟩
      rw [e]
      intro y v fv hρ P
      obtain ⟨a, ws, rfl, sq, hz, r, stay⟩ := P.own.lst_of X.K
      have av : fv = [] ∨ fv = [a] := by
        cases P.own with
        | fz _ => exact .inl rfl
        | ow _ _ => exact .inr rfl
      refine ⟨a, rfl, ⟨ws, sq⟩, ?_⟩
      -- the walk, once it is known that the list stays
      have wk : ∀ (y' : Stt), y'.H = y.H → (∀ b, y.F b → y'.F b) → ∀ br, (∀ w : Stt, SInv G w → (∀ b, y'.F b → w.F b) → KeptF y'.F y'.H w.H → (br = true → Kept [] y'.H w.H) → SqL X.K w.H a ws) → Walks G y' (Itl X.K a) ds br := by
        intro y' eH f0 br st w iw f1 kf kb i
        have sw := st w iw f1 kf kb
        have rw' : Rep G w.F w.H ws ds := r.keep (fun b h => f1 b (f0 b h)) (by rw [← eH]; exact fun b o hb e t => kf b o (f0 b hb) e t)
        refine ⟨fun d hd => ?_, fun hl => ⟨ws, sw, by rw [r.length]; exact hl⟩⟩
        obtain ⟨u, hu, ru⟩ := rw'.get hd
        refine ⟨⟨ws, u, sw, hu⟩, fun v H' yl => ?_⟩
        obtain ⟨e1, yl⟩ := yl
        subst e1
        have := yl ws sw
        rw [hu] at this; cases this
        exact ⟨w.F, .same iw.dom ru⟩
      cases k with
      | fz =>
        have hf : fv = [] := P.kd
        refine q y _ hρ P.inv P.ext (wk y rfl (fun _ h => h) _ fun w iw f1 kf kb => stay _ _ f1 kf (.inr (.inl hf)) fun _ n => absurd hf n)
      | br =>
        refine q y _ hρ P.inv P.ext (wk y rfl (fun _ h => h) _ fun w iw f1 kf kb => stay _ _ f1 kf (.inr (.inr (kb (by simp)))) fun fa n => ?_)
        have ha : a ∈ fv := by rcases av with z | z <;> simp_all
        obtain ⟨_, o, ho, ht⟩ := P.own.there a ha
        rw [ho]; exact kb (by simp) a o ho (by simp) ht
      | ow =>
        have hF := P.inv.freeze (fv := fv) fun b hb => ⟨(P.own.there b hb).2, (P.kd.2 b hb).2⟩
        have hE : Ext s x { y with F := fun b => y.F b ∨ b ∈ fv } := { P.ext with f1 := fun b h => .inl (P.ext.f1 b h), f2 := fun b h => h.elim (P.ext.f2 b) fun h => .inr (P.kd.2 b h).1 }
        refine q { y with F := fun b => y.F b ∨ b ∈ fv } _ hρ hF hE (wk { y with F := fun b => y.F b ∨ b ∈ fv } rfl (fun _ h => .inl h) _ fun w iw f1 kf kb => ?_)
        have ha : a ∈ fv := by
          have n := P.kd.1
          rcases av with z | z
          · exact absurd z n
          · simp [z]
        obtain ⟨_, o, ho, ht⟩ := P.own.there a ha
        have h' := kf a o (.inr ha) ho ht
        exact stay _ _ (fun b h => f1 b (.inl h)) (fun b o hb e t => kf b o (.inl hb) e t) (.inl (f1 a (.inr ha))) fun _ _ => by rw [h', ho]
def rng (lo : Int) (n : Nat) : List D := (List.range n).map fun (i : Nat) => D.int (lo + (i : Int))
theorem walks_range {y : Stt} {lo : Int} {n : Nat} {b : Bool} : Walks G y (Itr lo n) (rng lo n) b := fun w iw f1 kf kb i => by
  refine ⟨fun d hd => ?_, fun h => ?_⟩
  · unfold rng at hd
    rw [List.getElem?_map] at hd
    cases e : (List.range n)[i]? with
    | none => rw [e] at hd; cases hd
    | some j =>
      rw [e] at hd
      obtain ⟨hj, ej⟩ := List.getElem?_eq_some_iff.mp e
      rw [List.getElem_range] at ej
      rw [List.length_range] at hj
      subst ej
      cases hd
      refine ⟨hj, fun v H' yl => ?_⟩
      obtain ⟨rfl, rfl⟩ := yl
      exact ⟨w.F, .atom iw.dom rfl⟩
  · simp only [rng, List.length_map, List.length_range] at h
    exact h
def rngOk (i : Int) : Bool := decide (-(2 ^ 62) ≤ i ∧ i < 2 ^ 62)
def int1 : List (D × Kd) → Option Int
  | [(.int j, _)] => some j
  | _ => none
def int2 : List (D × Kd) → Option (Int × Int)
  | [(.int i, _), (.int j, _)] => some (i, j)
  | _ => none
theorem int1_of {l : List (D × Kd)} {j : Int} (h : int1 l = some j) : l.map (·.1) = [.int j] := by
  unfold int1 at h
  split at h
  · cases h; rfl
  · cases h
theorem int2_of {l : List (D × Kd)} {i j : Int} (h : int2 l = some (i, j)) : l.map (·.1) = [.int i, .int j] := by
  unfold int2 at h
  split at h
  · cases h; rfl
  · cases h
def iRng1D (f : AE) : IE := fun ρ => do
  let (l, ρ1) ← f ρ
  match int1 l with
  | some j => if rngOk j = true then pure (rng 0 j.toNat, false, ρ1) else .bad
  | none => .bad
def iRng2D (f : AE) : IE := fun ρ => do
  let (l, ρ1) ← f ρ
  match int2 l with
  | some (i, j) => if rngOk i = true ∧ rngOk j = true then pure (rng i (j - i).toNat, false, ρ1) else .bad
  | none => .bad
theorem AOk.int1 {x y vs l j} (h : AOk G x y vs l) (e : l.map (·.1) = [.int j]) : vs = [.int j] := by
  cases h with
  | nil => simp at e
  | cons w kd _ r =>
    simp at e
    obtain ⟨rfl, e⟩ := e
    cases r with
    | nil =>
      cases w with
      | fz r => rw [r.int_of]
      | ow _ ob => exact False.elim ob
    | cons _ _ _ _ => simp at e
theorem AOk.int2 {x y vs l i j} (h : AOk G x y vs l) (e : l.map (·.1) = [.int i, .int j]) : vs = [.int i, .int j] := by
  cases h with
  | nil => simp at e
  | @cons v d k fv vs dks w kd _ r =>
    simp only [List.map_cons, List.cons.injEq] at e
    obtain ⟨rfl, e⟩ := e
    rw [r.int1 e]
    cases w with
    | fz r => rw [r.int_of]
    | ow _ ob => exact False.elim ob
theorem r_irange1 {tg a : Expr} {p pos : Pos} {s : Bool} {f : AE} (hg : Gl X "range") (hm : X.mg "range" = none) (ha : PA X [a] (tA G W s f)) (hs : starEach [a] X.env = [(false, eval a X.env)] := by rfl) : PI X tg (.Call (.Name "range" p) [a] [] pos) (tI G W s (iRng1D f)) := PI.of (pi_range1 hg hm ha hs) fun σ H R ⟨x, e1, e2, hx, q⟩ => by
  subst e1 e2
  refine ⟨x, rfl, rfl, hx, ?_⟩
  unfold iRng1D at q
  cases e : f x.rho with
  | bad => simp only [e, Res.bind_bad] at q
  | err c d ρ' => simp only [e, Res.bind_err] at q; exact q
  | ok r =>
    obtain ⟨l, ρ1⟩ := r
    simp only [e, Res.bind_ok] at q
    intro y vs hρ iy ey ay
    cases hl : int1 l with
    | none => simp only [hl] at q
    | some j =>
      simp only [hl] at q
      by_cases hj : rngOk j = true
      · rw [if_pos hj] at q
        have e1 := ay.int1 (int1_of hl)
        simp only [rngOk, decide_eq_true_eq] at hj
        exact ⟨j, e1, hj.1, hj.2, q y _ hρ iy ey walks_range⟩
      · rw [if_neg hj] at q; exact q.elim
theorem r_irange2 {tg a b : Expr} {p pos : Pos} {s : Bool} {f : AE} (hg : Gl X "range") (hm : X.mg "range" = none) (ha : PA X [a, b] (tA G W s f)) (hs : starEach [a, b] X.env = [(false, eval a X.env), (false, eval b X.env)] := by rfl) (hs2 : starEach [b] X.env = [(false, eval b X.env)] := by rfl) : PI X tg (.Call (.Name "range" p) [a, b] [] pos) (tI G W s (iRng2D f)) := PI.of (pi_range2 hg hm ha hs hs2) fun σ H R ⟨x, e1, e2, hx, q⟩ => by
  subst e1 e2
  refine ⟨x, rfl, rfl, hx, ?_⟩
  unfold iRng2D at q
  cases e : f x.rho with
  | bad => simp only [e, Res.bind_bad] at q
  | err c d ρ' => simp only [e, Res.bind_err] at q; exact q
  | ok r =>
    obtain ⟨l, ρ1⟩ := r
    simp only [e, Res.bind_ok] at q
    intro y vs hρ iy ey ay
    cases hl : int2 l with
    | none => simp only [hl] at q
    | some ij =>
      obtain ⟨i, j⟩ := ij
      simp only [hl] at q
      by_cases hj : rngOk i = true ∧ rngOk j = true
      · rw [if_pos hj] at q
        have e1 := ay.int2 (int2_of hl)
        simp only [rngOk, decide_eq_true_eq] at hj
        exact ⟨i, j, e1, ⟨hj.1.1, hj.1.2, hj.2.1, hj.2.2⟩, q y _ hρ iy ey walks_range⟩
      · rw [if_neg hj] at q; exact q.elim
end
end VL
/-! VL9: list comprehensions. -/
namespace VL
open PySem PySem.Spec PyProof.Rows L2

def wipeR (ρ : Env) : List Nat → Env
  | [] => ρ
  | v :: vs => (wipeR ρ vs).set v none
def slotFree (ρ : Env) (i : Nat) : Bool := match ρ[i]? with
  | some none => true
  | some (some (_, .fz)) => true
  | _ => false
def wipable (ρ : Env) (vs : List Nat) : Bool := vs.all (slotFree ρ)
theorem wipeR_length (ρ : Env) : ∀ vs : List Nat, (wipeR ρ vs).length = ρ.length
  | [] => rfl
  | v :: vs => by unfold wipeR; rw [List.length_set, wipeR_length ρ vs]
theorem wipeR_get (ρ : Env) (i : Nat) : ∀ vs : List Nat, (wipeR ρ vs)[i]? = if i ∈ vs ∧ i < ρ.length then some none else ρ[i]?
  | [] => by simp [wipeR]
  | v :: vs => by
    unfold wipeR
    by_cases e : v = i
    · subst e
      by_cases h : v < ρ.length
      · rw [List.getElem?_set_self (by rw [wipeR_length]; exact h)]; simp [h]
      · have : (ρ[v]? : Option Slot) = none := List.getElem?_eq_none (by omega)
        simp [h, wipeR_length]
    · rw [List.getElem?_set_ne e, wipeR_get ρ i vs]
      have : (i ∈ v :: vs) ↔ i ∈ vs := by simp [Ne.symm e]
      simp only [this]
theorem wipe_get (σ : St) (i : Nat) : ∀ vs : List Nat, (wipe σ vs)[i]? = if i ∈ vs ∧ i < σ.length then some none else σ[i]?
  | [] => by simp [wipe]
  | v :: vs => by
    unfold wipe
    by_cases e : v = i
    · subst e
      by_cases h : v < σ.length
      · rw [List.getElem?_set_self (by rw [wipe_length]; exact h)]; simp [h]
      · simp [h, wipe_length]
    · rw [List.getElem?_set_ne e, wipe_get σ i vs]
      have : (i ∈ v :: vs) ↔ i ∈ vs := by simp [Ne.symm e]
      simp only [this]
theorem wipe_same {σ τ : St} {is vs : List Nat} (hl : τ.length = σ.length) (h : ∀ j, j ∉ is → τ[j]? = (wipe σ vs)[j]?) (hs : ∀ j ∈ is, j ∈ vs) : wipe τ vs = wipe σ vs := by
  apply List.ext_getElem?
  intro j
  rw [wipe_get τ j vs, wipe_get σ j vs, hl]
  by_cases hj : j ∈ vs
  · by_cases hj2 : j < σ.length
    · simp [hj, hj2]
    · have e1 : (τ[j]? : Option (Option V)) = none := List.getElem?_eq_none (by omega)
      have e2 : (σ[j]? : Option (Option V)) = none := List.getElem?_eq_none (by omega)
      simp [hj2, e1, e2]
  · have := h j fun z => hj (hs j z)
    rw [wipe_get σ j vs] at this
    simp [hj] at this ⊢
    exact this
theorem Slots.setNone {G F H ρ σ o p b} (h : Slots G F H ρ σ o p b) : ∀ {i : Nat}, slotFree ρ i = true → Slots G F H (ρ.set i Option.none) (σ.set i Option.none) o p b := by
  induction h with
  | nil => intro i h; simp [slotFree] at h
  | none hs ih =>
    intro i h
    cases i with
    | zero => exact .none hs
    | succ i => exact .none (ih (by simpa [slotFree] using h))
  | fz r hs ih =>
    intro i h
    cases i with
    | zero => exact .none hs
    | succ i => exact .fz r (ih (by simpa [slotFree] using h))
  | ow w n hs ih =>
    intro i h
    cases i with
    | zero => simp [slotFree] at h
    | succ i => exact .ow w n (ih (by simpa [slotFree] using h))
  | pn w n hs ih =>
    intro i h
    cases i with
    | zero => simp [slotFree] at h
    | succ i => exact .pn w n (ih (by simpa [slotFree] using h))
  | lk w hs ih =>
    intro i h
    cases i with
    | zero => simp [slotFree] at h
    | succ i => exact .lk w (ih (by simpa [slotFree] using h))
theorem Slots.wipe {G F H ρ σ o p b} (h : Slots G F H ρ σ o p b) : ∀ {vs : List Nat}, wipable ρ vs = true → Slots G F H (wipeR ρ vs) (wipe σ vs) o p b
  | [], _ => h
  | v :: vs, hw => by
    simp only [wipable, List.all_cons, Bool.and_eq_true] at hw
    have ih := Slots.wipe h (vs := vs) hw.2
    refine ih.setNone ?_
    unfold slotFree
    rw [wipeR_get]
    by_cases hv : v ∈ vs ∧ v < ρ.length
    · simp [hv]
    · rw [if_neg hv]; exact hw.1
theorem tabs_upd {T : List (Addr × Str)} {H : Hp} {a : Addr} {o o' : HO} (t : LamX.Tabs T H) (h : H a = some o) (n1 : isTbl o = false) (n2 : ∀ φ, o ≠ .ext φ) : LamX.Tabs T (upd H a o') := fun p hp => by
  obtain ⟨ps, e, ok, c⟩ := t p hp
  have ne : p.1 ≠ a := fun z => by rw [z, h] at e; cases e; cases n1
  refine ⟨ps, by rw [upd_ne ne]; exact e, ok, fun pos cv hc => ?_⟩
  obtain ⟨c', e1, e2⟩ := c pos cv hc
  have ne2 : c' ≠ a := fun z => by rw [z, h] at e2; cases e2; exact n2 _ rfl
  exact ⟨c', e1, by rw [upd_ne ne2]; exact e2⟩

/-- one comprehension's turns where nothing but new things come: the function from data to data -/
def lcS (g : GE) (t : BE) (e : EE) (ρ : Env) : List D → Res (List D)
  | [] => .ok []
  | d :: ds => do
    let ρ1 ← g d ρ
    let (b, _) ← t ρ1
    if b = true then do
      let (v, k, _) ← e ρ1
      if decide (k ≠ .br) && v.fzOk then do
        let r ← lcS g t e ρ ds
        pure (v :: r)
      else .bad
    else lcS g t e ρ ds
def xLc (vs : List Nat) (it : IE) (g : GE) (t : BE) (e : EE) : EE := fun ρ => do
  let (ds, _, ρ1) ← it ρ
  if wipable ρ1 vs = true ∧ ds.length ≤ sizeLine then
    match lcS g t e (wipeR ρ1 vs) ds with
    | .ok l => .ok (.lst l, .ow, ρ1)
    | _ => .bad
  else .bad
def bYes : BE := fun ρ => pure (true, ρ)
/-- nothing is raised out of a comprehension -/
abbrev W0 : WX := fun _ _ _ _ => False
structure LcI (G : Gm) (y : Stt) (D0 : Addr) (ws : List V) (acc : List D) (F : Addr → Prop) (H : Hp) : Prop where
  f1 : ∀ a, y.F a → F a
  f2 : ∀ a, F a → y.F a ∨ y.H a = none
  kp : Kept [] y.H H
  dm : ∀ a, H a = none → y.H a = none
  dom : DomF F H
  tb : LamX.Tabs G.T H
  nD : ¬ F D0
  eD : H D0 = some (.lst ws)
  rep : Rep G F H ws acc
theorem LcI.slots {G y D0 ws acc F H} (hy : SInv G y) (I : LcI G y D0 ws acc F H) : Slots G F H y.rho y.sg y.o y.p y.b :=
  hy.sl.keep I.f1 (fun a o _ e t => I.kp a o e (by simp) t) fun a ha => ⟨fun f => by
    obtain ⟨nf, o, e, _⟩ := hy.sl.there a ha
    rcases I.f2 a f with q | q
    · exact nf q
    · (rw [e] at q; cases q), fun o e t => I.kp a o e (by simp) t⟩
theorem LcI.inv {G y D0 ws acc F H vs} (hy : SInv G y) (I : LcI G y D0 ws acc F H) (hw : wipable y.rho vs = true) : SInv G ⟨F, wipeR y.rho vs, wipe y.sg vs, H, y.o, y.p, y.b⟩ := by
  have s1 : Slots G F H y.rho y.sg y.o y.p y.b := hy.sl.keep I.f1 (fun a o _ e t => I.kp a o e (by simp) t) fun a ha => ⟨fun f => ?_, fun o e t => I.kp a o e (by simp) t⟩
  · exact ⟨s1.wipe hw, hy.nd, I.dom, I.tb⟩
  · obtain ⟨nf, o, e, _⟩ := hy.sl.there a ha
    rcases I.f2 a f with q | q
    · exact nf q
    · rw [e] at q; cases q
section
variable {X : Cx} {G : Gm} {W : WX} {z : Stt}
theorem pts_no : PTs X [] (tB G W0 true bYes) := ⟨fun pins s σ H Q I ⟨x, e1, e2, hi, q⟩ => by
  subst e1 e2
  exact pts_nil.run pins s x.sg x.H Q I (q x rfl hi .refl)⟩
theorem pts_if {c : Expr} {s : Bool} {f : BE} (h : PT X c (tB G W0 s f)) : PTs X [c] (tB G W0 s f) := pts_one h
theorem tS_lc {s : Bool} {vs is : List Nat} {it : IE} {g : GE} {t : BE} {e : EE} (his : ∀ j ∈ is, j ∈ vs) {σ H Q} (h : tS G W s (xLc vs it g t e) σ H Q) : tLc (tI G W s it) (tG G is g) (tB G W0 true t) (tS G W0 true e) vs σ H Q := by
  obtain ⟨x, rfl, rfl, hx, q⟩ := h
  refine ⟨x, rfl, rfl, hx, ?_⟩
  unfold xLc at q
  cases e1 : it x.rho with
  | bad => simp only [e1, Res.bind_bad] at q
  | err c d ρ' => simp only [e1, Res.bind_err] at q; exact q
  | ok r =>
    obtain ⟨ds, br, ρ1⟩ := r
    simp only [e1, Res.bind_ok] at q
    intro y J hρ iy ey wk D0 hD
    have hc : wipable ρ1 vs = true ∧ ds.length ≤ sizeLine := by
      by_cases hc : wipable ρ1 vs = true ∧ ds.length ≤ sizeLine
      · exact hc
      · rw [if_neg hc] at q; exact q.elim
    rw [if_pos hc] at q
    obtain ⟨hw, hz⟩ := hc
    rw [← hρ] at hw
    cases hl : lcS g t e (wipeR ρ1 vs) ds with
    | bad => simp only [hl] at q
    | err c d ρ' => simp only [hl] at q
    | ok l =>
    simp only [hl] at q
    rw [← hρ] at hl
    -- D0 is apart
    have apart : ∀ a, y.H a ≠ none → a ≠ D0 := fun a h z => h (by rw [z]; exact hD)
    refine ⟨fun i m H => ∃ F ws acc, LcI G y D0 ws acc F H ∧ ws.length ≤ i ∧ m = ds.length - i ∧ i ≤ ds.length ∧ ∃ r, lcS g t e (wipeR y.rho vs) (ds.drop i) = .ok r ∧ l = acc ++ r, ⟨ds.length, y.F, [], [], ⟨fun _ h => h, fun _ h => .inl h, fun a o e _ _ => by rw [upd_ne (ne_of_none e hD)]; exact e, fun a h => ?_, fun a f => ?_, ?_, fun f => ?_, upd_same, .nil⟩, by simp, by simp, Nat.zero_le _, l, by simpa using hl, by simp⟩, ?_⟩
    · by_cases ea : a = D0
      · rw [ea]; exact hD
      · rwa [upd_ne ea] at h
    · obtain ⟨o, e, tt⟩ := iy.dom a f
      exact ⟨o, by rw [upd_ne (ne_of_none e hD)]; exact e, tt⟩
    · exact iy.tb.ext fun b o e => by rw [upd_ne (ne_of_none e hD)]; exact e
    · obtain ⟨o, e, _⟩ := iy.dom D0 f
      rw [hD] at e; cases e
    rintro i m H1 ⟨F, ws, acc, I, hws, rfl, hi, r, hr, rfl⟩
    have iw := I.inv iy hw
    have wkw := wk ⟨F, wipeR y.rho vs, wipe y.sg vs, H1, y.o, y.p, y.b⟩ iw I.f1 (fun a o _ e tt => I.kp a o e (by simp) tt) (fun _ => I.kp) i
    rcases Nat.lt_or_ge i ds.length with hlt | hge
    rotate_left
    · have ei : i = ds.length := by omega
      subst ei
      rw [List.drop_length] at hr
      simp only [lcS, Res.ok.injEq] at hr
      subst hr
      refine .inl ⟨wkw.2 (Nat.le_refl _), ?_⟩
      have s1 := I.slots iy
      have E2 : Ext true y { y with F := F, H := H1 } := ⟨rfl, I.kp.mono (by simp), I.f1, I.f2, fun a h => .inl h, rfl, rfl, I.dm, fun _ d _ e _ => ⟨d, e, fun _ => rfl⟩, fun _ => ⟨rfl, I.kp, rfl⟩⟩
      have hE := ey.trans hx iy E2
      rw [Bool.and_true] at hE
      rw [List.append_nil] at q
      refine q { y with F := F, H := H1 } (.ref D0) [D0] hρ ⟨⟨s1, iy.nd, I.dom, I.tb⟩, hE, .ow I.nD ⟨ws, I.eD, by omega, I.rep⟩, ⟨by simp, fun a ha => ?_⟩, .ow⟩
      have : a = D0 := by simpa using ha
      subst this
      refine ⟨ey.dm a hD, fun z => ?_, fun z => ?_, fun z => ?_⟩
      · obtain ⟨_, o, e, _⟩ := iy.sl.there a (.inl z); rw [hD] at e; cases e
      · obtain ⟨_, o, e, _⟩ := iy.sl.there a (.inr (.inl z)); rw [hD] at e; cases e
      · obtain ⟨_, o, e, _⟩ := iy.sl.there a (.inr (.inr z)); rw [hD] at e; cases e
    · have ed : ds[i]? = some ds[i] := List.getElem?_eq_getElem hlt
      obtain ⟨hgo, hyld⟩ := wkw.1 _ ed
      rw [List.drop_eq_getElem_cons hlt] at hr
      simp only [lcS] at hr
      cases hg : g ds[i] (wipeR y.rho vs) with
      | bad => simp only [hg, Res.bind_bad] at hr; cases hr
      | err c d ρ' => simp only [hg, Res.bind_err] at hr; cases hr
      | ok ρ2 =>
      simp only [hg, Res.bind_ok] at hr
      cases ht : t ρ2 with
      | bad => simp only [ht, Res.bind_bad] at hr; cases hr
      | err c d ρ' => simp only [ht, Res.bind_err] at hr; cases hr
      | ok r2 =>
      obtain ⟨b, ρ3⟩ := r2
      simp only [ht, Res.bind_ok] at hr
      refine .inr ⟨hgo, fun H2 => ∃ F ws acc', LcI G y D0 ws acc' F H2 ∧ ws.length ≤ i + 1 ∧ ∃ r', lcS g t e (wipeR y.rho vs) (ds.drop (i + 1)) = .ok r' ∧ acc ++ r = acc' ++ r', fun H2 ⟨F, ws, acc', I2, h2, r', h3, h4⟩ => ⟨ds.length - (i + 1), by omega, F, ws, acc', I2, h2, rfl, hlt, r', h3, h4⟩, fun v H2 yl => ?_⟩
      obtain ⟨F2, n⟩ := hyld v H2 yl
      have P := n.post iw
      have r1 : Rep G F2 H2 [v] [ds[i]] := n.own.fz_of
      rw [ey.sg] at P
      refine ⟨⟨F2, wipeR y.rho vs, wipe x.sg vs, H2, y.o, y.p, y.b⟩, ds[i], rfl, rfl, P.inv, r1, ?_⟩
      show (match g ds[i] (wipeR y.rho vs) with | .ok ρ' => _ | _ => False)
      rw [hg]
      intro u hu tu
      refine ⟨wipe_same (tu.len.trans (wipe_length x.sg vs)) (fun j hj => tu.out j hj) his, u, rfl, rfl, tu.inv, ?_⟩
      rw [hu, ht]
      intro u2 hu2 iu2 eu2
      obtain ⟨ρu2, ku2, ou2⟩ := eu2.st rfl
      -- what is known behind the test
      have I2 : LcI G y D0 ws acc u2.F u2.H := by
        have hF : u.F = F2 := tu.F
        have hH : u.H = H2 := tu.H
        have kp2 : Kept [] H1 u2.H := by
          refine Kept.trans (m' := []) (fun a o e _ _ => n.kp a o e) (by rw [← hH]; exact ku2) (by simp)
        have f12 : ∀ a, F a → u2.F a := fun a f => eu2.f1 a (by rw [hF]; exact n.f1 a f)
        refine ⟨fun a f => f12 a (I.f1 a f), fun a f => ?_, I.kp.trans kp2 (by simp), fun a h => ?_, iu2.dom, iu2.tb, fun f => ?_, kp2 _ _ I.eD (by simp) rfl, I.rep.keep f12 fun a o _ e tt => kp2 a o e (by simp) tt⟩
        · rcases eu2.f2 a f with q | q
          · rw [hF] at q
            rcases n.f2 a q with q | q
            · exact I.f2 a q
            · exact .inr (I.dm a q)
          · rw [hH] at q; exact .inr (I.dm a (n.dm a q))
        · have h1 := eu2.dm a h
          rw [hH] at h1
          exact I.dm a (n.dm a h1)
        · rcases eu2.f2 D0 f with q | q
          · rw [hF] at q
            rcases n.f2 D0 q with q | q
            · exact I.nD q
            · have q' : H1 D0 = none := q
              rw [I.eD] at q'; cases q'
          · rw [hH, n.kp _ _ I.eD] at q; cases q
      cases b with
      | false =>
        rw [if_neg (by simp)] at hr ⊢
        exact ⟨u2.F, ws, acc, I2, by omega, r, hr, rfl⟩
      | true =>
        rw [if_pos rfl] at hr ⊢
        cases he : e ρ2 with
        | bad => simp only [he, Res.bind_bad] at hr; cases hr
        | err c d ρ' => simp only [he, Res.bind_err] at hr; cases hr
        | ok r3 =>
        obtain ⟨vd, k, ρ4⟩ := r3
        simp only [he, Res.bind_ok] at hr
        have hk : (decide (k ≠ .br) && vd.fzOk) = true := by
          by_cases hk : (decide (k ≠ .br) && vd.fzOk) = true
          · exact hk
          · rw [if_neg hk] at hr; cases hr
        rw [if_pos hk] at hr
        simp only [Bool.and_eq_true, decide_eq_true_eq] at hk
        cases h5 : lcS g t e (wipeR y.rho vs) (ds.drop (i + 1)) with
        | bad => simp only [h5, Res.bind_bad] at hr; cases hr
        | err c d ρ' => simp only [h5, Res.bind_err] at hr; cases hr
        | ok r' =>
        simp only [h5, Res.bind_ok, Res.pure_ok, Res.ok.injEq] at hr
        subst hr
        refine ⟨u2, eu2.sg, rfl, iu2, ?_⟩
        rw [ρu2, hu, he]
        intro u3 yv fv hu3 P3
        obtain ⟨ρu3, ku3, ou3⟩ := P3.ext.st rfl
        have eD3 : u3.H D0 = some (.lst ws) := ku3 _ _ I2.eD (by simp) rfl
        have nD3 : ¬ u3.F D0 := fun f => by
          rcases P3.ext.f2 D0 f with q | q
          · exact I2.nD q
          · rw [I2.eD] at q; cases q
        refine ⟨ws, eD3, by omega, ?_⟩
        have hv : D0 ∉ fv := fun z => by
          cases k with
          | br => exact hk.1 rfl
          | fz => have : fv = [] := P3.kd; rw [this] at z; simp at z
          | ow => have := (P3.kd.2 D0 z).1; rw [I2.eD] at this; cases this
        have hF3 : SInv G { u3 with F := fun a => u3.F a ∨ a ∈ fv } := P3.inv.freeze fun a ha => ⟨(P3.own.there a ha).2, by
          cases k with
          | br => exact absurd rfl hk.1
          | fz => have : fv = [] := P3.kd; rw [this] at ha; simp at ha
          | ow => exact (P3.kd.2 a ha).2⟩
        have fr : ∀ a ∈ fv, u2.H a = none := fun a ha => by
          cases k with
          | br => exact absurd rfl hk.1
          | fz => have : fv = [] := P3.kd; rw [this] at ha; simp at ha
          | ow => exact (P3.kd.2 a ha).1
        have rv : Rep G (fun a => u3.F a ∨ a ∈ fv) u3.H [yv] [vd] := P3.own.rep (fun a ha => .inr ha) (fun _ h => .inl h) hk.2
        have kD : ∀ a o, u3.H a = some o → a ≠ D0 → upd u3.H D0 (.lst (ws ++ [yv])) a = some o := fun a o e n => by rw [upd_ne n]; exact e
        have kfD : KeptF (fun a => u3.F a ∨ a ∈ fv) u3.H (upd u3.H D0 (.lst (ws ++ [yv]))) := fun a o f e _ => kD a o e fun z => by
          subst z
          rcases f with f | f
          · exact nD3 f
          · exact hv f
        refine ⟨fun a => u3.F a ∨ a ∈ fv, ws ++ [yv], acc ++ [vd], ⟨fun a f => .inl (P3.ext.f1 a (I2.f1 a f)), fun a f => ?_, ?_, fun a h => ?_, fun a f => ?_, tabs_upd P3.inv.tb eD3 rfl (fun φ z => by cases z), fun f => ?_, upd_same, ?_⟩, by simp; omega, r', rfl, by simp⟩
        · rcases f with f | f
          · rcases P3.ext.f2 a f with q | q
            · exact I2.f2 a q
            · exact .inr (I2.dm a q)
          · exact .inr (I2.dm a (fr a f))
        · intro a o e _ tt
          have h1 := ku3 a o (I2.kp a o e (by simp) tt) (by simp) tt
          exact kD a o h1 (apart a (by rw [e]; simp))
        · by_cases ea : a = D0
          · rw [ea]; exact hD
          · rw [upd_ne ea] at h
            exact I2.dm a (P3.ext.dm a h)
        · by_cases ea : a = D0
          · rw [ea]; exact ⟨_, upd_same, rfl⟩
          · obtain ⟨o, e, tt⟩ := hF3.dom a f
            exact ⟨o, kD a o e ea, tt⟩
        · rcases f with f | f
          · exact nD3 f
          · exact hv f
        · refine Rep.snoc ((I2.rep.keep P3.ext.f1 fun a o _ e tt => ku3 a o e (by simp) tt).keep (fun _ h => .inl h) ?_) (rv.keep (fun _ h => h) kfD)
          exact fun a o f e tt => kfD a o (.inl f) e tt
theorem r_lc {elt tg iter : Expr} {ifs : List Expr} {scope : Scope} {own : List (Str × Nat)} {pos : Pos} {s : Bool} {is : List Nat} {it : IE} {g : GE} {t : BE} {e : EE} (hc : X.calm = true) (hN : X.N.Nodup) (hi : PI X tg iter (tI G W s it)) (ok : BlkOk X.N X.env.scope scope own)
    (his : ∀ j ∈ is, j ∈ own.map (·.2))
    (hg : ∀ (s : Shared) (H : Hp) (C : Addr) (cl : List (Str × Addr)) (fp : List Addr), PG (X.blk s H scope (compEnvC scope cl C X.env) fp) tg (tG G is g)) (ht : ∀ (s : Shared) (H : Hp) (C : Addr) (cl : List (Str × Addr)) (fp : List Addr), PTs (X.blk s H scope (compEnvC scope cl C X.env) fp) ifs (tB G W0 true t))
    (he : ∀ (s : Shared) (H : Hp) (C : Addr) (cl : List (Str × Addr)) (fp : List Addr), PE (X.blk s H scope (compEnvC scope cl C X.env) fp) elt (tS G W0 true e)) (hs : ∀ x, foldedSetIterable iter X.env x = pure x := by intro _; rfl) :
    PE X (.ListComp elt [⟨tg, iter, ifs, 0⟩] scope pos) (tS G W s (xLc (own.map (·.2)) it g t e)) :=
  PE.of (pe_lc hc hN hi ok hg ht he hs) fun σ H Q h => tS_lc his h
theorem r_setlc {fl : Fl} {i : Nat} {y : Str} {py : Pos} {elt tg iter : Expr} {ifs : List Expr} {scope : Scope} {own : List (Str × Nat)} {pos spos : Pos} {s : Bool} {is : List Nat} {it : IE} {g : GE} {t : BE} {e : EE} (hc : X.calm = true) (hN : X.N.Nodup) (hy : X.N[i]? = some y) (hyl : X.env.scope.names.lookup y = some .local)
    (hsw : swapsWith (.ListComp elt [⟨tg, iter, ifs, 0⟩] scope pos) (some (.Name y py)) spos.line X.env = pure true) (hi : PI X tg iter (tI G W s it)) (ok : BlkOk X.N X.env.scope scope own)
    (his : ∀ j ∈ is, j ∈ own.map (·.2))
    (hg : ∀ (s : Shared) (H : Hp) (C : Addr) (cl : List (Str × Addr)) (fp : List Addr), PG (X.blk s H scope (compEnvC scope cl C X.env) fp) tg (tG G is g)) (ht : ∀ (s : Shared) (H : Hp) (C : Addr) (cl : List (Str × Addr)) (fp : List Addr), PTs (X.blk s H scope (compEnvC scope cl C X.env) fp) ifs (tB G W0 true t))
    (he : ∀ (s : Shared) (H : Hp) (C : Addr) (cl : List (Str × Addr)) (fp : List Addr), PE (X.blk s H scope (compEnvC scope cl C X.env) fp) elt (tS G W0 true e)) (hs : ∀ x, foldedSetIterable iter X.env x = pure x := by intro _; rfl) :
    PS X (.Assign [.Name y py] (.ListComp elt [⟨tg, iter, ifs, 0⟩] scope pos) spos) (tT G W z (sSet fl i (xLc (own.map (·.2)) it g t e))) :=
  r_set (PS.of (ps_setLc hc hN hy hyl hsw hi ok hg ht he hs) fun Dn σ H h => by
    have h : tS G W s (xLc (own.map (·.2)) it g t e) σ H (fun x H1 => gName i x σ H1 Dn.nx) := h
    exact tS_lc his h)
end
end VL
/-! VL0: defs' promises where it is known that no guard stands on the stack (repr of lists asks that). -/
namespace VL
open PySem PySem.Spec PyProof.Rows L2

structure RoomG (k : Nat) (A : Around) : Prop where
  room : Room k A
  g : A.guards = some []
theorem RoomG.mono {j k : Nat} {A : Around} (r : RoomG k A) (h : j ≤ k) : RoomG j A := ⟨r.room.mono h, r.g⟩
structure FnG (P : Program) (w : World) (K : PySem.W.Frag) (mg : Str → Option Value) (base : Heap) (k : Nat) (f : Addr) (fd : FuncData) (ps : List Str) (sp : Sp) : Prop where
  len : ∀ vs H Q E, sp vs H Q E → vs.length = ps.length
  go : ∀ (B : Around) (below : List PySem.Env) (t : Shared) (J : Hp) (as : Args) (us : List Value) (vs : List V) (R : VK) (E : XK),
    RoomG k B → Env0 P w K mg base B below t J → BindsTo t fd as (ps.zip us) → Vals vs us → sp vs J R E →
    codeAny (model P w) B (.call (.ref f) as) (CR (L2.CX P w) below P w J t R E) t
section
variable {P : Program} {w : World} {K : PySem.W.Frag} {mg : Str → Option Value} {base : Heap}
theorem FnG.mono {j k : Nat} {f : Addr} {fd : FuncData} {ps : List Str} {sp : Sp} (F : FnG P w K mg base j f fd ps sp) (h : j ≤ k) : FnG P w K mg base k f fd ps sp :=
  ⟨F.len, fun B below t J as us vs R E r => F.go B below t J as us vs R E (r.mono h)⟩
theorem FnG.imp {k : Nat} {f : Addr} {fd : FuncData} {ps : List Str} {sp sp' : Sp} (F : FnG P w K mg base k f fd ps sp) (h : ∀ vs H Q E, sp' vs H Q E → sp vs H Q E) : FnG P w K mg base k f fd ps sp' :=
  ⟨fun vs H Q E q => F.len vs H Q E (h _ _ _ _ q), fun B below t J as us vs R E r e b v q => F.go B below t J as us vs R E r e b v (h _ _ _ _ q)⟩
/-- a def of the text and its body -/
theorem fnG {x qual : Str} {st : Stmt} {f : Addr} {fd : FuncData} {N ps : List Str} {k : Nat} {sp : Sp} (F : Fun K x qual st f fd) (S : FnScope N ps (defScope st)) (len : ∀ vs H Q E, sp vs H Q E → vs.length = ps.length)
    (body : ∀ (cdv : Value) (B : Around) (below : List PySem.Env) (t : Shared) (J : Hp) (vs : List V) (R : VK) (E : XK), RoomG k (B.deeper (envOfC qual (defScope st) t.heap.objs.size f cdv)) → sp vs J R E →
      ∃ u, PSs (cxOf (L2.CX P w) P w K mg base N qual (defScope st) f cdv B below t J E) (defBody st) u ∧ u { nx := fun _ J' => R .non J', rt := R } (L2.start N vs) J) :
    FnG P w K mg base (k + 1) f fd ps sp := by
  obtain ⟨oc, od, kV, doc, pm, an, cdv, ct, osl, rfl, lk, cd⟩ := F.ex
  refine ⟨len, ?_⟩
  intro B below t J as us vs R E rg e0 hb rv hsp
  have nl := len _ _ _ _ hsp
  have KX : K.In t.heap := e0.mod.kin.keeps fun b o q => (e0.bs b o q).1
  have lim : t.heap.NoLimit := e0.mod.nolimit.keeps fun b o q => (e0.bs b o q).1
  have kinds : ∀ y ∈ ps.zip us, (defScope st).names.lookup y.1 = some .local ∨ ((defScope st).names.lookup y.1 = some .cell ∧ ((cellsFrom (t.heap.objs.size + 1) (defScope st).names []).lookup y.1).isSome = true) := by
    rintro ⟨n, v⟩ hy
    have hp := S.par n (List.of_mem_zip hy).1
    exact hp.elim .inl fun q => .inr ⟨q, PySem.W.cellsFrom_some _ _ _ (.inl q)⟩
  have inner : RoomG k (B.deeper (envOfC qual (defScope st) t.heap.objs.size f cdv)) := ⟨rg.room.deeper _, rg.g⟩
  refine codeAny_call_function rg.room.depth (KX _ _ lk) rfl S.co S.gen rfl (PySem.W.codeRec_of KX cd) (hb _ _ _ _ ?_)
  refine wpAny_newFunctionEnv_cells S.kind kinds ?_
  intro env he t1 x
  subst he
  refine ⟨lim.keeps x.toInCall.keep, codeAny_func ?_⟩
  obtain ⟨u, hu, hq⟩ := body cdv B below t J vs R E inner hsp
  have I0 := inv_start (CX := L2.CX P w) (E := E) S rg.room.hd e0 nl rv x
  have fin : ∀ {σ' : St} {J' : Hp} {v : V} {r : Value} {t' : Shared}, Inv (cxOf (L2.CX P w) P w K mg base N qual (defScope st) f cdv B below t J E) [] σ' J' t' → RelV v r → R v J' → CE below P w J t R r t' := by
    intro σ' J' v r t' I rr q
    exact ⟨v, J', I.os, I.bare, I.base, I.hok, rr, q⟩
  refine wpAny_mono (hu.run [] t1 _ J _ I0 hq) (fun fl t' h => ?_) (fun e t' h => h)
  cases fl with
  | ret r => exact let ⟨v, σ', J', I, rr, q⟩ := h; fin I rr q
  | next => exact let ⟨σ', J', I, q⟩ := h; fin (v := V.non) (r := Value.none) I rfl q
  | brk => exact let ⟨_, _, _, q⟩ := h; q.elim
  | cont => exact let ⟨_, _, _, q⟩ := h; q.elim
end
section
variable {X : Cx} {k : Nat} {f : Addr} {fd : FuncData} {ps : List Str} {sp : Sp} {E : St → XK}
theorem runG {pins : List (Addr × Obj)} {σ : St} {J : Hp} {t : Shared} {R : VK} {us : List Value} {vs : List V} (F : FnG X.prog X.w X.K X.mg X.base k f fd ps sp) (rg : RoomG k X.A) (hb : Binds X.K fd ps []) (hx : PassesAt (L2.CX X.prog X.w) X σ (E σ))
    (I : Inv X pins σ J t) (rv : Vals vs us) (q : sp vs J R (E σ)) : wpAny (model X.prog X.w) X.A (PySem.call (.ref f) us) (EP X pins σ R) X.xe t := by
  have nl : us.length = ps.length := by rw [← rv.length]; exact F.len _ _ _ _ q
  have bd := hb t us I.kIn (by simpa using nl)
  rw [List.append_nil] at bd
  refine wpAny_call (codeAny_mono (F.go X.A X.stack t J ⟨us, []⟩ us vs R (E σ) rg I.env0 bd rv q) ?_)
  intro r t' hq
  match r, hq with
  | .error e, hq => exact hx pins J t e t' I hq
  | .ok (.ret u), hq => exact I.after hq
  | .ok .next, hq => exact False.elim hq
  | .ok .brk, hq => exact False.elim hq
  | .ok .cont, hq => exact False.elim hq
theorem callG {x : Str} {p pos : Pos} {e : Expr} {es : List Expr} {t : TA} (F : FnG X.prog X.w X.K X.mg X.base k f fd ps sp) (rg : RoomG k X.A) (hg : Gl X x) (hm : X.mg x = some (.ref f)) (hk : PySem.W.keepIn X.K (.ref f) = true) (hb : Binds X.K fd ps []) (hx : ∀ σ, PassesAt (L2.CX X.prog X.w) X σ (E σ))
    (ha : PA X (e :: es) t) (hdb : (x == ("__debug__" : Str)) = false := by decide) (he : starEach (e :: es) X.env = (false, eval e X.env) :: starEach es X.env := by rfl) (hpl : (backTo pos (starEach es X.env)).any (·.1) = false := by rfl) :
    PE X (.Call (.Name x p) (e :: es) [] pos) (tCallS sp E t) := by
  constructor
  intro pins t0 σ J R I h
  refine wpAny_Call_Name_kw (ld_glob I hg hm ?_ hdb)
  refine PySem.W.callWith_K (h₀ := X.base) I.ok.mod.kin hk (thn (ha.run pos pins t0 σ J _ I h) ?_) he hpl
  rintro us t1 ⟨vs, J1, I1, rv, q⟩
  exact ⟨I1.kIn, runG F rg hb (hx σ) I1 rv q⟩
end
end VL
/-! VL10: defs: what a def promises, its body, its calls. -/
namespace VL
open PySem PySem.Spec PyProof.Rows L2

/-- a def as a function: its parameters' slots in, a datum out -/
abbrev FA := Env → Res (D × Kd)
/-- .. whose first parameter is lent for change: its new datum besides -/
abbrev FB := Env → Res (D × Kd × D)
structure ArgA (G : Gm) (np : Nat) (vs : List V) (H : Hp) (x : Stt) : Prop where
  sg : x.sg = vs.map some
  H : x.H = H
  inv : SInv G x
  len : x.rho.length = np
  o : x.o = []
def spA (G : Gm) (np : Nat) (m : FA) : Sp := fun vs H Q E => ∃ x : Stt, ArgA G np vs H x ∧ x.p = [] ∧
  match m x.rho with
  | .ok (d, k) => ∀ y v fv, y.rho = x.rho → EPost G true x y v d k fv → k ≠ .br → Q v y.H
  | .err c d _ => ∀ y cls dx, y.rho = x.rho → SInv G y → Ext true x y → ErrV G y cls dx c d → E cls dx y.H
  | .bad => False
/-- no slot is lent for change -/
def NoPn (r : Env) : Prop := ∀ s ∈ r, ∀ d : D, s ≠ some (d, Fl.pn)
/-- what an error hands back of the lent datum -/
def err1 : Env → Option D
  | [some (d1, .pn)] => some d1
  | _ => none
def spB (G : Gm) (np : Nat) (m : FB) : Sp := fun vs H Q E => ∃ (x : Stt) (d0 : D) (r : Env), ArgA G np vs H x ∧ x.rho = some (d0, .pn) :: r ∧ NoPn r ∧
  match m x.rho with
  | .ok (d, k, d1) => ∀ y v fv, y.rho = some (d1, .pn) :: r → EPost G false x y v d k fv → k ≠ .br → Q v y.H
  | .err c d ρ' => ∃ d1, err1 ρ' = some d1 ∧ ∀ y cls dx, y.rho = some (d1, .pn) :: r → SInv G y → Ext false x y → ErrV G y cls dx c d → E cls dx y.H
  | _ => False
def bodyEnv (n : Nat) (ρ : Env) : Env := ρ ++ List.replicate (n - ρ.length) none
def dA (n : Nat) (body : SE) : FA := fun ρ => match body (bodyEnv n ρ) with
  | .ok (.rt d k _) => if k = .br then .bad else .ok (d, k)
  | .ok (.nx _) => .ok (.non, .fz)
  | .err c d ρ' => .err c d ρ'
  | _ => .bad
def D.isDrw : D → Bool
  | .drw _ _ _ _ => true
  | _ => false
def pn0 (d0 : D) (ρ : Env) : Option D := match ρ[(0 : Nat)]? with
  | some (some (d1, .pn)) => if d1.isDrw = d0.isDrw then some d1 else none
  | _ => none
def dB (n : Nat) (body : SE) : FB := fun ρ => match ρ with
  | some (d0, _) :: _ => match body (bodyEnv n ρ) with
    | .ok (.rt d k ρ') => if k = .br then .bad else match pn0 d0 ρ' with
      | some d1 => .ok (d, k, d1)
      | none => .bad
    | .ok (.nx ρ') => match pn0 d0 ρ' with
      | some d1 => .ok (.non, .fz, d1)
      | none => .bad
    | .err c d ρ' => match pn0 d0 ρ' with
      | some d1 => .err c d [some (d1, .pn)]
      | none => .bad
    | _ => .bad
  | _ => .bad
theorem Slots.nones {G F H ρ σ o p b} (h : Slots G F H ρ σ o p b) : ∀ n, Slots G F H (ρ ++ List.replicate n Option.none) (σ ++ List.replicate n Option.none) o p b := by
  have key : ∀ n, Slots G F H (List.replicate n Option.none) (List.replicate n Option.none) [] [] [] := fun n => by
    induction n with
    | zero => exact .nil
    | succ n ih => exact .none ih
  intro n
  induction h with
  | nil => exact key n
  | none _ ih => exact .none ih
  | fz r _ ih => exact .fz r ih
  | ow w q _ ih => exact .ow w q ih
  | pn w q _ ih => exact .pn w q ih
  | lk w _ ih => exact .lk w ih
theorem EInv.start {z : Stt} (h : z.o = []) : EInv z z := ⟨fun _ f => .inl f, .refl, rfl, fun a ha => by rw [h] at ha; simp at ha, fun _ h => h, fun _ f => f⟩
section
variable {P : Program} {w : World} {K : PySem.W.Frag} {mg : Str → Option Value} {base : Heap} {G : Gm}
theorem entry {n np : Nat} {vs : List V} {H : Hp} {x : Stt} (h : ArgA G np vs H x) (N : List Str) (hn : N.length = n) :
    ∃ z : Stt, z.sg = L2.start N vs ∧ z.H = H ∧ SInv G z ∧ EInv z z ∧ z.rho = bodyEnv n x.rho ∧ z.F = x.F ∧ z.p = x.p ∧ z.b = x.b := by
  have hl : x.rho.length = vs.length := by rw [h.inv.sl.length, h.sg, List.length_map]
  refine ⟨⟨x.F, bodyEnv n x.rho, L2.start N vs, x.H, x.o, x.p, x.b⟩, rfl, h.H, ⟨?_, h.inv.nd, h.inv.dom, h.inv.tb⟩, EInv.start h.o, rfl, rfl, rfl, rfl⟩
  have s := h.inv.sl.nones (n - vs.length)
  rw [h.sg] at s
  show Slots G x.F x.H (x.rho ++ List.replicate (n - x.rho.length) none) (vs.map some ++ List.replicate (N.length - vs.length) none) x.o x.p x.b
  rw [hl, hn]; exact s
/-- the caller's view -/
def bkS (x y : Stt) : Stt := ⟨y.F, x.rho, x.sg, y.H, [], [], x.b⟩
/-- behind a body: back to the caller's view, where nothing was lent for change -/
theorem backA {np : Nat} {vs : List V} {H : Hp} {x z y : Stt} (h : ArgA G np vs H x) (hp : x.p = []) (hz : z.H = H) (hF : z.F = x.F) (zp : z.p = x.p) (st : SStep G z z y) :
    SInv G (bkS x y) ∧ Ext true x (bkS x y) := by
  have zH : z.H = x.H := hz.trans h.H.symm
  have f1 : ∀ a, x.F a → y.F a := fun a f => st.f1 a (by rw [hF]; exact f)
  have kp : Kept [] x.H y.H := by have := st.ent.kp; rw [zp, hp, zH] at this; exact this
  have f2 : ∀ a, y.F a → x.F a ∨ x.H a = none := fun a f => by have := st.ent.f1 a f; rwa [hF, zH] at this
  have dm : ∀ a, y.H a = none → x.H a = none := fun a q => by have := st.ent.dm a q; rwa [zH] at this
  have sl : Slots G y.F y.H x.rho x.sg [] [] x.b := by
    have := h.inv.sl
    rw [h.o, hp] at this
    refine this.keep f1 (fun a o f e t => kp a o e (by simp) t) fun a ha => ⟨fun f => ?_, fun o e t => kp a o e (by simp) t⟩
    obtain ⟨nf, o, e, _⟩ := this.there a ha
    rcases f2 a f with q | q
    · exact nf q
    · rw [e] at q; cases q
  have nd := h.inv.nd
  rw [h.o, hp] at nd
  exact ⟨⟨sl, nd, st.inv.dom, st.inv.tb⟩, ⟨rfl, kp.mono (by simp), f1, f2, fun a ha => by simp [bkS] at ha, hp.symm, rfl, dm, fun _ d _ e _ => ⟨d, e, fun _ => rfl⟩, fun _ => ⟨rfl, kp, h.o.symm⟩⟩⟩
theorem kd_back {x z y : Stt} {k : Kd} {fv : List Addr} {o p b : List Addr} (ho : o = []) (hz : z.H = x.H) (hx : ∀ a, a ∈ p ∨ a ∈ b → x.H a ≠ none) (h : KdS z k fv) : KdOk x ⟨y.F, y.rho, y.sg, y.H, o, p, b⟩ k fv := by
  subst ho
  cases k with
  | br => exact h.elim
  | fz => exact h
  | ow =>
    refine ⟨h.1, fun a ha => ?_⟩
    have n : x.H a = none := by rw [← hz]; exact h.2 a ha
    exact ⟨n, by simp, fun q => hx a (.inl q) n, fun q => hx a (.inr q) n⟩
theorem def_okA {x qual : Str} {st : Stmt} {f : Addr} {fd : FuncData} {N ps : List Str} {k n : Nat} {body : SE} (F : Fun K x qual st f fd) (S : FnScope N ps (defScope st)) (hn : N.length = n)
    (hb : ∀ (cdv : Value) (A : Around) (outer : List PySem.Env) (s : Shared) (H : Hp) (E : XK) (z : Stt), RoomG k (A.deeper (envOfC qual (defScope st) s.heap.objs.size f cdv)) →
      PSs (cxOf (L2.CX P w) P w K mg base N qual (defScope st) f cdv A outer s H E) (defBody st) (tT G (fun cls d _ H => E cls d H) z body)) :
    FnG P w K mg base (k + 1) f fd ps (spA G ps.length (dA n body)) := by
  refine fnG F S (fun vs H Q E h => ?_) (fun cdv A outer s H vs Q E hr h => ?_)
  · obtain ⟨x, h, _⟩ := h
    have := h.inv.sl.length
    rw [h.sg, List.length_map, h.len] at this
    exact this.symm
  · obtain ⟨x, h, hp, q⟩ := h
    obtain ⟨z, z1, z2, z3, z4, z5, z6, z7, z8⟩ := entry h N hn
    refine ⟨_, hb cdv A outer s H E z hr, z, z1, z2, z3, z4, ?_⟩
    rw [z5]
    unfold dA at q
    have zH : z.H = x.H := z2.trans h.H.symm
    have th : ∀ a, a ∈ ([] : List Addr) ∨ a ∈ x.b → x.H a ≠ none := fun a ha e => by
      rcases ha with z | z
      · simp at z
      · obtain ⟨_, o, e', _⟩ := h.inv.there (.inr (.inr z)); rw [e] at e'; cases e'
    cases e : body (bodyEnv n x.rho) with
    | bad => simp only [e] at q
    | err c d ρ' =>
      simp only [e] at q
      intro y cls dx hy sy hev
      obtain ⟨i1, e1⟩ := backA h hp z2 z6 z7 sy
      exact q (bkS x y) cls dx rfl i1 e1 hev
    | ok fl =>
      simp only [e] at q
      cases fl with
      | bk ρ' => simp only at q
      | ct ρ' => simp only at q
      | nx ρ' =>
        simp only at q
        intro y hy sy
        obtain ⟨i1, e1⟩ := backA h hp z2 z6 z7 sy
        exact q (bkS x y) .non [] rfl ⟨i1, e1, .fz (.atom rfl .nil), rfl, .fz⟩ (by simp)
      | rt d k ρ' =>
        simp only at q
        intro y v fv hy sy w kd
        obtain ⟨i1, e1⟩ := backA h hp z2 z6 z7 sy
        by_cases hk : k = .br
        · simp only [hk] at q; exact q.elim
        · simp only [if_neg hk] at q
          exact q (bkS x y) v fv rfl ⟨i1, e1, w, kd_back (y := bkS x y) rfl zH th kd, .ne hk⟩ hk
theorem Own.len {F : Addr → Prop} {H : Hp} {v : V} {d : D} {fp : List Addr} (h : Own G F H v d fp) (n : fp ≠ []) : fp.length = if d.isDrw = true then 2 else 1 := by
  cases h with
  | fz _ => exact absurd rfl n
  | ow f ob => cases d <;> first | rfl | exact False.elim ob
  | drw _ _ _ _ _ _ => rfl
theorem Slots.noPn {F H ρ σ o p b} (h : Slots G F H ρ σ o p b) (n : NoPn ρ) : p = [] := by
  induction h with
  | nil => rfl
  | none _ ih => exact ih fun s hs => n s (List.mem_cons_of_mem _ hs)
  | fz _ _ ih => exact ih fun s hs => n s (List.mem_cons_of_mem _ hs)
  | ow _ _ _ ih => exact ih fun s hs => n s (List.mem_cons_of_mem _ hs)
  | pn _ _ _ _ => exact absurd rfl (n _ List.mem_cons_self _)
  | lk _ _ ih => exact ih fun s hs => n s (List.mem_cons_of_mem _ hs)
def bkB (x y : Stt) (d1 : D) (r : Env) : Stt := ⟨y.F, some (d1, .pn) :: r, x.sg, y.H, [], x.p, x.b⟩
theorem backB {np n : Nat} {vs : List V} {H : Hp} {x z y : Stt} {d0 d1 : D} {r : Env} (h : ArgA G np vs H x) (hr : x.rho = some (d0, .pn) :: r) (nr : NoPn r) (hz : z.H = H) (hF : z.F = x.F) (zp : z.p = x.p) (zρ : z.rho = bodyEnv n x.rho) (zσ : z.sg[(0 : Nat)]? = x.sg[(0 : Nat)]?) (st : SStep G z z y) (hd : pn0 d0 y.rho = some d1) :
    SInv G (bkB x y d1 r) ∧ Ext false x (bkB x y d1 r) := by
  have zH : z.H = x.H := hz.trans h.H.symm
  have f1 : ∀ a, x.F a → y.F a := fun a f => st.f1 a (by rw [hF]; exact f)
  have kp : Kept x.p x.H y.H := by have := st.ent.kp; rw [zp, zH] at this; exact this
  have f2 : ∀ a, y.F a → x.F a ∨ x.H a = none := fun a f => by have := st.ent.f1 a f; rwa [hF, zH] at this
  have dm : ∀ a, y.H a = none → x.H a = none := fun a q => by have := st.ent.dm a q; rwa [zH] at this
  have e0 : z.rho[(0 : Nat)]? = some (some (d0, .pn)) := by rw [zρ, hr]; rfl
  obtain ⟨d1', e1, _, s1⟩ := st.lk 0 d0 .pn e0 (.inr rfl)
  have ed : d1' = d1 ∧ d1.isDrw = d0.isDrw := by
    unfold pn0 at hd
    rw [e1] at hd
    simp only at hd
    split at hd
    · rename_i hh; cases hd; exact ⟨rfl, hh⟩
    · cases hd
  obtain ⟨rfl, hdr⟩ := ed
  have hs := h.inv.sl
  rw [hr, h.o] at hs
  have hx := h.inv
  obtain ⟨xF, xρ, xσ, xH, xo, xp, xb⟩ := x
  obtain ⟨yF, yρ, yσ, yH, yo, yp, yb⟩ := y
  simp only at *
  subst hr
  cases hs with
  | @pn v _ fp ρ σ _ p _ w n0 hs =>
  have pe : p = [] := hs.noPn nr
  subst pe
  have ysl := st.inv.sl
  simp only at ysl
  have yp0 : yp = fp := by have := st.ent.p1; simp only at this; rw [this, zp]; simp
  cases ysl with
  | nil => simp at e1
  | none _ => simp at e1
  | fz _ _ => simp at e1
  | ow _ _ _ => simp at e1
  | lk _ _ => simp at e1
  | @pn v' d' fp' ρt σt _ pt _ w' n' hst =>
    simp only [List.getElem?_cons_zero, Option.some.injEq, Prod.mk.injEq, and_true] at e1
    subst e1
    have ev : v' = v := by
      rw [zσ] at s1
      simpa using s1
    subst ev
    have efp : fp' = fp := by
      have l1 := w.len n0
      have l2 := w'.len n'
      rw [hdr] at l2
      have : fp'.length = fp.length := by rw [l1, l2]
      have h3 : fp' ++ pt = fp := yp0
      have h4 := congrArg (List.take fp'.length) h3
      rw [List.take_left, this, List.take_length] at h4
      exact h4
    subst efp
    have nd := hx.nd
    have kf : KeptF xF xH yH := fun a o f e t => kp a o e (fun q => by
      simp only [List.append_nil] at q
      exact (w.there a q).1 f) t
    have disb : ∀ a ∈ xb, a ∉ fp' := fun a ha q => by
      have : (xo ++ ((fp' ++ []) ++ xb)).Nodup := nd
      simp only [List.nodup_append, List.mem_append] at this
      exact this.2.1.2.2 a (.inl q) a ha rfl
    have ho : xo = [] := h.o
    refine ⟨⟨.pn w' n' (hs.keep f1 kf fun a ha => ?_), ?_, st.inv.dom, st.inv.tb⟩, ⟨rfl, ?_, f1, f2, fun a ha => by simp [bkB] at ha, rfl, rfl, dm, fun j d fl e hf => ?_, by simp⟩⟩
    · rcases ha with q | q | q
      · simp at q
      · simp at q
      · refine ⟨fun f => ?_, fun o e t => kp a o e (fun z => disb a q (by simpa using z)) t⟩
        obtain ⟨nf, o, e, _⟩ := hs.there a (.inr (.inr q))
        rcases f2 a f with c | c
        · exact nf c
        · rw [e] at c; cases c
    · simp only [bkB]; rw [ho] at nd; exact nd
    · simp only [ho, List.nil_append]; exact kp
    · cases j with
      | zero =>
        simp only [List.getElem?_cons_zero, Option.some.injEq, Prod.mk.injEq] at e
        obtain ⟨rfl, rfl⟩ := e
        exact ⟨d', rfl, fun q => by cases q⟩
      | succ j =>
        refine ⟨d, ?_, fun _ => rfl⟩
        simp only [bkB, List.getElem?_cons_succ] at e ⊢
        exact e
theorem def_okB {x qual : Str} {st : Stmt} {f : Addr} {fd : FuncData} {N ps : List Str} {k n : Nat} {body : SE} (F : Fun K x qual st f fd) (S : FnScope N ps (defScope st)) (hn : N.length = n)
    (hb : ∀ (cdv : Value) (A : Around) (outer : List PySem.Env) (s : Shared) (H : Hp) (E : XK) (z : Stt), RoomG k (A.deeper (envOfC qual (defScope st) s.heap.objs.size f cdv)) →
      PSs (cxOf (L2.CX P w) P w K mg base N qual (defScope st) f cdv A outer s H E) (defBody st) (tT G (fun cls d _ H => E cls d H) z body)) :
    FnG P w K mg base (k + 1) f fd ps (spB G ps.length (dB n body)) := by
  refine fnG F S (fun vs H Q E h => ?_) (fun cdv A outer s H vs Q E hr h => ?_)
  · obtain ⟨x, _, _, h, _⟩ := h
    have := h.inv.sl.length
    rw [h.sg, List.length_map, h.len] at this
    exact this.symm
  · obtain ⟨x, d0, r, h, hρ, nr, q⟩ := h
    obtain ⟨z, z1, z2, z3, z4, z5, z6, z7, z8⟩ := entry h N hn
    refine ⟨_, hb cdv A outer s H E z hr, z, z1, z2, z3, z4, ?_⟩
    rw [z5]
    have zσ : z.sg[(0 : Nat)]? = x.sg[(0 : Nat)]? := by
      rw [z1, h.sg]
      have hl : x.rho.length = vs.length := by rw [h.inv.sl.length, h.sg, List.length_map]
      unfold L2.start
      cases vs with
      | nil => rw [hρ] at hl; simp at hl
      | cons v vs => rfl
    unfold dB at q
    rw [hρ] at q
    simp only at q
    rw [← hρ] at q
    have zH : z.H = x.H := z2.trans h.H.symm
    have th : ∀ a, a ∈ x.p ∨ a ∈ x.b → x.H a ≠ none := fun a ha e => by
      obtain ⟨_, o, e', _⟩ := h.inv.there (.inr ha); rw [e] at e'; cases e'
    cases e : body (bodyEnv n x.rho) with
    | bad => simp only [e] at q
    | err c d ρ' =>
      simp only [e] at q
      intro y cls dx hy sy hev
      cases hp : pn0 d0 ρ' with
      | none => simp only [hp] at q
      | some d1 =>
        simp only [hp] at q
        obtain ⟨d1', e1', q⟩ := q
        cases e1'
        obtain ⟨i1, e1⟩ := backB (n := n) h hρ nr z2 z6 z7 z5 zσ sy (by rw [hy]; exact hp)
        exact q (bkB x y d1 r) cls dx rfl i1 e1 hev
    | ok fl =>
      simp only [e] at q
      cases fl with
      | bk ρ' => simp only at q
      | ct ρ' => simp only at q
      | nx ρ' =>
        simp only at q
        intro y hy sy
        cases hp : pn0 d0 ρ' with
        | none => simp only [hp] at q
        | some d1 =>
          simp only [hp] at q
          obtain ⟨i1, e1⟩ := backB (n := n) h hρ nr z2 z6 z7 z5 zσ sy (by rw [hy]; exact hp)
          exact q (bkB x y d1 r) .non [] rfl ⟨i1, e1, .fz (.atom rfl .nil), rfl, .fz⟩ (by simp)
      | rt d k ρ' =>
        simp only at q
        intro y v fv hy sy w kd
        by_cases hk : k = .br
        · simp only [hk] at q; exact q.elim
        · simp only [if_neg hk] at q
          cases hp : pn0 d0 ρ' with
          | none => simp only [hp] at q
          | some d1 =>
            simp only [hp] at q
            obtain ⟨i1, e1⟩ := backB (n := n) h hρ nr z2 z6 z7 z5 zσ sy (by rw [hy]; exact hp)
            exact q (bkB x y d1 r) v fv rfl ⟨i1, e1, w, kd_back (y := bkB x y d1 r) rfl zH th kd, .ne hk⟩ hk
end
end VL
/-! VL11: calls of defs. -/
namespace VL
open PySem PySem.Spec PyProof.Rows L2

theorem Own.uniq {G : Gm} {F : Addr → Prop} {H : Hp} {v : V} {d : D} {fp fp' : List Addr} (w : Own G F H v d fp) (w' : Own G F H v d fp') : fp = fp' := by
  have key : ∀ {a : Addr} {d : D}, ¬ F a → Objs G F H a d → Rep G F H [.ref a] [d] → False := fun f ob r => by
    cases r <;> first | (exact f ‹_›) | (exact False.elim ob) | (rename_i h _; simp [atomD] at h)
  cases w with
  | fz r =>
    cases w' with
    | fz _ => rfl
    | ow f ob => exact (key f ob r).elim
    | drw f1 f2 f3 _ _ q => cases r; rename_i h _; simp [atomD] at h
  | ow f ob =>
    cases w' with
    | fz r => exact (key f ob r).elim
    | ow _ _ => rfl
    | drw _ _ _ _ _ _ => exact False.elim ob
  | drw f1 f2 f3 _ _ q =>
    cases w' with
    | fz r => cases r; rename_i h _; simp [atomD] at h
    | ow _ ob => exact False.elim ob
    | drw _ _ _ _ _ q' =>
      have e := q.1.symm.trans q'.1
      simp at e
      rw [e.1]
theorem Slots.ports {G F H ρ σ o p b} (h : Slots G F H ρ σ o p b) : (o ++ (p ++ b)).Nodup → ∃ port : Nat → List Addr,
    (∀ (i : Nat) (d : D) (fl : Fl), ρ[i]? = some (some (d, fl)) → ∃ v, σ[i]? = some (some v) ∧ Own G F H v d (port i)) ∧ (∀ i j, i ≠ j → ∀ a ∈ port i, a ∉ port j) ∧ ∀ i, ∀ a ∈ port i, a ∈ o ∨ a ∈ p ∨ a ∈ b := by
  -- one more slot in front
  have step : ∀ {x : Option (D × Fl)} {y : Option V} {ρ : Env} {σ : St} {o p b o' p' b' fp : List Addr} {port : Nat → List Addr},
      (∀ d fl, x = some (d, fl) → ∃ v, y = some v ∧ Own G F H v d fp) →
      (∀ a ∈ fp, a ∈ o' ∨ a ∈ p' ∨ a ∈ b') → (∀ a ∈ fp, ¬ (a ∈ o ∨ a ∈ p ∨ a ∈ b)) → (∀ a, a ∈ o ∨ a ∈ p ∨ a ∈ b → a ∈ o' ∨ a ∈ p' ∨ a ∈ b') →
      ((∀ (i : Nat) (d : D) (fl : Fl), ρ[i]? = some (some (d, fl)) → ∃ v, σ[i]? = some (some v) ∧ Own G F H v d (port i)) ∧ (∀ i j, i ≠ j → ∀ a ∈ port i, a ∉ port j) ∧ ∀ i, ∀ a ∈ port i, a ∈ o ∨ a ∈ p ∨ a ∈ b) →
      ∃ port : Nat → List Addr, (∀ (i : Nat) (d : D) (fl : Fl), (x :: ρ)[i]? = some (some (d, fl)) → ∃ v, (y :: σ)[i]? = some (some v) ∧ Own G F H v d (port i)) ∧ (∀ i j, i ≠ j → ∀ a ∈ port i, a ∉ port j) ∧ ∀ i, ∀ a ∈ port i, a ∈ o' ∨ a ∈ p' ∨ a ∈ b' := by
    intro x y ρ σ o p b o' p' b' fp port hx h1 h2 h3 ⟨p1, p2, p3⟩
    refine ⟨fun i => match i with | 0 => fp | i + 1 => port i, fun i d fl e => ?_, fun i j ne a ha hb => ?_, fun i a ha => ?_⟩
    · cases i with
      | zero => simp at e; obtain ⟨v, e1, w⟩ := hx d fl e; exact ⟨v, by simp [e1], w⟩
      | succ i => simpa using p1 i d fl (by simpa using e)
    · cases i with
      | zero =>
        cases j with
        | zero => exact ne rfl
        | succ j => exact h2 a ha (p3 j a hb)
      | succ i =>
        cases j with
        | zero => exact h2 a hb (p3 i a ha)
        | succ j => exact p2 i j (fun e => ne (by rw [e])) a ha hb
    · cases i with
      | zero => exact h1 a ha
      | succ i => exact h3 a (p3 i a ha)
  induction h with
  | nil => exact fun _ => ⟨fun _ => [], fun i d fl e => by simp at e, fun _ _ _ a ha => by simp at ha, fun _ a ha => by simp at ha⟩
  | none _ ih =>
    intro nd
    obtain ⟨port, q⟩ := ih nd
    exact step (fp := []) (fun _ _ e => by cases e) (fun a ha => by simp at ha) (fun a ha => by simp at ha) (fun _ h => h) q
  | fz r _ ih =>
    intro nd
    obtain ⟨port, q⟩ := ih nd
    exact step (fp := []) (fun _ _ e => by cases e; exact ⟨_, rfl, .fz r⟩) (fun a ha => by simp at ha) (fun a ha => by simp at ha) (fun _ h => h) q
  | @ow v d fp ρ σ o p b w n _ ih =>
    intro nd
    rw [List.append_assoc, List.nodup_append] at nd
    obtain ⟨port, q⟩ := ih nd.2.1
    refine step (fp := fp) (fun _ _ e => by cases e; exact ⟨_, rfl, w⟩) (fun a ha => .inl (by simp [ha])) (fun a ha z => nd.2.2 a ha a (by simpa using z) rfl) (fun a z => ?_) q
    rcases z with z | z | z
    · exact .inl (by simp [z])
    · exact .inr (.inl z)
    · exact .inr (.inr z)
  | @pn v d fp ρ σ o p b w n _ ih =>
    intro nd
    have nd1 : (o ++ (fp ++ (p ++ b))).Nodup := by rwa [List.append_assoc] at nd
    have nd2 := (List.nodup_append.mp nd1)
    have nd3 := (List.nodup_append.mp nd2.2.1)
    obtain ⟨port, q⟩ := ih (List.nodup_append.mpr ⟨nd2.1, nd3.2.1, fun a ha c hc => nd2.2.2 a ha c (by simp at hc ⊢; exact .inr hc)⟩)
    refine step (fp := fp) (fun _ _ e => by cases e; exact ⟨_, rfl, w⟩) (fun a ha => .inr (.inl (by simp [ha]))) (fun a ha z => ?_) (fun a z => ?_) q
    · rcases z with z | z | z
      · exact nd2.2.2 a z a (by simp [ha]) rfl
      · exact nd3.2.2 a ha a (by simp [z]) rfl
      · exact nd3.2.2 a ha a (by simp [z]) rfl
    · rcases z with z | z | z
      · exact .inl z
      · exact .inr (.inl (by simp [z]))
      · exact .inr (.inr z)
  | @lk v d fp ρ σ o p b w _ ih =>
    intro nd
    have nd2 := (List.nodup_append.mp nd)
    have nd3 := (List.nodup_append.mp nd2.2.1)
    have nd4 := (List.nodup_append.mp nd3.2.1)
    obtain ⟨port, q⟩ := ih (List.nodup_append.mpr ⟨nd2.1, List.nodup_append.mpr ⟨nd3.1, nd4.2.1, fun a ha c hc => nd3.2.2 a ha c (by simp [hc])⟩, fun a ha c hc => nd2.2.2 a ha c (by
        rcases List.mem_append.mp hc with q | q
        · simp [q]
        · simp [q])⟩)
    refine step (fp := fp) (fun _ _ e => by cases e; exact ⟨_, rfl, w⟩) (fun a ha => .inr (.inr (by simp [ha]))) (fun a ha z => ?_) (fun a z => ?_) q
    · rcases z with z | z | z
      · exact nd2.2.2 a z a (by simp [ha]) rfl
      · exact nd3.2.2 a z a (by simp [ha]) rfl
      · exact nd4.2.2 a ha a z rfl
    · rcases z with z | z | z
      · exact .inl z
      · exact .inr (.inl z)
      · exact .inr (.inr (by simp [z]))

/-! ### entering a def -/
def argS (dk : D × Kd) : Slot := some (dk.1, if dk.2 = .br then .lk else .fz)
/-- arguments that can be handed on: at most one is lent; what is new can be frozen -/
def argsOk (l : List (D × Kd)) : Bool := decide ((l.filter fun dk => decide (dk.2 = .br)).length ≤ 1) && l.all fun dk => decide (dk.2 = .br) || dk.1.fzOk
theorem AOk.enter {G : Gm} {x y : Stt} {vs : List V} {l : List (D × Kd)} (h : AOk G x y vs l) (h1 : (l.filter fun dk => decide (dk.2 = .br)).length ≤ 1) (h2 : (l.all fun dk => decide (dk.2 = .br) || dk.1.fzOk) = true) :
    ∃ fs b : List Addr, (∀ a ∈ fs, ((∃ o, y.H a = some o ∧ isTbl o = false) ∧ a ∉ y.o ∧ a ∉ y.p ∧ a ∉ y.b) ∧ x.H a = none) ∧ (∀ a ∈ b, a ∈ y.o ∨ a ∈ y.p ∨ a ∈ y.b) ∧ b.Nodup ∧
      (∀ a ∈ b, ∃ dk v fv, dk ∈ l ∧ dk.2 = .br ∧ Src y v dk.1 .br ∧ Own G y.F y.H v dk.1 fv ∧ a ∈ fv) ∧
      Slots G (fun a => y.F a ∨ a ∈ fs) y.H (l.map argS) (vs.map some) [] [] b := by
  induction h with
  | nil => exact ⟨[], [], by simp, by simp, by simp, by simp, .nil⟩
  | @cons v d k fv vs dks w kd sr r ih =>
    simp only [List.all_cons, Bool.and_eq_true, Bool.or_eq_true, decide_eq_true_eq] at h2
    cases k with
    | br =>
      have h1' : (dks.filter fun dk => decide (dk.2 = Kd.br)) = [] := by
        simp only [List.filter_cons, decide_true, if_true, List.length_cons] at h1
        exact List.eq_nil_of_length_eq_zero (by omega)
      obtain ⟨fs, b, q1, q2, q3, q4, q5⟩ := ih (by rw [h1']; simp) h2.2
      have hb : b = [] := by
        cases b with
        | nil => rfl
        | cons a b =>
          obtain ⟨dk, _, _, hm, he, _⟩ := q4 a List.mem_cons_self
          have : dk ∈ dks.filter fun dk => decide (dk.2 = Kd.br) := List.mem_filter.mpr ⟨hm, by simp [he]⟩
          rw [h1'] at this; simp at this
      subst hb
      refine ⟨fs, fv ++ [], q1, fun a ha => kd a (by simpa using ha), by simpa using w.nodup, fun a ha => ⟨(d, .br), v, fv, List.mem_cons_self, rfl, sr, w, by simpa using ha⟩, ?_⟩
      refine .lk (w.keep (fun _ h => .inl h) .refl fun a ha => ⟨fun f => ?_, fun o e _ => e⟩) q5
      rcases f with f | f
      · exact (w.there a ha).1 f
      · obtain ⟨⟨_, n1, n2, n3⟩, _⟩ := q1 a f
        rcases kd a ha with z | z | z
        · exact n1 z
        · exact n2 z
        · exact n3 z
    | fz =>
      obtain ⟨fs, b, q1, q2, q3, q4, q5⟩ := ih (by simpa [List.filter_cons] using h1) h2.2
      obtain rfl : fv = [] := kd
      refine ⟨fs, b, q1, q2, q3, fun a ha => ?_, .fz (w.rep (by simp) (fun _ h => .inl h) ?_) q5⟩
      · obtain ⟨dk, v', fv', m, r⟩ := q4 a ha
        exact ⟨dk, v', fv', List.mem_cons_of_mem _ m, r⟩
      · rcases h2.1 with z | z
        · cases z
        · exact z
    | ow =>
      obtain ⟨fs, b, q1, q2, q3, q4, q5⟩ := ih (by simpa [List.filter_cons] using h1) h2.2
      refine ⟨fv ++ fs, b, fun a ha => ?_, q2, q3, fun a ha => ?_, .fz (w.rep (fun a ha => .inr (by simp [ha])) (fun _ h => .inl h) ?_) (q5.keep (fun a h => ?_) .refl fun a ha => ⟨fun f => ?_, fun o e _ => e⟩)⟩
      · rcases List.mem_append.mp ha with q | q
        · exact ⟨⟨(w.there a q).2, (kd.2 a q).2⟩, (kd.2 a q).1⟩
        · exact q1 a q
      · obtain ⟨dk, v', fv', m, r⟩ := q4 a ha
        exact ⟨dk, v', fv', List.mem_cons_of_mem _ m, r⟩
      · rcases h2.1 with z | z
        · cases z
        · exact z
      · rcases h with h | h
        · exact .inl h
        · exact .inr (by simp [h])
      · rcases ha with z | z | z
        · simp at z
        · simp at z
        · rcases f with f | f
          · exact (q5.there a (.inr (.inr z))).1 (.inl f)
          · rcases List.mem_append.mp f with f | f
            · have n := (kd.2 a f).2
              rcases q2 a z with c | c | c
              · exact n.1 c
              · exact n.2.1 c
              · exact n.2.2 c
            · exact (q5.there a (.inr (.inr z))).1 (.inr f)
/-- the callee's state, nothing being lent for change -/
theorem enterA {G : Gm} {s : Bool} {x y : Stt} {vs : List V} {l : List (D × Kd)} (hy : SInv G y) (h : AOk G x y vs l) (hl : argsOk l = true) :
    ∃ c : Stt, ArgA G l.length vs y.H c ∧ c.rho = l.map argS ∧ c.p = [] ∧ (∀ a, y.F a → c.F a) ∧ ∀ a, c.F a → y.F a ∨ (x.H a = none ∧ a ∉ y.o ∧ a ∉ y.p ∧ a ∉ y.b) := by
  simp only [argsOk, Bool.and_eq_true, decide_eq_true_eq] at hl
  obtain ⟨fs, b, q1, q2, q3, q4, q5⟩ := h.enter hl.1 hl.2
  refine ⟨⟨fun a => y.F a ∨ a ∈ fs, l.map argS, vs.map some, y.H, [], [], b⟩, ⟨rfl, rfl, ⟨q5, by simpa using q3, fun a f => ?_, hy.tb⟩, by simp, rfl⟩, rfl, rfl, fun _ h => .inl h, fun a f => ?_⟩
  · rcases f with f | f
    · exact hy.dom a f
    · exact (q1 a f).1.1
  · rcases f with f | f
    · exact .inl f
    · exact .inr ⟨(q1 a f).2, (q1 a f).1.2⟩
theorem leaveA {G : Gm} {s : Bool} {x y c u : Stt} (hx : SInv G x) (hy : SInv G y) (e : Ext s x y) (hcH : c.H = y.H) (f1 : ∀ a, y.F a → c.F a) (f2 : ∀ a, c.F a → y.F a ∨ (x.H a = none ∧ a ∉ y.o ∧ a ∉ y.p ∧ a ∉ y.b)) (iu : SInv G u) (eu : Ext true c u) :
    SInv G { y with F := u.F, H := u.H } ∧ Ext s x { y with F := u.F, H := u.H } := by
  obtain ⟨_, ku, _⟩ := eu.st rfl
  rw [hcH] at ku
  have hf : ∀ a, y.F a → u.F a := fun a f => eu.f1 a (f1 a f)
  have hdm : ∀ a, u.H a = none → y.H a = none := fun a q => by have := eu.dm a q; rwa [hcH] at this
  have inv : SInv G { y with F := u.F, H := u.H } := by
    refine ⟨hy.sl.keep hf (fun a o f e t => ku a o e (by simp) t) fun a ha => ⟨fun f => ?_, fun o e t => ku a o e (by simp) t⟩, hy.nd, iu.dom, iu.tb⟩
    obtain ⟨nf, o, e', _⟩ := hy.sl.there a ha
    rcases eu.f2 a f with q | q
    · rcases f2 a q with q | q
      · exact nf q
      · rcases ha with z | z | z
        · exact q.2.1 z
        · exact q.2.2.1 z
        · exact q.2.2.2 z
    · rw [hcH, e'] at q; cases q
  refine ⟨inv, ⟨e.sg, e.kp.trans (m' := []) ku (by simp), fun a f => hf a (e.f1 a f), fun a f => ?_, e.o1, e.p1, e.b1, fun a q => e.dm a (hdm a q), e.lk, fun q => ?_⟩⟩
  · rcases eu.f2 a f with q | q
    · rcases f2 a q with q | q
      · exact e.f2 a q
      · exact .inr q.1
    · rw [hcH] at q; exact .inr (e.dm a q)
  · obtain ⟨r1, k1, o1⟩ := e.st q
    exact ⟨r1, k1.trans ku (by simp), o1⟩
theorem leaveA_post {G : Gm} {s : Bool} {x y c u : Stt} {v : V} {d : D} {k : Kd} {fv : List Addr} (hx : SInv G x) (hy : SInv G y) (e : Ext s x y) (hcH : c.H = y.H) (f1 : ∀ a, y.F a → c.F a) (f2 : ∀ a, c.F a → y.F a ∨ (x.H a = none ∧ a ∉ y.o ∧ a ∉ y.p ∧ a ∉ y.b)) (P : EPost G true c u v d k fv) (hk : k ≠ .br) :
    EPost G s x { y with F := u.F, H := u.H } v d k fv := by
  obtain ⟨i1, e1⟩ := leaveA hx hy e hcH f1 f2 P.inv P.ext
  refine ⟨i1, e1, P.own, ?_, .ne hk⟩
  have kd := P.kd
  cases k with
  | br => exact absurd rfl hk
  | fz => exact kd
  | ow =>
    refine ⟨kd.1, fun a ha => ?_⟩
    have n : y.H a = none := by rw [← hcH]; exact (kd.2 a ha).1
    refine ⟨e.dm a n, fun z => ?_, fun z => ?_, fun z => ?_⟩
    · obtain ⟨_, o, e', _⟩ := hy.there (.inl z); rw [n] at e'; cases e'
    · obtain ⟨_, o, e', _⟩ := hy.there (.inr (.inl z)); rw [n] at e'; cases e'
    · obtain ⟨_, o, e', _⟩ := hy.there (.inr (.inr z)); rw [n] at e'; cases e'
def xCall (m : FA) (f : AE) : EE := fun ρ => do
  let (l, ρ1) ← f ρ
  if argsOk l = true then
    match m (l.map argS) with
    | .ok (d, k) => if k = .br then .bad else .ok (d, k, ρ1)
    | .err c d _ => .err c d ρ1
    | .bad => .bad
  else .bad
section
variable {X : Cx} {G : Gm} {W : WX}
theorem tS_call {np : Nat} {m : FA} {s : Bool} {f : AE} {σ H Q} (h : tS G W s (xCall m f) σ H Q) (hn : ∀ ρ l ρ1, f ρ = .ok (l, ρ1) → l.length = np) : tA G W s f σ H fun vs H1 => spA G np m vs H1 Q (WE W σ) := by
  obtain ⟨x, rfl, rfl, hx, q⟩ := h
  refine ⟨x, rfl, rfl, hx, ?_⟩
  unfold xCall at q
  cases e : f x.rho with
  | bad => simp only [e, Res.bind_bad] at q
  | err c d ρ' => simp only [e, Res.bind_err] at q; exact q
  | ok r =>
    obtain ⟨l, ρ1⟩ := r
    simp only [e, Res.bind_ok] at q
    intro y vs hρ iy ey ay
    by_cases hl : argsOk l = true
    · rw [if_pos hl] at q
      obtain ⟨c, hc, hcρ, hcp, f1, f2⟩ := enterA (s := s) iy ay hl
      rw [hn _ _ _ e] at hc
      refine ⟨c, hc, hcp, ?_⟩
      rw [hcρ]
      cases e2 : m (l.map argS) with
      | bad => simp only [e2] at q
      | err c' d ρ' =>
        simp only [e2] at q
        intro u cls dx hu iu eu hev
        obtain ⟨i1, e1⟩ := leaveA hx iy ey hc.H f1 f2 iu eu
        exact q { y with F := u.F, H := u.H } cls dx hρ i1 e1 hev
      | ok r2 =>
        obtain ⟨d, k⟩ := r2
        simp only [e2] at q
        intro u v fv hu P hk
        rw [if_neg hk] at q
        exact q { y with F := u.F, H := u.H } v fv hρ (leaveA_post hx iy ey hc.H f1 f2 P hk)
    · rw [if_neg hl] at q; exact q.elim
/-- as many arguments as written -/
def ALen (n : Nat) (f : AE) : Prop := ∀ ρ l ρ1, f ρ = .ok (l, ρ1) → l.length = n
theorem alen_nil : ALen 0 aN := fun ρ l ρ1 h => by cases h; rfl
theorem alen_cons {n : Nat} {s : Bool} {f : EE} {g : AE} (h : ALen n g) : ALen (n + 1) (aC s f g) := fun ρ l ρ1 e => by
  unfold aC at e
  cases h1 : f ρ with
  | bad => simp [h1] at e
  | err c d ρ' => simp [h1] at e
  | ok r =>
    obtain ⟨d, k, ρ2⟩ := r
    simp only [h1, Res.bind_ok] at e
    split at e
    · cases e
    · cases h2 : g ρ2 with
      | bad => simp [h2] at e
      | err c d ρ' => simp [h2] at e
      | ok r2 =>
        obtain ⟨l2, ρ3⟩ := r2
        simp only [h2, Res.bind_ok, Res.pure_ok, Res.ok.injEq, Prod.mk.injEq] at e
        obtain ⟨rfl, _⟩ := e
        simp [h _ _ _ h2]
theorem r_call {x : Str} {p pos : Pos} {e : Expr} {es : List Expr} {k : Nat} {fa : Addr} {fd : FuncData} {ps : List Str} {m : FA} {s : Bool} {f : AE} (tk : Takes X W) (F : FnG X.prog X.w X.K X.mg X.base k fa fd ps (spA G ps.length m)) (hr : RoomG k X.A) (hg : Gl X x) (hm : X.mg x = some (.ref fa)) (hk : PySem.W.keepIn X.K (.ref fa) = true) (hb : Binds X.K fd ps [])
    (ha : PA X (e :: es) (tA G W s f)) (hn : ALen ps.length f) (hdb : (x == ("__debug__" : Str)) = false := by decide) (he : starEach (e :: es) X.env = (false, eval e X.env) :: starEach es X.env := by rfl) (hpl : (backTo pos (starEach es X.env)).any (·.1) = false := by rfl) :
    PE X (.Call (.Name x p) (e :: es) [] pos) (tS G W s (xCall m f)) :=
  PE.of (callG F hr hg hm hk hb (fun σ => passAt tk σ) ha hdb he hpl) fun σ H Q h => tS_call h hn
end
end VL
/-! VL12: calls of defs that change their first argument. -/
namespace VL
open PySem PySem.Spec PyProof.Rows L2

def ownFl (fl : Fl) : Bool := decide (fl = .ow) || decide (fl = .pn)
def callMK (m : FB) (i : Nat) (l : List (D × Kd)) (ρ1 : Env) : Res (D × Kd × Env) :=
  match ρ1[i]? with
  | some (some (d0, fl1)) =>
    if ownFl fl1 = true ∧ argsOk l = true ∧ (l.all fun dk => decide (dk.2 ≠ .br) || decide (dk.1.isDrw ≠ d0.isDrw)) = true then
      match m (some (d0, .pn) :: l.map argS) with
      | .ok (d, k, d1) => if k = .br then .bad else .ok (d, k, ρ1.set i (some (d1, fl1)))
      | .err c d ρ' => match err1 ρ' with
        | some d1 => .err c d (ρ1.set i (some (d1, fl1)))
        | none => .bad
      | _ => .bad
    else .bad
  | _ => .bad
def xCallM (m : FB) (i : Nat) (f : AE) : EE := fun ρ => match ρ[i]? with
  | some (some (_, fl)) => if ownFl fl = true then (do
      let (l, ρ1) ← f ρ
      callMK m i l ρ1) else .bad
  | _ => .bad
theorem noPn_args (l : List (D × Kd)) : NoPn (l.map argS) := fun s hs d e => by
  obtain ⟨dk, _, rfl⟩ := List.mem_map.mp hs
  unfold argS at e
  split at e <;> cases e
theorem ownFl_iff {fl : Fl} (h : ownFl fl = true) : fl = .ow ∨ fl = .pn := by
  cases fl <;> simp [ownFl] at h <;> simp
theorem enterB {G : Gm} {x y : Stt} {vs : List V} {l : List (D × Kd)} {i : Nat} {v0 : V} {d0 : D} {fl : Fl} (hy : SInv G y) (h : AOk G x y vs l) (hl : argsOk l = true) (hi : y.rho[i]? = some (some (d0, fl))) (hfl : fl = .ow ∨ fl = .pn) (hv : y.sg[i]? = some (some v0))
    (hd : (l.all fun dk => decide (dk.2 ≠ .br) || decide (dk.1.isDrw ≠ d0.isDrw)) = true) :
    ∃ (c : Stt) (fp : List Addr), ArgA G (l.length + 1) (v0 :: vs) y.H c ∧ c.rho = some (d0, .pn) :: l.map argS ∧ c.p = fp ∧ (∀ a, y.F a → c.F a) ∧ (∀ a, c.F a → y.F a ∨ (x.H a = none ∧ a ∉ y.o ∧ a ∉ y.p ∧ a ∉ y.b)) ∧
      Own G y.F y.H v0 d0 fp ∧ fp ≠ [] ∧ (∀ a ∈ fp, a ∈ y.o ∨ a ∈ y.p) := by
  simp only [argsOk, Bool.and_eq_true, decide_eq_true_eq] at hl
  obtain ⟨fs, b, q1, q2, q3, q4, q5⟩ := h.enter hl.1 hl.2
  obtain ⟨v0', fp, e1, w, _, n0, hm⟩ := hy.sl.get hi
  rw [hv] at e1; cases e1
  have n0 := n0 hfl
  obtain ⟨port, p1, p2, p3⟩ := hy.sl.ports hy.nd
  have pe : ∀ {j : Nat} {d : D} {flj : Fl} {v : V} {fv : List Addr}, y.rho[j]? = some (some (d, flj)) → y.sg[j]? = some (some v) → Own G y.F y.H v d fv → fv = port j := by
    intro j d flj v fv e2 e3 w2
    obtain ⟨v', e4, w3⟩ := p1 j d flj e2
    rw [e3] at e4; cases e4
    exact w2.uniq w3
  have hfp := pe hi hv w
  have dis : ∀ a ∈ fp, a ∉ b := fun a ha hb => by
    obtain ⟨dk, v, fv, m, hbr, sr, wv, hav⟩ := q4 a hb
    obtain ⟨j, flj, s1, s2, s3⟩ := sr rfl
    have hj : i ≠ j := fun e => by
      subst e
      rw [hi] at s1; cases s1
      have := List.all_eq_true.mp hd dk m
      simp [hbr] at this
    have := pe s1 s2 wv
    rw [this] at hav
    rw [hfp] at ha
    exact p2 i j hj a ha hav
  have nin : ∀ a ∈ fp, a ∉ fs := fun a ha hf => by
    obtain ⟨⟨_, n1, n2, n3⟩, _⟩ := q1 a hf
    rcases hm a ha with z | z | z
    · exact n1 z.2
    · exact n2 z.2
    · exact n3 z.2
  refine ⟨⟨fun a => y.F a ∨ a ∈ fs, some (d0, .pn) :: l.map argS, (v0 :: vs).map some, y.H, [], fp ++ [], b⟩, fp, ⟨rfl, rfl, ⟨.pn (w.keep (fun _ h => .inl h) .refl fun a ha => ⟨fun f => ?_, fun o e _ => e⟩) n0 q5, ?_, fun a f => ?_, hy.tb⟩, by simp, rfl⟩, rfl, by simp, fun _ h => .inl h, fun a f => ?_, w, n0, fun a ha => ?_⟩
  · rcases f with f | f
    · exact (w.there a ha).1 f
    · exact nin a ha f
  · simp only [List.nil_append, List.append_nil]
    exact List.nodup_append.mpr ⟨w.nodup, q3, fun a ha c hc e => dis a ha (e ▸ hc)⟩
  · rcases f with f | f
    · exact hy.dom a f
    · exact (q1 a f).1.1
  · rcases f with f | f
    · exact .inl f
    · exact .inr ⟨(q1 a f).2, (q1 a f).1.2⟩
  · rcases hm a ha with z | z | z
    · exact .inl z.2
    · exact .inr z.2
    · obtain ⟨z, _⟩ := z; rcases hfl with q | q <;> (rw [q] at z; cases z)
theorem leaveB0 {G : Gm} {s : Bool} {x y c u : Stt} {i : Nat} {v0 : V} {d0 d1 : D} {fp : List Addr} {fl : Fl} {l : List (D × Kd)} {vs : List V} (hx : SInv G x) (hy : SInv G y) (e : Ext s x y) (hi : y.rho[i]? = some (some (d0, fl))) (hfl : fl = .ow ∨ fl = .pn) (hv : y.sg[i]? = some (some v0))
    (hc : ArgA G (l.length + 1) (v0 :: vs) y.H c) (hcp : c.p = fp) (f1 : ∀ a, y.F a → c.F a) (f2 : ∀ a, c.F a → y.F a ∨ (x.H a = none ∧ a ∉ y.o ∧ a ∉ y.p ∧ a ∉ y.b)) (w : Own G y.F y.H v0 d0 fp) (n0 : fp ≠ []) (hm : ∀ a ∈ fp, a ∈ y.o ∨ a ∈ y.p)
    (hu : u.rho = some (d1, .pn) :: l.map argS) (iu : SInv G u) (eu : Ext false c u) :
    SInv G { y with F := u.F, H := u.H, rho := y.rho.set i (some (d1, fl)) } ∧ Ext false x { y with F := u.F, H := u.H, rho := y.rho.set i (some (d1, fl)) } := by
  have hcH := hc.H
  have kp : Kept fp y.H u.H := by
    have := eu.kp
    rw [hc.o, hcp, hcH] at this
    simpa using this
  have hf : ∀ a, y.F a → u.F a := fun a f => eu.f1 a (f1 a f)
  have hdm : ∀ a, u.H a = none → y.H a = none := fun a q => by have := eu.dm a q; rwa [hcH] at this
  have nuF : ∀ a, a ∈ y.o ∨ a ∈ y.p ∨ a ∈ y.b → ¬ u.F a := fun a ha f => by
    obtain ⟨nf, o, e', _⟩ := hy.sl.there a ha
    rcases eu.f2 a f with q | q
    · rcases f2 a q with q | q
      · exact nf q
      · rcases ha with z | z | z
        · exact q.2.1 z
        · exact q.2.2.1 z
        · exact q.2.2.2 z
    · rw [hcH, e'] at q; cases q
  have hm3 : ∀ a ∈ fp, a ∈ y.o ∨ a ∈ y.p ∨ a ∈ y.b := fun a ha => (hm a ha).elim .inl fun z => .inr (.inl z)
  -- the lent object behind the call
  have w' : Own G u.F u.H v0 d1 fp := by
    have us := iu.sl
    have hσ : u.sg = (v0 :: vs).map some := eu.sg.trans hc.sg
    have hp : u.p = fp := eu.p1.trans hcp
    rw [hu, hσ, hp] at us
    have gen : ∀ {ρ σ o p b}, Slots G u.F u.H ρ σ o p b → ρ = some (d1, .pn) :: l.map argS → σ = some v0 :: vs.map some → Own G u.F u.H v0 d1 p := by
      intro ρ σ o p b hs e1 e2
      cases hs with
      | nil => cases e1
      | none _ => cases e1
      | fz _ _ => cases e1
      | ow _ _ _ => cases e1
      | lk _ _ => cases e1
      | pn w' n' hs =>
        cases e1
        cases e2
        have := hs.noPn (noPn_args l)
        rw [this, List.append_nil]
        exact w'
    exact gen us rfl rfl
  have s1 : Slots G u.F y.H y.rho y.sg y.o y.p y.b := hy.sl.keep hf .refl fun a ha => ⟨nuF a ha, fun o e _ => e⟩
  have w1 : Own G u.F y.H v0 d0 fp := w.keep hf .refl fun a ha => ⟨nuF a (hm3 a ha), fun o e _ => e⟩
  have s2 := s1.mut (H' := u.H) hy.nd hi hfl hv w1 n0 w' fun a ob e n t => kp a ob e n t
  have hlen : i < y.rho.length := (List.getElem?_eq_some_iff.mp hi).1
  refine ⟨⟨s2, hy.nd, iu.dom, iu.tb⟩, ⟨e.sg, e.kp.trans kp fun a ha => ?_, fun a f => hf a (e.f1 a f), fun a f => ?_, e.o1, e.p1, e.b1, fun a q => e.dm a (hdm a q), fun j d' fl' e1 hf' => ?_, fun q => by cases q⟩⟩
  · rcases hm a ha with q | q
    · rcases e.o1 a q with q | q
      · exact .inl (by simp [q])
      · exact .inr q
    · rw [e.p1] at q; exact .inl (by simp [q])
  · rcases eu.f2 a f with q | q
    · rcases f2 a q with q | q
      · exact e.f2 a q
      · exact .inr q.1
    · rw [hcH] at q; exact .inr (e.dm a q)
  · obtain ⟨d2, e2, k2⟩ := e.lk j d' fl' e1 hf'
    by_cases hj : i = j
    · subst hj
      rw [hi] at e2; cases e2
      refine ⟨d1, List.getElem?_set_self hlen, fun z => ?_⟩
      rcases hfl with q | q <;> (rw [q] at z; cases z)
    · exact ⟨d2, by rw [List.getElem?_set_ne hj]; exact e2, k2⟩
theorem leaveB {G : Gm} {s : Bool} {x y c u : Stt} {i : Nat} {v0 v : V} {d0 d1 d : D} {k : Kd} {fv fp : List Addr} {fl : Fl} {l : List (D × Kd)} {vs : List V} (hx : SInv G x) (hy : SInv G y) (e : Ext s x y) (hi : y.rho[i]? = some (some (d0, fl))) (hfl : fl = .ow ∨ fl = .pn) (hv : y.sg[i]? = some (some v0))
    (hc : ArgA G (l.length + 1) (v0 :: vs) y.H c) (hcp : c.p = fp) (f1 : ∀ a, y.F a → c.F a) (f2 : ∀ a, c.F a → y.F a ∨ (x.H a = none ∧ a ∉ y.o ∧ a ∉ y.p ∧ a ∉ y.b)) (w : Own G y.F y.H v0 d0 fp) (n0 : fp ≠ []) (hm : ∀ a ∈ fp, a ∈ y.o ∨ a ∈ y.p)
    (hu : u.rho = some (d1, .pn) :: l.map argS) (P : EPost G false c u v d k fv) (hk : k ≠ .br) :
    EPost G false x { y with F := u.F, H := u.H, rho := y.rho.set i (some (d1, fl)) } v d k fv := by
  obtain ⟨i1, e1⟩ := leaveB0 hx hy e hi hfl hv hc hcp f1 f2 w n0 hm hu P.inv P.ext
  have hcH := hc.H
  refine ⟨i1, e1, P.own, ?_, .ne hk⟩
  have kd := P.kd
  cases k with
  | br => exact absurd rfl hk
  | fz => exact kd
  | ow =>
    refine ⟨kd.1, fun a ha => ?_⟩
    have n : y.H a = none := by rw [← hcH]; exact (kd.2 a ha).1
    refine ⟨e.dm a n, fun z => ?_, fun z => ?_, fun z => ?_⟩
    · obtain ⟨_, o, e', _⟩ := hy.there (.inl z); rw [n] at e'; cases e'
    · obtain ⟨_, o, e', _⟩ := hy.there (.inr (.inl z)); rw [n] at e'; cases e'
    · obtain ⟨_, o, e', _⟩ := hy.there (.inr (.inr z)); rw [n] at e'; cases e'
section
variable {X : Cx} {G : Gm} {W : WX}
theorem tS_callM {np i : Nat} {m : FB} {s : Bool} {f : AE} {σ H Q} (h : tS G W false (xCallM m i f) σ H Q) (hn : ALen np f) : tCons (tVar i) (tA G W s f) σ H fun vs H1 => spB G (np + 1) m vs H1 Q (WE W σ) := by
  obtain ⟨x, rfl, rfl, hx, q⟩ := h
  unfold xCallM at q
  cases e0 : x.rho[i]? with
  | none => simp only [e0] at q
  | some sl =>
  cases sl with
  | none => simp only [e0] at q
  | some df =>
  obtain ⟨d00, fl0⟩ := df
  simp only [e0] at q
  by_cases hfl0 : ownFl fl0 = true
  · rw [if_pos hfl0] at q
    obtain ⟨v0, fp0, ev, _⟩ := hx.sl.get e0
    refine ⟨v0, ev, x, rfl, rfl, hx, ?_⟩
    cases e : f x.rho with
    | bad => simp only [e, Res.bind_bad] at q
    | err c d ρ' =>
      simp only [e, Res.bind_err] at q
      exact fun y cls dx hρ iy ey hev => q y cls dx hρ iy (ey.weak fun z => by cases z) hev
    | ok r =>
      obtain ⟨l, ρ1⟩ := r
      simp only [e, Res.bind_ok] at q
      intro y vs hρ iy ey ay
      unfold callMK at q
      cases e1 : ρ1[i]? with
      | none => simp only [e1] at q
      | some sl1 =>
      cases sl1 with
      | none => simp only [e1] at q
      | some df1 =>
      obtain ⟨d0, fl⟩ := df1
      simp only [e1] at q
      by_cases hc : ownFl fl = true ∧ argsOk l = true ∧ (l.all fun dk => decide (dk.2 ≠ .br) || decide (dk.1.isDrw ≠ d0.isDrw)) = true
      · rw [if_pos hc] at q
        have hi : y.rho[i]? = some (some (d0, fl)) := by rw [hρ]; exact e1
        have hv : y.sg[i]? = some (some v0) := by rw [ey.sg]; exact ev
        obtain ⟨c, fp, a1, a2, a3, a4, a5, a6, a7, a8⟩ := enterB iy ay hc.2.1 hi (ownFl_iff hc.1) hv hc.2.2
        have a1' := a1
        rw [hn _ _ _ e] at a1
        refine ⟨c, d0, l.map argS, a1, a2, noPn_args l, ?_⟩
        rw [a2]
        cases e2 : m (some (d0, .pn) :: l.map argS) with
        | bad => simp only [e2] at q
        | err c' d ρ' =>
          simp only [e2] at q
          cases h1 : err1 ρ' with
          | none => simp only [h1] at q
          | some d1 =>
            simp only [h1] at q
            refine ⟨d1, h1, fun u cls dx hu iu eu hev => ?_⟩
            obtain ⟨i1, e1'⟩ := leaveB0 hx iy ey hi (ownFl_iff hc.1) hv a1' a3 a4 a5 a6 a7 a8 hu iu eu
            exact q { y with F := u.F, H := u.H, rho := y.rho.set i (some (d1, fl)) } cls dx (by rw [hρ]) i1 e1' hev
        | ok r2 =>
          obtain ⟨d, k, d1⟩ := r2
          simp only [e2] at q
          intro u v fv hu P hk
          rw [if_neg hk] at q
          have R := leaveB hx iy ey hi (ownFl_iff hc.1) hv a1' a3 a4 a5 a6 a7 a8 hu P hk
          exact q { y with F := u.F, H := u.H, rho := y.rho.set i (some (d1, fl)) } v fv (by rw [hρ]) R
      · rw [if_neg hc] at q; exact q.elim
  · rw [if_neg hfl0] at q; exact q.elim
theorem r_callM {x : Str} {p pos : Pos} {e : Expr} {es : List Expr} {k i : Nat} {fa : Addr} {fd : FuncData} {ps : List Str} {np : Nat} {m : FB} {s : Bool} {f : AE} (tk : Takes X W) (F : FnG X.prog X.w X.K X.mg X.base k fa fd ps (spB G ps.length m)) (hr : RoomG k X.A) (hg : Gl X x) (hm : X.mg x = some (.ref fa)) (hk : PySem.W.keepIn X.K (.ref fa) = true) (hb : Binds X.K fd ps [])
    (he0 : PE X e (tVar i)) (ha : PA X es (tA G W s f)) (hn : ALen np f) (hps : ps.length = np + 1 := by rfl) (hdb : (x == ("__debug__" : Str)) = false := by decide) (he : starEach (e :: es) X.env = (false, eval e X.env) :: starEach es X.env := by rfl) (hpl : (backTo pos (starEach es X.env)).any (·.1) = false := by rfl) :
    PE X (.Call (.Name x p) (e :: es) [] pos) (tS G W false (xCallM m i f)) :=
  PE.of (callG F hr hg hm hk hb (fun σ => passAt tk σ) (pa_cons he0 ha he) hdb he hpl) fun σ H Q h => by
    have := tS_callM (s := s) h hn
    rw [← hps] at this
    exact this
end
end VL
/-! VL13: functions on data for the built-in operations. -/
namespace VL
open PySem PySem.Spec PyProof.Rows L2

section
variable {G : Gm} {F : Addr → Prop} {H : Hp} {v w : V} {fv fw : List Addr}
theorem Own.int_of {i : Int} (h : Own G F H v (.int i) fv) : v = .int i := by
  cases h with
  | fz r => exact r.int_of
  | ow _ ob => exact False.elim ob
theorem Own.bl_of {i : Bool} (h : Own G F H v (.bl i) fv) : v = .bl i := by
  cases h with
  | fz r => exact r.bl_of
  | ow _ ob => exact False.elim ob
theorem Own.str_of {i : Str} (h : Own G F H v (.str i) fv) : v = .str i := by
  cases h with
  | fz r => exact r.str_of
  | ow _ ob => exact False.elim ob
theorem Own.non_of (h : Own G F H v .non fv) : v = .non := by
  cases h with
  | fz r => exact r.non_of
  | ow _ ob => exact False.elim ob
/-- is it None? -/
def D.isNon : D → Bool
  | .non => true
  | _ => false
theorem Own.isNon {d : D} (h : Own G F H v d fv) : decide (v = .non) = d.isNon := by
  cases d
  case non => rw [h.non_of]; rfl
  all_goals
    simp only [D.isNon, decide_eq_false_iff_not]
    rintro rfl
    cases h with
    | fz r => cases r; rename_i h _; simp [atomD] at h
end

/-! ### numbers -/
def d2I (g : Int → Int → Option (D × Kd)) : D → D → Option (D × Kd)
  | .int i, .int j => g i j
  | _, _ => none
theorem d2I_eq {g : Int → Int → Option (D × Kd)} {a b : D} {r : D × Kd} (h : d2I g a b = some r) : ∃ i j, a = .int i ∧ b = .int j ∧ g i j = some r := by
  unfold d2I at h
  split at h
  · exact ⟨_, _, rfl, rfl, h⟩
  · cases h
theorem fn_int2 {G : Gm} {r : R2} {g : Int → Int → Option (D × Kd)} (hr : ∀ i j e k Q H, g i j = some (e, k) → k = .fz ∧ ∃ v, atomD v = some e ∧ (Q v H → r (.int i) (.int j) H Q)) : FnD2 G r (d2I g) := by
  intro F H v w a b fv fw d k Q hd ha hb hg q
  obtain ⟨i, j, rfl, rfl, hg⟩ := d2I_eq hg
  rw [ha.int_of, hb.int_of]
  obtain ⟨rfl, u, hu, f⟩ := hr i j d k Q H hg
  exact f (q F H u [] (.atom hd hu))
def gI (f : Int → Int → Int) : Int → Int → Option (D × Kd) := fun i j => some (.int (f i j), .fz)
def gB (f : Int → Int → Bool) : Int → Int → Option (D × Kd) := fun i j => some (.bl (f i j), .fz)
def gIf (c : Int → Int → Prop) [∀ i j, Decidable (c i j)] (f : Int → Int → Int) : Int → Int → Option (D × Kd) := fun i j => if c i j then some (.int (f i j), .fz) else none
theorem fn_gI {G : Gm} {f : Int → Int → Int} : FnD2 G (rI0 fun i j => .int (f i j)) (d2I (gI f)) := fn_int2 fun i j e k Q H h => by
  simp only [gI, Option.some.injEq, Prod.mk.injEq] at h
  obtain ⟨rfl, rfl⟩ := h
  exact ⟨rfl, .int (f i j), rfl, fun q => ⟨i, j, rfl, rfl, q⟩⟩
theorem fn_gB {G : Gm} {f : Int → Int → Bool} : FnD2 G (rI0 fun i j => .bl (f i j)) (d2I (gB f)) := fn_int2 fun i j e k Q H h => by
  simp only [gB, Option.some.injEq, Prod.mk.injEq] at h
  obtain ⟨rfl, rfl⟩ := h
  exact ⟨rfl, .bl (f i j), rfl, fun q => ⟨i, j, rfl, rfl, q⟩⟩
theorem fn_gIf {G : Gm} {c : Int → Int → Prop} [∀ i j, Decidable (c i j)] {C : Int → Int → Prop} (hc : ∀ i j, c i j → C i j) {f : Int → Int → Int} : FnD2 G (rI C fun i j => .int (f i j)) (d2I (gIf c f)) := fn_int2 fun i j e k Q H h => by
  unfold gIf at h
  split at h
  · rename_i hh
    simp only [Option.some.injEq, Prod.mk.injEq] at h
    obtain ⟨rfl, rfl⟩ := h
    exact ⟨rfl, .int (f i j), rfl, fun q => ⟨i, j, rfl, rfl, hc _ _ hh, q⟩⟩
  · cases h
def dSub := d2I (gI fun i j => i - j)
def dLt := d2I (gB fun i j => decide (i < j))
def dLe := d2I (gB fun i j => decide (i ≤ j))
def dGt := d2I (gB fun i j => decide (j < i))
def dGe := d2I (gB fun i j => decide (j ≤ i))
def smallI (i : Int) : Prop := -(2 ^ 64) < i ∧ i < 2 ^ 64
instance {i : Int} : Decidable (smallI i) := by unfold smallI; infer_instance
instance {i j : Int} : Decidable (CDivN i j) := by unfold CDivN; infer_instance
instance {i j : Int} : Decidable (CPow i j) := by unfold CPow; infer_instance
instance {i j : Int} : Decidable (CMul i j) := by unfold CMul; infer_instance
/-- floor division by an open number below 2 ^ 30 -/
def dFdiv := d2I (gIf CDivN Int.fdiv)
def dMod := d2I (gIf (fun _ j => j ≠ 0) Int.fmod)
def dPow := d2I (gIf CPow fun i j => i ^ j.toNat)
section
variable {X : Cx} {G : Gm}
theorem o_sub : OpR X (binaryOp .Sub) (rI0 fun i j => .int (i - j)) ∧ FnD2 G (rI0 fun i j => .int (i - j)) dSub := ⟨op_sub, fn_gI⟩
theorem o_fdiv : OpR X (binaryOp .FloorDiv) (rI CDivN fun i j => .int (i.fdiv j)) ∧ FnD2 G (rI CDivN fun i j => .int (i.fdiv j)) dFdiv := ⟨op_fdivN, fn_gIf fun _ _ h => h⟩
theorem o_mod : OpR X (binaryOp .Mod) (rI (fun _ j => j ≠ 0) fun i j => .int (i.fmod j)) ∧ FnD2 G (rI (fun _ j => j ≠ 0) fun i j => .int (i.fmod j)) dMod := ⟨op_modN, fn_gIf fun _ _ h => h⟩
theorem o_pow : OpR X (binaryOp .Pow) (rI CPow fun i j => .int (i ^ j.toNat)) ∧ FnD2 G (rI CPow fun i j => .int (i ^ j.toNat)) dPow := ⟨op_pow, fn_gIf fun _ _ h => h⟩
theorem o_lt : OpR X (compareOp .Lt) (rI0 fun i j => .bl (decide (i < j))) ∧ FnD2 G (rI0 fun i j => .bl (decide (i < j))) dLt := ⟨op_lt, fn_gB⟩
theorem o_le : OpR X (compareOp .LtE) (rI0 fun i j => .bl (decide (i ≤ j))) ∧ FnD2 G (rI0 fun i j => .bl (decide (i ≤ j))) dLe := ⟨op_le, fn_gB⟩
theorem o_gt : OpR X (compareOp .Gt) (rI0 fun i j => .bl (decide (j < i))) ∧ FnD2 G (rI0 fun i j => .bl (decide (j < i))) dGt := ⟨op_gt, fn_gB⟩
theorem o_ge : OpR X (compareOp .GtE) (rI0 fun i j => .bl (decide (j ≤ i))) ∧ FnD2 G (rI0 fun i j => .bl (decide (j ≤ i))) dGe := ⟨op_ge, fn_gB⟩

/-! ### + and * -/
def dAdd : D → D → Option (D × Kd)
  | .int i, .int j => some (.int (i + j), .fz)
  | .str x, .str y => if x.length + y.length ≤ sizeLine then some (.str (x ++ y), .fz) else none
  | .lst a, .lst b => if a.length + b.length ≤ sizeLine then some (.lst (a ++ b), .ow) else none
  | .tup a, .tup b => if a ≠ [] ∧ b ≠ [] ∧ a.length + b.length ≤ sizeLine then some (.tup (a ++ b), .fz) else none
  | _, _ => none
theorem Own.lstM {F : Addr → Prop} {H : Hp} {v : V} {ds : List D} {fp : List Addr} (h : Own G F H v (.lst ds) fp) : ∃ a ws, v = .ref a ∧ H a = some (.lst ws) ∧ ws.length ≤ sizeLine ∧ Rep G F H ws ds := by
  cases h with
  | fz r =>
    cases r with
    | atom e _ => cases v <;> simp [atomD] at e
    | lst f e z r1 _ => exact ⟨_, _, rfl, e, z, r1⟩
  | ow f ob =>
    obtain ⟨ws, e, z, r⟩ := ob
    exact ⟨_, ws, rfl, e, z, r⟩
/-- lists but the script -/
def rAddAll (K : PySem.W.Frag) : R2 := fun x y H Q => rI0 (fun i j => .int (i + j)) x y H Q ∨ (∃ i j, x = .str i ∧ y = .str j ∧ i.length + j.length ≤ sizeLine ∧ Q (.str (i ++ j)) H) ∨ rCat x y H Q ∨ rCatT K x y H Q
theorem op_addAll : OpR X (binaryOp .Add) (rAddAll X.K) := op_add.or (op_add_str.or (op_cat.or op_catT))
theorem fn_add (hK : X.K = G.K) : FnD2 G (rAddAll X.K) dAdd := by
  intro F H v w a b fv fw d k Q hd ha hb hg q
  unfold dAdd at hg
  split at hg
  · cases hg
    rw [ha.int_of, hb.int_of]
    exact .inl ⟨_, _, rfl, rfl, q F H _ [] (.atom hd rfl)⟩
  · split at hg
    · rename_i hz
      cases hg
      rw [ha.str_of, hb.str_of]
      exact .inr (.inl ⟨_, _, rfl, rfl, hz, q F H _ [] (.atom hd rfl)⟩)
    · cases hg
  · split at hg
    · rename_i hz
      cases hg
      obtain ⟨a, ws, rfl, e1, z1, r1⟩ := ha.lstM
      obtain ⟨b, us, rfl, e2, z2, r2⟩ := hb.lstM
      have hz' : ws.length + us.length ≤ sizeLine := by rw [r1.length, r2.length]; exact hz
      exact .inr (.inr (.inl ⟨a, b, ws, us, rfl, rfl, e1, e2, hz', fun p hp => q _ _ _ _ (.lst hd hp (by simpa using hz') (r1.append r2))⟩))
    · cases hg
  · split at hg
    · rename_i hz
      cases hg
      obtain ⟨a, ws, rfl, e1, z1, r1, _⟩ := ha.tup_of hK
      obtain ⟨b, us, rfl, e2, z2, r2, _⟩ := hb.tup_of hK
      have hz' : ws.length + us.length ≤ sizeLine := by rw [r1.length, r2.length]; exact hz.2.2
      refine .inr (.inr (.inr ⟨a, b, ws, us, rfl, rfl, e1, e2, fun z => hz.1 ?_, hz', ?_⟩))
      · subst z; cases r1; rfl
      · have n2 : us ≠ [] := fun z => hz.2.1 (by subst z; cases r2; rfl)
        exact ⟨fun z => absurd z n2, fun _ p hp => q _ _ _ _ (.tup hd hp (by simpa using hz') (r1.append r2))⟩
    · cases hg
  · cases hg

def dMul : D → D → Option (D × Kd)
  | .int i, .int j => if CMul i j then some (.int (i * j), .fz) else none
  | .lst a, .int k => if -(2 ^ 63) ≤ k ∧ k < 2 ^ 63 ∧ a.length * k.toNat ≤ sizeLine then some (.lst (List.replicate k.toNat a).flatten, .ow) else none
  | _, _ => none
theorem Rep.rep {F : Addr → Prop} {H : Hp} {vs : List V} {ds : List D} (h : Rep G F H vs ds) : ∀ k, Rep G F H (List.replicate k vs).flatten (List.replicate k ds).flatten
  | 0 => .nil
  | k + 1 => by
    simp only [List.replicate_succ, List.flatten_cons]
    exact h.append (Rep.rep h k)
theorem len_rep {α : Type} (l : List α) : ∀ k, (List.replicate k l).flatten.length = l.length * k
  | 0 => by simp
  | k + 1 => by simp only [List.replicate_succ, List.flatten_cons, List.length_append, len_rep l k]; rw [Nat.mul_succ]; omega
def rMulAll : R2 := fun x y H Q => rI CMul (fun i j => .int (i * j)) x y H Q ∨ rRep x y H Q
theorem op_mulAll : OpR X (binaryOp .Mult) rMulAll := op_mul.or op_rep
theorem fn_mul : FnD2 G rMulAll dMul := by
  intro F H v w a b fv fw d k Q hd ha hb hg q
  unfold dMul at hg
  split at hg
  · split at hg
    · rename_i hc
      cases hg
      rw [ha.int_of, hb.int_of]
      exact .inl ⟨_, _, rfl, rfl, hc, q F H _ [] (.atom hd rfl)⟩
    · cases hg
  · rename_i l0 k0
    split at hg
    · rename_i hz
      cases hg
      obtain ⟨a, ws, rfl, e1, z1, r1⟩ := ha.lstM
      rw [hb.int_of]
      have hz' : ws.length * k0.toNat ≤ sizeLine := by rw [r1.length]; exact hz.2.2
      exact .inr ⟨a, _, ws, rfl, rfl, e1, hz.1, hz.2.1, hz', fun p hp => q _ _ _ _ (.lst hd hp (by rw [len_rep]; exact hz') (r1.rep _))⟩
    · cases hg
  · cases hg
theorem o_add (hK : X.K = G.K) : OpR X (binaryOp .Add) (rAddAll X.K) ∧ FnD2 G (rAddAll X.K) dAdd := ⟨op_addAll, fn_add hK⟩
theorem o_mul : OpR X (binaryOp .Mult) rMulAll ∧ FnD2 G rMulAll dMul := ⟨op_mulAll, fn_mul⟩

/-! ### data without objects of classes -/
end
mutual
def toPy : D → Option PyData
  | .non => some .none
  | .bl b => some (.bool b)
  | .int i => some (.int i)
  | .str x => some (.str x)
  | .tup l => (toPyL l).map .tuple
  | .lst l => (toPyL l).map .list
  | _ => none
def toPyL : List D → Option (List PyData)
  | [] => some []
  | d :: ds => match toPy d, toPyL ds with
    | some p, some ps => some (p :: ps)
    | _, _ => none
end
section
variable {X : Cx} {G : Gm} {F : Addr → Prop} {H : Hp}
theorem Rep.dp {vs : List V} {ds : List D} (h : Rep G F H vs ds) {K : PySem.W.Frag} (hK : K = G.K) : ∀ {ps : List PyData}, toPyL ds = some ps → DpAll K H vs ps := by
  subst hK
  have cut : ∀ {d : D} {ds : List D} {ps : List PyData}, toPyL (d :: ds) = some ps → ∃ p qs, ps = p :: qs ∧ toPy d = some p ∧ toPyL ds = some qs := by
    intro d ds ps e
    simp only [toPyL] at e
    cases e1 : toPy d with
    | none => rw [e1] at e; cases e
    | some p =>
      rw [e1] at e
      cases e2 : toPyL ds with
      | none => rw [e2] at e; cases e
      | some qs => rw [e2] at e; cases e; exact ⟨p, qs, rfl, rfl, rfl⟩
  induction h with
  | nil => intro ps e; simp [toPyL] at e; subst e; exact .nil
  | @atom v d vs ds hv _ ih =>
    intro ps e
    obtain ⟨p, qs, rfl, e1, e2⟩ := cut e
    refine .cons ?_ (ih e2)
    cases v <;> simp [atomD] at hv <;> subst hv <;> simp [toPy] at e1 <;> subst e1
    · exact .non
    · exact .bl _
    · exact .int _
    · exact .str _
  | tup f e z r1 _ ih1 ih2 =>
    intro ps e
    obtain ⟨p, qs, rfl, e1, e2⟩ := cut e
    simp only [toPy, Option.map_eq_some_iff] at e1
    obtain ⟨ws, e3, rfl⟩ := e1
    exact .cons (.tup (.of ‹_›) (ih1 e3)) (ih2 e2)
  | tupK f z r1 _ ih1 ih2 =>
    intro ps e
    obtain ⟨p, qs, rfl, e1, e2⟩ := cut e
    simp only [toPy, Option.map_eq_some_iff] at e1
    obtain ⟨ws, e3, rfl⟩ := e1
    exact .cons (.tup (.inr f) (ih1 e3)) (ih2 e2)
  | lst f e z r1 _ ih1 ih2 =>
    intro ps e
    obtain ⟨p, qs, rfl, e1, e2⟩ := cut e
    simp only [toPy, Option.map_eq_some_iff] at e1
    obtain ⟨ws, e3, rfl⟩ := e1
    exact .cons (.lst (.of ‹_›) (ih1 e3)) (ih2 e2)
  | scr _ _ _ _ _ => intro ps e; obtain ⟨p, qs, rfl, e1, e2⟩ := cut e; simp [toPy] at e1
  | scrK _ _ _ _ => intro ps e; obtain ⟨p, qs, rfl, e1, e2⟩ := cut e; simp [toPy] at e1
  | dK _ _ _ _ _ _ _ _ => intro ps e; obtain ⟨p, qs, rfl, e1, e2⟩ := cut e; simp [toPy] at e1
  | dT _ _ _ _ _ _ _ _ => intro ps e; obtain ⟨p, qs, rfl, e1, e2⟩ := cut e; simp [toPy] at e1
  | ins _ _ _ _ _ _ _ _ => intro ps e; obtain ⟨p, qs, rfl, e1, e2⟩ := cut e; simp [toPy] at e1
  | exc _ _ _ _ _ _ _ _ _ _ => intro ps e; obtain ⟨p, qs, rfl, e1, e2⟩ := cut e; simp [toPy] at e1
  | exs _ _ _ _ _ _ _ => intro ps e; obtain ⟨p, qs, rfl, e1, e2⟩ := cut e; simp [toPy] at e1
theorem Own.dp {v : V} {d : D} {fp : List Addr} (h : Own G F H v d fp) {K : PySem.W.Frag} (hK : K = G.K) {p : PyData} (e : toPy d = some p) : Dp K H v p := by
  cases h with
  | fz r =>
    have := r.dp hK (ps := [p]) (by simp [toPyL, e])
    cases this with
    | cons h _ => exact h
  | ow f ob =>
    cases d <;> first | exact False.elim ob | skip
    case lst es =>
      obtain ⟨ws, e1, z, r⟩ := ob
      simp only [toPy, Option.map_eq_some_iff] at e
      obtain ⟨qs, e3, rfl⟩ := e
      exact .lst (.of e1) (r.dp hK e3)
    all_goals simp [toPy] at e
  | drw _ _ _ _ _ _ => simp [toPy] at e
/-- == of data; texts by themselves -/
def pyEq (a b : D) : Option Bool := match toPy a, toPy b with
  | some p, some q => if SeqAt.shaped p = true ∧ SeqAt.shaped q = true then some (PyData.eqv p q) else none
  | _, _ => none
def dEqB : D → D → Option Bool
  | .str x, .str y => some (decide (x = y))
  | a, b => pyEq a b
def dEq (a b : D) : Option (D × Kd) := (dEqB a b).map fun c => (.bl c, .fz)
def dNe (a b : D) : Option (D × Kd) := (dEqB a b).map fun c => (.bl (!c), .fz)
theorem pyEq_of {a b : D} {c : Bool} (h : pyEq a b = some c) : ∃ p q, toPy a = some p ∧ toPy b = some q ∧ SeqAt.shaped p = true ∧ SeqAt.shaped q = true ∧ c = PyData.eqv p q := by
  unfold pyEq at h
  split at h
  · split at h
    · rename_i hs
      cases h
      exact ⟨_, _, ‹_›, ‹_›, hs.1, hs.2, rfl⟩
    · cases h
  · cases h
theorem dEqB_of {a b : D} {c : Bool} (h : dEqB a b = some c) : (∃ x y, a = .str x ∧ b = .str y ∧ c = decide (x = y)) ∨ pyEq a b = some c := by
  unfold dEqB at h
  split at h
  · cases h; exact .inl ⟨_, _, rfl, rfl, rfl⟩
  · exact .inr h
theorem fn_eq (hK : X.K = G.K) : FnD2 G (fun x y H Q => rEq x y H Q ∨ rEqD X.K x y H Q) dEq := by
  intro F H v w a b fv fw d k Q hd ha hb hg q
  simp only [dEq, Option.map_eq_some_iff] at hg
  obtain ⟨c, hc, e⟩ := hg
  cases e
  rcases dEqB_of hc with ⟨x, y, rfl, rfl, rfl⟩ | h
  · rw [ha.str_of, hb.str_of]
    refine .inl ⟨rfl, ?_⟩
    have : decide (V.str x = V.str y) = decide (x = y) := by by_cases e : x = y <;> simp [e]
    rw [this]
    exact q F H _ [] (.atom hd rfl)
  · obtain ⟨p, p', e1, e2, s1, s2, rfl⟩ := pyEq_of h
    exact .inr ⟨p, p', ha.dp hK e1, hb.dp hK e2, s1, s2, q F H _ [] (.atom hd rfl)⟩
theorem fn_ne (hK : X.K = G.K) : FnD2 G (fun x y H Q => rNe x y H Q ∨ rNeD X.K x y H Q) dNe := by
  intro F H v w a b fv fw d k Q hd ha hb hg q
  simp only [dNe, Option.map_eq_some_iff] at hg
  obtain ⟨c, hc, e⟩ := hg
  cases e
  rcases dEqB_of hc with ⟨x, y, rfl, rfl, rfl⟩ | h
  · rw [ha.str_of, hb.str_of]
    refine .inl ⟨rfl, ?_⟩
    have : decide (V.str x = V.str y) = decide (x = y) := by by_cases e : x = y <;> simp [e]
    rw [this]
    exact q F H _ [] (.atom hd rfl)
  · obtain ⟨p, p', e1, e2, s1, s2, rfl⟩ := pyEq_of h
    exact .inr ⟨p, p', ha.dp hK e1, hb.dp hK e2, s1, s2, q F H _ [] (.atom hd rfl)⟩
theorem o_eq {k : Nat} (hr : RoomG k X.A) (hK : X.K = G.K) : OpR X (compareOp .Eq) (fun x y H Q => rEq x y H Q ∨ rEqD X.K x y H Q) ∧ FnD2 G (fun x y H Q => rEq x y H Q ∨ rEqD X.K x y H Q) dEq := ⟨op_eq.or (op_eqD hr.room.units), fn_eq hK⟩
theorem o_ne {k : Nat} (hr : RoomG k X.A) (hK : X.K = G.K) : OpR X (compareOp .NotEq) (fun x y H Q => rNe x y H Q ∨ rNeD X.K x y H Q) ∧ FnD2 G (fun x y H Q => rNe x y H Q ∨ rNeD X.K x y H Q) dNe := ⟨op_ne.or (op_neD hr.room.units), fn_ne hK⟩
def dIs : D → D → Option (D × Kd)
  | a, .non => some (.bl a.isNon, .fz)
  | _, _ => none
def dIsNot : D → D → Option (D × Kd)
  | a, .non => some (.bl (!a.isNon), .fz)
  | _, _ => none
theorem o_is : OpR X (compareOp .Is) (fun x y H Q => y = .non ∧ Q (.bl (decide (x = .non))) H) ∧ FnD2 G (fun x y H Q => y = .non ∧ Q (.bl (decide (x = .non))) H) dIs := ⟨op_isN, by
  intro F H v w a b fv fw d k Q hd ha hb hg q
  cases b <;> simp [dIs] at hg
  obtain ⟨rfl, rfl⟩ := hg
  exact ⟨hb.non_of, by rw [ha.isNon]; exact q F H _ [] (.atom hd rfl)⟩⟩
theorem o_isnot : OpR X (compareOp .IsNot) (fun x y H Q => y = .non ∧ Q (.bl (!decide (x = .non))) H) ∧ FnD2 G (fun x y H Q => y = .non ∧ Q (.bl (!decide (x = .non))) H) dIsNot := ⟨op_notN, by
  intro F H v w a b fv fw d k Q hd ha hb hg q
  cases b <;> simp [dIsNot] at hg
  obtain ⟨rfl, rfl⟩ := hg
  exact ⟨hb.non_of, by rw [ha.isNon]; exact q F H _ [] (.atom hd rfl)⟩⟩
def dNeg : D → Option (D × Kd)
  | .int i => some (.int (-i), .fz)
  | _ => none
theorem o_neg : UnR X (unaryOp .USub) (rU fun i => .int (-i)) ∧ FnD1 G (rU fun i => .int (-i)) dNeg := ⟨un_neg, by
  intro F H v a fv d k Q hd ha hg q
  cases a <;> simp [dNeg] at hg
  obtain ⟨rfl, rfl⟩ := hg
  rw [ha.int_of]
  exact ⟨_, rfl, q F H _ [] (.atom hd rfl)⟩⟩

/-! ### items -/
def dIdx : D → D → Option (D × Kd)
  | .lst l, .int i => (atI l i).map fun d => (d, .fz)
  | .tup l, .int i => (atI l i).map fun d => (d, .fz)
  | .str x, .int i => if x.length ≤ sizeLine then (atI x.cps.toList i).map fun c => (.str ⟨#[c]⟩, .fz) else none
  | _, _ => none
theorem Rep.atI {vs : List V} {ds : List D} {i : Int} {d : D} (h : Rep G F H vs ds) (e : L2.atI ds i = some d) : ∃ v, L2.atI vs i = some v ∧ Rep G F H [v] [d] := by
  unfold L2.atI at e ⊢
  rw [h.length]
  cases e1 : ixN ds.length i with
  | none => rw [e1] at e; cases e
  | some j =>
    rw [e1] at e
    exact h.get e
theorem o_idx (hK : X.K = G.K) : IxR X (rIx X.K) ∧ FnD2 G (rIx X.K) dIdx := ⟨ix_seq, by
  intro F H v w a b fv fw d k Q hd ha hb hg q
  unfold dIdx at hg
  split at hg
  · simp only [Option.map_eq_some_iff, Prod.mk.injEq] at hg
    obtain ⟨d', e, rfl, rfl⟩ := hg
    obtain ⟨a, ws, rfl, e1, z1, r1⟩ := ha.lstM
    obtain ⟨u, hu, ru⟩ := r1.atI e
    rw [hb.int_of]
    exact .inl ⟨a, ws, _, u, rfl, rfl, .of e1, hu, q F H _ [] (.same hd ru)⟩
  · simp only [Option.map_eq_some_iff, Prod.mk.injEq] at hg
    obtain ⟨d', e, rfl, rfl⟩ := hg
    obtain ⟨a, ws, rfl, e1, z1, r1, _⟩ := ha.tup_of hK
    obtain ⟨u, hu, ru⟩ := r1.atI e
    rw [hb.int_of]
    exact .inr (.inl ⟨a, ws, _, u, rfl, rfl, e1, hu, q F H _ [] (.same hd ru)⟩)
  · split at hg
    · rename_i hz
      simp only [Option.map_eq_some_iff, Prod.mk.injEq] at hg
      obtain ⟨c, e, rfl, rfl⟩ := hg
      rw [ha.str_of, hb.int_of]
      exact .inr (.inr ⟨_, _, c, rfl, rfl, hz, e, q F H _ [] (.atom hd rfl)⟩)
    · cases hg
  · cases hg⟩

/-! ### built-in functions -/
theorem Reads.one {vs : List V} {d : D} (h : Reads G F H vs [d]) : ∃ v fp, vs = [v] ∧ Own G F H v d fp := by
  cases h with
  | cons w r => cases r; exact ⟨_, _, rfl, w⟩
theorem Reads.two {vs : List V} {d e : D} (h : Reads G F H vs [d, e]) : ∃ v w fv fw, vs = [v, w] ∧ Own G F H v d fv ∧ Own G F H w e fw := by
  cases h with
  | cons w r => obtain ⟨u, fu, rfl, w2⟩ := r.one; exact ⟨_, _, _, _, rfl, w, w2⟩
def f1 (g : D → Option (D × Kd)) : List D → Option (D × Kd)
  | [d] => g d
  | _ => none
def f2 (g : D → D → Option (D × Kd)) : List D → Option (D × Kd)
  | [d, e] => g d e
  | _ => none
theorem f1_of {g : D → Option (D × Kd)} {ds : List D} {r : D × Kd} (h : f1 g ds = some r) : ∃ d, ds = [d] ∧ g d = some r := by
  unfold f1 at h; split at h
  · exact ⟨_, rfl, h⟩
  · cases h
theorem f2_of {g : D → D → Option (D × Kd)} {ds : List D} {r : D × Kd} (h : f2 g ds = some r) : ∃ d e, ds = [d, e] ∧ g d e = some r := by
  unfold f2 at h; split at h
  · exact ⟨_, _, rfl, h⟩
  · cases h
def dLen : D → Option (D × Kd)
  | .lst l => some (.int l.length, .fz)
  | .tup l => some (.int l.length, .fz)
  | .scr l => some (.int l.length, .fz)
  | .str x => if x.length ≤ sizeLine then some (.int x.length, .fz) else none
  | _ => none
def rLen (K : PySem.W.Frag) : List V → Hp → VK → Prop := fun xs H Q => ∃ x n, xs = [x] ∧ LenV K x H n ∧ Q (.int n) H
theorem o_len (hK : X.K = G.K) : CallR X (.builtin "len") (rLen X.K) ∧ FnD G (rLen X.K) (f1 dLen) := ⟨call_len, by
  intro F H vs ds d k Q hd hr hg q
  obtain ⟨a, ea, hg'⟩ := f1_of hg
  clear hg
  subst ea
  have hg := hg'
  clear hg'
  obtain ⟨v, fp, rfl, w⟩ := hr.one
  unfold dLen at hg
  split at hg
  · cases hg
    obtain ⟨a, ws, rfl, e1, z1, r1⟩ := w.lstM
    rw [← r1.length] at q
    exact ⟨_, _, rfl, .inl ⟨ws, .of e1, rfl⟩, q F H _ [] (.atom hd rfl)⟩
  · cases hg
    obtain ⟨a, ws, rfl, e1, z1, r1, _⟩ := w.tup_of hK
    rw [← r1.length] at q
    exact ⟨_, _, rfl, .inr ⟨ws, e1, rfl⟩, q F H _ [] (.atom hd rfl)⟩
  · cases hg
    obtain ⟨a, rfl, e1, z1, _⟩ := w.scr_of hK
    exact ⟨_, _, rfl, .inl ⟨_, e1, by simp⟩, q F H _ [] (.atom hd rfl)⟩
  · split at hg
    · rename_i hz
      cases hg
      rw [w.str_of]
      exact ⟨_, _, rfl, ⟨hz, rfl⟩, q F H _ [] (.atom hd rfl)⟩
    · cases hg
  · cases hg⟩
def dMin2 := d2I (gI fun i j => if j < i then j else i)
def dMax2 := d2I (gI fun i j => if j > i then j else i)
theorem o_max (hc : X.calm = true) : CallR X (.builtin "max") (fun xs H Q => ∃ i j, xs = [.int i, .int j] ∧ Q (.int (if j > i then j else i)) H) ∧ FnD G (fun xs H Q => ∃ i j, xs = [.int i, .int j] ∧ Q (.int (if j > i then j else i)) H) (f2 dMax2) := ⟨call_max2 hc, by
  intro F H vs ds d k Q hd hr hg q
  obtain ⟨a, b, ea, hg'⟩ := f2_of hg
  clear hg
  subst ea
  have hg := hg'
  clear hg'
  obtain ⟨v, w, fv, fw, rfl, h1, h2⟩ := hr.two
  obtain ⟨i, j, rfl, rfl, hg⟩ := d2I_eq hg
  cases hg
  rw [h1.int_of, h2.int_of]
  exact ⟨_, _, rfl, q F H _ [] (.atom hd rfl)⟩⟩
theorem o_min (hc : X.calm = true) : CallR X (.builtin "min") (fun xs H Q => ∃ i j, xs = [.int i, .int j] ∧ Q (.int (if j < i then j else i)) H) ∧ FnD G (fun xs H Q => ∃ i j, xs = [.int i, .int j] ∧ Q (.int (if j < i then j else i)) H) (f2 dMin2) := ⟨call_min2 hc, by
  intro F H vs ds d k Q hd hr hg q
  obtain ⟨a, b, ea, hg'⟩ := f2_of hg
  clear hg
  subst ea
  have hg := hg'
  clear hg'
  obtain ⟨v, w, fv, fw, rfl, h1, h2⟩ := hr.two
  obtain ⟨i, j, rfl, rfl, hg⟩ := d2I_eq hg
  cases hg
  rw [h1.int_of, h2.int_of]
  exact ⟨_, _, rfl, q F H _ [] (.atom hd rfl)⟩⟩
def dAbs : D → Option (D × Kd)
  | .int i => some (.int (if i < 0 then -i else i), .fz)
  | _ => none
theorem o_abs : CallR X (.builtin "abs") (fun xs H Q => ∃ i, xs = [.int i] ∧ Q (.int (if i < 0 then -i else i)) H) ∧ FnD G (fun xs H Q => ∃ i, xs = [.int i] ∧ Q (.int (if i < 0 then -i else i)) H) (f1 dAbs) := ⟨call_abs, by
  intro F H vs ds d k Q hd hr hg q
  obtain ⟨a, ea, hg'⟩ := f1_of hg
  clear hg
  subst ea
  have hg := hg'
  clear hg'
  obtain ⟨v, fp, rfl, w⟩ := hr.one
  cases a <;> simp [dAbs] at hg
  obtain ⟨rfl, rfl⟩ := hg
  rw [w.int_of]
  exact ⟨_, rfl, q F H _ [] (.atom hd rfl)⟩⟩
def dInt : D → Option (D × Kd)
  | .int i => some (.int i, .fz)
  | .bl b => some (.int (if b then 1 else 0), .fz)
  | _ => none
def rInt : List V → Hp → VK → Prop := fun xs H Q => (∃ i, xs = [.int i] ∧ Q (.int i) H) ∨ ∃ k, xs = [.bl k] ∧ Q (.int (if k then 1 else 0)) H
theorem o_int : CallR X (.type "int") rInt ∧ FnD G rInt (f1 dInt) := ⟨call_int1, by
  intro F H vs ds d k Q hd hr hg q
  obtain ⟨a, ea, hg'⟩ := f1_of hg
  clear hg
  subst ea
  have hg := hg'
  clear hg'
  obtain ⟨v, fp, rfl, w⟩ := hr.one
  cases a <;> simp [dInt] at hg
  · obtain ⟨rfl, rfl⟩ := hg
    rw [w.bl_of]
    exact .inr ⟨_, rfl, q F H _ [] (.atom hd rfl)⟩
  · obtain ⟨rfl, rfl⟩ := hg
    rw [w.int_of]
    exact .inl ⟨_, rfl, q F H _ [] (.atom hd rfl)⟩⟩
def dTuple : D → Option (D × Kd)
  | .lst l => some (.tup l, .fz)
  | .tup l => some (.tup l, .fz)
  | _ => none
def rTuple (K : PySem.W.Frag) : List V → Hp → VK → Prop := fun xs H Q => ∃ p ys, xs = [.ref p] ∧ ((SqL K H p ys ∧ ∀ l, H l = none → Q (.ref l) (upd H l (.tup ys))) ∨ (SqT K H p ys ∧ Q (.ref p) H))
theorem Own.fzT {v : V} {l : List D} {fp : List Addr} (w : Own G F H v (.tup l) fp) : Rep G F H [v] [.tup l] := by
  cases w with
  | fz r => exact r
  | ow _ ob => exact False.elim ob
theorem o_tuple (hK : X.K = G.K) : CallR X (.type "tuple") (rTuple X.K) ∧ FnD G (rTuple X.K) (f1 dTuple) := ⟨call_tuple_of, by
  intro F H vs ds d k Q hd hr hg q
  obtain ⟨a, ea, hg'⟩ := f1_of hg
  clear hg
  subst ea
  have hg := hg'
  clear hg'
  obtain ⟨v, fp, rfl, w⟩ := hr.one
  cases a <;> simp [dTuple] at hg
  · obtain ⟨rfl, rfl⟩ := hg
    obtain ⟨a, ws, rfl, e1, z1, r1, _⟩ := w.tup_of hK
    exact ⟨a, ws, rfl, .inr ⟨e1, q F H _ [] (.same hd w.fzT)⟩⟩
  · obtain ⟨rfl, rfl⟩ := hg
    obtain ⟨a, ws, rfl, e1, z1, r1⟩ := w.lstM
    exact ⟨a, ws, rfl, .inl ⟨.of e1, fun l hl => q _ _ _ [] (.tup hd hl z1 r1)⟩⟩⟩
def dList : D → Option (D × Kd)
  | .lst l => some (.lst l, .ow)
  | .tup l => some (.lst l, .ow)
  | _ => none
def rList (K : PySem.W.Frag) : List V → Hp → VK → Prop := fun xs H Q => ∃ p ys, xs = [.ref p] ∧ (SqL K H p ys ∨ SqT K H p ys) ∧ ∀ l, H l = none → Q (.ref l) (upd H l (.lst ys))
theorem o_list (hK : X.K = G.K) : CallR X (.type "list") (rList X.K) ∧ FnD G (rList X.K) (f1 dList) := ⟨call_list_of, by
  intro F H vs ds d k Q hd hr hg q
  obtain ⟨a, ea, hg'⟩ := f1_of hg
  clear hg
  subst ea
  have hg := hg'
  clear hg'
  obtain ⟨v, fp, rfl, w⟩ := hr.one
  cases a <;> simp [dList] at hg
  · obtain ⟨rfl, rfl⟩ := hg
    obtain ⟨a, ws, rfl, e1, z1, r1, _⟩ := w.tup_of hK
    exact ⟨a, ws, rfl, .inr e1, fun l hl => q _ _ _ _ (.lst hd hl z1 r1)⟩
  · obtain ⟨rfl, rfl⟩ := hg
    obtain ⟨a, ws, rfl, e1, z1, r1⟩ := w.lstM
    exact ⟨a, ws, rfl, .inl (.of e1), fun l hl => q _ _ _ _ (.lst hd hl z1 r1)⟩⟩
end
end VL
/-! VL14: attributes, isinstance, repr. -/
namespace VL
open PySem PySem.Spec PyProof.Rows L2

theorem Rep.lookup {G : Gm} {F : Addr → Prop} {H : Hp} : ∀ {ws : List (Str × V)} {es : List (Str × D)} {f : Str} {d : D}, ws.map (·.1) = es.map (·.1) → Rep G F H (ws.map (·.2)) (es.map (·.2)) → es.lookup f = some d → ∃ v, ws.lookup f = some v ∧ Rep G F H [v] [d]
  | [], [], f, d, _, _, e => by simp at e
  | [], _ :: _, _, _, e, _, _ => by simp at e
  | _ :: _, [], _, _, e, _, _ => by simp at e
  | (n, v) :: ws, (m, e) :: es, f, d, hn, hr, hl => by
    simp only [List.map_cons, List.cons.injEq] at hn
    obtain ⟨rfl, hn⟩ := hn
    obtain ⟨r1, r2⟩ := Rep.cons_iff.mp (by simpa using hr)
    simp only [List.lookup_cons] at hl ⊢
    by_cases hf : f == n
    · simp only [hf] at hl ⊢
      cases hl
      exact ⟨v, rfl, r1⟩
    · simp only [hf] at hl ⊢
      exact Rep.lookup hn r2 hl
theorem Own.ins_of {G : Gm} {F : Addr → Prop} {H : Hp} {v : V} {c : Nat} {es : List (Str × D)} {fp : List Addr} (h : Own G F H v (.ins c es) fp) :
    ∃ (a C dx : Addr) (ws : List (Str × V)), v = .ref a ∧ H a = some (.ins C dx ws) ∧ G.cm c = some C ∧ ws.map (·.1) = es.map (·.1) ∧ Rep G F H (ws.map (·.2)) (es.map (·.2)) := by
  cases h with
  | fz r =>
    cases r with
    | atom e _ => cases v <;> simp [atomD] at e
    | ins f e c k r1 _ => exact ⟨_, _, _, _, rfl, e, c, k, r1⟩
  | ow f ob =>
    obtain ⟨C, dx, ws, e, c, k, r⟩ := ob
    exact ⟨_, C, dx, ws, rfl, e, c, k, r⟩
/-- e.f of instances of the classes cs -/
def dFld (cs : List Nat) (f : Str) : D → Option (D × Kd)
  | .ins c es => if cs.contains c = true then (es.lookup f).map fun d => (d, .fz) else none
  | _ => none
/-- what the classes cs must be, for their field f -/
def FldOk (G : Gm) (cs : List Nat) (f : Str) : Prop := ∀ c ∈ cs, ∀ C, G.cm c = some C → Cls G.K C ∧ NoAttr G.K C f
/-- the kinds that isinstance tells apart -/
inductive Tag where
  | ty (n : String) | cls (c : Nat) | exn (c : Nat)
  deriving DecidableEq
def D.tag : D → Option Tag
  | .non => some (.ty "NoneType")
  | .bl _ => some (.ty "bool")
  | .int _ => some (.ty "int")
  | .str _ => some (.ty "str")
  | .tup _ => some (.ty "tuple")
  | .lst _ => some (.ty "list")
  | .scr _ => some (.ty "list")
  | .dK _ => some (.ty "dict")
  | .dT _ => some (.ty "dict")
  | .ins c _ => some (.cls c)
  | .exc c _ => some (.exn c)
  | .exs c _ => some (.exn c)
  | .drw _ _ _ _ => some (.ty "dict")
/-- an instance's class, as isinstance asks it -/
structure ClsI (K : PySem.W.Frag) (C : Addr) : Prop where
  cl : Cls K C
  ha : PySem.W.findIn K (.ref C) "__class__" = some (some (.builtin "object.__class__"))
  hn : PySem.W.specialIn K (.builtin "object.__class__") "__get__" = some (some (.builtin "getset_descriptor.__get__"))
  htk : PySem.W.takesIn K (.builtin "object.__class__") = some true
  hm : PySem.W.mroIn K C (.type "object") = some true
/-- an exception's class, as isinstance and e.f ask it -/
structure ExcI (K : PySem.W.Frag) (C : Addr) : Prop where
  cl : (PySem.W.clsIn K C).isSome = true
  ga : PySem.W.findIn K (.ref C) "__getattribute__" = some (some (.builtin "BaseException.__getattribute__"))
  gg : PySem.W.findIn K (.ref C) "__getattr__" = some none
  sb : PySem.W.subIn K (.ref C) (.type "BaseException") = some true
  hd : PySem.W.hasDictIn K C = true
  ha : PySem.W.findIn K (.ref C) "__class__" = some (some (.builtin "object.__class__"))
  hn : PySem.W.specialIn K (.builtin "object.__class__") "__get__" = some (some (.builtin "getset_descriptor.__get__"))
  htk : PySem.W.takesIn K (.builtin "object.__class__") = some true
  hm : PySem.W.mroIn K C (.type "object") = some true
def TagV (G : Gm) : Tag → Value → Prop
  | .ty n, t => t = .type n
  | .cls c, t => ∃ C, G.cm c = some C ∧ t = .ref C ∧ ClsI G.K C
  | .exn c, t => ∃ C, G.cm c = some C ∧ t = .ref C ∧ ExcI G.K C
/-- what the classes must be -/
def TagOk (G : Gm) : Tag → Prop
  | .ty _ => True
  | .cls c => ∀ C, G.cm c = some C → ClsI G.K C
  | .exn c => ∀ C, G.cm c = some C → ExcI G.K C
/-- a value's type, exceptions too -/
inductive TyZ (K : PySem.W.Frag) (H : Hp) : V → Value → Prop where
  | base {x : V} {t : Value} (h : TyX K H x t) : TyZ K H x t
  | exv {a C dx : Addr} {ws : List (Str × V)} (e : H a = some (exv a C dx)) (e2 : H dx = some (.xd ws)) (q : ExcI K C) : TyZ K H (.ref a) (.ref C)
  | exw {a C ta : Addr} (e : H a = some (exw a C ta)) (q : ExcI K C) : TyZ K H (.ref a) (.ref C)
theorem exv_at {P : Program} {w : World} {H : Hp} {h : Heap} {a C dx : Addr} (hok : HOk P w H h) (he : H a = some (exv a C dx)) : ∃ (oe : Obj) (vs : Array Value), h.get? a = some oe ∧ Zc (.ref C) (some dx) oe ∧ oe.data = .fields vs := by
  have x : ObjOk P w H h a (.ext fun h => ∃ (oe : Obj) (vs : Array Value), h.get? a = some oe ∧ Zc (.ref C) (some dx) oe ∧ oe.data = .fields vs) := hok a _ he
  exact x.1
theorem exw_at {P : Program} {w : World} {H : Hp} {h : Heap} {a C ta : Addr} (hok : HOk P w H h) (he : H a = some (exw a C ta)) : ∃ (oe : Obj) (vs : Array Value), h.get? a = some oe ∧ Zc (.ref C) none oe ∧ oe.data = .fields vs ∧ vs[0]? = some (.ref ta) := by
  have x : ObjOk P w H h a (.ext fun h => ∃ (oe : Obj) (vs : Array Value), h.get? a = some oe ∧ Zc (.ref C) none oe ∧ oe.data = .fields vs ∧ vs[0]? = some (.ref ta)) := hok a _ he
  exact x.1
section
variable {X : Cx} {pins : List (Addr × Obj)} {σ : St} {H : Hp} {s : Shared}
theorem exv_inst (I : Inv X pins σ H s) {a C dx : Addr} {ws : List (Str × V)} (e : H a = some (exv a C dx)) (e2 : H dx = some (.xd ws)) : ∃ (oe od : Obj) (mA : Str → Option Value), PySem.W.InstAt s.heap a oe C (some od) ∧ s.heap.Ns1 dx mA ∧ (∀ f, RelO (ws.lookup f) (mA f)) ∧ (∀ n, PySem.W.lookIn n od = some (mA n)) := by
  obtain ⟨oe, vs, h1, hz, hd⟩ := exv_at I.hok e
  have hx : ObjOk X.prog X.w H s.heap dx (.xd ws) := I.hok dx _ e2
  obtain ⟨mA, hns, hr⟩ := hx
  obtain ⟨od, ho, hl⟩ := lookIn_ns hns
  exact ⟨oe, od, mA, ⟨h1, hz.1, by unfold PySem.W.notCls; rw [hd] <;> rfl, by rw [hz.2]; exact ho⟩, hns, hr, hl⟩
theorem kit_ofZ {x : V} {u t : Value} (I : Inv X pins σ H s) (rx : RelV x u) (ty : TyZ X.K H x t) : ∃ P : Heap → Prop, PySem.W.KitX X.K u t P ∧ P s.heap ∧ u ≠ .builtin "__main__.__loader__#opaque" := by
  cases ty with
  | base h => exact kit_of I rx h
  | exv e e2 q =>
    obtain ⟨oe, od, mA, J, _⟩ := exv_inst I e e2
    cases (show u = Value.ref _ from rx)
    exact ⟨_, PySem.W.kitx_exc q.cl q.ga q.gg q.sb q.ha q.hn q.htk q.hm, J, fun z => nomatch z⟩
  | exw e q =>
    obtain ⟨oe, vs, h1, hz, hd, _⟩ := exw_at I.hok e
    cases (show u = Value.ref _ from rx)
    exact ⟨_, PySem.W.kitx_exc (ox := oe) (od := none) q.cl q.ga q.gg q.sb q.ha q.hn q.htk q.hm, ⟨h1, hz.1, by unfold PySem.W.notCls; rw [hd] <;> rfl, by rw [hz.2]; trivial⟩, fun z => nomatch z⟩
end
def rIsiZ (K : PySem.W.Frag) : List V → Hp → VK → Prop := fun xs H Q => ∃ (x c : V) (t u : Value) (b : Bool), xs = [x, c] ∧ ClsV c u ∧ TyZ K H x t ∧ PySem.W.kitOne K t u = some b ∧ Q (.bl b) H
def rIsiTZ (K : PySem.W.Frag) : List V → Hp → VK → Prop := fun xs H Q => ∃ (x : V) (tp : Addr) (cs : List V) (t : Value) (us : List Value) (b : Bool), xs = [x, .ref tp] ∧ H tp = some (.tup cs) ∧ Paired ClsV cs us ∧ TyZ K H x t ∧ PySem.W.kitAny K t us = some b ∧ Q (.bl b) H
section
variable {X : Cx}
theorem call_isiZ : CallR X (.builtin "isinstance") (rIsiZ X.K) := by
  intro pins s σ H xs us Q I r h
  obtain ⟨x, c, t, u, b, rfl, k, ty, e, q⟩ := h
  obtain ⟨u1, u2, rfl, r1, r2⟩ := vals2 r
  have e2 := k.eq r2
  subst e2
  obtain ⟨P, Z, p, hx⟩ := kit_ofZ I r1 ty
  exact PySem.W.kia_one Z I.kIn p e hx fun tk => ⟨.bl b, H, I.tok tk, rfl, q⟩
theorem call_isiTZ : CallR X (.builtin "isinstance") (rIsiTZ X.K) := by
  intro pins s σ H xs us Q I r h
  obtain ⟨x, tp, cs, t, ws, b, rfl, hT, k, ty, e, q⟩ := h
  obtain ⟨u1, u2, rfl, r1, r2⟩ := vals2 r
  cases (show u2 = Value.ref tp from r2)
  obtain ⟨P, Z, p, hx⟩ := kit_ofZ I r1 ty
  obtain ⟨_, its, rv, o, h1, h2, n, h3⟩ := (show ObjOk X.prog X.w H s.heap tp (.tup cs) from I.hok tp _ hT)
  have e3 := ClsV.all k rv
  subst e3
  obtain ⟨oc, od, dt, sl⟩ := o
  simp only at h2 h3
  subst h2 h3
  exact PySem.W.kia_tup Z I.kIn p h1 e hx fun tk => ⟨.bl b, H, I.tok tk, rfl, q⟩
end
theorem Own.exc_of {G : Gm} {F : Addr → Prop} {H : Hp} {v : V} {c : Nat} {es : List (Str × D)} {fp : List Addr} (h : Own G F H v (.exc c es) fp) :
    ∃ (a C dx : Addr) (ws : List (Str × V)), v = .ref a ∧ H a = some (exv a C dx) ∧ H dx = some (.xd ws) ∧ G.cm c = some C ∧ ws.map (·.1) = es.map (·.1) ∧ Rep G F H (ws.map (·.2)) (es.map (·.2)) := by
  cases h with
  | fz r =>
    cases r with
    | atom e _ => cases v <;> simp [atomD] at e
    | exc f e f2 e2 c k r1 _ => exact ⟨_, _, _, _, rfl, e, e2, c, k, r1⟩
  | ow f ob => exact ob.elim
theorem Own.exs_of {G : Gm} {F : Addr → Prop} {H : Hp} {v : V} {c : Nat} {x : Str} {fp : List Addr} (h : Own G F H v (.exs c x) fp) :
    ∃ (a C ta : Addr), v = .ref a ∧ H a = some (exw a C ta) ∧ H ta = some (.tup [.str x]) ∧ G.cm c = some C := by
  cases h with
  | fz r =>
    cases r with
    | atom e _ => cases v <;> simp [atomD] at e
    | exs f e f2 e2 c _ => exact ⟨_, _, _, rfl, e, e2, c⟩
  | ow f ob => exact ob.elim
theorem Own.ty {G : Gm} {F : Addr → Prop} {H : Hp} {v : V} {d : D} {fp : List Addr} (h : Own G F H v d fp) {tg : Tag} (e : d.tag = some tg) (hc : TagOk G tg) : ∃ t, TagV G tg t ∧ TyZ G.K H v t := by
  cases d <;> simp only [D.tag, Option.some.injEq] at e <;> subst e
  case non => rw [h.non_of]; exact ⟨_, rfl, .base (.base .non)⟩
  case bl b => rw [h.bl_of]; exact ⟨_, rfl, (.base (.base (.bl b)))⟩
  case int i => rw [h.int_of]; exact ⟨_, rfl, (.base (.base (.int i)))⟩
  case str x => rw [h.str_of]; exact ⟨_, rfl, (.base (.base (.str x)))⟩
  case tup l =>
    cases h.fzT with
    | atom e _ => cases v <;> simp [atomD] at e
    | tup f e z r1 _ => exact ⟨_, rfl, (.base (.base (.tup e)))⟩
    | tupK f z r1 _ =>
      obtain ⟨o, its, n, h1, h2, _⟩ := f
      exact ⟨_, rfl, .base (.kTuple h1 h2)⟩
  case lst l =>
    obtain ⟨a, ws, rfl, e1, _⟩ := h.lstM
    exact ⟨_, rfl, (.base (.base (.lst e1)))⟩
  case scr l =>
    cases h with
    | fz r =>
      cases r with
      | atom e _ => cases v <;> simp [atomD] at e
      | scr f e z _ => exact ⟨_, rfl, (.base (.base (.frz e)))⟩
      | scrK f z _ =>
        obtain ⟨o, its, n, h1, h2, _⟩ := f
        exact ⟨_, rfl, .base (.kList h1 h2)⟩
    | ow _ ob => exact False.elim ob
  case dK l =>
    cases h with
    | fz r =>
      cases r with
      | atom e _ => cases v <;> simp [atomD] at e
      | dK f e z k r1 _ => exact ⟨_, rfl, (.base (.base (.dK e)))⟩
    | ow _ ob => obtain ⟨ws, e, _⟩ := ob; exact ⟨_, rfl, (.base (.base (.dK e)))⟩
  case dT l =>
    cases h with
    | fz r =>
      cases r with
      | atom e _ => cases v <;> simp [atomD] at e
      | dT f e z k r1 _ => exact ⟨_, rfl, (.base (.base (.dT e)))⟩
    | ow _ ob => obtain ⟨ws, e, _⟩ := ob; exact ⟨_, rfl, (.base (.base (.dT e)))⟩
  case ins c es =>
    obtain ⟨a, C, dx, ws, rfl, e1, e2, _⟩ := h.ins_of
    have q := hc C e2
    exact ⟨.ref C, ⟨C, e2, rfl, q⟩, (.base (.base (.ins e1 q.cl q.ha q.hn q.htk q.hm)))⟩
  case exc c es =>
    obtain ⟨a, C, dx, ws, rfl, e1, e3, e2, _⟩ := h.exc_of
    have q := hc C e2
    exact ⟨.ref C, ⟨C, e2, rfl, q⟩, .exv e1 e3 q⟩
  case exs c x =>
    obtain ⟨a, C, ta, rfl, e1, e3, e2⟩ := h.exs_of
    have q := hc C e2
    exact ⟨.ref C, ⟨C, e2, rfl, q⟩, .exw e1 q⟩
  case drw gr r ce t =>
    cases h with
    | fz r => cases r; rename_i h _; cases v <;> simp [atomD] at h
    | ow _ ob => exact False.elim ob
    | drw _ _ _ _ _ q => exact ⟨_, rfl, (.base (.base (.dK q.1)))⟩
def dIsi (tab : List (Tag × Bool)) : D → Option (D × Kd) := fun d => d.tag.bind fun t => (tab.lookup t).map fun b => (.bl b, .fz)
/-- the table tells isinstance for the class u -/
def IsiOk (G : Gm) (tab : List (Tag × Bool)) (us : List Value) : Prop := ∀ p ∈ tab, TagOk G p.1 ∧ ∀ t, TagV G p.1 t → PySem.W.kitAny G.K t us = some p.2
theorem kitAny_one {K : PySem.W.Frag} {t u : Value} {b : Bool} (h : PySem.W.kitAny K t [u] = some b) : PySem.W.kitOne K t u = some b := by
  simp only [PySem.W.kitAny] at h
  cases e : PySem.W.kitOne K t u with
  | none => rw [e] at h; cases h
  | some c => rw [e] at h; cases c <;> simp at h <;> rw [h]
theorem lookup_mem {α β : Type} [BEq α] [LawfulBEq α] {l : List (α × β)} {a : α} {b : β} (h : l.lookup a = some b) : (a, b) ∈ l := by
  induction l with
  | nil => simp at h
  | cons p l ih =>
    obtain ⟨x, y⟩ := p
    simp only [List.lookup_cons] at h
    by_cases e : a == x
    · simp only [e] at h; cases h; rw [eq_of_beq e]; exact List.mem_cons_self
    · simp only [e] at h; exact List.mem_cons_of_mem _ (ih h)
section
variable {X : Cx} {G : Gm} {W : WX}
theorem r_fld {e : Expr} {f : Str} {pos : Pos} {s : Bool} {g : EE} {cs : List Nat} (hK : X.K = G.K) (hf : FldOk G cs f) (h : PE X e (tS G W s g)) (hb : attributeBase e f X.env (eval e X.env) = eval e X.env) : PE X (.Attribute e f pos) (tS G W s (xAp1 (dFld cs f) g)) :=
  PE.of (pe_fld h hb) fun σ H Q q => tS_ap1 (r := fun x H1 Q => ∃ a C dx fs v, x = .ref a ∧ H1 a = some (.ins C dx fs) ∧ Cls X.K C ∧ NoAttr X.K C f ∧ fs.lookup f = some v ∧ Q v H1) (fun F H v d fv d' k Q hd ha hg q => by
    cases d <;> simp only [dFld] at hg <;> first | cases hg | skip
    case ins c es =>
      split at hg
      · rename_i hc
        simp only [Option.map_eq_some_iff, Prod.mk.injEq] at hg
        obtain ⟨d', e1, rfl, rfl⟩ := hg
        obtain ⟨a, C, dx, ws, rfl, h1, h2, h3, h4⟩ := ha.ins_of
        obtain ⟨v, l, r⟩ := h4.lookup h3 e1
        obtain ⟨q1, q2⟩ := hf c (by simpa using hc) C h2
        rw [hK]
        exact ⟨a, C, dx, ws, v, rfl, h1, q1, q2, l, q F H _ [] (.same hd r)⟩
      · cases hg) q
/-- isinstance(x, c) -/
theorem r_isi {p pos : Pos} {a c : Expr} {s : Bool} {g : EE} {cv : V} {cu : Value} {tab : List (Tag × Bool)} (hK : X.K = G.K) (hg : Gl X "isinstance") (hm : X.mg "isinstance" = none) (h : PE X a (tS G W s g)) (hc : PE X c (tC cv)) (hcv : ClsV cv cu) (ht : IsiOk G tab [cu])
    (he : starEach [a, c] X.env = (false, eval a X.env) :: starEach [c] X.env := by rfl) (he2 : starEach [c] X.env = (false, eval c X.env) :: starEach [] X.env := by rfl) (hpl : (backTo pos (starEach [c] X.env)).any (·.1) = false := by rfl) :
    PE X (.Call (.Name "isinstance" p) [a, c] [] pos) (tS G W s (xAp1 (dIsi tab) g)) :=
  PE.of (pe_callB call_isiZ hg hm (by decide +kernel) (pa_cons h (pa_cons hc pa_nil he2) he) (by decide) (by decide) he hpl) fun σ H Q q => tS_ap1 (r := fun x H Q => rIsiZ X.K [x, cv] H Q) (fun F H v d fv d' k Q hd ha hg q => by
    simp only [dIsi, Option.bind_eq_some_iff, Option.map_eq_some_iff, Prod.mk.injEq] at hg
    obtain ⟨tg, e1, b, e2, rfl, rfl⟩ := hg
    obtain ⟨k1, k2⟩ := ht _ (lookup_mem e2)
    obtain ⟨t, t1, t2⟩ := ha.ty e1 k1
    rw [← hK] at t2
    exact ⟨v, cv, t, cu, b, rfl, hcv, t2, by rw [hK]; exact kitAny_one (k2 t t1), q F H _ [] (.atom hd rfl)⟩) q
/-- isinstance(x, (c1, c2)) -/
theorem r_isiT {p pos pos2 : Pos} {a : Expr} {cs : List Expr} {x1 : Nat} {s : Bool} {g : EE} {cvs : List V} {cus : List Value} {tab : List (Tag × Bool)} {t2 : TA} (hK : X.K = G.K) (hg : Gl X "isinstance") (hm : X.mg "isinstance" = none) (h : PE X a (tS G W s g)) (hc : PA X cs t2) (ht2 : ∀ σ H Q, Q cvs H → t2 σ H Q) (hz : cvs.length ≤ sizeLine) (hcv : Paired ClsV cvs cus) (ht : IsiOk G tab cus)
    (he : starEach [a, .Tuple cs x1 pos2] X.env = (false, eval a X.env) :: starEach [.Tuple cs x1 pos2] X.env := by rfl) (he2 : starEach [.Tuple cs x1 pos2] X.env = (false, eval (.Tuple cs x1 pos2) X.env) :: starEach [] X.env := by rfl) (hpl : (backTo pos (starEach [.Tuple cs x1 pos2] X.env)).any (·.1) = false := by rfl) :
    PE X (.Call (.Name "isinstance" p) [a, .Tuple cs x1 pos2] [] pos) (tS G W s (xAp1 (dIsi tab) g)) :=
  PE.of (pe_callB call_isiTZ hg hm (by decide +kernel) (pa_cons h (pa_cons (pe_tup hc) pa_nil he2) he) (by decide) (by decide) he hpl) fun σ H Q q => by
    have := tS_ap1 (r := fun x H Q => ∀ p, H p = none → rIsiTZ X.K [x, .ref p] (upd H p (.tup cvs)) Q) (G := G) (W := W) (s := s) (f := g) (g := dIsi tab) (fun F H v d fv d' k Q hd ha hg q p hp => by
      simp only [dIsi, Option.bind_eq_some_iff, Option.map_eq_some_iff, Prod.mk.injEq] at hg
      obtain ⟨tg, e1, b, e2, rfl, rfl⟩ := hg
      obtain ⟨k1, k2⟩ := ht _ (lookup_mem e2)
      have kp : ∀ a o, H a = some o → upd H p (.tup cvs) a = some o := fun a o e => by rw [upd_ne (ne_of_none e hp)]; exact e
      have ha' : Own G F (upd H p (.tup cvs)) v d fv := ha.keep (fun _ h => h) (fun a o _ e _ => kp a o e) fun a q => ⟨(ha.there a q).1, fun o e _ => kp a o e⟩
      obtain ⟨t, t1, t2⟩ := ha'.ty e1 k1
      rw [← hK] at t2
      refine ⟨v, p, cvs, t, cus, b, rfl, upd_same, hcv, t2, by rw [hK]; exact k2 t t1, q F _ _ [] ⟨fun a f => ?_, fun _ h => h, fun _ h => .inl h, kp, .fz (.atom rfl .nil), rfl⟩⟩
      obtain ⟨o, e, tt⟩ := hd a f
      exact ⟨o, kp a o e, tt⟩) q
    unfold tUn at this
    obtain ⟨x, r1, r2, hx, q⟩ := this
    refine ⟨x, r1, r2, hx, ?_⟩
    revert q
    cases g x.rho with
    | bad => exact id
    | err c d ρ' => exact id
    | ok r =>
      intro q y v fv hρ P
      exact ht2 _ _ _ ⟨hz, fun p hp => q y v fv hρ P p hp⟩

/-! ### repr of data -/
theorem Dp.noDict {K : PySem.W.Frag} {H : Hp} : ∀ (d : PyData) (v : V), Dp K H v d → d.hasDict = false
  | .none, _, _ => rfl
  | .bool _, _, _ => rfl
  | .int _, _, _ => rfl
  | .str _, _, _ => rfl
  | .list ds, _, h => by
    cases h with
    | lst hs ha => simp only [PyData.hasDict]; exact all ds _ ha
  | .tuple ds, _, h => by
    cases h with
    | tup hs ha => simp only [PyData.hasDict]; exact all ds _ ha
  | .dict _, _, h => by cases h
where all : ∀ (ds : List PyData) (vs : List V), DpAll K H vs ds → PyData.hasDictAll ds = false
  | [], _, _ => rfl
  | d :: ds, _, h => by
    cases h with
    | cons h1 h2 => simp only [PyData.hasDictAll, Dp.noDict d _ h1, all ds _ h2, Bool.or_self]
def rRepr (K : PySem.W.Frag) : List V → Hp → VK → Prop := fun xs H Q => ∃ x d, xs = [x] ∧ Dp K H x d ∧ d.showable = true ∧ d.depth ≤ 60 ∧ d.shown.length ≤ sizeLine ∧ Q (.str d.shown) H
theorem call_reprD (hg : X.A.guards = some []) (hu : X.A.units + 64 < cLine) : CallR X (.builtin "repr") (rRepr X.K) := by
  intro pins s σ H xs us Q I r h
  obtain ⟨x, d, rfl, hd, hs, hdp, hz, q⟩ := h
  obtain ⟨u, rfl, ru⟩ := vals1 r
  obtain ⟨as, rd⟩ := Dp.reads I d x u hd ru
  have fin : ∀ (h' : Heap) (t : Tok) (tk : Nat), (∀ b o, s.heap.get? b = some o → h'.get? b = some o) → EP X pins σ Q (.str d.shown t) { s with heap := h', toks := tk } := fun h' t tk k => ⟨.str d.shown, H, I.kept (t' := tk) k, ⟨t, rfl⟩, q⟩
  cases hd with
  | non => cases ru; exact PySem.P.repr_of_none (fin _ _ _ fun _ _ h => h)
  | bl b => cases ru; exact PySem.P.repr_of_bool (fin _ _ _ fun _ _ h => h)
  | int i => obtain ⟨t, rfl⟩ := ru; exact PySem.P.repr_of_int (by simpa [PyData.showable] using hs) (fin _ _ _ fun _ _ h => h)
  | str x => obtain ⟨t, rfl⟩ := ru; exact PySem.P.repr_of_str (fin _ _ _ fun _ _ h => h) hz
  | @lst a ys ps hs' ha =>
    cases ru
    exact repr_of_reads' rd hs (fun z => by rw [Dp.noDict _ _ (Dp.lst hs' ha)] at z; cases z) hg (by omega) (fun _ _ h => h) (fun h' t tk k => fin h' t tk k) hz
  | @tup a ys ps hs' ha =>
    cases ru
    exact repr_of_reads' rd hs (fun z => by rw [Dp.noDict _ _ (Dp.tup hs' ha)] at z; cases z) hg (by omega) (fun _ _ h => h) (fun h' t tk k => fin h' t tk k) hz
def dRepr (d : D) : Option (D × Kd) := match toPy d with
  | some p => if p.showable = true ∧ p.depth ≤ 60 ∧ p.shown.length ≤ sizeLine then some (.str p.shown, .fz) else none
  | none => none
theorem o_repr {k : Nat} (hr : RoomG k X.A) (hK : X.K = G.K) : CallR X (.builtin "repr") (rRepr X.K) ∧ FnD G (rRepr X.K) (f1 dRepr) := ⟨call_reprD hr.g hr.room.units, by
  intro F H vs ds d k Q hd hr hg q
  obtain ⟨a, ea, hg'⟩ := f1_of hg
  clear hg
  subst ea
  have hg := hg'
  clear hg'
  obtain ⟨v, fp, rfl, w⟩ := hr.one
  unfold dRepr at hg
  split at hg
  · rename_i p hp
    split at hg
    · rename_i hc
      cases hg
      exact ⟨v, p, rfl, w.dp hK hp, hc.1, hc.2.1, hc.2.2, q F H _ [] (.atom hd rfl)⟩
    · cases hg
  · cases hg⟩
end
end VL
/-! VL15: calls with keywords; new instances. -/
namespace VL
open PySem PySem.Spec PyProof.Rows L2

def pick {α : Type} : List Nat → List α → List α
  | [], _ => []
  | i :: is, xs => match xs[i]? with
    | some a => a :: pick is xs
    | none => pick is xs
theorem Vals.pick {vs : List V} {us : List Value} (r : Vals vs us) : ∀ is : List Nat, Vals (VL.pick is vs) (VL.pick is us)
  | [] => .nil
  | i :: is => by
    unfold VL.pick
    cases e : vs[i]? with
    | none =>
      have := r.none_of e
      rw [this]
      exact Vals.pick r is
    | some v =>
      obtain ⟨u, hu, ru⟩ := r.get e
      rw [hu]
      exact .cons ru (Vals.pick r is)
theorem AOk.get {G : Gm} {x y : Stt} {vs : List V} {l : List (D × Kd)} (h : AOk G x y vs l) : ∀ i : Nat, (vs[i]? = none ∧ l[i]? = none) ∨ ∃ v d k fv, vs[i]? = some v ∧ l[i]? = some (d, k) ∧ Own G y.F y.H v d fv ∧ KdOk x y k fv ∧ Src y v d k := by
  induction h with
  | nil => intro i; exact .inl ⟨by simp, by simp⟩
  | cons w kd sr _ ih =>
    intro i
    cases i with
    | zero => exact .inr ⟨_, _, _, _, rfl, rfl, w, kd, sr⟩
    | succ i => simpa using ih i
theorem AOk.pick {G : Gm} {x y : Stt} {vs : List V} {l : List (D × Kd)} (h : AOk G x y vs l) : ∀ is : List Nat, AOk G x y (VL.pick is vs) (VL.pick is l)
  | [] => .nil
  | i :: is => by
    unfold VL.pick
    rcases h.get i with ⟨e1, e2⟩ | ⟨v, d, k, fv, e1, e2, w, kd, sr⟩
    · rw [e1, e2]; exact AOk.pick h is
    · rw [e1, e2]; exact .cons w kd sr (AOk.pick h is)
theorem AOk.append {G : Gm} {x y : Stt} {vs ws : List V} {l m : List (D × Kd)} (h : AOk G x y vs l) (h2 : AOk G x y ws m) : AOk G x y (vs ++ ws) (l ++ m) := by
  induction h with
  | nil => exact h2
  | cons w kd sr _ ih => exact .cons w kd sr ih
theorem AOk.length {G : Gm} {x y : Stt} {vs : List V} {l : List (D × Kd)} (h : AOk G x y vs l) : vs.length = l.length := by
  induction h with
  | nil => rfl
  | cons _ _ _ _ ih => simp [ih]
/-- how a call with n values and the keywords ks binds: the parameters in their order are picked at the places perm -/
def KB (K : PySem.W.Frag) (fd : FuncData) (ps ks : List Str) (n : Nat) (perm : List Nat) : Prop :=
  ∀ (s : Shared) (us ws : List Value), K.In s.heap → us.length = n → ws.length = ks.length → BindsTo s fd ⟨us, ks.zip ws⟩ (ps.zip (pick perm (us ++ ws)))
theorem kb_of {K : PySem.W.Frag} {x qual : Str} {st : Stmt} {f : Addr} {fd : FuncData} {ps ks : List Str} {n : Nat} {perm : List Nat} (F : Fun K x qual st f fd)
    (h : ∀ (kV doc pm : Value) (an : Option Addr) (cdv ct : Value) (us ws : List Value), us.length = n → ws.length = ks.length → bindArgs (PySem.W.fnOf x qual (defArgs st) (defBody st) (defScope st) .none kV doc pm an cdv ct) ⟨us, ks.zip ws⟩ = pure (ps.zip (pick perm (us ++ ws)))) : KB K fd ps ks n perm := by
  obtain ⟨oc, od, kV, doc, pm, an, cdv, ct, osl, rfl, lk, hcd⟩ := F.ex
  exact fun s us ws _ h1 h2 => .of_eq (h kV doc pm an cdv ct us ws h1 h2)
def tCallKS (sp : Sp) (perm : List Nat) (n m : Nat) (E : St → XK) (t tk : TA) : TE := fun σ H Q => t σ H fun vs H1 => tk σ H1 fun zs H2 => vs.length = n ∧ zs.length = m ∧ sp (pick perm (vs ++ zs)) H2 Q (E σ)
section
variable {X : Cx} {k n : Nat} {f C : Addr} {fd : FuncData} {ps ks : List Str} {sp : Sp} {E : St → XK} {perm : List Nat}
theorem runKG {pins : List (Addr × Obj)} {σ : St} {J : Hp} {t : Shared} {R : VK} {us ws : List Value} {vs zs : List V} (F : FnG X.prog X.w X.K X.mg X.base k f fd ps sp) (rg : RoomG k X.A) (hb : KB X.K fd ps ks n perm) (hx : PassesAt (L2.CX X.prog X.w) X σ (E σ))
    (I : Inv X pins σ J t) (rv : Vals vs us) (rz : Vals zs ws) (l1 : vs.length = n) (l2 : zs.length = ks.length) (q : sp (pick perm (vs ++ zs)) J R (E σ)) : wpAny (model X.prog X.w) X.A (PySem.call (.ref f) us (ks.zip ws)) (EP X pins σ R) X.xe t := by
  have bd := hb t us ws I.kIn (by rw [← rv.length]; exact l1) (by rw [← rz.length]; exact l2)
  refine wpAny_call (codeAny_mono (F.go X.A X.stack t J ⟨us, ks.zip ws⟩ (pick perm (us ++ ws)) (pick perm (vs ++ zs)) R (E σ) rg I.env0 bd (VL.Vals.pick (rv.append rz) perm) q) ?_)
  intro r t' hq
  match r, hq with
  | .error e, hq => exact hx pins J t e t' I hq
  | .ok (.ret u), hq => exact I.after hq
  | .ok .next, hq => exact False.elim hq
  | .ok .brk, hq => exact False.elim hq
  | .ok .cont, hq => exact False.elim hq
theorem callKG0 {x : Str} {p pos : Pos} {kws : List Keyword} {tk : TA} (F : FnG X.prog X.w X.K X.mg X.base k f fd ps sp) (rg : RoomG k X.A) (hg : Gl X x) (hm : X.mg x = some (.ref f)) (hk : PySem.W.keepIn X.K (.ref f) = true) (hb : KB X.K fd ps ks 0 perm) (hx : ∀ σ, PassesAt (L2.CX X.prog X.w) X σ (E σ))
    (hkw : PK X kws tk) (hall : (backToKw pos (keywordEach kws X.env)).all (·.1.isSome) = true := by rfl) (hks : (backToKw pos (keywordEach kws X.env)).filterMap (·.1) = ks := by rfl) (hdb : (x == ("__debug__" : Str)) = false := by decide)
    (hpl : ((backTo pos (starEach [] X.env)).any (·.1) || (backToKw pos (keywordEach kws X.env)).any (·.1.isNone)) = false := by rfl) :
    PE X (.Call (.Name x p) [] kws pos) (tCallKS sp perm 0 ks.length E tNil tk) := by
  constructor
  intro pins t0 σ J R I h
  refine wpAny_Call_Name_kw (ld_glob I hg hm ?_ hdb)
  refine PySem.W.callWith_KW0 (h₀ := X.base) I.ok.mod.kin hk hall (thn (hkw.run pos pins t0 σ J _ I h) ?_) hpl
  rintro ws t1 ⟨zs, J1, I1, rz, l1, l2, q⟩
  refine ⟨I1.kIn, ?_⟩
  rw [hks]
  exact runKG F rg hb (hx σ) I1 .nil rz l1 l2 q
theorem callKG1 {x : Str} {p pos : Pos} {e : Expr} {es : List Expr} {kws : List Keyword} {t tk : TA} (F : FnG X.prog X.w X.K X.mg X.base k f fd ps sp) (rg : RoomG k X.A) (hg : Gl X x) (hm : X.mg x = some (.ref f)) (hk : PySem.W.keepIn X.K (.ref f) = true) (hb : KB X.K fd ps ks n perm) (hx : ∀ σ, PassesAt (L2.CX X.prog X.w) X σ (E σ))
    (ha : PA X (e :: es) t) (hkw : PK X kws tk) (hall : (backToKw pos (keywordEach kws X.env)).all (·.1.isSome) = true := by rfl) (hks : (backToKw pos (keywordEach kws X.env)).filterMap (·.1) = ks := by rfl) (hdb : (x == ("__debug__" : Str)) = false := by decide)
    (he : starEach (e :: es) X.env = (false, eval e X.env) :: starEach es X.env := by rfl)
    (hpl : ((backTo pos (starEach (e :: es) X.env)).any (·.1) || (backToKw pos (keywordEach kws X.env)).any (·.1.isNone)) = false := by rfl) :
    PE X (.Call (.Name x p) (e :: es) kws pos) (tCallKS sp perm n ks.length E t tk) := by
  constructor
  intro pins t0 σ J R I h
  refine wpAny_Call_Name_kw (ld_glob I hg hm ?_ hdb)
  refine PySem.W.callWith_KW (h₀ := X.base) I.ok.mod.kin hk hall (thn (ha.run pos pins t0 σ J _ I h) ?_) hpl he
  rintro us t1 ⟨vs, J1, I1, rv, q⟩
  refine thn (hkw.run pos pins t1 σ J1 _ I1 q) ?_
  rintro ws t2 ⟨zs, J2, I2, rz, l1, l2, q2⟩
  refine ⟨I2.kIn, ?_⟩
  rw [hks]
  exact runKG F rg hb (hx σ) I2 rv rz l1 l2 q2
end
section
variable {X : Cx} {G : Gm} {W : WX}
theorem PK.of {e : List Keyword} {t u : TA} (h : PK X e t) (i : ∀ σ H Q, u σ H Q → t σ H Q) : PK X e u := ⟨fun pos pins s σ H Q I w => h.run pos pins s σ H Q I (i σ H Q w)⟩
theorem r_knil : PK X [] (tA G W true aN) := PK.of pk_nil fun σ H Q ⟨x, e1, e2, hi, q⟩ => by
  subst e1 e2
  exact q x [] rfl hi .refl .nil
theorem tA_cons {s t : Bool} {f : EE} {g : AE} {σ H Q} (h : tA G W (s && t) (aC t f g) σ H Q) : tCons (tS G W s f) (tA G W t g) σ H Q := by
  obtain ⟨x, rfl, rfl, hi, q⟩ := h
  refine ⟨x, rfl, rfl, hi, ?_⟩
  unfold aC at q
  cases h1 : f x.rho with
  | bad => simp only [h1, Res.bind_bad] at q
  | err c d ρ' =>
    simp only [h1, Res.bind_err] at q
    intro y cls dx hρ iy ey hev
    refine q y cls dx hρ iy { ey with st := fun z => ey.st (by simp only [Bool.and_eq_true] at z; exact z.1) } hev
  | ok r =>
    obtain ⟨d, k, ρ1⟩ := r
    simp only [h1, Res.bind_ok] at q
    intro y v fv hρ P
    refine ⟨y, P.ext.sg, rfl, P.inv, ?_⟩
    by_cases hb : k = .br ∧ t = false
    · rw [if_pos hb] at q; exact q.elim
    · rw [if_neg hb] at q
      rw [hρ]
      cases h2 : g ρ1 with
      | bad => simp only [h2, Res.bind_bad] at q
      | err c d' ρ' =>
        simp only [h2, Res.bind_err] at q
        exact fun z cls dx hz iz ez hev => q z cls dx hz iz (P.ext.trans hi P.inv ez) hev
      | ok r2 =>
        obtain ⟨l, ρ2⟩ := r2
        simp only [h2, Res.bind_ok] at q
        intro z vs hz iz ez az
        have hk : k = .br → t = true := fun e => by
          cases t with
          | true => rfl
          | false => exact absurd ⟨e, rfl⟩ hb
        obtain ⟨w', kd', sr'⟩ := carry P.inv P.ext.dm P.own P.kd ez P.src hk
        exact q z (v :: vs) hz iz (P.ext.trans hi P.inv ez) (.cons w' kd' sr' (az.older P.ext.dm))
theorem r_kcons {nm : Option Str} {kpos : Pos} {e : Expr} {kws : List Keyword} {s t : Bool} {f : EE} {g : AE} (ha : PE X e (tS G W s f)) (hr : PK X kws (tA G W t g)) : PK X (⟨nm, e, kpos⟩ :: kws) (tA G W (s && t) (aC t f g)) :=
  PK.of (pk_cons ha hr) fun σ H Q h => tA_cons h
def xCallK (m : FA) (perm : List Nat) (s2 : Bool) (f fk : AE) : EE := fun ρ => do
  let (l1, ρ1) ← f ρ
  if (l1.any fun dk => decide (dk.2 = .br)) = true ∧ s2 = false then .bad else do
    let (l2, ρ2) ← fk ρ1
    let l := pick perm (l1 ++ l2)
    if argsOk l = true then
      match m (l.map argS) with
      | .ok (d, k) => if k = .br then .bad else .ok (d, k, ρ2)
      | .err c d _ => .err c d ρ2
      | .bad => .bad
    else .bad
theorem tS_callK {np n j : Nat} {m : FA} {perm : List Nat} {s s2 : Bool} {f fk : AE} {σ H Q} (h : tS G W (s && s2) (xCallK m perm s2 f fk) σ H Q) (hn : ALen n f) (hj : ALen j fk) (hp : ∀ l : List (D × Kd), l.length = n + j → (pick perm l).length = np) :
    tCallKS (spA G np m) perm n j (fun σ => WE W σ) (tA G W s f) (tA G W s2 fk) σ H Q := by
  obtain ⟨x, rfl, rfl, hx, q⟩ := h
  refine ⟨x, rfl, rfl, hx, ?_⟩
  unfold xCallK at q
  cases e : f x.rho with
  | bad => simp only [e, Res.bind_bad] at q
  | err c d ρ' =>
    simp only [e, Res.bind_err] at q
    exact fun y cls dx hρ iy ey hev => q y cls dx hρ iy (ey.weak fun z => by simp only [Bool.and_eq_true] at z; exact z.1) hev
  | ok r =>
    obtain ⟨l1, ρ1⟩ := r
    simp only [e, Res.bind_ok] at q
    intro y vs hρ iy ey ay
    by_cases hb : (l1.any fun dk => decide (dk.2 = .br)) = true ∧ s2 = false
    · rw [if_pos hb] at q; exact q.elim
    rw [if_neg hb] at q
    refine ⟨y, ey.sg, rfl, iy, ?_⟩
    rw [hρ]
    cases e2 : fk ρ1 with
    | bad => simp only [e2, Res.bind_bad] at q
    | err c d ρ' =>
      simp only [e2, Res.bind_err] at q
      exact fun z cls dx hz iz ez hev => q z cls dx hz iz (ey.trans hx iy ez) hev
    | ok r2 =>
      obtain ⟨l2, ρ2⟩ := r2
      simp only [e2, Res.bind_ok] at q
      intro z zs hz iz ez az
      have ay' : AOk G x z vs l1 := ay.carry iy ey.dm ez fun dk hdk hbr => by
        cases s2 with
        | true => rfl
        | false => exact absurd ⟨List.any_eq_true.mpr ⟨dk, hdk, by simp [hbr]⟩, rfl⟩ hb
      have all := (ay'.append (az.older ey.dm)).pick perm
      have exz := ey.trans hx iy ez
      refine ⟨by rw [ay.length]; exact hn _ _ _ e, by rw [az.length]; exact hj _ _ _ e2, ?_⟩
      by_cases hl : argsOk (pick perm (l1 ++ l2)) = true
      · rw [if_pos hl] at q
        obtain ⟨c, hc, hcρ, hcp, f1, f2⟩ := enterA (s := s && s2) iz all hl
        rw [hp _ (by rw [List.length_append, hn _ _ _ e, hj _ _ _ e2])] at hc
        refine ⟨c, hc, hcp, ?_⟩
        rw [hcρ]
        cases e3 : m ((pick perm (l1 ++ l2)).map argS) with
        | bad => simp only [e3] at q
        | err c' d ρ' =>
          simp only [e3] at q
          intro u cls dx hu iu eu hev
          obtain ⟨i1, e1⟩ := leaveA hx iz exz hc.H f1 f2 iu eu
          have := q { z with F := u.F, H := u.H } cls dx hz i1 e1 hev
          exact this
        | ok r3 =>
          obtain ⟨d, k⟩ := r3
          simp only [e3] at q
          intro u v fv hu P hk
          rw [if_neg hk] at q
          exact q { z with F := u.F, H := u.H } v fv hz (leaveA_post hx iz exz hc.H f1 f2 P hk)
      · rw [if_neg hl] at q; exact q.elim
theorem pick_len {perm : List Nat} {n : Nat} (h : perm.all (fun i => decide (i < n)) = true) : ∀ {α : Type} (l : List α), l.length = n → (pick perm l).length = perm.length := by
  intro α l hl
  induction perm with
  | nil => rfl
  | cons i is ih =>
    simp only [List.all_cons, Bool.and_eq_true, decide_eq_true_eq] at h
    unfold pick
    have : l[i]? = some (l[i]'(by omega)) := List.getElem?_eq_getElem (by omega)
    rw [this]
    simp [ih h.2]
theorem r_callK0 {x : Str} {p pos : Pos} {kws : List Keyword} {k j : Nat} {fa : Addr} {fd : FuncData} {ps ks : List Str} {perm : List Nat} {m : FA} {s2 : Bool} {fk : AE} (tk : Takes X W) (F : FnG X.prog X.w X.K X.mg X.base k fa fd ps (spA G ps.length m)) (hr : RoomG k X.A) (hg : Gl X x) (hm : X.mg x = some (.ref fa)) (hk : PySem.W.keepIn X.K (.ref fa) = true) (hb : KB X.K fd ps ks 0 perm)
    (hkw : PK X kws (tA G W s2 fk)) (hj : ALen j fk) (hjk : ks.length = j := by rfl) (hpl' : perm.all (fun i => decide (i < 0 + j)) = true := by decide) (hps : perm.length = ps.length := by rfl) (hall : (backToKw pos (keywordEach kws X.env)).all (·.1.isSome) = true := by rfl) (hks : (backToKw pos (keywordEach kws X.env)).filterMap (·.1) = ks := by rfl) (hdb : (x == ("__debug__" : Str)) = false := by decide)
    (hpl : ((backTo pos (starEach [] X.env)).any (·.1) || (backToKw pos (keywordEach kws X.env)).any (·.1.isNone)) = false := by rfl) :
    PE X (.Call (.Name x p) [] kws pos) (tS G W (true && s2) (xCallK m perm s2 aN fk)) :=
  PE.of (callKG0 F hr hg hm hk hb (fun σ => passAt tk σ) hkw hall hks hdb hpl) fun σ H Q h => by
    have q := tS_callK (np := ps.length) (n := 0) (j := j) h alen_nil hj fun l hl => by rw [← hps]; exact pick_len hpl' l hl
    rw [hjk]
    obtain ⟨x, rfl, rfl, hx, q⟩ := q
    exact q x [] rfl hx .refl .nil
theorem r_callK1 {x : Str} {p pos : Pos} {e : Expr} {es : List Expr} {kws : List Keyword} {k n j : Nat} {fa : Addr} {fd : FuncData} {ps ks : List Str} {perm : List Nat} {m : FA} {s s2 : Bool} {f fk : AE} (tk : Takes X W) (F : FnG X.prog X.w X.K X.mg X.base k fa fd ps (spA G ps.length m)) (hr : RoomG k X.A) (hg : Gl X x) (hm : X.mg x = some (.ref fa)) (hk : PySem.W.keepIn X.K (.ref fa) = true) (hb : KB X.K fd ps ks n perm)
    (ha : PA X (e :: es) (tA G W s f)) (hkw : PK X kws (tA G W s2 fk)) (hn : ALen n f) (hj : ALen j fk) (hjk : ks.length = j := by rfl) (hpl' : perm.all (fun i => decide (i < n + j)) = true := by decide) (hps : perm.length = ps.length := by rfl) (hall : (backToKw pos (keywordEach kws X.env)).all (·.1.isSome) = true := by rfl) (hks : (backToKw pos (keywordEach kws X.env)).filterMap (·.1) = ks := by rfl) (hdb : (x == ("__debug__" : Str)) = false := by decide)
    (he : starEach (e :: es) X.env = (false, eval e X.env) :: starEach es X.env := by rfl)
    (hpl : ((backTo pos (starEach (e :: es) X.env)).any (·.1) || (backToKw pos (keywordEach kws X.env)).any (·.1.isNone)) = false := by rfl) :
    PE X (.Call (.Name x p) (e :: es) kws pos) (tS G W (s && s2) (xCallK m perm s2 f fk)) :=
  PE.of (callKG1 F hr hg hm hk hb (fun σ => passAt tk σ) ha hkw hall hks hdb he hpl) fun σ H Q h => by
    have q := tS_callK (np := ps.length) (n := n) (j := j) h hn hj fun l hl => by rw [← hps]; exact pick_len hpl' l hl
    rw [hjk]
    exact q
end
end VL
/-! VL16: new instances; objects that change in their slots. -/
namespace VL
open PySem PySem.Spec PyProof.Rows L2

theorem make_guards {A : Around} {C : Addr} {us : List Value} {kw : List (Str × Value)} (h : A.guards = some []) : (A.under (.builtin "type.__call__" ⟨.ref C :: us, kw⟩)).guards = some [] := by
  show pushGuards (Code.guards (.builtin "type.__call__" ⟨.ref C :: us, kw⟩)) A.guards = some []
  rw [h]
  have e : Code.guards (.builtin "type.__call__" ⟨.ref C :: us, kw⟩) = [] := by
    unfold Code.guards
    rw [if_neg]
    show ¬ (guardIds.contains "type.__call__" = true)
    decide +kernel
  rw [e]; rfl
theorem RoomG.make {k : Nat} {A : Around} (r : RoomG (k + 1) A) (C : Addr) (us : List Value) (kw : List (Str × Value)) : RoomG k (A.under (.builtin "type.__call__" ⟨.ref C :: us, kw⟩)) := ⟨r.room.make C us kw, make_guards r.g⟩
def tMakeS (C : Addr) (sp : Sp) (E : St → XK) (t : TA) : TE := fun σ H Q => t σ H fun vs H1 => ∀ x dx, H1 x = none → H1 dx = none → dx ≠ x →
  sp (.ref x :: vs) (upd (upd H1 dx (.own x)) x (.ins C dx [])) (fun v H2 => v = .non ∧ Q (.ref x) H2) (E σ)
section
variable {X : Cx} {k : Nat} {f C : Addr} {fd : FuncData} {ps : List Str} {sp : Sp} {E : St → XK}
theorem runMk {pins : List (Addr × Obj)} {σ : St} {J : Hp} {t : Shared} {R : VK} {us : List Value} {vs : List V} (M : Mk X.K C f) (F : FnG X.prog X.w X.K X.mg X.base k f fd ps sp) (rg : RoomG (k + 1) X.A) (hb : Binds X.K fd ps []) (hx : PassesAt (L2.CX X.prog X.w) X σ (E σ))
    (I : Inv X pins σ J t) (rv : Vals vs us) (q : ∀ x dx, J x = none → J dx = none → dx ≠ x → sp (.ref x :: vs) (upd (upd J dx (.own x)) x (.ins C dx [])) (fun v H2 => v = .non ∧ R (.ref x) H2) (E σ)) :
    wpAny (model X.prog X.w) X.A (PySem.call (.ref C) us) (EP X pins σ R) X.xe t := by
  have q0 := q (t.heap.objs.size + 1) t.heap.objs.size (I.hok.fresh (Nat.le_succ _)) (I.hok.fresh (Nat.le_refl _)) (Nat.ne_of_lt (Nat.lt_succ_self _))
  have I2 := Inv.made (C := C) I
  have r2 : Vals (V.ref (t.heap.objs.size + 1) :: vs) (Value.ref (t.heap.objs.size + 1) :: us) := .cons rfl rv
  have nl : (Value.ref (t.heap.objs.size + 1) :: us).length = ps.length := by rw [← r2.length]; exact F.len _ _ _ _ q0
  have bd := hb _ (Value.ref (t.heap.objs.size + 1) :: us) I2.kIn (by simpa using nl)
  rw [List.append_nil] at bd
  refine wpAny_call (make_map (f := f) I.kIn M.makes M.init (beq_iff_eq.mp M.fn) (codeAny_mono (F.go _ X.stack _ _ ⟨_, []⟩ _ _ _ (E σ) (rg.make C us []) (I2.env0.make C us []) bd r2 q0) ?_))
  intro r t' hq
  match r, hq with
  | .error e, hq => exact hx pins _ _ e t' I2 hq
  | .ok (.ret u), hq =>
    obtain ⟨v, J', I3, rr, ev, q3⟩ := I2.after hq
    subst ev
    exact ⟨rr, ⟨V.ref (t.heap.objs.size + 1), J', I3, rfl, q3⟩⟩
  | .ok .next, hq => exact False.elim hq
  | .ok .brk, hq => exact False.elim hq
  | .ok .cont, hq => exact False.elim hq
theorem makeG {x : Str} {p pos : Pos} {e : Expr} {es : List Expr} {t : TA} (M : Mk X.K C f) (F : FnG X.prog X.w X.K X.mg X.base k f fd ps sp) (rg : RoomG (k + 1) X.A) (hg : Gl X x) (hm : X.mg x = some (.ref C)) (hb : Binds X.K fd ps []) (hx : ∀ σ, PassesAt (L2.CX X.prog X.w) X σ (E σ))
    (ha : PA X (e :: es) t) (hdb : (x == ("__debug__" : Str)) = false := by decide) (he : starEach (e :: es) X.env = (false, eval e X.env) :: starEach es X.env := by rfl) (hpl : (backTo pos (starEach es X.env)).any (·.1) = false := by rfl) :
    PE X (.Call (.Name x p) (e :: es) [] pos) (tMakeS C sp E t) := by
  constructor
  intro pins t0 σ J R I h
  refine wpAny_Call_Name_kw (ld_glob I hg hm ?_ hdb)
  refine PySem.W.callWith_K (h₀ := X.base) I.ok.mod.kin M.kp (thn (ha.run pos pins t0 σ J _ I h) ?_) he hpl
  rintro us t1 ⟨vs, J1, I1, rv, q⟩
  exact ⟨I1.kIn, runMk M F rg hb (hx σ) I1 rv q⟩
end
def xMake (cn : Nat) (m : FB) (f : AE) : EE := fun ρ => do
  let (l, ρ1) ← f ρ
  if argsOk l = true then
    match m (some (.ins cn [], .pn) :: l.map argS) with
    | .ok (.non, _, d1) => if d1.isDrw = true then .bad else .ok (d1, .ow, ρ1)
    | .err c d ρ' => match err1 ρ' with
      | some _ => .err c d ρ1
      | none => .bad
    | _ => .bad
  else .bad
section
variable {X : Cx} {G : Gm} {W : WX}
/-- the state at a new instance's __init__ -/
theorem enterMk {s : Bool} {x y : Stt} {vs : List V} {l : List (D × Kd)} {cn : Nat} {C a dx : Addr} (hy : SInv G y) (h : AOk G x y vs l) (hl : argsOk l = true) (hC : G.cm cn = some C) (ha : y.H a = none) (hd : y.H dx = none) (hne : dx ≠ a) :
    ∃ c : Stt, ArgA G (l.length + 1) (.ref a :: vs) (upd (upd y.H dx (.own a)) a (.ins C dx [])) c ∧ c.rho = some (.ins cn [], .pn) :: l.map argS ∧ c.p = [a] ∧ (∀ b, y.F b → c.F b) ∧ (∀ b, c.F b → y.F b ∨ (x.H b = none ∧ b ∉ y.o ∧ b ∉ y.p ∧ b ∉ y.b)) ∧ (∀ b o, y.H b = some o → c.H b = some o) ∧ ¬ c.F a := by
  simp only [argsOk, Bool.and_eq_true, decide_eq_true_eq] at hl
  obtain ⟨fs, b, q1, q2, q3, q4, q5⟩ := h.enter hl.1 hl.2
  have kp : ∀ b o, y.H b = some o → upd (upd y.H dx (.own a)) a (.ins C dx []) b = some o := fun b o e => by
    rw [upd_ne (ne_of_none e ha), upd_ne (ne_of_none e hd)]; exact e
  have nF : ¬ (y.F a ∨ a ∈ fs) := fun f => by
    rcases f with f | f
    · obtain ⟨o, e, _⟩ := hy.dom a f; rw [ha] at e; cases e
    · obtain ⟨⟨⟨o, e, _⟩, _⟩, _⟩ := q1 a f; rw [ha] at e; cases e
  have nb : a ∉ b := fun z => by
    obtain ⟨_, o, e, _⟩ := hy.there (q2 a z); rw [ha] at e; cases e
  refine ⟨⟨fun c => y.F c ∨ c ∈ fs, some (.ins cn [], .pn) :: l.map argS, (V.ref a :: vs).map some, upd (upd y.H dx (.own a)) a (.ins C dx []), [], [a] ++ [], b⟩, ⟨rfl, rfl, ⟨.pn (.ow nF ⟨C, dx, [], upd_same, hC, rfl, .nil⟩) (by simp) (q5.keep (fun _ h => h) (fun c o _ e _ => kp c o e) fun c hc => ⟨(q5.there c hc).1, fun o e _ => kp c o e⟩), ?_, fun c f => ?_, hy.tb.ext kp⟩, by simp, rfl⟩, rfl, by simp, fun _ h => .inl h, fun c f => ?_, kp, nF⟩
  · simp only [List.nil_append, List.append_nil]
    exact List.nodup_append.mpr ⟨by simp, q3, fun c hc d hd e => nb (by simp at hc; subst hc; subst e; exact hd)⟩
  · rcases f with f | f
    · obtain ⟨o, e, t⟩ := hy.dom c f; exact ⟨o, kp c o e, t⟩
    · obtain ⟨⟨⟨o, e, t⟩, _⟩, _⟩ := q1 c f; exact ⟨o, kp c o e, t⟩
  · rcases f with f | f
    · exact .inl f
    · exact .inr ⟨(q1 c f).2, (q1 c f).1.2⟩
theorem leaveMk {s : Bool} {x y c u : Stt} {a dx : Addr} {C : Addr} (hx : SInv G x) (hy : SInv G y) (e : Ext s x y) (ha : y.H a = none) (hd : y.H dx = none) (hcH : c.H = upd (upd y.H dx (.own a)) a (.ins C dx [])) (hco : c.o = []) (hcp : c.p = [a]) (f1 : ∀ b, y.F b → c.F b) (f2 : ∀ b, c.F b → y.F b ∨ (x.H b = none ∧ b ∉ y.o ∧ b ∉ y.p ∧ b ∉ y.b)) (kp : ∀ b o, y.H b = some o → c.H b = some o)
    (iu : SInv G u) (eu : Ext false c u) : SInv G { y with F := u.F, H := u.H } ∧ Ext s x { y with F := u.F, H := u.H } := by
  have ku : Kept [] y.H u.H := fun b o h _ t => by
    have := eu.kp b o (kp b o h) (by rw [hco, hcp]; simp only [List.nil_append, List.mem_singleton]; rintro rfl; rw [ha] at h; cases h) t
    exact this
  have hf : ∀ b, y.F b → u.F b := fun b f => eu.f1 b (f1 b f)
  have hdm : ∀ b, u.H b = none → y.H b = none := fun b q => by
    have h1 := eu.dm b q
    cases h2 : y.H b with
    | none => rfl
    | some o => rw [kp b o h2] at h1; cases h1
  have hcn : ∀ b, c.H b = none → y.H b = none := fun b q => by
    cases h2 : y.H b with
    | none => rfl
    | some o => rw [kp b o h2] at q; cases q
  have inv : SInv G { y with F := u.F, H := u.H } := by
    refine ⟨hy.sl.keep hf (fun b o f e t => ku b o e (by simp) t) fun b hb => ⟨fun f => ?_, fun o e t => ku b o e (by simp) t⟩, hy.nd, iu.dom, iu.tb⟩
    obtain ⟨nf, o, e', _⟩ := hy.sl.there b hb
    rcases eu.f2 b f with q | q
    · rcases f2 b q with q | q
      · exact nf q
      · rcases hb with z | z | z
        · exact q.2.1 z
        · exact q.2.2.1 z
        · exact q.2.2.2 z
    · have := hcn b q; rw [e'] at this; cases this
  refine ⟨inv, ⟨e.sg, e.kp.trans (m' := []) ku (by simp), fun b f => hf b (e.f1 b f), fun b f => ?_, e.o1, e.p1, e.b1, fun b q => e.dm b (hdm b q), e.lk, fun q => ?_⟩⟩
  · rcases eu.f2 b f with q | q
    · rcases f2 b q with q | q
      · exact e.f2 b q
      · exact .inr q.1
    · exact .inr (e.dm b (hcn b q))
  · obtain ⟨r1, k1, o1⟩ := e.st q
    exact ⟨r1, k1.trans ku (by simp), o1⟩
theorem tS_make {np cn : Nat} {C : Addr} {m : FB} {s : Bool} {f : AE} {σ H Q} (h : tS G W s (xMake cn m f) σ H Q) (hn : ALen np f) (hC : G.cm cn = some C) : tMakeS C (spB G (np + 1) m) (fun σ => WE W σ) (tA G W s f) σ H Q := by
  obtain ⟨x, rfl, rfl, hx, q⟩ := h
  refine ⟨x, rfl, rfl, hx, ?_⟩
  unfold xMake at q
  cases e : f x.rho with
  | bad => simp only [e, Res.bind_bad] at q
  | err c d ρ' => simp only [e, Res.bind_err] at q; exact q
  | ok r =>
    obtain ⟨l, ρ1⟩ := r
    simp only [e, Res.bind_ok] at q
    intro y vs hρ iy ey ay a dx ha hd hne
    by_cases hl : argsOk l = true
    · rw [if_pos hl] at q
      obtain ⟨c, a1, a2, a3, a4, a5, a6, a7⟩ := enterMk (s := s) iy ay hl hC ha hd hne
      have a1' := a1
      rw [hn _ _ _ e] at a1
      refine ⟨c, .ins cn [], l.map argS, a1, a2, noPn_args l, ?_⟩
      rw [a2]
      cases e2 : m (some (.ins cn [], .pn) :: l.map argS) with
      | bad => simp only [e2] at q
      | err c' d ρ' =>
        simp only [e2] at q
        cases h1 : err1 ρ' with
        | none => simp only [h1] at q
        | some d1 =>
          simp only [h1] at q
          refine ⟨d1, h1, fun u cls dx' hu iu eu hev => ?_⟩
          obtain ⟨i1, e1⟩ := leaveMk hx iy ey ha hd a1.H a1.o a3 a4 a5 a6 iu eu
          exact q { y with F := u.F, H := u.H } cls dx' hρ i1 e1 hev
      | ok r2 =>
        obtain ⟨d, k, d1⟩ := r2
        simp only [e2] at q
        cases d <;> first | exact q.elim | skip
        case non =>
          simp only at q
          have hdr : d1.isDrw = false := by
            cases hh : d1.isDrw with
            | false => rfl
            | true => simp only [hh, if_true] at q
          simp only [hdr, Bool.false_eq_true, if_false] at q
          intro u v fv hu P hk
          refine ⟨P.own.non_of, ?_⟩
          obtain ⟨i1, e1⟩ := leaveMk hx iy ey ha hd a1.H a1.o a3 a4 a5 a6 P.inv P.ext
          have us := P.inv.sl
          have hσ : u.sg = (V.ref a :: vs).map some := P.ext.sg.trans a1.sg
          have hp : u.p = [a] := P.ext.p1.trans a3
          rw [hu, hσ, hp] at us
          have gen : ∀ {ρ σ o p b}, Slots G u.F u.H ρ σ o p b → ρ = some (d1, .pn) :: l.map argS → σ = some (.ref a) :: vs.map some → Own G u.F u.H (.ref a) d1 p := by
            intro ρ σ o p b hs e1 e2
            cases hs with
            | nil => cases e1
            | none _ => cases e1
            | fz _ _ => cases e1
            | ow _ _ _ => cases e1
            | lk _ _ => cases e1
            | pn w' n' hs =>
              cases e1
              cases e2
              have := hs.noPn (noPn_args l)
              rw [this, List.append_nil]
              exact w'
          have w' := gen us rfl rfl
          refine q { y with F := u.F, H := u.H } (.ref a) [a] hρ ⟨i1, e1, w', ⟨by simp, fun b hb => ?_⟩, .ow⟩
          have : b = a := by simpa using hb
          subst this
          refine ⟨ey.dm b ha, fun z => ?_, fun z => ?_, fun z => ?_⟩
          · obtain ⟨_, o, e', _⟩ := iy.there (.inl z); rw [ha] at e'; cases e'
          · obtain ⟨_, o, e', _⟩ := iy.there (.inr (.inl z)); rw [ha] at e'; cases e'
          · obtain ⟨_, o, e', _⟩ := iy.there (.inr (.inr z)); rw [ha] at e'; cases e'
    · rw [if_neg hl] at q; exact q.elim
theorem r_make {x : Str} {p pos : Pos} {e : Expr} {es : List Expr} {k cn np : Nat} {C fa : Addr} {fd : FuncData} {ps : List Str} {m : FB} {s : Bool} {f : AE} (tk : Takes X W) (M : Mk X.K C fa) (F : FnG X.prog X.w X.K X.mg X.base k fa fd ps (spB G ps.length m)) (hr : RoomG (k + 1) X.A) (hC : G.cm cn = some C) (hg : Gl X x) (hm : X.mg x = some (.ref C)) (hb : Binds X.K fd ps [])
    (ha : PA X (e :: es) (tA G W s f)) (hn : ALen np f) (hps : ps.length = np + 1 := by rfl) (hdb : (x == ("__debug__" : Str)) = false := by decide) (he : starEach (e :: es) X.env = (false, eval e X.env) :: starEach es X.env := by rfl) (hpl : (backTo pos (starEach es X.env)).any (·.1) = false := by rfl) :
    PE X (.Call (.Name x p) (e :: es) [] pos) (tS G W s (xMake cn m f)) :=
  PE.of (makeG M F hr hg hm hb (fun σ => passAt tk σ) ha hdb he hpl) fun σ H Q h => by
    have := tS_make h hn hC
    rw [← hps] at this
    exact this

/-! ### changes of the object in a slot -/
def MutR (G : Gm) (r : V → List V → Hp → VK → Prop) (g : D → List D → Option (D × D)) : Prop := ∀ F H a d0 vs ds d1 dr Q, Objs G F H a d0 → ¬ F a → Rep G F H vs ds → g d0 ds = some (d1, dr) →
  (∀ o' u, isTbl o' = false → Objs G F (upd H a o') a d1 → Rep G F (upd H a o') [u] [dr] → Q u (upd H a o')) → r (.ref a) vs H Q
def mutK (p : D → Bool) (i : Nat) (g : D → List D → Option (D × D)) (l : List (D × Kd)) (ρ1 : Env) : Res (D × Kd × Env) := match ρ1[i]? with
  | some (some (d0, fl1)) => if ownFl fl1 = true ∧ fzAll l = true ∧ p d0 = true then
      match g d0 (l.map (·.1)) with
      | some (d1, dr) => .ok (dr, .fz, ρ1.set i (some (d1, fl1)))
      | none => .bad
    else .bad
  | _ => .bad
/-- x.m(e, ..), x in slot i -/
def xMut (p : D → Bool) (i : Nat) (g : D → List D → Option (D × D)) (f : AE) : EE := fun ρ => match ρ[i]? with
  | some (some (d0, fl)) => if ownFl fl = true ∧ p d0 = true then (do
      let (l, ρ1) ← f ρ
      mutK p i g l ρ1) else .bad
  | _ => .bad
theorem Objs.noExt {F H a d} (h : Objs G F H a d) : ∃ o, H a = some o ∧ isTbl o = false ∧ ∀ φ, o ≠ .ext φ := by
  cases d <;> first | exact False.elim h | skip
  case lst es => obtain ⟨ws, e, _⟩ := h; exact ⟨_, e, rfl, fun _ z => by cases z⟩
  case dK es => obtain ⟨ws, e, _⟩ := h; exact ⟨_, e, rfl, fun _ z => by cases z⟩
  case dT es => obtain ⟨ws, e, _⟩ := h; exact ⟨_, e, rfl, fun _ z => by cases z⟩
  case ins c es => obtain ⟨C, dx, ws, e, _⟩ := h; exact ⟨_, e, rfl, fun _ z => by cases z⟩
theorem mut_post {s : Bool} {x y : Stt} {vs : List V} {l : List (D × Kd)} {i : Nat} {d0 d1 : D} {fl : Fl} {a : Addr} {o' : HO} (hx : SInv G x) (hy : SInv G y) (e : Ext s x y) (hi : y.rho[i]? = some (some (d0, fl))) (hfl : fl = .ow ∨ fl = .pn) (hv : y.sg[i]? = some (some (.ref a))) (w : Own G y.F y.H (.ref a) d0 [a]) (ob : Objs G y.F y.H a d0) (nF : ¬ y.F a) (ho : isTbl o' = false)
    (ob' : Objs G y.F (upd y.H a o') a d1) :
    SInv G { y with H := upd y.H a o', rho := y.rho.set i (some (d1, fl)) } ∧ Ext false x { y with H := upd y.H a o', rho := y.rho.set i (some (d1, fl)) } := by
  obtain ⟨o, eo, to, no⟩ := ob.noExt
  have hlen : i < y.rho.length := (List.getElem?_eq_some_iff.mp hi).1
  have s2 := hy.sl.mut (H' := upd y.H a o') hy.nd hi hfl hv w (by simp) (.ow nF ob') fun b ob h n _ => by
    rw [upd_ne (by simpa using n)]; exact h
  have ha : a ∈ y.o ∨ a ∈ y.p := by
    obtain ⟨v0, fp, e1, w1, _, n0, hm⟩ := hy.sl.get hi
    rw [hv] at e1; cases e1
    have := w.uniq w1
    subst this
    rcases hm a (by simp) with z | z | z
    · exact .inl z.2
    · exact .inr z.2
    · obtain ⟨z, _⟩ := z; rcases hfl with q | q <;> (rw [q] at z; cases z)
  have kp : Kept [a] y.H (upd y.H a o') := fun b ob h n _ => by rw [upd_ne (by simpa using n)]; exact h
  have dm : ∀ b, upd y.H a o' b = none → y.H b = none := fun b h => by
    by_cases eb : b = a
    · subst eb; rw [upd_same] at h; cases h
    · rwa [upd_ne eb] at h
  refine ⟨⟨s2, hy.nd, fun b f => ?_, tabs_upd hy.tb eo to no⟩, ⟨e.sg, e.kp.trans kp fun b hb => ?_, e.f1, e.f2, e.o1, e.p1, e.b1, fun b h => e.dm b (dm b h), fun j d' fl' e1 hf' => ?_, fun q => by cases q⟩⟩
  · have nb : b ≠ a := fun z => nF (z ▸ f)
    obtain ⟨o, h, t⟩ := hy.dom b f
    exact ⟨o, by show upd y.H a o' b = some o; rw [upd_ne nb]; exact h, t⟩
  · have : b = a := by simpa using hb
    subst this
    rcases ha with q | q
    · rcases e.o1 b q with q | q
      · exact .inl (by simp [q])
      · exact .inr q
    · rw [e.p1] at q; exact .inl (by simp [q])
  · obtain ⟨d2, e2, k2⟩ := e.lk j d' fl' e1 hf'
    by_cases hj : i = j
    · subst hj
      rw [hi] at e2; cases e2
      refine ⟨d1, List.getElem?_set_self hlen, fun z => ?_⟩
      rcases hfl with q | q <;> (rw [q] at z; cases z)
    · exact ⟨d2, by rw [List.getElem?_set_ne hj]; exact e2, k2⟩
/-- the object that an owned slot holds -/
theorem own_slot {y : Stt} {i : Nat} {d0 : D} {fl : Fl} {v : V} (hy : SInv G y) (hi : y.rho[i]? = some (some (d0, fl))) (hfl : fl = .ow ∨ fl = .pn) (hd : d0.isDrw = false) (hv : y.sg[i]? = some (some v)) : ∃ a, v = .ref a ∧ Own G y.F y.H (.ref a) d0 [a] ∧ Objs G y.F y.H a d0 ∧ ¬ y.F a := by
  obtain ⟨v0, fp, e1, w1, _, n0, hm⟩ := hy.sl.get hi
  rw [hv] at e1; cases e1
  cases w1 with
  | fz r => exact absurd rfl (n0 hfl)
  | ow f ob => exact ⟨_, rfl, .ow f ob, ob, f⟩
  | drw _ _ _ _ _ _ => cases hd
theorem kf_upd {F : Addr → Prop} {H : Hp} {a : Addr} {o' : HO} (nF : ¬ F a) : KeptF F H (upd H a o') := fun b o f e _ => by
  have nb : b ≠ a := fun z => nF (by rw [← z]; exact f)
  rw [upd_ne nb]; exact e
def D.isLst : D → Bool
  | .lst _ => true
  | _ => false
theorem tS_mut {T : String} {r : V → List V → Hp → VK → Prop} {p : D → Bool} {g : D → List D → Option (D × D)} {i : Nat} {s : Bool} {f : AE} {σ H Q} (hg : MutR G r g) (hp : ∀ d, p d = true → d.isDrw = false) (hty : ∀ {F H a d0}, Objs G F H a d0 → p d0 = true → tyV X.K T (.ref a) H)
    (h : tS G W false (xMut p i g f) σ H Q) : tBM X.K T r (tVar i) (tA G W s f) σ H Q := by
  obtain ⟨x, rfl, rfl, hx, q⟩ := h
  unfold xMut at q
  cases e0 : x.rho[i]? with
  | none => simp only [e0] at q
  | some sl =>
  cases sl with
  | none => simp only [e0] at q
  | some df =>
  obtain ⟨d00, fl0⟩ := df
  simp only [e0] at q
  by_cases hfl0 : ownFl fl0 = true ∧ p d00 = true
  · rw [if_pos hfl0] at q
    obtain ⟨v0, fp0, ev, _⟩ := hx.sl.get e0
    obtain ⟨a0, rfl, w0, ob0, nf0⟩ := own_slot hx e0 (ownFl_iff hfl0.1) (hp _ hfl0.2) ev
    refine ⟨.ref a0, ev, hty ob0 hfl0.2, x, rfl, rfl, hx, ?_⟩
    cases e : f x.rho with
    | bad => simp only [e, Res.bind_bad] at q
    | err c d ρ' =>
      simp only [e, Res.bind_err] at q
      exact fun y cls dx hρ iy ey hev => q y cls dx hρ iy (ey.weak fun z => by cases z) hev
    | ok rr =>
      obtain ⟨l, ρ1⟩ := rr
      simp only [e, Res.bind_ok] at q
      intro y vs hρ iy ey ay
      unfold mutK at q
      cases e1 : ρ1[i]? with
      | none => simp only [e1] at q
      | some sl1 =>
      cases sl1 with
      | none => simp only [e1] at q
      | some df1 =>
      obtain ⟨d0, fl⟩ := df1
      simp only [e1] at q
      by_cases hc : ownFl fl = true ∧ fzAll l = true ∧ p d0 = true
      · rw [if_pos hc] at q
        cases e2 : g d0 (l.map (·.1)) with
        | none => simp only [e2] at q
        | some dd =>
          obtain ⟨d1, dr⟩ := dd
          simp only [e2] at q
          obtain ⟨F', i', e', rp⟩ := ay.frozen hx iy ey hc.2.1
          have hi : ({ y with F := F' } : Stt).rho[i]? = some (some (d0, fl)) := by show y.rho[i]? = _; rw [hρ]; exact e1
          have hv : ({ y with F := F' } : Stt).sg[i]? = some (some (.ref a0)) := by show y.sg[i]? = _; rw [ey.sg]; exact ev
          obtain ⟨a, ea, w, ob, nF⟩ := own_slot i' hi (ownFl_iff hc.1) (hp _ hc.2.2) hv
          cases ea
          refine hg F' y.H a0 _ vs _ d1 dr Q ob nF rp e2 fun o' u to ob' ru => ?_
          obtain ⟨i2, e2'⟩ := mut_post (l := l) (vs := vs) hx i' e' hi (ownFl_iff hc.1) hv w ob nF to ob'
          exact q { y with F := F', H := upd y.H a0 o', rho := y.rho.set i (some (d1, fl)) } u [] (by show y.rho.set i _ = _; rw [hρ]) ⟨i2, e2', .fz ru, rfl, .fz⟩
      · rw [if_neg hc] at q; exact q.elim
  · rw [if_neg hfl0] at q; exact q.elim
theorem isLst_ty {F H a d0} (ob : Objs G F H a d0) (h : d0.isLst = true) : tyV X.K "list" (.ref a) H := by
  cases d0 <;> first | cases h | skip
  case lst es => obtain ⟨ws, e, _⟩ := ob; exact .inl ⟨rfl, _, .of e⟩
theorem isLst_drw : ∀ d : D, d.isLst = true → d.isDrw = false := fun d h => by cases d <;> first | rfl | cases h
def mAppend : D → List D → Option (D × D)
  | .lst es, [d] => if es.length < sizeLine then some (.lst (es ++ [d]), .non) else none
  | _, _ => none
theorem m_append : MutR G rAppend mAppend := by
  intro F H a d0 vs ds d1 dr Q ob nF r hg q
  unfold mAppend at hg
  split at hg
  · split at hg
    · rename_i hz
      cases hg
      obtain ⟨ws, e, z, rw'⟩ := ob
      obtain ⟨v, us, rfl, r1, r2⟩ := r.cons_of
      rw [r2.nil_of]
      have kf : KeptF F H (upd H a (.lst (ws ++ [v]))) := kf_upd nF
      refine ⟨a, ws, v, rfl, rfl, e, by rw [rw'.length]; exact hz, q _ .non rfl ⟨_, upd_same, by simp; rw [rw'.length]; omega, (rw'.snoc r1).keep (fun _ h => h) kf⟩ (.atom rfl .nil)⟩
    · cases hg
  · cases hg
def mExtend : D → List D → Option (D × D)
  | .lst es, [.lst fs] => if es.length + fs.length ≤ sizeLine then some (.lst (es ++ fs), .non) else none
  | _, _ => none
theorem m_extend : MutR G rExtend mExtend := by
  intro F H a d0 vs ds d1 dr Q ob nF r hg q
  unfold mExtend at hg
  split at hg
  · split at hg
    · rename_i hz
      cases hg
      obtain ⟨ws, e, z, rw'⟩ := ob
      obtain ⟨v, us, rfl, r1, r2⟩ := r.cons_of
      rw [r2.nil_of]
      obtain ⟨b, zs, rfl, e2, z2, r3⟩ := (Own.fz r1).lstM
      have kf : KeptF F H (upd H a (.lst (ws ++ zs))) := kf_upd nF
      have hz' : ws.length + zs.length ≤ sizeLine := by rw [rw'.length, r3.length]; exact hz
      exact ⟨a, b, ws, zs, rfl, rfl, e, e2, hz', q _ .non rfl ⟨_, upd_same, by simpa using hz', (rw'.append r3).keep (fun _ h => h) kf⟩ (.atom rfl .nil)⟩
    · cases hg
  · cases hg
/-- pop of the last item -/
def mPop : D → List D → Option (D × D)
  | .lst es, [] => (es[es.length - 1]?).map fun d => (.lst es.dropLast, d)
  | _, _ => none
theorem Rep.dropLast {F : Addr → Prop} {H : Hp} {vs : List V} {ds : List D} (h : Rep G F H vs ds) : Rep G F H vs.dropLast ds.dropLast := by
  rw [List.dropLast_eq_take, List.dropLast_eq_take, h.length]
  exact h.take _
theorem m_pop : MutR G rPop mPop := by
  intro F H a d0 vs ds d1 dr Q ob nF r hg q
  unfold mPop at hg
  split at hg
  · simp only [Option.map_eq_some_iff, Prod.mk.injEq] at hg
    obtain ⟨d, e0, rfl, rfl⟩ := hg
    obtain ⟨ws, e, z, rw'⟩ := ob
    rw [r.nil_of]
    obtain ⟨v, ev, rv⟩ := rw'.get e0
    have kf : KeptF F H (upd H a (.lst ws.dropLast)) := kf_upd nF
    refine ⟨a, ws, v, rfl, rfl, e, by rw [rw'.length]; exact ev, q _ v rfl ⟨_, upd_same, by simp; omega, rw'.dropLast.keep (fun _ h => h) kf⟩ (rv.keep (fun _ h => h) kf)⟩
  · cases hg
/-- pop at a place -/
def mPopAt : D → List D → Option (D × D)
  | .lst es, [.int i] => if 0 ≤ i ∧ i < es.length ∧ es.length ≤ sizeLine then (es[i.toNat]?).map fun d => (.lst (es.eraseIdx i.toNat), d) else none
  | _, _ => none
theorem Rep.eraseIdx {F : Addr → Prop} {H : Hp} {vs : List V} {ds : List D} (h : Rep G F H vs ds) (i : Nat) : Rep G F H (vs.eraseIdx i) (ds.eraseIdx i) := by
  rw [List.eraseIdx_eq_take_drop_succ, List.eraseIdx_eq_take_drop_succ]
  exact (h.take _).append (h.drop _)
theorem m_popAt : MutR G rPopAt mPopAt := by
  intro F H a d0 vs ds d1 dr Q ob nF r hg q
  unfold mPopAt at hg
  split at hg
  · rename_i es i
    split at hg
    · rename_i hi
      simp only [Option.map_eq_some_iff, Prod.mk.injEq] at hg
      obtain ⟨d, e0, rfl, rfl⟩ := hg
      obtain ⟨ws, e, z, rw'⟩ := ob
      obtain ⟨v, us, rfl, r1, r2⟩ := r.cons_of
      rw [r2.nil_of, r1.int_of]
      obtain ⟨v, ev, rv⟩ := rw'.get e0
      have kf : KeptF F H (upd H a (.lst (ws.eraseIdx i.toNat))) := kf_upd nF
      have h63 := line63
      have hs : seqIndex? i ws.length = some i.toNat := by
        have := (ixN_seq (n := ws.length) (i := i) (j := i.toNat) (by unfold ixN; rw [if_pos hi.1, if_pos (by rw [rw'.length]; exact hi.2.1)])).1
        exact this
      refine ⟨a, ws, i, i.toNat, v, rfl, rfl, e, by omega, by omega, hs, ev, q _ v rfl ⟨_, upd_same, Nat.le_trans (len_erase _ _) z, (rw'.eraseIdx _).keep (fun _ h => h) kf⟩ (rv.keep (fun _ h => h) kf)⟩
    · cases hg
  · cases hg
theorem r_append {i : Nat} {o e : Expr} {apos pos : Pos} {s : Bool} {f : AE} (h : PE X (.Call (.Attribute o "append" apos) [e] [] pos) (tBM X.K "list" rAppend (tVar i) (tA G W s f))) : PE X (.Call (.Attribute o "append" apos) [e] [] pos) (tS G W false (xMut D.isLst i mAppend f)) :=
  PE.of h fun σ H Q q => tS_mut m_append isLst_drw isLst_ty q
theorem r_mut {i : Nat} {e : Expr} {T : String} {r : V → List V → Hp → VK → Prop} {p : D → Bool} {g : D → List D → Option (D × D)} {s : Bool} {f : AE} (hg : MutR G r g) (hp : ∀ d, p d = true → d.isDrw = false) (hty : ∀ {F H a d0}, Objs G F H a d0 → p d0 = true → tyV X.K T (.ref a) H) (h : PE X e (tBM X.K T r (tVar i) (tA G W s f))) : PE X e (tS G W false (xMut p i g f)) :=
  PE.of h fun σ H Q q => tS_mut hg hp hty q
end
end VL
/-! VL17: the draws; attributes stored; what is never reached. -/
namespace VL
open PySem PySem.Spec PyProof.Rows L2

theorem Own.drw_of {G : Gm} {F : Addr → Prop} {H : Hp} {v : V} {gr : List Int} {r : Int} {ce : List Int} {t : Int} {fp : List Addr} (h : Own G F H v (.drw gr r ce t) fp) : ∃ a g c, v = .ref a ∧ fp = [a, g] ∧ ¬ F a ∧ ¬ F g ∧ F c ∧ gr.length ≤ sizeLine ∧ ce.length ≤ sizeLine ∧ DrwAt H a g c gr r ce t := by
  cases h with
  | fz r => cases r; rename_i h _; cases v <;> simp [atomD] at h
  | ow _ ob => exact False.elim ob
  | drw f1 f2 f3 z1 z2 q => exact ⟨_, _, _, rfl, rfl, f1, f2, f3, z1, z2, q⟩
/-- the slot that holds the draws -/
def drwAt (i : Nat) (ρ : Env) : Option (List Int × Int × List Int × Int × Fl) := match ρ[i]? with
  | some (some (.drw gr r ce t, fl)) => if ownFl fl = true then some (gr, r, ce, t, fl) else none
  | _ => none
theorem drwAt_of {i : Nat} {ρ : Env} {gr r ce t fl} (h : drwAt i ρ = some (gr, r, ce, t, fl)) : ρ[i]? = some (some (.drw gr r ce t, fl)) ∧ (fl = .ow ∨ fl = .pn) := by
  unfold drwAt at h
  split at h
  · split at h
    · rename_i hf
      cases h
      exact ⟨‹_›, ownFl_iff hf⟩
    · cases h
  · cases h
def xDrwRest (i : Nat) : EE := fun ρ => match drwAt i ρ with
  | some (_, r, _, _, _) => .ok (.int r, .fz, ρ)
  | none => .bad
def xDrwTurn (i : Nat) : EE := fun ρ => match drwAt i ρ with
  | some (_, _, _, t, _) => .ok (.int t, .fz, ρ)
  | none => .bad
def xDrwCells (i : Nat) : EE := fun ρ => match drwAt i ρ with
  | some (_, _, ce, _, _) => .ok (.lst (ce.map D.int), .fz, ρ)
  | none => .bad
/-- great != [] -/
def xDrwNe (i : Nat) : EE := fun ρ => match drwAt i ρ with
  | some (gr, _, _, _, _) => .ok (.bl (!gr.isEmpty), .fz, ρ)
  | none => .bad
/-- great.pop(0) -/
def xDrwPop (i : Nat) : EE := fun ρ => match drwAt i ρ with
  | some (n :: gr, r, ce, t, fl) => .ok (.int n, .fz, ρ.set i (some (.drw gr r ce t, fl)))
  | _ => .bad
def sDrwRest (i : Nat) (f : EE) : SE := fun ρ => do
  let (d, _, ρ1) ← f ρ
  match d, drwAt i ρ1 with
  | .int n, some (gr, _, ce, t, fl) => .ok (.nx (ρ1.set i (some (.drw gr n ce t, fl))))
  | _, _ => .bad
def sDrwTurn (i : Nat) (f : EE) : SE := fun ρ => do
  let (d, _, ρ1) ← f ρ
  match d, drwAt i ρ1 with
  | .int n, some (gr, r, ce, _, fl) => .ok (.nx (ρ1.set i (some (.drw gr r ce n, fl))))
  | _, _ => .bad
def sBad : SE := fun _ => .bad
section
variable {X : Cx} {G : Gm} {W : WX} {z : Stt}
theorem r_never {st : Stmt} : PS X st (tT G W z sBad) := PS.of ps_never fun D σ H ⟨x, _, _, _, _, q⟩ => q
theorem drw_slot {x : Stt} {i : Nat} {gr r ce t fl} (hx : SInv G x) (h : drwAt i x.rho = some (gr, r, ce, t, fl)) : ∃ a g c, x.sg[i]? = some (some (.ref a)) ∧ Own G x.F x.H (.ref a) (.drw gr r ce t) [a, g] ∧ ¬ x.F a ∧ ¬ x.F g ∧ x.F c ∧ gr.length ≤ sizeLine ∧ ce.length ≤ sizeLine ∧ DrwAt x.H a g c gr r ce t ∧ (∀ b ∈ [a, g], b ∈ x.o ∨ b ∈ x.p) := by
  obtain ⟨e, hf⟩ := drwAt_of h
  obtain ⟨v, fp, ev, w, _, n0, m⟩ := hx.sl.get e
  obtain ⟨a, g, c, rfl, rfl, f1, f2, f3, z1, z2, q⟩ := w.drw_of
  refine ⟨a, g, c, ev, w, f1, f2, f3, z1, z2, q, fun b hb => ?_⟩
  rcases m b hb with z | z | z
  · exact .inl z.2
  · exact .inr z.2
  · obtain ⟨z, _⟩ := z; rcases hf with q | q <;> (rw [q] at z; cases z)
theorem dget {H : Hp} {a g c : Addr} {gr : List Int} {r : Int} {ce : List Int} {t : Int} (h : DrwAt H a g c gr r ce t) {key : Str} {v : V} (e : valV [(kw "great", V.ref g), (kw "rest", .int r), (kw "cells", .ref c), (kw "turn", .int t)] (kw key) = some v) : DGet H a (.str key) (some v) := by
  have := DGet.k (k := kw key) h.1
  rw [e] at this
  exact this
theorem v_great {g c : Addr} {r t : Int} : valV [(kw "great", V.ref g), (kw "rest", .int r), (kw "cells", .ref c), (kw "turn", .int t)] (kw "great") = some (.ref g) := rfl
theorem v_rest {g c : Addr} {r t : Int} : valV [(kw "great", V.ref g), (kw "rest", .int r), (kw "cells", .ref c), (kw "turn", .int t)] (kw "rest") = some (.int r) := rfl
theorem v_cells {g c : Addr} {r t : Int} : valV [(kw "great", V.ref g), (kw "rest", .int r), (kw "cells", .ref c), (kw "turn", .int t)] (kw "cells") = some (.ref c) := rfl
theorem v_turn {g c : Addr} {r t : Int} : valV [(kw "great", V.ref g), (kw "rest", .int r), (kw "cells", .ref c), (kw "turn", .int t)] (kw "turn") = some (.int t) := rfl
theorem p_rest {g c : Addr} {r t n : Int} : putK [(kw "great", V.ref g), (kw "rest", .int r), (kw "cells", .ref c), (kw "turn", .int t)] (kw "rest") (.int n) = [(kw "great", V.ref g), (kw "rest", .int n), (kw "cells", .ref c), (kw "turn", .int t)] := rfl
theorem p_turn {g c : Addr} {r t n : Int} : putK [(kw "great", V.ref g), (kw "rest", .int r), (kw "cells", .ref c), (kw "turn", .int t)] (kw "turn") (.int n) = [(kw "great", V.ref g), (kw "rest", .int r), (kw "cells", .ref c), (kw "turn", .int n)] := rfl
end
end VL
/-! VL18: the rules for the draws. -/
namespace VL
open PySem PySem.Spec PyProof.Rows L2

theorem mutF_post {G : Gm} {s : Bool} {x y : Stt} {i : Nat} {d0 d1 : D} {fl : Fl} {v : V} {fp : List Addr} {H' : Hp} (hx : SInv G x) (hy : SInv G y) (e : Ext s x y) (hi : y.rho[i]? = some (some (d0, fl))) (hfl : fl = .ow ∨ fl = .pn) (hv : y.sg[i]? = some (some v)) (w : Own G y.F y.H v d0 fp) (n : fp ≠ []) (w' : Own G y.F H' v d1 fp)
    (kp : Kept fp y.H H') (dm : ∀ b, H' b = none → y.H b = none) (tb : LamX.Tabs G.T H') :
    SInv G { y with H := H', rho := y.rho.set i (some (d1, fl)) } ∧ Ext false x { y with H := H', rho := y.rho.set i (some (d1, fl)) } := by
  have hlen : i < y.rho.length := (List.getElem?_eq_some_iff.mp hi).1
  have s2 := hy.sl.mut (H' := H') hy.nd hi hfl hv w n w' kp
  have ha : ∀ a ∈ fp, a ∈ y.o ∨ a ∈ y.p := by
    obtain ⟨v0, fp', e1, w1, _, n0, hm⟩ := hy.sl.get hi
    rw [hv] at e1; cases e1
    have := w.uniq w1
    subst this
    intro a ha
    rcases hm a ha with z | z | z
    · exact .inl z.2
    · exact .inr z.2
    · obtain ⟨z, _⟩ := z; rcases hfl with q | q <;> (rw [q] at z; cases z)
  refine ⟨⟨s2, hy.nd, fun b f => ?_, tb⟩, ⟨e.sg, e.kp.trans kp fun b hb => ?_, e.f1, e.f2, e.o1, e.p1, e.b1, fun b h => e.dm b (dm b h), fun j d' fl' e1 hf' => ?_, fun q => by cases q⟩⟩
  · obtain ⟨o, h, t⟩ := hy.dom b f
    exact ⟨o, kp b o h (fun z => (w.there b z).1 f) t, t⟩
  · rcases ha b hb with q | q
    · rcases e.o1 b q with q | q
      · exact .inl (by simp [q])
      · exact .inr q
    · rw [e.p1] at q; exact .inl (by simp [q])
  · obtain ⟨d2, e2, k2⟩ := e.lk j d' fl' e1 hf'
    by_cases hj : i = j
    · subst hj
      rw [hi] at e2; cases e2
      refine ⟨d1, List.getElem?_set_self hlen, fun z => ?_⟩
      rcases hfl with q | q <;> (rw [q] at z; cases z)
    · exact ⟨d2, by rw [List.getElem?_set_ne hj]; exact e2, k2⟩
section
variable {X : Cx} {G : Gm} {W : WX} {z : Stt} {i kk : Nat} {o k : Expr} {pos p1 : Pos}
theorem r_drwRest (hr : RoomG kk X.A) (ho : PE X o (tVar i)) (hk : PE X k (tC (.str "rest"))) (hs : NoSl k) : PE X (.Subscript o k pos) (tS G W true (xDrwRest i)) := PE.of (pe_dget (Nat.lt_of_le_of_lt (Nat.add_le_add_left (by decide) _) hr.room.units) ho hk hs) fun σ H Q h => by
  obtain ⟨x, rfl, rfl, hx, q⟩ := h
  unfold xDrwRest at q
  cases h1 : drwAt i x.rho with
  | none => simp only [h1] at q
  | some t =>
    obtain ⟨gr, r, ce, t, fl⟩ := t
    simp only [h1] at q
    obtain ⟨a, g, c, e1, w, f1, f2, f3, z1, z2, dd, m⟩ := drw_slot hx h1
    exact ⟨_, e1, a, .int r, rfl, dget dd v_rest, q x _ [] rfl ⟨hx, .refl, .fz (.atom rfl .nil), rfl, .fz⟩⟩
theorem r_drwTurn (hr : RoomG kk X.A) (ho : PE X o (tVar i)) (hk : PE X k (tC (.str "turn"))) (hs : NoSl k) : PE X (.Subscript o k pos) (tS G W true (xDrwTurn i)) := PE.of (pe_dget (Nat.lt_of_le_of_lt (Nat.add_le_add_left (by decide) _) hr.room.units) ho hk hs) fun σ H Q h => by
  obtain ⟨x, rfl, rfl, hx, q⟩ := h
  unfold xDrwTurn at q
  cases h1 : drwAt i x.rho with
  | none => simp only [h1] at q
  | some t =>
    obtain ⟨gr, r, ce, t, fl⟩ := t
    simp only [h1] at q
    obtain ⟨a, g, c, e1, w, f1, f2, f3, z1, z2, dd, m⟩ := drw_slot hx h1
    exact ⟨_, e1, a, .int t, rfl, dget dd v_turn, q x _ [] rfl ⟨hx, .refl, .fz (.atom rfl .nil), rfl, .fz⟩⟩
theorem r_drwCells (hr : RoomG kk X.A) (ho : PE X o (tVar i)) (hk : PE X k (tC (.str "cells"))) (hs : NoSl k) : PE X (.Subscript o k pos) (tS G W true (xDrwCells i)) := PE.of (pe_dget (Nat.lt_of_le_of_lt (Nat.add_le_add_left (by decide) _) hr.room.units) ho hk hs) fun σ H Q h => by
  obtain ⟨x, rfl, rfl, hx, q⟩ := h
  unfold xDrwCells at q
  cases h1 : drwAt i x.rho with
  | none => simp only [h1] at q
  | some t =>
    obtain ⟨gr, r, ce, t, fl⟩ := t
    simp only [h1] at q
    obtain ⟨a, g, c, e1, w, f1, f2, f3, z1, z2, dd, m⟩ := drw_slot hx h1
    exact ⟨_, e1, a, .ref c, rfl, dget dd v_cells, q x _ [] rfl ⟨hx, .refl, .fz (.lst f3 dd.2.2.1 (by simpa using z2) (Rep.ints _) .nil), rfl, .fz⟩⟩
theorem toPyL_ints : ∀ gr : List Int, toPyL (gr.map D.int) = some (gr.map fun n => PyData.int n)
  | [] => rfl
  | n :: gr => by simp [toPyL, toPy, toPyL_ints gr]
theorem lay_ints : ∀ gr : List Int, PyData.canLayAll0 (gr.map fun n => PyData.int n) = true ∧ PyData.depthAll (gr.map fun n => PyData.int n) ≤ 1
  | [] => by simp [PyData.canLayAll0, PyData.depthAll]
  | n :: gr => by
    obtain ⟨h1, h2⟩ := lay_ints gr
    simp only [List.map_cons, PyData.canLayAll0, PyData.canLay0, PyData.depthAll, PyData.depth, h1, Bool.and_self, true_and]
    omega
theorem shaped_ints (gr : List Int) : SeqAt.shaped (.list (gr.map fun n => PyData.int n)) = true := by
  obtain ⟨h1, h2⟩ := lay_ints gr
  unfold SeqAt.shaped
  have e : PyData.depth (.list (gr.map fun n => PyData.int n)) = PyData.depthAll (gr.map fun n => PyData.int n) + 1 := by simp only [PyData.depth]; try omega
  simp only [PyData.canLay0, e, h1, Bool.true_and, decide_eq_true_eq]
  omega
theorem dNe_nil (gr : List Int) : dNe (.lst (gr.map D.int)) (.lst []) = some (.bl (!gr.isEmpty), .fz) := by
  have e : dEqB (.lst (gr.map D.int)) (.lst []) = some gr.isEmpty := by
    show pyEq _ _ = _
    unfold pyEq
    have h1 : toPy (.lst (gr.map D.int)) = some (.list (gr.map fun n => PyData.int n)) := by simp [toPy, toPyL_ints]
    have h2 : toPy (.lst []) = some (.list []) := by simp [toPy, toPyL]
    rw [h1, h2]
    simp only
    rw [if_pos ⟨shaped_ints gr, shaped_ints []⟩]
    cases gr with
    | nil => simp [PyData.eqv, PyData.eqvAll]
    | cons n gr => simp [PyData.eqv, PyData.eqvAll]
  unfold dNe
  rw [e]; rfl
theorem Own.objs_of {F : Addr → Prop} {H : Hp} {a : Addr} {d : D} {b : Addr} (h : Own G F H (.ref a) d [b]) : Objs G F H a d := by
  cases h with
  | ow _ ob => exact ob
theorem drwGreat {gr : List Int} {F : Addr → Prop} {H : Hp} {a g c : Addr} {r t : Int} {ce : List Int} (f2 : ¬ F g) (z1 : gr.length ≤ sizeLine) (dd : DrwAt H a g c gr r ce t) : Own G F H (.ref g) (.lst (gr.map D.int)) [g] := .ow f2 ⟨_, dd.2.1, by simpa using z1, Rep.ints _⟩
theorem drwNe_imp (hr : RoomG kk X.A) (hK : X.K = G.K) {σ H} {Q : VK} (h : tS G W true (xDrwNe i) σ H Q) : tOp (fun x y H Q => rNe x y H Q ∨ rNeD X.K x y H Q) (tDGet (tVar i) (tC (.str "great"))) (tS G W true (xLst aN)) σ H Q := by
  obtain ⟨x, rfl, rfl, hx, q⟩ := h
  unfold xDrwNe at q
  cases h1 : drwAt i x.rho with
  | none => simp only [h1] at q
  | some t =>
    obtain ⟨gr, r, ce, t, fl⟩ := t
    simp only [h1] at q
    obtain ⟨a, g, c, e1, w, f1, f2, f3, z1, z2, dd, m⟩ := drw_slot hx h1
    refine ⟨_, e1, a, .ref g, rfl, dget dd v_great, x, rfl, rfl, hx, ?_⟩
    show ∀ (y : Stt) (v : V) (fv : List Addr), y.rho = x.rho → EPost G true x y v (.lst []) .ow fv → _
    intro y v fv hy P
    obtain ⟨k1, k2, k3⟩ := P.ext.st rfl
    have w2 : Own G y.F y.H (.ref g) (.lst (gr.map D.int)) [g] := (drwGreat f2 z1 dd).keep P.ext.f1 (P.ext.keptF hx) fun b hb => by
      have : b = g := by simpa using hb
      subst this
      refine ⟨fun f => ?_, fun o e t => k2 b o e (by simp) t⟩
      rcases P.ext.f2 b f with q | q
      · exact f2 q
      · rw [dd.2.1] at q; cases q
    refine (o_ne (G := G) hr hK).2 y.F y.H _ _ _ _ _ _ _ _ _ P.inv.dom w2 P.own (dNe_nil gr) fun F' H' u fu n => ?_
    exact q { y with F := F', H := H' } u fu hy (EPost.after hx P.inv P.ext n)
/-- great != [] -/
theorem r_drwNe {p2 p3 : Pos} (hr : RoomG kk X.A) (hK : X.K = G.K) (ho : PE X o (tVar i)) (hk : PE X k (tC (.str "great"))) (hs : NoSl k) : PE X (.Compare (.Subscript o k p1) [.NotEq] [.List [] p2] p3) (tS G W true (xDrwNe i)) :=
  PE.of (pe_cmpR (o_ne (G := G) hr hK).1 (pe_dget (Nat.lt_of_le_of_lt (Nat.add_le_add_left (by decide) _) hr.room.units) ho hk hs) (r_lst (G := G) (W := W) r_anil) rfl) fun σ H Q h => drwNe_imp hr hK h
/-- great.pop(0) -/
theorem r_drwPop {e : Expr} {apos cpos : Pos} (hr : RoomG kk X.A) (ho : PE X o (tVar i)) (hk : PE X k (tC (.str "great"))) (hs : NoSl k) (he : PE X e (tC (.int 0))) (hst : starEach [e] X.env = (false, eval e X.env) :: starEach [] X.env)
    (h : ∀ to t, PE X (.Subscript o k p1) to → PA X [e] t → PE X (.Call (.Attribute (.Subscript o k p1) "pop" apos) [e] [] cpos) (tBM X.K "list" rPopAt to t)) :
    PE X (.Call (.Attribute (.Subscript o k p1) "pop" apos) [e] [] cpos) (tS G W false (xDrwPop i)) :=
  PE.of (h _ _ (pe_dget (Nat.lt_of_le_of_lt (Nat.add_le_add_left (by decide) _) hr.room.units) ho hk hs) (pa_cons he pa_nil hst)) fun σ H Q h => by
  obtain ⟨x, rfl, rfl, hx, q⟩ := h
  unfold xDrwPop at q
  cases h1 : drwAt i x.rho with
  | none => simp only [h1] at q
  | some t =>
    obtain ⟨gr, r, ce, t, fl⟩ := t
    cases gr with
    | nil => simp only [h1] at q
    | cons n gr =>
    simp only [h1] at q
    obtain ⟨a, g, c, e1, w, f1, f2, f3, z1, z2, dd, m⟩ := drw_slot hx h1
    refine ⟨_, e1, a, .ref g, rfl, dget dd v_great, ?_⟩
    refine ⟨isLst_ty (G := G) (drwGreat f2 z1 dd).objs_of rfl, ?_⟩
    have h63 := line63
    refine ⟨g, _, 0, 0, .int n, rfl, rfl, dd.2.1, by decide, by decide, ?_, rfl, ?_⟩
    · have := (ixN_seq (n := ((n :: gr).map V.int).length) (i := 0) (j := 0) (by unfold ixN; simp)).1
      exact this
    obtain ⟨ei, hfl⟩ := drwAt_of h1
    have kp : Kept [a, g] x.H (upd x.H g (.lst (gr.map V.int))) := fun b o e n _ => by
      rw [upd_ne (fun z => n (by simp [z]))]; exact e
    have w' : Own G x.F (upd x.H g (.lst (gr.map V.int))) (.ref a) (.drw gr r ce t) [a, g] := by
      refine .drw (c := c) f1 f2 f3 (Nat.le_of_succ_le z1) z2 ⟨?_, upd_same, ?_, dd.2.2.2⟩
      · rw [upd_ne dd.2.2.2]; exact dd.1
      · rw [upd_ne (fun z : c = g => f2 (z ▸ f3))]; exact dd.2.2.1
    obtain ⟨i2, e2⟩ := mutF_post (s := true) hx hx .refl ei hfl e1 w (by simp) w' kp (fun b hb => by
      by_cases eb : b = g
      · subst eb; rw [upd_same] at hb; cases hb
      · rwa [upd_ne eb] at hb) (tabs_upd hx.tb dd.2.1 rfl (fun φ z => by cases z))
    exact q { x with H := upd x.H g (.lst (gr.map V.int)), rho := x.rho.set i (some (.drw gr r ce t, fl)) } (.int n) [] rfl ⟨i2, e2, .fz (.atom rfl .nil), rfl, .fz⟩
theorem drw_put {a g c : Addr} {gr : List Int} {r r' : Int} {ce : List Int} {t t' : Int} {x y : Stt} {fl : Fl} {s : Bool} {o' : List (Key × V)} (hx : SInv G x) (e : Ext s x y) (hy : SInv G y) (ei : y.rho[i]? = some (some (.drw gr r ce t, fl))) (hfl : fl = .ow ∨ fl = .pn) (e1 : y.sg[i]? = some (some (.ref a))) (w : Own G y.F y.H (.ref a) (.drw gr r ce t) [a, g]) (f1 : ¬ y.F a) (f2 : ¬ y.F g) (f3 : y.F c) (z1 : gr.length ≤ sizeLine) (z2 : ce.length ≤ sizeLine) (dd : DrwAt y.H a g c gr r ce t) (ho : o' = [(kw "great", .ref g), (kw "rest", .int r'), (kw "cells", .ref c), (kw "turn", .int t')]) :
    SInv G { y with H := upd y.H a (.dK o'), rho := y.rho.set i (some (.drw gr r' ce t', fl)) } ∧ Ext false x { y with H := upd y.H a (.dK o'), rho := y.rho.set i (some (.drw gr r' ce t', fl)) } := by
  subst ho
  refine mutF_post hx hy e ei hfl e1 w (by simp) (.drw (c := c) f1 f2 f3 z1 z2 ⟨upd_same, ?_, ?_, dd.2.2.2⟩) (fun b o e n _ => by
      rw [upd_ne (fun z => n (by simp [z]))]; exact e) (fun b hb => by
      by_cases eb : b = a
      · subst eb; rw [upd_same] at hb; cases hb
      · rwa [upd_ne eb] at hb) (tabs_upd hy.tb dd.1 rfl (fun φ z => by cases z))
  · rw [upd_ne (Ne.symm dd.2.2.2)]; exact dd.2.1
  · rw [upd_ne (fun z : c = a => f1 (z ▸ f3))]; exact dd.2.2.1
theorem r_drwSetRest {e : Expr} {s : Bool} {f : EE} (hr : RoomG kk X.A) (ho : PE X o (tVar i)) (hk : PE X k (tC (.str "rest"))) (he : PE X e (tS G W s f)) (hs : swapsWith e (some (.Subscript o k p1)) pos.line X.env = pure false := by rfl) :
    PS X (.Assign [.Subscript o k p1] e pos) (tT G W z (sDrwRest i f)) := PS.of (ps_dput (Nat.lt_of_le_of_lt (Nat.add_le_add_left (by decide) _) hr.room.units) ho hk he hs) fun D σ H h =>
  tT_expr (k := fun d _ ρ1 => match d, drwAt i ρ1 with
  | .int n, some (gr, _, ce, t, fl) => .ok (.nx (ρ1.set i (some (.drw gr n ce t, fl))))
  | _, _ => .bad) h fun x y v d kd fv hi hz ex P q => by
    cases d <;> first | exact q.elim | skip
    rename_i n
    cases h1 : drwAt i y.rho with
    | none => simp only [h1] at q; exact q.elim
    | some t =>
      obtain ⟨gr, r, ce, t, fl⟩ := t
      simp only [h1] at q
      obtain ⟨a, g, c, e1, w, f1, f2, f3, z1, z2, dd, m⟩ := drw_slot P.inv h1
      obtain ⟨ei, hfl⟩ := drwAt_of h1
      rw [P.own.int_of]
      refine ⟨_, by rw [← ex, ← P.ext.sg]; exact e1, a, _, rfl, DPut.k (k := kw "rest") dd.1 (by show 4 < sizeLine; rw [sizeLine_eq]; decide), ?_⟩
      obtain ⟨i2, e2⟩ := drw_put (r' := n) hi P.ext P.inv ei hfl e1 w f1 f2 f3 z1 z2 dd p_rest
      have := q _ rfl (SStep.ext hz hi i2 e2)
      rw [← ex, ← P.ext.sg]; exact this
theorem r_drwSetTurn {e : Expr} {s : Bool} {f : EE} (hr : RoomG kk X.A) (ho : PE X o (tVar i)) (hk : PE X k (tC (.str "turn"))) (he : PE X e (tS G W s f)) (hs : swapsWith e (some (.Subscript o k p1)) pos.line X.env = pure false := by rfl) :
    PS X (.Assign [.Subscript o k p1] e pos) (tT G W z (sDrwTurn i f)) := PS.of (ps_dput (Nat.lt_of_le_of_lt (Nat.add_le_add_left (by decide) _) hr.room.units) ho hk he hs) fun D σ H h =>
  tT_expr (k := fun d _ ρ1 => match d, drwAt i ρ1 with
  | .int n, some (gr, r, ce, _, fl) => .ok (.nx (ρ1.set i (some (.drw gr r ce n, fl))))
  | _, _ => .bad) h fun x y v d kd fv hi hz ex P q => by
    cases d <;> first | exact q.elim | skip
    rename_i n
    cases h1 : drwAt i y.rho with
    | none => simp only [h1] at q; exact q.elim
    | some t =>
      obtain ⟨gr, r, ce, t, fl⟩ := t
      simp only [h1] at q
      obtain ⟨a, g, c, e1, w, f1, f2, f3, z1, z2, dd, m⟩ := drw_slot P.inv h1
      obtain ⟨ei, hfl⟩ := drwAt_of h1
      rw [P.own.int_of]
      refine ⟨_, by rw [← ex, ← P.ext.sg]; exact e1, a, _, rfl, DPut.k (k := kw "turn") dd.1 (by show 4 < sizeLine; rw [sizeLine_eq]; decide), ?_⟩
      obtain ⟨i2, e2⟩ := drw_put (t' := n) hi P.ext P.inv ei hfl e1 w f1 f2 f3 z1 z2 dd p_turn
      have := q _ rfl (SStep.ext hz hi i2 e2)
      rw [← ex, ← P.ext.sg]; exact this
end
end VL
/-! VL19: values chosen by tests, chains, targets of a statement, attributes stored, the draws' beginning. -/
namespace VL
open PySem PySem.Spec PyProof.Rows L2

theorem EPost.older {G : Gm} {s t u : Bool} {x y z : Stt} {v : V} {d : D} {k : Kd} {fv : List Addr} (hx : SInv G x) (hy : SInv G y) (e : Ext s x y) (P : EPost G t y z v d k fv) (h : u = true → s = true ∧ t = true) : EPost G u x z v d k fv where
  inv := P.inv
  ext := (e.trans hx hy P.ext).weak fun q => by simp only [Bool.and_eq_true]; exact h q
  own := P.own
  src := P.src
  kd := by
    have q := P.kd
    cases k with
    | fz => exact q
    | br => exact q
    | ow => exact ⟨q.1, fun a ha => ⟨e.dm a (q.2 a ha).1, (q.2 a ha).2⟩⟩
def xIfD (f g g' : EE) : EE := fun ρ => do
  let (d, _, ρ1) ← f ρ
  match d with
  | .bl b => if b = true then g ρ1 else g' ρ1
  | _ => .bad
def xIfE (c : BE) (g g' : EE) : EE := fun ρ => do
  let (b, ρ1) ← c ρ
  if b = true then g ρ1 else g' ρ1
section
variable {X : Cx} {G : Gm} {W : WX} {z : Stt}
theorem tS_after {s t u : Bool} {x y : Stt} {g : EE} {Q : VK} (hx : SInv G x) (hy : SInv G y) (e : Ext s x y) (h : u = true → s = true ∧ t = true)
    (q : match g y.rho with
      | .ok (d, k, ρ') => ∀ y v fv, y.rho = ρ' → EPost G u x y v d k fv → Q v y.H
      | .err c d ρ' => ∀ y cls dx, y.rho = ρ' → SInv G y → Ext u x y → ErrV G y cls dx c d → W cls dx x.sg y.H
      | .bad => False) : tS G W t g x.sg y.H Q := by
  refine ⟨y, e.sg, rfl, hy, ?_⟩
  cases h2 : g y.rho with
  | bad => simp only [h2] at q
  | err c d' ρ' =>
    simp only [h2] at q
    exact fun z cls dx hz iz ez hev => q z cls dx hz iz ((e.trans hx hy ez).weak fun q => by simp only [Bool.and_eq_true]; exact h q) hev
  | ok r2 =>
    obtain ⟨d, k, ρ'⟩ := r2
    simp only [h2] at q
    exact fun z v fv hz P => q z v fv hz (P.older hx hy e h)
theorem tS_ifD {s t u : Bool} {f g g' : EE} {σ H} {Q : VK} (h : tS G W (s && (t && u)) (xIfD f g g') σ H Q) : tS G W s f σ H fun x H1 => ∃ c, x = .bl c ∧ if c = true then tS G W t g σ H1 Q else tS G W u g' σ H1 Q := by
  obtain ⟨x, rfl, rfl, hi, q⟩ := h
  refine ⟨x, rfl, rfl, hi, ?_⟩
  unfold xIfD at q
  cases h1 : f x.rho with
  | bad => simp only [h1, Res.bind_bad] at q
  | err c d ρ' =>
    simp only [h1, Res.bind_err] at q
    exact fun y cls dx hρ iy ey hev => q y cls dx hρ iy (ey.weak fun z => by simp only [Bool.and_eq_true] at z; exact z.1) hev
  | ok r1 =>
    obtain ⟨d, k, ρ1⟩ := r1
    simp only [h1, Res.bind_ok] at q
    intro y v fv hρ P
    cases d <;> first | exact q.elim | skip
    case bl b =>
      refine ⟨b, P.own.bl_of, ?_⟩
      rw [← hρ] at q
      cases b with
      | true =>
        simp only [if_true] at q ⊢
        exact tS_after hi P.inv P.ext (fun q => by simp only [Bool.and_eq_true] at q; exact ⟨q.1, q.2.1⟩) q
      | false =>
        simp only [Bool.false_eq_true, if_false] at q ⊢
        exact tS_after hi P.inv P.ext (fun q => by simp only [Bool.and_eq_true] at q; exact ⟨q.1, q.2.2⟩) q
theorem tS_ifE {s t u : Bool} {f : BE} {g g' : EE} {σ H} {Q : VK} (h : tS G W (s && (t && u)) (xIfE f g g') σ H Q) : tB G W s f σ H fun c H1 => if c = true then tS G W t g σ H1 Q else tS G W u g' σ H1 Q := by
  obtain ⟨x, rfl, rfl, hi, q⟩ := h
  refine ⟨x, rfl, rfl, hi, ?_⟩
  unfold xIfE at q
  cases h1 : f x.rho with
  | bad => simp only [h1, Res.bind_bad] at q
  | err c d ρ' =>
    simp only [h1, Res.bind_err] at q
    exact fun y cls dx hρ iy ey hev => q y cls dx hρ iy (ey.weak fun z => by simp only [Bool.and_eq_true] at z; exact z.1) hev
  | ok r1 =>
    obtain ⟨b, ρ1⟩ := r1
    simp only [h1, Res.bind_ok] at q
    intro y hρ iy ey
    rw [← hρ] at q
    cases b with
    | true =>
      simp only [if_true] at q ⊢
      exact tS_after hi iy ey (fun q => by simp only [Bool.and_eq_true] at q; exact ⟨q.1, q.2.1⟩) q
    | false =>
      simp only [Bool.false_eq_true, if_false] at q ⊢
      exact tS_after hi iy ey (fun q => by simp only [Bool.and_eq_true] at q; exact ⟨q.1, q.2.2⟩) q
theorem tS_const {s : Bool} {v : V} {d : D} {σ H} {Q : VK} (hd : atomD v = some d) (h : tS G W s (xC d) σ H Q) : Q v H := by
  obtain ⟨x, rfl, rfl, hi, q⟩ := h
  exact q x v [] rfl ⟨hi, .refl, .fz (.atom hd .nil), rfl, .fz⟩
def xAnd (f g : EE) : EE := xIfD f g (xC (.bl false))
def xOr (f g : EE) : EE := xIfD f (xC (.bl true)) g
def xNot (f : EE) : EE := xIfD f (xC (.bl false)) (xC (.bl true))
theorem r_andV {a b : Expr} {rest : List Expr} {pos : Pos} {s t : Bool} {f g : EE} (ha : PE X a (tS G W s f)) (hb : PE X (.BoolOp .And (b :: rest) pos) (tS G W t g)) : PE X (.BoolOp .And (a :: b :: rest) pos) (tS G W (s && t) (xAnd f g)) := PE.of (pe_and ha hb) fun σ H Q h => by
  have q := tS_ifD (s := s) (t := t) (u := true) (f := f) (g := g) (g' := xC (.bl false)) (by rw [Bool.and_true]; exact h)
  obtain ⟨x, e1, e2, hi, q⟩ := q
  refine ⟨x, e1, e2, hi, ?_⟩
  revert q
  cases f x.rho with
  | bad => exact id
  | err c d ρ' => exact id
  | ok r1 =>
    intro q y v fv hρ P
    obtain ⟨c, e, q⟩ := q y v fv hρ P
    refine ⟨c, e, ?_⟩
    cases c with
    | true => simpa using q
    | false => exact tS_const rfl (by simpa using q)
theorem r_orV {a b : Expr} {rest : List Expr} {pos : Pos} {s t : Bool} {f g : EE} (ha : PE X a (tS G W s f)) (hb : PE X (.BoolOp .Or (b :: rest) pos) (tS G W t g)) : PE X (.BoolOp .Or (a :: b :: rest) pos) (tS G W (s && t) (xOr f g)) := PE.of (pe_or ha hb) fun σ H Q h => by
  have q := tS_ifD (s := s) (t := true) (u := t) (f := f) (g := xC (.bl true)) (g' := g) (by rw [Bool.true_and]; exact h)
  obtain ⟨x, e1, e2, hi, q⟩ := q
  refine ⟨x, e1, e2, hi, ?_⟩
  revert q
  cases f x.rho with
  | bad => exact id
  | err c d ρ' => exact id
  | ok r1 =>
    intro q y v fv hρ P
    obtain ⟨c, e, q⟩ := q y v fv hρ P
    refine ⟨c, e, ?_⟩
    cases c with
    | true => exact tS_const rfl (by simpa using q)
    | false => simpa using q
theorem r_oneV {op} {a : Expr} {pos : Pos} {t : TE} (h : PE X a t) : PE X (.BoolOp op [a] pos) t := pe_one h
theorem r_notV {a : Expr} {pos : Pos} {s : Bool} {f : EE} (ha : PE X a (tS G W s f)) : PE X (.UnaryOp .Not a pos) (tS G W s (xNot f)) := PE.of (pe_not ha) fun σ H Q h => by
  have q := tS_ifD (s := s) (t := true) (u := true) (f := f) (g := xC (.bl false)) (g' := xC (.bl true)) (by rw [Bool.and_true, Bool.and_true]; exact h)
  obtain ⟨x, e1, e2, hi, q⟩ := q
  refine ⟨x, e1, e2, hi, ?_⟩
  revert q
  cases f x.rho with
  | bad => exact id
  | err c d ρ' => exact id
  | ok r1 =>
    intro q y v fv hρ P
    obtain ⟨c, e, q⟩ := q y v fv hρ P
    refine ⟨c, e, ?_⟩
    cases c with
    | true => exact tS_const (v := .bl false) rfl (by simpa using q)
    | false => exact tS_const (v := .bl true) rfl (by simpa using q)
theorem r_ifV {c a b : Expr} {pos : Pos} {s t u : Bool} {f : BE} {g g' : EE} (hc : PT X c (tB G W s f)) (ha : PE X a (tS G W t g)) (hb : PE X b (tS G W u g')) : PE X (.IfExp c a b pos) (tS G W (s && (t && u)) (xIfE f g g')) := PE.of (pe_ifExp hc ha hb) fun _ _ _ h => tS_ifE h
/-! ### chains -/
def chainK (g' : D → D → Option (D × Kd)) (f3 : EE) (b : D) (c : Bool) (ρ2 : Env) : Res (D × Kd × Env) :=
  if c = true then (f3 ρ2).bind fun r => match g' b r.1 with
    | some (d, k) => .ok (d, k, r.2.2)
    | none => .bad
  else .ok (.bl false, .fz, ρ2)
def chainM (g g' : D → D → Option (D × Kd)) (f3 : EE) (a b : D) (ρ2 : Env) : Res (D × Kd × Env) := match g a b with
  | some (.bl c, .fz) => chainK g' f3 b c ρ2
  | _ => .bad
def xChain (g g' : D → D → Option (D × Kd)) (f1 f2 f3 : EE) : EE := fun ρ => do
  let (a, k1, ρ1) ← f1 ρ
  if k1 = .br then .bad else do
    let (b, k2, ρ2) ← f2 ρ1
    if k2 = .br then .bad else chainM g g' f3 a b ρ2
theorem chainM_ok {g g' : D → D → Option (D × Kd)} {f3 : EE} {a b : D} {ρ2 : Env} {P : Res (D × Kd × Env) → Prop} (h : P (chainM g g' f3 a b ρ2)) (hb : ¬ P .bad) : ∃ c, g a b = some (.bl c, .fz) ∧ P (chainK g' f3 b c ρ2) := by
  unfold chainM at h
  split at h
  · rename_i c h3; exact ⟨c, h3, h⟩
  · exact absurd h hb
theorem tS_chain {r r' : R2} {s t u : Bool} {f1 f2 f3 : EE} {g g' : D → D → Option (D × Kd)} (hg : FnD2 G r g) (hg' : FnD2 G r' g') {σ H Q} (h : tS G W (s && (t && u)) (xChain g g' f1 f2 f3) σ H Q) : tChain r r' (tS G W s f1) (tS G W t f2) (tS G W u f3) σ H Q := by
  obtain ⟨x, rfl, rfl, hi, q⟩ := h
  refine ⟨x, rfl, rfl, hi, ?_⟩
  unfold xChain at q
  cases h1 : f1 x.rho with
  | bad => simp only [h1, Res.bind_bad] at q
  | err c d ρ' =>
    simp only [h1, Res.bind_err] at q
    exact fun y cls dx hρ iy ey hev => q y cls dx hρ iy (ey.weak fun z => by simp only [Bool.and_eq_true] at z; exact z.1) hev
  | ok r1 =>
  obtain ⟨a, k1, ρ1⟩ := r1
  simp only [h1, Res.bind_ok] at q
  intro y v fv hρ P
  by_cases hb1 : k1 = .br
  · rw [if_pos hb1] at q; exact q.elim
  rw [if_neg hb1] at q
  refine ⟨y, P.ext.sg, rfl, P.inv, ?_⟩
  rw [hρ]
  cases h2 : f2 ρ1 with
  | bad => simp only [h2, Res.bind_bad] at q
  | err c d' ρ' =>
    simp only [h2, Res.bind_err] at q
    exact fun z cls dx hz iz ez hev => q z cls dx hz iz ((P.ext.trans hi P.inv ez).weak fun z => by simp only [Bool.and_eq_true] at z ⊢; exact ⟨z.1, z.2.1⟩) hev
  | ok r2 =>
  obtain ⟨b, k2, ρ2⟩ := r2
  simp only [h2, Res.bind_ok] at q
  intro y2 w fw hρ2 P2
  subst hρ2
  by_cases hb2 : k2 = .br
  · rw [if_pos hb2] at q; exact q.elim
  rw [if_neg hb2] at q
  obtain ⟨w1, kd1, _⟩ := carry P.inv P.ext.dm P.own P.kd P2.ext P.src (fun e => absurd e hb1)
  have E2 : Ext (s && t) x y2 := P.ext.trans hi P.inv P2.ext
  obtain ⟨c, h3, q⟩ := chainM_ok (P := fun r => match r with
      | .ok (d, k, ρ') => ∀ y v fv, y.rho = ρ' → EPost G (s && (t && u)) x y v d k fv → Q v y.H
      | .err c d ρ' => ∀ y cls dx, y.rho = ρ' → SInv G y → Ext (s && (t && u)) x y → ErrV G y cls dx c d → W cls dx x.sg y.H
      | .bad => False) q id
  refine hg y2.F y2.H v w a b _ _ _ _ _ P2.inv.dom w1 P2.own h3 fun F' H' uv fu n => ?_
  have N := n.post P2.inv
  obtain ⟨w2, kd2, _⟩ := carry P2.inv P2.ext.dm P2.own P2.kd N.ext P2.src (fun e => absurd e hb2)
  refine ⟨c, n.own.bl_of, ?_⟩
  have E3 : Ext (s && t) x { y2 with F := F', H := H' } := (E2.trans hi P2.inv N.ext).weak fun z => by rw [Bool.and_true]; exact z
  unfold chainK at q
  cases c with
  | false =>
    simp only [Bool.false_eq_true, if_false] at q ⊢
    exact q { y2 with F := F', H := H' } (.bl false) [] rfl ⟨N.inv, E3.weak fun z => by simp only [Bool.and_eq_true] at z ⊢; exact ⟨z.1, z.2.1⟩, .fz (.atom rfl .nil), rfl, .fz⟩
  | true =>
    simp only [if_true] at q ⊢
    refine ⟨{ y2 with F := F', H := H' }, E3.sg, rfl, N.inv, ?_⟩
    show match f3 y2.rho with | .ok (d, k, ρ') => _ | .err c d ρ' => _ | .bad => _
    cases h4 : f3 y2.rho with
    | bad => simp only [h4, Res.bind] at q
    | err c d' ρ' =>
      simp only [h4, Res.bind] at q
      exact fun z cls dx hz iz ez hev => q z cls dx hz iz ((E3.trans hi N.inv ez).weak fun z => by simp only [Bool.and_eq_true] at z ⊢; exact ⟨⟨z.1, z.2.1⟩, z.2.2⟩) hev
    | ok r3 =>
    obtain ⟨e, k3, ρ3⟩ := r3
    simp only [h4, Res.bind] at q
    intro y3 w3 fw3 hρ3 P3
    obtain ⟨w4, kd4, _⟩ := carry N.inv (fun a h => P2.ext.dm a (n.dm a h)) w2 (x := y) kd2 P3.ext (.ne hb2) (fun e => absurd e hb2)
    cases h5 : g' b e with
    | none => simp only [h5] at q
    | some dk =>
      obtain ⟨d, k⟩ := dk
      simp only [h5] at q
      refine hg' y3.F y3.H w w3 b e _ _ d k Q P3.inv.dom w4 P3.own h5 fun F2 H2 u2 fu2 n2 => ?_
      have E4 := (E3.trans hi N.inv P3.ext)
      have := EPost.after hi P3.inv E4 n2
      exact q { y3 with F := F2, H := H2 } u2 fu2 hρ3 { this with ext := this.ext.weak fun z => by simp only [Bool.and_eq_true] at z ⊢; exact ⟨⟨z.1, z.2.1⟩, z.2.2⟩ }
theorem r_chain {op op' : CmpOp} {r r' : R2} {a b c : Expr} {pos : Pos} {s t u : Bool} {f1 f2 f3 : EE} {g g' : D → D → Option (D × Kd)} (ho : OpR X (compareOp op) r) (hg : FnD2 G r g) (ho' : OpR X (compareOp op') r') (hg' : FnD2 G r' g') (ha : PE X a (tS G W s f1)) (hb : PE X b (tS G W t f2)) (hc : PE X c (tS G W u f3))
    (hm : lastMarks [op, op'] [b, c] = false := by with_unfolding_all rfl) : PE X (.Compare a [op, op'] [b, c] pos) (tS G W (s && (t && u)) (xChain g g' f1 f2 f3)) := PE.of (pe_chain ho ho' ha hb hc hm) fun _ _ _ h => tS_chain hg hg' h
theorem r_tchain {op op' : CmpOp} {r r' : R2} {a b c : Expr} {pos : Pos} {s t u : Bool} {f1 f2 f3 : EE} {g g' : D → D → Option (D × Kd)} (ho : OpR X (compareOp op) r) (hg : FnD2 G r g) (ho' : OpR X (compareOp op') r') (hg' : FnD2 G r' g') (ha : PE X a (tS G W s f1)) (hb : PE X b (tS G W t f2)) (hc : PE X c (tS G W u f3))
    (hm : lastMarks [op, op'] [b, c] = false := by with_unfolding_all rfl) : PT X (.Compare a [op, op'] [b, c] pos) (tB G W (s && (t && u)) (xTst (xChain g g' f1 f2 f3))) := PT.of (pt_chain ho ho' ha hb hc hm) fun _ _ _ h => tS_chain hg hg' (tB_of h)
/-! ### a statement's target -/
def sAsg (g : GE) (f : EE) : SE := fun ρ => do
  let (d, k, ρ1) ← f ρ
  match k with
  | .fz => do
    let ρ2 ← g d ρ1
    pure (.nx ρ2)
  | _ => .bad
theorem r_asg {tg e : Expr} {pos : Pos} {s : Bool} {is : List Nat} {g : GE} {f : EE} (h : ∀ te tt, PE X e te → PG X tg tt → PS X (.Assign [tg] e pos) (tAsg te tt)) (he : PE X e (tS G W s f)) (hg : PG X tg (tG G is g)) (hne : NoErr g) : PS X (.Assign [tg] e pos) (tT G W z (sAsg g f)) := PS.of (h _ _ he hg) fun Dn σ H h =>
  tT_expr (k := fun d k ρ1 => match k with
  | .fz => do
    let ρ2 ← g d ρ1
    pure (.nx ρ2)
  | _ => .bad) h fun x y v d kd fv hi hz ex P q => by
    cases kd with
    | br => exact q.elim
    | ow => exact q.elim
    | fz =>
      obtain rfl : fv = [] := P.kd
      refine ⟨y, d, by rw [P.ext.sg, ex], rfl, P.inv, P.own.fz_of, ?_⟩
      cases h1 : g d y.rho with
      | bad => simp only [h1, Res.bind_bad] at q; exact q.elim
      | err c d' ρ' =>
        exact absurd h1 (hne _ _ _ _ _)
      | ok ρ2 =>
        simp only [h1, Res.bind_ok] at q
        intro w hw st
        exact q w hw ((SStep.ext hz hi P.inv P.ext).trans (st.step (hz.ext hi P.ext)))
/-! ### attributes stored -/
def putD (f : Str) (v : D) : List (Str × D) → List (Str × D)
  | [] => [(f, v)]
  | (g, x) :: r => if g = f then (g, v) :: r else (g, x) :: putD f v r
theorem putD_rep {F : Addr → Prop} {H : Hp} {f : Str} {v : V} {d : D} (r : Rep G F H [v] [d]) : ∀ {ws : List (Str × V)} {es : List (Str × D)}, ws.map (·.1) = es.map (·.1) → Rep G F H (ws.map (·.2)) (es.map (·.2)) → (putF f v ws).map (·.1) = (putD f d es).map (·.1) ∧ Rep G F H ((putF f v ws).map (·.2)) ((putD f d es).map (·.2))
  | [], [], _, _ => ⟨rfl, r⟩
  | [], _ :: _, e, _ => by simp at e
  | _ :: _, [], e, _ => by simp at e
  | (n, w) :: ws, (m, e) :: es, hn, hr => by
    simp only [List.map_cons, List.cons.injEq] at hn
    obtain ⟨rfl, hn⟩ := hn
    obtain ⟨r1, r2⟩ := Rep.cons_iff.mp (by simpa using hr)
    unfold putF putD
    by_cases hf : n = f
    · rw [if_pos hf, if_pos hf]
      exact ⟨by simp [hn], Rep.cons_iff.mpr ⟨r, r2⟩⟩
    · rw [if_neg hf, if_neg hf]
      obtain ⟨h1, h2⟩ := putD_rep r hn r2
      exact ⟨by simp [h1], Rep.cons_iff.mpr ⟨r1, h2⟩⟩
def fldK (cs : List Nat) (i : Nat) (f : Str) (d : D) (k : Kd) (ρ1 : Env) : Res Flo := match ρ1[i]? with
  | some (some (.ins c es, fl)) => if ownFl fl = true ∧ fzAll [(d, k)] = true ∧ cs.contains c = true ∧ es.length < 1000 then .ok (.nx (ρ1.set i (some (.ins c (putD f d es), fl)))) else .bad
  | _ => .bad
def sFldSet (cs : List Nat) (i : Nat) (f : Str) (g : EE) : SE := fun ρ => do
  let (d, k, ρ1) ← g ρ
  fldK cs i f d k ρ1
theorem r_fldset {o e : Expr} {i : Nat} {f : Str} {pos pos' : Pos} {s : Bool} {g : EE} {cs : List Nat} (hK : X.K = G.K) (hf : FldOk G cs f) (ho : PE X o (tVar i)) (he : PE X e (tS G W s g)) (hs : swapsWith e (some (.Attribute o f pos')) pos.line X.env = pure false := by rfl) :
    PS X (.Assign [.Attribute o f pos'] e pos) (tT G W z (sFldSet cs i f g)) := PS.of (ps_fld ho he hs) fun Dn σ H h =>
  tT_expr (k := fldK cs i f) h fun x y v d kd fv hi hz ex P q => by
    unfold fldK at q
    cases e1 : y.rho[i]? with
    | none => simp only [e1] at q; exact q.elim
    | some sl =>
    cases sl with
    | none => simp only [e1] at q; exact q.elim
    | some df =>
    obtain ⟨d0, fl⟩ := df
    simp only [e1] at q
    cases d0 <;> first | exact q.elim | skip
    rename_i c es
    simp only at q
    by_cases hc : ownFl fl = true ∧ fzAll [(d, kd)] = true ∧ cs.contains c = true ∧ es.length < 1000
    · rw [if_pos hc] at q
      obtain ⟨F', i', e', rp⟩ := (AOk.cons P.own P.kd P.src .nil : AOk G x y [v] [(d, kd)]).frozen hi P.inv P.ext hc.2.1
      have h1 : ({ y with F := F' } : Stt).rho[i]? = some (some (.ins c es, fl)) := e1
      obtain ⟨v0, fp0, ev, _⟩ := i'.sl.get h1
      obtain ⟨a, rfl, w, ob, nF⟩ := own_slot i' h1 (ownFl_iff hc.1) rfl ev
      obtain ⟨C, dx, ws, eo, cC, hn, hr⟩ := ob
      obtain ⟨m1, m2⟩ := hf c (by simpa using hc.2.2.1) C cC
      have hl : ws.length = es.length := by
        have := congrArg List.length hn
        simpa using this
      refine ⟨.ref a, by rw [← ex, ← P.ext.sg]; exact ev, a, C, dx, ws, rfl, eo, by rw [hK]; exact m1, by rw [hK]; exact m2, by rw [hl]; exact hc.2.2.2, ?_⟩
      obtain ⟨n1, n2⟩ := putD_rep (f := f) rp hn hr
      have ob' : Objs G F' (upd y.H a (.ins C dx (putF f v ws))) a (.ins c (putD f d es)) := ⟨C, dx, _, upd_same, cC, n1, n2.keep (fun _ h => h) (kf_upd nF)⟩
      obtain ⟨i2, e2⟩ := mut_post (l := []) (vs := []) hi i' e' h1 (ownFl_iff hc.1) ev w ⟨C, dx, ws, eo, cC, hn, hr⟩ nF rfl ob'
      have := q _ rfl (SStep.ext hz hi i2 e2)
      rw [← ex, ← P.ext.sg]; exact this
    · rw [if_neg hc] at q; exact q.elim
/-! ### the draws' beginning -/
def intsOf : List D → Option (List Int)
  | [] => some []
  | .int n :: r => (intsOf r).map (n :: ·)
  | _ :: _ => none
theorem intsOf_eq : ∀ {l : List D} {ns : List Int}, intsOf l = some ns → l = ns.map D.int
  | [], ns, h => by cases h; rfl
  | d :: r, ns, h => by
    cases d <;> first | cases h | skip
    simp only [intsOf, Option.map_eq_some_iff] at h
    obtain ⟨ms, h1, rfl⟩ := h
    rw [List.map_cons, intsOf_eq h1]
theorem intsOf_map : ∀ ns : List Int, intsOf (ns.map D.int) = some ns
  | [] => rfl
  | n :: ns => by simp [intsOf, intsOf_map ns]
theorem Rep.ints_of {F : Addr → Prop} {H : Hp} : ∀ {ns : List Int} {vs : List V}, Rep G F H vs (ns.map D.int) → vs = ns.map V.int
  | [], vs, h => h.nil_of
  | n :: ns, vs, h => by
    obtain ⟨v, ws, rfl, r1, r2⟩ := h.cons_of
    rw [r1.int_of, Rep.ints_of r2]; rfl
/-- return {'great': .., 'rest': 0, 'cells': .., 'turn': 0} -/
def sRetDrw (i : Nat) (f : EE) : SE := fun ρ => match ρ[i]? with
  | some (some (.lst es, .ow)) => match intsOf es with
    | some gr => (f ρ).bind fun r => match r with
      | (.lst cs, .ow, ρ1) => match intsOf cs with
        | some ce => .ok (.rt (.drw gr 0 ce 0) .ow ρ1)
        | none => .bad
      | _ => .bad
    | none => .bad
  | _ => .bad
theorem r_retDrw {i : Nat} {k1 k2 k3 k4 e1 e2 e3 e4 : Expr} {p1 pos : Pos} {f : EE} (h1 : PE X k1 (tC (.str "great"))) (h2 : PE X k2 (tC (.str "rest"))) (h3 : PE X k3 (tC (.str "cells"))) (h4 : PE X k4 (tC (.str "turn"))) (v1 : PE X e1 (tVar i)) (v2 : PE X e2 (tC (.int 0))) (v3 : PE X e3 (tS G W true f)) (v4 : PE X e4 (tC (.int 0))) :
    PS X (.Return (some (.Dict [some k1, some k2, some k3, some k4] [e1, e2, e3, e4] p1)) pos) (tT G W z (sRetDrw i f)) :=
  PS.of (ps_ret (pe_disp (pps_cons h1 v1 (pps_cons h2 v2 (pps_cons h3 v3 (pps_cons h4 v4 pps_nil)))) rfl rfl (by simp) (by simp))) fun Dn σ H h => by
  obtain ⟨x, rfl, rfl, hx, hz, q⟩ := h
  unfold sRetDrw at q
  cases e1 : x.rho[i]? with
  | none => simp only [e1] at q; exact q.elim
  | some sl =>
  cases sl with
  | none => simp only [e1] at q; exact q.elim
  | some df =>
  obtain ⟨d, fl⟩ := df
  simp only [e1] at q
  cases d <;> first | exact q.elim | skip
  cases fl <;> first | exact q.elim | skip
  rename_i es
  simp only at q
  cases eg : intsOf es with
  | none => simp only [eg] at q; exact q.elim
  | some gr =>
  simp only [eg] at q
  obtain rfl := intsOf_eq eg
  obtain ⟨v0, fp, ev, w0, _, n0, hm⟩ := hx.sl.get e1
  obtain ⟨g, rfl, w, ⟨wg, hg, zg, rg⟩, nFg⟩ := own_slot hx e1 (.inl rfl) rfl ev
  obtain rfl := Rep.ints_of rg
  have hgo : g ∈ x.o := by
    have := w.uniq w0
    subst this
    rcases hm g (by simp) with z | z | z
    · exact z.2
    · cases z.1
    · cases z.1
  intro p hp
  have hpg : p ≠ g := fun e => by rw [e, hg] at hp; cases hp
  have N := NewV.objs (G := G) (F := x.F) (ob := .dK []) (d := .dK []) hx.dom hp ⟨[], upd_same, by simp, rfl, .nil⟩
  have P1 := N.post hx
  refine ⟨.ref g, ev, { x with H := upd x.H p (.dK []) }, rfl, rfl, P1.inv, ?_⟩
  show match f x.rho with | .ok (d, k, ρ') => _ | .err c d ρ' => _ | .bad => _
  cases e2 : f x.rho with
  | bad => simp only [e2, Res.bind] at q; exact q.elim
  | err c d' ρ' =>
    simp only [e2, Res.bind] at q
    exact fun y cls dx hρ iy ey hev => by
      have E := P1.ext.trans hx P1.inv ey
      have := q y cls dx hρ (SStep.ext hz hx iy E) hev
      rw [E.sg] at this; exact this
  | ok r =>
  obtain ⟨dc, kc, ρ1⟩ := r
  simp only [e2, Res.bind] at q
  intro y cv fc hρ P2
  cases dc <;> first | exact q.elim | skip
  cases kc <;> first | exact q.elim | skip
  rename_i cs
  simp only at q
  cases ec : intsOf cs with
  | none => simp only [ec] at q; exact q.elim
  | some ce =>
  simp only [ec] at q
  obtain rfl := intsOf_eq ec
  have E2 : Ext true x y := P1.ext.trans hx P1.inv P2.ext
  obtain ⟨ρy, ky, oy⟩ := P2.ext.st rfl
  have hpy : y.H p = some (.dK []) := ky p _ upd_same (by simp) rfl
  have hgy : y.H g = some (.lst (gr.map V.int)) := ky g _ (by show upd x.H p (.dK []) g = _; rw [upd_ne (Ne.symm hpg)]; exact hg) (by simp) rfl
  have hc : ∃ c, cv = .ref c ∧ fc = [c] ∧ ¬ y.F c ∧ y.H c = some (.lst (ce.map V.int)) ∧ ce.length ≤ sizeLine := by
    have n := P2.kd.1
    cases P2.own with
    | fz _ => exact absurd rfl n
    | ow nf ob =>
      obtain ⟨ws, h1, h2, h3⟩ := ob
      obtain rfl := Rep.ints_of h3
      exact ⟨_, rfl, rfl, nf, h1, by simpa using h2⟩
  obtain ⟨c, rfl, rfl, nFc, hcy, zc⟩ := hc
  have kc := P2.kd.2 c (by simp)
  have hcx : x.H c = none := P1.ext.dm c kc.1
  have hcp : c ≠ p := fun e => by
    have := kc.1; rw [e] at this
    rw [show ({ x with H := upd x.H p (.dK []) } : Stt).H = upd x.H p (.dK []) from rfl, upd_same] at this; cases this
  have hcg : c ≠ g := fun e => by rw [e, hg] at hcx; cases hcx
  have nFp : ¬ y.F p := fun fp => by
    rcases P2.ext.f2 p fp with z | z
    · obtain ⟨o, e, _⟩ := hx.dom p z; rw [hp] at e; cases e
    · rw [show ({ x with H := upd x.H p (.dK []) } : Stt).H = upd x.H p (.dK []) from rfl, upd_same] at z; cases z
  have nFg' : ¬ y.F g := fun f => by
    rcases E2.f2 g f with z | z
    · exact nFg z
    · rw [hg] at z; cases z
  have out : ∀ a, a ∈ y.o ∨ a ∈ y.p ∨ a ∈ y.b → a ≠ p := fun a ha e => by
    subst e
    rw [show y.o = x.o from oy, E2.p1, E2.b1] at ha
    obtain ⟨_, o, e, _⟩ := hx.there ha
    rw [hp] at e; cases e
  have i3 := P2.inv.freeze (fv := [c]) fun a ha => by
    have : a = c := by simpa using ha
    subst this
    exact ⟨⟨_, hcy, rfl⟩, kc.2⟩
  have nF3 : ¬ (y.F p ∨ p ∈ [c]) := fun f => by
    rcases f with f | f
    · exact nFp f
    · have e : p = c := by simpa using f
      exact hcp e.symm
  refine ⟨hpy, [(kw "great", .ref g), (kw "rest", .int 0), (kw "cells", .ref c), (kw "turn", .int 0)], rfl, by simp, ?_⟩
  have em : mergeK [] [(kw "great", V.ref g), (kw "rest", .int 0), (kw "cells", .ref c), (kw "turn", .int 0)] = [(kw "great", .ref g), (kw "rest", .int 0), (kw "cells", .ref c), (kw "turn", .int 0)] := rfl
  rw [em]
  generalize ho : HO.dK [(kw "great", V.ref g), (kw "rest", .int 0), (kw "cells", .ref c), (kw "turn", .int 0)] = o'
  have dmu : ∀ b, upd y.H p o' b = none → y.H b = none := fun b hb => by
    by_cases eb : b = p
    · subst eb; rw [upd_same] at hb; cases hb
    · rwa [upd_ne eb] at hb
  have inv : SInv G { y with F := fun a => y.F a ∨ a ∈ [c], H := upd y.H p o' } := by
    refine ⟨i3.sl.keep (fun _ h => h) (kf_upd nF3) fun a ha => ⟨(i3.there ha).1, fun o e _ => by show upd y.H p o' a = _; rw [upd_ne (out a ha)]; exact e⟩, i3.nd, fun b f => ?_, tabs_upd P2.inv.tb hpy rfl (fun φ z => by cases z)⟩
    obtain ⟨o, h, t⟩ := i3.dom b f
    have nb : b ≠ p := fun z => nF3 (z ▸ f)
    exact ⟨o, by show upd y.H p o' b = some o; rw [upd_ne nb]; exact h, t⟩
  have kx : ∀ m, Kept m x.H y.H → Kept m x.H (upd y.H p o') := fun m k a o e n t => by
    have na : a ≠ p := fun z => by rw [z, hp] at e; cases e
    rw [upd_ne na]; exact k a o e n t
  have E3 : Ext true x { y with F := fun a => y.F a ∨ a ∈ [c], H := upd y.H p o' } := by
    refine ⟨E2.sg, kx _ E2.kp, fun a f => .inl (E2.f1 a f), fun a f => ?_, E2.o1, E2.p1, E2.b1, fun a h => E2.dm a (dmu a h), E2.lk, fun _ => ?_⟩
    · rcases f with f | f
      · exact E2.f2 a f
      · have : a = c := by simpa using f
        subst this; exact .inr hcx
    · obtain ⟨r1, k1, o1⟩ := E2.st rfl
      exact ⟨r1, kx _ k1, o1⟩
  refine q { y with F := fun a => y.F a ∨ a ∈ [c], H := upd y.H p o' } (.ref p) [p, g] hρ (SStep.ext hz hx inv E3) (.drw (c := c) nF3 (fun f => ?_) (.inr (by simp)) (by simpa using zg) zc ⟨?_, ?_, ?_, hpg⟩) ⟨by simp, fun a ha => ?_⟩
  · rcases f with f | f
    · exact nFg' f
    · have e : g = c := by simpa using f
      exact hcg e.symm
  · rw [← ho]; exact upd_same
  · show upd y.H p o' g = _; rw [upd_ne (Ne.symm hpg)]; exact hgy
  · show upd y.H p o' c = _; rw [upd_ne hcp]; exact hcy
  · have : a = p ∨ a = g := by simpa using ha
    rcases this with rfl | rfl
    · exact hz.dm _ hp
    · exact hz.o1 _ hgo
end
end VL
/-! VL20: the law's end. -/
namespace VL
open PySem PySem.Spec PyProof.Rows L2

def Done (t : Shared) : Except Value Flow → Shared → Prop := fun r t' => r = .ok (.ret (.bool true)) ∧ PySem.OldK t.heap t'.heap ∧ t'.os = t.os ∧ AllBare t'.gens
section
variable {P : Program} {wd : World} {K : PySem.W.Frag} {mg mb : Str → Option Value} {k : Nat} {fa sa : Addr} {fd : FuncData} {x : Str} {sp : Sp} {t : Shared} {us : List Value} {ns : List Int}
theorem lawIn (J : Hp) (inK : K.In t.heap) (nm : t.heap.Ns mainGlobals mg) (nb : t.heap.Ns builtinsNs mb) (bb : ∀ y : Str, y ≠ "__name__" → mb y = bootBuiltins y) (lim : t.heap.NoLimit) (ng : t.gens = #[]) (rm : Room k callerA)
    (so : t.heap.get? sa = some { cls := .type "list", data := .seq us.toArray }) (F : ∀ base : Heap, K.In base → base.Ns mainGlobals mg → FnG P wd K mg base k fa fd [x] sp) (bd : ∀ (s : Shared) (u : Value), BindsTo s fd ⟨[u], []⟩ [(x, u)])
    (only : Only J) (hk : HOk P wd J t.heap) (alone : ∀ b, J b ≠ none → b = sa) (nK : J sa ≠ none → K.lookup sa = none)
    (say : sp [.ref sa] J (fun v _ => v = .bl true) fun _ _ _ => False) : codeAny (model P wd) callerA (.call (.ref fa) ⟨[.ref sa], []⟩) (Done t) t := by
  have seen : ∀ {b : Addr} {ob : Obj}, t.heap.get? b = some ob → J b = none → (hidT t.heap J).get? b = some ob := fun e n => hidT_get e n
  have free : ∀ {b : Addr} {ob : Obj}, t.heap.get? b = some ob → b ≠ sa → J b = none := fun {b ob} e n => by
    cases q : J b with
    | none => rfl
    | some u => exact absurd (alone b (by rw [q]; simp)) n
  have dic : ∀ {b : Addr} {ob : Obj} {es : Array DictEntry} {ep : Nat}, t.heap.get? b = some ob → ob.data = .dict es ep → b ≠ sa := fun {b ob es ep} e d z => by
    subst z
    rw [so] at e
    cases e
    have d : Data.seq us.toArray _ = Data.dict es ep := d
    cases d
  have nsT : ∀ {b : Addr} {m : Str → Option Value}, t.heap.Ns b m → (hidT t.heap J).Ns b m := fun ⟨ob, es, ep, e, d, r⟩ => ⟨ob, es, ep, seen e (free e (dic e d)), d, r⟩
  have inB : K.In (hidT t.heap J) := fun b ob e => by
    have e1 := inK b ob e
    refine seen e1 ?_
    cases q : J b with
    | none => rfl
    | some u =>
      have z := alone b (by rw [q]; simp)
      subst z
      have := nK (by rw [q]; simp)
      rw [e] at this; cases this
  have limT : (hidT t.heap J).NoLimit := by
    obtain ⟨mc, h1, h2⟩ := lim
    exact ⟨mc, nsT h1, h2⟩
  have env : Env0 P wd K mg (hidT t.heap J) callerA [] t J := by
    refine ⟨rfl, ⟨inB, nsT nm, ⟨mb, nsT nb, bb⟩, limT⟩, fun b ob e => of_hidT e, Nat.le_of_eq (hidT_size _ _), trivial, fun b hb => ?_, hk, .of_eq ng⟩
    have : b ∈ ([] : List Addr) := hb
    simp at this
  have run := (F _ inB (nsT nm)).go callerA [] t J ⟨[.ref sa], []⟩ [.ref sa] [.ref sa] _ _ ⟨rm, rfl⟩ env (bd t (.ref sa)) (.cons rfl .nil) say
  refine codeAny_mono run fun r t' h => ?_
  match r, h with
  | .error e, h => obtain ⟨_, _, _, _, _, _, _, _, _, _, _, _, q⟩ := h; exact False.elim q
  | .ok .next, h => exact False.elim h
  | .ok .brk, h => exact False.elim h
  | .ok .cont, h => exact False.elim h
  | .ok (.ret u), h =>
    obtain ⟨v, J', os, bare, un, hk', rv, ev⟩ := h
    have ev : v = .bl true := ev
    subst ev
    have ru : u = Value.bool true := rv
    subst ru
    refine ⟨rfl, PySem.OldK.of_keep fun b ob e => ?_, os, bare⟩
    cases q : J b with
    | none =>
      refine un.keep b ob e q (fun z => ?_) (by simp)
      have : b ∈ ([] : List Addr) := z
      simp at this
    | some u =>
      rcases only b with z | ⟨o1, xs, z⟩
      · rw [z] at q; cases q
      · have e1 := (hk b _ z).1
        have e2 := (hk' b _ (un.frzs b o1 _ z)).1
        rw [e] at e1
        cases e1
        exact e2
theorem lawSays {G : Gm} {k' : Kd} {m : FA} {J : Hp} (hK : G.K = K) (hT : G.T = []) (lo : ns.length ≤ sizeLine) (h : m [some (.scr ns, .fz)] = .ok (.bl true, k')) (only : Only J) (sq : SqL K J sa (ns.map V.int)) :
    spA G 1 m [.ref sa] J (fun v _ => v = .bl true) fun _ _ _ => False := by
  subst hK
  have tb : LamX.Tabs G.T J := by rw [hT]; exact fun p hp => by simp at hp
  have fin : ∀ x : Stt, x.rho = [some (.scr ns, .fz)] → match m x.rho with
      | .ok (d, k) => ∀ (y : Stt) v fv, y.rho = x.rho → EPost G true x y v d k fv → k ≠ .br → v = .bl true
      | .err c d _ => ∀ (y : Stt) cls dx, y.rho = x.rho → SInv G y → Ext true x y → ErrV G y cls dx c d → False
      | .bad => False := by
    intro x hx
    rw [hx, h]
    exact fun y v fv _ P _ => P.own.bl_of
  have key : ∀ Fz : Addr → Prop, DomF Fz J → Rep G Fz J [.ref sa] [.scr ns] → spA G 1 m [.ref sa] J (fun v _ => v = .bl true) fun _ _ _ => False := fun Fz dm r => by
    refine ⟨⟨Fz, [some (.scr ns, .fz)], [some (.ref sa)], J, [], [], []⟩, ⟨rfl, rfl, ⟨.fz r .nil, by simp, dm, tb⟩, rfl, rfl⟩, rfl, fin _ rfl⟩
  rcases sq with q | q
  · rcases only sa with z | ⟨o, xs, z⟩
    · rcases q with q | ⟨o, q⟩ <;> (rw [z] at q; cases q)
    · have e : J sa = some (.frz o (.lst (ns.map V.int))) := by
        rcases q with q | ⟨o', q⟩
        · rw [z] at q; cases q
        · rw [z] at q; cases q; exact z
      refine key (fun a => a = sa) (fun a f => ?_) (.scr rfl e lo .nil)
      subst f
      exact ⟨_, e, rfl⟩
  · exact key (fun _ => False) (fun _ f => f.elim) (.scrK q lo .nil)
theorem lawRun {G : Gm} {m : FA} {k' : Kd} (hK : G.K = K) (hT : G.T = []) (inK : K.In t.heap) (nm : t.heap.Ns mainGlobals mg) (nb : t.heap.Ns builtinsNs mb) (bb : ∀ y : Str, y ≠ "__name__" → mb y = bootBuiltins y) (lim : t.heap.NoLimit) (ng : t.gens = #[]) (rm : Room k callerA)
    (so : t.heap.get? sa = some { cls := .type "list", data := .seq us.toArray }) (li : IntsAre us ns) (lo : ns.length ≤ sizeLine) (F : ∀ base : Heap, K.In base → base.Ns mainGlobals mg → FnG P wd K mg base k fa fd [x] (spA G 1 m)) (bd : ∀ (s : Shared) (u : Value), BindsTo s fd ⟨[u], []⟩ [(x, u)])
    (h : m [some (.scr ns, .fz)] = .ok (.bl true, k')) : codeAny (model P wd) callerA (.call (.ref fa) ⟨[.ref sa], []⟩) (Done t) t := by
  have rv := vals_ints li
  have ln := li.length
  cases hk : K.lookup sa with
  | some o =>
    have e := inK sa o hk
    rw [so] at e
    cases e
    have sq : SqL K (fun _ => none) sa (ns.map V.int) := .inr ⟨_, us.toArray, _, hk, rfl, rfl, rfl, by rw [List.size_toArray, ln]; exact lo, by simpa using rv⟩
    exact lawIn (fun _ => none) inK nm nb bb lim ng rm so F bd (fun _ => .inl rfl) (fun b u z => by have z : (none : Option HO) = some u := z; cases z) (fun b z => absurd rfl z) (fun z => absurd rfl z) (lawSays hK hT lo h (fun _ => .inl rfl) sq)
  | none =>
    let J : Hp := fun b => if b = sa then some (.frz { cls := .type "list", data := .seq us.toArray } (.lst (ns.map V.int))) else none
    have at1 : J sa = some (.frz { cls := .type "list", data := .seq us.toArray } (.lst (ns.map V.int))) := if_pos rfl
    have at2 : ∀ b, b ≠ sa → J b = none := fun b n => if_neg n
    have only : Only J := fun b => by
      by_cases e : b = sa
      · subst e; exact .inr ⟨_, _, at1⟩
      · exact .inl (at2 b e)
    refine lawIn J inK nm nb bb lim ng rm so F bd only (fun b u z => ?_) (fun b z => ?_) (fun _ => hk) (lawSays hK hT lo h only (.inl (.inr ⟨_, at1⟩)))
    · by_cases e : b = sa
      · subst e
        rw [at1] at z
        cases z
        exact ⟨so, by rw [List.length_map]; exact lo, us, _, rv, so⟩
      · rw [at2 b e] at z; cases z
    · by_cases e : b = sa
      · exact e
      · exact absurd (at2 b e) z
end
theorem lawWalk {l : PySem.W.OpenLaw} {n k : Nat} {q : Program} {loose : List Str} {XP : (Str → Option Value) → Heap → Prop} {YP : World → Heap → Prop} {df : DefRec} {KK : Params → PySem.W.Frag} {GG : World → (Str → Option Value) → Gm} {m : FA} {x : Str}
    (most : l.most = some n) (small : n ≤ sizeLine) (nd : df.params.defaults = []) (rm : Room k callerA) (inn : ∀ (wd : World) (h : Heap), YP wd h → (KK wd.params).In h)
    (hG : ∀ wd mg, (GG wd mg).K = KK wd.params ∧ (GG wd mg).T = [])
    (F : ∀ (wd : World) (mg : Str → Option Value) (fa : Addr) (h : Heap), (KK wd.params).In h → h.Ns mainGlobals mg → mg df.name = some (.ref fa) →
      ∃ fd : FuncData, (∀ (s : Shared) (u : Value), BindsTo s fd ⟨[u], []⟩ [(x, u)]) ∧ ∀ base : Heap, (KK wd.params).In base → base.Ns mainGlobals mg → FnG l.prog wd (KK wd.params) mg base k fa fd [x] (spA (GG wd mg) 1 m))
    (plain : ∀ ns : List Int, ns.length ≤ n → ∃ k', m [some (.scr ns, .fz)] = .ok (.bl true, k')) :
    PySem.W.WalkO q loose XP YP l.row.toRowW df [] (fun f vs => PySem.call f vs) :=
  Att.attach_call most nd fun wd s0 t mg mb fa o pm cd doc a us ns Gr Y ho hd hcd hmg so li lo ng => by
    obtain ⟨fd, bd, F'⟩ := F wd mg fa _ (inn wd _ Y) Gr.T.g hmg
    obtain ⟨k', pl⟩ := plain ns lo
    exact lawRun (hG wd mg).1 (hG wd mg).2 (inn wd _ Y) Gr.T.g Gr.T.b Gr.T.builtins Gr.T.nolimit ng rm so li (Nat.le_trans lo small) F' bd pl
end VL
/-! VL21: short words for walks. -/
namespace VL
open PySem PySem.Spec PyProof.Rows L2

def xBad : EE := fun _ => .bad
theorem tk0 {X : Cx} : Takes X W0 := fun u s' ⟨_, _, _, _, _, _, _, _, _, _, _, _, _, _, _, _, w⟩ => False.elim w
def kitsB (a : String) : List String → Option Bool
  | [] => some false
  | b :: r => match kitB a b with
    | some true => some true
    | some false => kitsB a r
    | none => none
theorem kits_any {K : PySem.W.Frag} {a : String} : ∀ {bs : List String} {r : Bool}, kitsB a bs = some r → PySem.W.kitAny K (.type a) (bs.map Value.type) = some r
  | [], _, h => h
  | b :: bs, r, h => by
    simp only [kitsB] at h
    cases e : kitB a b with
    | none => rw [e] at h; cases h
    | some c =>
      rw [e] at h
      cases c with
      | true => exact kitAny_cons (b := true) (kit_ty e) (fun z => by cases z) (fun _ => by simpa using h.symm)
      | false => exact kitAny_cons (b := false) (kit_ty e) (fun _ => kits_any h) (fun z => by cases z)
/-- isinstance for built-in classes alone -/
def tyTab (bs : List String) (ts : List String) : List (Tag × Bool) := ts.filterMap fun t => (kitsB t bs).map fun r => (.ty t, r)
theorem tyTab_ok {G : Gm} {bs ts : List String} {us : List Value} (h : us = bs.map Value.type) : IsiOk G (tyTab bs ts) us := by
  subst h
  intro p hp
  simp only [tyTab, List.mem_filterMap, Option.map_eq_some_iff] at hp
  obtain ⟨t, _, r, e, rfl⟩ := hp
  refine ⟨True.intro, fun v hv => ?_⟩
  obtain rfl : v = .type t := hv
  exact kits_any e
section
variable {X : Cx} {G : Gm} {W : WX} {z : Stt} {kk : Nat}
theorem r_globC {x : Str} {pos : Pos} {v : V} {d : D} (hg : Gl X x) (h : ∃ u, X.mg x = some u ∧ RelV v u) (hd : atomD v = some d) (hdb : (x == ("__debug__" : Str)) = false := by decide) : PE X (.Name x pos) (tS G W true (xC d)) := by
  obtain ⟨u, h1, h2⟩ := h
  exact r_const (pe_glob hg h1 h2 hdb) hd
theorem g_at {i : Nat} {x : Str} {pos : Pos} (hN : X.N.Nodup) (hi : X.N[i]? = some x := by rfl) (hx : Loc X.env.scope x := by first | exact Or.inl rfl | exact Or.inr rfl) (hf : X.fn x = true ∨ X.env.scope.names.lookup x = some .local := by first | exact Or.inl rfl | exact Or.inr rfl) : PG X (.Name x pos) (tG G [i] (gNm i)) := g_name (pg_name hN hi hx hf)
theorem set_at {fl : Fl} {i : Nat} {x : Str} {e : Expr} {s : Bool} {f : EE} {pos pos' : Pos} (hN : X.N.Nodup) (he : PE X e (tS G W s f)) (hi : X.N[i]? = some x := by rfl) (hx : Loc X.env.scope x := by first | exact Or.inl rfl | exact Or.inr rfl) (hs : swapsWith e (some (.Name x pos')) pos.line X.env = pure false := by rfl) (hf : X.fn x = true ∨ X.env.scope.names.lookup x = some .local := by first | exact Or.inl rfl | exact Or.inr rfl) :
    PS X (.Assign [.Name x pos'] e pos) (tT G W z (sSet fl i f)) := r_set (ps_set hN hi hx he hs hf)
theorem asg_at {tg e : Expr} {pos : Pos} {s : Bool} {is : List Nat} {g : GE} {f : EE} (he : PE X e (tS G W s f)) (hg : PG X tg (tG G is g)) (hne : NoErr g) (hs : swapsWithSole [tg] e pos.line X.env = pure false := by rfl) (hw : swappedStores [tg] e X.env = pure none := by rfl)
    (h1 : (assignEach [tg] X.env).map (·.2) = [assign tg X.env] := by rfl) : PS X (.Assign [tg] e pos) (tT G W z (sAsg g f)) := r_asg (fun _ _ a b => ps_asg a b hs hw h1) he hg hne
/-- a, b = x, y -/
def parK (i j : Nat) (ρ1 : Env) : List (D × Kd) → Res Flo
  | [(d1, k1), (d2, k2)] => if fzAll [(d1, k1), (d2, k2)] = true then
      (gNm i d1 ρ1).bind fun ρ2 => (gNm j d2 ρ2).bind fun ρ3 => .ok (.nx ρ3)
    else .bad
  | _ => .bad
def sPar (i j : Nat) (f : AE) : SE := fun ρ => do
  let (l, ρ1) ← f ρ
  parK i j ρ1 l
theorem r_par {i j : Nat} {x y : Str} {a b : Expr} {s : Bool} {f : AE} {px py pt pos : Pos} {kt k2 pt2} (hc : X.calm = true) (hN : X.N.Nodup) (hi : X.N[i]? = some x) (hj : X.N[j]? = some y) (hij : i ≠ j)
    (lx : X.env.scope.names.lookup x = some .local) (ly : X.env.scope.names.lookup y = some .local) (ha : PA X [a, b] (tA G W s f))
    (hw : swappedStores [.Tuple [.Name x px, .Name y py] kt pt] (.Tuple [a, b] k2 pt2) X.env = pure (some [x, y]) := by rfl)
    (hs : swapsWithSole [.Tuple [.Name x px, .Name y py] kt pt] (.Tuple [a, b] k2 pt2) pos.line X.env = pure false := by rfl) :
    PS X (.Assign [.Tuple [.Name x px, .Name y py] kt pt] (.Tuple [a, b] k2 pt2) pos) (tT G W z (sPar i j f)) := PS.of (ps_par hc hN hi hj hij lx ly ha hw hs) fun Dn σ H h => by
  obtain ⟨x, rfl, rfl, hx, hz, q⟩ := h
  refine ⟨x, rfl, rfl, hx, ?_⟩
  unfold sPar at q
  cases e : f x.rho with
  | bad => simp only [e, Res.bind_bad] at q; exact q.elim
  | err c d ρ' =>
    simp only [e, Res.bind_err] at q
    intro y cls dx hρ iy ey hev
    have := q y cls dx hρ (SStep.ext hz hx iy ey) hev
    rw [ey.sg] at this; exact this
  | ok r =>
    obtain ⟨l, ρ1⟩ := r
    simp only [e, Res.bind_ok] at q
    intro y vs hρ iy ey ay
    match l, ay, q with
    | [(d1, k1), (d2, k2)], ay, q =>
      simp only [parK] at q
      by_cases hf : fzAll [(d1, k1), (d2, k2)] = true
      · rw [if_pos hf] at q
        obtain ⟨F', i', e', rp⟩ := ay.frozen hx iy ey hf
        obtain ⟨v, ws, rfl, r1, r2⟩ := rp.cons_of
        obtain ⟨w, ws, rfl, r2, r3⟩ := r2.cons_of
        rw [r3.nil_of]
        refine ⟨v, w, rfl, ?_⟩
        rw [← hρ] at q
        cases h1 : gNm i d1 y.rho with
        | bad => simp only [h1, Res.bind] at q; exact q.elim
        | err c d' ρ' => exact absurd h1 (ne_name _ _ _ _ _)
        | ok ρ2 =>
          simp only [h1, Res.bind] at q
          obtain ⟨y1, y2, y3, y4, y5⟩ := set_tstep (x := { y with F := F' }) i' r1 h1
          cases h2 : gNm j d2 ρ2 with
          | bad => simp only [h2] at q; exact q.elim
          | err c d' ρ' => exact absurd h2 (ne_name _ _ _ _ _)
          | ok ρ3 =>
            simp only [h2] at q
            obtain ⟨u1, u2, u3, u4, u5⟩ := set_tstep (v := w) y5.inv (by rw [y5.F, y5.H]; exact r2) (show setSlot .fz j d2 .fz y1.rho = .ok ρ3 by rw [y2]; exact h2)
            have st := (SStep.ext hz hx i' e').trans ((y5.step (hz.ext hx e')).trans (u5.step ((y5.step (hz.ext hx e')).ent)))
            have := q u1 u2 st
            rw [u3, y3, u4, y4] at this
            rw [← ey.sg]; exact this
      · rw [if_neg hf] at q; exact q.elim
    | [], _, q => exact q.elim
    | [_], _, q => exact q.elim
    | _ :: _ :: _ :: _, _, q => exact q.elim
/-- all(list of truths) -/
def blsOf : List D → Option (List Bool)
  | [] => some []
  | .bl b :: r => (blsOf r).map (b :: ·)
  | _ :: _ => none
theorem blsOf_eq : ∀ {l : List D} {bs : List Bool}, blsOf l = some bs → l = bs.map D.bl
  | [], ns, h => by cases h; rfl
  | d :: r, ns, h => by
    cases d <;> first | cases h | skip
    simp only [blsOf, Option.map_eq_some_iff] at h
    obtain ⟨ms, h1, rfl⟩ := h
    rw [List.map_cons, blsOf_eq h1]
theorem Rep.bls_of {F : Addr → Prop} {H : Hp} : ∀ {ns : List Bool} {vs : List V}, Rep G F H vs (ns.map D.bl) → vs = ns.map V.bl
  | [], vs, h => h.nil_of
  | n :: ns, vs, h => by
    obtain ⟨v, ws, rfl, r1, r2⟩ := h.cons_of
    rw [r1.bl_of, Rep.bls_of r2]; rfl
def dAll : D → Option (D × Kd)
  | .lst es => (blsOf es).map fun bs => (.bl (bs.all id), .fz)
  | _ => none
theorem o_all (hc : X.calm = true) : CallR X (.builtin "all") (rAll X.K) ∧ FnD G (rAll X.K) (f1 dAll) := ⟨cr_all hc, by
  intro F H vs ds d k Q hd hr hg q
  obtain ⟨a, ea, hg'⟩ := f1_of hg
  subst ea
  obtain ⟨v, fp, rfl, w⟩ := hr.one
  cases a <;> first | cases hg' | skip
  simp only [dAll, Option.map_eq_some_iff, Prod.mk.injEq] at hg'
  obtain ⟨bs, e, rfl, rfl⟩ := hg'
  obtain rfl := blsOf_eq e
  obtain ⟨a, ws, rfl, e1, z1, r1⟩ := w.lstM
  obtain rfl := Rep.bls_of r1
  exact ⟨a, bs, rfl, .inl (.inl e1), q F H _ [] (.atom hd rfl)⟩⟩
/-- great != [] as a test -/
theorem r_tdrwNe {i : Nat} {o k : Expr} {p1 p2 p3 : Pos} (hr : RoomG kk X.A) (hK : X.K = G.K) (ho : PE X o (tVar i)) (hk : PE X k (tC (.str "great"))) (hs : NoSl k) : PT X (.Compare (.Subscript o k p1) [.NotEq] [.List [] p2] p3) (tB G W true (xTst (xDrwNe i))) :=
  PT.of (pt_cmpR (o_ne (G := G) hr hK).1 (pe_dget (Nat.lt_of_le_of_lt (Nat.add_le_add_left (by decide) _) hr.room.units) ho hk hs) (r_lst (G := G) (W := W) r_anil) rfl) fun σ H Q h => drwNe_imp hr hK (tB_of h)
end
section
variable {X : Cx} {G : Gm} {W : WX} {z : Stt}
theorem r_neverE {e : Expr} : PE X e (tS G W true xBad) := ⟨fun _ _ _ _ _ _ ⟨_, _, _, _, q⟩ => False.elim q⟩
theorem b_bin {op : Operator} {a b : Expr} {pos : Pos} {r : R2} {g : D → D → Option (D × Kd)} {s t : Bool} {f1 f2 : EE} (h : OpR X (binaryOp op) r ∧ FnD2 G r g) (ha : PE X a (tS G W s f1)) (hb : PE X b (tS G W t f2)) : PE X (.BinOp a op b pos) (tS G W (s && t) (xAp2 t g f1 f2)) := r_bin h.1 h.2 ha hb
theorem b_un {op : UnaryOp} {a : Expr} {pos : Pos} {r : V → Hp → VK → Prop} {g : D → Option (D × Kd)} {s : Bool} {f : EE} (h : UnR X (unaryOp op) r ∧ FnD1 G r g) (ha : PE X a (tS G W s f)) : PE X (.UnaryOp op a pos) (tS G W s (xAp1 g f)) := r_un h.1 h.2 ha
theorem b_cmp {op : CmpOp} {a b : Expr} {pos : Pos} {r : R2} {g : D → D → Option (D × Kd)} {s t : Bool} {f1 f2 : EE} (h : OpR X (compareOp op) r ∧ FnD2 G r g) (ha : PE X a (tS G W s f1)) (hb : PE X b (tS G W t f2)) (hm : behindInMarks op b = false := by rfl) : PE X (.Compare a [op] [b] pos) (tS G W (s && t) (xAp2 t g f1 f2)) := r_cmp h.1 h.2 ha hb hm
theorem b_tcmp {op : CmpOp} {a b : Expr} {pos : Pos} {r : R2} {g : D → D → Option (D × Kd)} {s t : Bool} {f1 f2 : EE} (h : OpR X (compareOp op) r ∧ FnD2 G r g) (ha : PE X a (tS G W s f1)) (hb : PE X b (tS G W t f2)) (hm : behindInMarks op b = false := by rfl) : PT X (.Compare a [op] [b] pos) (tB G W (s && t) (xTst (xAp2 t g f1 f2))) := r_tcmp h.1 h.2 ha hb hm
theorem b_chain {op op' : CmpOp} {r r' : R2} {a b c : Expr} {pos : Pos} {s t u : Bool} {f1 f2 f3 : EE} {g g' : D → D → Option (D × Kd)} (h : OpR X (compareOp op) r ∧ FnD2 G r g) (h' : OpR X (compareOp op') r' ∧ FnD2 G r' g') (ha : PE X a (tS G W s f1)) (hb : PE X b (tS G W t f2)) (hc : PE X c (tS G W u f3))
    (hm : lastMarks [op, op'] [b, c] = false := by with_unfolding_all rfl) : PE X (.Compare a [op, op'] [b, c] pos) (tS G W (s && (t && u)) (xChain g g' f1 f2 f3)) := r_chain h.1 h.2 h'.1 h'.2 ha hb hc hm
theorem b_tchain {op op' : CmpOp} {r r' : R2} {a b c : Expr} {pos : Pos} {s t u : Bool} {f1 f2 f3 : EE} {g g' : D → D → Option (D × Kd)} (h : OpR X (compareOp op) r ∧ FnD2 G r g) (h' : OpR X (compareOp op') r' ∧ FnD2 G r' g') (ha : PE X a (tS G W s f1)) (hb : PE X b (tS G W t f2)) (hc : PE X c (tS G W u f3))
    (hm : lastMarks [op, op'] [b, c] = false := by with_unfolding_all rfl) : PT X (.Compare a [op, op'] [b, c] pos) (tB G W (s && (t && u)) (xTst (xChain g g' f1 f2 f3))) := r_tchain h.1 h.2 h'.1 h'.2 ha hb hc hm
theorem b_ix {a b : Expr} {pos : Pos} {r : R2} {g : D → D → Option (D × Kd)} {s t : Bool} {f1 f2 : EE} (h : IxR X r ∧ FnD2 G r g) (ha : PE X a (tS G W s f1)) (hb : PE X b (tS G W t f2)) (hs : PlainIx b := by exact fun _ _ => rfl) : PE X (.Subscript a b pos) (tS G W (s && t) (xAp2 t g f1 f2)) := r_ix h.1 h.2 ha hb hs
theorem b_cb {id : String} {x : Str} {p pos : Pos} {e : Expr} {es : List Expr} {r : List V → Hp → VK → Prop} {g : List D → Option (D × Kd)} {s : Bool} {f : AE} (h : CallR X (.builtin id) r ∧ FnD G r g) (hm : X.mg x = none) (ha : PA X (e :: es) (tA G W s f)) (hg : Gl X x := by rfl) (hv : bootBuiltins x = some (.builtin id) := by decide +kernel)
    (hn : x ≠ "__name__" := by decide) (hdb : (x == ("__debug__" : Str)) = false := by decide) (he : starEach (e :: es) X.env = (false, eval e X.env) :: starEach es X.env := by rfl) (hpl : (backTo pos (starEach es X.env)).any (·.1) = false := by rfl) :
    PE X (.Call (.Name x p) (e :: es) [] pos) (tS G W s (xApp g f)) := r_callB h.1 h.2 hg hm hv ha hn hdb he hpl
theorem b_ct {T : String} {x : Str} {p pos : Pos} {e : Expr} {es : List Expr} {r : List V → Hp → VK → Prop} {g : List D → Option (D × Kd)} {s : Bool} {f : AE} (h : CallR X (.type T) r ∧ FnD G r g) (hm : X.mg x = none) (ha : PA X (e :: es) (tA G W s f)) (hg : Gl X x := by rfl) (hv : bootBuiltins x = some (.type T) := by decide +kernel)
    (hn : x ≠ "__name__" := by decide) (hdb : (x == ("__debug__" : Str)) = false := by decide) (he : starEach (e :: es) X.env = (false, eval e X.env) :: starEach es X.env := by rfl) (hpl : (backTo pos (starEach es X.env)).any (·.1) = false := by rfl) :
    PE X (.Call (.Name x p) (e :: es) [] pos) (tS G W s (xApp g f)) := r_callTy h.1 h.2 hg hm hv ha hn hdb he hpl
end
section
variable {P : Program} {w : World} {K : PySem.W.Frag} {mg : Str → Option Value} {base : Heap} {N : List Str} {qual : Str} {sc : Scope} {f : Addr} {cd : Value} {A : Around} {outer : List PySem.Env} {s : Shared} {H : Hp} {E : XK}
theorem tkD : Takes (cxOf (L2.CX P w) P w K mg base N qual sc f cd A outer s H E) (fun cls d _ H => E cls d H) := takes_of rfl rfl rfl rfl
theorem paD : PassesOwn (model (cxOf (L2.CX P w) P w K mg base N qual sc f cd A outer s H E).prog (cxOf (L2.CX P w) P w K mg base N qual sc f cd A outer s H E).w) (cxOf (L2.CX P w) P w K mg base N qual sc f cd A outer s H E).A (cxOf (L2.CX P w) P w K mg base N qual sc f cd A outer s H E).env (cxOf (L2.CX P w) P w K mg base N qual sc f cd A outer s H E).xe := passes_of rfl
end
/-- a class whose instances are plain -/
structure ClsOk (K : PySem.W.Frag) (C : Addr) : Prop where
  i : ClsI K C
theorem clsI_mk {K : PySem.W.Frag} {C : Addr} (pg : PySem.W.plainGet K C Str.empty = true) (hd : PySem.W.hasDictIn K C = true) (po : PySem.W.plainOver K C = true) (sa : PySem.W.findIn K (.ref C) "__setattr__" = some (some (.builtin "object.__setattr__")))
    (ha : PySem.W.findIn K (.ref C) "__class__" = some (some (.builtin "object.__class__"))) (hn : PySem.W.specialIn K (.builtin "object.__class__") "__get__" = some (some (.builtin "getset_descriptor.__get__"))) (ht : PySem.W.takesIn K (.builtin "object.__class__") = some true) (hm : PySem.W.mroIn K C (.type "object") = some true) : ClsI K C := ⟨⟨pg, hd, po, sa⟩, ha, hn, ht, hm⟩
theorem kit_self {K : PySem.W.Frag} {C : Addr} {us : List Value} : PySem.W.kitAny K (.ref C) (.ref C :: us) = some true := by
  have e : (Value.ref C == Value.ref C) = true := by simp
  simp only [PySem.W.kitAny, PySem.W.kitOne, e, if_true]
theorem isi_nil {G : Gm} {us : List Value} : IsiOk G [] us := fun p hp => by simp at hp
theorem isi_cons {G : Gm} {c : Nat} {C : Addr} {b : Bool} {tab : List (Tag × Bool)} {us : List Value} (hc : G.cm c = some C) (hi : ClsI G.K C) (hk : PySem.W.kitAny G.K (.ref C) us = some b) (h : IsiOk G tab us) : IsiOk G ((.cls c, b) :: tab) us := fun p hp => by
  rcases List.mem_cons.mp hp with e | hp
  · subst e
    refine ⟨fun C' hC => ?_, fun t ht => ?_⟩
    · rw [hc] at hC; cases hC; exact hi
    · obtain ⟨C', hC, e, _⟩ := ht
      rw [hc] at hC; cases hC; subst e; exact hk
  · exact h p hp
theorem isi_consE {G : Gm} {c : Nat} {C : Addr} {b : Bool} {tab : List (Tag × Bool)} {us : List Value} (hc : G.cm c = some C) (hi : ExcI G.K C) (hk : PySem.W.kitAny G.K (.ref C) us = some b) (h : IsiOk G tab us) : IsiOk G ((.exn c, b) :: tab) us := fun p hp => by
  rcases List.mem_cons.mp hp with e | hp
  · subst e
    refine ⟨fun C' hC => ?_, fun t ht => ?_⟩
    · rw [hc] at hC; cases hC; exact hi
    · obtain ⟨C', hC, e, _⟩ := ht
      rw [hc] at hC; cases hC; subst e; exact hk
  · exact h p hp
theorem isi_consT {G : Gm} {n : String} {b : Bool} {tab : List (Tag × Bool)} {us : List Value} (hk : PySem.W.kitAny G.K (.type n) us = some b) (h : IsiOk G tab us) : IsiOk G ((.ty n, b) :: tab) us := fun p hp => by
  rcases List.mem_cons.mp hp with e | hp
  · subst e
    refine ⟨True.intro, fun t ht => ?_⟩
    obtain rfl : t = .type n := ht
    exact hk
  · exact h p hp
theorem fld_nil {G : Gm} {f : Str} : FldOk G [] f := fun c hc => by simp at hc
theorem fld_cons {G : Gm} {c : Nat} {C : Addr} {cs : List Nat} {f : Str} (hc : G.cm c = some C) (cl : Cls G.K C) (na : NoAttr G.K C f) (h : FldOk G cs f) : FldOk G (c :: cs) f := fun c' hp C' hC => by
  rcases List.mem_cons.mp hp with e | hp
  · subst e
    rw [hc] at hC; cases hC; exact ⟨cl, na⟩
  · exact h c' hp C' hC
def adrOf : Option Value → Option Addr
  | some (.ref a) => some a
  | _ => none
end VL
/-! VLE: the mirrors unfolded. -/
namespace VL
open PySem PySem.Spec PyProof.Rows L2

@[simp] theorem ev_xC (d : D) (ρ : Env) : xC d ρ = (.ok (d, .fz, ρ)) := Eq.trans rfl rfl
@[simp] theorem ev_xV (i : Nat) (ρ : Env) : xV i ρ = (match ρ[i]? with
  | some (some (d, .fz)) => .ok (d, .fz, ρ)
  | some (some (d, _)) => .ok (d, .br, ρ)
  | _ => .bad) := Eq.trans rfl rfl
@[simp] theorem ev_aN (ρ : Env) : aN  ρ = (.ok ([], ρ)) := Eq.trans rfl rfl
@[simp] theorem ev_aC (s : Bool) (f : EE) (g : AE) (ρ : Env) : aC s f g ρ = (do
  let (d, k, ρ1) ← f ρ
  if k = .br ∧ s = false then .bad else do
    let (l, ρ2) ← g ρ1
    pure ((d, k) :: l, ρ2)) := Eq.trans rfl rfl
@[simp] theorem ev_xTup (f : AE) (ρ : Env) : xTup f ρ = (do
  let (l, ρ1) ← f ρ
  if fzAll l = true ∧ l.length ≤ sizeLine then pure (.tup (l.map (·.1)), .fz, ρ1) else .bad) := Eq.trans rfl rfl
@[simp] theorem ev_xLst (f : AE) (ρ : Env) : xLst f ρ = (do
  let (l, ρ1) ← f ρ
  if fzAll l = true ∧ l.length ≤ sizeLine then pure (.lst (l.map (·.1)), .ow, ρ1) else .bad) := Eq.trans rfl rfl
@[simp] theorem ev_xTst (f : EE) (ρ : Env) : xTst f ρ = (do
  let (d, _, ρ1) ← f ρ
  match d with
  | .bl b => pure (b, ρ1)
  | _ => .bad) := Eq.trans rfl rfl
@[simp] theorem ev_bNot (f : BE) (ρ : Env) : bNot f ρ = (do
  let (b, ρ1) ← f ρ
  pure (!b, ρ1)) := Eq.trans rfl rfl
@[simp] theorem ev_bK (b : Bool) (ρ : Env) : bK b ρ = (pure (b, ρ)) := Eq.trans rfl rfl
@[simp] theorem ev_bIf (f g g' : BE) (ρ : Env) : bIf f g g' ρ = (do
  let (b, ρ1) ← f ρ
  if b = true then g ρ1 else g' ρ1) := Eq.trans rfl rfl
@[simp] theorem ev_xCall (m : FA) (f : AE) (ρ : Env) : xCall m f ρ = (do
  let (l, ρ1) ← f ρ
  if argsOk l = true then
    match m (l.map argS) with
    | .ok (d, k) => if k = .br then .bad else .ok (d, k, ρ1)
    | .err c d _ => .err c d ρ1
    | .bad => .bad
  else .bad) := Eq.trans rfl rfl
@[simp] theorem ev_xCallM (m : FB) (i : Nat) (f : AE) (ρ : Env) : xCallM m i f ρ = (match ρ[i]? with
  | some (some (_, fl)) => if ownFl fl = true then (do
      let (l, ρ1) ← f ρ
      callMK m i l ρ1) else .bad
  | _ => .bad) := Eq.trans rfl rfl
@[simp] theorem ev_xMake (cn : Nat) (m : FB) (f : AE) (ρ : Env) : xMake cn m f ρ = (do
  let (l, ρ1) ← f ρ
  if argsOk l = true then
    match m (some (.ins cn [], .pn) :: l.map argS) with
    | .ok (.non, _, d1) => if d1.isDrw = true then .bad else .ok (d1, .ow, ρ1)
    | .err c d ρ' => match err1 ρ' with
      | some _ => .err c d ρ1
      | none => .bad
    | _ => .bad
  else .bad) := Eq.trans rfl rfl
@[simp] theorem ev_xDrwRest (i : Nat) (ρ : Env) : xDrwRest i ρ = (match drwAt i ρ with
  | some (_, r, _, _, _) => .ok (.int r, .fz, ρ)
  | none => .bad) := Eq.trans rfl rfl
@[simp] theorem ev_xDrwTurn (i : Nat) (ρ : Env) : xDrwTurn i ρ = (match drwAt i ρ with
  | some (_, _, _, t, _) => .ok (.int t, .fz, ρ)
  | none => .bad) := Eq.trans rfl rfl
@[simp] theorem ev_xDrwCells (i : Nat) (ρ : Env) : xDrwCells i ρ = (match drwAt i ρ with
  | some (_, _, ce, _, _) => .ok (.lst (ce.map D.int), .fz, ρ)
  | none => .bad) := Eq.trans rfl rfl
@[simp] theorem ev_xDrwNe (i : Nat) (ρ : Env) : xDrwNe i ρ = (match drwAt i ρ with
  | some (gr, _, _, _, _) => .ok (.bl (!gr.isEmpty), .fz, ρ)
  | none => .bad) := Eq.trans rfl rfl
@[simp] theorem ev_xDrwPop (i : Nat) (ρ : Env) : xDrwPop i ρ = (match drwAt i ρ with
  | some (n :: gr, r, ce, t, fl) => .ok (.int n, .fz, ρ.set i (some (.drw gr r ce t, fl)))
  | _ => .bad) := Eq.trans rfl rfl
@[simp] theorem ev_sDrwRest (i : Nat) (f : EE) (ρ : Env) : sDrwRest i f ρ = (do
  let (d, _, ρ1) ← f ρ
  match d, drwAt i ρ1 with
  | .int n, some (gr, _, ce, t, fl) => .ok (.nx (ρ1.set i (some (.drw gr n ce t, fl))))
  | _, _ => .bad) := Eq.trans rfl rfl
@[simp] theorem ev_sDrwTurn (i : Nat) (f : EE) (ρ : Env) : sDrwTurn i f ρ = (do
  let (d, _, ρ1) ← f ρ
  match d, drwAt i ρ1 with
  | .int n, some (gr, r, ce, _, fl) => .ok (.nx (ρ1.set i (some (.drw gr r ce n, fl))))
  | _, _ => .bad) := Eq.trans rfl rfl
@[simp] theorem ev_sBad (v0 : Env) : sBad  v0 = (.bad) := Eq.trans rfl rfl
@[simp] theorem ev_xBad (v0 : Env) : xBad  v0 = (.bad) := Eq.trans rfl rfl
@[simp] theorem ev_xIfD (f g g' : EE) (ρ : Env) : xIfD f g g' ρ = (do
  let (d, _, ρ1) ← f ρ
  match d with
  | .bl b => if b = true then g ρ1 else g' ρ1
  | _ => .bad) := Eq.trans rfl rfl
@[simp] theorem ev_xIfE (c : BE) (g g' : EE) (ρ : Env) : xIfE c g g' ρ = (do
  let (b, ρ1) ← c ρ
  if b = true then g ρ1 else g' ρ1) := Eq.trans rfl rfl
@[simp] theorem ev_sAsg (g : GE) (f : EE) (ρ : Env) : sAsg g f ρ = (do
  let (d, k, ρ1) ← f ρ
  match k with
  | .fz => do
    let ρ2 ← g d ρ1
    pure (.nx ρ2)
  | _ => .bad) := Eq.trans rfl rfl
@[simp] theorem ev_sFldSet (cs : List Nat) (i : Nat) (f : Str) (g : EE) (ρ : Env) : sFldSet cs i f g ρ = (do
  let (d, k, ρ1) ← g ρ
  fldK cs i f d k ρ1) := Eq.trans rfl rfl
@[simp] theorem ev_sRetDrw (i : Nat) (f : EE) (ρ : Env) : sRetDrw i f ρ = (match ρ[i]? with
  | some (some (.lst es, .ow)) => match intsOf es with
    | some gr => (f ρ).bind fun r => match r with
      | (.lst cs, .ow, ρ1) => match intsOf cs with
        | some ce => .ok (.rt (.drw gr 0 ce 0) .ow ρ1)
        | none => .bad
      | _ => .bad
    | none => .bad
  | _ => .bad) := Eq.trans rfl rfl
@[simp] theorem ev_sSeq (s t : SE) (ρ : Env) : sSeq s t ρ = (do
  match ← s ρ with
  | .nx ρ1 => t ρ1
  | f => pure f) := Eq.trans rfl rfl
@[simp] theorem ev_sNil (ρ : Env) : sNil  ρ = (pure (.nx ρ)) := Eq.trans rfl rfl
@[simp] theorem ev_sEx (f : EE) (ρ : Env) : sEx f ρ = (do
  let (_, _, ρ1) ← f ρ
  pure (.nx ρ1)) := Eq.trans rfl rfl
@[simp] theorem ev_sIf (c : BE) (s t : SE) (ρ : Env) : sIf c s t ρ = (do
  let (b, ρ1) ← c ρ
  if b = true then s ρ1 else t ρ1) := Eq.trans rfl rfl
@[simp] theorem ev_sSet (fl : Fl) (i : Nat) (f : EE) (ρ : Env) : sSet fl i f ρ = (do
  let (d, k, ρ1) ← f ρ
  let ρ2 ← setSlot fl i d k ρ1
  pure (.nx ρ2)) := Eq.trans rfl rfl
@[simp] theorem ev_sRet (f : EE) (ρ : Env) : sRet f ρ = (do
  let (d, k, ρ1) ← f ρ
  match k with
  | .br => .bad
  | _ => pure (.rt d k ρ1)) := Eq.trans rfl rfl
@[simp] theorem ev_sRetV (i : Nat) (ρ : Env) : sRetV i ρ = (match ρ[i]? with
  | some (some (d, .fz)) => pure (.rt d .fz ρ)
  | some (some (d, .ow)) => pure (.rt d .ow ρ)
  | _ => .bad) := Eq.trans rfl rfl
@[simp] theorem ev_sRetN (ρ : Env) : sRetN  ρ = (pure (.rt .non .fz ρ)) := Eq.trans rfl rfl
@[simp] theorem ev_sFrz (i : Nat) (s : SE) (ρ : Env) : sFrz i s ρ = (match ρ[i]? with
  | some (some (d, .ow)) => if d.fzOk = true then s (ρ.set i (some (d, .fz))) else .bad
  | _ => s ρ) := Eq.trans rfl rfl
@[simp] theorem ev_sBrk (ρ : Env) : sBrk  ρ = (pure (.bk ρ)) := Eq.trans rfl rfl
@[simp] theorem ev_sCnt (ρ : Env) : sCnt  ρ = (pure (.ct ρ)) := Eq.trans rfl rfl
@[simp] theorem ev_gNm (i : Nat) (d : D) (ρ : Env) : gNm i d ρ = (setSlot .fz i d .fz ρ) := Eq.trans rfl rfl
@[simp] theorem ev_gsN (ds : List D) (ρ : Env) : gsN  ds ρ = (match ds with
  | [] => .ok ρ
  | _ => .bad) := Eq.trans rfl rfl
@[simp] theorem ev_gsC (g : GE) (gs : List D → Env → Res Env) (ds : List D) (ρ : Env) : gsC g gs ds ρ = (match ds with
  | d :: r => do
    let ρ1 ← g d ρ
    gs r ρ1
  | [] => .bad) := Eq.trans rfl rfl
@[simp] theorem ev_gTp (n : Nat) (gs : List D → Env → Res Env) (d : D) (ρ : Env) : gTp n gs d ρ = (match d with
  | .tup ds => if ds.length = n then gs ds ρ else .bad
  | _ => .bad) := Eq.trans rfl rfl
@[simp] theorem ev_sFor (it : IE) (g : GE) (body : SE) (ρ : Env) : sFor it g body ρ = (do
  let (ds, br, ρ1) ← it ρ
  if br = true then .bad else forL g body ds ρ1) := Eq.trans rfl rfl
@[simp] theorem ev_iSeq (f : EE) (ρ : Env) : iSeq f ρ = (do
  let (d, k, ρ1) ← f ρ
  match d with
  | .lst ds => pure (ds, decide (k = .br), ρ1)
  | .tup ds => pure (ds, false, ρ1)
  | .scr ns => pure (ns.map D.int, false, ρ1)
  | _ => .bad) := Eq.trans rfl rfl
@[simp] theorem ev_bYes (ρ : Env) : bYes  ρ = (pure (true, ρ)) := Eq.trans rfl rfl
@[simp] theorem ev_xLc (vs : List Nat) (it : IE) (g : GE) (t : BE) (e : EE) (ρ : Env) : xLc vs it g t e ρ = (do
  let (ds, _, ρ1) ← it ρ
  if wipable ρ1 vs = true ∧ ds.length ≤ sizeLine then
    match lcS g t e (wipeR ρ1 vs) ds with
    | .ok l => .ok (.lst l, .ow, ρ1)
    | _ => .bad
  else .bad) := Eq.trans rfl rfl
@[simp] theorem ev_sPar (i j : Nat) (f : AE) (ρ : Env) : sPar i j f ρ = (do
  let (l, ρ1) ← f ρ
  parK i j ρ1 l) := Eq.trans rfl rfl
@[simp] theorem ev_xCallK (m : FA) (perm : List Nat) (s2 : Bool) (f fk : AE) (ρ : Env) : xCallK m perm s2 f fk ρ = (do
  let (l1, ρ1) ← f ρ
  if (l1.any fun dk => decide (dk.2 = .br)) = true ∧ s2 = false then .bad else do
    let (l2, ρ2) ← fk ρ1
    let l := pick perm (l1 ++ l2)
    if argsOk l = true then
      match m (l.map argS) with
      | .ok (d, k) => if k = .br then .bad else .ok (d, k, ρ2)
      | .err c d _ => .err c d ρ2
      | .bad => .bad
    else .bad) := Eq.trans rfl rfl
@[simp] theorem ev_bAnd (f g : BE) : bAnd f g = (bIf f g (bK false)) := Eq.trans rfl rfl
@[simp] theorem ev_bOr (f g : BE) : bOr f g = (bIf f (bK true) g) := Eq.trans rfl rfl
@[simp] theorem ev_xAnd (f g : EE) : xAnd f g = (xIfD f g (xC (.bl false))) := Eq.trans rfl rfl
@[simp] theorem ev_xOr (f g : EE) : xOr f g = (xIfD f (xC (.bl true)) g) := Eq.trans rfl rfl
@[simp] theorem ev_xNot (f : EE) : xNot f = (xIfD f (xC (.bl false)) (xC (.bl true))) := Eq.trans rfl rfl
@[simp] theorem ev_xApp (g : List D → Option (D × Kd)) (f : AE) (ρ : Env) : xApp g f ρ = (do
  let (l, ρ1) ← f ρ
  match g (l.map (·.1)) with
  | some (d, k) => pure (d, k, ρ1)
  | none => .bad) := Eq.trans rfl rfl
@[simp] theorem ev_xAp2 (s2 : Bool) (g : D → D → Option (D × Kd)) (f1 f2 : EE) (ρ : Env) : xAp2 s2 g f1 f2 ρ = (do
  let (a, k1, ρ1) ← f1 ρ
  if k1 = .br ∧ s2 = false then .bad else do
    let (b, _, ρ2) ← f2 ρ1
    match g a b with
    | some (d, k) => pure (d, k, ρ2)
    | none => .bad) := Eq.trans rfl rfl
@[simp] theorem ev_xAp1 (g : D → Option (D × Kd)) (f : EE) (ρ : Env) : xAp1 g f ρ = (do
  let (a, _, ρ1) ← f ρ
  match g a with
  | some (d, k) => pure (d, k, ρ1)
  | none => .bad) := Eq.trans rfl rfl
@[simp] theorem ev_xMut (p : D → Bool) (i : Nat) (g : D → List D → Option (D × D)) (f : AE) (ρ : Env) : xMut p i g f ρ = (match ρ[i]? with
  | some (some (d0, fl)) => if ownFl fl = true ∧ p d0 = true then (do
      let (l, ρ1) ← f ρ
      mutK p i g l ρ1) else .bad
  | _ => .bad) := Eq.trans rfl rfl
@[simp] theorem ev_xChain (g g' : D → D → Option (D × Kd)) (f1 f2 f3 : EE) (ρ : Env) : xChain g g' f1 f2 f3 ρ = (do
  let (a, k1, ρ1) ← f1 ρ
  if k1 = .br then .bad else do
    let (b, k2, ρ2) ← f2 ρ1
    if k2 = .br then .bad else chainM g g' f3 a b ρ2) := Eq.trans rfl rfl
@[simp] theorem ev_append (es : List D) (d : D) : mAppend (.lst es) [d] = if es.length < sizeLine then some (.lst (es ++ [d]), .non) else none := Eq.trans rfl rfl
def rngK1 (l : List (D × Kd)) (ρ1 : Env) : Res (List D × Bool × Env) := match int1 l with
  | some j => if rngOk j = true then pure (rng 0 j.toNat, false, ρ1) else .bad
  | none => .bad
def rngK2 (l : List (D × Kd)) (ρ1 : Env) : Res (List D × Bool × Env) := match int2 l with
  | some (i, j) => if rngOk i = true ∧ rngOk j = true then pure (rng i (j - i).toNat, false, ρ1) else .bad
  | none => .bad
@[simp] theorem ev_iRng1D (f : AE) (ρ : Env) : iRng1D f ρ = (do
  let (l, ρ1) ← f ρ
  rngK1 l ρ1) := Eq.trans rfl rfl
@[simp] theorem ev_iRng2D (f : AE) (ρ : Env) : iRng2D f ρ = (do
  let (l, ρ1) ← f ρ
  rngK2 l ρ1) := Eq.trans rfl rfl
theorem rngOk_small {j : Int} (h : -1000000 < j ∧ j < 1000000) : rngOk j = true := by
  unfold rngOk
  rw [decide_eq_true_eq]
  omega
theorem rngK1_ok {j : Int} {k : Kd} {ρ1 : Env} (h : -1000000 < j ∧ j < 1000000) : rngK1 [(.int j, k)] ρ1 = .ok (rng 0 j.toNat, false, ρ1) := by
  unfold rngK1 int1
  exact if_pos (rngOk_small h)
theorem rngK2_ok {i j : Int} {k k' : Kd} {ρ1 : Env} (h : -1000000 < i ∧ i < 1000000) (h' : -1000000 < j ∧ j < 1000000) : rngK2 [(.int i, k), (.int j, k')] ρ1 = .ok (rng i (j - i).toNat, false, ρ1) := by
  unfold rngK2 int2
  exact if_pos ⟨rngOk_small h, rngOk_small h'⟩
theorem rng_nat {j : Int} {n : Nat} (h : j = n) : rng 0 j.toNat = (List.range n).map fun (k : Nat) => D.int k := by
  subst h
  unfold rng
  simp
theorem rngK1_len {n : Nat} {k : Kd} {ρ1 : Env} (h : n < 1000000) : rngK1 [(.int n, k)] ρ1 = .ok ((List.range n).map fun (k : Nat) => D.int k, false, ρ1) := by
  rw [rngK1_ok (by omega), rng_nat rfl]
theorem rngK2_len {i j : Int} {n : Nat} {k k' : Kd} {ρ1 : Env} (h : -1000000 < i ∧ i < 1000000) (e : j = i + n) (h' : j < 1000000) : rngK2 [(.int i, k), (.int j, k')] ρ1 = .ok ((List.range n).map fun (k : Nat) => D.int (i + k), false, ρ1) := by
  rw [rngK2_ok h (by omega)]
  have e2 : (j - i).toNat = n := by omega
  rw [e2]; rfl
theorem sSeq_nx {s t : SE} {ρ ρ1 : Env} (h : s ρ = .ok (.nx ρ1)) : sSeq s t ρ = t ρ1 := by rw [ev_sSeq, h]; rfl
theorem sSeq_rt {s t : SE} {ρ ρ1 : Env} {d : D} {k : Kd} (h : s ρ = .ok (.rt d k ρ1)) : sSeq s t ρ = .ok (.rt d k ρ1) := by rw [ev_sSeq, h]; rfl
theorem xLc_ok {vs : List Nat} {it : IE} {g : GE} {t : BE} {e : EE} {ρ ρ1 : Env} {ds l : List D} {br : Bool} (h : it ρ = .ok (ds, br, ρ1)) (hw : wipable ρ1 vs = true) (hz : ds.length ≤ sizeLine) (hl : lcS g t e (wipeR ρ1 vs) ds = .ok l) : xLc vs it g t e ρ = .ok (.lst l, .ow, ρ1) := by
  rw [ev_xLc, h]
  simp only [Res.bind_ok, hw, hz, and_self, if_true, hl]
theorem iRng_1 {f : AE} {ρ ρ1 ρ2 : Env} {l : List (D × Kd)} {ds : List D} (h : f ρ = .ok (l, ρ1)) (rk : rngK1 l ρ1 = .ok (ds, false, ρ2)) : iRng1D f ρ = .ok (ds, false, ρ2) := by
  rw [ev_iRng1D, h]; exact rk
theorem iRng_2 {f : AE} {ρ ρ1 ρ2 : Env} {l : List (D × Kd)} {ds : List D} (h : f ρ = .ok (l, ρ1)) (rk : rngK2 l ρ1 = .ok (ds, false, ρ2)) : iRng2D f ρ = .ok (ds, false, ρ2) := by
  rw [ev_iRng2D, h]; exact rk
theorem sSet_ok {fl : Fl} {i : Nat} {f : EE} {ρ ρ1 ρ2 : Env} {d : D} {k : Kd} (h : f ρ = .ok (d, k, ρ1)) (hs : setSlot fl i d k ρ1 = .ok ρ2) : sSet fl i f ρ = .ok (.nx ρ2) := by
  rw [ev_sSet, h]
  simp only [Res.bind_ok, hs, Res.pure_ok]
theorem sEx_ok {f : EE} {ρ ρ1 : Env} {d : D} {k : Kd} (h : f ρ = .ok (d, k, ρ1)) : sEx f ρ = .ok (.nx ρ1) := by
  rw [ev_sEx, h]; rfl
theorem sIf_ok {c : BE} {s t : SE} {ρ ρ1 : Env} {b : Bool} {r : Res Flo} (h : c ρ = .ok (b, ρ1)) (h1 : b = true → s ρ1 = r) (h2 : b = false → t ρ1 = r) : sIf c s t ρ = r := by
  rw [ev_sIf, h]
  cases b with
  | true => exact h1 rfl
  | false => exact h2 rfl
theorem sFor_1 {f : AE} {g : GE} {b : SE} {ρ ρ1 ρ2 : Env} {l : List (D × Kd)} {ds : List D} (h : f ρ = .ok (l, ρ1)) (rk : rngK1 l ρ1 = .ok (ds, false, ρ2)) : sFor (iRng1D f) g b ρ = forL g b ds ρ2 := by
  rw [ev_sFor, ev_iRng1D, h]
  simp only [Res.bind_ok, rk]
  rfl
theorem sFor_2 {f : AE} {g : GE} {b : SE} {ρ ρ1 ρ2 : Env} {l : List (D × Kd)} {ds : List D} (h : f ρ = .ok (l, ρ1)) (rk : rngK2 l ρ1 = .ok (ds, false, ρ2)) : sFor (iRng2D f) g b ρ = forL g b ds ρ2 := by
  rw [ev_sFor, ev_iRng2D, h]
  simp only [Res.bind_ok, rk]
  rfl
/-! data -/
@[simp] theorem ev_add (a b : Int) : dAdd (.int a) (.int b) = some (.int (a + b), .fz) := Eq.trans rfl rfl
@[simp] theorem ev_sub (a b : Int) : dSub (.int a) (.int b) = some (.int (a - b), .fz) := Eq.trans rfl rfl
@[simp] theorem ev_mul (a b : Int) : dMul (.int a) (.int b) = if CMul a b then some (.int (a * b), .fz) else none := Eq.trans rfl rfl
@[simp] theorem ev_fdiv (a b : Int) : dFdiv (.int a) (.int b) = if CDivN a b then some (.int (a.fdiv b), .fz) else none := Eq.trans rfl rfl
@[simp] theorem ev_mod (a b : Int) : dMod (.int a) (.int b) = if b ≠ 0 then some (.int (a.fmod b), .fz) else none := Eq.trans rfl rfl
@[simp] theorem ev_pow (a b : Int) : dPow (.int a) (.int b) = if CPow a b then some (.int (a ^ b.toNat), .fz) else none := Eq.trans rfl rfl
@[simp] theorem ev_lt (a b : Int) : dLt (.int a) (.int b) = some (.bl (decide (a < b)), .fz) := Eq.trans rfl rfl
@[simp] theorem ev_le (a b : Int) : dLe (.int a) (.int b) = some (.bl (decide (a ≤ b)), .fz) := Eq.trans rfl rfl
@[simp] theorem ev_gt (a b : Int) : dGt (.int a) (.int b) = some (.bl (decide (b < a)), .fz) := Eq.trans rfl rfl
@[simp] theorem ev_ge (a b : Int) : dGe (.int a) (.int b) = some (.bl (decide (b ≤ a)), .fz) := Eq.trans rfl rfl
@[simp] theorem ev_neg (a : Int) : dNeg (.int a) = some (.int (-a), .fz) := Eq.trans rfl rfl
@[simp] theorem ev_min (a b : Int) : dMin2 (.int a) (.int b) = some (.int (if b < a then b else a), .fz) := Eq.trans rfl rfl
@[simp] theorem ev_max (a b : Int) : dMax2 (.int a) (.int b) = some (.int (if b > a then b else a), .fz) := Eq.trans rfl rfl
@[simp] theorem ev_abs (a : Int) : dAbs (.int a) = some (.int (if a < 0 then -a else a), .fz) := Eq.trans rfl rfl
@[simp] theorem ev_int (a : Int) : dInt (.int a) = some (.int a, .fz) := Eq.trans rfl rfl
@[simp] theorem ev_intb (b : Bool) : dInt (.bl b) = some (.int (if b then 1 else 0), .fz) := Eq.trans rfl rfl
@[simp] theorem ev_is_non : dIs .non .non = some (.bl true, .fz) := Eq.trans rfl rfl
@[simp] theorem ev_is_int (a : Int) : dIs (.int a) .non = some (.bl false, .fz) := Eq.trans rfl rfl
@[simp] theorem ev_f1 (g : D → Option (D × Kd)) (d : D) : f1 g [d] = g d := Eq.trans rfl rfl
@[simp] theorem ev_f2 (g : D → D → Option (D × Kd)) (d e : D) : f2 g [d, e] = g d e := Eq.trans rfl rfl
@[simp] theorem ev_len_l (l : List D) : dLen (.lst l) = some (.int l.length, .fz) := Eq.trans rfl rfl
@[simp] theorem ev_len_t (l : List D) : dLen (.tup l) = some (.int l.length, .fz) := Eq.trans rfl rfl
@[simp] theorem ev_len_s (l : List Int) : dLen (.scr l) = some (.int l.length, .fz) := Eq.trans rfl rfl
@[simp] theorem ev_idx_l (l : List D) (i : Int) : dIdx (.lst l) (.int i) = (atI l i).map fun d => (d, .fz) := Eq.trans rfl rfl
@[simp] theorem ev_idx_t (l : List D) (i : Int) : dIdx (.tup l) (.int i) = (atI l i).map fun d => (d, .fz) := Eq.trans rfl rfl
@[simp] theorem ev_argS (d : D) (k : Kd) : argS (d, k) = some (d, if k = .br then .lk else .fz) := Eq.trans rfl rfl
@[simp] theorem ev_tuple_l (l : List D) : dTuple (.lst l) = some (.tup l, .fz) := Eq.trans rfl rfl
@[simp] theorem ev_tuple_t (l : List D) : dTuple (.tup l) = some (.tup l, .fz) := Eq.trans rfl rfl
@[simp] theorem ev_rbind_ok {α β : Type} (a : α) (f : α → Res β) : (Res.ok a).bind f = f a := Eq.trans rfl rfl
@[simp] theorem ev_int1 (j : Int) (k : Kd) : int1 [(.int j, k)] = some j := Eq.trans rfl rfl
@[simp] theorem ev_int2 (i j : Int) (k k' : Kd) : int2 [(.int i, k), (.int j, k')] = some (i, j) := Eq.trans rfl rfl
@[simp] theorem ev_dA (n : Nat) (b : SE) (ρ : Env) : dA n b ρ = match b (bodyEnv n ρ) with
  | .ok (.rt d k _) => if k = .br then .bad else .ok (d, k)
  | .ok (.nx _) => .ok (.non, .fz)
  | .err c d ρ' => .err c d ρ'
  | _ => .bad := Eq.trans rfl rfl
@[simp] theorem ev_dB (n : Nat) (b : SE) (d0 : D) (fl : Fl) (r : Env) : dB n b (some (d0, fl) :: r) = match b (bodyEnv n (some (d0, fl) :: r)) with
  | .ok (.rt d k ρ') => if k = .br then .bad else match pn0 d0 ρ' with
    | some d1 => .ok (d, k, d1)
    | none => .bad
  | .ok (.nx ρ') => match pn0 d0 ρ' with
    | some d1 => .ok (.non, .fz, d1)
    | none => .bad
  | .err c d ρ' => match pn0 d0 ρ' with
    | some d1 => .err c d [some (d1, .pn)]
    | none => .bad
  | _ => .bad := Eq.trans rfl rfl
theorem dA_rt {n : Nat} {b : SE} {ρ ρ1 : Env} {d : D} {k : Kd} (h : b (bodyEnv n ρ) = .ok (.rt d k ρ1)) (hk : k ≠ .br) : dA n b ρ = .ok (d, k) := by rw [ev_dA, h]; exact if_neg hk
theorem dEq_int (a b : Int) : dEq (.int a) (.int b) = some (.bl (decide (a = b)), .fz) := by
  have s : ∀ a : Int, SeqAt.shaped (.int a) = true := fun a => by
    unfold SeqAt.shaped; simp [PyData.canLay0, PyData.depth]
  have : dEqB (.int a) (.int b) = some (decide (a = b)) := by
    have e : dEqB (.int a) (.int b) = pyEq (.int a) (.int b) := rfl
    rw [e]
    unfold pyEq
    simp only [toPy, s, and_self, if_true, PyData.eqv]
    congr 1
  unfold dEq; rw [this]; rfl
@[simp] theorem ev_eq (a b : Int) : dEq (.int a) (.int b) = some (.bl (decide (a = b)), .fz) := dEq_int a b
@[simp] theorem ev_ne_s (a b : Str) : dNe (.str a) (.str b) = some (.bl (!decide (a = b)), .fz) := Eq.trans rfl rfl
end VL
/-! VL22: the mirrors reckoned; the draws' own functions. -/
namespace VL
open PySem PySem.Spec PyProof.Rows L2

theorem lcS_map {α : Type} {g : GE} {t : BE} {e : EE} {ρ : Env} (f : α → D) (b : α → Bool) (v : α → D) : ∀ xs : List α, (∀ x ∈ xs, ∃ ρ1, g (f x) ρ = .ok ρ1 ∧ ∃ ρ2, t ρ1 = .ok (b x, ρ2) ∧ (b x = true → ∃ k ρ3, e ρ1 = .ok (v x, k, ρ3) ∧ k ≠ .br ∧ (v x).fzOk = true)) →
    lcS g t e ρ (xs.map f) = .ok ((xs.filter b).map v)
  | [], _ => rfl
  | x :: xs, h => by
    have ih := lcS_map f b v xs fun y hy => h y (List.mem_cons_of_mem _ hy)
    obtain ⟨ρ1, h1, ρ2, h2, h3⟩ := h x List.mem_cons_self
    simp only [List.map_cons, lcS, h1, Res.bind_ok, h2]
    cases e : b x with
    | true =>
      obtain ⟨k, ρ3, h4, h5, h6⟩ := h3 e
      simp [h4, h5, h6, ih, e]
    | false => simp [ih, e]
theorem forL_map {α : Type} {g : GE} {body : SE} (f : α → D) (I : List α → Env → Prop) (R : Res Flo → Prop) (h : ∀ x xs ρ, I (x :: xs) ρ → ∃ ρ1, g (f x) ρ = .ok ρ1 ∧ ((∃ ρ2, (body ρ1 = .ok (.nx ρ2) ∨ body ρ1 = .ok (.ct ρ2)) ∧ I xs ρ2) ∨ (∃ ρ2, body ρ1 = .ok (.bk ρ2) ∧ R (.ok (.nx ρ2))) ∨ ∃ d k ρ2, body ρ1 = .ok (.rt d k ρ2) ∧ R (.ok (.rt d k ρ2))))
    (h0 : ∀ ρ, I [] ρ → R (.ok (.nx ρ))) : ∀ xs ρ, I xs ρ → R (forL g body (xs.map f) ρ)
  | [], ρ, hI => h0 ρ hI
  | x :: xs, ρ, hI => by
    obtain ⟨ρ1, h1, h2⟩ := h x xs ρ hI
    simp only [List.map_cons, forL, h1, Res.bind_ok]
    rcases h2 with ⟨ρ2, e, hI'⟩ | ⟨ρ2, e, r⟩ | ⟨d, k, ρ2, e, r⟩
    · rcases e with e | e
      · simp only [e, Res.bind_ok]; exact forL_map f I R h h0 xs ρ2 hI'
      · simp only [e, Res.bind_ok]; exact forL_map f I R h h0 xs ρ2 hI'
    · simp only [e, Res.bind_ok]; exact r
    · simp only [e, Res.bind_ok]; exact r
@[simp] theorem atI_zero {α : Type} {x : α} {l : List α} : atI (x :: l) 0 = some x := by
  simpa using atI_nat (xs := x :: l) (j := 0) rfl
/-! the draws -/
def m_law_begin : SE := (sSeq (sSet .ow 1 (xLc [2] (iSeq (xV 0)) (gNm 2) (xTst (xAp2 true dGe (xApp (f1 dAbs) (aC true (xV 2) aN)) (xAp2 true dPow (xC (.int 10)) (xC (.int 18))))) (xAp2 true dSub (xApp (f1 dAbs) (aC true (xV 2) aN)) (xAp2 true dPow (xC (.int 10)) (xC (.int 18))))))
  (sRetDrw 1 (xLc [2] (iSeq (xV 0)) (gNm 2) bYes (xApp (f1 dAbs) (aC true (xV 2) aN)))))
def D_law_begin : FA := dA 3 m_law_begin
def mb_law_blend_2 : SE := (sSet .fz 4 (xAp2 true dMod (xApp (f1 dInt) (aC true (xAp2 true dAdd (xAp2 true dMul (xV 4) (xC (.int 48271))) (xV 5)) aN)) (xV 3)))
def mb_law_blend_1 : SE := (sSeq (sSet .fz 4 (xAp2 true dMod (xApp (f1 dInt) (aC true (xAp2 true dAdd (xAp2 true dMul (xV 1) (xC (.int 69621))) (xAp2 true dFdiv (xV 3) (xC (.int 7)))) aN)) (xV 3)))
  (sSeq (sFor (iSeq (xDrwCells 0)) (gNm 5) mb_law_blend_2)
  (sSet .fz 2 (xAp2 true dAdd (xAp2 true dMul (xV 2) (xC (.int 2147483647))) (xAp2 true dMod (xApp (f1 dInt) (aC true (xAp2 true dPow (xV 4) (xC (.int 5))) aN)) (xV 3))))))
def m_law_blend : SE := (sSeq (sSet .fz 1 (xAp2 true dAdd (xDrwTurn 0) (xC (.int 1))))
  (sSeq (sDrwTurn 0 (xV 1))
  (sSeq (sSet .fz 2 (xC (.int 0)))
  (sSeq (sFor (iSeq (xLst (aC true (xC (.int 2147483629)) (aC true (xC (.int 2147483587)) (aC true (xC (.int 2147483579)) (aC true (xC (.int 2147483563)) aN)))))) (gNm 3) mb_law_blend_1)
  (sRetV 2)))))
def D_law_blend : FB := dB 6 m_law_blend
def m_law_take : SE := (sSeq (sIf (bAnd (xTst (xAp2 true dEq (xDrwRest 0) (xC (.int 0)))) (xTst (xDrwNe 0)))
  (sDrwRest 0 (xDrwPop 0))
  sNil)
  (sSeq (sIf (xTst (xAp2 true dEq (xDrwRest 0) (xC (.int 0))))
  (sDrwRest 0 (xCallM D_law_blend 0 aN))
  sNil)
  (sSeq (sSet .fz 2 (xAp2 true dMod (xApp (f1 dInt) (aC true (xDrwRest 0) aN)) (xV 1)))
  (sSeq (sDrwRest 0 (xAp2 true dFdiv (xDrwRest 0) (xV 1)))
  (sRetV 2)))))
def D_law_take : FB := dB 3 m_law_take
def m_law_pick : SE := (sRet (xAp2 false dIdx (xV 1) (xCallM D_law_take 0 (aC true (xApp (f1 dLen) (aC true (xV 1) aN)) aN))))
def D_law_pick : FB := dB 2 m_law_pick

/-- a slot that holds nothing or an int -/
def IsI (s : Slot) : Prop := s = none ∨ ∃ n, s = some (.int n, .fz)
theorem IsI.set {s : Slot} (h : IsI s) : (match (some s : Option Slot) with
  | some (some (_, .lk)) => false
  | some (some (_, .pn)) => false
  | some _ => true
  | none => false) = true := by
  rcases h with rfl | ⟨n, rfl⟩ <;> rfl
def blP (p : Int) : Prop := 0 < p ∧ p < 2147483648
theorem blend_in {a b c : Slot} {p : Int} (hp : blP p) : ∀ (ce : List Int) (ρ : Env), (∃ h s5, ρ = [a, b, c, some (.int p, .fz), some (.int h, .fz), s5] ∧ 0 ≤ h ∧ h < p ∧ IsI s5) →
    ∃ ρ', forL (gNm 5) mb_law_blend_2 (ce.map D.int) ρ = .ok (.nx ρ') ∧ ∃ h s5, ρ' = [a, b, c, some (.int p, .fz), some (.int h, .fz), s5] ∧ 0 ≤ h ∧ h < p ∧ IsI s5 := fun ce ρ hI => by
  refine forL_map D.int (fun _ ρ => ∃ h s5, ρ = [a, b, c, some (.int p, .fz), some (.int h, .fz), s5] ∧ 0 ≤ h ∧ h < p ∧ IsI s5) (fun r => ∃ ρ', r = .ok (.nx ρ') ∧ ∃ h s5, ρ' = [a, b, c, some (.int p, .fz), some (.int h, .fz), s5] ∧ 0 ≤ h ∧ h < p ∧ IsI s5) (fun x xs ρ hI => ?_) (fun ρ hI => ⟨ρ, rfl, hI⟩) ce ρ hI
  obtain ⟨h, s5, rfl, h1, h2, h5⟩ := hI
  have hp0 : p ≠ 0 := by have := hp.1; omega
  have hm : CMul h 48271 := .inr (by decide)
  have cs : canSet [a, b, c, some (.int p, .fz), some (.int h, .fz), s5] 5 = true := h5.set
  refine ⟨[a, b, c, some (.int p, .fz), some (.int h, .fz), some (.int x, .fz)], by simp [setSlot, cs], .inl ⟨[a, b, c, some (.int p, .fz), some (.int ((h * 48271 + x).fmod p), .fz), some (.int x, .fz)], .inl ?_, _, _, rfl, Int.fmod_nonneg_of_pos _ hp.1, Int.fmod_lt_of_pos _ hp.1, .inr ⟨x, rfl⟩⟩⟩
  simp [mb_law_blend_2, hp0, hm, setSlot, canSet]
theorem blend_out {gr ce : List Int} {r t u : Int} : ∀ (ps : List Int) (ρ : Env), ((∃ f s3 s4 s5, ρ = [some (.drw gr r ce t, .pn), some (.int u, .fz), some (.int f, .fz), s3, s4, s5] ∧ IsI s3 ∧ IsI s4 ∧ IsI s5) ∧ ∀ p ∈ ps, blP p) →
    ∃ ρ', forL (gNm 3) mb_law_blend_1 (ps.map D.int) ρ = .ok (.nx ρ') ∧ ∃ f s3 s4 s5, ρ' = [some (.drw gr r ce t, .pn), some (.int u, .fz), some (.int f, .fz), s3, s4, s5] ∧ IsI s3 ∧ IsI s4 ∧ IsI s5 := fun ps ρ hI => by
  refine forL_map D.int (fun ps ρ => (∃ f s3 s4 s5, ρ = [some (.drw gr r ce t, .pn), some (.int u, .fz), some (.int f, .fz), s3, s4, s5] ∧ IsI s3 ∧ IsI s4 ∧ IsI s5) ∧ ∀ p ∈ ps, blP p) (fun r' => ∃ ρ', r' = .ok (.nx ρ') ∧ ∃ f s3 s4 s5, ρ' = [some (.drw gr r ce t, .pn), some (.int u, .fz), some (.int f, .fz), s3, s4, s5] ∧ IsI s3 ∧ IsI s4 ∧ IsI s5) (fun p ps ρ hI => ?_) (fun ρ hI => ⟨ρ, rfl, hI.1⟩) ps ρ hI
  obtain ⟨⟨f, s3, s4, s5, rfl, h3, h4, h5⟩, hps⟩ := hI
  have hp : blP p := hps p List.mem_cons_self
  have hp0 : p ≠ 0 := by have := hp.1; omega
  have hm : CMul u 69621 := .inr (by decide)
  have hm2 : CMul f 2147483647 := .inr (by decide)
  have hd : CDivN p 7 := by constructor <;> decide
  have cs : canSet [some (.drw gr r ce t, .pn), some (.int u, .fz), some (.int f, .fz), s3, s4, s5] 3 = true := h3.set
  have cs4 : canSet [some (.drw gr r ce t, .pn), some (.int u, .fz), some (.int f, .fz), some (.int p, .fz), s4, s5] 4 = true := h4.set
  obtain ⟨ρ', e1, h, s5', rfl, k1, k2, k5⟩ := blend_in (a := some (.drw gr r ce t, .pn)) (b := some (.int u, .fz)) (c := some (.int f, .fz)) hp ce _ ⟨_, _, rfl, Int.fmod_nonneg_of_pos (u * 69621 + p.fdiv 7) hp.1, Int.fmod_lt_of_pos _ hp.1, h5⟩
  have hw : CPow h 5 := ⟨by decide, by decide, by have := hp.2; omega⟩
  refine ⟨[some (.drw gr r ce t, .pn), some (.int u, .fz), some (.int f, .fz), some (.int p, .fz), s4, s5], by simp [setSlot, cs], .inl ⟨[some (.drw gr r ce t, .pn), some (.int u, .fz), some (.int (f * 2147483647 + (h ^ 5).fmod p), .fz), some (.int p, .fz), some (.int h, .fz), s5'], .inl ?_, ⟨_, _, _, _, rfl, .inr ⟨_, rfl⟩, .inr ⟨_, rfl⟩, k5⟩, fun q hq => hps q (List.mem_cons_of_mem _ hq)⟩⟩
  simp [mb_law_blend_1, hp0, hm, hm2, hd, setSlot, cs4, drwAt, ownFl, e1, hw]
  simp [canSet]
theorem blend_eq (gr : List Int) (r : Int) (ce : List Int) (t : Int) : ∃ v, D_law_blend [some (.drw gr r ce t, .pn)] = .ok (.int v, .fz, .drw gr r ce (t + 1)) := by
  obtain ⟨ρ', e, f, s3, s4, s5, rfl, _⟩ := blend_out (gr := gr) (ce := ce) (r := r) (t := t + 1) (u := t + 1) [2147483629, 2147483587, 2147483579, 2147483563] [some (.drw gr r ce (t + 1), .pn), some (.int (t + 1), .fz), some (.int 0, .fz), none, none, none] ⟨⟨0, none, none, none, rfl, .inl rfl, .inl rfl, .inl rfl⟩, fun p hp => by
    simp only [List.mem_cons, List.not_mem_nil, or_false] at hp
    rcases hp with rfl | rfl | rfl | rfl <;> constructor <;> decide⟩
  simp only [List.map_cons, List.map_nil] at e
  have z : 4 ≤ sizeLine := by rw [sizeLine_eq]; decide
  refine ⟨f, ?_⟩
  simp [D_law_blend, m_law_blend, bodyEnv, drwAt, ownFl, setSlot, canSet, fzAll, D.fzOk, z, e, pn0, D.isDrw]
theorem take_eq {gr : List Int} {r : Int} {ce : List Int} {t n : Int} (h0 : 0 < n) (h1 : n < 1000000) :
    ∃ v gr' r' t', D_law_take [some (.drw gr r ce t, .pn), some (.int n, .fz)] = .ok (.int v, .fz, .drw gr' r' ce t') ∧ 0 ≤ v ∧ v < n := by
  have hd : n ≠ 0 := by omega
  have hc : ∀ v, CDivN v n := fun v => ⟨hd, by omega⟩
  have fin : ∀ v : Int, 0 ≤ v.fmod n ∧ v.fmod n < n := fun v => ⟨Int.fmod_nonneg_of_pos v h0, Int.fmod_lt_of_pos v h0⟩
  have dry : ∀ gr, r = 0 → gr = [] → ∃ v gr' r' t', D_law_take [some (.drw gr r ce t, .pn), some (.int n, .fz)] = .ok (.int v, .fz, .drw gr' r' ce t') ∧ 0 ≤ v ∧ v < n := fun gr hr hg => by
    subst hr hg
    obtain ⟨v, hv⟩ := blend_eq [] 0 ce t
    refine ⟨v.fmod n, [], v.fdiv n, t + 1, ?_, fin v⟩
    simp [D_law_take, m_law_take, bodyEnv, drwAt, ownFl, callMK, argsOk, hv, setSlot, canSet, D.isDrw, hd, hc, pn0]
  by_cases hr : r = 0
  · cases gr with
    | nil => exact dry [] hr rfl
    | cons m gr =>
      subst hr
      by_cases hm : m = 0
      · subst hm
        obtain ⟨v, hv⟩ := blend_eq gr 0 ce t
        refine ⟨v.fmod n, gr, v.fdiv n, t + 1, ?_, fin v⟩
        simp [D_law_take, m_law_take, bodyEnv, drwAt, ownFl, callMK, argsOk, hv, setSlot, canSet, D.isDrw, hd, hc, pn0]
      · refine ⟨m.fmod n, gr, m.fdiv n, t, ?_, fin m⟩
        simp [D_law_take, m_law_take, bodyEnv, drwAt, ownFl, setSlot, canSet, D.isDrw, hd, hc, pn0, hm]
  · refine ⟨r.fmod n, gr, r.fdiv n, t, ?_, fin r⟩
    simp [D_law_take, m_law_take, bodyEnv, drwAt, ownFl, setSlot, canSet, D.isDrw, hd, hc, pn0, hr]
theorem pick_eq {gr : List Int} {r : Int} {ce : List Int} {t : Int} {xs : List D} (h0 : xs ≠ []) (h1 : xs.length < 1000000) :
    ∃ x gr' r' t', D_law_pick [some (.drw gr r ce t, .pn), some (.lst xs, .fz)] = .ok (x, .fz, .drw gr' r' ce t') ∧ x ∈ xs := by
  have hl : 0 < xs.length := by cases xs with
    | nil => exact absurd rfl h0
    | cons _ _ => simp
  obtain ⟨v, gr', r', t', e, k1, k2⟩ := take_eq (gr := gr) (r := r) (ce := ce) (t := t) (n := xs.length) (by omega) (by omega)
  obtain ⟨j, rfl⟩ : ∃ j : Nat, v = j := ⟨v.toNat, by omega⟩
  have hj : j < xs.length := by omega
  have ea : atI xs (j : Int) = some xs[j] := atI_nat (List.getElem?_eq_getElem hj)
  refine ⟨xs[j], gr', r', t', ?_, List.getElem_mem _⟩
  simp [D_law_pick, m_law_pick, bodyEnv, ownFl, callMK, argsOk, e, D.isDrw, ea, pn0, D.fzOk]
theorem begin_eq {ns : List Int} (hn : ns.length ≤ 63) : ∃ gr ce, D_law_begin [some (.scr ns, .fz)] = .ok (.drw gr 0 ce 0, .ow) := by
  have hz : ns.length ≤ sizeLine := by rw [sizeLine_eq]; omega
  have hw : CPow 10 18 := by refine ⟨?_, ?_, ?_⟩ <;> decide
  refine ⟨(ns.filter fun n => decide ((10 : Int) ^ 18 ≤ if n < 0 then -n else n)).map fun n => (if n < 0 then -n else n) - 10 ^ 18, ns.map fun n => if n < 0 then -n else n, ?_⟩
  have i1 : ∀ ms : List Int, intsOf (ms.map fun n => D.int n) = some ms := fun ms => intsOf_map ms
  simp only [D_law_begin, m_law_begin, ev_dA, ev_sSeq, ev_sSet, ev_xLc, ev_iSeq, ev_xV, bodyEnv, List.length_cons, List.length_nil, List.replicate, List.cons_append, List.nil_append, List.getElem?_cons_zero, Res.bind_ok, Res.pure_ok, List.length_map, wipeR, List.set_cons_succ, List.set_cons_zero, wipable, slotFree, List.all_cons, List.all_nil, List.getElem?_cons_succ, Bool.and_self, true_and, hz, if_true]
  rw [lcS_map D.int (fun n => decide ((10 : Int) ^ 18 ≤ if n < 0 then -n else n)) (fun n => .int ((if n < 0 then -n else n) - 10 ^ 18)) ns (fun x _ => ?_)]
  · simp only [setSlot, canSet, List.getElem?_cons_succ, List.getElem?_cons_zero, if_true, Res.bind_ok, List.set_cons_succ, List.set_cons_zero, Res.pure_ok, ev_sRetDrw]
    rw [show ((ns.filter fun n => decide ((10 : Int) ^ 18 ≤ if n < 0 then -n else n)).map fun n => D.int ((if n < 0 then -n else n) - 10 ^ 18)) = (((ns.filter fun n => decide ((10 : Int) ^ 18 ≤ if n < 0 then -n else n)).map fun n => (if n < 0 then -n else n) - 10 ^ 18)).map D.int by rw [List.map_map]; rfl, intsOf_map]
    simp only [ev_xLc, ev_iSeq, ev_xV, List.getElem?_cons_zero, Res.bind_ok, Res.pure_ok, List.length_map, wipeR, List.set_cons_succ, List.set_cons_zero, wipable, slotFree, List.all_cons, List.all_nil, List.getElem?_cons_succ, Bool.and_self, true_and, hz, if_true]
    rw [lcS_map D.int (fun n => true) (fun n => .int (if n < 0 then -n else n)) ns (fun x _ => ?_)]
    · rw [show ((ns.filter fun _ => true).map fun n => D.int (if n < 0 then -n else n)) = (ns.map fun n => if n < 0 then -n else n).map D.int by rw [List.filter_eq_self.mpr (fun _ _ => rfl), List.map_map]; rfl]
      simp only [ev_rbind_ok, intsOf_map]
      simp
    · exact ⟨_, by simp [setSlot, canSet]; rfl, _, by simp; rfl, fun _ => ⟨.fz, _, by simp; rfl, by simp, rfl⟩⟩
  · refine ⟨[some (.scr ns, .fz), none, some (.int x, .fz)], by simp [setSlot, canSet], [some (.scr ns, .fz), none, some (.int x, .fz)], by simp [hw], fun _ => ⟨.fz, [some (.scr ns, .fz), none, some (.int x, .fz)], by simp [hw], by simp, rfl⟩⟩
end VL
/-! VL23: more of the mirrors reckoned. -/
namespace VL
open PySem PySem.Spec PyProof.Rows L2

def okRepr (p : PyData) : Bool := p.showable && (decide (p.depth ≤ 60) && decide (p.shown.length ≤ sizeLine))
theorem repr_ok {d : D} {p : PyData} (h : toPy d = some p) (ok : okRepr p = true) : dRepr d = some (.str p.shown, .fz) := by
  simp only [okRepr, Bool.and_eq_true, decide_eq_true_eq] at ok
  unfold dRepr
  rw [h]
  simp only
  rw [if_pos ok]
def oI : Option Nat → D
  | none => .non
  | some k => .int k
def oP : Option Nat → PyData
  | none => .none
  | some k => .int k
theorem oI_py (o : Option Nat) : toPy (oI o) = some (oP o) := by cases o <;> rfl
theorem okRepr_two : ∀ k : Nat, k < 128 → okRepr (.list [.int (k : Int), .int (k : Int)]) = true := by decide +kernel
theorem okRepr_non : okRepr (.list [.none, .none]) = true := by decide +kernel
theorem repr_two {o : Option Nat} (h : ∀ k, o = some k → k < 128) : ∃ s, dRepr (.lst [oI o, oI o]) = some (.str s, .fz) := by
  refine ⟨_, repr_ok (p := .list [oP o, oP o]) ?_ ?_⟩
  · simp [toPy, toPyL, oI_py]
  · cases o with
    | none => exact okRepr_non
    | some k => exact okRepr_two k (h k rfl)
abbrev TS : List String := ["int", "bool", "str", "NoneType", "list", "tuple", "dict"]
theorem tab_int : (tyTab ["int"] TS).lookup (.ty "int") = some true := by decide +kernel
theorem tab_bool : (tyTab ["bool"] TS).lookup (.ty "int") = some false := by decide +kernel
theorem tab_list : (tyTab ["list", "tuple"] TS).lookup (.ty "list") = some true := by decide +kernel
@[simp] theorem isi_int_int (n : Int) : dIsi (tyTab ["int"] TS) (.int n) = some (.bl true, .fz) := by simp [dIsi, D.tag, tab_int]
@[simp] theorem isi_int_bool (n : Int) : dIsi (tyTab ["bool"] TS) (.int n) = some (.bl false, .fz) := by simp [dIsi, D.tag, tab_bool]
@[simp] theorem isi_list (l : List D) : dIsi (tyTab ["list", "tuple"] TS) (.lst l) = some (.bl true, .fz) := by simp [dIsi, D.tag, tab_list]
theorem find_range {c : Nat → Bool} {n m : Nat} (h : n ≤ m) (hc : ∀ k, n ≤ k → k < m → c k = true → ∃ j, j < n ∧ c j = true) : (List.range m).find? c = (List.range n).find? c := by
  cases e : (List.range n).find? c with
  | some i =>
    rw [List.find?_range_eq_some] at e ⊢
    obtain ⟨h1, h2, h3⟩ := e
    exact ⟨h1, List.mem_range.mpr (Nat.lt_of_lt_of_le (List.mem_range.mp h2) h), h3⟩
  | none =>
    rw [List.find?_range_eq_none] at e ⊢
    intro k hk
    by_cases hn : k < n
    · exact e k hn
    · cases q : c k with
      | false => rfl
      | true =>
        obtain ⟨j, hj, hcj⟩ := hc k (by omega) hk q
        have := e j hj
        rw [hcj] at this; cases this
/-- a loop that returns at the first hit -/
theorem forL_find {α : Type} {g : GE} {body : SE} (f : α → D) (c : α → Bool) (v : α → D) (I : Env → Prop) (h : ∀ x ρ, I ρ → ∃ ρ1, g (f x) ρ = .ok ρ1 ∧ (c x = false → ∃ ρ2, body ρ1 = .ok (.nx ρ2) ∧ I ρ2) ∧ (c x = true → ∃ ρ2, body ρ1 = .ok (.rt (v x) .fz ρ2))) : ∀ (xs : List α) (ρ : Env), I ρ →
    (∀ x, xs.find? c = some x → ∃ ρ', forL g body (xs.map f) ρ = .ok (.rt (v x) .fz ρ')) ∧ (xs.find? c = none → ∃ ρ', forL g body (xs.map f) ρ = .ok (.nx ρ') ∧ I ρ')
  | [], ρ, hI => ⟨fun x e => (by simp at e), fun _ => ⟨ρ, rfl, hI⟩⟩
  | x :: xs, ρ, hI => by
    obtain ⟨ρ1, h1, h2, h3⟩ := h x ρ hI
    simp only [List.map_cons, forL, h1, Res.bind_ok, List.find?_cons]
    cases e : c x with
    | true =>
      obtain ⟨ρ2, h4⟩ := h3 e
      simp only [h4, Res.bind_ok]
      exact ⟨fun y q => by cases q; exact ⟨ρ2, rfl⟩, fun q => (by cases q)⟩
    | false =>
      obtain ⟨ρ2, h4, h5⟩ := h2 e
      simp only [h4, Res.bind_ok]
      exact forL_find f c v I h xs ρ2 h5
end VL
/-! VL24: comprehensions whose element may change what owned slots hold. -/
namespace VL
open PySem PySem.Spec PyProof.Rows L2

def lcM (vs : List Nat) (g : GE) (t : BE) (e : EE) : List D → Env → Res (List D × Env)
  | [], ρ => .ok ([], ρ)
  | d :: ds, ρ => (g d ρ).bind fun ρ1 => (t ρ1).bind fun bt =>
    if bt.1 = true then (e ρ1).bind fun r =>
      if (decide (r.2.1 ≠ .br) && (r.1.fzOk && wipable r.2.2 vs)) = true then (lcM vs g t e ds (wipeR r.2.2 vs)).bind fun q => .ok (r.1 :: q.1, q.2) else .bad
    else if wipable ρ1 vs = true then lcM vs g t e ds (wipeR ρ1 vs) else .bad
def xLcM (vs : List Nat) (it : IE) (g : GE) (t : BE) (e : EE) : EE := fun ρ => do
  let (ds, br, ρ1) ← it ρ
  if br = false ∧ wipable ρ1 vs = true ∧ ds.length ≤ sizeLine then
    match lcM vs g t e ds (wipeR ρ1 vs) with
    | .ok (l, ρ2) => .ok (.lst l, .ow, ρ2)
    | _ => .bad
  else .bad
/-- from y to u, all but the new list D0 -/
structure ExtD (D0 : Addr) (x y : Stt) : Prop where
  kp : Kept (D0 :: (x.o ++ x.p)) x.H y.H
  f1 : ∀ a, x.F a → y.F a
  f2 : ∀ a, y.F a → x.F a ∨ x.H a = none
  o1 : ∀ a ∈ y.o, a ∈ x.o ∨ x.H a = none
  p1 : y.p = x.p
  b1 : y.b = x.b
  dm : ∀ a, y.H a = none → x.H a = none
  lk : ∀ (j : Nat) (d : D) (fl : Fl), x.rho[j]? = some (some (d, fl)) → fl = Fl.lk ∨ fl = Fl.pn → ∃ d', y.rho[j]? = some (some (d', fl)) ∧ (fl = Fl.lk → d' = d)
theorem ExtD.of {D0 : Addr} {s : Bool} {x y : Stt} (e : Ext s x y) : ExtD D0 x y := ⟨e.kp.mono fun a h => List.mem_cons_of_mem _ h, e.f1, e.f2, e.o1, e.p1, e.b1, e.dm, e.lk⟩
theorem ExtD.trans {D0 : Addr} {x y z : Stt} (a : ExtD D0 x y) (b : ExtD D0 y z) : ExtD D0 x z where
  kp := a.kp.trans b.kp fun c hc => by
    rcases List.mem_cons.mp hc with q | q
    · exact .inl (by simp [q])
    · rcases List.mem_append.mp q with q | q
      · rcases a.o1 c q with q | q
        · exact .inl (by simp [q])
        · exact .inr q
      · rw [a.p1] at q; exact .inl (by simp [q])
  f1 := fun c h => b.f1 c (a.f1 c h)
  f2 := fun c h => by
    rcases b.f2 c h with q | q
    · exact a.f2 c q
    · exact .inr (a.dm c q)
  o1 := fun c h => by
    rcases b.o1 c h with q | q
    · exact a.o1 c q
    · exact .inr (a.dm c q)
  p1 := b.p1.trans a.p1
  b1 := b.b1.trans a.b1
  dm := fun c h => a.dm c (b.dm c h)
  lk := fun j d fl e hf => by
    obtain ⟨d1, e1, k1⟩ := a.lk j d fl e hf
    obtain ⟨d2, e2, k2⟩ := b.lk j d1 fl e1 hf
    exact ⟨d2, e2, fun h => (k2 h).trans (k1 h)⟩
theorem ExtD.tstep {G : Gm} {D0 : Addr} {is : List Nat} {x y : Stt} (t : TStep G is x y) : ExtD D0 x y := ⟨by rw [t.H]; exact .refl, fun a f => by rw [t.F]; exact f, fun a f => .inl (by rw [← t.F]; exact f), fun a h => .inl (t.o1 a h), t.p1, t.b1, fun a h => by rw [← t.H]; exact h, fun j d fl e hf => ⟨d, (t.lk j d fl e hf).1, fun _ => rfl⟩⟩
theorem Slots.refill {G : Gm} {F : Addr → Prop} {H : Hp} {ρ : Env} {σ : St} {o p b : List Addr} (h : Slots G F H ρ σ o p b) : ∀ {τ : St}, τ.length = σ.length → (∀ j : Nat, ρ[j]? ≠ some Option.none → τ[j]? = σ[j]?) → Slots G F H ρ τ o p b := by
  induction h with
  | nil => intro τ hl _; cases τ with
    | nil => exact .nil
    | cons _ _ => simp at hl
  | none _ ih =>
    intro τ hl hs
    cases τ with
    | nil => simp at hl
    | cons x τ => exact .none (ih (by simpa using hl) fun j hj => by simpa using hs (j + 1) (by simpa using hj))
  | fz r _ ih =>
    intro τ hl hs
    cases τ with
    | nil => simp at hl
    | cons x τ =>
      have e := hs 0 (by simp)
      simp at e; subst e
      exact .fz r (ih (by simpa using hl) fun j hj => by simpa using hs (j + 1) (by simpa using hj))
  | ow w n _ ih =>
    intro τ hl hs
    cases τ with
    | nil => simp at hl
    | cons x τ =>
      have e := hs 0 (by simp)
      simp at e; subst e
      exact .ow w n (ih (by simpa using hl) fun j hj => by simpa using hs (j + 1) (by simpa using hj))
  | pn w n _ ih =>
    intro τ hl hs
    cases τ with
    | nil => simp at hl
    | cons x τ =>
      have e := hs 0 (by simp)
      simp at e; subst e
      exact .pn w n (ih (by simpa using hl) fun j hj => by simpa using hs (j + 1) (by simpa using hj))
  | lk w _ ih =>
    intro τ hl hs
    cases τ with
    | nil => simp at hl
    | cons x τ =>
      have e := hs 0 (by simp)
      simp at e; subst e
      exact .lk w (ih (by simpa using hl) fun j hj => by simpa using hs (j + 1) (by simpa using hj))
theorem wipe_lk {ρ : Env} {vs : List Nat} (hw : wipable ρ vs = true) {j : Nat} {d : D} {fl : Fl} (e : ρ[j]? = some (some (d, fl))) (hf : fl = .lk ∨ fl = .pn) : (wipeR ρ vs)[j]? = some (some (d, fl)) := by
  rw [wipeR_get, if_neg]
  · exact e
  · rintro ⟨hj, _⟩
    simp only [wipable, List.all_eq_true] at hw
    have := hw j hj
    unfold slotFree at this
    rw [e] at this
    rcases hf with rfl | rfl <;> simp at this
theorem nextU {G : Gm} {D0 : Addr} {v : Stt} {vs : List Nat} (hv : SInv G v) (hw : wipable v.rho vs = true) : SInv G ⟨v.F, wipeR v.rho vs, wipe v.sg vs, v.H, v.o, v.p, v.b⟩ ∧ ExtD D0 v ⟨v.F, wipeR v.rho vs, wipe v.sg vs, v.H, v.o, v.p, v.b⟩ :=
  ⟨⟨hv.sl.wipe hw, hv.nd, hv.dom, hv.tb⟩, ⟨.refl, fun _ f => f, fun _ f => .inl f, fun _ h => .inl h, rfl, rfl, fun _ h => h, fun j d fl e hf => ⟨d, wipe_lk hw e hf, fun _ => rfl⟩⟩⟩
theorem wiped {ρ : Env} {vs : List Nat} {j : Nat} (hj : j ∈ vs) (hl : j < ρ.length) : (wipeR ρ vs)[j]? = some Option.none := by
  rw [wipeR_get, if_pos ⟨hj, hl⟩]
/-- the new list grows -/
theorem growU {G : Gm} {D0 : Addr} {v : Stt} {ws : List V} {acc : List D} {yv : V} (hv : SInv G v) (nF : ¬ v.F D0) (no : D0 ∉ v.o ∧ D0 ∉ v.p ∧ D0 ∉ v.b) (e : v.H D0 = some (.lst ws)) : SInv G { v with H := upd v.H D0 (.lst (ws ++ [yv])) } ∧ ExtD D0 v { v with H := upd v.H D0 (.lst (ws ++ [yv])) } := by
  have ou : ∀ a, a ∈ v.o ∨ a ∈ v.p ∨ a ∈ v.b → a ≠ D0 := fun a ha z => by
    subst z
    rcases ha with h | h | h
    · exact no.1 h
    · exact no.2.1 h
    · exact no.2.2 h
  refine ⟨⟨hv.sl.keep (fun _ h => h) (kf_upd nF) fun a ha => ⟨(hv.there ha).1, fun o e' _ => by show upd v.H D0 _ a = _; rw [upd_ne (ou a ha)]; exact e'⟩, hv.nd, fun a f => ?_, tabs_upd hv.tb e rfl (fun φ z => by cases z)⟩, ⟨fun a o e' n _ => ?_, fun _ f => f, fun _ f => .inl f, fun _ h => .inl h, rfl, rfl, fun a h => ?_, fun j d fl e' hf => ⟨d, e', fun _ => rfl⟩⟩⟩
  · have na : a ≠ D0 := fun z => nF (z ▸ f)
    obtain ⟨o, e', t⟩ := hv.dom a f
    exact ⟨o, by show upd v.H D0 _ a = _; rw [upd_ne na]; exact e', t⟩
  · show upd v.H D0 _ a = _
    rw [upd_ne (fun z => n (by simp [z]))]; exact e'
  · have h : upd v.H D0 (.lst (ws ++ [yv])) a = none := h
    by_cases ea : a = D0
    · subst ea; rw [upd_same] at h; cases h
    · rwa [upd_ne ea] at h
theorem freezeU {G : Gm} {D0 : Addr} {s : Bool} {u2 u3 : Stt} {yv : V} {vd : D} {k : Kd} {fv : List Addr} (P : EPost G s u2 u3 yv vd k fv) (hk : k ≠ .br) (hz : vd.fzOk = true) : SInv G { u3 with F := fun a => u3.F a ∨ a ∈ fv } ∧ ExtD D0 u2 { u3 with F := fun a => u3.F a ∨ a ∈ fv } ∧ Rep G (fun a => u3.F a ∨ a ∈ fv) u3.H [yv] [vd] ∧ ∀ a ∈ fv, u2.H a = none := by
  have fr : ∀ a ∈ fv, u2.H a = none := fun a ha => by
    cases k with
    | br => exact absurd rfl hk
    | fz => have : fv = [] := P.kd; rw [this] at ha; simp at ha
    | ow => exact (P.kd.2 a ha).1
  refine ⟨P.inv.freeze fun a ha => ⟨(P.own.there a ha).2, ?_⟩, ⟨P.ext.kp.mono fun a h => List.mem_cons_of_mem _ h, fun a f => .inl (P.ext.f1 a f), fun a f => ?_, P.ext.o1, P.ext.p1, P.ext.b1, P.ext.dm, P.ext.lk⟩, P.own.rep (fun a ha => .inr ha) (fun _ h => .inl h) hz, fr⟩
  · cases k with
    | br => exact absurd rfl hk
    | fz => have : fv = [] := P.kd; rw [this] at ha; simp at ha
    | ow => exact (P.kd.2 a ha).2
  · rcases f with f | f
    · exact P.ext.f2 a f
    · exact .inr (fr a f)
structure LcU (G : Gm) (y : Stt) (vs : List Nat) (D0 : Addr) (ws : List V) (acc : List D) (u : Stt) : Prop where
  inv : SInv G u
  sg : u.sg = wipe y.sg vs
  ext : ExtD D0 y u
  nF : ¬ u.F D0
  no : D0 ∉ u.o ∧ D0 ∉ u.p ∧ D0 ∉ u.b
  eD : u.H D0 = some (.lst ws)
  rep : Rep G u.F u.H ws acc
  hz : ∀ j ∈ vs, j < u.rho.length → u.rho[j]? = some Option.none
section
variable {X : Cx} {G : Gm} {W : WX} {z : Stt}
/-- behind a turn: the state that the next turn meets -/
theorem LcU.next {y v : Stt} {vs : List Nat} {D0 : Addr} {ws : List V} {acc : List D} (hv : SInv G v) (hw : wipable v.rho vs = true) (hs : wipe v.sg vs = wipe y.sg vs) (e : ExtD D0 y v) (nF : ¬ v.F D0) (no : D0 ∉ v.o ∧ D0 ∉ v.p ∧ D0 ∉ v.b) (eD : v.H D0 = some (.lst ws)) (r : Rep G v.F v.H ws acc) :
    LcU G y vs D0 ws acc ⟨v.F, wipeR v.rho vs, wipe v.sg vs, v.H, v.o, v.p, v.b⟩ := by
  obtain ⟨i1, e1⟩ := nextU (D0 := D0) hv hw
  exact ⟨i1, hs, e.trans e1, nF, no, eD, r, fun j hj hl => wiped hj (by rw [wipeR_length] at hl; exact hl)⟩
theorem tS_lcM {s : Bool} {vs is : List Nat} {it : IE} {g : GE} {t : BE} {e : EE} (his : ∀ j ∈ is, j ∈ vs) {σ H Q} (h : tS G W false (xLcM vs it g t e) σ H Q) : tLc (tI G W s it) (tG G is g) (tB G W0 true t) (tS G W0 false e) vs σ H Q := by
  obtain ⟨x, rfl, rfl, hx, q⟩ := h
  refine ⟨x, rfl, rfl, hx, ?_⟩
  unfold xLcM at q
  cases e1 : it x.rho with
  | bad => simp only [e1, Res.bind_bad] at q
  | err c d ρ' =>
    simp only [e1, Res.bind_err] at q
    exact fun y cls dx hρ iy ey hev => q y cls dx hρ iy (ey.weak fun z => by cases z) hev
  | ok r =>
    obtain ⟨ds, br, ρ1⟩ := r
    simp only [e1, Res.bind_ok] at q
    intro y J hρ iy ey wk D0 hD
    have hc : br = false ∧ wipable ρ1 vs = true ∧ ds.length ≤ sizeLine := by
      by_cases hc : br = false ∧ wipable ρ1 vs = true ∧ ds.length ≤ sizeLine
      · exact hc
      · rw [if_neg hc] at q; exact q.elim
    rw [if_pos hc] at q
    obtain ⟨rfl, hw, hz⟩ := hc
    rw [← hρ] at hw
    cases hl : lcM vs g t e ds (wipeR ρ1 vs) with
    | bad => simp only [hl] at q
    | err c d ρ' => simp only [hl] at q
    | ok lr =>
    obtain ⟨l, ρf⟩ := lr
    simp only [hl] at q
    rw [← hρ] at hl
    have nD : ∀ a, y.F a ∨ a ∈ y.o ∨ a ∈ y.p ∨ a ∈ y.b → a ≠ D0 := fun a ha z => by
      subst z
      rcases ha with f | h
      · obtain ⟨o, e, _⟩ := iy.dom a f; rw [hD] at e; cases e
      · obtain ⟨_, o, e, _⟩ := iy.sl.there a h; rw [hD] at e; cases e
    have kf0 : KeptF y.F y.H (upd y.H D0 (.lst [])) := fun a o f e _ => by rw [upd_ne (nD a (.inl f))]; exact e
    have i0 : SInv G ⟨y.F, y.rho, y.sg, upd y.H D0 (.lst []), y.o, y.p, y.b⟩ := by
      refine ⟨iy.sl.keep (fun _ h => h) kf0 fun a ha => ⟨(iy.sl.there a ha).1, fun o e _ => by show upd y.H D0 _ a = _; rw [upd_ne (nD a (.inr ha))]; exact e⟩, iy.nd, fun a f => ?_, iy.tb.ext fun b o e => by show upd y.H D0 _ b = _; rw [upd_ne (ne_of_none e hD)]; exact e⟩
      obtain ⟨o, e, tt⟩ := iy.dom a f
      exact ⟨o, by show upd y.H D0 _ a = _; rw [upd_ne (nD a (.inl f))]; exact e, tt⟩
    have e0 : ExtD D0 y ⟨y.F, y.rho, y.sg, upd y.H D0 (.lst []), y.o, y.p, y.b⟩ := ⟨fun a o e n _ => by show upd y.H D0 _ a = _; rw [upd_ne (fun z => n (by simp [z]))]; exact e, fun _ f => f, fun _ f => .inl f, fun _ h => .inl h, rfl, rfl, fun a h => by
      have h : upd y.H D0 (.lst []) a = none := h
      by_cases ea : a = D0
      · subst ea; exact hD
      · rwa [upd_ne ea] at h, fun j d fl e hf => ⟨d, e, fun _ => rfl⟩⟩
    have U0 : LcU G y vs D0 [] [] ⟨y.F, wipeR y.rho vs, wipe y.sg vs, upd y.H D0 (.lst []), y.o, y.p, y.b⟩ := LcU.next i0 hw rfl e0 (fun f => nD D0 (.inl f) rfl) ⟨fun h => nD D0 (.inr (.inl h)) rfl, fun h => nD D0 (.inr (.inr (.inl h))) rfl, fun h => nD D0 (.inr (.inr (.inr h))) rfl⟩ upd_same .nil
    have sgx : wipe x.sg vs = wipe y.sg vs := by rw [ey.sg]
    refine ⟨fun i m H => ∃ u ws acc, u.H = H ∧ LcU G y vs D0 ws acc u ∧ ws.length ≤ i ∧ m = ds.length - i ∧ i ≤ ds.length ∧ ∃ r, lcM vs g t e (ds.drop i) u.rho = .ok (r, ρf) ∧ l = acc ++ r, ⟨ds.length, _, [], [], rfl, U0, by simp, by simp, Nat.zero_le _, l, by simpa using hl, by simp⟩, ?_⟩
    rintro i m H1 ⟨u, ws, acc, rfl, U, hws, rfl, hi, r, hr, rfl⟩
    have kfu : KeptF y.F y.H u.H := fun a o f e tt => U.ext.kp a o e (fun z => by
      rcases List.mem_cons.mp z with z | z
      · exact nD a (.inl f) z
      · rcases List.mem_append.mp z with z | z
        · exact (iy.sl.there a (.inl z)).1 f
        · exact (iy.sl.there a (.inr (.inl z))).1 f) tt
    have wkw := wk u U.inv U.ext.f1 kfu (fun z => by cases z) i
    rcases Nat.lt_or_ge i ds.length with hlt | hge
    rotate_left
    · have ei : i = ds.length := by omega
      subst ei
      rw [List.drop_length] at hr
      simp only [lcM, Res.ok.injEq, Prod.mk.injEq] at hr
      obtain ⟨rfl, hr⟩ := hr
      refine .inl ⟨wkw.2 (Nat.le_refl _), ?_⟩
      have len : y.sg.length = u.sg.length := by rw [U.sg, wipe_length]
      have s1 : Slots G u.F u.H u.rho y.sg u.o u.p u.b := U.inv.sl.refill len fun j hj => by
        rw [U.sg, wipe_get]
        by_cases hjv : j ∈ vs ∧ j < y.sg.length
        · exact absurd (U.hz j hjv.1 (by rw [U.inv.sl.length, ← len]; exact hjv.2)) hj
        · rw [if_neg hjv]
      have E : ExtD D0 x u := (ExtD.of ey).trans U.ext
      rw [List.append_nil] at q
      refine q ⟨u.F, u.rho, y.sg, u.H, u.o, u.p, u.b⟩ (.ref D0) [D0] hr ⟨⟨s1, U.inv.nd, U.inv.dom, U.inv.tb⟩, ⟨ey.sg, fun a o e n tt => E.kp a o e (fun z => ?_) tt, E.f1, E.f2, E.o1, E.p1, E.b1, E.dm, E.lk, fun z => by cases z⟩, .ow U.nF ⟨ws, U.eD, by omega, U.rep⟩, ⟨by simp, fun a ha => ?_⟩, .ow⟩
      · rcases List.mem_cons.mp z with z | z
        · subst z; rw [ey.dm a hD] at e; cases e
        · exact n z
      · have : a = D0 := by simpa using ha
        subst this
        exact ⟨ey.dm a hD, U.no⟩
    · have ed : ds[i]? = some ds[i] := List.getElem?_eq_getElem hlt
      obtain ⟨hgo, hyld⟩ := wkw.1 _ ed
      rw [List.drop_eq_getElem_cons hlt] at hr
      simp only [lcM] at hr
      cases hg : g ds[i] u.rho with
      | bad => simp only [hg, Res.bind] at hr; cases hr
      | err c d ρ' => simp only [hg, Res.bind] at hr; cases hr
      | ok ρ2 =>
      simp only [hg, ev_rbind_ok] at hr
      cases ht : t ρ2 with
      | bad => simp only [ht, Res.bind] at hr; cases hr
      | err c d ρ' => simp only [ht, Res.bind] at hr; cases hr
      | ok r2 =>
      obtain ⟨b, ρ3⟩ := r2
      simp only [ht, ev_rbind_ok] at hr
      refine .inr ⟨hgo, fun H2 => ∃ u' ws acc', u'.H = H2 ∧ LcU G y vs D0 ws acc' u' ∧ ws.length ≤ i + 1 ∧ ∃ r', lcM vs g t e (ds.drop (i + 1)) u'.rho = .ok (r', ρf) ∧ acc ++ r = acc' ++ r', fun H2 ⟨u', ws, acc', h0, I2, h2, r', h3, h4⟩ => ⟨ds.length - (i + 1), by omega, u', ws, acc', h0, I2, h2, rfl, hlt, r', h3, h4⟩, fun v H2 yl => ?_⟩
      obtain ⟨F2, n⟩ := hyld v H2 yl
      have P := n.post U.inv
      have r1 : Rep G F2 H2 [v] [ds[i]] := n.own.fz_of
      refine ⟨{ u with F := F2, H := H2 }, ds[i], by show u.sg = _; rw [U.sg, sgx], rfl, P.inv, r1, ?_⟩
      show (match g ds[i] u.rho with | .ok ρ' => _ | _ => False)
      rw [hg]
      intro w hu tu
      have wsg : wipe w.sg vs = wipe y.sg vs := wipe_same (by rw [tu.len]; show u.sg.length = _; rw [U.sg, wipe_length]) (fun j hj => by rw [tu.out j hj]; show u.sg[j]? = _; rw [U.sg]) his
      refine ⟨by rw [wsg, sgx], w, rfl, rfl, tu.inv, ?_⟩
      rw [hu, ht]
      intro u2 hu2 iu2 eu2
      obtain ⟨ρu2, ku2, ou2⟩ := eu2.st rfl
      have E2 : ExtD D0 y u2 := ((U.ext.trans (ExtD.of P.ext)).trans (ExtD.tstep tu)).trans (ExtD.of eu2)
      have hH : w.H = H2 := tu.H
      have hF : w.F = F2 := tu.F
      have eD2 : u2.H D0 = some (.lst ws) := ku2 D0 _ (by rw [hH]; exact n.kp _ _ U.eD) (by simp) rfl
      have f12 : ∀ a, u.F a → u2.F a := fun a f => eu2.f1 a (by rw [hF]; exact n.f1 a f)
      have nF2 : ¬ u2.F D0 := fun f => by
        rcases eu2.f2 D0 f with q | q
        · rw [hF] at q
          rcases n.f2 D0 q with q | q
          · exact U.nF q
          · rw [U.eD] at q; cases q
        · rw [hH, n.kp _ _ U.eD] at q; cases q
      have no2 : D0 ∉ u2.o ∧ D0 ∉ u2.p ∧ D0 ∉ u2.b := by
        refine ⟨fun z => ?_, fun z => ?_, fun z => ?_⟩
        · rw [ou2] at z; exact U.no.1 (tu.o1 D0 z)
        · rw [eu2.p1, tu.p1] at z; exact U.no.2.1 z
        · rw [eu2.b1, tu.b1] at z; exact U.no.2.2 z
      have rep2 : Rep G u2.F u2.H ws acc := (U.rep.keep (fun a f => n.f1 a f) (fun a o _ e _ => n.kp a o e)).keep (fun a f => eu2.f1 a (by rw [hF]; exact f)) (fun a o _ e tt => ku2 a o (by rw [hH]; exact e) (by simp) tt)
      have ρ2e : u2.rho = ρ2 := by rw [ρu2, hu]
      have sg2 : wipe u2.sg vs = wipe y.sg vs := by rw [eu2.sg]; exact wsg
      cases b with
      | false =>
        rw [if_neg (by simp)] at hr ⊢
        by_cases hw2 : wipable ρ2 vs = true
        · rw [if_pos hw2] at hr
          have U2 := LcU.next iu2 (by rw [ρ2e]; exact hw2) sg2 E2 nF2 no2 eD2 rep2
          exact ⟨⟨u2.F, wipeR u2.rho vs, wipe u2.sg vs, u2.H, u2.o, u2.p, u2.b⟩, ws, acc, rfl, U2, by omega, r, by show lcM vs g t e _ (wipeR u2.rho vs) = _; rw [ρ2e]; exact hr, rfl⟩
        · rw [if_neg hw2] at hr; cases hr
      | true =>
        rw [if_pos rfl] at hr ⊢
        cases he : e ρ2 with
        | bad => simp only [he, Res.bind] at hr; cases hr
        | err c d ρ' => simp only [he, Res.bind] at hr; cases hr
        | ok r3 =>
        obtain ⟨vd, k, ρ4⟩ := r3
        simp only [he, ev_rbind_ok] at hr
        have hk : (decide (k ≠ .br) && (vd.fzOk && wipable ρ4 vs)) = true := by
          by_cases hk : (decide (k ≠ .br) && (vd.fzOk && wipable ρ4 vs)) = true
          · exact hk
          · rw [if_neg hk] at hr; cases hr
        rw [if_pos hk] at hr
        simp only [Bool.and_eq_true, decide_eq_true_eq] at hk
        obtain ⟨hk1, hk2, hk3⟩ := hk
        cases h5 : lcM vs g t e (ds.drop (i + 1)) (wipeR ρ4 vs) with
        | bad => simp only [h5, Res.bind] at hr; cases hr
        | err c d ρ' => simp only [h5, Res.bind] at hr; cases hr
        | ok rr =>
        obtain ⟨r', ρf'⟩ := rr
        simp only [h5, ev_rbind_ok, Res.ok.injEq, Prod.mk.injEq] at hr
        obtain ⟨rfl, rfl⟩ := hr
        refine ⟨u2, by rw [eu2.sg], rfl, iu2, ?_⟩
        rw [ρ2e, he]
        intro u3 yv fv hu3 P3
        have eD3 : u3.H D0 = some (.lst ws) := P3.ext.kp _ _ eD2 (fun z => by
          rcases List.mem_append.mp z with z | z
          · exact no2.1 z
          · exact no2.2.1 z) rfl
        have nF3 : ¬ u3.F D0 := fun f => by
          rcases P3.ext.f2 D0 f with q | q
          · exact nF2 q
          · rw [eD2] at q; cases q
        have no3 : D0 ∉ u3.o ∧ D0 ∉ u3.p ∧ D0 ∉ u3.b := by
          refine ⟨fun z => ?_, fun z => ?_, fun z => ?_⟩
          · rcases P3.ext.o1 D0 z with z | z
            · exact no2.1 z
            · rw [eD2] at z; cases z
          · rw [P3.ext.p1] at z; exact no2.2.1 z
          · rw [P3.ext.b1] at z; exact no2.2.2 z
        refine ⟨ws, eD3, by omega, ?_⟩
        obtain ⟨i3, x3, rv, fr⟩ := freezeU (D0 := D0) P3 hk1 hk2
        have nF3' : ¬ (u3.F D0 ∨ D0 ∈ fv) := fun f => by
          rcases f with f | f
          · exact nF3 f
          · have := fr D0 f; rw [eD2] at this; cases this
        obtain ⟨i4, x4⟩ := growU (ws := ws) (acc := acc) (yv := yv) i3 nF3' no3 eD3
        have rep3 : Rep G (fun a => u3.F a ∨ a ∈ fv) u3.H ws acc := rep2.keep (fun a f => .inl (P3.ext.f1 a f)) (P3.ext.keptF iu2)
        have rep4 : Rep G (fun a => u3.F a ∨ a ∈ fv) (upd u3.H D0 (.lst (ws ++ [yv]))) (ws ++ [yv]) (acc ++ [vd]) := (rep3.snoc rv).keep (fun _ h => h) (kf_upd nF3')
        have U4 := LcU.next i4 (by show wipable u3.rho vs = true; rw [hu3]; exact hk3) (by show wipe u3.sg vs = _; rw [P3.ext.sg]; exact sg2) ((E2.trans x3).trans x4) nF3' no3 upd_same rep4
        exact ⟨⟨fun a => u3.F a ∨ a ∈ fv, wipeR u3.rho vs, wipe u3.sg vs, upd u3.H D0 (.lst (ws ++ [yv])), u3.o, u3.p, u3.b⟩, ws ++ [yv], acc ++ [vd], rfl, U4, by simp; omega, r', by show lcM vs g t e _ (wipeR u3.rho vs) = _; rw [hu3]; exact h5, by simp⟩
theorem r_lcM {elt tg iter : Expr} {ifs : List Expr} {scope : Scope} {own : List (Str × Nat)} {pos : Pos} {s : Bool} {is : List Nat} {it : IE} {g : GE} {t : BE} {e : EE} (hc : X.calm = true) (hN : X.N.Nodup) (hi : PI X tg iter (tI G W s it)) (ok : BlkOk X.N X.env.scope scope own)
    (his : ∀ j ∈ is, j ∈ own.map (·.2))
    (hg : ∀ (s : Shared) (H : Hp) (C : Addr) (cl : List (Str × Addr)) (fp : List Addr), PG (X.blk s H scope (compEnvC scope cl C X.env) fp) tg (tG G is g)) (ht : ∀ (s : Shared) (H : Hp) (C : Addr) (cl : List (Str × Addr)) (fp : List Addr), PTs (X.blk s H scope (compEnvC scope cl C X.env) fp) ifs (tB G W0 true t))
    (he : ∀ (s : Shared) (H : Hp) (C : Addr) (cl : List (Str × Addr)) (fp : List Addr), PE (X.blk s H scope (compEnvC scope cl C X.env) fp) elt (tS G W0 false e)) (hs : ∀ x, foldedSetIterable iter X.env x = pure x := by intro _; rfl) :
    PE X (.ListComp elt [⟨tg, iter, ifs, 0⟩] scope pos) (tS G W false (xLcM (own.map (·.2)) it g t e)) :=
  PE.of (pe_lc hc hN hi ok hg ht he hs) fun σ H Q h => tS_lcM his h
end
end VL
/-! VL25: two names set at once, each frozen or owned. -/
namespace VL
open PySem PySem.Spec PyProof.Rows L2

def KdZ (z y : Stt) (k : Kd) (fv : List Addr) : Prop := match k with
  | .fz => fv = []
  | .ow => fv ≠ [] ∧ ∀ a ∈ fv, z.H a = none ∧ a ∉ y.o ∧ a ∉ y.p ∧ a ∉ y.b
  | .br => True
theorem set_core {G : Gm} {z y : Stt} {v : V} {d : D} {k : Kd} {fv : List Addr} {fl : Fl} {i : Nat} {ρ2 : Env} (hy : SInv G y) (hz : EInv z y) (ow : Own G y.F y.H v d fv) (kd : KdZ z y k fv) (h : setSlot fl i d k y.rho = .ok ρ2) :
    ∃ w : Stt, w.rho = ρ2 ∧ w.sg = y.sg.set i (some v) ∧ w.H = y.H ∧ SStep G z y w ∧ (∀ a ∈ w.o, a ∈ y.o ∨ a ∈ fv) ∧ w.p = y.p ∧ w.b = y.b ∧ (∀ a, w.F a → y.F a ∨ a ∈ fv) ∧ (∀ a, y.F a → w.F a) := by
  unfold setSlot at h
  by_cases hc : canSet y.rho i = true
  · rw [if_pos hc] at h
    obtain ⟨hi, hn⟩ := canSet_spec hc
    have dis : k = .ow → ∀ a ∈ fv, a ∉ y.o ∧ a ∉ y.p ∧ a ∉ y.b := fun e a ha => by subst e; exact (kd.2 a ha).2
    have lkk : ∀ {sl : Option (D × Fl)} (j : Nat) (d0 : D) (fl0 : Fl), y.rho[j]? = some (some (d0, fl0)) → fl0 = Fl.lk ∨ fl0 = Fl.pn → ∃ d', (y.rho.set i sl)[j]? = some (some (d', fl0)) ∧ (fl0 = Fl.lk → d' = d0) ∧ (y.sg.set i (some v))[j]? = y.sg[j]? := by
      intro sl j d0 fl0 e hf
      have ne : i ≠ j := by
        intro q; subst q
        rcases hn _ _ e with q | q <;> subst q <;> simp at hf
      exact ⟨d0, by rw [List.getElem?_set_ne ne]; exact e, fun _ => rfl, by rw [List.getElem?_set_ne ne]⟩
    have frz : (k = .fz ∨ k = .ow ∧ d.fzOk = true) → ρ2 = y.rho.set i (some (d, .fz)) → ∃ w : Stt, w.rho = ρ2 ∧ w.sg = y.sg.set i (some v) ∧ w.H = y.H ∧ SStep G z y w ∧ (∀ a ∈ w.o, a ∈ y.o ∨ a ∈ fv) ∧ w.p = y.p ∧ w.b = y.b ∧ (∀ a, w.F a → y.F a ∨ a ∈ fv) ∧ (∀ a, y.F a → w.F a) := by
      intro hk e
      have fvf : k = .fz → fv = [] := fun q => by subst q; exact kd
      have hF : SInv G { y with F := fun a => y.F a ∨ a ∈ fv } := hy.freeze fun a ha => by
        rcases hk with q | q
        · rw [fvf q] at ha; simp at ha
        · exact ⟨(ow.there a ha).2, dis q.1 a ha⟩
      have hr : Rep G (fun a => y.F a ∨ a ∈ fv) y.H [v] [d] := by
        rcases hk with q | q
        · have : fv = [] := fvf q
          subst this
          exact ow.fz_of.keep (fun _ h => .inl h) .refl
        · exact ow.rep (fun a ha => .inr ha) (fun _ h => .inl h) q.2
      obtain ⟨o1, old, o3, eo, sl⟩ := hF.sl.set (i := i) hi hn (.fz hr)
      have eo : y.o = o1 ++ (old ++ o3) := eo
      have sub : ∀ a, a ∈ o1 ++ ([] ++ o3) → a ∈ y.o := fun a ha => by
        rw [eo]; simp only [List.mem_append, List.nil_append] at ha ⊢
        rcases ha with q | q
        · exact .inl q
        · exact .inr (.inr q)
      refine ⟨⟨fun a => y.F a ∨ a ∈ fv, ρ2, y.sg.set i (some v), y.H, o1 ++ ([] ++ o3), y.p, y.b⟩, rfl, rfl, rfl, ⟨⟨by rw [e]; exact sl, ?_, hF.dom, hy.tb⟩, ⟨fun a f => ?_, hz.kp, hz.p1, fun a ha => hz.o1 a (sub a ha), hz.dm, fun a f => .inl (hz.f0 a f)⟩, by rw [e]; exact lkk, .refl, fun a f => .inl f⟩, fun a ha => .inl (sub a ha), rfl, rfl, fun a f => f, fun a f => .inl f⟩
      · have := hy.nd; rw [eo] at this
        exact nodup_mid this (by simp) (by simp)
      · rcases f with f | f
        · exact hz.f1 a f
        · rcases hk with q | q
          · rw [fvf q] at f; simp at f
          · obtain ⟨q, _⟩ := q; subst q; exact .inr (kd.2 a f).1
    cases k with
    | br => simp at h
    | fz => simp at h; exact frz (.inl rfl) h.symm
    | ow =>
      cases fl with
      | ow =>
        simp at h
        obtain ⟨o1, old, o3, eo, sl⟩ := hy.sl.set (i := i) hi hn (.ow ow kd.1)
        refine ⟨⟨y.F, ρ2, y.sg.set i (some v), y.H, o1 ++ (fv ++ o3), y.p, y.b⟩, rfl, rfl, rfl, ⟨⟨by rw [← h]; exact sl, ?_, hy.dom, hy.tb⟩, ⟨hz.f1, hz.kp, hz.p1, fun a ha => ?_, hz.dm, hz.f0⟩, by rw [← h]; exact lkk, .refl, fun _ f => f⟩, fun a ha => ?_, rfl, rfl, fun a f => .inl f, fun a f => f⟩
        · have := hy.nd; rw [eo] at this
          refine nodup_mid this ow.nodup fun a ha => ?_
          obtain ⟨n1, n2, n3⟩ := dis rfl a ha
          rw [eo] at n1
          simp only [List.mem_append, not_or] at n1 ⊢
          exact ⟨n1.1, n1.2.2, n2, n3⟩
        · simp only [List.mem_append] at ha
          rcases ha with q | q | q
          · exact hz.o1 a (by rw [eo]; simp [q])
          · exact (kd.2 a q).1
          · exact hz.o1 a (by rw [eo]; simp [q])
        · simp only [List.mem_append] at ha
          rcases ha with q | q | q
          · exact .inl (by rw [eo]; simp [q])
          · exact .inr q
          · exact .inl (by rw [eo]; simp [q])
      | fz => by_cases hd : d.fzOk = true
              · simp [hd] at h; exact frz (.inr ⟨rfl, hd⟩) h.symm
              · simp [hd] at h
      | pn => by_cases hd : d.fzOk = true
              · simp [hd] at h; exact frz (.inr ⟨rfl, hd⟩) h.symm
              · simp [hd] at h
      | lk => by_cases hd : d.fzOk = true
              · simp [hd] at h; exact frz (.inr ⟨rfl, hd⟩) h.symm
              · simp [hd] at h
  · rw [if_neg hc] at h; cases h
def sPar2 (fl1 fl2 : Fl) (i j : Nat) (f1 f2 : EE) : SE := fun ρ => (f1 ρ).bind fun r1 => if r1.2.1 = .br then .bad else (f2 r1.2.2).bind fun r2 => if r2.2.1 = .br then .bad else
  (setSlot fl1 i r1.1 r1.2.1 r2.2.2).bind fun ρ3 => (setSlot fl2 j r2.1 r2.2.1 ρ3).bind fun ρ4 => .ok (.nx ρ4)
theorem setSlot_ne {fl : Fl} {i : Nat} {d : D} {k : Kd} {ρ : Env} {c : Nat} {e : D} {ρ' : Env} : setSlot fl i d k ρ ≠ .err c e ρ' := fun h1 => by
  unfold setSlot at h1
  split at h1
  · split at h1 <;> first | cases h1 | (split at h1 <;> cases h1)
  · cases h1
section
variable {X : Cx} {G : Gm} {W : WX} {z : Stt}
theorem r_par2 {fl1 fl2 : Fl} {i j : Nat} {x y : Str} {a b : Expr} {s t : Bool} {f1 f2 : EE} {px py pt pos : Pos} {kt k2 pt2} (hc : X.calm = true) (hN : X.N.Nodup) (hi : X.N[i]? = some x) (hj : X.N[j]? = some y) (hij : i ≠ j)
    (lx : X.env.scope.names.lookup x = some .local) (ly : X.env.scope.names.lookup y = some .local) (ha : PE X a (tS G W s f1)) (hb : PE X b (tS G W t f2)) (hst : starEach [a, b] X.env = (false, eval a X.env) :: starEach [b] X.env := by rfl) (hst2 : starEach [b] X.env = (false, eval b X.env) :: starEach [] X.env := by rfl)
    (hw : swappedStores [.Tuple [.Name x px, .Name y py] kt pt] (.Tuple [a, b] k2 pt2) X.env = pure (some [x, y]) := by rfl)
    (hs : swapsWithSole [.Tuple [.Name x px, .Name y py] kt pt] (.Tuple [a, b] k2 pt2) pos.line X.env = pure false := by rfl) :
    PS X (.Assign [.Tuple [.Name x px, .Name y py] kt pt] (.Tuple [a, b] k2 pt2) pos) (tT G W z (sPar2 fl1 fl2 i j f1 f2)) := PS.of (ps_par hc hN hi hj hij lx ly (pa_cons ha (pa_cons hb pa_nil hst2) hst) hw hs) fun Dn σ H h => by
  obtain ⟨x, rfl, rfl, hx, hz, q⟩ := h
  refine ⟨x, rfl, rfl, hx, ?_⟩
  unfold sPar2 at q
  cases e1 : f1 x.rho with
  | bad => simp only [e1, Res.bind] at q; exact q.elim
  | err c d ρ' =>
    simp only [e1, Res.bind] at q
    intro y cls dx hρ iy ey hev
    have := q y cls dx hρ (SStep.ext hz hx iy ey) hev
    rw [ey.sg] at this; exact this
  | ok r1 =>
  obtain ⟨d1, k1, ρ1⟩ := r1
  simp only [e1, ev_rbind_ok] at q
  intro y1 v1 fv1 hρ1 P1
  by_cases hk1 : k1 = .br
  · rw [if_pos hk1] at q; exact q.elim
  rw [if_neg hk1] at q
  refine ⟨y1, P1.ext.sg, rfl, P1.inv, ?_⟩
  rw [hρ1]
  cases e2 : f2 ρ1 with
  | bad => simp only [e2, Res.bind] at q; exact q.elim
  | err c d ρ' =>
    simp only [e2, Res.bind] at q
    intro y cls dx hρ iy ey hev
    have E := P1.ext.trans hx P1.inv ey
    have := q y cls dx hρ (SStep.ext hz hx iy E) hev
    rw [E.sg] at this; exact this
  | ok r2 =>
  obtain ⟨d2, k2, ρ2⟩ := r2
  simp only [e2, ev_rbind_ok] at q
  intro y2 v2 fv2 hρ2 P2
  refine ⟨v1, v2, rfl, ?_⟩
  by_cases hk2 : k2 = .br
  · rw [if_pos hk2] at q; exact q.elim
  rw [if_neg hk2] at q
  have E2 := P1.ext.trans hx P1.inv P2.ext
  obtain ⟨w1, kd1, _⟩ := carry P1.inv P1.ext.dm P1.own P1.kd P2.ext P1.src (fun e => absurd e hk1)
  cases e3 : setSlot fl1 i d1 k1 ρ2 with
  | bad => simp only [e3, Res.bind] at q; exact q.elim
  | err c d ρ' => exact absurd e3 setSlot_ne
  | ok ρ3 =>
  simp only [e3, ev_rbind_ok] at q
  cases e4 : setSlot fl2 j d2 k2 ρ3 with
  | bad => simp only [e4, Res.bind] at q; exact q.elim
  | err c d ρ' => exact absurd e4 setSlot_ne
  | ok ρ4 =>
  simp only [e4, ev_rbind_ok] at q
  have ez2 : EInv z y2 := hz.ext hx E2
  have K1 : KdZ z y2 k1 fv1 := by
    cases k1 with
    | br => exact absurd rfl hk1
    | fz => exact kd1
    | ow => exact ⟨kd1.1, fun a ha => ⟨hz.dm a (kd1.2 a ha).1, (kd1.2 a ha).2⟩⟩
  obtain ⟨u, u1, u2, u3, u4, u5, u6, u7, u8, u9⟩ := set_core (i := i) P2.inv ez2 w1 K1 (by rw [hρ2]; exact e3)
  have dis : k2 = .ow → ∀ a ∈ fv2, a ∉ fv1 := fun e a ha z => by
    subst e
    have n := (P2.kd.2 a ha).1
    obtain ⟨_, o, h, _⟩ := P1.own.there a z
    rw [n] at h; cases h
  have fe : k2 = .fz → fv2 = [] := fun e => by subst e; exact P2.kd
  have w2 : Own G u.F u.H v2 d2 fv2 := P2.own.keep u9 (by rw [u3]; exact .refl) fun a ha => ⟨fun f => by
    rcases u8 a f with f | f
    · exact (P2.own.there a ha).1 f
    · cases k2 with
      | br => exact hk2 rfl
      | fz => rw [fe rfl] at ha; simp at ha
      | ow => exact dis rfl a ha f, fun o e _ => by rw [u3]; exact e⟩
  have K2 : KdZ z u k2 fv2 := by
    cases k2 with
    | br => exact absurd rfl hk2
    | fz => exact P2.kd
    | ow =>
      refine ⟨P2.kd.1, fun a ha => ⟨hz.dm a (P1.ext.dm a (P2.kd.2 a ha).1), fun h => ?_, ?_, ?_⟩⟩
      · rcases u5 a h with h | h
        · exact (P2.kd.2 a ha).2.1 h
        · exact dis rfl a ha h
      · rw [u6]; exact (P2.kd.2 a ha).2.2.1
      · rw [u7]; exact (P2.kd.2 a ha).2.2.2
  obtain ⟨o, o1, o2, o3, o4, _⟩ := set_core (i := j) u4.inv u4.ent w2 K2 (by rw [u1]; exact e4)
  have := q o o1 (((SStep.ext hz hx P2.inv E2).trans u4).trans o4)
  rw [o2, o3, u2, u3, E2.sg] at this
  exact this
end
end VL
/-! VL26: slices. -/
namespace VL
open PySem PySem.Spec PyProof.Rows L2

abbrev OE := Env → Res (Option Int × Env)
def tO (G : Gm) (W : WX) (f : OE) : TO := fun σ H Q => ∃ x : Stt, x.sg = σ ∧ x.H = H ∧ SInv G x ∧
  match f x.rho with
  | .ok (o, ρ') => ∀ y, y.rho = ρ' → SInv G y → Ext true x y → Q o y.H
  | .err c d ρ' => ∀ y cls dx, y.rho = ρ' → SInv G y → Ext true x y → ErrV G y cls dx c d → W cls dx σ y.H
  | .bad => False
def oN : OE := fun ρ => .ok (none, ρ)
def oS (f : EE) : OE := fun ρ => (f ρ).bind fun r => match r.1 with
  | .int i => .ok (some i, r.2.2)
  | _ => .bad
def cutD (xs : List D) (lo hi : Option Int) : List D := (xs.drop (HT.sIx xs.length 0 lo)).take (HT.sIx xs.length xs.length hi - HT.sIx xs.length 0 lo)
def dSl : D → Option Int → Option Int → Option (D × Kd)
  | .lst l, lo, hi => some (.lst (cutD l lo hi), .ow)
  | .tup l, lo, hi => some (.tup (cutD l lo hi), .fz)
  | .str x, lo, hi => if x.length ≤ sizeLine then some (.str (cutS x lo hi), .fz) else none
  | _, _, _ => none
def xSl (f : EE) (lo hi : OE) : EE := fun ρ => (f ρ).bind fun r => (lo r.2.2).bind fun a => (hi a.2).bind fun b => match dSl r.1 a.1 b.1 with
  | some (d, k) => .ok (d, k, b.2)
  | none => .bad
theorem Rep.cut {G : Gm} {F : Addr → Prop} {H : Hp} {vs : List V} {ds : List D} (h : Rep G F H vs ds) (lo hi : Option Int) : Rep G F H (cutV vs lo hi) (cutD ds lo hi) := by
  unfold cutV cutD
  rw [h.length]
  exact (h.drop _).take _
theorem PO.of {X : Cx} {e : Option Expr} {t u : TO} (h : PO X e t) (i : ∀ σ H Q, u σ H Q → t σ H Q) : PO X e u := ⟨fun pins s σ H Q I w => h.run pins s σ H Q I (i σ H Q w)⟩
section
variable {X : Cx} {G : Gm} {W : WX}
theorem r_poN : PO X none (tO G W oN) := PO.of po_none fun σ H Q ⟨x, e1, e2, hx, q⟩ => by
  subst e1 e2
  exact q x rfl hx .refl
theorem r_poS {e : Expr} {f : EE} (h : PE X e (tS G W true f)) : PO X (some e) (tO G W (oS f)) := PO.of (po_some h) fun σ H Q ⟨x, e1, e2, hx, q⟩ => by
  subst e1 e2
  refine ⟨x, rfl, rfl, hx, ?_⟩
  unfold oS at q
  cases h1 : f x.rho with
  | bad => simp only [h1, Res.bind] at q
  | err c d ρ' => simp only [h1, Res.bind] at q; exact q
  | ok r =>
    obtain ⟨d, k, ρ1⟩ := r
    simp only [h1, ev_rbind_ok] at q
    intro y v fv hρ P
    cases d <;> first | exact q.elim | skip
    case int i => exact ⟨i, P.own.int_of, q y hρ P.inv P.ext⟩
theorem fn_sl (hK : X.K = G.K) {F : Addr → Prop} {H : Hp} {v : V} {a : D} {fv : List Addr} {lo hi : Option Int} {d : D} {k : Kd} {Q : VK} (hd : DomF F H) (w : Own G F H v a fv) (hg : dSl a lo hi = some (d, k)) (q : ∀ F' H' u fu, NewV G F H F' H' u d k fu → Q u H') : (rSlL X.K v lo hi H Q ∨ rSlA X.K v lo hi H Q) ∨ rSlS v lo hi H Q := by
  have short : ∀ {n : Nat} {l : List V}, l.length ≤ sizeLine → (cutV l lo hi).length ≤ sizeLine := fun h => Nat.le_trans (cutV_length _ _ _) h
  cases a <;> simp only [dSl] at hg <;> first | cases hg | skip
  case lst l =>
    obtain ⟨a, ws, rfl, e1, z1, r1⟩ := w.lstM
    exact .inl (.inl ⟨a, ws, rfl, .inl (.inl e1), fun p hp => q _ _ _ _ (.lst hd hp (Nat.le_trans (cutV_length _ _ _) z1) (r1.cut lo hi))⟩)
  case tup l =>
    obtain ⟨a, ws, rfl, e1, z1, r1, _, _⟩ := w.tup_of hK
    refine .inl (.inr ⟨a, ws, rfl, e1, fun full => ?_, fun _ p hp => q _ _ _ _ (.tup hd hp (Nat.le_trans (cutV_length _ _ _) z1) (r1.cut lo hi))⟩)
    have e : cutD l lo hi = l := by
      unfold cutD
      rw [r1.length] at full
      rw [full.1, full.2]
      simp
    rw [e] at q
    exact q F H _ [] (.same hd w.fzT)
  case str x =>
    split at hg
    · rename_i hx
      cases hg
      rw [w.str_of]
      exact .inr ⟨x, rfl, hx, q F H _ [] (.atom hd rfl)⟩
    · cases hg
theorem r_slice {e : Expr} {lo hi : Option Expr} {pos p2 : Pos} {s : Bool} {f : EE} {l h : OE} (hK : X.K = G.K) (he : PE X e (tS G W s f)) (hl : PO X lo (tO G W l)) (hh : PO X hi (tO G W h)) : PE X (.Subscript e (.Slice lo hi none p2) pos) (tS G W s (xSl f l h)) :=
  PE.of (pe_slice ((sl_list.or sl_tupA).or sl_str) he hl hh) fun σ H Q ⟨x, r1, r2, hx, q⟩ => by
    subst r1 r2
    refine ⟨x, rfl, rfl, hx, ?_⟩
    unfold xSl at q
    cases h1 : f x.rho with
    | bad => simp only [h1, Res.bind] at q
    | err c d ρ' => simp only [h1, Res.bind] at q; exact q
    | ok r =>
    obtain ⟨a, k1, ρ1⟩ := r
    simp only [h1, ev_rbind_ok] at q
    intro y v fv hρ P
    refine ⟨y, P.ext.sg, rfl, P.inv, ?_⟩
    rw [hρ]
    cases h2 : l ρ1 with
    | bad => simp only [h2, Res.bind] at q
    | err c d ρ' =>
      simp only [h2, Res.bind] at q
      exact fun z cls dx hz iz ez hev => q z cls dx hz iz (by have := P.ext.trans hx P.inv ez; rwa [Bool.and_true] at this) hev
    | ok ra =>
    obtain ⟨lo', ρ2⟩ := ra
    simp only [h2, ev_rbind_ok] at q
    intro y2 hρ2 i2 e2
    have E2 : Ext s x y2 := by have := P.ext.trans hx P.inv e2; rwa [Bool.and_true] at this
    obtain ⟨w2, kd2, sr2⟩ := carry P.inv P.ext.dm P.own P.kd e2 P.src (fun _ => rfl)
    refine ⟨y2, E2.sg, rfl, i2, ?_⟩
    rw [hρ2]
    cases h3 : h ρ2 with
    | bad => simp only [h3, Res.bind] at q
    | err c d ρ' =>
      simp only [h3, Res.bind] at q
      exact fun z cls dx hz iz ez hev => q z cls dx hz iz (by have := E2.trans hx i2 ez; rwa [Bool.and_true] at this) hev
    | ok rb =>
    obtain ⟨hi', ρ3⟩ := rb
    simp only [h3, ev_rbind_ok] at q
    intro y3 hρ3 i3 e3
    have E3 : Ext s x y3 := by have := E2.trans hx i2 e3; rwa [Bool.and_true] at this
    obtain ⟨w3, _, _⟩ := carry i2 E2.dm w2 kd2 e3 sr2 (fun _ => rfl)
    cases h4 : dSl a lo' hi' with
    | none => simp only [h4] at q
    | some dk =>
      obtain ⟨d, k⟩ := dk
      simp only [h4] at q
      exact fn_sl hK i3.dom w3 h4 fun F' H' u fu n => q { y3 with F := F', H := H' } u fu hρ3 (EPost.after hx i3 E3 n)
end
end VL
/-! VL27: in and not in, over lists and tuples of plain data. -/
namespace VL
open PySem PySem.Spec PyProof.Rows L2

/-- whether the value u reads as a datum that is equal to d -/
noncomputable def eqP (h : Heap) (d : PyData) (u : Value) : Bool := @decide (∃ e as, PySem.Reads h u e as ∧ e.canLay0 = true ∧ PyData.eqv e d = true) (Classical.propDecidable _)
theorem eqP_of {h : Heap} {d e : PyData} {u : Value} {as : List Addr} (r : PySem.Reads h u e as) (hc : e.canLay0 = true) : eqP h d u = PyData.eqv e d := by
  unfold eqP
  cases q : PyData.eqv e d with
  | true => exact @decide_eq_true _ (Classical.propDecidable _) ⟨e, as, r, hc, q⟩
  | false =>
    refine @decide_eq_false _ (Classical.propDecidable _) fun ⟨e', as', r', hc', q'⟩ => ?_
    have := SeqAt.Reads.unique e e' u as as' hc r r'
    subst this
    rw [q] at q'; cases q'
theorem eqP_all {h : Heap} {d : PyData} : ∀ {es : List PyData} {us : List Value} {as : List Addr}, ReadsAll h us es as → (∀ e ∈ es, e.canLay0 = true) → us.any (eqP h d) = es.any fun e => PyData.eqv e d
  | [], us, as, r, hc => by cases r; rfl
  | e :: es, us, as, r, hc => by
    cases r with
    | cons r1 r2 =>
      rw [List.any_cons, List.any_cons, eqP_of r1 (hc e List.mem_cons_self), eqP_all r2 fun e he => hc e (List.mem_cons_of_mem _ he)]
theorem eqP_at {A : Around} {s : Shared} {d : PyData} {v : Value} {bs : List Addr} (rv : PySem.Reads s.heap v d bs) (hd : d.canLay0 = true) (hu : A.units + d.depth < cLine) : ∀ {es : List PyData} {us : List Value} {as : List Addr}, ReadsAll s.heap us es as → (∀ e ∈ es, e.canLay0 = true) → ∀ u ∈ us, SeqAt.EqAt A s u v (eqP s.heap d u)
  | [], us, as, r, hc => by cases r; exact fun u hu => by cases hu
  | e :: es, us, as, r, hc => by
    cases r with
    | cons r1 r2 =>
      intro u hm
      rcases List.mem_cons.mp hm with rfl | hm
      · rw [eqP_of r1 (hc e List.mem_cons_self)]
        exact SeqAt.eqAt_reads e d A s _ v _ bs r1 rv (hc e List.mem_cons_self) hd (by have := Nat.min_le_right e.depth d.depth; omega)
      · exact eqP_at rv hd hu r2 (fun e he => hc e (List.mem_cons_of_mem _ he)) u hm
def rInD (K : PySem.W.Frag) (neg : Bool) : R2 := fun x y H Q => ∃ p xs d es, y = .ref p ∧ (SqL K H p xs ∨ SqT K H p xs) ∧ Dp K H x d ∧ DpAll K H xs es ∧ d.canLay0 = true ∧ d.depth ≤ 60 ∧ (∀ e ∈ es, e.canLay0 = true) ∧ Q (.bl (if neg then !(es.any fun e => PyData.eqv e d) else es.any fun e => PyData.eqv e d)) H
section
variable {X : Cx} {G : Gm} {W : WX}
theorem op_inD (hu : X.A.units + 64 < cLine) : OpR X (compareOp .In) (rInD X.K false) := by
  intro pins s σ H x y v u Q I rx ry h
  obtain ⟨p, xs, d, es, rfl, hq, hd, he, c1, c2, c3, q⟩ := h
  cases ry
  obtain ⟨bs, rv⟩ := Dp.reads I d x v hd rx
  have hu' : X.A.in1.units + d.depth < cLine := by
    show X.A.units + 1 + d.depth < cLine
    omega
  rcases hq with hq | hq
  · obtain ⟨its, r, pl, hz⟩ := I.list hq
    obtain ⟨as, ra⟩ := Dp.readsAll I es xs its he r
    refine SeqAt.in_listAt (eqP s.heap d) pl.isList (fun w hw => eqP_at rv c1 hu' ra c3 w (by simpa using hw)) ⟨.bl _, H, I, rfl, ?_⟩
    rw [show its.toArray.any (eqP s.heap d) = its.any (eqP s.heap d) by simp, eqP_all ra c3]
    exact q
  · obtain ⟨its, r, pl, hz⟩ := I.tuple hq
    obtain ⟨as, ra⟩ := Dp.readsAll I es xs its he r
    refine SeqAt.in_tupleAt (eqP s.heap d) pl (fun w hw => eqP_at rv c1 hu' ra c3 w (by simpa using hw)) ⟨.bl _, H, I, rfl, ?_⟩
    rw [show its.toArray.any (eqP s.heap d) = its.any (eqP s.heap d) by simp, eqP_all ra c3]
    exact q
theorem op_notInD (hu : X.A.units + 64 < cLine) : OpR X (compareOp .NotIn) (rInD X.K true) := by
  intro pins s σ H x y v u Q I rx ry h
  obtain ⟨p, xs, d, es, rfl, hq, hd, he, c1, c2, c3, q⟩ := h
  cases ry
  obtain ⟨bs, rv⟩ := Dp.reads I d x v hd rx
  have hu' : X.A.in1.units + d.depth < cLine := by
    show X.A.units + 1 + d.depth < cLine
    omega
  rcases hq with hq | hq
  · obtain ⟨its, r, pl, hz⟩ := I.list hq
    obtain ⟨as, ra⟩ := Dp.readsAll I es xs its he r
    refine SeqAt.notIn_listAt (eqP s.heap d) pl.isList (fun w hw => eqP_at rv c1 hu' ra c3 w (by simpa using hw)) ⟨.bl _, H, I, rfl, ?_⟩
    rw [show its.toArray.any (eqP s.heap d) = its.any (eqP s.heap d) by simp, eqP_all ra c3]
    exact q
  · obtain ⟨its, r, pl, hz⟩ := I.tuple hq
    obtain ⟨as, ra⟩ := Dp.readsAll I es xs its he r
    refine SeqAt.notIn_tupleAt (eqP s.heap d) pl (fun w hw => eqP_at rv c1 hu' ra c3 w (by simpa using hw)) ⟨.bl _, H, I, rfl, ?_⟩
    rw [show its.toArray.any (eqP s.heap d) = its.any (eqP s.heap d) by simp, eqP_all ra c3]
    exact q
end
end VL
/-! VL28: in and not in on data. -/
namespace VL
open PySem PySem.Spec PyProof.Rows L2

def inL (a : D) (l : List D) : Option Bool := match toPy a, toPyL l with
  | some d, some es => if d.canLay0 = true ∧ d.depth ≤ 60 ∧ (es.all fun e => e.canLay0) = true then some (es.any fun e => PyData.eqv e d) else none
  | _, _ => none
def signOf (x : Str) : Option Nat := match x.cps.toList with
  | [c] => some c
  | _ => none
theorem signOf_eq {x : Str} {c : Nat} (h : signOf x = some c) : x = ⟨#[c]⟩ := by
  unfold signOf at h
  split at h
  · rename_i c' e
    cases h
    cases x with
    | mk cps =>
      congr 1
      exact Array.toList_inj.mp e
  · cases h
def dInB (a b : D) : Option Bool := match b with
  | .lst l => inL a l
  | .tup l => inL a l
  | .str y => match a with
    | .str x => (signOf x).map fun c => decide (c ∈ y.cps.toList)
    | _ => none
  | _ => none
def dIn (a b : D) : Option (D × Kd) := (dInB a b).map fun c => (.bl c, .fz)
def dNotIn (a b : D) : Option (D × Kd) := (dInB a b).map fun c => (.bl (!c), .fz)
section
variable {X : Cx} {G : Gm} {W : WX}
theorem fn_in (hK : X.K = G.K) : FnD2 G (fun x y H Q => rInD X.K false x y H Q ∨ ∃ (c : Nat) (z : Str), x = .str ⟨#[c]⟩ ∧ y = .str z ∧ Q (.bl (decide (c ∈ z.cps.toList))) H) dIn := by
  intro F H v w a b fv fw d k Q hd ha hb hg q
  simp only [dIn, Option.map_eq_some_iff, Prod.mk.injEq] at hg
  obtain ⟨c, hc, rfl, rfl⟩ := hg
  have seq : ∀ (l : List D) (p : Addr) (xs : List V), inL a l = some c → w = .ref p → (SqL X.K H p xs ∨ SqT X.K H p xs) → Rep G F H xs l → rInD X.K false v w H Q := fun l p xs h e1 e2 r => by
    unfold inL at h
    split at h
    · rename_i pd es e3 e4
      split at h
      · rename_i cc
        cases h
        exact ⟨p, xs, pd, es, e1, e2, ha.dp hK e3, r.dp hK e4, cc.1, cc.2.1, fun e he => by have := cc.2.2; rw [List.all_eq_true] at this; exact this e he, q F H _ [] (.atom hd rfl)⟩
      · cases h
    · cases h
  cases b <;> simp only [dInB] at hc <;> first | cases hc | skip
  case lst l =>
    obtain ⟨p, xs, rfl, e1, _, r1⟩ := hb.lstM
    exact .inl (seq l p xs hc rfl (.inl (.inl (.inl e1))) r1)
  case tup l =>
    obtain ⟨p, xs, rfl, e1, _, r1, _, _⟩ := hb.tup_of hK
    exact .inl (seq l p xs hc rfl (.inr e1) r1)
  case str y =>
    cases a <;> simp only at hc <;> first | cases hc | skip
    rename_i x
    simp only [Option.map_eq_some_iff] at hc
    obtain ⟨n, e, rfl⟩ := hc
    rw [ha.str_of, hb.str_of, signOf_eq e]
    exact .inr ⟨n, y, rfl, rfl, q F H _ [] (.atom hd rfl)⟩
theorem o_in {kk : Nat} (hr : RoomG kk X.A) (hK : X.K = G.K) : OpR X (compareOp .In) (fun x y H Q => rInD X.K false x y H Q ∨ ∃ (c : Nat) (z : Str), x = .str ⟨#[c]⟩ ∧ y = .str z ∧ Q (.bl (decide (c ∈ z.cps.toList))) H) ∧ FnD2 G (fun x y H Q => rInD X.K false x y H Q ∨ ∃ (c : Nat) (z : Str), x = .str ⟨#[c]⟩ ∧ y = .str z ∧ Q (.bl (decide (c ∈ z.cps.toList))) H) dIn := ⟨OpR.or (op_inD hr.room.units) op_in_sign, fn_in hK⟩
theorem fn_notin (hK : X.K = G.K) : FnD2 G (fun x y H Q => rInD X.K true x y H Q ∨ ∃ (c : Nat) (z : Str), x = .str ⟨#[c]⟩ ∧ y = .str z ∧ Q (.bl (!decide (c ∈ z.cps.toList))) H) dNotIn := by
  intro F H v w a b fv fw d k Q hd ha hb hg q
  simp only [dNotIn, Option.map_eq_some_iff, Prod.mk.injEq] at hg
  obtain ⟨c, hc, rfl, rfl⟩ := hg
  have seq : ∀ (l : List D) (p : Addr) (xs : List V), inL a l = some c → w = .ref p → (SqL X.K H p xs ∨ SqT X.K H p xs) → Rep G F H xs l → rInD X.K true v w H Q := fun l p xs h e1 e2 r => by
    unfold inL at h
    split at h
    · rename_i pd es e3 e4
      split at h
      · rename_i cc
        cases h
        exact ⟨p, xs, pd, es, e1, e2, ha.dp hK e3, r.dp hK e4, cc.1, cc.2.1, fun e he => by have := cc.2.2; rw [List.all_eq_true] at this; exact this e he, q F H _ [] (.atom hd rfl)⟩
      · cases h
    · cases h
  cases b <;> simp only [dInB] at hc <;> first | cases hc | skip
  case lst l =>
    obtain ⟨p, xs, rfl, e1, _, r1⟩ := hb.lstM
    exact .inl (seq l p xs hc rfl (.inl (.inl (.inl e1))) r1)
  case tup l =>
    obtain ⟨p, xs, rfl, e1, _, r1, _, _⟩ := hb.tup_of hK
    exact .inl (seq l p xs hc rfl (.inr e1) r1)
  case str y =>
    cases a <;> simp only at hc <;> first | cases hc | skip
    rename_i x
    simp only [Option.map_eq_some_iff] at hc
    obtain ⟨n, e, rfl⟩ := hc
    rw [ha.str_of, hb.str_of, signOf_eq e]
    exact .inr ⟨n, y, rfl, rfl, q F H _ [] (.atom hd rfl)⟩
theorem o_notin {kk : Nat} (hr : RoomG kk X.A) (hK : X.K = G.K) : OpR X (compareOp .NotIn) (fun x y H Q => rInD X.K true x y H Q ∨ ∃ (c : Nat) (z : Str), x = .str ⟨#[c]⟩ ∧ y = .str z ∧ Q (.bl (!decide (c ∈ z.cps.toList))) H) ∧ FnD2 G (fun x y H Q => rInD X.K true x y H Q ∨ ∃ (c : Nat) (z : Str), x = .str ⟨#[c]⟩ ∧ y = .str z ∧ Q (.bl (!decide (c ∈ z.cps.toList))) H) dNotIn := ⟨OpR.or (op_notInD hr.room.units) op_notIn_sign, fn_notin hK⟩
end
end VL
/-! VL29: a text's method with one argument; join. -/
namespace VL
open PySem PySem.Spec PyProof.Rows L2

def D.isStr : D → Bool
  | .str _ => true
  | _ => false
def xM1 (t : Bool) (g : D → D → Option (D × Kd)) (f1 f2 : EE) : EE := fun ρ => (f1 ρ).bind fun r => if r.1.isStr = true then (f2 r.2.2).bind fun q => match g r.1 q.1 with
    | some (d, k) => .ok (d, k, q.2.2)
    | none => .bad
  else .bad
def strsOf : List D → Option (List Str)
  | [] => some []
  | .str x :: r => (strsOf r).map (x :: ·)
  | _ :: _ => none
theorem strsOf_eq : ∀ {l : List D} {ns : List Str}, strsOf l = some ns → l = ns.map D.str
  | [], ns, h => by cases h; rfl
  | d :: r, ns, h => by
    cases d <;> first | cases h | skip
    simp only [strsOf, Option.map_eq_some_iff] at h
    obtain ⟨ms, h1, rfl⟩ := h
    rw [List.map_cons, strsOf_eq h1]
theorem Rep.strs_of {G : Gm} {F : Addr → Prop} {H : Hp} : ∀ {ns : List Str} {vs : List V}, Rep G F H vs (ns.map D.str) → vs = ns.map V.str
  | [], vs, h => h.nil_of
  | n :: ns, vs, h => by
    obtain ⟨v, ws, rfl, r1, r2⟩ := h.cons_of
    rw [r1.str_of, Rep.strs_of r2]; rfl
section
variable {X : Cx} {G : Gm} {W : WX}
theorem tS_m1 {r : V → List V → Hp → VK → Prop} {s t : Bool} {f1 f2 : EE} {g : D → D → Option (D × Kd)} (hg : FnD2 G (fun x y H Q => r x [y] H Q) g) {σ H Q} (h : tS G W (s && t) (xM1 t g f1 f2) σ H Q) : tM1 r (tS G W s f1) (tS G W t f2) σ H Q := by
  obtain ⟨x, rfl, rfl, hi, q⟩ := h
  refine ⟨x, rfl, rfl, hi, ?_⟩
  unfold xM1 at q
  cases h1 : f1 x.rho with
  | bad => simp only [h1, Res.bind] at q
  | err c d ρ' =>
    simp only [h1, Res.bind] at q
    exact fun y cls dx hρ iy ey hev => q y cls dx hρ iy (ey.weak fun z => by simp only [Bool.and_eq_true] at z; exact z.1) hev
  | ok r1 =>
    obtain ⟨a, k1, ρ1⟩ := r1
    simp only [h1, ev_rbind_ok] at q
    intro y v fv hρ P
    by_cases hs : a.isStr = true
    · rw [if_pos hs] at q
      cases a <;> first | cases hs | skip
      rename_i z0
      have ev := P.own.str_of
      subst ev
      refine ⟨⟨z0, rfl⟩, y, P.ext.sg, rfl, P.inv, ?_⟩
      rw [hρ]
      cases h2 : f2 ρ1 with
      | bad => simp only [h2, Res.bind] at q
      | err c d' ρ' =>
        simp only [h2, Res.bind] at q
        exact fun z cls dx hz iz ez hev => q z cls dx hz iz (P.ext.trans hi P.inv ez) hev
      | ok r2 =>
        obtain ⟨b, k2, ρ2⟩ := r2
        simp only [h2, ev_rbind_ok] at q
        intro z w fw hz P2
        cases h3 : g (.str z0) b with
        | none => simp only [h3] at q
        | some dk =>
          obtain ⟨d, k⟩ := dk
          simp only [h3] at q
          refine hg z.F z.H (.str z0) w (.str z0) b [] _ d k Q P2.inv.dom (.fz (.atom rfl .nil)) P2.own h3 fun F' H' u fu n => ?_
          exact q { z with F := F', H := H' } u fu hz (EPost.after hi P2.inv (P.ext.trans hi P.inv P2.ext) n)
    · rw [if_neg hs] at q; exact q.elim
def rJoin (K : PySem.W.Frag) : V → List V → Hp → VK → Prop := fun x xs H Q => ∃ a p, ∃ ys : List Str, x = .str a ∧ xs = [.ref p] ∧ (SqL K H p (ys.map V.str) ∨ SqT K H p (ys.map V.str)) ∧ (ys.map (·.length)).sum + ys.length * a.length ≤ 16777216 ∧ Q (.str (Txt.join a ys)) H
def joinL (a : Str) (l : List D) : Option (D × Kd) := (strsOf l).bind fun ys => if (ys.map (·.length)).sum + ys.length * a.length ≤ 16777216 then some (.str (Txt.join a ys), .fz) else none
def dJoin : D → D → Option (D × Kd)
  | .str a, .lst l => joinL a l
  | .str a, .tup l => joinL a l
  | _, _ => none
theorem fn_join (hK : X.K = G.K) : FnD2 G (fun x y H Q => rJoin X.K x [y] H Q) dJoin := by
  intro F H v w a b fv fw d k Q hd ha hb hg q
  have go : ∀ (z : Str) (l : List D) (p : Addr) (xs : List V), joinL z l = some (d, k) → v = .str z → w = .ref p → (SqL X.K H p xs ∨ SqT X.K H p xs) → Rep G F H xs l → rJoin X.K v [w] H Q := fun z l p xs h e0 e1 e2 r => by
    simp only [joinL, Option.bind_eq_some_iff] at h
    obtain ⟨ys, h1, h2⟩ := h
    split at h2
    · rename_i hz
      cases h2
      obtain rfl := strsOf_eq h1
      obtain rfl := r.strs_of
      exact ⟨z, p, ys, e0, by rw [e1], e2, hz, q F H _ [] (.atom hd rfl)⟩
    · cases h2
  cases a <;> simp only [dJoin] at hg <;> first | cases hg | skip
  rename_i z
  cases b <;> simp only at hg <;> first | cases hg | skip
  case lst l =>
    obtain ⟨p, xs, rfl, e1, _, r1⟩ := hb.lstM
    exact go z l p xs hg ha.str_of rfl (.inl (.inl (.inl e1))) r1
  case tup l =>
    obtain ⟨p, xs, rfl, e1, _, r1, _, _⟩ := hb.tup_of hK
    exact go z l p xs hg ha.str_of rfl (.inr e1) r1
theorem r_join {o e : Expr} {apos pos : Pos} {s t : Bool} {f1 f2 : EE} (hK : X.K = G.K) (h : PE X (.Call (.Attribute o "join" apos) [e] [] pos) (tM1 (rJoin X.K) (tS G W s f1) (tS G W t f2))) : PE X (.Call (.Attribute o "join" apos) [e] [] pos) (tS G W (s && t) (xM1 t dJoin f1 f2)) :=
  PE.of h fun σ H Q q => tS_m1 (fn_join hK) q
theorem r_mut0 {i : Nat} {e : Expr} {T : String} {r : V → List V → Hp → VK → Prop} {p : D → Bool} {g : D → List D → Option (D × D)} (hg : MutR G r g) (hp : ∀ d, p d = true → d.isDrw = false) (hty : ∀ {F H a d0}, Objs G F H a d0 → p d0 = true → tyV X.K T (.ref a) H) (h : PE X e (tBM0 X.K T r (tVar i))) : PE X e (tS G W false (xMut p i g aN)) :=
  PE.of h fun σ H Q q => by
    obtain ⟨v, e1, ty, q⟩ := tS_mut (X := X) (T := T) (r := r) (s := true) hg hp hty q
    refine ⟨v, e1, ty, ?_⟩
    obtain ⟨x, rfl, rfl, hx, q⟩ := q
    exact q x [] rfl hx .refl .nil
end
end VL
/-! VL30: dicts with text keys, read and shown. -/
namespace VL
open PySem PySem.Spec PyProof.Rows L2

def valD : List (Key × D) → Key → Option D
  | [], _ => none
  | (k', d) :: r, k => if k' = k then some d else valD r k
theorem Rep.valK {G : Gm} {F : Addr → Prop} {H : Hp} {k : Key} {d : D} : ∀ {ws : List (Key × V)} {es : List (Key × D)}, ws.map (·.1) = es.map (·.1) → Rep G F H (ws.map (·.2)) (es.map (·.2)) → valD es k = some d → ∃ v, valV ws k = some v ∧ Rep G F H [v] [d]
  | [], [], _, _, h => by cases h
  | [], _ :: _, e, _, _ => by simp at e
  | _ :: _, [], e, _, _ => by simp at e
  | (n, w) :: ws, (m, e) :: es, hn, hr, h => by
    simp only [List.map_cons, List.cons.injEq] at hn
    obtain ⟨rfl, hn⟩ := hn
    obtain ⟨r1, r2⟩ := Rep.cons_iff.mp (by simpa using hr)
    simp only [valD] at h
    by_cases hk : n = k
    · rw [if_pos hk] at h
      cases h
      exact ⟨w, valV_pos hk, r1⟩
    · rw [if_neg hk] at h
      obtain ⟨v, e1, r3⟩ := Rep.valK hn r2 h
      refine ⟨v, ?_, r3⟩
      unfold valV at e1 ⊢
      rw [List.find?_cons]
      simp only [hk, decide_false]
      exact e1
theorem Own.dK_of {G : Gm} {F : Addr → Prop} {H : Hp} {v : V} {es : List (Key × D)} {fp : List Addr} (h : Own G F H v (.dK es) fp) : ∃ (a : Addr) (ws : List (Key × V)), v = .ref a ∧ H a = some (.dK ws) ∧ ws.length ≤ sizeLine ∧ ws.map (·.1) = es.map (·.1) ∧ Rep G F H (ws.map (·.2)) (es.map (·.2)) := by
  cases h with
  | fz r =>
    cases r with
    | atom e _ => cases v <;> simp [atomD] at e
    | dK f e z k r1 _ => exact ⟨_, _, rfl, e, z, k, r1⟩
  | ow f ob =>
    obtain ⟨ws, e, z, k, r⟩ := ob
    exact ⟨_, ws, rfl, e, z, k, r⟩
def xGet (key : Str) (f : EE) : EE := fun ρ => (f ρ).bind fun r => match r.1 with
  | .dK es => match valD es (kw key) with
    | some d => .ok (d, .fz, r.2.2)
    | none => .bad
  | _ => .bad
section
variable {X : Cx} {G : Gm} {W : WX} {kk : Nat}
theorem r_dget {o k : Expr} {pos : Pos} {key : Str} {s : Bool} {f : EE} (hr : RoomG kk X.A) (ho : PE X o (tS G W s f)) (hk : PE X k (tC (.str key))) (hs : NoSl k) : PE X (.Subscript o k pos) (tS G W s (xGet key f)) := PE.of (pe_dget (Nat.lt_of_le_of_lt (Nat.add_le_add_left (by decide) _) hr.room.units) ho hk hs) fun σ H Q h => by
  obtain ⟨x, rfl, rfl, hx, q⟩ := h
  refine ⟨x, rfl, rfl, hx, ?_⟩
  unfold xGet at q
  cases h1 : f x.rho with
  | bad => simp only [h1, Res.bind] at q
  | err c d ρ' => simp only [h1, Res.bind] at q; exact q
  | ok r =>
    obtain ⟨d0, k0, ρ1⟩ := r
    simp only [h1, ev_rbind_ok] at q
    intro y v fv hρ P
    cases d0 <;> first | exact q.elim | skip
    rename_i es
    simp only at q
    cases h2 : valD es (kw key) with
    | none => simp only [h2] at q
    | some d =>
      simp only [h2] at q
      obtain ⟨a, ws, rfl, e1, z1, k1, r1⟩ := P.own.dK_of
      obtain ⟨u, e2, ru⟩ := r1.valK k1 h2
      have g := DGet.k (k := kw key) e1
      rw [e2] at g
      refine ⟨a, u, rfl, g, q y u [] hρ ⟨P.inv, P.ext, .fz ru, rfl, .fz⟩⟩
end
end VL
/-! VL31: displays of dicts with text keys. -/
namespace VL
open PySem PySem.Spec PyProof.Rows L2

theorem tS_imp {G : Gm} {W : WX} {s : Bool} {f : EE} {σ H} {Q Q' : VK} (h : tS G W s f σ H Q) (i : ∀ v H', Q v H' → Q' v H') : tS G W s f σ H Q' := by
  obtain ⟨x, e1, e2, hi, q⟩ := h
  refine ⟨x, e1, e2, hi, ?_⟩
  revert q
  cases f x.rho with
  | bad => exact id
  | err c d ρ' => exact id
  | ok r1 => exact fun q y v fv hρ P => i _ _ (q y v fv hρ P)
inductive TP (G : Gm) (W : WX) : List (TE × TE) → List Str → AE → Bool → Prop
  | nil : TP G W [] [] aN true
  | cons {trs ks f t k g s} : TP G W trs ks f t → TP G W ((tC (.str k), tS G W s g) :: trs) (k :: ks) (aC t g f) (s && t)
def prs (ks : List Str) (vs : List V) : List (V × V) := (ks.zip vs).map fun kv => (V.str kv.1, kv.2)
theorem TP.pairs {G : Gm} {W : WX} {trs ks f s} (h : TP G W trs ks f s) : ∀ {σ H} {Q : List (V × V) → Hp → Prop}, tA G W s f σ H (fun vs H' => Q (prs ks vs) H') → tPairs trs σ H Q := by
  induction h with
  | nil =>
    intro σ H Q ⟨x, e1, e2, hx, q⟩
    subst e1 e2
    exact q x [] rfl hx .refl .nil
  | @cons trs ks f t k g s h ih =>
    intro σ H Q q
    have q1 := tA_cons q
    show tS G W s g σ H fun y H2 => tPairs trs σ H2 fun ps H3 => Q ((V.str k, y) :: ps) H3
    exact tS_imp q1 fun v H1 q2 => ih q2
theorem putK_new {kvs : List (Key × V)} {k : Key} {v : V} (h : k ∉ kvs.map (·.1)) : putK kvs k v = kvs ++ [(k, v)] := by
  unfold putK
  rw [if_neg]
  simp only [List.any_eq_true, decide_eq_true_eq, not_exists, not_and]
  intro p hp e
  exact h (List.mem_map.mpr ⟨p, hp, e⟩)
theorem merge_new : ∀ (more kvs : List (Key × V)), (kvs.map (·.1) ++ more.map (·.1)).Nodup → mergeK kvs more = kvs ++ more
  | [], kvs, _ => by simp [mergeK]
  | (k, v) :: r, kvs, h => by
    have hk : k ∉ kvs.map (·.1) := fun hm => by
      have := List.nodup_append.mp h
      exact this.2.2 k hm k (by simp) rfl
    have e : mergeK kvs ((k, v) :: r) = mergeK (putK kvs k v) r := rfl
    rw [e, putK_new hk, merge_new r (kvs ++ [(k, v)]) (by simpa using h)]
    simp
def xDisp (ks : List Str) (f : AE) : EE := fun ρ => (f ρ).bind fun r => if fzAll r.1 = true ∧ ks.length = r.1.length ∧ r.1.length ≤ 15 ∧ (ks.map kw).Nodup then .ok (.dK ((ks.map kw).zip (r.1.map (·.1))), .ow, r.2) else .bad
theorem AOk.vlen {G : Gm} {x y : Stt} {vs : List V} {l : List (D × Kd)} (h : AOk G x y vs l) : vs.length = l.length := by
  induction h with
  | nil => rfl
  | cons _ _ _ _ ih => simp [ih]
section
variable {X : Cx} {G : Gm} {W : WX}
theorem r_disp {pos : Pos} {keys : List (Option Expr)} {values : List Expr} {trs : List (TE × TE)} {ks : List Str} {s : Bool} {f : AE} (tp : TP G W trs ks f s) (h : PPs X pos keys values trs) (hall : keys.all (·.isSome) = true := by rfl) (hl : keys.length = values.length := by rfl) (h0 : keys ≠ [] := by simp) (h15 : keys.length ≤ 15 := by simp) :
    PE X (.Dict keys values pos) (tS G W s (xDisp ks f)) := PE.of (pe_disp h hall hl h0 h15) fun σ H Q hh => by
  obtain ⟨x, rfl, rfl, hx, q⟩ := hh
  intro p hp
  have N := NewV.objs (G := G) (F := x.F) (ob := .dK []) (d := .dK []) hx.dom hp ⟨[], upd_same, by simp, rfl, .nil⟩
  have P1 := N.post hx
  refine tp.pairs ⟨{ x with H := upd x.H p (.dK []) }, rfl, rfl, P1.inv, ?_⟩
  show match f x.rho with | .ok (l, ρ') => _ | .err c d ρ' => _ | .bad => _
  unfold xDisp at q
  have e1 : Ext true x { x with H := upd x.H p (.dK []) } := P1.ext
  cases e2 : f x.rho with
  | bad => simp only [e2, Res.bind] at q
  | err c d ρ' =>
    simp only [e2, Res.bind] at q
    exact fun y cls dx hρ iy ey hev => q y cls dx hρ iy (by have := e1.trans hx P1.inv ey; rwa [Bool.true_and] at this) hev
  | ok r =>
  obtain ⟨l, ρ1⟩ := r
  simp only [e2, ev_rbind_ok] at q
  intro y vs hρ iy ey ay
  by_cases hc : fzAll l = true ∧ ks.length = l.length ∧ l.length ≤ 15 ∧ (ks.map kw).Nodup
  · rw [if_pos hc] at q
    obtain ⟨c1, c2, c3, c4⟩ := hc
    have vl := ay.vlen
    obtain ⟨F', i', e', rp⟩ := ay.frozen P1.inv iy ey c1
    have po : p ∉ x.o ∧ p ∉ x.p ∧ p ∉ x.b := by
      refine ⟨fun z => ?_, fun z => ?_, fun z => ?_⟩
      · obtain ⟨_, o, e, _⟩ := hx.there (.inl z); rw [hp] at e; cases e
      · obtain ⟨_, o, e, _⟩ := hx.there (.inr (.inl z)); rw [hp] at e; cases e
      · obtain ⟨_, o, e, _⟩ := hx.there (.inr (.inr z)); rw [hp] at e; cases e
    have hpy : y.H p = some (.dK []) := ey.kp p _ upd_same (fun z => by
      rcases List.mem_append.mp z with z | z
      · exact po.1 z
      · exact po.2.1 z) rfl
    have xp : ({ x with H := upd x.H p (.dK []) } : Stt).H p = some (.dK []) := upd_same
    have nF : ¬ F' p := fun fp => by
      rcases e'.f2 p fp with z | z
      · obtain ⟨o, e, _⟩ := hx.dom p z; rw [hp] at e; cases e
      · rw [xp] at z; cases z
    have npo : p ∉ y.o ∧ p ∉ y.p ∧ p ∉ y.b := by
      refine ⟨fun z => ?_, fun z => ?_, fun z => ?_⟩
      · rcases ey.o1 p z with z | z
        · exact po.1 z
        · rw [xp] at z; cases z
      · rw [ey.p1] at z; exact po.2.1 z
      · rw [ey.b1] at z; exact po.2.2 z
    have kl : ((ks.map kw).zip vs).map (·.1) = ks.map kw := by
      rw [List.map_fst_zip]; simp; omega
    have kr : ((ks.map kw).zip vs).map (·.2) = vs := by
      rw [List.map_snd_zip]; simp; omega
    refine ⟨hpy, (ks.map kw).zip vs, ?_, by rw [List.length_zip, List.length_map]; omega, ?_⟩
    · unfold prs
      rw [List.zip_map_left, List.map_map]
      rfl
    rw [merge_new _ [] (by rw [List.map_nil, List.nil_append, kl]; exact c4), List.nil_append]
    have out : ∀ a, a ∈ y.o ∨ a ∈ y.p ∨ a ∈ y.b → a ≠ p := fun a ha z => by
      subst z
      rcases ha with h | h | h
      · exact npo.1 h
      · exact npo.2.1 h
      · exact npo.2.2 h
    generalize ho : (HO.dK ((ks.map kw).zip vs)) = o'
    have dmu : ∀ b, upd y.H p o' b = none → y.H b = none := fun b hb => by
      by_cases eb : b = p
      · subst eb; rw [upd_same] at hb; cases hb
      · rwa [upd_ne eb] at hb
    have inv : SInv G { y with F := F', H := upd y.H p o' } := by
      refine ⟨i'.sl.keep (fun _ h => h) (kf_upd nF) fun a ha => ⟨(i'.there ha).1, fun o e _ => by show upd y.H p o' a = _; rw [upd_ne (out a ha)]; exact e⟩, i'.nd, fun b f => ?_, tabs_upd iy.tb hpy rfl (fun φ z => by cases z)⟩
      obtain ⟨o, h, t⟩ := i'.dom b f
      have nb : b ≠ p := fun z => nF (z ▸ f)
      exact ⟨o, by show upd y.H p o' b = some o; rw [upd_ne nb]; exact h, t⟩
    have E : Ext s x { y with F := F' } := by have := e1.trans hx P1.inv e'; rwa [Bool.true_and] at this
    have kx : ∀ m, Kept m x.H y.H → Kept m x.H (upd y.H p o') := fun m k a o e n t => by
      have na : a ≠ p := fun z => by rw [z, hp] at e; cases e
      rw [upd_ne na]; exact k a o e n t
    have E3 : Ext s x { y with F := F', H := upd y.H p o' } := ⟨E.sg, kx _ E.kp, E.f1, E.f2, E.o1, E.p1, E.b1, fun a h => E.dm a (dmu a h), E.lk, fun z => by
      obtain ⟨r1, k1, o1⟩ := E.st z
      exact ⟨r1, kx _ k1, o1⟩⟩
    refine q { y with F := F', H := upd y.H p o' } (.ref p) [p] hρ ⟨inv, E3, .ow nF ⟨(ks.map kw).zip vs, ?_, ?_, ?_, ?_⟩, ⟨by simp, fun a ha => ?_⟩, .ow⟩
    · rw [ho]; exact upd_same
    · rw [List.length_zip, List.length_map, sizeLine_eq]; omega
    · rw [kl, List.map_fst_zip]; simp; omega
    · rw [kr, List.map_snd_zip (by simp; omega)]
      exact rp.keep (fun _ h => h) (kf_upd nF)
    · have : a = p := by simpa using ha
      subst this
      exact ⟨hp, npo⟩
  · rw [if_neg hc] at q; exact q.elim
end
end VL
/-! VL32: x[::-1]. -/
namespace VL
open PySem PySem.Spec PyProof.Rows L2

theorem Rep.reverse {G : Gm} {F : Addr → Prop} {H : Hp} : ∀ {ds : List D} {vs : List V}, Rep G F H vs ds → Rep G F H vs.reverse ds.reverse
  | [], vs, h => by rw [h.nil_of]; exact .nil
  | d :: ds, vs, h => by
    obtain ⟨v, ws, rfl, r1, r2⟩ := h.cons_of
    rw [List.reverse_cons, List.reverse_cons]
    exact (Rep.reverse r2).append r1
def dRev : D → Option (D × Kd)
  | .lst l => some (.lst l.reverse, .ow)
  | _ => none
section
variable {X : Cx} {G : Gm} {W : WX}
theorem r_rev {e : Expr} {k : Nat} {p1 p2 p3 pos : Pos} {s : Bool} {f : EE} (he : PE X e (tS G W s f)) (h : ∀ te, PE X e te → PE X (.Subscript e (.Slice none none (some (.UnaryOp .USub (.Constant (.int 1) k p1) p2)) p3) pos) (tRevL X.K te)) : PE X (.Subscript e (.Slice none none (some (.UnaryOp .USub (.Constant (.int 1) k p1) p2)) p3) pos) (tS G W s (xAp1 dRev f)) :=
  PE.of (h _ he) fun σ H Q q => tS_ap1 (r := fun x H1 Q => ∃ a xs, x = .ref a ∧ SqL X.K H1 a xs ∧ ∀ p, H1 p = none → Q (.ref p) (upd H1 p (.lst xs.reverse))) (fun F H v d fv d' k' Q hd w hg q => by
    cases d <;> simp only [dRev] at hg <;> first | cases hg | skip
    obtain ⟨a, ws, rfl, e1, z1, r1⟩ := w.lstM
    exact ⟨a, ws, rfl, .inl (.inl e1), fun p hp => q _ _ _ _ (.lst hd hp (by simpa using z1) r1.reverse)⟩) q
end
end VL
set_option maxHeartbeats 2000000
/-! EX1: an own exception's def __init__ that hands its argument on by super() and keeps it in a field: what it does to the memory. -/
namespace VL
open PySem PySem.W PySem.Calls PyProof.Rows
abbrev bodyX (x fl : Str) (p0 p1 p2 p3 p4 p5 p6 p7 p8 p9 : Pos) : List Stmt := [.Expr (.Call (.Attribute (.Call (.Name "super" p0) [] [] p1) "__init__" p2) [.Name x p3] [] p4) p5,
  .Assign [.Attribute (.Name "self" p6) fl p7] (.Name x p8) p9]
section
variable {prog : Program} {w : World} {A : Around} {s : Shared} {R : Result → Shared → Prop} {K : Frag} {mg : Str → Option Value} {name qual : Str} {params : Arguments} {scope : Scope} {dV kV doc pm ct oc : Value} {an od cdd cld : Option Addr} {osl ccs csl : Array (Option Value)} {f cda cc C e t0 : Addr} {args : Args} {v : Value} {x fl : Str} {p0 p1 p2 p3 p4 p5 p6 p7 p8 p9 : Pos} {ar : Arg} {vs : Array Value} {file : Str} {tf : Tok} {ccl cl : Value} {bm : List Value} {cd : ClassData} {pl : Sem Bool}
theorem sup_code (hroom : A.depth < recursionLimit) (X : K.In s.heap) (lim : s.heap.NoLimit) (gl : s.heap.Ns mainGlobals mg) (bl : ∃ mb, s.heap.Ns builtinsNs mb ∧ ∀ x : Str, x ≠ "__name__" → mb x = bootBuiltins x)
    (ho : K.lookup f = some ⟨oc, od, .func (ksFn name qual params (bodyX x fl p0 p1 p2 p3 p4 p5 p6 p7 p8 p9) scope dV kV doc pm an (.ref cda) ct cc), osl⟩) (hcd : codeIn K (.ref cda) qual = true)
    (hbind : BindsTo s (ksFn name qual params (bodyX x fl p0 p1 p2 p3 p4 p5 p6 p7 p8 p9) scope dV kV doc pm an (.ref cda) ct cc) args [("self", .ref e), (x, v)])
    (hpar : (params.posonlyargs ++ params.args).head? = some ar) (har : ar.arg = "self") (hcode : K.lookup cda = some ⟨ccl, cdd, .fields vs, ccs⟩) (hvs : vs[2]? = some (.str file tf)) (hfile : ((prog.main.file : Str) == file) = true)
    (hcell : K.lookup cc = some ⟨cl, cld, .cell (some (.ref C)), csl⟩) (hC : clsIn K C = some cd) (hmro : HandSPX.refsVE cd.mro = true) (hhd : cd.hasDict = true) (hsub : mroIn K C (.ref C) = some true) (hsuper : mg "super" = none) (htop : (prog.main.scope.names.lookup ("super" : Str)).isSome = false)
    (hopq : nsIn K cStatics "thirdparty.any" = some none) (hm : ks_superIn K C C "__init__" = some (some (.builtin "ValueError.__init__"))) (hB : subIn K (.ref C) (.type "ValueError") = some true)
    (hini : excInitIn K C bm "ValueError.__new__" = true) (FB : ExcBaseFacts "ValueError" "ValueError.__new__" "ValueError.__init__" bm)
    (hsa : findIn K (.ref C) "__setattr__" = some (some (.builtin "object.__setattr__"))) (hfl : findIn K (.ref C) fl = some none)
    (n1 : scope.names.lookup ("super" : Str) = some .globalImplicit) (n2 : scope.names.lookup ("__class__" : Str) = some .free) (n3 : scope.names.lookup ("self" : Str) = some .local) (n4 : scope.names.lookup x = some .local) (hne : x ≠ "self") (hdb : (x == ("__debug__" : Str)) = false)
    (hnc : ∀ x ∈ scope.names, x.2 ≠ .cell) (hco : scope.isCoroutine = false) (hgen : scope.isGenerator = false) (hk : scope.kind = .function)
    (hE : ∀ L, eval (.Call (.Attribute (.Call (.Name "super" p0) [] [] p1) "__init__" p2) [.Name x p3] [] p4) (ksEnv qual scope L f (.ref cda) cc) = (do
      let ov ← attributeBase (.Call (.Name "super" p0) [] [] p1) "__init__" (ksEnv qual scope L f (.ref cda) cc) (eval (.Call (.Name "super" p0) [] [] p1) (ksEnv qual scope L f (.ref cda) cc))
      standAt p2.atName
      let (fn, first) ← holding [ov] (getMethod ov "__init__" pl)
      callWith p4 fn first (backTo p4 (starEach [.Name x p3] (ksEnv qual scope L f (.ref cda) cc))) []))
    (he : s.heap.get? e = some (HandSPX.excO C t0)) (hKe : ∀ b o, K.lookup b = some o → b ≠ e)
    (hq : ∀ h' tk' dx t1, (∀ b o, b ≠ e → s.heap.get? b = some o → h'.get? b = some o) → s.heap.objs.size ≤ dx → s.heap.objs.size ≤ t1 → dx ≠ t1 → h'.get? e = some ({ cls := .ref C, dict := some dx, data := .fields #[.ref t1, .none, .none, .none, .bool false, .none] } : Obj) →
      h'.Ns1 dx (fun y => if y = fl then some v else none) → h'.get? t1 = some (excTup [v]) → R (.ok (.ret .none)) { s with heap := h', toks := tk' }) :
    codeAny (model prog w) A (.call (.ref f) args) R s := by
  obtain ⟨mb, b1, b2⟩ := bl
  have lt : e < s.heap.objs.size := Heap.lt_size he
  refine ks_codeAny_call_defAt (binds := [("self", .ref e), (x, v)]) (body := bodyX x fl p0 p1 p2 p3 p4 p5 p6 p7 p8 p9) hroom (X _ _ ho) rfl lim (codeRec_of X hcd) rfl hbind hnc (fun y hy => ?_) (fun h₀ hns k => ?_) hco hgen hk
  · rcases List.mem_cons.mp hy with rfl | hy
    · exact n3
    · rcases List.mem_cons.mp hy with rfl | hy
      · exact n4
      · cases hy
  have X₀ : K.In h₀ := X.keeps k
  have he₀ := k _ _ he
  have lx : ([("self", (.ref e : Value)), (x, v)] : List (Str × Value)).reverse.lookup x = some v := by simp [List.lookup]
  have ls : ([("self", (.ref e : Value)), (x, v)] : List (Str × Value)).reverse.lookup ("self" : Str) = some (.ref e) := by
    have : (("self" : Str) == x) = false := by simpa using fun z => hne z.symm
    simp [List.lookup, this]
  obtain ⟨oD, hD1, hD2⟩ : ∃ oD, h₀.get? C = some oD ∧ oD.data = .cls cd := by
    unfold clsIn at hC
    split at hC
    · rename_i c d cd' sl ho
      cases hC
      exact ⟨_, X₀ _ _ ho, rfl⟩
    · cases hC
  obtain ⟨hp, g, d, t, os⟩ := s
  refine ks_wpAt_execs_cons ?_
  refine ks_wpAt_Expr_any ?_ (by show (scope.kind == _ && _) = false; rw [hk]; rfl) rfl
  refine ks_wpAt_MethodCall (pl := pl) ?_ (hE _)
  refine ks_wpAt_super_base (env := ksEnv qual scope hp.objs.size f (.ref cda) cc) n1 n2 rfl rfl (X₀ _ _ ho) rfl hpar rfl (X₀ _ _ hcode) rfl hvs hfile htop ?_
  refine ks_loadName_global hk n1 (Calls.loadGlobal_builtin (env := ksEnv qual scope hp.objs.size f (.ref cda) cc) (gl.keeps k) hsuper (b1.keeps k) ((b2 _ (by decide)).trans (by first | boot_by_name | rfl | kernel_rfl)) ⟨rfl, ?_⟩)
  refine wpAny_loadName_free hk n2 rfl ⟨_, X₀ _ _ hcell, rfl⟩ ?_
  refine wpAny_loadName_local hk (by rw [har]; exact n3) hns (by rw [har]; exact ls) ?_
  refine ks_wpAny_isType_cls hD1 hD2 ⟨rfl, ?_⟩
  refine ks_wpAny_call_super hD1 hD2 he₀ rfl (fun c z => nomatch z) (looks_mroIn X₀ hsub) (fun h1 so k1 => ?_)
  have X1 : K.In h1 := X₀.keeps k1
  have he1 := k1 _ _ he₀
  have I1 : InstAt h1 e (HandSPX.excO C t0) C none := ⟨he1, rfl, rfl, trivial⟩
  have nCe : e ≠ C := ks_ne X1 I1 hC
  refine kxs_getMethod kxs_ValueError so (looks_opaque X1 hopq) (l₀ := cd.mro) (fun A Q E s k q => wpAny_bind ((looks_clsIn X1 hC) A _ E s k (wpAny_pure q))) rfl X1 (by unfold ks_superIn at hm; rw [hC] at hm; exact hm) (I1.type.andThen (looks_subIn X1 hB)) nCe rfl ?_
  have hns1 : (h1.push (kxs_mw "ValueError.__init__" e)).Ns hp.objs.size (fun y => ([("self", (.ref e : Value)), (x, v)] : List (Str × Value)).reverse.lookup y) := by
    obtain ⟨oL, es, ep, hL, r⟩ := hns
    exact ⟨oL, es, ep, Heap.get?_push_of_some _ (k1 _ _ hL), r⟩
  refine kxs_callWith (i := "ValueError.__init__") (x := e) (by rfl) (evalArgs_plain (Calls.spliced_cons (wpAny_Name (wpAny_loadName_local hk n4 hns1 lx ?_) hdb)))
  refine Calls.spliced_nil ⟨Heap.get?_push_at rfl rfl, ?_⟩
  obtain ⟨nm, N', qn, bs, bm', hdct, sn, sub, ab, col, dd, k0, k1', k2, k3, k5, hCo, hT⟩ := excInit_of (X1.keeps (h' := h1.push (kxs_mw "ValueError.__init__" e)) fun b o z => Heap.get?_push_of_some _ z) hini
  have he2 : (h1.push (kxs_mw "ValueError.__init__" e)).get? e = some (excObj C t0 none .none) := Heap.get?_push_of_some _ he1
  refine wpAny_call (codeAny_of_tree ?_)
  show wpAny _ _ (callAny (.ref h1.objs.size) ⟨[v], []⟩) _ _ _
  simp only [callAny]
  refine wpAny_bind (wpAny_load (Heap.get?_push_at rfl rfl) ?_)
  simp only [kxs_mw, show (Value.type "method-wrapper" == Value.type "method" || Value.type "method-wrapper" == Value.type "builtin_function_or_method" || Value.type "method-wrapper" == Value.type "method-wrapper") = true by decide, if_true]
  refine KFB.if_so (by decide) ?_
  refine wpAny_bind (check_bound_init FB.toExcCallFacts hCo he2 rfl ?_)
  refine wpAny_bind (wpAny_pure (wpAny_pure ?_))
  refine ⟨plainId_quiet FB.init.plain _, codeAny_builtin FB.initEntry ?_⟩
  refine exc_init_tree (cls := .ref C) (t0 := t0) (dv := none) (c2 := .none) (c3 := .none) (b4 := .bool false) he2 (by show 1 ≤ sizeLine; rw [sizeLine_eq]; omega) (fun h3 k3 e3 t3 => ?_)
  have X3 : K.In h3 := fun b o z => k3 b o (hKe b o z) (Heap.get?_push_of_some _ (X1 b o z))
  have Le : hp.objs.size ≠ e := Nat.ne_of_gt lt
  have hns3 : h3.Ns hp.objs.size (fun y => ([("self", (.ref e : Value)), (x, v)] : List (Str × Value)).reverse.lookup y) := by
    obtain ⟨oL, es, ep, hL, r⟩ := hns1
    exact ⟨oL, es, ep, k3 _ _ Le hL, r⟩
  refine ks_wpAt_execs_cons ?_
  refine ks_wpAt_Assign_Attr (wpAt_of_wpAny (wpAny_Name (wpAny_loadName_local hk n4 hns3 lx (wpAny_Name (wpAny_loadName_local hk n3 hns3 ls ?_) rfl)) hdb)) rfl
  refine set_plain X3 (ox := { cls := .ref C, dict := none, data := .fields #[.ref (h1.push (kxs_mw "ValueError.__init__" e)).objs.size, .none, .none, .none, .bool false, .none] }) (od := none) ⟨e3, rfl, rfl, trivial⟩ hsa ?_
  refine HandSPX.exc_osa X3 e3 hC hmro hhd hfl (fun h' tk' dx k4 dn dne hx hn => ?_)
  refine wpAt_of_wpAny (wpAny_execs_nil ?_)
  have z0 : hp.objs.size < h₀.objs.size := by
    obtain ⟨oL, es, ep, hL, r⟩ := hns
    exact Heap.lt_size hL
  have z1 : h₀.objs.size < h1.objs.size := Heap.lt_size so
  have lt' : e < hp.objs.size := lt
  have dn' : h3.objs.size ≤ dx := dn
  have s1 : h1.objs.size < (h1.push (kxs_mw "ValueError.__init__" e)).objs.size := by rw [Heap.size_push]; omega
  have s3 : (h1.push (kxs_mw "ValueError.__init__" e)).objs.size < h3.objs.size := Heap.lt_size t3
  have nt : (h1.push (kxs_mw "ValueError.__init__" e)).objs.size ≠ e := Nat.ne_of_gt (Nat.lt_trans (show e < hp.objs.size from lt') (by omega))
  exact hq h' _ dx (h1.push (kxs_mw "ValueError.__init__" e)).objs.size (fun b o hb z => k4 b o hb (k3 b o hb (Heap.get?_push_of_some _ (k1 _ _ (k _ _ z))))) (show hp.objs.size ≤ dx from Nat.le_trans (by omega) dn') (show hp.objs.size ≤ (h1.push (kxs_mw "ValueError.__init__" e)).objs.size by omega) (Nat.ne_of_gt (Nat.lt_of_lt_of_le s3 dn')) hx hn (k4 _ _ nt t3)
end
end VL
set_option maxHeartbeats 2000000
/-! EX2: .. as a promise of the def; C(e) and C(x=e) as values. -/
namespace VL
open PySem PySem.Spec PyProof.Rows L2
/-- what the written part says of such a class C, whose __init__ is the def at f -/
structure SupI (P : Program) (K : PySem.W.Frag) (mg : Str → Option Value) (C f : Addr) (fd : FuncData) (st : Stmt) (qual x fl : Str) : Prop where
  fn : ∃ (oc : Value) (od : Option Addr) (kV doc pm : Value) (an : Option Addr) (cda : Addr) (ct : Value) (cc : Addr) (osl : Array (Option Value)) (ccl : Value) (cdd : Option Addr) (vs : Array Value) (ccs : Array (Option Value)) (file : Str) (tf : Tok) (cl : Value) (cld : Option Addr) (csl : Array (Option Value)) (p0 p1 p2 p3 p4 p5 p6 p7 p8 p9 : Pos) (pl : Sem Bool) (ar : Arg),
    fd = PySem.W.ksFn "__init__" qual (defArgs st) (bodyX x fl p0 p1 p2 p3 p4 p5 p6 p7 p8 p9) (defScope st) .none kV doc pm an (.ref cda) ct cc ∧ K.lookup f = some ⟨oc, od, .func fd, osl⟩ ∧ PySem.W.codeIn K (.ref cda) qual = true ∧
    K.lookup cda = some ⟨ccl, cdd, .fields vs, ccs⟩ ∧ vs[2]? = some (.str file tf) ∧ ((P.main.file : Str) == file) = true ∧ K.lookup cc = some ⟨cl, cld, .cell (some (.ref C)), csl⟩ ∧
    (((defArgs st).posonlyargs ++ (defArgs st).args).head? = some ar ∧ ar.arg = "self") ∧
    ∀ L, eval (.Call (.Attribute (.Call (.Name "super" p0) [] [] p1) "__init__" p2) [.Name x p3] [] p4) (PySem.W.ksEnv qual (defScope st) L f (.ref cda) cc) = (do
      let ov ← attributeBase (.Call (.Name "super" p0) [] [] p1) "__init__" (PySem.W.ksEnv qual (defScope st) L f (.ref cda) cc) (eval (.Call (.Name "super" p0) [] [] p1) (PySem.W.ksEnv qual (defScope st) L f (.ref cda) cc))
      standAt p2.atName
      let (fn, first) ← holding [ov] (getMethod ov "__init__" pl)
      callWith p4 fn first (backTo p4 (starEach [.Name x p3] (PySem.W.ksEnv qual (defScope st) L f (.ref cda) cc))) [])
  cls : ∃ cd bm, PySem.W.clsIn K C = some cd ∧ PySem.HandSPX.refsVE cd.mro = true ∧ cd.hasDict = true ∧ PySem.W.excInitIn K C bm "ValueError.__new__" = true ∧ ExcBaseFacts "ValueError" "ValueError.__new__" "ValueError.__init__" bm
  sub : PySem.W.mroIn K C (.ref C) = some true
  sup : mg "super" = none
  top : (P.main.scope.names.lookup ("super" : Str)).isSome = false
  opq : PySem.W.nsIn K cStatics "thirdparty.any" = some none
  sm : PySem.W.ks_superIn K C C "__init__" = some (some (.builtin "ValueError.__init__"))
  sB : PySem.W.subIn K (.ref C) (.type "ValueError") = some true
  sa : PySem.W.findIn K (.ref C) "__setattr__" = some (some (.builtin "object.__setattr__"))
  fno : PySem.W.findIn K (.ref C) fl = some none
structure SupS (sc : Scope) (x : Str) : Prop where
  n1 : sc.names.lookup ("super" : Str) = some .globalImplicit
  n2 : sc.names.lookup ("__class__" : Str) = some .free
  n3 : sc.names.lookup ("self" : Str) = some .local
  n4 : sc.names.lookup x = some .local
  hne : x ≠ "self"
  hdb : (x == ("__debug__" : Str)) = false
  hnc : ∀ x ∈ sc.names, x.2 ≠ .cell
  hco : sc.isCoroutine = false
  hgen : sc.isGenerator = false
  hk : sc.kind = .function
def spX (C : Addr) (fl : Str) : Sp := fun vs H Q _ => ∃ a v, vs = [.ref a, v] ∧ H a = some (exo a C none) ∧ ∀ dx, H dx = none → dx ≠ a → Q .non (upd (upd H dx (exd dx [(fl, v)])) a (exo a C (some dx)))
theorem fnG_sup {P : Program} {w : World} {K : PySem.W.Frag} {mg : Str → Option Value} {base : Heap} {C f : Addr} {fd : FuncData} {st : Stmt} {qual x fl : Str} (T : SupI P K mg C f fd st qual x fl) (S : SupS (defScope st) x) :
    FnG P w K mg base 1 f fd ["self", x] (spX C fl) := by
  refine ⟨fun vs H Q E h => ?_, ?_⟩
  · obtain ⟨a, v, rfl, _⟩ := h; rfl
  intro B below t J as us vs R E rg e0 hb rv hsp
  obtain ⟨a, v, rfl, ea, q⟩ := hsp
  obtain ⟨oc, od, kV, doc, pm, an, cda, ct, cc, osl, ccl, cdd, vs, ccs, file, tf, cl, cld, csl, p0, p1, p2, p3, p4, p5, p6, p7, p8, p9, pl, ar, rfl, lk, cd, lcd, hvs, hfile, lcc, ⟨hpar, har⟩, hE⟩ := T.fn
  obtain ⟨cdt, bm, hC, hmro, hhd, hini, FB⟩ := T.cls
  have KX : K.In t.heap := e0.mod.kin.keeps fun b o q => (e0.bs b o q).1
  have bk : ∀ b o, base.get? b = some o → t.heap.get? b = some o := fun b o q => (e0.bs b o q).1
  have lim : t.heap.NoLimit := e0.mod.nolimit.keeps bk
  obtain ⟨mb, b1, b2⟩ := e0.mod.blt
  obtain ⟨t1, ho⟩ := exo_at e0.hok ea
  cases rv with
  | @cons _ u0 _ ur ra rw' =>
    obtain rfl : u0 = Value.ref a := ra
    cases rw' with
    | @cons _ u1 _ _ r1 rn =>
      cases rn
      refine sup_code (mg := mg) (t0 := t1) (e := a) (v := u1) rg.room.depth KX lim (e0.mod.glob.keeps bk) ⟨mb, b1.keeps bk, b2⟩ lk cd hb hpar har lcd hvs hfile lcc hC hmro hhd T.sub T.sup T.top T.opq T.sm T.sB hini FB T.sa T.fno S.n1 S.n2 S.n3 S.n4 S.hne S.hdb S.hnc S.hco S.hgen S.hk hE ho (fun b o e z => ?_) (fun h' tk' dx t2 k dn _ _ hx hn _ => ?_)
      · subst z
        have := (e0.bs _ _ (e0.mod.kin _ _ e)).2
        rw [ea] at this; cases this
      have hnd : J dx = none := e0.hok.fresh dn
      have nd : ∀ {b : Addr} {o : Obj}, t.heap.get? b = some o → b ≠ dx := fun {b o} q => Nat.ne_of_lt (Nat.lt_of_lt_of_le (Heap.lt_size q) dn)
      have na : ∀ {b : Addr}, J b = none → b ≠ a := fun {b} n z => by
        rw [z, ea] at n
        cases n
      have dne : dx ≠ a := na hnd
      have Un1 : Un (frs below) [] J (upd (upd J dx (exd dx [(fl, v)])) a (exo a C (some dx))) t.heap h' := {
        keep := fun b o q n _ _ => k b o (na n) q
        slot := fun b o q n _ _ => ⟨o.slots, k b o (na n) q⟩
        free := fun b o q n _ => by rw [upd_ne (na n), upd_ne (nd q)]; exact n
        there := fun b o q _ => by
          by_cases hb : b = a
          · exact ⟨_, by rw [hb]; exact hx⟩
          · exact ⟨o, k b o hb q⟩
        tups := fun b xs q => by rw [upd_ne (at_ne ea q exo_tup), upd_ne (ne_of_none q hnd)]; exact q
        frzs := fun b o v q => by rw [upd_ne (at_ne ea q exo_frz), upd_ne (ne_of_none q hnd)]; exact q
        tbls := fun b ps q => ⟨#[], by rw [upd_ne (at_ne ea q exo_tbl), upd_ne (ne_of_none q hnd), q]; simp⟩ }
      refine ⟨.non, _, rfl, e0.bare, Un1, fun b o q' => ?_, rfl, q dx hnd dne⟩
      by_cases hb : b = a
      · subst hb
        rw [upd_same] at q'
        cases q'
        exact exo_ok hx
      · rw [upd_ne hb] at q'
        by_cases hd : b = dx
        · subst hd
          rw [upd_same] at q'
          cases q'
          exact exd_ok hn (relO_put (fs := []) r1 fun g => True.intro)
        · rw [upd_ne hd] at q'
          exact (e0.hok b o q').stay (fun c v hc z => k c v (by
              rcases hc with hc | hc
              · rw [hc]
                exact hb
              · exact at_ne ea hc exo_own) z)
            (fun c hc => by rw [upd_ne (at_ne ea hc exo_own), upd_ne (ne_of_none hc hnd)]; exact hc) (fun c xs hc => by rw [upd_ne (at_ne ea hc exo_tup), upd_ne (ne_of_none hc hnd)]; exact hc)
end VL
set_option maxHeartbeats 2000000
/-! EX3: C(x=u) of an own exception class: made without arguments, then the own __init__ by keyword. -/
namespace VL
open PySem PySem.HandSPX
open Builtin Builtin.ObjectAttr
section
variable {M : Model} {A : Around} {E : Value → Shared → Prop} {h : Heap} {g : Array GenState} {d : Drawn} {t : Nat} {os : OsState}
variable {nm q : Str} {C N : Addr} {bs bm bmB : List Value} {hdct : Bool} {sn : List Str} {sub : List Value} {ab : Bool} {col : Option Bool} {dd : Option Addr} {k0 k1 k2 k3 k5 : Option Value} {B newId initId : String} {kn : Str} {kv : Value}
theorem check_new_kw (F : ExcBaseFacts B newId initId bmB) (hT : ∀ X : String, bm.contains (.type X) = bmB.contains (.type X)) {Q : Unit → Shared → Prop}
    (hC : h.get? C = some (excClassObj nm q C N bs bm hdct sn sub ab col dd k0 k1 k2 k3 k5 newId)) (hq : Q () ⟨h, g, d, t, os⟩) : wpAny M A (checkBuiltinCall newId ⟨[.ref C], [(kn, kv)]⟩) Q E ⟨h, g, d, t, os⟩ := by
  have hcont : (Value.ref C :: bm).contains (.type B) = true := by rw [List.contains_cons, hT, F.hasB, Bool.or_true]
  have hstar := F.noStar
  simp only [checkBuiltinCall, F.newKind, F.newSplit, F.newRow]
  repeat (first | refine wpAny_loadPart_at hC ?_ | (refine wpAny_isSubtype_exc hC ?_; rw [hcont]) | refine wpAny_staticBase_exc hC ?_ | refine wpAny_madeBy_exc hC ?_ | simp only [bne_self_eq_false, Bool.false_eq_true, if_false] | wp_step)
  exact hq
end
section
variable {prog : Program} {w : World} {A : Around} {E : Value → Shared → Prop} {R : Result → Shared → Prop} {h : Heap} {g : Array GenState} {d : Drawn} {t : Nat} {os : OsState}
variable {nm q : Str} {C N : Addr} {bs bm bmB : List Value} {hdct : Bool} {sn : List Str} {sub : List Value} {ab : Bool} {col : Option Bool} {dd : Option Addr} {k0 k1 k2 k3 k5 : Option Value} {B newId initId : String} {kn : Str} {kv : Value}
theorem new_kw (F : ExcBaseFacts B newId initId bmB) (hT : ∀ X : String, bm.contains (.type X) = bmB.contains (.type X))
    (hC : h.get? C = some (excClassObj nm q C N bs bm hdct sn sub ab col dd k0 k1 k2 k3 k5 newId))
    (hq : R (.ok (.ret (.ref (h.objs.size + 1)))) ⟨(h.push { cls := .type "tuple", data := .seq ([] : List Value).toArray }).push
      { cls := .ref C, data := .fields #[.ref h.objs.size, .none, .none, .none, .bool false, .none] }, g, d, t, os⟩) :
    codeAny (model prog w) A (.builtin newId ⟨[.ref C], [(kn, kv)]⟩) R ⟨h, g, d, t, os⟩ := by
  have hends := F.ends
  have hcB : (Value.ref C :: bm).contains (.type B) = true := by rw [List.contains_cons, hT, F.hasB, Bool.or_true]
  have hcA : (Value.ref C :: bm).contains (.type "AttributeError") = false := by rw [List.contains_cons, hT, F.noAttr]; rfl
  have hcN : (Value.ref C :: bm).contains (.type "NameError") = false := by rw [List.contains_cons, hT, F.noName]; rfl
  refine codeAny_builtinAt F.entry ?_
  unfold Builtin.«BaseException.__new__»
  refine wpAt_bind ?_
  show wpAt _ _ _ (stack >>= _) _ _ _
  refine wpAt_bind (wpAt_stack fun p below => wpAt_of_wpAny ?_)
  wp_walk
  refine wpAt_of_wpAny ?_
  rw [F.owner]
  have hz : ([] : List Value).length ≤ sizeLine := by rw [sizeLine_eq]; exact Nat.zero_le _
  repeat (first | with_reducible refine wpAny_madeHere_exc F.canon hC ?_ | with_reducible refine wpAny_loadPart_at hC ?_ | (with_reducible refine wpAny_isSubtype_exc hC ?_; first | rw [hcB] | rw [hcA] | rw [hcN]) | wp_step)
  show R _ _
  rw [Heap.size_push]
  exact hq
theorem type_call_kw (F : ExcBaseFacts B newId initId bmB) (hT : ∀ X : String, bm.contains (.type X) = bmB.contains (.type X)) {fI : Addr} {Q : Fin → Shared → Prop}
    (hC : h.get? C = some (excClassObj nm q C N bs bm hdct sn sub ab col dd k0 k1 k2 k3 k5 newId))
    (hi : W.Looks (model prog w) h (typeLookup (.ref C) "__init__") (some (.ref fI))) (hb : ∀ self, W.Looks (model prog w) h (bindSpecial (.ref fI) self) (.ref fI, [self]))
    (hq : codeAny (model prog w) A (.call (.ref fI) ⟨[.ref (h.objs.size + 1)], [(kn, kv)]⟩)
      (fun r s' => match r with | .ok (.ret v) => v = .none ∧ Q (.done (.ret (.ref (h.objs.size + 1)))) s' | .ok _ => False | .error e => E e s')
      ⟨(h.push (W.kdv_tup [])).push (excO C h.objs.size), g, d, t, os⟩) :
    wpAny (model prog w) A (Builtin.«type.__call__» ⟨[.ref C], [(kn, kv)]⟩) Q E ⟨h, g, d, t, os⟩ := by
  repeat (first | with_reducible refine wpAny_loadPart_at hC ?_ | with_reducible refine wpAny_madeBy_exc hC ?_ | wp_step)
  refine codeAny_call_builtin_code (Code.quiet_builtin _ F.quiet) (check_new_kw F hT hC ?_)
  refine new_kw F hT hC ?_
  show wpAny _ _ _ _ _ _
  have k : ∀ b o, h.get? b = some o → ((h.push (W.kdv_tup [])).push (excO C h.objs.size)).get? b = some o := fun b o e => Heap.get?_push_of_some _ (Heap.get?_push_of_some _ e)
  have hC₁ := k _ _ hC
  have hget : ((h.push (W.kdv_tup [])).push (excO C h.objs.size)).get? (h.objs.size + 1) = some (excO C h.objs.size) := by heap_get
  have hcC : (Value.ref C :: bm).contains (.ref C) = true := by simp
  have i1 := hi.keeps k
  have b1 := (hb (.ref (h.objs.size + 1))).keeps k
  unfold isInstance
  repeat (first | with_reducible refine wpAny_loadPart_at hget ?_ | (with_reducible refine wpAny_isSubtype_exc hC₁ ?_; rw [hcC]) | wp_step)
  show wpAny _ _ (typeLookup (.ref C) _) _ _ _
  refine i1.at ?_
  refine wpAny_holding (wpAny_bind (b1.at ?_))
  refine wpAny_bind (wpAny_call (codeAny_mono hq fun r s' z => ?_))
  rcases r with e | (v | _ | _ | _) <;> first | exact z | exact z.elim | skip
  obtain ⟨rfl, z⟩ := z
  first
    | exact wpAny_pure (wpAny_pure z)
    | (wp_walk; exact z)
theorem call_kw (F : ExcBaseFacts B newId initId bmB) (hT : ∀ X : String, bm.contains (.type X) = bmB.contains (.type X)) {fI : Addr}
    (hC : h.get? C = some (excClassObj nm q C N bs bm hdct sn sub ab col dd k0 k1 k2 k3 k5 newId))
    (hi : W.Looks (model prog w) h (typeLookup (.ref C) "__init__") (some (.ref fI))) (hb : ∀ self, W.Looks (model prog w) h (bindSpecial (.ref fI) self) (.ref fI, [self]))
    (hq : codeAny (model prog w) (A.under (.builtin "type.__call__" ⟨[.ref C], [(kn, kv)]⟩)) (.call (.ref fI) ⟨[.ref (h.objs.size + 1)], [(kn, kv)]⟩) (W.InitBack (h.objs.size + 1) R)
      ⟨(h.push (W.kdv_tup [])).push (excO C h.objs.size), g, d, t, os⟩) :
    codeAny (model prog w) A (.call (.ref C) ⟨[], [(kn, kv)]⟩) R ⟨h, g, d, t, os⟩ := by
  have f1 := tc_lookup
  have f2 := tc_bind (.ref C)
  have hTy : (⟨h, g, d, t, os⟩ : Shared).TypeIs (.ref C) "type" := ⟨_, hC, rfl⟩
  refine codeAny_of_tree ?_
  show wpAny _ _ (callAny (.ref C) _) _ _ _
  repeat (any_goals (first | assumption | with_reducible refine wpAny_loadPart_at hC ?_ | wp_step))
  refine ⟨rfl, ?_⟩
  refine codeAny_call_builtin_at (Code.quiet_builtin _ (by decide +kernel)) entry_typeCall (wpAny_check_type_call_sub hC (type_call_kw F hT hC hi hb ?_))
  refine codeAny_mono hq fun r s' z => ?_
  rcases r with e | (v | _ | _ | _) <;> exact z
end
end VL
set_option maxHeartbeats 1000000
/-! VL33: exceptions as values: made, their fields, their class, their text. -/
namespace VL
open PySem PySem.Spec PyProof.Rows L2
theorem exv_ok {P : Program} {w : World} {H : Hp} {h : Heap} {a C dx : Addr} {oe : Obj} {vs : Array Value} (e : h.get? a = some oe) (z : Zc (.ref C) (some dx) oe) (d : oe.data = .fields vs) : ObjOk P w H h a (exv a C dx) :=
  ⟨⟨oe, vs, e, z, d⟩, ⟨oe, e⟩, fun _ _ ⟨o, v, q, r⟩ k => ⟨o, v, k o q, r⟩⟩
theorem exw_ok {P : Program} {w : World} {H : Hp} {h : Heap} {a C ta : Addr} {oe : Obj} {vs : Array Value} (e : h.get? a = some oe) (z : Zc (.ref C) none oe) (d : oe.data = .fields vs) (d0 : vs[0]? = some (.ref ta)) : ObjOk P w H h a (exw a C ta) :=
  ⟨⟨oe, vs, e, z, d, d0⟩, ⟨oe, e⟩, fun _ _ ⟨o, v, q, r⟩ k => ⟨o, v, k o q, r⟩⟩
/-- an exception class with such an __init__ -/
structure MkX (P : Program) (K : PySem.W.Frag) (mg : Str → Option Value) (C f : Addr) (fd : FuncData) (st : Stmt) (qual x fl : Str) : Prop where
  T : SupI P K mg C f fd st qual x fl
  S : SupS (defScope st) x
  iC : PySem.W.findIn K (.ref C) "__init__" = some (some (.ref f))
  tI : PySem.W.typeIn K (.ref f) = some (.type "function")
  kC : PySem.W.keepIn K (.ref C) = true
  b0 : Binds K fd ["self", x] []
  b1 : KB K fd ["self", x] [x] 1 [0, 1]
section
variable {X : Cx} {C f : Addr} {fd : FuncData} {st : Stmt} {qual x fl : Str}
theorem runX {pins : List (Addr × Obj)} {σ : St} {J : Hp} {t : Shared} {R : VK} {u : Value} {v : V} (M : MkX X.prog X.K X.mg C f fd st qual x fl) (rg : RoomG 2 X.A) (kw : Bool)
    (I : Inv X pins σ J t) (ru : RelV v u) (q : ∀ a dx, J a = none → J dx = none → dx ≠ a → R (.ref a) (upd (upd J dx (.xd [(fl, v)])) a (exv a C dx))) :
    wpAny (model X.prog X.w) X.A (PySem.call (.ref C) (if kw then [] else [u]) (if kw then [(x, u)] else [])) (EP X pins σ R) X.xe t := by
  obtain ⟨cd, bm, hC, hmro, hhd, hini, FB⟩ := M.T.cls
  obtain ⟨nm, N', qn, bs, bm', hdct, sn, sub, ab, col, dd, k0, k1, k2, k3, k5, hCo, hT⟩ := PySem.W.excInit_of I.kIn hini
  obtain ⟨hp, g, dr, tk, os⟩ := t
  have F := fnG_sup (w := X.w) (base := X.base) M.T M.S
  have hsz : hp.objs.size ≤ hp.objs.size + 1 := Nat.le_succ _
  have hn : J (hp.objs.size + 1) = none := I.hok.fresh hsz
  have kk : ∀ (us : List Value) b o, hp.get? b = some o → ((hp.push (PySem.W.kdv_tup us)).push (PySem.HandSPX.excO C hp.objs.size)).get? b = some o := fun us b o e => Heap.get?_push_of_some _ (Heap.get?_push_of_some _ e)
  have hget : ∀ us : List Value, ((hp.push (PySem.W.kdv_tup us)).push (PySem.HandSPX.excO C hp.objs.size)).get? (hp.objs.size + 1) = some (PySem.HandSPX.excO C hp.objs.size) := fun us => by heap_get
  have I2 : ∀ us : List Value, Inv X pins σ (upd J (hp.objs.size + 1) (exo (hp.objs.size + 1) C none)) ⟨(hp.push (PySem.W.kdv_tup us)).push (PySem.HandSPX.excO C hp.objs.size), g, dr, tk, os⟩ := fun us =>
    I.laid (t' := tk) (a := hp.objs.size + 1) (o := exo (hp.objs.size + 1) C none) (h' := (hp.push (PySem.W.kdv_tup us)).push (PySem.HandSPX.excO C hp.objs.size)) (kk us) hsz (exo_ok (hget us))
  have rv : Vals [V.ref (hp.objs.size + 1), v] [Value.ref (hp.objs.size + 1), u] := .cons rfl (.cons ru .nil)
  let Rx : VK := fun v' H2 => v' = .non ∧ ∃ dx, J dx = none ∧ dx ≠ hp.objs.size + 1 ∧ H2 = upd (upd (upd J (hp.objs.size + 1) (exo (hp.objs.size + 1) C none)) dx (exd dx [(fl, v)])) (hp.objs.size + 1) (exo (hp.objs.size + 1) C (some dx))
  have hsp : spX C fl [.ref (hp.objs.size + 1), v] (upd J (hp.objs.size + 1) (exo (hp.objs.size + 1) C none)) Rx (fun _ _ _ => False) := by
    refine ⟨_, _, rfl, upd_same, fun dx n ne => ⟨rfl, dx, ?_, ne, rfl⟩⟩
    rwa [upd_ne ne] at n
  have fin : ∀ (us : List Value) (r : Result) (t' : Shared), CR (L2.CX X.prog X.w) X.stack X.prog X.w (upd J (hp.objs.size + 1) (exo (hp.objs.size + 1) C none)) ⟨(hp.push (PySem.W.kdv_tup us)).push (PySem.HandSPX.excO C hp.objs.size), g, dr, tk, os⟩ Rx (fun _ _ _ => False) r t' →
      PySem.W.InitBack (hp.objs.size + 1) (fun r s' => match r with | .ok (.ret v) => EP X pins σ R v s' | .ok _ => False | .error e => X.xe e s') r t' := by
    intro us r t' hq
    match r, hq with
    | .error e, hq => obtain ⟨_, _, _, _, _, _, _, _, _, _, _, _, q⟩ := hq; exact False.elim q
    | .ok .next, hq => exact False.elim hq
    | .ok .brk, hq => exact False.elim hq
    | .ok .cont, hq => exact False.elim hq
    | .ok (.ret ur), hq =>
      obtain ⟨v', J', I3, rr, ev, dx, nd, ne, eJ⟩ := (I2 us).after hq
      subst ev
      subst eJ
      obtain ⟨t1, ho⟩ := exo_at I3.hok upd_same
      obtain ⟨mA, hns, rel⟩ := exd_at I3.hok (show _ = some (exd dx [(fl, v)]) by rw [upd_ne ne]; exact upd_same)
      have I4 := I3.write (t' := t'.toks) (h' := t'.heap) (x := dx) (e := dx) (o := .xd [(fl, v)]) (by rw [upd_ne ne, upd_same]; exact True.intro) (.inl rfl) (fun _ _ _ z => z) (by obtain ⟨o, _, _, z, _⟩ := hns; exact ⟨o, z⟩) ⟨mA, hns, rel⟩
      have I5 := I4.write (t' := t'.toks) (h' := t'.heap) (x := hp.objs.size + 1) (e := hp.objs.size + 1) (o := exv (hp.objs.size + 1) C dx) (by rw [upd_ne (Ne.symm ne), upd_same]; exact True.intro) (.inl rfl) (fun _ _ _ z => z) ⟨_, ho⟩ (exv_ok ho ⟨rfl, rfl⟩ rfl)
      refine ⟨rr, ⟨V.ref (hp.objs.size + 1), _, I5, rfl, ?_⟩⟩
      have := q (hp.objs.size + 1) dx hn nd ne
      refine cast (congrArg (R _) ?_) this
      funext b
      by_cases h1 : b = hp.objs.size + 1
      · subst h1; rw [upd_same, upd_same]
      · rw [upd_ne h1, upd_ne h1]
        by_cases h2 : b = dx
        · subst h2; rw [upd_same, upd_same]
        · rw [upd_ne h2, upd_ne h2, upd_ne h1, upd_ne h2, upd_ne h1]
  cases kw with
  | false =>
    have bd := M.b0 _ [Value.ref (hp.objs.size + 1), u] (I2 [u]).kIn rfl
    rw [List.append_nil] at bd
    refine wpAny_call (PySem.HandSPX.call_own FB hT hCo (PySem.W.looks_findIn I.kIn M.iC) (fun self => PySem.W.bind_fn I.kIn self M.tI) (by show 1 ≤ sizeLine; rw [sizeLine_eq]; omega) (codeAny_mono (F.go _ X.stack _ _ ⟨_, []⟩ _ _ _ (fun _ _ _ => False) ((rg.make C [u] [])) ((I2 [u]).env0.make C [u] []) bd rv hsp) (fin [u])))
  | true =>
    have bd := M.b1 _ [Value.ref (hp.objs.size + 1)] [u] (I2 []).kIn rfl rfl
    refine wpAny_call (VL.call_kw FB hT hCo (PySem.W.looks_findIn I.kIn M.iC) (fun self => PySem.W.bind_fn I.kIn self M.tI) (codeAny_mono (F.go _ X.stack _ _ ⟨_, _⟩ _ _ _ (fun _ _ _ => False) ((rg.make C [] [(x, u)])) ((I2 []).env0.make C [] [(x, u)]) bd rv hsp) (fin [])))
end

def tMkX (C : Addr) (fl : Str) (t : TA) : TE := fun σ H Q => t σ H fun vs H1 => ∃ v, vs = [v] ∧ ∀ a dx, H1 a = none → H1 dx = none → dx ≠ a → Q (.ref a) (upd (upd H1 dx (.xd [(fl, v)])) a (exv a C dx))
section
variable {X : Cx} {C f : Addr} {fd : FuncData} {st : Stmt} {qual x fl : Str}
/-- C(e) -/
theorem pe_mkX {n : Str} {p pos : Pos} {e : Expr} {t : TA} (M : MkX X.prog X.K X.mg C f fd st qual x fl) (rg : RoomG 2 X.A) (hg : Gl X n) (hm : X.mg n = some (.ref C)) (ha : PA X [e] t)
    (hdb : (n == ("__debug__" : Str)) = false := by decide) (he : starEach [e] X.env = (false, eval e X.env) :: starEach [] X.env := by rfl) (hpl : (backTo pos (starEach [] X.env)).any (·.1) = false := by rfl) :
    PE X (.Call (.Name n p) [e] [] pos) (tMkX C fl t) := by
  constructor
  intro pins t0 σ J R I h
  refine wpAny_Call_Name_kw (ld_glob I hg hm ?_ hdb)
  refine PySem.W.callWith_K (h₀ := X.base) I.ok.mod.kin M.kC (thn (ha.run pos pins t0 σ J _ I h) ?_) he hpl
  rintro us t1 ⟨vs, J1, I1, rv, v, rfl, q⟩
  cases rv with
  | cons ru rn =>
    cases rn
    exact ⟨I1.kIn, runX M rg false I1 ru q⟩
/-- C(x=e) -/
theorem pe_mkXK {n : Str} {p pos kp : Pos} {e : Expr} {t : TA} (M : MkX X.prog X.K X.mg C f fd st qual x fl) (rg : RoomG 2 X.A) (hg : Gl X n) (hm : X.mg n = some (.ref C)) (hkw : PK X [⟨some x, e, kp⟩] t)
    (hall : (backToKw pos (keywordEach [⟨some x, e, kp⟩] X.env)).all (·.1.isSome) = true := by rfl) (hks : (backToKw pos (keywordEach [⟨some x, e, kp⟩] X.env)).filterMap (·.1) = [x] := by rfl) (hdb : (n == ("__debug__" : Str)) = false := by decide)
    (hpl : ((backTo pos (starEach [] X.env)).any (·.1) || (backToKw pos (keywordEach [⟨some x, e, kp⟩] X.env)).any (·.1.isNone)) = false := by rfl) :
    PE X (.Call (.Name n p) [] [⟨some x, e, kp⟩] pos) (tMkX C fl t) := by
  constructor
  intro pins t0 σ J R I h
  refine wpAny_Call_Name_kw (ld_glob I hg hm ?_ hdb)
  refine PySem.W.callWith_KW0 (h₀ := X.base) I.ok.mod.kin M.kC hall (thn (hkw.run pos pins t0 σ J _ I h) ?_) hpl
  rintro ws t1 ⟨zs, J1, I1, rz, v, rfl, q⟩
  cases rz with
  | cons ru rn =>
    cases rn
    refine ⟨I1.kIn, ?_⟩
    rw [hks]
    exact runX M rg true I1 ru q
end
def xMkX (cn : Nat) (fl : Str) (f : AE) : EE := fun ρ => do
  let (l, ρ1) ← f ρ
  match l with
  | [(d, k)] => if fzAll [(d, k)] = true then .ok (.exc cn [(fl, d)], .fz, ρ1) else .bad
  | _ => .bad
theorem NewV.exc {G : Gm} {F : Addr → Prop} {H : Hp} {a dx C : Addr} {c : Nat} {fl : Str} {v : V} {d : D} (hd : DomF F H) (ha : H a = none) (hx : H dx = none) (ne : dx ≠ a) (hC : G.cm c = some C) (r : Rep G F H [v] [d]) :
    NewV G F H (fun b => F b ∨ b = a ∨ b = dx) (upd (upd H dx (.xd [(fl, v)])) a (exv a C dx)) (.ref a) (.exc c [(fl, d)]) .fz [] := by
  have kp : ∀ b o, H b = some o → upd (upd H dx (.xd [(fl, v)])) a (exv a C dx) b = some o := fun b o e => by rw [upd_ne (ne_of_none e ha), upd_ne (ne_of_none e hx)]; exact e
  have e1 : upd (upd H dx (.xd [(fl, v)])) a (exv a C dx) a = some (exv a C dx) := upd_same
  have e2 : upd (upd H dx (.xd [(fl, v)])) a (exv a C dx) dx = some (.xd [(fl, v)]) := by rw [upd_ne ne]; exact upd_same
  refine ⟨fun b f => ?_, fun _ h => .inl h, fun b h => ?_, kp, .fz (.exc (.inr (.inl rfl)) e1 (.inr (.inr rfl)) e2 hC rfl (r.keep (fun _ h => .inl h) fun b o _ e _ => kp b o e) .nil), rfl⟩
  · rcases f with f | rfl | rfl
    · obtain ⟨o, e, t⟩ := hd b f; exact ⟨o, kp b o e, t⟩
    · exact ⟨_, e1, rfl⟩
    · exact ⟨_, e2, rfl⟩
  · rcases h with h | rfl | rfl
    · exact .inl h
    · exact .inr ha
    · exact .inr hx
section
variable {X : Cx} {G : Gm} {W : WX} {C fa : Addr} {fd : FuncData} {st : Stmt} {qual x fl : Str} {cn : Nat}
theorem tS_mkX {s : Bool} {f : AE} (hC : G.cm cn = some C) {σ H Q} (h : tS G W s (xMkX cn fl f) σ H Q) : tMkX C fl (tA G W s f) σ H Q := by
  obtain ⟨x, rfl, rfl, hi, q⟩ := h
  refine ⟨x, rfl, rfl, hi, ?_⟩
  unfold xMkX at q
  cases h1 : f x.rho with
  | bad => simp only [h1, Res.bind_bad] at q
  | err c d ρ' => simp only [h1, Res.bind_err] at q; exact q
  | ok r1 =>
    obtain ⟨l, ρ1⟩ := r1
    simp only [h1, Res.bind_ok] at q
    intro y vs hρ iy ey ay
    cases l with
    | nil => exact q.elim
    | cons dk l =>
      obtain ⟨d, k⟩ := dk
      cases l with
      | cons _ _ => exact q.elim
      | nil =>
        by_cases hc : fzAll [(d, k)] = true
        · simp only [if_pos hc] at q
          obtain ⟨F', i', e', r⟩ := ay.frozen hi iy ey hc
          obtain ⟨v, ws, rfl, r1, r2⟩ := r.cons_of
          have := r2.nil_of
          subst this
          refine ⟨v, rfl, fun a dx ha hx ne => ?_⟩
          have P := EPost.after (y := { y with F := F' }) hi i' e' (NewV.exc (fl := fl) i'.dom ha hx ne hC r1)
          exact q { F := _, rho := y.rho, sg := y.sg, H := _, o := y.o, p := y.p, b := y.b } _ [] hρ P
        · simp only [if_neg hc] at q
theorem r_mkX {n : Str} {p pos : Pos} {e : Expr} {s : Bool} {f : AE} (M : MkX X.prog X.K X.mg C fa fd st qual x fl) (rg : RoomG 2 X.A) (hC : G.cm cn = some C) (hg : Gl X n) (hm : X.mg n = some (.ref C)) (ha : PA X [e] (tA G W s f))
    (hdb : (n == ("__debug__" : Str)) = false := by decide) (he : starEach [e] X.env = (false, eval e X.env) :: starEach [] X.env := by rfl) (hpl : (backTo pos (starEach [] X.env)).any (·.1) = false := by rfl) :
    PE X (.Call (.Name n p) [e] [] pos) (tS G W s (xMkX cn fl f)) := PE.of (pe_mkX M rg hg hm ha hdb he hpl) fun σ H Q h => tS_mkX hC h
theorem r_mkXK {n : Str} {p pos kp : Pos} {e : Expr} {s : Bool} {f : AE} (M : MkX X.prog X.K X.mg C fa fd st qual x fl) (rg : RoomG 2 X.A) (hC : G.cm cn = some C) (hg : Gl X n) (hm : X.mg n = some (.ref C)) (hkw : PK X [⟨some x, e, kp⟩] (tA G W s f))
    (hall : (backToKw pos (keywordEach [⟨some x, e, kp⟩] X.env)).all (·.1.isSome) = true := by rfl) (hks : (backToKw pos (keywordEach [⟨some x, e, kp⟩] X.env)).filterMap (·.1) = [x] := by rfl) (hdb : (n == ("__debug__" : Str)) = false := by decide)
    (hpl : ((backTo pos (starEach [] X.env)).any (·.1) || (backToKw pos (keywordEach [⟨some x, e, kp⟩] X.env)).any (·.1.isNone)) = false := by rfl) :
    PE X (.Call (.Name n p) [] [⟨some x, e, kp⟩] pos) (tS G W s (xMkX cn fl f)) := PE.of (pe_mkXK M rg hg hm hkw hall hks hdb hpl) fun σ H Q h => tS_mkX hC h
end
/-! ### e.f -/
def FldXOk (G : Gm) (cs : List Nat) (f : Str) : Prop := ∀ c ∈ cs, ∀ C, G.cm c = some C → ExcI G.K C ∧ PySem.W.findIn G.K (.ref C) f = some none
def dFldX (cs : List Nat) (f : Str) : D → Option (D × Kd)
  | .exc c es => if cs.contains c = true then (es.lookup f).map fun d => (d, .fz) else none
  | _ => none
theorem pe_fldX {X : Cx} {e : Expr} {te : TE} {pos : Pos} {n : Str} (he : PE X e te) (hb : attributeBase e n X.env (eval e X.env) = eval e X.env := by rfl) :
    PE X (.Attribute e n pos) (fun σ H Q => te σ H fun x H1 => ∃ a C dx ws v, x = .ref a ∧ H1 a = some (exv a C dx) ∧ H1 dx = some (.xd ws) ∧ ExcI X.K C ∧ PySem.W.findIn X.K (.ref C) n = some none ∧ ws.lookup n = some v ∧ Q v H1) := by
  refine ⟨fun pins s σ H Q I h => ?_⟩
  refine attr_of hb (thn (he.run pins s σ H _ I h) fun u s1 hh => ?_)
  obtain ⟨x, H1, I1, rx, a, C, dx, ws, v, ex, e1, e2, T, hno, l, q⟩ := hh
  subst ex
  obtain rfl : u = Value.ref a := rx
  obtain ⟨oe, od, mA, J, hns, hr, hl⟩ := exv_inst I1 e1 e2
  obtain ⟨u, hu, ru⟩ := RelO.some_of (v := v) (o := mA n) (by rw [← l]; exact hr n)
  exact HandSPX.exc_get I1.kIn J T.ga T.gg T.sb (PySem.W.findObj_own T.hd hno rfl (by rw [hl, hu])) (handed_of ru) ⟨v, H1, I1.tok _, ru, q⟩
section
variable {X : Cx} {G : Gm} {W : WX}
theorem r_fldX {e : Expr} {f : Str} {pos : Pos} {s : Bool} {g : EE} {cs : List Nat} (hK : X.K = G.K) (hf : FldXOk G cs f) (h : PE X e (tS G W s g)) (hb : attributeBase e f X.env (eval e X.env) = eval e X.env := by rfl) : PE X (.Attribute e f pos) (tS G W s (xAp1 (dFldX cs f) g)) :=
  PE.of (pe_fldX h hb) fun σ H Q q => tS_ap1 (r := fun x H1 Q => ∃ a C dx ws v, x = .ref a ∧ H1 a = some (exv a C dx) ∧ H1 dx = some (.xd ws) ∧ ExcI X.K C ∧ PySem.W.findIn X.K (.ref C) f = some none ∧ ws.lookup f = some v ∧ Q v H1) (fun F H v d fv d' k Q hd ha hg q => by
    cases d <;> simp only [dFldX] at hg <;> first | cases hg | skip
    case exc c es =>
      split at hg
      · rename_i hc
        simp only [Option.map_eq_some_iff, Prod.mk.injEq] at hg
        obtain ⟨d', e1, rfl, rfl⟩ := hg
        obtain ⟨a, C, dx, ws, rfl, h1, h1', h2, h3, h4⟩ := ha.exc_of
        obtain ⟨v, l, r⟩ := h4.lookup h3 e1
        obtain ⟨q1, q2⟩ := hf c (by simpa using hc) C h2
        rw [hK]
        exact ⟨a, C, dx, ws, v, rfl, h1, h1', q1, q2, l, q F H _ [] (.same hd r)⟩
      · cases hg) q
end
end VL
set_option maxHeartbeats 1000000
/-! VL34: exceptions without a field, made of a text; str; enumerate; isinstance facts. -/
namespace VL
open PySem PySem.Spec PyProof.Rows L2
section
variable {X : Cx} {pins : List (Addr × Obj)} {σ : St} {H : Hp} {s : Shared}
/-- two new objects laid and tracked -/
theorem Inv.laid2 {h' : Heap} {a b : Addr} {o u : HO} {t' : Nat} (I : Inv X pins σ H s) (k : ∀ c w, s.heap.get? c = some w → h'.get? c = some w) (ha : s.heap.get? a = none) (hb : s.heap.get? b = none) (na : H a = none) (nb : H b = none)
    (n1 : ObjOk X.prog X.w (upd (upd H b u) a o) h' a o) (n2 : ObjOk X.prog X.w (upd (upd H b u) a o) h' b u) : Inv X pins σ (upd (upd H b u) a o) { s with heap := h', toks := t' } := by
  have ne : ∀ {c w}, s.heap.get? c = some w → c ≠ a ∧ c ≠ b := fun {c w} q => ⟨fun z => (by rw [z, ha] at q; cases q), fun z => (by rw [z, hb] at q; cases q)⟩
  have ne' : ∀ {c w}, H c = some w → c ≠ a ∧ c ≠ b := fun {c w} q => ⟨ne_of_none q na, ne_of_none q nb⟩
  have up : ∀ {c w}, H c = some w → upd (upd H b u) a o c = some w := fun {c w} q => by rw [upd_ne (ne' q).1, upd_ne (ne' q).2]; exact q
  refine I.un ⟨fun c w q _ _ _ => k c w q, fun c w q _ _ _ => ⟨w.slots, k c w q⟩, fun c w q n _ => by rw [upd_ne (ne q).1, upd_ne (ne q).2]; exact n, fun c w q _ => ⟨w, k c w q⟩, fun c xs q => up q, fun c w xs q => up q, fun c ps q => ⟨#[], by rw [up q]; simp⟩⟩ fun c w e => ?_
  by_cases hc : c = a
  · subst hc; rw [upd_same] at e; cases e; exact n1
  · rw [upd_ne hc] at e
    by_cases hd : c = b
    · subst hd; rw [upd_same] at e; cases e; exact n2
    · rw [upd_ne hd] at e
      exact (I.hok c w e).stay (fun x v _ q => k x v q) (fun x q => up q) fun x xs q => up q
end
/-- an exception class without an own __init__ -/
structure MkS (K : PySem.W.Frag) (C : Addr) : Prop where
  q : ∃ bm newId initId, ExcBaseFacts "ValueError" newId initId bm ∧ PySem.W.excIn K C bm newId = true
  kC : PySem.W.keepIn K (.ref C) = true
def tMkS (C : Addr) (t : TE) : TE := fun σ H Q => t σ H fun v H1 => ∀ a ta, H1 a = none → H1 ta = none → ta ≠ a → Q (.ref a) (upd (upd H1 ta (.tup [v])) a (exw a C ta))
section
variable {X : Cx} {C : Addr}
theorem pe_mkS {n : Str} {p pos : Pos} {e : Expr} {t : TE} (M : MkS X.K C) (gC : X.mg n = some (.ref C)) (hg : Gl X n) (he : PE X e t)
    (hs : starEach [e] X.env = (false, eval e X.env) :: starEach [] X.env := by rfl) (hdb : (n == ("__debug__" : Str)) = false := by decide) :
    PE X (.Call (.Name n p) [e] [] pos) (tMkS C t) := by
  obtain ⟨bmB, newId, initId, F, q⟩ := M.q
  refine ⟨fun pins s σ H Q I h => ?_⟩
  refine wpAny_Call_Name_kw (ld_glob I hg gC ?_ hdb)
  refine PySem.W.callWith_K (h₀ := X.base) I.ok.mod.kin M.kC ?_ hs (by rfl)
  rw [hs]
  show wpAny _ _ (spliced ((false, eval e X.env) :: backTo pos (starEach [] X.env))) _ _ s
  refine Calls.spliced_cons (thn (he.run pins s σ H _ I h) fun u s1 ⟨v, H1, I1, r1, q1⟩ => ?_)
  refine Calls.spliced_nil ⟨I1.kIn, ?_⟩
  show wpAny _ _ (PySem.call (.ref C) [u]) _ _ _
  obtain ⟨bm, N, nm, qn, bs, hdct, sn, sub, ab, col, dd, k0, k1, k2, k3, k5, mN, hC, hN, hni, T⟩ := exc_obj I1.kIn q
  refine wpAny_call_exc_subT F T hC hN hni (fun h' a hm => ?_) (by show 1 ≤ sizeLine; rw [sizeLine_eq]; omega)
  obtain ⟨t, ht, tn, tt⟩ := hm.there
  have hn : H1 a = none := I1.hok.gone hm.new
  have hn2 : H1 t = none := I1.hok.gone tn
  have ne : t ≠ a := fun z => by
    rw [z, ht] at tt
    cases tt
  refine ⟨.ref a, upd (upd H1 t (.tup [v])) a (exw a C t), Inv.laid2 (t' := s1.toks) I1 hm.keeps hm.new tn hn hn2 (exw_ok ht ⟨rfl, rfl⟩ rfl rfl) ⟨by show 1 ≤ sizeLine; rw [sizeLine_eq]; omega, [u], .cons r1 .nil, _, tt, rfl, _, rfl⟩, rfl, q1 a t hn hn2 ne⟩
end
def xMkS (cn : Nat) (f : EE) : EE := fun ρ => do
  let (d, _, ρ1) ← f ρ
  match d with
  | .str x => .ok (.exs cn x, .fz, ρ1)
  | _ => .bad
theorem NewV.exs {G : Gm} {F : Addr → Prop} {H : Hp} {a ta C : Addr} {c : Nat} {x : Str} (hd : DomF F H) (ha : H a = none) (hx : H ta = none) (ne : ta ≠ a) (hC : G.cm c = some C) :
    NewV G F H (fun b => F b ∨ b = a ∨ b = ta) (upd (upd H ta (.tup [.str x])) a (exw a C ta)) (.ref a) (.exs c x) .fz [] := by
  have kp : ∀ b o, H b = some o → upd (upd H ta (.tup [.str x])) a (exw a C ta) b = some o := fun b o e => by rw [upd_ne (ne_of_none e ha), upd_ne (ne_of_none e hx)]; exact e
  have e1 : upd (upd H ta (.tup [.str x])) a (exw a C ta) a = some (exw a C ta) := upd_same
  have e2 : upd (upd H ta (.tup [.str x])) a (exw a C ta) ta = some (.tup [.str x]) := by rw [upd_ne ne]; exact upd_same
  refine ⟨fun b f => ?_, fun _ h => .inl h, fun b h => ?_, kp, .fz (.exs (.inr (.inl rfl)) e1 (.inr (.inr rfl)) e2 hC .nil), rfl⟩
  · rcases f with f | rfl | rfl
    · obtain ⟨o, e, t⟩ := hd b f; exact ⟨o, kp b o e, t⟩
    · exact ⟨_, e1, rfl⟩
    · exact ⟨_, e2, rfl⟩
  · rcases h with h | rfl | rfl
    · exact .inl h
    · exact .inr ha
    · exact .inr hx
section
variable {X : Cx} {G : Gm} {W : WX} {C : Addr} {cn : Nat}
theorem r_mkS {n : Str} {p pos : Pos} {e : Expr} {s : Bool} {f : EE} (M : MkS X.K C) (hC : G.cm cn = some C) (hg : Gl X n) (hm : X.mg n = some (.ref C)) (he : PE X e (tS G W s f))
    (hs : starEach [e] X.env = (false, eval e X.env) :: starEach [] X.env := by rfl) (hdb : (n == ("__debug__" : Str)) = false := by decide) :
    PE X (.Call (.Name n p) [e] [] pos) (tS G W s (xMkS cn f)) := PE.of (pe_mkS M hm hg he hs hdb) fun σ H Q h => by
  obtain ⟨x, rfl, rfl, hi, q⟩ := h
  refine ⟨x, rfl, rfl, hi, ?_⟩
  unfold xMkS at q
  cases h1 : f x.rho with
  | bad => simp only [h1, Res.bind_bad] at q
  | err c d ρ' => simp only [h1, Res.bind_err] at q; exact q
  | ok r1 =>
    obtain ⟨d, k, ρ1⟩ := r1
    simp only [h1, Res.bind_ok] at q
    intro y v fv hρ P a ta ha hx ne
    cases d <;> first | exact q.elim | skip
    case str t =>
      have := P.own.str_of
      subst this
      exact q { y with F := _, H := _ } _ [] hρ (EPost.after hi P.inv P.ext (NewV.exs P.inv.dom ha hx ne hC))
/-! ### str(x) -/
def StrXOk (G : Gm) (cs : List Nat) : Prop := ∀ c ∈ cs, ∀ C, G.cm c = some C → PySem.W.findIn G.K (.ref C) "__str__" = some (some (.builtin "BaseException.__str__")) ∧ PySem.W.subIn G.K (.ref C) (.type "BaseException") = some true
def dStr (cs : List Nat) : D → Option (D × Kd)
  | .str x => some (.str x, .fz)
  | .exs c x => if cs.contains c = true then some (.str x, .fz) else none
  | _ => none
def rStrX (K : PySem.W.Frag) : List V → Hp → VK → Prop := fun xs H Q => (∃ x, xs = [.str x] ∧ Q (.str x) H) ∨ ∃ a C ta x, xs = [.ref a] ∧ H a = some (exw a C ta) ∧ H ta = some (.tup [.str x]) ∧
  PySem.W.findIn K (.ref C) "__str__" = some (some (.builtin "BaseException.__str__")) ∧ PySem.W.subIn K (.ref C) (.type "BaseException") = some true ∧ Q (.str x) H
theorem call_strX (hu : X.A.units + 2 < cLine) : CallR X (.type "str") (rStrX X.K) := by
  intro pins s σ H xs us Q I r h
  rcases h with ⟨a, rfl, q⟩ | ⟨a, C, ta, x, rfl, e1, e2, hs, hB, q⟩
  · obtain ⟨u, rfl, t, rfl⟩ := vals1 r
    exact PySem.P.str_of_str ⟨.str a, H, I, ⟨t, rfl⟩, q⟩
  · obtain ⟨u, rfl, ru⟩ := vals1 r
    obtain rfl : u = Value.ref a := ru
    obtain ⟨oe, vs, h1, hz, hd, h0⟩ := exw_at I.hok e1
    obtain ⟨_, its, rv, o, g1, g2, n, g3⟩ := (show ObjOk X.prog X.w H s.heap ta (.tup [.str x]) from I.hok ta _ e2)
    cases rv with
    | cons r1 rn =>
      cases rn
      obtain ⟨t, rfl⟩ := r1
      exact PySem.P.str_of_C_one hu ⟨I.kIn, oe, vs, h1, hz.1, hd, h0⟩ ⟨o, n, g1, g2, g3⟩ hs hB ⟨.str x, H, I, ⟨t, rfl⟩, q⟩
theorem o_str {k : Nat} {cs : List Nat} (hr : RoomG k X.A) (hK : X.K = G.K) (ho : StrXOk G cs) : CallR X (.type "str") (rStrX X.K) ∧ FnD G (rStrX X.K) (f1 (dStr cs)) := ⟨call_strX (by have := hr.room.units; omega), by
  intro F H vs ds d k Q hd hr hg q
  obtain ⟨a, ea, hg'⟩ := f1_of hg
  clear hg
  subst ea
  have hg := hg'
  clear hg'
  obtain ⟨v, fp, rfl, w⟩ := hr.one
  unfold dStr at hg
  cases a <;> first | cases hg | skip
  case str x =>
    have := w.str_of
    subst this
    exact .inl ⟨_, rfl, q F H _ [] (.atom hd rfl)⟩
  case exs c x =>
    simp only at hg
    split at hg
    · rename_i hc
      cases hg
      obtain ⟨a, C, ta, rfl, h1, h2, h3⟩ := w.exs_of
      obtain ⟨q1, q2⟩ := ho c (by simpa using hc) C h3
      rw [hK]
      exact .inr ⟨a, C, ta, x, rfl, h1, h2, q1, q2, q F H _ [] (.atom hd rfl)⟩
    · cases hg⟩
end
end VL
set_option maxHeartbeats 1000000
/-! VL35: enumerate. -/
namespace VL
open PySem PySem.Spec PyProof.Rows L2
def enumFrom (i : Nat) : List D → List D
  | [] => []
  | d :: ds => .tup [.int (i : Int), d] :: enumFrom (i + 1) ds
theorem enumFrom_get : ∀ (ds : List D) (k i : Nat) (d : D), (enumFrom k ds)[i]? = some d → ∃ d0, ds[i]? = some d0 ∧ d = .tup [.int ((k + i : Nat) : Int), d0]
  | [], k, i, d, h => by simp [enumFrom] at h
  | x :: ds, k, 0, d, h => by simp [enumFrom] at h; exact ⟨x, rfl, h.symm⟩
  | x :: ds, k, i + 1, d, h => by
    simp only [enumFrom, List.getElem?_cons_succ] at h
    obtain ⟨d0, h1, h2⟩ := enumFrom_get ds (k + 1) i d h
    refine ⟨d0, by simpa using h1, ?_⟩
    rw [h2]; congr 4; omega
theorem enumFrom_len : ∀ (ds : List D) (k : Nat), (enumFrom k ds).length = ds.length
  | [], _ => rfl
  | _ :: ds, k => by simp [enumFrom, enumFrom_len ds (k + 1)]
def iEnumD (f : AE) : IE := fun ρ => do
  let (l, ρ1) ← f ρ
  match l with
  | [(.lst ds, k)] => pure (enumFrom 0 ds, decide (k = .br), ρ1)
  | _ => .bad
section
variable {X : Cx} {G : Gm} {W : WX}
theorem r_ienum {elts : List Expr} {kk : Nat} {tpos p pos : Pos} {e : Expr} {s : Bool} {f : AE} (hK : X.K = G.K) (hg : Gl X "enumerate") (hm : X.mg "enumerate" = none) (ha : PA X [e] (tA G W s f)) (hs : starEach [e] X.env = [(false, eval e X.env)] := by rfl) :
    PI X (.Tuple elts kk tpos) (.Call (.Name "enumerate" p) [e] [] pos) (tI G W s (iEnumD f)) := PI.of (pi_enum hg hm ha hs) fun σ H R ⟨x, e1, e2, hx, q⟩ => by
  subst e1 e2
  refine ⟨x, rfl, rfl, hx, ?_⟩
  unfold iEnumD at q
  cases h1 : f x.rho with
  | bad => simp only [h1, Res.bind_bad] at q
  | err c d ρ' => simp only [h1, Res.bind_err] at q; exact q
  | ok r =>
    obtain ⟨l, ρ1⟩ := r
    simp only [h1, Res.bind_ok] at q
    intro y vs hρ iy ey ay
    cases l with
    | nil => exact q.elim
    | cons dk l =>
      obtain ⟨d, k⟩ := dk
      cases l with
      | cons _ _ => cases d <;> exact q.elim
      | nil =>
        cases d <;> first | exact q.elim | skip
        case lst ds =>
          cases ay with
          | @cons v _ _ fv ws _ own kd src rest =>
            cases rest
            obtain ⟨a, zs, rfl, sq, hz, r, stay⟩ := own.lst_of X.K
            have av : fv = [] ∨ fv = [a] := by
              cases own with
              | fz _ => exact .inl rfl
              | ow _ _ => exact .inr rfl
            refine ⟨a, zs, rfl, sq, ?_⟩
            have wk : ∀ (y' : Stt), y'.H = y.H → (∀ b, y.F b → y'.F b) → ∀ br, (∀ w : Stt, SInv G w → (∀ b, y'.F b → w.F b) → KeptF y'.F y'.H w.H → (br = true → Kept [] y'.H w.H) → SqL X.K w.H a zs) → Walks G y' (Ite X.K a) (enumFrom 0 ds) br := by
              intro y' eH f0 br st w iw f1 kf kb i
              have sw := st w iw f1 kf kb
              have rw' : Rep G w.F w.H zs ds := r.keep (fun b h => f1 b (f0 b h)) (by rw [← eH]; exact fun b o hb e t => kf b o (f0 b hb) e t)
              refine ⟨fun d hd => ?_, fun hl => ⟨zs, sw, by rw [r.length, ← enumFrom_len ds 0]; exact hl⟩⟩
              obtain ⟨d0, hd0, rfl⟩ := enumFrom_get _ _ _ _ hd
              obtain ⟨u, hu, ru⟩ := rw'.get hd0
              refine ⟨⟨zs, u, sw, hu⟩, fun v H' yl => ?_⟩
              obtain ⟨T, x0, rfl, hT, rfl, yl⟩ := yl
              have := yl zs sw
              rw [hu] at this; cases this
              rw [Nat.zero_add]
              exact ⟨_, NewV.tup iw.dom hT (by show 2 ≤ sizeLine; rw [sizeLine_eq]; omega) (.atom rfl ru)⟩
            simp only [Res.pure_ok] at q
            cases k with
            | fz =>
              have hf : fv = [] := kd
              refine q y _ hρ iy ey (wk y rfl (fun _ h => h) _ fun w iw f1 kf kb => stay _ _ f1 kf (.inr (.inl hf)) fun _ n => absurd hf n)
            | br =>
              refine q y _ hρ iy ey (wk y rfl (fun _ h => h) _ fun w iw f1 kf kb => stay _ _ f1 kf (.inr (.inr (kb (by simp)))) fun fa n => ?_)
              have ha : a ∈ fv := by rcases av with z | z <;> simp_all
              obtain ⟨_, o, ho, ht⟩ := own.there a ha
              rw [ho]; exact kb (by simp) a o ho (by simp) ht
            | ow =>
              have hF := iy.freeze (fv := fv) fun b hb => ⟨(own.there b hb).2, (kd.2 b hb).2⟩
              have hE : Ext s x { y with F := fun b => y.F b ∨ b ∈ fv } := { ey with f1 := fun b h => .inl (ey.f1 b h), f2 := fun b h => h.elim (ey.f2 b) fun h => .inr (kd.2 b h).1 }
              refine q { y with F := fun b => y.F b ∨ b ∈ fv } _ hρ hF hE (wk { y with F := fun b => y.F b ∨ b ∈ fv } rfl (fun _ h => .inl h) _ fun w iw f1 kf kb => ?_)
              have ha : a ∈ fv := by
                have n := kd.1
                rcases av with z | z
                · exact absurd z n
                · simp [z]
              obtain ⟨_, o, ho, ht⟩ := own.there a ha
              have h' := kf a o (.inr ha) ho ht
              exact stay _ _ (fun b h => f1 b (.inl h)) (fun b o hb e t => kf b o (.inl hb) e t) (.inl (f1 a (.inr ha))) fun _ _ => by rw [h', ho]
end
def excI_mk {K : PySem.W.Frag} {C : Addr} (cl : PySem.W.hasDictIn K C = true) (ga : PySem.W.findIn K (.ref C) "__getattribute__" = some (some (.builtin "BaseException.__getattribute__"))) (gg : PySem.W.findIn K (.ref C) "__getattr__" = some none) (sb : PySem.W.subIn K (.ref C) (.type "BaseException") = some true)
    (ha : PySem.W.findIn K (.ref C) "__class__" = some (some (.builtin "object.__class__"))) (hn : PySem.W.specialIn K (.builtin "object.__class__") "__get__" = some (some (.builtin "getset_descriptor.__get__"))) (ht : PySem.W.takesIn K (.builtin "object.__class__") = some true) (hm : PySem.W.mroIn K C (.type "object") = some true) : ExcI K C :=
  ⟨by obtain ⟨cd, hc, _⟩ := PySem.W.any_some cl; rw [hc]; rfl, ga, gg, sb, cl, ha, hn, ht, hm⟩
theorem fldX_nil {G : Gm} {f : Str} : FldXOk G [] f := fun c hc => by simp at hc
theorem fldX_cons {G : Gm} {c : Nat} {C : Addr} {cs : List Nat} {f : Str} (hc : G.cm c = some C) (cl : ExcI G.K C) (na : PySem.W.findIn G.K (.ref C) f = some none) (h : FldXOk G cs f) : FldXOk G (c :: cs) f := fun c' hp C' hC => by
  rcases List.mem_cons.mp hp with e | hp
  · subst e
    rw [hc] at hC; cases hC; exact ⟨cl, na⟩
  · exact h c' hp C' hC
theorem strX_nil {G : Gm} : StrXOk G [] := fun c hc => by simp at hc
theorem strX_cons {G : Gm} {c : Nat} {C : Addr} {cs : List Nat} (hc : G.cm c = some C) (h1 : PySem.W.findIn G.K (.ref C) "__str__" = some (some (.builtin "BaseException.__str__"))) (h2 : PySem.W.subIn G.K (.ref C) (.type "BaseException") = some true) (h : StrXOk G cs) : StrXOk G (c :: cs) := fun c' hp C' hC => by
  rcases List.mem_cons.mp hp with e | hp
  · subst e
    rw [hc] at hC; cases hC; exact ⟨h1, h2⟩
  · exact h c' hp C' hC
end VL
set_option maxHeartbeats 1000000
/-! VL36: how the facts of exception classes are told. -/
namespace VL
open PySem PySem.Spec PyProof.Rows L2
def SupB (st : Stmt) (x fl : Str) : Prop := ∃ (p0 p1 p2 p3 p4 p5 p6 p7 p8 p9 : Pos) (pl : Sem Bool), defBody st = bodyX x fl p0 p1 p2 p3 p4 p5 p6 p7 p8 p9 ∧
  ∀ (qual : Str) (L f cda cc : Addr), eval (.Call (.Attribute (.Call (.Name "super" p0) [] [] p1) "__init__" p2) [.Name x p3] [] p4) (PySem.W.ksEnv qual (defScope st) L f (.ref cda) cc) = (do
      let ov ← attributeBase (.Call (.Name "super" p0) [] [] p1) "__init__" (PySem.W.ksEnv qual (defScope st) L f (.ref cda) cc) (eval (.Call (.Name "super" p0) [] [] p1) (PySem.W.ksEnv qual (defScope st) L f (.ref cda) cc))
      standAt p2.atName
      let (fn, first) ← holding [ov] (getMethod ov "__init__" pl)
      callWith p4 fn first (backTo p4 (starEach [.Name x p3] (PySem.W.ksEnv qual (defScope st) L f (.ref cda) cc))) [])
abbrev veBm : List Value := [.type "ValueError", .type "Exception", .type "BaseException", .type "object"]
theorem supI_mk {P : Program} {K : PySem.W.Frag} {mg : Str → Option Value} {C f : Addr} {st : Stmt} {qual x fl : Str} {oc : Value} {od : Option Addr} {kV doc pm : Value} {an : Option Addr} {cda : Addr} {ct : Value} {cc : Addr} {osl : Array (Option Value)} {ccl : Value} {cdd : Option Addr} {vs : Array Value} {ccs : Array (Option Value)} {file : Str} {tf : Tok} {cl : Value} {cld : Option Addr} {csl : Array (Option Value)} {ar : Arg} {cd : ClassData}
    (B : SupB st x fl) (l : K.lookup f = some ⟨oc, od, .func (PySem.W.ksFn "__init__" qual (defArgs st) (defBody st) (defScope st) .none kV doc pm an (.ref cda) ct cc), osl⟩) (c : PySem.W.codeIn K (.ref cda) qual = true) (lc : K.lookup cda = some ⟨ccl, cdd, .fields vs, ccs⟩) (hv : vs[2]? = some (.str file tf)) (hf : ((P.main.file : Str) == file) = true)
    (lcc : K.lookup cc = some ⟨cl, cld, .cell (some (.ref C)), csl⟩) (hp : ((defArgs st).posonlyargs ++ (defArgs st).args).head? = some ar) (hs : ar.arg = "self") (hC : PySem.W.clsIn K C = some cd) (hm : PySem.HandSPX.refsVE cd.mro = true) (hd : cd.hasDict = true) (hi : PySem.W.excInitIn K C veBm "ValueError.__new__" = true)
    (sub : PySem.W.mroIn K C (.ref C) = some true) (sup : mg "super" = none) (top : (P.main.scope.names.lookup ("super" : Str)).isSome = false) (opq : PySem.W.nsIn K cStatics "thirdparty.any" = some none) (sm : PySem.W.ks_superIn K C C "__init__" = some (some (.builtin "ValueError.__init__")))
    (sB : PySem.W.subIn K (.ref C) (.type "ValueError") = some true) (sa : PySem.W.findIn K (.ref C) "__setattr__" = some (some (.builtin "object.__setattr__"))) (fno : PySem.W.findIn K (.ref C) fl = some none) :
    SupI P K mg C f (PySem.W.ksFn "__init__" qual (defArgs st) (defBody st) (defScope st) .none kV doc pm an (.ref cda) ct cc) st qual x fl := by
  obtain ⟨p0, p1, p2, p3, p4, p5, p6, p7, p8, p9, pl, e, hE⟩ := B
  exact ⟨⟨oc, od, kV, doc, pm, an, cda, ct, cc, osl, ccl, cdd, vs, ccs, file, tf, cl, cld, csl, p0, p1, p2, p3, p4, p5, p6, p7, p8, p9, pl, ar, by rw [e], l, c, lc, hv, hf, lcc, ⟨hp, hs⟩, fun L => hE qual L f cda cc⟩, ⟨cd, veBm, hC, hm, hd, hi, PySem.F.excBase_ValueError⟩, sub, sup, top, opq, sm, sB, sa, fno⟩
theorem mkS_mk {K : PySem.W.Frag} {C : Addr} (q : PySem.W.excIn K C veBm "ValueError.__new__" = true) (k : PySem.W.keepIn K (.ref C) = true) : MkS K C := ⟨⟨veBm, _, _, PySem.F.excBase_ValueError, q⟩, k⟩
theorem kb_all {K : PySem.W.Frag} {fd : FuncData} {ps ks : List Str} {n : Nat} {perm : List Nat} (h : ∀ us ws : List Value, us.length = n → ws.length = ks.length → bindArgs fd ⟨us, ks.zip ws⟩ = pure (ps.zip (pick perm (us ++ ws)))) : KB K fd ps ks n perm := fun s us ws _ h1 h2 => .of_eq (h us ws h1 h2)
end VL
namespace Lk01
open PySem PySem.Spec PyProof.Rows L2 VL
def tab_BadCourse : List (Tag × Bool) := [(.exn 0, false), (.exn 1, false), (.exn 2, false), (.exn 3, false), (.exn 4, false), (.exn 5, false), (.exn 6, false), (.exn 7, false), (.exn 8, false), (.exn 9, true), (.exn 10, false), (.exn 11, false), (.exn 12, false), (.exn 13, false), (.exn 14, false)]
def tab_BadDeal : List (Tag × Bool) := [(.exn 0, false), (.exn 1, false), (.exn 2, false), (.exn 3, false), (.exn 4, false), (.exn 5, false), (.exn 6, false), (.exn 7, true), (.exn 8, false), (.exn 9, false), (.exn 10, false), (.exn 11, false), (.exn 12, false), (.exn 13, false), (.exn 14, false)]
def tab_BadJournal : List (Tag × Bool) := [(.exn 0, false), (.exn 1, false), (.exn 2, false), (.exn 3, false), (.exn 4, false), (.exn 5, false), (.exn 6, false), (.exn 7, false), (.exn 8, false), (.exn 9, false), (.exn 10, false), (.exn 11, false), (.exn 12, false), (.exn 13, true), (.exn 14, false)]
def tab_BadKeepers : List (Tag × Bool) := [(.exn 0, false), (.exn 1, false), (.exn 2, false), (.exn 3, false), (.exn 4, false), (.exn 5, true), (.exn 6, false), (.exn 7, false), (.exn 8, false), (.exn 9, false), (.exn 10, false), (.exn 11, false), (.exn 12, false), (.exn 13, false), (.exn 14, false)]
def tab_BadLaying : List (Tag × Bool) := [(.exn 0, false), (.exn 1, false), (.exn 2, false), (.exn 3, false), (.exn 4, false), (.exn 5, false), (.exn 6, true), (.exn 7, false), (.exn 8, false), (.exn 9, false), (.exn 10, false), (.exn 11, false), (.exn 12, false), (.exn 13, false), (.exn 14, false)]
def tab_BadLeaders : List (Tag × Bool) := [(.exn 0, false), (.exn 1, false), (.exn 2, false), (.exn 3, false), (.exn 4, true), (.exn 5, false), (.exn 6, false), (.exn 7, false), (.exn 8, false), (.exn 9, false), (.exn 10, false), (.exn 11, false), (.exn 12, false), (.exn 13, false), (.exn 14, false)]
def tab_BadNumber : List (Tag × Bool) := [(.exn 0, false), (.exn 1, false), (.exn 2, false), (.exn 3, false), (.exn 4, false), (.exn 5, false), (.exn 6, false), (.exn 7, false), (.exn 8, true), (.exn 9, false), (.exn 10, false), (.exn 11, false), (.exn 12, false), (.exn 13, false), (.exn 14, false)]
def tab_BadRule : List (Tag × Bool) := [(.exn 0, false), (.exn 1, false), (.exn 2, false), (.exn 3, false), (.exn 4, false), (.exn 5, false), (.exn 6, false), (.exn 7, false), (.exn 8, false), (.exn 9, false), (.exn 10, true), (.exn 11, false), (.exn 12, false), (.exn 13, false), (.exn 14, false)]
def tab_BadText : List (Tag × Bool) := [(.exn 0, false), (.exn 1, false), (.exn 2, false), (.exn 3, false), (.exn 4, false), (.exn 5, false), (.exn 6, false), (.exn 7, false), (.exn 8, false), (.exn 9, false), (.exn 10, false), (.exn 11, false), (.exn 12, false), (.exn 13, false), (.exn 14, true)]
def tab_BadWeb : List (Tag × Bool) := [(.exn 0, false), (.exn 1, true), (.exn 2, false), (.exn 3, false), (.exn 4, false), (.exn 5, false), (.exn 6, false), (.exn 7, false), (.exn 8, false), (.exn 9, false), (.exn 10, false), (.exn 11, false), (.exn 12, false), (.exn 13, false), (.exn 14, false)]
def tab_LockError : List (Tag × Bool) := [(.exn 0, true), (.exn 1, true), (.exn 2, true), (.exn 3, true), (.exn 4, true), (.exn 5, true), (.exn 6, true), (.exn 7, true), (.exn 8, true), (.exn 9, true), (.exn 10, true), (.exn 11, true), (.exn 12, true), (.exn 13, true), (.exn 14, true)]
def tab_NoHanding : List (Tag × Bool) := [(.exn 0, false), (.exn 1, false), (.exn 2, false), (.exn 3, true), (.exn 4, false), (.exn 5, false), (.exn 6, false), (.exn 7, false), (.exn 8, false), (.exn 9, false), (.exn 10, false), (.exn 11, false), (.exn 12, false), (.exn 13, false), (.exn 14, false)]
def tab_NoParty : List (Tag × Bool) := [(.exn 0, false), (.exn 1, false), (.exn 2, true), (.exn 3, false), (.exn 4, false), (.exn 5, false), (.exn 6, false), (.exn 7, false), (.exn 8, false), (.exn 9, false), (.exn 10, false), (.exn 11, false), (.exn 12, false), (.exn 13, false), (.exn 14, false)]
def tab_NotNow : List (Tag × Bool) := [(.exn 0, false), (.exn 1, false), (.exn 2, false), (.exn 3, false), (.exn 4, false), (.exn 5, false), (.exn 6, false), (.exn 7, false), (.exn 8, false), (.exn 9, false), (.exn 10, false), (.exn 11, true), (.exn 12, false), (.exn 13, false), (.exn 14, false)]
def tab_NothingDone : List (Tag × Bool) := [(.exn 0, false), (.exn 1, false), (.exn 2, false), (.exn 3, false), (.exn 4, false), (.exn 5, false), (.exn 6, false), (.exn 7, false), (.exn 8, false), (.exn 9, false), (.exn 10, false), (.exn 11, false), (.exn 12, true), (.exn 13, false), (.exn 14, false)]
def tab_ValueError : List (Tag × Bool) := [(.exn 0, true), (.exn 1, true), (.exn 2, true), (.exn 3, true), (.exn 4, true), (.exn 5, true), (.exn 6, true), (.exn 7, true), (.exn 8, true), (.exn 9, true), (.exn 10, true), (.exn 11, true), (.exn 12, true), (.exn 13, true), (.exn 14, true)]
def m_law_plain : SE := (sSeq (sSet .fz 1 (xLst (aC true (xTup (aC true (xC (.int 3)) (aC true (xMkS 4 (xV 0)) aN))) (aC true (xTup (aC true (xC (.int 4)) (aC true (xMkS 5 (xV 0)) aN))) (aC true (xTup (aC true (xC (.int 8)) (aC true (xMkS 9 (xV 0)) aN))) (aC true (xTup (aC true (xC (.int 11)) (aC true (xMkS 12 (xV 0)) aN))) aN))))))
  (sRet (xAp2 true dAdd (xV 1) (xLst (aC true (xTup (aC true (xC (.int 99)) (aC true (xMkS 0 (xV 0)) aN))) aN)))))
def D_law_plain : FA := dA 2 m_law_plain
def m_law_marks : SE := (sSeq (sSet .fz 1 (xLst (aC true (xAp1 (dIsi tab_BadWeb) (xV 0)) (aC true (xAp1 (dIsi tab_NoParty) (xV 0)) (aC true (xAp1 (dIsi tab_NoHanding) (xV 0)) aN)))))
  (sSeq (sSet .fz 1 (xAp2 true dAdd (xV 1) (xLst (aC true (xAp1 (dIsi tab_BadLeaders) (xV 0)) (aC true (xAp1 (dIsi tab_BadKeepers) (xV 0)) (aC true (xAp1 (dIsi tab_BadLaying) (xV 0)) aN))))))
  (sSeq (sSet .fz 1 (xAp2 true dAdd (xV 1) (xLst (aC true (xAp1 (dIsi tab_BadDeal) (xV 0)) (aC true (xAp1 (dIsi tab_BadNumber) (xV 0)) (aC true (xAp1 (dIsi tab_BadCourse) (xV 0)) aN))))))
  (sSeq (sSet .fz 1 (xAp2 true dAdd (xV 1) (xLst (aC true (xAp1 (dIsi tab_BadRule) (xV 0)) (aC true (xAp1 (dIsi tab_NotNow) (xV 0)) (aC true (xAp1 (dIsi tab_NothingDone) (xV 0)) aN))))))
  (sRet (xAp2 true dAdd (xV 1) (xLst (aC true (xAp1 (dIsi tab_BadJournal) (xV 0)) (aC true (xAp1 (dIsi tab_BadText) (xV 0)) aN)))))))))
def D_law_marks : FA := dA 2 m_law_marks
def m_law_alone : SE := (sSeq (sSet .fz 2 (xLc [3] (iRng1D (aC true (xC (.int 14)) aN)) (gNm 3) bYes (xAp2 true dEq (xV 3) (xV 1))))
  (sRet (xAnd (xAp2 true dEq (xCall D_law_marks (aC true (xV 0) aN)) (xV 2)) (xAnd (xAp1 (dIsi tab_LockError) (xV 0)) (xAp1 (dIsi tab_ValueError) (xV 0))))))
def D_law_alone : FA := dA 4 m_law_alone
def m_law_with_fields : SE := (sSeq (sSet .fz 1 (xLst (aC true (xMkX 1 "part" (aC true (xV 0) aN)) (aC true (xMkX 1 "part" (aC true (xV 0) aN)) (aC true (xMkX 7 "part" (aC true (xV 0) aN)) (aC true (xMkX 7 "part" (aC true (xV 0) aN)) (aC true (xMkX 10 "part" (aC true (xV 0) aN)) (aC true (xMkX 10 "part" (aC true (xV 0) aN)) aN))))))))
  (sSeq (sSet .fz 2 (xLc [3, 4] (iEnumD (aC true (xV 1) aN)) (gTp 2 (gsC (gNm 3) (gsC (gNm 4) gsN))) bYes (xTup (aC true (xAp2 true dIdx (xLst (aC true (xC (.int 0)) (aC true (xC (.int 6)) (aC true (xC (.int 9)) aN)))) (xAp2 true dFdiv (xV 3) (xC (.int 2)))) (aC true (xV 4) (aC true (xAp1 (dFldX [1, 7, 10] "part") (xV 4)) aN))))))
  (sSeq (sSet .fz 2 (xAp2 true dAdd (xV 2) (xLc [4] (iSeq (xLst (aC true (xMkX 2 "party" (aC true (xV 0) aN)) (aC true (xMkX 2 "party" (aC true (xV 0) aN)) aN)))) (gNm 4) bYes (xTup (aC true (xC (.int 1)) (aC true (xV 4) (aC true (xAp1 (dFldX [2] "party") (xV 4)) aN)))))))
  (sSeq (sSet .fz 2 (xAp2 true dAdd (xV 2) (xLc [4] (iSeq (xLst (aC true (xMkX 3 "handing" (aC true (xV 0) aN)) (aC true (xMkX 3 "handing" (aC true (xV 0) aN)) aN)))) (gNm 4) bYes (xTup (aC true (xC (.int 2)) (aC true (xV 4) (aC true (xAp1 (dFldX [3] "handing") (xV 4)) aN)))))))
  (sSeq (sSet .fz 1 (xLst (aC true (xMkX 6 "at" (aC true (xV 0) aN)) (aC true (xMkX 6 "at" (aC true (xV 0) aN)) (aC true (xMkX 13 "at" (aC true (xV 0) aN)) (aC true (xMkX 13 "at" (aC true (xV 0) aN)) aN))))))
  (sSeq (sSet .fz 2 (xAp2 true dAdd (xV 2) (xLc [3, 4] (iEnumD (aC true (xV 1) aN)) (gTp 2 (gsC (gNm 3) (gsC (gNm 4) gsN))) bYes (xTup (aC true (xAp2 true dIdx (xLst (aC true (xC (.int 5)) (aC true (xC (.int 12)) aN))) (xAp2 true dFdiv (xV 3) (xC (.int 2)))) (aC true (xV 4) (aC true (xAp1 (dFldX [6, 13] "at") (xV 4)) aN)))))))
  (sSeq (sSet .fz 2 (xAp2 true dAdd (xV 2) (xLc [4] (iSeq (xLst (aC true (xMkX 8 "number" (aC true (xV 0) aN)) (aC true (xMkX 8 "number" (aC true (xV 0) aN)) aN)))) (gNm 4) bYes (xTup (aC true (xC (.int 7)) (aC true (xV 4) (aC true (xAp1 (dFldX [8] "number") (xV 4)) aN)))))))
  (sSeq (sSet .fz 2 (xAp2 true dAdd (xV 2) (xLc [4] (iSeq (xLst (aC true (xMkX 11 "word" (aC true (xV 0) aN)) (aC true (xMkX 11 "word" (aC true (xV 0) aN)) aN)))) (gNm 4) bYes (xTup (aC true (xC (.int 10)) (aC true (xV 4) (aC true (xAp1 (dFldX [11] "word") (xV 4)) aN)))))))
  (sRet (xAp2 true dAdd (xV 2) (xLc [4] (iSeq (xLst (aC true (xMkX 14 "line" (aC true (xV 0) aN)) (aC true (xMkX 14 "line" (aC true (xV 0) aN)) aN)))) (gNm 4) bYes (xTup (aC true (xC (.int 13)) (aC true (xV 4) (aC true (xAp1 (dFldX [14] "line") (xV 4)) aN)))))))))))))))
def D_law_with_fields : FA := dA 5 m_law_with_fields
def mb_law_2 : SE := (sIf (bOr (xTst (xAp2 true dNe (xApp (f1 (dStr [0, 4, 5, 9, 12])) (aC true (xV 6) aN)) (xV 3))) (bAnd (xTst (xAp2 true dLt (xV 5) (xC (.int 14)))) (bNot (xTst (xCall D_law_alone (aC true (xV 6) (aC true (xV 5) aN)))))))
  (sRet (xC (.bl false)))
  sNil)
def mb_law_3 : SE := (sIf (bOr (bNot (xTst (xCall D_law_alone (aC true (xV 6) (aC true (xV 5) aN))))) (xTst (xAp2 true dNe (xApp (f1 dRepr) (aC true (xV 7) aN)) (xApp (f1 dRepr) (aC true (xV 4) aN)))))
  (sRet (xC (.bl false)))
  sNil)
def mb_law_1 : SE := (sSeq (sSet .fz 3 (xCallM D_law_pick 1 (aC true (xLst (aC true (xC (.str "")) (aC true (xC (.str "a")) (aC true (xC (.str "no course")) (aC true (xC (.str "leaders")) aN))))) aN)))
  (sSeq (sSet .fz 4 (xCallM D_law_pick 1 (aC true (xLst (aC true (xC (.int 0)) (aC true (xC (.int 1)) (aC true (xC (.non)) (aC true (xC (.str "web")) (aC true (xC (.str "a")) (aC true (xTup (aC true (xC (.int 1)) (aC true (xC (.non)) aN))) (aC true (xTup (aC true (xTup (aC true (xC (.int 0)) (aC true (xC (.bl true)) aN))) aN)) (aC true (xLst (aC true (xC (.int 3)) aN)) (aC true (xAp2 true dPow (xC (.int 10)) (xC (.int 12))) aN)))))))))) aN)))
  (sSeq (sFor (iSeq (xCall D_law_plain (aC true (xV 3) aN))) (gTp 2 (gsC (gNm 5) (gsC (gNm 6) gsN))) mb_law_2)
  (sSeq (sFor (iSeq (xCall D_law_with_fields (aC true (xV 4) aN))) (gTp 3 (gsC (gNm 5) (gsC (gNm 6) (gsC (gNm 7) gsN)))) mb_law_3)
  (sSeq (sSet .fz 8 (xMkS 0 (xV 3)))
  (sIf (bOr (xTst (xAp2 true dNe (xCall D_law_marks (aC true (xV 8) aN)) (xAp2 true dMul (xLst (aC true (xC (.bl false)) aN)) (xC (.int 14))))) (bNot (xTst (xAp1 (dIsi tab_ValueError) (xV 8)))))
  (sRet (xC (.bl false)))
  sNil))))))
def m_law : SE := (sSeq (sSet .ow 1 (xCall D_law_begin (aC true (xV 0) aN)))
  (sSeq (sFor (iRng1D (aC true (xAp2 true dAdd (xC (.int 1)) (xApp (f2 dMin2) (aC true (xApp (f1 dLen) (aC true (xV 0) aN)) (aC true (xC (.int 1)) aN)))) aN)) (gNm 2) mb_law_1)
  (sRet (xC (.bl true)))))
def D_law : FA := dA 9 m_law
end Lk01
namespace Lk01
open PySem PySem.Spec PyProof.Rows L2 VL
def topS (i : Nat) : Stmt := PySem.Challenge.pw_handlocks_k01_errors_by_hand.main.body.getD i (.Pass ⟨0, 0, 0, 0⟩)
def subS (s : Stmt) (j : Nat) : Stmt := match s with
  | .ClassDef _ _ _ b _ _ _ _ _ _ _ => b.getD j (.Pass ⟨0, 0, 0, 0⟩)
  | _ => .Pass ⟨0, 0, 0, 0⟩
abbrev s_BadText_init : Stmt := (subS (topS 15) 0)
theorem supb_BadText : SupB s_BadText_init "line" "line" := ⟨_, _, _, _, _, _, _, _, _, _, _, rfl, fun _ _ _ _ _ => rfl⟩
theorem sups_BadText : SupS (defScope s_BadText_init) "line" := ⟨rfl, rfl, rfl, rfl, by decide, by decide, by decide, rfl, rfl, rfl⟩
abbrev s_BadJournal_init : Stmt := (subS (topS 14) 0)
theorem supb_BadJournal : SupB s_BadJournal_init "at" "at" := ⟨_, _, _, _, _, _, _, _, _, _, _, rfl, fun _ _ _ _ _ => rfl⟩
theorem sups_BadJournal : SupS (defScope s_BadJournal_init) "at" := ⟨rfl, rfl, rfl, rfl, by decide, by decide, by decide, rfl, rfl, rfl⟩
abbrev s_NotNow_init : Stmt := (subS (topS 12) 0)
theorem supb_NotNow : SupB s_NotNow_init "word" "word" := ⟨_, _, _, _, _, _, _, _, _, _, _, rfl, fun _ _ _ _ _ => rfl⟩
theorem sups_NotNow : SupS (defScope s_NotNow_init) "word" := ⟨rfl, rfl, rfl, rfl, by decide, by decide, by decide, rfl, rfl, rfl⟩
abbrev s_BadRule_init : Stmt := (subS (topS 11) 0)
theorem supb_BadRule : SupB s_BadRule_init "part" "part" := ⟨_, _, _, _, _, _, _, _, _, _, _, rfl, fun _ _ _ _ _ => rfl⟩
theorem sups_BadRule : SupS (defScope s_BadRule_init) "part" := ⟨rfl, rfl, rfl, rfl, by decide, by decide, by decide, rfl, rfl, rfl⟩
abbrev s_BadNumber_init : Stmt := (subS (topS 9) 0)
theorem supb_BadNumber : SupB s_BadNumber_init "number" "number" := ⟨_, _, _, _, _, _, _, _, _, _, _, rfl, fun _ _ _ _ _ => rfl⟩
theorem sups_BadNumber : SupS (defScope s_BadNumber_init) "number" := ⟨rfl, rfl, rfl, rfl, by decide, by decide, by decide, rfl, rfl, rfl⟩
abbrev s_BadDeal_init : Stmt := (subS (topS 8) 0)
theorem supb_BadDeal : SupB s_BadDeal_init "part" "part" := ⟨_, _, _, _, _, _, _, _, _, _, _, rfl, fun _ _ _ _ _ => rfl⟩
theorem sups_BadDeal : SupS (defScope s_BadDeal_init) "part" := ⟨rfl, rfl, rfl, rfl, by decide, by decide, by decide, rfl, rfl, rfl⟩
abbrev s_BadLaying_init : Stmt := (subS (topS 7) 0)
theorem supb_BadLaying : SupB s_BadLaying_init "at" "at" := ⟨_, _, _, _, _, _, _, _, _, _, _, rfl, fun _ _ _ _ _ => rfl⟩
theorem sups_BadLaying : SupS (defScope s_BadLaying_init) "at" := ⟨rfl, rfl, rfl, rfl, by decide, by decide, by decide, rfl, rfl, rfl⟩
abbrev s_NoHanding_init : Stmt := (subS (topS 4) 0)
theorem supb_NoHanding : SupB s_NoHanding_init "handing" "handing" := ⟨_, _, _, _, _, _, _, _, _, _, _, rfl, fun _ _ _ _ _ => rfl⟩
theorem sups_NoHanding : SupS (defScope s_NoHanding_init) "handing" := ⟨rfl, rfl, rfl, rfl, by decide, by decide, by decide, rfl, rfl, rfl⟩
abbrev s_NoParty_init : Stmt := (subS (topS 3) 0)
theorem supb_NoParty : SupB s_NoParty_init "party" "party" := ⟨_, _, _, _, _, _, _, _, _, _, _, rfl, fun _ _ _ _ _ => rfl⟩
theorem sups_NoParty : SupS (defScope s_NoParty_init) "party" := ⟨rfl, rfl, rfl, rfl, by decide, by decide, by decide, rfl, rfl, rfl⟩
abbrev s_BadWeb_init : Stmt := (subS (topS 2) 0)
theorem supb_BadWeb : SupB s_BadWeb_init "part" "part" := ⟨_, _, _, _, _, _, _, _, _, _, _, rfl, fun _ _ _ _ _ => rfl⟩
theorem sups_BadWeb : SupS (defScope s_BadWeb_init) "part" := ⟨rfl, rfl, rfl, rfl, by decide, by decide, by decide, rfl, rfl, rfl⟩
abbrev s_law_begin : Stmt := (topS 17)
abbrev N_law_begin : List Str := ["_law_script", "_law_great", "_law_cell"]
theorem S_law_begin : FnScope N_law_begin ["_law_script"] (defScope s_law_begin) := ⟨rfl, rfl, rfl, by decide +kernel, rfl, by decide +kernel, by decide +kernel⟩
abbrev s_law_blend : Stmt := (topS 18)
abbrev N_law_blend : List Str := ["_law_draw", "_law_turn", "_law_found", "_law_prime", "_law_blend_here", "_law_cell"]
theorem S_law_blend : FnScope N_law_blend ["_law_draw"] (defScope s_law_blend) := ⟨rfl, rfl, rfl, by decide +kernel, rfl, by decide +kernel, by decide +kernel⟩
abbrev s_law_take : Stmt := (topS 20)
abbrev N_law_take : List Str := ["_law_draw", "_law_size", "_law_found"]
theorem S_law_take : FnScope N_law_take ["_law_draw", "_law_size"] (defScope s_law_take) := ⟨rfl, rfl, rfl, by decide +kernel, rfl, by decide +kernel, by decide +kernel⟩
abbrev s_law_pick : Stmt := (topS 19)
abbrev N_law_pick : List Str := ["_law_draw", "_law_some"]
theorem S_law_pick : FnScope N_law_pick ["_law_draw", "_law_some"] (defScope s_law_pick) := ⟨rfl, rfl, rfl, by decide +kernel, rfl, by decide +kernel, by decide +kernel⟩
abbrev s_law_plain : Stmt := (topS 23)
abbrev N_law_plain : List Str := ["_law_page", "_law_some"]
theorem S_law_plain : FnScope N_law_plain ["_law_page"] (defScope s_law_plain) := ⟨rfl, rfl, rfl, by decide +kernel, rfl, by decide +kernel, by decide +kernel⟩
abbrev s_law_marks : Stmt := (topS 21)
abbrev N_law_marks : List Str := ["_law_error", "_law_some"]
theorem S_law_marks : FnScope N_law_marks ["_law_error"] (defScope s_law_marks) := ⟨rfl, rfl, rfl, by decide +kernel, rfl, by decide +kernel, by decide +kernel⟩
abbrev s_law_alone : Stmt := (topS 22)
abbrev N_law_alone : List Str := ["_law_error", "_law_place", "_law_due", "_law_k"]
theorem S_law_alone : FnScope N_law_alone ["_law_error", "_law_place"] (defScope s_law_alone) := ⟨rfl, rfl, rfl, by decide +kernel, rfl, by decide +kernel, by decide +kernel⟩
abbrev s_law_with_fields : Stmt := (topS 24)
abbrev N_law_with_fields : List Str := ["_law_item", "_law_some", "_law_done", "_law_k", "_law_error"]
theorem S_law_with_fields : FnScope N_law_with_fields ["_law_item"] (defScope s_law_with_fields) := ⟨rfl, rfl, rfl, by decide +kernel, rfl, by decide +kernel, by decide +kernel⟩
abbrev s_law : Stmt := (topS 25)
abbrev N_law : List Str := ["_law_script", "_law_draw", "_law_turn", "_law_page", "_law_item", "_law_place", "_law_error", "_law_field", "_law_ground"]
theorem S_law : FnScope N_law ["_law_script"] (defScope s_law) := ⟨rfl, rfl, rfl, by decide +kernel, rfl, by decide +kernel, by decide +kernel⟩
structure Tie (P : Program) (K : PySem.W.Frag) (mg : Str → Option Value) (G : Gm) where
  hK : K = G.K
  hT : G.T = []
  n_ValueError : mg "ValueError" = none
  n_abs : mg "abs" = none
  n_enumerate : mg "enumerate" = none
  n_int : mg "int" = none
  n_isinstance : mg "isinstance" = none
  n_len : mg "len" = none
  n_min : mg "min" = none
  n_range : mg "range" = none
  n_repr : mg "repr" = none
  n_str : mg "str" = none
  f_law_begin : Addr
  fd_law_begin : FuncData
  F_law_begin : Fun K "_law_begin" "_law_begin" s_law_begin f_law_begin fd_law_begin
  b_law_begin : Binds K fd_law_begin ["_law_script"] []
  g_law_begin : mg "_law_begin" = some (.ref f_law_begin)
  f_law_blend : Addr
  fd_law_blend : FuncData
  F_law_blend : Fun K "_law_blend" "_law_blend" s_law_blend f_law_blend fd_law_blend
  b_law_blend : Binds K fd_law_blend ["_law_draw"] []
  g_law_blend : mg "_law_blend" = some (.ref f_law_blend)
  f_law_take : Addr
  fd_law_take : FuncData
  F_law_take : Fun K "_law_take" "_law_take" s_law_take f_law_take fd_law_take
  b_law_take : Binds K fd_law_take ["_law_draw", "_law_size"] []
  g_law_take : mg "_law_take" = some (.ref f_law_take)
  f_law_pick : Addr
  fd_law_pick : FuncData
  F_law_pick : Fun K "_law_pick" "_law_pick" s_law_pick f_law_pick fd_law_pick
  b_law_pick : Binds K fd_law_pick ["_law_draw", "_law_some"] []
  g_law_pick : mg "_law_pick" = some (.ref f_law_pick)
  f_law_plain : Addr
  fd_law_plain : FuncData
  F_law_plain : Fun K "_law_plain" "_law_plain" s_law_plain f_law_plain fd_law_plain
  b_law_plain : Binds K fd_law_plain ["_law_page"] []
  g_law_plain : mg "_law_plain" = some (.ref f_law_plain)
  f_law_marks : Addr
  fd_law_marks : FuncData
  F_law_marks : Fun K "_law_marks" "_law_marks" s_law_marks f_law_marks fd_law_marks
  b_law_marks : Binds K fd_law_marks ["_law_error"] []
  g_law_marks : mg "_law_marks" = some (.ref f_law_marks)
  f_law_alone : Addr
  fd_law_alone : FuncData
  F_law_alone : Fun K "_law_alone" "_law_alone" s_law_alone f_law_alone fd_law_alone
  b_law_alone : Binds K fd_law_alone ["_law_error", "_law_place"] []
  g_law_alone : mg "_law_alone" = some (.ref f_law_alone)
  f_law_with_fields : Addr
  fd_law_with_fields : FuncData
  F_law_with_fields : Fun K "_law_with_fields" "_law_with_fields" s_law_with_fields f_law_with_fields fd_law_with_fields
  b_law_with_fields : Binds K fd_law_with_fields ["_law_item"] []
  g_law_with_fields : mg "_law_with_fields" = some (.ref f_law_with_fields)
  f_law : Addr
  fd_law : FuncData
  F_law : Fun K "law" "law" s_law f_law fd_law
  b_law : Binds K fd_law ["_law_script"] []
  g_law : mg "law" = some (.ref f_law)
  A_LockError : Addr
  gc_LockError : mg "LockError" = some (.ref A_LockError)
  cm_LockError : G.cm 0 = some A_LockError
  A_BadWeb : Addr
  gc_BadWeb : mg "BadWeb" = some (.ref A_BadWeb)
  cm_BadWeb : G.cm 1 = some A_BadWeb
  A_NoParty : Addr
  gc_NoParty : mg "NoParty" = some (.ref A_NoParty)
  cm_NoParty : G.cm 2 = some A_NoParty
  A_NoHanding : Addr
  gc_NoHanding : mg "NoHanding" = some (.ref A_NoHanding)
  cm_NoHanding : G.cm 3 = some A_NoHanding
  A_BadLeaders : Addr
  gc_BadLeaders : mg "BadLeaders" = some (.ref A_BadLeaders)
  cm_BadLeaders : G.cm 4 = some A_BadLeaders
  A_BadKeepers : Addr
  gc_BadKeepers : mg "BadKeepers" = some (.ref A_BadKeepers)
  cm_BadKeepers : G.cm 5 = some A_BadKeepers
  A_BadLaying : Addr
  gc_BadLaying : mg "BadLaying" = some (.ref A_BadLaying)
  cm_BadLaying : G.cm 6 = some A_BadLaying
  A_BadDeal : Addr
  gc_BadDeal : mg "BadDeal" = some (.ref A_BadDeal)
  cm_BadDeal : G.cm 7 = some A_BadDeal
  A_BadNumber : Addr
  gc_BadNumber : mg "BadNumber" = some (.ref A_BadNumber)
  cm_BadNumber : G.cm 8 = some A_BadNumber
  A_BadCourse : Addr
  gc_BadCourse : mg "BadCourse" = some (.ref A_BadCourse)
  cm_BadCourse : G.cm 9 = some A_BadCourse
  A_BadRule : Addr
  gc_BadRule : mg "BadRule" = some (.ref A_BadRule)
  cm_BadRule : G.cm 10 = some A_BadRule
  A_NotNow : Addr
  gc_NotNow : mg "NotNow" = some (.ref A_NotNow)
  cm_NotNow : G.cm 11 = some A_NotNow
  A_NothingDone : Addr
  gc_NothingDone : mg "NothingDone" = some (.ref A_NothingDone)
  cm_NothingDone : G.cm 12 = some A_NothingDone
  A_BadJournal : Addr
  gc_BadJournal : mg "BadJournal" = some (.ref A_BadJournal)
  cm_BadJournal : G.cm 13 = some A_BadJournal
  A_BadText : Addr
  gc_BadText : mg "BadText" = some (.ref A_BadText)
  cm_BadText : G.cm 14 = some A_BadText
  y_LockError : MkS K A_LockError
  fx_BadWeb : Addr
  fdx_BadWeb : FuncData
  x_BadWeb : MkX P K mg A_BadWeb fx_BadWeb fdx_BadWeb s_BadWeb_init "BadWeb.__init__" "part" "part"
  fx_NoParty : Addr
  fdx_NoParty : FuncData
  x_NoParty : MkX P K mg A_NoParty fx_NoParty fdx_NoParty s_NoParty_init "NoParty.__init__" "party" "party"
  fx_NoHanding : Addr
  fdx_NoHanding : FuncData
  x_NoHanding : MkX P K mg A_NoHanding fx_NoHanding fdx_NoHanding s_NoHanding_init "NoHanding.__init__" "handing" "handing"
  y_BadLeaders : MkS K A_BadLeaders
  y_BadKeepers : MkS K A_BadKeepers
  fx_BadLaying : Addr
  fdx_BadLaying : FuncData
  x_BadLaying : MkX P K mg A_BadLaying fx_BadLaying fdx_BadLaying s_BadLaying_init "BadLaying.__init__" "at" "at"
  fx_BadDeal : Addr
  fdx_BadDeal : FuncData
  x_BadDeal : MkX P K mg A_BadDeal fx_BadDeal fdx_BadDeal s_BadDeal_init "BadDeal.__init__" "part" "part"
  fx_BadNumber : Addr
  fdx_BadNumber : FuncData
  x_BadNumber : MkX P K mg A_BadNumber fx_BadNumber fdx_BadNumber s_BadNumber_init "BadNumber.__init__" "number" "number"
  y_BadCourse : MkS K A_BadCourse
  fx_BadRule : Addr
  fdx_BadRule : FuncData
  x_BadRule : MkX P K mg A_BadRule fx_BadRule fdx_BadRule s_BadRule_init "BadRule.__init__" "part" "part"
  fx_NotNow : Addr
  fdx_NotNow : FuncData
  x_NotNow : MkX P K mg A_NotNow fx_NotNow fdx_NotNow s_NotNow_init "NotNow.__init__" "word" "word"
  y_NothingDone : MkS K A_NothingDone
  fx_BadJournal : Addr
  fdx_BadJournal : FuncData
  x_BadJournal : MkX P K mg A_BadJournal fx_BadJournal fdx_BadJournal s_BadJournal_init "BadJournal.__init__" "at" "at"
  fx_BadText : Addr
  fdx_BadText : FuncData
  x_BadText : MkX P K mg A_BadText fx_BadText fdx_BadText s_BadText_init "BadText.__init__" "line" "line"
  ax_part : FldXOk G [1, 7, 10] "part"
  ax_party : FldXOk G [2] "party"
  ax_handing : FldXOk G [3] "handing"
  ax_at : FldXOk G [6, 13] "at"
  ax_number : FldXOk G [8] "number"
  ax_word : FldXOk G [11] "word"
  ax_line : FldXOk G [14] "line"
  strx : StrXOk G [0, 4, 5, 9, 12]
  isi_BadCourse : IsiOk G tab_BadCourse [.ref A_BadCourse]
  isi_BadDeal : IsiOk G tab_BadDeal [.ref A_BadDeal]
  isi_BadJournal : IsiOk G tab_BadJournal [.ref A_BadJournal]
  isi_BadKeepers : IsiOk G tab_BadKeepers [.ref A_BadKeepers]
  isi_BadLaying : IsiOk G tab_BadLaying [.ref A_BadLaying]
  isi_BadLeaders : IsiOk G tab_BadLeaders [.ref A_BadLeaders]
  isi_BadNumber : IsiOk G tab_BadNumber [.ref A_BadNumber]
  isi_BadRule : IsiOk G tab_BadRule [.ref A_BadRule]
  isi_BadText : IsiOk G tab_BadText [.ref A_BadText]
  isi_BadWeb : IsiOk G tab_BadWeb [.ref A_BadWeb]
  isi_LockError : IsiOk G tab_LockError [.ref A_LockError]
  isi_NoHanding : IsiOk G tab_NoHanding [.ref A_NoHanding]
  isi_NoParty : IsiOk G tab_NoParty [.ref A_NoParty]
  isi_NotNow : IsiOk G tab_NotNow [.ref A_NotNow]
  isi_NothingDone : IsiOk G tab_NothingDone [.ref A_NothingDone]
  isi_ValueError : IsiOk G tab_ValueError [.type "ValueError"]
section
variable {P : Program} {w : World} {K : PySem.W.Frag} {mg : Str → Option Value} {base : Heap} {G : Gm}
set_option maxHeartbeats 4000000










theorem ok_law_begin (t : Tie P K mg G) : FnG P w K mg base 1 t.f_law_begin t.fd_law_begin ["_law_script"] (spA G 1 D_law_begin) :=
  have S := S_law_begin
  def_okA t.F_law_begin S rfl fun cdv A outer s H E z hr =>
  (r_cons (r_setlc (fl := .ow) (i := 1) rfl S.nd rfl rfl rfl (own := [("_law_cell", 2)]) (r_iseq t.hK (r_var (pv 0))) (by show BlkOk N_law_begin (defScope s_law_begin) _ _; exact ⟨rfl, by decide +kernel, by decide +kernel, by decide +kernel, by decide +kernel⟩) (by decide) (fun _ _ _ _ _ => (g_at (i := 2) S.nd)) (fun _ _ _ _ _ => (pts_if (b_tcmp (o_ge) (b_cb (o_abs) t.n_abs (r_acons (r_var (pv 2)) r_anil)) (b_bin (o_pow) (r_const pe_int rfl) (r_const pe_int rfl))))) (fun _ _ _ _ _ => (b_bin (o_sub) (b_cb (o_abs) t.n_abs (r_acons (r_var (pv 2)) r_anil)) (b_bin (o_pow) (r_const pe_int rfl) (r_const pe_int rfl)))))
  (r_one (r_retDrw pe_str pe_str pe_str pe_str (pv 1) pe_int (r_lc rfl S.nd (own := [("_law_cell", 2)]) (r_iseq t.hK (r_var (pv 0))) (by show BlkOk N_law_begin (defScope s_law_begin) _ _; exact ⟨rfl, by decide +kernel, by decide +kernel, by decide +kernel, by decide +kernel⟩) (by decide) (fun _ _ _ _ _ => (g_at (i := 2) S.nd)) (fun _ _ _ _ _ => pts_no) (fun _ _ _ _ _ => (b_cb (o_abs) t.n_abs (r_acons (r_var (pv 2)) r_anil)))) pe_int)))
theorem ok_law_blend (t : Tie P K mg G) : FnG P w K mg base 1 t.f_law_blend t.fd_law_blend ["_law_draw"] (spB G 1 D_law_blend) :=
  have S := S_law_blend
  def_okB t.F_law_blend S rfl fun cdv A outer s H E z hr =>
  (r_cons (set_at (fl := .fz) (i := 1) S.nd (b_bin (o_add t.hK) (r_drwTurn hr (pv 0) pe_str (fun _ _ => rfl)) (r_const pe_int rfl)))
  (r_cons (r_drwSetTurn hr (pv 0) pe_str (r_var (pv 1)))
  (r_cons (set_at (fl := .fz) (i := 2) S.nd (r_const pe_int rfl))
  (r_cons (r_for paD rfl (r_iseq t.hK (r_lst (r_acons (r_const pe_int rfl) (r_acons (r_const pe_int rfl) (r_acons (r_const pe_int rfl) (r_acons (r_const pe_int rfl) r_anil)))))) (g_at (i := 3) S.nd) ne_name
  (r_cons (set_at (fl := .fz) (i := 4) S.nd (b_bin (o_mod) (b_ct (o_int) t.n_int (r_acons (b_bin (o_add t.hK) (b_bin (o_mul) (r_var (pv 1)) (r_const pe_int rfl)) (b_bin (o_fdiv) (r_var (pv 3)) (r_const pe_int rfl))) r_anil)) (r_var (pv 3))))
  (r_cons (r_for paD rfl (r_iseq t.hK (r_drwCells hr (pv 0) pe_str (fun _ _ => rfl))) (g_at (i := 5) S.nd) ne_name
  (r_one (set_at (fl := .fz) (i := 4) S.nd (b_bin (o_mod) (b_ct (o_int) t.n_int (r_acons (b_bin (o_add t.hK) (b_bin (o_mul) (r_var (pv 4)) (r_const pe_int rfl)) (r_var (pv 5))) r_anil)) (r_var (pv 3))))))
  (r_one (set_at (fl := .fz) (i := 2) S.nd (b_bin (o_add t.hK) (b_bin (o_mul) (r_var (pv 2)) (r_const pe_int rfl)) (b_bin (o_mod) (b_ct (o_int) t.n_int (r_acons (b_bin (o_pow) (r_var (pv 4)) (r_const pe_int rfl)) r_anil)) (r_var (pv 3)))))))))
  (r_one (r_retv (pv 2)))))))
theorem ok_law_take (t : Tie P K mg G) : FnG P w K mg base 2 t.f_law_take t.fd_law_take ["_law_draw", "_law_size"] (spB G 2 D_law_take) :=
  have S := S_law_take
  def_okB t.F_law_take S rfl fun cdv A outer s H E z hr =>
  (r_cons (r_if (r_and (b_tcmp (o_eq hr t.hK) (r_drwRest hr (pv 0) pe_str (fun _ _ => rfl)) (r_const pe_int rfl)) (r_and1 (r_tdrwNe hr t.hK (pv 0) pe_str (fun _ _ => rfl)))).pt
  (r_one (r_drwSetRest hr (pv 0) pe_str (r_drwPop hr (pv 0) pe_str (fun _ _ => rfl) pe_int rfl (fun _ _ a b => pe_bm PySem.F.plainAttrs_list PySem.F.slot_list_pop PySem.F.type_list_pop mt_popAt a b))))
  r_nil)
  (r_cons (r_if (b_tcmp (o_eq hr t.hK) (r_drwRest hr (pv 0) pe_str (fun _ _ => rfl)) (r_const pe_int rfl))
  (r_one (r_drwSetRest hr (pv 0) pe_str (r_callM tkD (ok_law_blend t) (hr.mono (by decide)) (by rfl) t.g_law_blend t.F_law_blend.kp t.b_law_blend (pv 0) r_anil (by exact alen_nil))))
  r_nil)
  (r_cons (set_at (fl := .fz) (i := 2) S.nd (b_bin (o_mod) (b_ct (o_int) t.n_int (r_acons (r_drwRest hr (pv 0) pe_str (fun _ _ => rfl)) r_anil)) (r_var (pv 1))))
  (r_cons (r_drwSetRest hr (pv 0) pe_str (b_bin (o_fdiv) (r_drwRest hr (pv 0) pe_str (fun _ _ => rfl)) (r_var (pv 1))))
  (r_one (r_retv (pv 2)))))))
theorem ok_law_pick (t : Tie P K mg G) : FnG P w K mg base 3 t.f_law_pick t.fd_law_pick ["_law_draw", "_law_some"] (spB G 2 D_law_pick) :=
  have S := S_law_pick
  def_okB t.F_law_pick S rfl fun cdv A outer s H E z hr =>
  (r_one (r_ret (b_ix (o_idx t.hK) (r_var (pv 1)) (r_callM tkD (ok_law_take t) (hr.mono (by decide)) (by rfl) t.g_law_take t.F_law_take.kp t.b_law_take (pv 0) (r_acons (b_cb (o_len t.hK) t.n_len (r_acons (r_var (pv 1)) r_anil)) r_anil) (by exact (alen_cons alen_nil))))))
theorem ok_law_plain (t : Tie P K mg G) : FnG P w K mg base 1 t.f_law_plain t.fd_law_plain ["_law_page"] (spA G 1 D_law_plain) :=
  have S := S_law_plain
  def_okA t.F_law_plain S rfl fun cdv A outer s H E z hr =>
  (r_cons (set_at (fl := .fz) (i := 1) S.nd (r_lst (r_acons (r_tup (r_acons (r_const pe_int rfl) (r_acons (r_mkS t.y_BadLeaders t.cm_BadLeaders (by rfl) t.gc_BadLeaders (r_var (pv 0))) r_anil))) (r_acons (r_tup (r_acons (r_const pe_int rfl) (r_acons (r_mkS t.y_BadKeepers t.cm_BadKeepers (by rfl) t.gc_BadKeepers (r_var (pv 0))) r_anil))) (r_acons (r_tup (r_acons (r_const pe_int rfl) (r_acons (r_mkS t.y_BadCourse t.cm_BadCourse (by rfl) t.gc_BadCourse (r_var (pv 0))) r_anil))) (r_acons (r_tup (r_acons (r_const pe_int rfl) (r_acons (r_mkS t.y_NothingDone t.cm_NothingDone (by rfl) t.gc_NothingDone (r_var (pv 0))) r_anil))) r_anil))))))
  (r_one (r_ret (b_bin (o_add t.hK) (r_var (pv 1)) (r_lst (r_acons (r_tup (r_acons (r_const pe_int rfl) (r_acons (r_mkS t.y_LockError t.cm_LockError (by rfl) t.gc_LockError (r_var (pv 0))) r_anil))) r_anil))))))
theorem ok_law_marks (t : Tie P K mg G) : FnG P w K mg base 1 t.f_law_marks t.fd_law_marks ["_law_error"] (spA G 1 D_law_marks) :=
  have S := S_law_marks
  def_okA t.F_law_marks S rfl fun cdv A outer s H E z hr =>
  (r_cons (set_at (fl := .fz) (i := 1) S.nd (r_lst (r_acons (r_isi (cu := .ref t.A_BadWeb) t.hK (by rfl) t.n_isinstance (r_var (pv 0)) (pe_glob (v := .ref t.A_BadWeb) (by rfl) t.gc_BadWeb rfl) (.own _) t.isi_BadWeb) (r_acons (r_isi (cu := .ref t.A_NoParty) t.hK (by rfl) t.n_isinstance (r_var (pv 0)) (pe_glob (v := .ref t.A_NoParty) (by rfl) t.gc_NoParty rfl) (.own _) t.isi_NoParty) (r_acons (r_isi (cu := .ref t.A_NoHanding) t.hK (by rfl) t.n_isinstance (r_var (pv 0)) (pe_glob (v := .ref t.A_NoHanding) (by rfl) t.gc_NoHanding rfl) (.own _) t.isi_NoHanding) r_anil)))))
  (r_cons (set_at (fl := .fz) (i := 1) S.nd (b_bin (o_add t.hK) (r_var (pv 1)) (r_lst (r_acons (r_isi (cu := .ref t.A_BadLeaders) t.hK (by rfl) t.n_isinstance (r_var (pv 0)) (pe_glob (v := .ref t.A_BadLeaders) (by rfl) t.gc_BadLeaders rfl) (.own _) t.isi_BadLeaders) (r_acons (r_isi (cu := .ref t.A_BadKeepers) t.hK (by rfl) t.n_isinstance (r_var (pv 0)) (pe_glob (v := .ref t.A_BadKeepers) (by rfl) t.gc_BadKeepers rfl) (.own _) t.isi_BadKeepers) (r_acons (r_isi (cu := .ref t.A_BadLaying) t.hK (by rfl) t.n_isinstance (r_var (pv 0)) (pe_glob (v := .ref t.A_BadLaying) (by rfl) t.gc_BadLaying rfl) (.own _) t.isi_BadLaying) r_anil))))))
  (r_cons (set_at (fl := .fz) (i := 1) S.nd (b_bin (o_add t.hK) (r_var (pv 1)) (r_lst (r_acons (r_isi (cu := .ref t.A_BadDeal) t.hK (by rfl) t.n_isinstance (r_var (pv 0)) (pe_glob (v := .ref t.A_BadDeal) (by rfl) t.gc_BadDeal rfl) (.own _) t.isi_BadDeal) (r_acons (r_isi (cu := .ref t.A_BadNumber) t.hK (by rfl) t.n_isinstance (r_var (pv 0)) (pe_glob (v := .ref t.A_BadNumber) (by rfl) t.gc_BadNumber rfl) (.own _) t.isi_BadNumber) (r_acons (r_isi (cu := .ref t.A_BadCourse) t.hK (by rfl) t.n_isinstance (r_var (pv 0)) (pe_glob (v := .ref t.A_BadCourse) (by rfl) t.gc_BadCourse rfl) (.own _) t.isi_BadCourse) r_anil))))))
  (r_cons (set_at (fl := .fz) (i := 1) S.nd (b_bin (o_add t.hK) (r_var (pv 1)) (r_lst (r_acons (r_isi (cu := .ref t.A_BadRule) t.hK (by rfl) t.n_isinstance (r_var (pv 0)) (pe_glob (v := .ref t.A_BadRule) (by rfl) t.gc_BadRule rfl) (.own _) t.isi_BadRule) (r_acons (r_isi (cu := .ref t.A_NotNow) t.hK (by rfl) t.n_isinstance (r_var (pv 0)) (pe_glob (v := .ref t.A_NotNow) (by rfl) t.gc_NotNow rfl) (.own _) t.isi_NotNow) (r_acons (r_isi (cu := .ref t.A_NothingDone) t.hK (by rfl) t.n_isinstance (r_var (pv 0)) (pe_glob (v := .ref t.A_NothingDone) (by rfl) t.gc_NothingDone rfl) (.own _) t.isi_NothingDone) r_anil))))))
  (r_one (r_ret (b_bin (o_add t.hK) (r_var (pv 1)) (r_lst (r_acons (r_isi (cu := .ref t.A_BadJournal) t.hK (by rfl) t.n_isinstance (r_var (pv 0)) (pe_glob (v := .ref t.A_BadJournal) (by rfl) t.gc_BadJournal rfl) (.own _) t.isi_BadJournal) (r_acons (r_isi (cu := .ref t.A_BadText) t.hK (by rfl) t.n_isinstance (r_var (pv 0)) (pe_glob (v := .ref t.A_BadText) (by rfl) t.gc_BadText rfl) (.own _) t.isi_BadText) r_anil))))))))))
theorem ok_law_alone (t : Tie P K mg G) : FnG P w K mg base 2 t.f_law_alone t.fd_law_alone ["_law_error", "_law_place"] (spA G 2 D_law_alone) :=
  have S := S_law_alone
  def_okA t.F_law_alone S rfl fun cdv A outer s H E z hr =>
  (r_cons (r_setlc (fl := .fz) (i := 2) rfl S.nd rfl rfl rfl (own := [("_law_k", 3)]) (r_irange1 rfl t.n_range (r_acons (r_const pe_int rfl) r_anil)) (by show BlkOk N_law_alone (defScope s_law_alone) _ _; exact ⟨rfl, by decide +kernel, by decide +kernel, by decide +kernel, by decide +kernel⟩) (by decide) (fun _ _ _ _ _ => (g_at (i := 3) S.nd)) (fun _ _ _ _ _ => pts_no) (fun _ _ _ _ _ => (b_cmp (o_eq hr t.hK) (r_var (pv 3)) (r_var (pv 1)))))
  (r_one (r_ret (r_andV (b_cmp (o_eq hr t.hK) (r_call tkD (ok_law_marks t) (hr.mono (by decide)) (by rfl) t.g_law_marks t.F_law_marks.kp t.b_law_marks (r_acons (r_var (pv 0)) r_anil) (by exact (alen_cons alen_nil))) (r_var (pv 2))) (r_andV (r_isi (cu := .ref t.A_LockError) t.hK (by rfl) t.n_isinstance (r_var (pv 0)) (pe_glob (v := .ref t.A_LockError) (by rfl) t.gc_LockError rfl) (.own _) t.isi_LockError) (r_oneV (r_isi (cu := .type "ValueError") t.hK (by rfl) t.n_isinstance (r_var (pv 0)) (pe_bltn (v := .ty "ValueError") (by rfl) t.n_ValueError (by decide +kernel) rfl) (.ty _) t.isi_ValueError)))))))
theorem ok_law_with_fields (t : Tie P K mg G) : FnG P w K mg base 3 t.f_law_with_fields t.fd_law_with_fields ["_law_item"] (spA G 1 D_law_with_fields) :=
  have S := S_law_with_fields
  def_okA t.F_law_with_fields S rfl fun cdv A outer s H E z hr =>
  (r_cons (set_at (fl := .fz) (i := 1) S.nd (r_lst (r_acons (r_mkX t.x_BadWeb (hr.mono (by decide)) t.cm_BadWeb (by rfl) t.gc_BadWeb (r_acons (r_var (pv 0)) r_anil)) (r_acons (r_mkXK t.x_BadWeb (hr.mono (by decide)) t.cm_BadWeb (by rfl) t.gc_BadWeb (r_kcons (r_var (pv 0)) r_knil)) (r_acons (r_mkX t.x_BadDeal (hr.mono (by decide)) t.cm_BadDeal (by rfl) t.gc_BadDeal (r_acons (r_var (pv 0)) r_anil)) (r_acons (r_mkXK t.x_BadDeal (hr.mono (by decide)) t.cm_BadDeal (by rfl) t.gc_BadDeal (r_kcons (r_var (pv 0)) r_knil)) (r_acons (r_mkX t.x_BadRule (hr.mono (by decide)) t.cm_BadRule (by rfl) t.gc_BadRule (r_acons (r_var (pv 0)) r_anil)) (r_acons (r_mkXK t.x_BadRule (hr.mono (by decide)) t.cm_BadRule (by rfl) t.gc_BadRule (r_kcons (r_var (pv 0)) r_knil)) r_anil))))))))
  (r_cons (r_setlc (fl := .fz) (i := 2) rfl S.nd rfl rfl rfl (own := [("_law_k", 3), ("_law_error", 4)]) (r_ienum t.hK rfl t.n_enumerate (r_acons (r_var (pv 1)) r_anil)) (by show BlkOk N_law_with_fields (defScope s_law_with_fields) _ _; exact ⟨rfl, by decide +kernel, by decide +kernel, by decide +kernel, by decide +kernel⟩) (by decide) (fun _ _ _ _ _ => (g_tup rfl t.hK (g_cons (g_at (i := 3) S.nd) (g_cons (g_at (i := 4) S.nd) g_nil)))) (fun _ _ _ _ _ => pts_no) (fun _ _ _ _ _ => (r_tup (r_acons (b_ix (o_idx t.hK) (r_lst (r_acons (r_const pe_int rfl) (r_acons (r_const pe_int rfl) (r_acons (r_const pe_int rfl) r_anil)))) (b_bin (o_fdiv) (r_var (pv 3)) (r_const pe_int rfl))) (r_acons (r_var (pv 4)) (r_acons (r_fldX t.hK t.ax_part (r_var (pv 4)) rfl) r_anil))))))
  (r_cons (set_at (fl := .fz) (i := 2) S.nd (b_bin (o_add t.hK) (r_var (pv 2)) (r_lc rfl S.nd (own := [("_law_error", 4)]) (r_iseq t.hK (r_lst (r_acons (r_mkX t.x_NoParty (hr.mono (by decide)) t.cm_NoParty (by rfl) t.gc_NoParty (r_acons (r_var (pv 0)) r_anil)) (r_acons (r_mkXK t.x_NoParty (hr.mono (by decide)) t.cm_NoParty (by rfl) t.gc_NoParty (r_kcons (r_var (pv 0)) r_knil)) r_anil)))) (by show BlkOk N_law_with_fields (defScope s_law_with_fields) _ _; exact ⟨rfl, by decide +kernel, by decide +kernel, by decide +kernel, by decide +kernel⟩) (by decide) (fun _ _ _ _ _ => (g_at (i := 4) S.nd)) (fun _ _ _ _ _ => pts_no) (fun _ _ _ _ _ => (r_tup (r_acons (r_const pe_int rfl) (r_acons (r_var (pv 4)) (r_acons (r_fldX t.hK t.ax_party (r_var (pv 4)) rfl) r_anil))))))))
  (r_cons (set_at (fl := .fz) (i := 2) S.nd (b_bin (o_add t.hK) (r_var (pv 2)) (r_lc rfl S.nd (own := [("_law_error", 4)]) (r_iseq t.hK (r_lst (r_acons (r_mkX t.x_NoHanding (hr.mono (by decide)) t.cm_NoHanding (by rfl) t.gc_NoHanding (r_acons (r_var (pv 0)) r_anil)) (r_acons (r_mkXK t.x_NoHanding (hr.mono (by decide)) t.cm_NoHanding (by rfl) t.gc_NoHanding (r_kcons (r_var (pv 0)) r_knil)) r_anil)))) (by show BlkOk N_law_with_fields (defScope s_law_with_fields) _ _; exact ⟨rfl, by decide +kernel, by decide +kernel, by decide +kernel, by decide +kernel⟩) (by decide) (fun _ _ _ _ _ => (g_at (i := 4) S.nd)) (fun _ _ _ _ _ => pts_no) (fun _ _ _ _ _ => (r_tup (r_acons (r_const pe_int rfl) (r_acons (r_var (pv 4)) (r_acons (r_fldX t.hK t.ax_handing (r_var (pv 4)) rfl) r_anil))))))))
  (r_cons (set_at (fl := .fz) (i := 1) S.nd (r_lst (r_acons (r_mkX t.x_BadLaying (hr.mono (by decide)) t.cm_BadLaying (by rfl) t.gc_BadLaying (r_acons (r_var (pv 0)) r_anil)) (r_acons (r_mkXK t.x_BadLaying (hr.mono (by decide)) t.cm_BadLaying (by rfl) t.gc_BadLaying (r_kcons (r_var (pv 0)) r_knil)) (r_acons (r_mkX t.x_BadJournal (hr.mono (by decide)) t.cm_BadJournal (by rfl) t.gc_BadJournal (r_acons (r_var (pv 0)) r_anil)) (r_acons (r_mkXK t.x_BadJournal (hr.mono (by decide)) t.cm_BadJournal (by rfl) t.gc_BadJournal (r_kcons (r_var (pv 0)) r_knil)) r_anil))))))
  (r_cons (set_at (fl := .fz) (i := 2) S.nd (b_bin (o_add t.hK) (r_var (pv 2)) (r_lc rfl S.nd (own := [("_law_k", 3), ("_law_error", 4)]) (r_ienum t.hK rfl t.n_enumerate (r_acons (r_var (pv 1)) r_anil)) (by show BlkOk N_law_with_fields (defScope s_law_with_fields) _ _; exact ⟨rfl, by decide +kernel, by decide +kernel, by decide +kernel, by decide +kernel⟩) (by decide) (fun _ _ _ _ _ => (g_tup rfl t.hK (g_cons (g_at (i := 3) S.nd) (g_cons (g_at (i := 4) S.nd) g_nil)))) (fun _ _ _ _ _ => pts_no) (fun _ _ _ _ _ => (r_tup (r_acons (b_ix (o_idx t.hK) (r_lst (r_acons (r_const pe_int rfl) (r_acons (r_const pe_int rfl) r_anil))) (b_bin (o_fdiv) (r_var (pv 3)) (r_const pe_int rfl))) (r_acons (r_var (pv 4)) (r_acons (r_fldX t.hK t.ax_at (r_var (pv 4)) rfl) r_anil))))))))
  (r_cons (set_at (fl := .fz) (i := 2) S.nd (b_bin (o_add t.hK) (r_var (pv 2)) (r_lc rfl S.nd (own := [("_law_error", 4)]) (r_iseq t.hK (r_lst (r_acons (r_mkX t.x_BadNumber (hr.mono (by decide)) t.cm_BadNumber (by rfl) t.gc_BadNumber (r_acons (r_var (pv 0)) r_anil)) (r_acons (r_mkXK t.x_BadNumber (hr.mono (by decide)) t.cm_BadNumber (by rfl) t.gc_BadNumber (r_kcons (r_var (pv 0)) r_knil)) r_anil)))) (by show BlkOk N_law_with_fields (defScope s_law_with_fields) _ _; exact ⟨rfl, by decide +kernel, by decide +kernel, by decide +kernel, by decide +kernel⟩) (by decide) (fun _ _ _ _ _ => (g_at (i := 4) S.nd)) (fun _ _ _ _ _ => pts_no) (fun _ _ _ _ _ => (r_tup (r_acons (r_const pe_int rfl) (r_acons (r_var (pv 4)) (r_acons (r_fldX t.hK t.ax_number (r_var (pv 4)) rfl) r_anil))))))))
  (r_cons (set_at (fl := .fz) (i := 2) S.nd (b_bin (o_add t.hK) (r_var (pv 2)) (r_lc rfl S.nd (own := [("_law_error", 4)]) (r_iseq t.hK (r_lst (r_acons (r_mkX t.x_NotNow (hr.mono (by decide)) t.cm_NotNow (by rfl) t.gc_NotNow (r_acons (r_var (pv 0)) r_anil)) (r_acons (r_mkXK t.x_NotNow (hr.mono (by decide)) t.cm_NotNow (by rfl) t.gc_NotNow (r_kcons (r_var (pv 0)) r_knil)) r_anil)))) (by show BlkOk N_law_with_fields (defScope s_law_with_fields) _ _; exact ⟨rfl, by decide +kernel, by decide +kernel, by decide +kernel, by decide +kernel⟩) (by decide) (fun _ _ _ _ _ => (g_at (i := 4) S.nd)) (fun _ _ _ _ _ => pts_no) (fun _ _ _ _ _ => (r_tup (r_acons (r_const pe_int rfl) (r_acons (r_var (pv 4)) (r_acons (r_fldX t.hK t.ax_word (r_var (pv 4)) rfl) r_anil))))))))
  (r_one (r_ret (b_bin (o_add t.hK) (r_var (pv 2)) (r_lc rfl S.nd (own := [("_law_error", 4)]) (r_iseq t.hK (r_lst (r_acons (r_mkX t.x_BadText (hr.mono (by decide)) t.cm_BadText (by rfl) t.gc_BadText (r_acons (r_var (pv 0)) r_anil)) (r_acons (r_mkXK t.x_BadText (hr.mono (by decide)) t.cm_BadText (by rfl) t.gc_BadText (r_kcons (r_var (pv 0)) r_knil)) r_anil)))) (by show BlkOk N_law_with_fields (defScope s_law_with_fields) _ _; exact ⟨rfl, by decide +kernel, by decide +kernel, by decide +kernel, by decide +kernel⟩) (by decide) (fun _ _ _ _ _ => (g_at (i := 4) S.nd)) (fun _ _ _ _ _ => pts_no) (fun _ _ _ _ _ => (r_tup (r_acons (r_const pe_int rfl) (r_acons (r_var (pv 4)) (r_acons (r_fldX t.hK t.ax_line (r_var (pv 4)) rfl) r_anil)))))))))))))))))
theorem ok_law (t : Tie P K mg G) : FnG P w K mg base 4 t.f_law t.fd_law ["_law_script"] (spA G 1 D_law) :=
  have S := S_law
  def_okA t.F_law S rfl fun cdv A outer s H E z hr =>
  (r_cons (set_at (fl := .ow) (i := 1) S.nd (r_call tkD (ok_law_begin t) (hr.mono (by decide)) (by rfl) t.g_law_begin t.F_law_begin.kp t.b_law_begin (r_acons (r_var (pv 0)) r_anil) (by exact (alen_cons alen_nil))))
  (r_cons (r_for paD rfl (r_irange1 rfl t.n_range (r_acons (b_bin (o_add t.hK) (r_const pe_int rfl) (b_cb (o_min rfl) t.n_min (r_acons (b_cb (o_len t.hK) t.n_len (r_acons (r_var (pv 0)) r_anil)) (r_acons (r_const pe_int rfl) r_anil)))) r_anil)) (g_at (i := 2) S.nd) ne_name
  (r_cons (set_at (fl := .fz) (i := 3) S.nd (r_callM tkD (ok_law_pick t) (hr.mono (by decide)) (by rfl) t.g_law_pick t.F_law_pick.kp t.b_law_pick (pv 1) (r_acons (r_lst (r_acons (r_const pe_str rfl) (r_acons (r_const pe_str rfl) (r_acons (r_const pe_str rfl) (r_acons (r_const pe_str rfl) r_anil))))) r_anil) (by exact (alen_cons alen_nil))))
  (r_cons (set_at (fl := .fz) (i := 4) S.nd (r_callM tkD (ok_law_pick t) (hr.mono (by decide)) (by rfl) t.g_law_pick t.F_law_pick.kp t.b_law_pick (pv 1) (r_acons (r_lst (r_acons (r_const pe_int rfl) (r_acons (r_const pe_int rfl) (r_acons (r_const pe_non rfl) (r_acons (r_const pe_str rfl) (r_acons (r_const pe_str rfl) (r_acons (r_tup (r_acons (r_const pe_int rfl) (r_acons (r_const pe_non rfl) r_anil))) (r_acons (r_tup (r_acons (r_tup (r_acons (r_const pe_int rfl) (r_acons (r_const pe_bl rfl) r_anil))) r_anil)) (r_acons (r_lst (r_acons (r_const pe_int rfl) r_anil)) (r_acons (b_bin (o_pow) (r_const pe_int rfl) (r_const pe_int rfl)) r_anil)))))))))) r_anil) (by exact (alen_cons alen_nil))))
  (r_cons (r_for paD rfl (r_iseq t.hK (r_call tkD (ok_law_plain t) (hr.mono (by decide)) (by rfl) t.g_law_plain t.F_law_plain.kp t.b_law_plain (r_acons (r_var (pv 3)) r_anil) (by exact (alen_cons alen_nil)))) (g_tup rfl t.hK (g_cons (g_at (i := 5) S.nd) (g_cons (g_at (i := 6) S.nd) g_nil))) (ne_tup (ne_cons ne_name (ne_cons ne_name ne_nil)))
  (r_one (r_if (r_or (b_tcmp (o_ne hr t.hK) (b_ct (o_str hr t.hK t.strx) t.n_str (r_acons (r_var (pv 6)) r_anil)) (r_var (pv 3))) (r_or1 (r_and (b_tcmp (o_lt) (r_var (pv 5)) (r_const pe_int rfl)) (r_and1 (r_not (r_test (r_call tkD (ok_law_alone t) (hr.mono (by decide)) (by rfl) t.g_law_alone t.F_law_alone.kp t.b_law_alone (r_acons (r_var (pv 6)) (r_acons (r_var (pv 5)) r_anil)) (by exact (alen_cons (alen_cons alen_nil)))))))).pt)).pt
  (r_one (r_ret (r_const pe_bl rfl)))
  r_nil)))
  (r_cons (r_for paD rfl (r_iseq t.hK (r_call tkD (ok_law_with_fields t) (hr.mono (by decide)) (by rfl) t.g_law_with_fields t.F_law_with_fields.kp t.b_law_with_fields (r_acons (r_var (pv 4)) r_anil) (by exact (alen_cons alen_nil)))) (g_tup rfl t.hK (g_cons (g_at (i := 5) S.nd) (g_cons (g_at (i := 6) S.nd) (g_cons (g_at (i := 7) S.nd) g_nil)))) (ne_tup (ne_cons ne_name (ne_cons ne_name (ne_cons ne_name ne_nil))))
  (r_one (r_if (r_or (r_not (r_test (r_call tkD (ok_law_alone t) (hr.mono (by decide)) (by rfl) t.g_law_alone t.F_law_alone.kp t.b_law_alone (r_acons (r_var (pv 6)) (r_acons (r_var (pv 5)) r_anil)) (by exact (alen_cons (alen_cons alen_nil)))))) (r_or1 (b_tcmp (o_ne hr t.hK) (b_cb (o_repr hr t.hK) t.n_repr (r_acons (r_var (pv 7)) r_anil)) (b_cb (o_repr hr t.hK) t.n_repr (r_acons (r_var (pv 4)) r_anil))))).pt
  (r_one (r_ret (r_const pe_bl rfl)))
  r_nil)))
  (r_cons (set_at (fl := .fz) (i := 8) S.nd (r_mkS t.y_LockError t.cm_LockError (by rfl) t.gc_LockError (r_var (pv 3))))
  (r_one (r_if (r_or (b_tcmp (o_ne hr t.hK) (r_call tkD (ok_law_marks t) (hr.mono (by decide)) (by rfl) t.g_law_marks t.F_law_marks.kp t.b_law_marks (r_acons (r_var (pv 8)) r_anil) (by exact (alen_cons alen_nil))) (b_bin (o_mul) (r_lst (r_acons (r_const pe_bl rfl) r_anil)) (r_const pe_int rfl))) (r_or1 (r_not (r_test (r_isi (cu := .type "ValueError") t.hK (by rfl) t.n_isinstance (r_var (pv 8)) (pe_bltn (v := .ty "ValueError") (by rfl) t.n_ValueError (by decide +kernel) rfl) (.ty _) t.isi_ValueError))))).pt
  (r_one (r_ret (r_const pe_bl rfl)))
  r_nil))))))))
  (r_one (r_ret (r_const pe_bl rfl)))))
end
end Lk01
namespace Lk01
open PySem PySem.Spec PyProof.Rows L2 VL
theorem addL {a b : List D} (h : a.length + b.length ≤ 1000) : dAdd (.lst a) (.lst b) = some (.lst (a ++ b), .ow) := by
  have z : a.length + b.length ≤ sizeLine := by rw [sizeLine_eq]; omega
  show (if a.length + b.length ≤ sizeLine then some (D.lst (a ++ b), Kd.ow) else none) = _
  rw [if_pos z]
def mkD (c : Nat) : D := .lst ((List.range 14).map fun k => .bl (c == k + 1))
theorem tagX (c : Nat) (fs : List (Str × D)) : (D.exc c fs).tag = some (.exn c) := Eq.trans rfl rfl
theorem tagS (c : Nat) (x : Str) : (D.exs c x).tag = some (.exn c) := Eq.trans rfl rfl
/-- e is an exception of the class c -/
def IsE (c : Nat) (e : D) : Prop := e.tag = some (.exn c)
def tabK : Nat → List (Tag × Bool)
  | 1 => tab_BadWeb
  | 2 => tab_NoParty
  | 3 => tab_NoHanding
  | 4 => tab_BadLeaders
  | 5 => tab_BadKeepers
  | 6 => tab_BadLaying
  | 7 => tab_BadDeal
  | 8 => tab_BadNumber
  | 9 => tab_BadCourse
  | 10 => tab_BadRule
  | 11 => tab_NotNow
  | 12 => tab_NothingDone
  | 13 => tab_BadJournal
  | 14 => tab_BadText
  | _ => tab_LockError
theorem tab_ok : ∀ k : Fin 15, ∀ c : Fin 15, k.val ≠ 0 → (tabK k.val).lookup (.exn c.val) = some (c.val == k.val) := by decide +kernel
theorem tabL_ok : ∀ c : Fin 15, tab_LockError.lookup (.exn c.val) = some true ∧ tab_ValueError.lookup (.exn c.val) = some true := by decide +kernel
theorem isi {c k : Nat} {e : D} (h : IsE c e) (hc : c < 15) (hk : k < 15) (k0 : k ≠ 0) : dIsi (tabK k) e = some (.bl (c == k), .fz) := by
  unfold dIsi; rw [h]; simp [tab_ok ⟨k, hk⟩ ⟨c, hc⟩ k0]
theorem isiL {c : Nat} {e : D} (h : IsE c e) (hc : c < 15) : dIsi tab_LockError e = some (.bl true, .fz) ∧ dIsi tab_ValueError e = some (.bl true, .fz) := by
  unfold dIsi; rw [h]; simp [tabL_ok ⟨c, hc⟩]
theorem marks_eq {c : Nat} {e : D} (h : IsE c e) (hc : c < 15) : D_law_marks [some (e, .fz)] = .ok (mkD c, .ow) := by
  have h1 : dIsi tab_BadWeb e = some (.bl (c == 1), .fz) := isi (k := 1) h hc (by decide) (by decide)
  have h2 : dIsi tab_NoParty e = some (.bl (c == 2), .fz) := isi (k := 2) h hc (by decide) (by decide)
  have h3 : dIsi tab_NoHanding e = some (.bl (c == 3), .fz) := isi (k := 3) h hc (by decide) (by decide)
  have h4 : dIsi tab_BadLeaders e = some (.bl (c == 4), .fz) := isi (k := 4) h hc (by decide) (by decide)
  have h5 : dIsi tab_BadKeepers e = some (.bl (c == 5), .fz) := isi (k := 5) h hc (by decide) (by decide)
  have h6 : dIsi tab_BadLaying e = some (.bl (c == 6), .fz) := isi (k := 6) h hc (by decide) (by decide)
  have h7 : dIsi tab_BadDeal e = some (.bl (c == 7), .fz) := isi (k := 7) h hc (by decide) (by decide)
  have h8 : dIsi tab_BadNumber e = some (.bl (c == 8), .fz) := isi (k := 8) h hc (by decide) (by decide)
  have h9 : dIsi tab_BadCourse e = some (.bl (c == 9), .fz) := isi (k := 9) h hc (by decide) (by decide)
  have h10 : dIsi tab_BadRule e = some (.bl (c == 10), .fz) := isi (k := 10) h hc (by decide) (by decide)
  have h11 : dIsi tab_NotNow e = some (.bl (c == 11), .fz) := isi (k := 11) h hc (by decide) (by decide)
  have h12 : dIsi tab_NothingDone e = some (.bl (c == 12), .fz) := isi (k := 12) h hc (by decide) (by decide)
  have h13 : dIsi tab_BadJournal e = some (.bl (c == 13), .fz) := isi (k := 13) h hc (by decide) (by decide)
  have h14 : dIsi tab_BadText e = some (.bl (c == 14), .fz) := isi (k := 14) h hc (by decide) (by decide)
  have z : ∀ n : Nat, n ≤ 100 → n ≤ sizeLine := fun n h => by rw [sizeLine_eq]; omega
  simp [D_law_marks, m_law_marks, bodyEnv, setSlot, canSet, fzAll, D.fzOk, z, addL, h1, h2, h3, h4, h5, h6, h7, h8, h9, h10, h11, h12, h13, h14, mkD, List.range, List.range.loop]
theorem eqM : ∀ c : Fin 15, dEqB (mkD c) (mkD c) = some true := by decide +kernel
theorem eqB : ∀ a b : Fin 15, dEqB (.int (a.val : Int)) (.int (b.val : Int)) = some (a == b) := by decide +kernel
theorem IsE.fz {c : Nat} {e : D} (h : IsE c e) : e.fzOk = true := by
  unfold IsE at h
  cases e <;> simp [D.tag] at h <;> rfl
theorem alone_eq {c : Nat} {e : D} (h : IsE c e) (hc : c < 15) (h0 : c ≠ 0) : D_law_alone [some (e, .fz), some (.int ((c : Int) - 1), .fz)] = .ok (.bl true, .fz) := by
  have hm := marks_eq h hc
  have em : dEq (mkD c) (mkD c) = some (.bl true, .fz) := by unfold dEq; rw [eqM ⟨c, hc⟩]; rfl
  obtain ⟨l1, l2⟩ := isiL h hc
  have z : (((List.range 14).map fun k : Nat => D.int (k : Int))).length ≤ sizeLine := by rw [List.length_map, List.length_range, sizeLine_eq]; omega
  have eM : D.lst (((List.range 14).filter fun _ => true).map fun k : Nat => D.bl (decide ((k : Int) = (c : Int) - 1))) = mkD c := by
    rw [List.filter_eq_self.mpr (fun _ _ => rfl)]
    unfold mkD
    congr 1
    refine List.map_congr_left fun k _ => ?_
    congr 1
    have : ((k : Int) = (c : Int) - 1) ↔ (c = k + 1) := by omega
    simp [this]; rfl
  have lc := lcS_map (g := gNm 3) (t := bYes) (e := xAp2 true dEq (xV 3) (xV 1)) (ρ := [some (e, .fz), some (.int ((c : Int) - 1), .fz), none, none]) (fun k : Nat => D.int (k : Int)) (fun _ => true) (fun k => D.bl (decide ((k : Int) = (c : Int) - 1))) (List.range 14) (fun k _ => ?_)
  · have rk := rngK1_len (n := 14) (k := .fz) (ρ1 := [some (e, .fz), some (.int ((c : Int) - 1), .fz), none, none]) (by decide)
    have w : wipable [some (e, .fz), some (.int ((c : Int) - 1), .fz), none, none] [3] = true := by simp [wipable, slotFree]
    have x := xLc_ok (vs := [3]) (iRng_1 (f := aC true (xC (.int 14)) aN) (ρ := [some (e, .fz), some (.int ((c : Int) - 1), .fz), none, none]) (by simp) rk) w z lc
    rw [eM] at x
    simp only [D_law_alone, m_law_alone]
    refine dA_rt (ρ1 := [some (e, .fz), some (.int ((c : Int) - 1), .fz), some (mkD c, .fz), none]) ?_ (by decide)
    show sSeq _ _ [some (e, Fl.fz), some (D.int ((c : Int) - 1), Fl.fz), none, none] = _
    rw [sSeq_nx (sSet_ok (ρ2 := [some (e, .fz), some (.int ((c : Int) - 1), .fz), some (mkD c, .fz), none]) (show _ = _ from x) ?_)]
    · generalize mkD c = M at hm em ⊢
      generalize D_law_marks = DM at hm ⊢
      have fz := h.fz
      have ar : VL.argsOk [(e, Kd.fz)] = true := by simp [VL.argsOk, fz]
      simp [ar, hm, em, l1, l2]
    · have fz : (mkD c).fzOk = true := rfl
      generalize mkD c = M at fz
      simp [setSlot, canSet, fz]
  · exact ⟨[some (e, .fz), some (.int ((c : Int) - 1), .fz), none, some (.int (k : Int), .fz)], by simp [setSlot, canSet], [some (e, .fz), some (.int ((c : Int) - 1), .fz), none, some (.int (k : Int), .fz)], by simp [bYes], fun _ => ⟨.fz, _, by simp; rfl, by simp, rfl⟩⟩
end Lk01
namespace Lk01
open PySem PySem.Spec PyProof.Rows L2 VL
def plainL (x : Str) : List D := [(4 : Nat), 5, 9, 12].map (fun c => .tup [.int ((c : Int) - 1), .exs c x]) ++ [.tup [.int 99, .exs 0 x]]
theorem zz {n : Nat} (h : n ≤ 100) : n ≤ sizeLine := by rw [sizeLine_eq]; omega
theorem plain_eq (x : Str) : D_law_plain [some (.str x, .fz)] = .ok (.lst (plainL x), .ow) := by
  have z : ∀ n : Nat, n ≤ 100 → n ≤ sizeLine := fun n => zz
  simp [D_law_plain, m_law_plain, bodyEnv, setSlot, canSet, fzAll, D.fzOk, z, addL, xMkS, plainL]
theorem fzE (c : Nat) (l : List (Str × D)) : (D.exc c l).fzOk = true := Eq.trans rfl rfl
theorem fzI (n : Int) : (D.int n).fzOk = true := Eq.trans rfl rfl
theorem fzT (l : List D) : (D.tup l).fzOk = true := Eq.trans rfl rfl
def fL : List (Nat × Str) := [(1, "part"), (1, "part"), (7, "part"), (7, "part"), (10, "part"), (10, "part"), (2, "party"), (2, "party"), (3, "handing"), (3, "handing"), (6, "at"), (6, "at"), (13, "at"), (13, "at"), (8, "number"), (8, "number"), (11, "word"), (11, "word"), (14, "line"), (14, "line")]
def fieldD (d : D) (p : Nat × Str) : D := .tup [.int ((p.1 : Int) - 1), .exc p.1 [(p.2, d)], d]
theorem comp1 {f : Str} {cs : List Nat} {c : Nat} {n : Int} {d s1 s2 : D} (hn : n = (c : Int) - 1) (hc : cs.contains c = true) (fz : d.fzOk = true) :
    xLc [4] (iSeq (xLst (aC true (xMkX c f (aC true (xV 0) aN)) (aC true (xMkX c f (aC true (xV 0) aN)) aN)))) (gNm 4) bYes (xTup (aC true (xC (.int n)) (aC true (xV 4) (aC true (xAp1 (dFldX cs f) (xV 4)) aN)))) [some (d, .fz), some (s1, .fz), some (s2, .fz), none, none]
      = .ok (.lst [fieldD d (c, f), fieldD d (c, f)], .ow, [some (d, .fz), some (s1, .fz), some (s2, .fz), none, none]) := by
  have z : ∀ n : Nat, n ≤ 100 → n ≤ sizeLine := fun n => zz
  have a1 : fzAll [(d, Kd.fz)] = true := by simp [fzAll, fz]
  have hc2 : c ∈ cs := by simpa using hc
  simp [xMkX, a1, fzAll, fzE, fzI, fzT, z, wipable, slotFree, wipeR, lcS, setSlot, canSet, bYes, dFldX, hc2, fz, fieldD, ← hn, List.lookup]
theorem comp6 {d s2 : D} {k2 : Slot} (hk : k2 = none ∨ k2 = some (s2, .fz)) (fz : d.fzOk = true) :
    xLc [3, 4] (iEnumD (aC true (xV 1) aN)) (gTp 2 (gsC (gNm 3) (gsC (gNm 4) gsN))) bYes (xTup (aC true (xAp2 true dIdx (xLst (aC true (xC (.int 0)) (aC true (xC (.int 6)) (aC true (xC (.int 9)) aN)))) (xAp2 true dFdiv (xV 3) (xC (.int 2)))) (aC true (xV 4) (aC true (xAp1 (dFldX [1, 7, 10] "part") (xV 4)) aN))))
      [some (d, .fz), some (.lst [.exc 1 [("part", d)], .exc 1 [("part", d)], .exc 7 [("part", d)], .exc 7 [("part", d)], .exc 10 [("part", d)], .exc 10 [("part", d)]], .fz), k2, none, none]
      = .ok (.lst ([((1 : Nat), ("part" : Str)), (1, "part"), (7, "part"), (7, "part"), (10, "part"), (10, "part")].map (fieldD d)), .ow, [some (d, .fz), some (.lst [.exc 1 [("part", d)], .exc 1 [("part", d)], .exc 7 [("part", d)], .exc 7 [("part", d)], .exc 10 [("part", d)], .exc 10 [("part", d)]], .fz), k2, none, none]) := by
  have z : ∀ n : Nat, n ≤ 100 → n ≤ sizeLine := fun n => zz
  have hd : ∀ n : Int, CDivN n 2 := fun n => ⟨by decide, by decide⟩
  have i0 : dIdx (.lst [.int 0, .int 6, .int 9]) (.int 0) = some (.int 0, .fz) := rfl
  have i1 : dIdx (.lst [.int 0, .int 6, .int 9]) (.int 1) = some (.int 6, .fz) := rfl
  have i2 : dIdx (.lst [.int 0, .int 6, .int 9]) (.int 2) = some (.int 9, .fz) := rfl
  rcases hk with rfl | rfl <;>
  simp [fzAll, fzE, fzI, fzT, z, wipable, slotFree, wipeR, lcS, setSlot, canSet, bYes, dFldX, fz, fieldD, List.lookup, iEnumD, enumFrom, gTp, gsC, gsN, gNm, hd, i0, i1, i2]
theorem comp4 {d s2 : D} {k2 : Slot} (hk : k2 = none ∨ k2 = some (s2, .fz)) (fz : d.fzOk = true) :
    xLc [3, 4] (iEnumD (aC true (xV 1) aN)) (gTp 2 (gsC (gNm 3) (gsC (gNm 4) gsN))) bYes (xTup (aC true (xAp2 true dIdx (xLst (aC true (xC (.int 5)) (aC true (xC (.int 12)) aN))) (xAp2 true dFdiv (xV 3) (xC (.int 2)))) (aC true (xV 4) (aC true (xAp1 (dFldX [6, 13] "at") (xV 4)) aN))))
      [some (d, .fz), some (.lst [.exc 6 [("at", d)], .exc 6 [("at", d)], .exc 13 [("at", d)], .exc 13 [("at", d)]], .fz), k2, none, none]
      = .ok (.lst ([((6 : Nat), ("at" : Str)), (6, "at"), (13, "at"), (13, "at")].map (fieldD d)), .ow, [some (d, .fz), some (.lst [.exc 6 [("at", d)], .exc 6 [("at", d)], .exc 13 [("at", d)], .exc 13 [("at", d)]], .fz), k2, none, none]) := by
  have z : ∀ n : Nat, n ≤ 100 → n ≤ sizeLine := fun n => zz
  have hd : ∀ n : Int, CDivN n 2 := fun n => ⟨by decide, by decide⟩
  have i0 : dIdx (.lst [.int 5, .int 12]) (.int 0) = some (.int 5, .fz) := rfl
  have i1 : dIdx (.lst [.int 5, .int 12]) (.int 1) = some (.int 12, .fz) := rfl
  rcases hk with rfl | rfl <;>
  simp [fzAll, fzE, fzI, fzT, z, wipable, slotFree, wipeR, lcS, setSlot, canSet, bYes, dFldX, fz, fieldD, List.lookup, iEnumD, enumFrom, gTp, gsC, gsN, gNm, hd, i0, i1]
theorem fzLst (l : List D) : (D.lst l).fzOk = true := Eq.trans rfl rfl
theorem addS {d : D} {s1 : Slot} {L M : List D} {e : EE} (he : e [some (d, .fz), s1, some (.lst L, .fz), none, none] = .ok (.lst M, .ow, [some (d, .fz), s1, some (.lst L, .fz), none, none])) (hl : L.length + M.length ≤ 1000) :
    sSet .fz 2 (xAp2 true dAdd (xV 2) e) [some (d, .fz), s1, some (.lst L, .fz), none, none] = .ok (.nx [some (d, .fz), s1, some (.lst (L ++ M), .fz), none, none]) := by
  simp [he, addL hl, setSlot, canSet, fzLst]
theorem retS {d : D} {s1 : Slot} {L M : List D} {e : EE} (he : e [some (d, .fz), s1, some (.lst L, .fz), none, none] = .ok (.lst M, .ow, [some (d, .fz), s1, some (.lst L, .fz), none, none])) (hl : L.length + M.length ≤ 1000) :
    sRet (xAp2 true dAdd (xV 2) e) [some (d, .fz), s1, some (.lst L, .fz), none, none] = .ok (.rt (.lst (L ++ M)) .ow [some (d, .fz), s1, some (.lst L, .fz), none, none]) := by
  simp [he, addL hl]
theorem fields_eq {d : D} (fz : d.fzOk = true) : D_law_with_fields [some (d, .fz)] = .ok (.lst (fL.map (fieldD d)), .ow) := by
  have z : ∀ n : Nat, n ≤ 100 → n ≤ sizeLine := fun n => zz
  simp only [D_law_with_fields, m_law_with_fields]
  have r1 : sSet .fz 1 (xLst (aC true (xMkX 1 "part" (aC true (xV 0) aN)) (aC true (xMkX 1 "part" (aC true (xV 0) aN)) (aC true (xMkX 7 "part" (aC true (xV 0) aN)) (aC true (xMkX 7 "part" (aC true (xV 0) aN)) (aC true (xMkX 10 "part" (aC true (xV 0) aN)) (aC true (xMkX 10 "part" (aC true (xV 0) aN)) aN))))))) [some (d, .fz), none, none, none, none] = .ok (.nx [some (d, .fz), some (.lst ([.exc 1 [("part", d)], .exc 1 [("part", d)], .exc 7 [("part", d)], .exc 7 [("part", d)], .exc 10 [("part", d)], .exc 10 [("part", d)]]), .fz), none, none, none]) := by
    simp [xMkX, fzAll, fzE, fz, z, setSlot, canSet, fzLst]
  have r2 := fun L => show sSet .fz 1 (xLst (aC true (xMkX 6 "at" (aC true (xV 0) aN)) (aC true (xMkX 6 "at" (aC true (xV 0) aN)) (aC true (xMkX 13 "at" (aC true (xV 0) aN)) (aC true (xMkX 13 "at" (aC true (xV 0) aN)) aN))))) [some (d, .fz), some (.lst ([.exc 1 [("part", d)], .exc 1 [("part", d)], .exc 7 [("part", d)], .exc 7 [("part", d)], .exc 10 [("part", d)], .exc 10 [("part", d)]]), .fz), some (.lst L, .fz), none, none] = .ok (.nx [some (d, .fz), some (.lst ([.exc 6 [("at", d)], .exc 6 [("at", d)], .exc 13 [("at", d)], .exc 13 [("at", d)]]), .fz), some (.lst L, .fz), none, none]) by
    simp [xMkX, fzAll, fzE, fz, z, setSlot, canSet, fzLst]
  have c6 := comp6 (d := d) (s2 := .non) (.inl rfl) fz
  have r3 : ∀ {e : EE}, e [some (d, .fz), some (.lst ([.exc 1 [("part", d)], .exc 1 [("part", d)], .exc 7 [("part", d)], .exc 7 [("part", d)], .exc 10 [("part", d)], .exc 10 [("part", d)]]), .fz), none, none, none] = .ok (.lst ([((1 : Nat), ("part" : Str)), (1, "part"), (7, "part"), (7, "part"), (10, "part"), (10, "part")].map (fieldD d)), .ow, [some (d, .fz), some (.lst ([.exc 1 [("part", d)], .exc 1 [("part", d)], .exc 7 [("part", d)], .exc 7 [("part", d)], .exc 10 [("part", d)], .exc 10 [("part", d)]]), .fz), none, none, none]) → sSet .fz 2 e [some (d, .fz), some (.lst ([.exc 1 [("part", d)], .exc 1 [("part", d)], .exc 7 [("part", d)], .exc 7 [("part", d)], .exc 10 [("part", d)], .exc 10 [("part", d)]]), .fz), none, none, none] = .ok (.nx [some (d, .fz), some (.lst ([.exc 1 [("part", d)], .exc 1 [("part", d)], .exc 7 [("part", d)], .exc 7 [("part", d)], .exc 10 [("part", d)], .exc 10 [("part", d)]]), .fz), some (.lst (([((1 : Nat), ("part" : Str)), (1, "part"), (7, "part"), (7, "part"), (10, "part"), (10, "part")].map (fieldD d))), .fz), none, none]) := fun h => by
    simp [h, setSlot, canSet, fzLst]
  have eB : bodyEnv 5 [some (d, .fz)] = [some (d, .fz), none, none, none, none] := rfl
  rw [ev_dA, eB, sSeq_nx r1, sSeq_nx (r3 c6)]
  rw [sSeq_nx (addS (comp1 (n := 1) (c := 2) rfl rfl fz) (by simp))]
  rw [sSeq_nx (addS (comp1 (n := 2) (c := 3) rfl rfl fz) (by simp))]
  rw [sSeq_nx (r2 _)]
  rw [sSeq_nx (addS (comp4 (.inr rfl) fz) (by simp))]
  rw [sSeq_nx (addS (comp1 (n := 7) (c := 8) rfl rfl fz) (by simp))]
  rw [sSeq_nx (addS (comp1 (n := 10) (c := 11) rfl rfl fz) (by simp))]
  rw [retS (comp1 (n := 13) (c := 14) rfl rfl fz) (by simp)]
  rfl
end Lk01
namespace Lk01
open PySem PySem.Spec PyProof.Rows L2 VL
/-- a slot that may be set -/
def Fs (s : Slot) : Prop := s = none ∨ ∃ d, s = some (d, .fz)
theorem Fs.set {s : Slot} (h : Fs s) : (match (some s : Option Slot) with
  | some (some (_, .lk)) => false
  | some (some (_, .pn)) => false
  | some _ => true
  | none => false) = true := by
  rcases h with rfl | ⟨n, rfl⟩ <;> rfl
theorem Fs.some (d : D) : Fs (some (d, .fz)) := .inr ⟨d, rfl⟩
theorem dStr_ok {c : Nat} {x : Str} {cs : List Nat} (h : cs.contains c = true) : dStr cs (.exs c x) = some (.str x, .fz) := by
  show (if cs.contains c = true then some (D.str x, Kd.fz) else none) = _
  rw [if_pos h]
theorem body2 {a b c i s7 s8 : Slot} {x : Str} {p : Int} {k : Nat} (hk : k < 15) (hcs : [0, 4, 5, 9, 12].contains k = true) (hp : (k ≠ 0 ∧ p = (k : Int) - 1) ∨ p = 99) :
    mb_law_2 [a, b, c, some (.str x, .fz), i, some (.int p, .fz), some (.exs k x, .fz), s7, s8] = .ok (.nx [a, b, c, some (.str x, .fz), i, some (.int p, .fz), some (.exs k x, .fz), s7, s8]) := by
  have hs := dStr_ok (x := x) hcs
  have fe : (D.exs k x).fzOk = true := rfl
  generalize hcs' : [0, 4, 5, 9, 12] = cs at hs hcs
  have ar : VL.argsOk [(D.exs k x, Kd.fz), (D.int p, Kd.fz)] = true := rfl
  rcases hp with ⟨h0, rfl⟩ | rfl
  · have al := alone_eq (c := k) (e := .exs k x) rfl hk h0
    generalize D.exs k x = e at *
    simp [mb_law_2, hcs', hs, al, ar]
  · generalize D.exs k x = e at *
    simp [mb_law_2, hcs', hs]
theorem for2 {a b c i s5 s6 s7 s8 : Slot} {x : Str} (h5 : Fs s5) (h6 : Fs s6) :
    ∃ t5 t6, Fs t5 ∧ Fs t6 ∧ forL (gTp 2 (gsC (gNm 5) (gsC (gNm 6) gsN))) mb_law_2 (plainL x) [a, b, c, some (.str x, .fz), i, s5, s6, s7, s8] = .ok (.nx [a, b, c, some (.str x, .fz), i, t5, t6, s7, s8]) := by
  have e : plainL x = [((3 : Int), (4 : Nat)), (4, 5), (8, 9), (11, 12), (99, 0)].map fun p => D.tup [.int p.1, .exs p.2 x] := by simp [plainL]
  rw [e]
  refine forL_map (fun p : Int × Nat => D.tup [.int p.1, .exs p.2 x]) (fun xs ρ => (∃ s5 s6, Fs s5 ∧ Fs s6 ∧ ρ = [a, b, c, some (.str x, .fz), i, s5, s6, s7, s8]) ∧ ∀ p ∈ xs, p.2 < 15 ∧ [0, 4, 5, 9, 12].contains p.2 = true ∧ ((p.2 ≠ 0 ∧ p.1 = (p.2 : Int) - 1) ∨ p.1 = 99))
    (fun r => ∃ t5 t6, Fs t5 ∧ Fs t6 ∧ r = .ok (.nx [a, b, c, some (.str x, .fz), i, t5, t6, s7, s8])) (fun p xs ρ hI => ?_) (fun ρ hI => ?_) _ _ ⟨⟨s5, s6, h5, h6, rfl⟩, by decide⟩
  · obtain ⟨⟨s5, s6, h5, h6, rfl⟩, hp⟩ := hI
    obtain ⟨q1, q2, q3⟩ := hp p List.mem_cons_self
    have c5 : canSet [a, b, c, some (.str x, .fz), i, s5, s6, s7, s8] 5 = true := h5.set
    have c6 : canSet [a, b, c, some (.str x, .fz), i, some (.int p.1, .fz), s6, s7, s8] 6 = true := h6.set
    exact ⟨[a, b, c, some (.str x, .fz), i, some (.int p.1, .fz), some (.exs p.2 x, .fz), s7, s8], by simp [gTp, gsC, gsN, gNm, setSlot, c5, c6], .inl ⟨_, .inl (body2 q1 q2 q3), ⟨_, _, .some _, .some _, rfl⟩, fun q hq => hp q (List.mem_cons_of_mem _ hq)⟩⟩
  · obtain ⟨⟨s5, s6, h5, h6, rfl⟩, _⟩ := hI
    exact ⟨s5, s6, h5, h6, rfl⟩
theorem body3 {a b c i s8 : Slot} {d : D} {f s : Str} {k : Nat} (hk : k < 15) (h0 : k ≠ 0) (hr : dRepr d = some (.str s, .fz)) :
    mb_law_3 [a, b, c, i, some (d, .fz), some (.int ((k : Int) - 1), .fz), some (.exc k [(f, d)], .fz), some (d, .fz), s8] = .ok (.nx [a, b, c, i, some (d, .fz), some (.int ((k : Int) - 1), .fz), some (.exc k [(f, d)], .fz), some (d, .fz), s8]) := by
  have al := alone_eq (c := k) (e := .exc k [(f, d)]) rfl hk h0
  have ar : VL.argsOk [(D.exc k [(f, d)], Kd.fz), (D.int ((k : Int) - 1), Kd.fz)] = true := rfl
  generalize D.exc k [(f, d)] = e at *
  simp [mb_law_3, al, ar, hr]
theorem for3 {a b c i s5 s6 s7 s8 : Slot} {d : D} {s : Str} (h5 : Fs s5) (h6 : Fs s6) (h7 : Fs s7) (hr : dRepr d = some (.str s, .fz)) :
    ∃ t5 t6 t7, Fs t5 ∧ Fs t6 ∧ Fs t7 ∧ forL (gTp 3 (gsC (gNm 5) (gsC (gNm 6) (gsC (gNm 7) gsN)))) mb_law_3 (fL.map (fieldD d)) [a, b, c, i, some (d, .fz), s5, s6, s7, s8] = .ok (.nx [a, b, c, i, some (d, .fz), t5, t6, t7, s8]) := by
  refine forL_map (fieldD d) (fun xs ρ => (∃ s5 s6 s7, Fs s5 ∧ Fs s6 ∧ Fs s7 ∧ ρ = [a, b, c, i, some (d, .fz), s5, s6, s7, s8]) ∧ ∀ p ∈ xs, p.1 < 15 ∧ p.1 ≠ 0)
    (fun r => ∃ t5 t6 t7, Fs t5 ∧ Fs t6 ∧ Fs t7 ∧ r = .ok (.nx [a, b, c, i, some (d, .fz), t5, t6, t7, s8])) (fun p xs ρ hI => ?_) (fun ρ hI => ?_) _ _ ⟨⟨s5, s6, s7, h5, h6, h7, rfl⟩, by decide⟩
  · obtain ⟨⟨s5, s6, s7, h5, h6, h7, rfl⟩, hp⟩ := hI
    obtain ⟨q1, q2⟩ := hp p List.mem_cons_self
    have c5 : canSet [a, b, c, i, some (d, .fz), s5, s6, s7, s8] 5 = true := h5.set
    have c6 : canSet [a, b, c, i, some (d, .fz), some (.int ((p.1 : Int) - 1), .fz), s6, s7, s8] 6 = true := h6.set
    have c7 : canSet [a, b, c, i, some (d, .fz), some (.int ((p.1 : Int) - 1), .fz), some (.exc p.1 [(p.2, d)], .fz), s7, s8] 7 = true := h7.set
    exact ⟨[a, b, c, i, some (d, .fz), some (.int ((p.1 : Int) - 1), .fz), some (.exc p.1 [(p.2, d)], .fz), some (d, .fz), s8], by simp [fieldD, gTp, gsC, gsN, gNm, setSlot, c5, c6, c7], .inl ⟨_, .inl (body3 q1 q2 hr), ⟨_, _, _, .some _, .some _, .some _, rfl⟩, fun q hq => hp q (List.mem_cons_of_mem _ hq)⟩⟩
  · obtain ⟨⟨s5, s6, s7, h5, h6, h7, rfl⟩, _⟩ := hI
    exact ⟨s5, s6, s7, h5, h6, h7, rfl⟩
end Lk01
namespace Lk01
open PySem PySem.Spec PyProof.Rows L2 VL
def pages : List D := [.str "", .str "a", .str "no course", .str "leaders"]
def items : List D := [.int 0, .int 1, .non, .str "web", .str "a", .tup [.int 1, .non], .tup [.tup [.int 0, .bl true]], .lst [.int 3], .int (10 ^ 12)]
theorem items_ok : ∀ d ∈ items, d.fzOk = true ∧ ∃ s, dRepr d = some (.str s, .fz) := by
  have z : ∀ {d : D} {p : PyData}, toPy d = some p → okRepr p = true → ∃ s, dRepr d = some (.str s, .fz) := fun h o => ⟨_, repr_ok h o⟩
  intro d hd
  simp only [items, List.mem_cons, List.not_mem_nil, or_false] at hd
  rcases hd with rfl | rfl | rfl | rfl | rfl | rfl | rfl | rfl | rfl
  · exact ⟨rfl, z (p := .int 0) rfl (by decide +kernel)⟩
  · exact ⟨rfl, z (p := .int 1) rfl (by decide +kernel)⟩
  · exact ⟨rfl, z (p := .none) rfl (by decide +kernel)⟩
  · exact ⟨rfl, z (p := .str "web") rfl (by decide +kernel)⟩
  · exact ⟨rfl, z (p := .str "a") rfl (by decide +kernel)⟩
  · exact ⟨rfl, z (p := .tuple [.int 1, .none]) rfl (by decide +kernel)⟩
  · exact ⟨rfl, z (p := .tuple [.tuple [.int 0, .bool true]]) rfl (by decide +kernel)⟩
  · exact ⟨rfl, z (p := .list [.int 3]) rfl (by decide +kernel)⟩
  · exact ⟨rfl, z (p := .int (10 ^ 12)) rfl (by decide +kernel)⟩
structure St (ce : List Int) (sc : D) (ρ : VL.Env) : Prop where
  ex : ∃ gr r t s2 s3 s4 s5 s6 s7 s8, ρ = [some (sc, .fz), some (.drw gr r ce t, .ow), s2, s3, s4, s5, s6, s7, s8] ∧ Fs s2 ∧ Fs s3 ∧ Fs s4 ∧ Fs s5 ∧ Fs s6 ∧ Fs s7 ∧ Fs s8
theorem last {a b c d1 s5 s6 s7 s8 : Slot} {x : Str} (h8 : Fs s8) : (sSeq (sSet .fz 8 (xMkS 0 (xV 3))) (sIf (bOr (xTst (xAp2 true dNe (xCall D_law_marks (aC true (xV 8) aN)) (xAp2 true dMul (xLst (aC true (xC (.bl false)) aN)) (xC (.int 14))))) (bNot (xTst (xAp1 (dIsi tab_ValueError) (xV 8)))))
    (sRet (xC (.bl false))) sNil)) [a, b, c, some (.str x, .fz), d1, s5, s6, s7, s8] = .ok (.nx [a, b, c, some (.str x, .fz), d1, s5, s6, s7, some (.exs 0 x, .fz)]) := by
  have c8 : canSet [a, b, c, some (.str x, .fz), d1, s5, s6, s7, s8] 8 = true := h8.set
  have hm := marks_eq (c := 0) (e := .exs 0 x) rfl (by decide)
  have hv := (isiL (c := 0) (e := .exs 0 x) rfl (by decide)).2
  have em : dNe (mkD 0) (.lst (List.replicate 14 (.bl false))) = some (.bl false, .fz) := by
    have : dEqB (mkD 0) (.lst (List.replicate 14 (.bl false))) = some true := by decide +kernel
    unfold dNe; rw [this]; rfl
  have eu : dMul (.lst [.bl false]) (.int 14) = some (.lst (List.replicate 14 (.bl false)), .ow) := by
    have z : 14 ≤ sizeLine := zz (by decide)
    have e : (List.replicate (Int.toNat 14) [D.bl false]).flatten = List.replicate 14 (D.bl false) := rfl
    show (if -(2 ^ 63) ≤ (14 : Int) ∧ (14 : Int) < 2 ^ 63 ∧ [D.bl false].length * (14 : Int).toNat ≤ sizeLine then some (D.lst (List.replicate (Int.toNat 14) [D.bl false]).flatten, Kd.ow) else none) = _
    rw [if_pos ⟨by decide, by decide, z⟩, e]
  have z1 : 1 ≤ sizeLine := zz (by decide)
  have ar : VL.argsOk [(D.exs 0 x, Kd.fz)] = true := rfl
  rw [sSeq_nx (ρ1 := [a, b, c, some (.str x, .fz), d1, s5, s6, s7, some (.exs 0 x, .fz)]) (by simp [xMkS, setSlot, c8])]
  generalize D.exs 0 x = e at *
  generalize mkD 0 = M at *
  generalize List.replicate 14 (D.bl false) = R at *
  generalize D_law_marks = DM at *
  have fb : (D.bl false).fzOk = true := rfl
  simp [ar, hm, hv, em, eu, fzAll, fb, z1]
theorem body1 {ce : List Int} {sc : D} {ρ : VL.Env} (h : St ce sc ρ) : ∃ ρ', mb_law_1 ρ = .ok (.nx ρ') ∧ St ce sc ρ' := by
  obtain ⟨gr, r, t, s2, s3, s4, s5, s6, s7, s8, rfl, h2, h3, h4, h5, h6, h7, h8⟩ := h.ex
  obtain ⟨pg, gr1, r1, t1, e1, m1⟩ := pick_eq (gr := gr) (r := r) (ce := ce) (t := t) (xs := pages) (by simp [pages]) (by simp [pages])
  obtain ⟨x, rfl⟩ : ∃ x, pg = .str x := by
    simp only [pages, List.mem_cons, List.not_mem_nil, or_false] at m1
    rcases m1 with rfl | rfl | rfl | rfl <;> exact ⟨_, rfl⟩
  obtain ⟨d, gr2, r2, t2, e2, m2⟩ := pick_eq (gr := gr1) (r := r1) (ce := ce) (t := t1) (xs := items) (by simp [items]) (by simp [items])
  obtain ⟨fz, s, hr⟩ := items_ok d m2
  have z4 : 4 ≤ sizeLine := zz (by decide)
  have z9 : 9 ≤ sizeLine := zz (by decide)
  have c3 : canSet [some (sc, .fz), some (.drw gr1 r1 ce t1, .ow), s2, s3, s4, s5, s6, s7, s8] 3 = true := h3.set
  have c4 : canSet [some (sc, .fz), some (.drw gr2 r2 ce t2, .ow), s2, some (.str x, .fz), s4, s5, s6, s7, s8] 4 = true := h4.set
  have q1 : sSet .fz 3 (xCallM D_law_pick 1 (aC true (xLst (aC true (xC (.str "")) (aC true (xC (.str "a")) (aC true (xC (.str "no course")) (aC true (xC (.str "leaders")) aN))))) aN)) [some (sc, .fz), some (.drw gr r ce t, .ow), s2, s3, s4, s5, s6, s7, s8] = .ok (.nx [some (sc, .fz), some (.drw gr1 r1 ce t1, .ow), s2, some (.str x, .fz), s4, s5, s6, s7, s8]) := by
    have e1' := e1
    unfold pages at e1'
    generalize D_law_pick = DP at *
    simp [ownFl, callMK, VL.argsOk, D.fzOk, D.isDrw, e1', fzAll, z4, setSlot, c3]
  have hw : CPow 10 12 := by refine ⟨?_, ?_, ?_⟩ <;> decide
  have q2 : sSet .fz 4 (xCallM D_law_pick 1 (aC true (xLst (aC true (xC (.int 0)) (aC true (xC (.int 1)) (aC true (xC (.non)) (aC true (xC (.str "web")) (aC true (xC (.str "a")) (aC true (xTup (aC true (xC (.int 1)) (aC true (xC (.non)) aN))) (aC true (xTup (aC true (xTup (aC true (xC (.int 0)) (aC true (xC (.bl true)) aN))) aN)) (aC true (xLst (aC true (xC (.int 3)) aN)) (aC true (xAp2 true dPow (xC (.int 10)) (xC (.int 12))) aN)))))))))) aN)) [some (sc, .fz), some (.drw gr1 r1 ce t1, .ow), s2, some (.str x, .fz), s4, s5, s6, s7, s8] = .ok (.nx [some (sc, .fz), some (.drw gr2 r2 ce t2, .ow), s2, some (.str x, .fz), some (d, .fz), s5, s6, s7, s8]) := by
    have e2' := e2
    unfold items at e2'
    have z : ∀ n : Nat, n ≤ 100 → n ≤ sizeLine := fun n => zz
    have ep : dPow (.int 10) (.int 12) = some (.int (10 ^ 12), .fz) := by simp [hw]
    generalize hP : (10 : Int) ^ 12 = P at e2' ep
    generalize D_law_pick = DP at *
    generalize hd : dPow = DD at *
    have fb : ∀ b, (D.bl b).fzOk = true := fun _ => rfl
    have fs : ∀ b, (D.str b).fzOk = true := fun _ => rfl
    have fn : D.non.fzOk = true := rfl
    simp [ownFl, callMK, VL.argsOk, fb, fs, fn, fzI, fzT, fzLst, D.isDrw, e2', ep, fzAll, z, setSlot, c4]
  obtain ⟨t5, t6, k5, k6, f2⟩ := for2 (a := some (sc, .fz)) (b := some (.drw gr2 r2 ce t2, .ow)) (c := s2) (i := some (d, .fz)) (s7 := s7) (s8 := s8) (x := x) h5 h6
  obtain ⟨u5, u6, u7, l5, l6, l7, f3⟩ := for3 (a := some (sc, .fz)) (b := some (.drw gr2 r2 ce t2, .ow)) (c := s2) (i := some (.str x, .fz)) (s8 := s8) k5 k6 h7 hr
  have q3 : sFor (iSeq (xCall D_law_plain (aC true (xV 3) aN))) (gTp 2 (gsC (gNm 5) (gsC (gNm 6) gsN))) mb_law_2 [some (sc, .fz), some (.drw gr2 r2 ce t2, .ow), s2, some (.str x, .fz), some (d, .fz), s5, s6, s7, s8] = .ok (.nx [some (sc, .fz), some (.drw gr2 r2 ce t2, .ow), s2, some (.str x, .fz), some (d, .fz), t5, t6, s7, s8]) := by
    have e := plain_eq x
    generalize plainL x = PL at *
    generalize D_law_plain = DP at *
    generalize mb_law_2 = mb at *
    have ar : VL.argsOk [(D.str x, Kd.fz)] = true := rfl
    simp [ar, e, f2]
  have q4 : sFor (iSeq (xCall D_law_with_fields (aC true (xV 4) aN))) (gTp 3 (gsC (gNm 5) (gsC (gNm 6) (gsC (gNm 7) gsN)))) mb_law_3 [some (sc, .fz), some (.drw gr2 r2 ce t2, .ow), s2, some (.str x, .fz), some (d, .fz), t5, t6, s7, s8] = .ok (.nx [some (sc, .fz), some (.drw gr2 r2 ce t2, .ow), s2, some (.str x, .fz), some (d, .fz), u5, u6, u7, s8]) := by
    have e := fields_eq fz
    generalize fL.map (fieldD d) = PL at *
    generalize D_law_with_fields = DP at *
    generalize mb_law_3 = mb at *
    have ar : VL.argsOk [(d, Kd.fz)] = true := by simp [VL.argsOk, fz]
    simp [ar, e, f3]
  refine ⟨_, ?_, ⟨gr2, r2, t2, _, _, _, _, _, _, _, rfl, h2, .some (.str x), .some d, l5, l6, l7, .some (.exs 0 x)⟩⟩
  unfold mb_law_1
  rw [sSeq_nx q1, sSeq_nx q2, sSeq_nx q3, sSeq_nx q4]
  exact last h8
theorem plain : ∀ ns : List Int, ns.length ≤ 63 → ∃ k', D_law [some (.scr ns, .fz)] = .ok (.bl true, k') := by
  intro ns hn
  obtain ⟨gr, ce, eb⟩ := begin_eq hn
  have a1 : sSet .ow 1 (xCall D_law_begin (aC true (xV 0) aN)) [some (.scr ns, .fz), none, none, none, none, none, none, none, none] = .ok (.nx [some (.scr ns, .fz), some (.drw gr 0 ce 0, .ow), none, none, none, none, none, none, none]) := by
    generalize D_law_begin = DB at *
    simp [VL.argsOk, D.fzOk, eb, setSlot, canSet]
  obtain ⟨n, hn1, hn2⟩ : ∃ n : Nat, n < 1000000 ∧ aC true (xAp2 true dAdd (xC (.int 1)) (xApp (f2 dMin2) (aC true (xApp (f1 dLen) (aC true (xV 0) aN)) (aC true (xC (.int 1)) aN)))) aN [some (.scr ns, .fz), some (.drw gr 0 ce 0, .ow), none, none, none, none, none, none, none] = .ok ([(.int n, .fz)], [some (.scr ns, .fz), some (.drw gr 0 ce 0, .ow), none, none, none, none, none, none, none]) := by
    refine ⟨1 + min ns.length 1, by omega, ?_⟩
    have e : 1 + (if (1 : Int) < ((ns.length : Nat) : Int) then (1 : Int) else ((ns.length : Nat) : Int)) = ((1 + min ns.length 1 : Nat) : Int) := by split <;> omega
    rw [← e]
    simp
  have rk : rngK1 [(.int n, .fz)] [some (.scr ns, .fz), some (.drw gr 0 ce 0, .ow), none, none, none, none, none, none, none] = .ok ((List.range n).map fun (k : Nat) => D.int k, false, [some (.scr ns, .fz), some (.drw gr 0 ce 0, .ow), none, none, none, none, none, none, none]) := rngK1_len hn1
  have loop : ∃ ρ', forL (gNm 2) mb_law_1 ((List.range n).map fun (k : Nat) => D.int k) [some (.scr ns, .fz), some (.drw gr 0 ce 0, .ow), none, none, none, none, none, none, none] = .ok (.nx ρ') := by
    refine forL_map (fun (k : Nat) => D.int k) (fun _ ρ => St ce (.scr ns) ρ) (fun q => ∃ ρ', q = .ok (.nx ρ')) (fun k ys ρ hI => ?_) (fun ρ _ => ⟨ρ, rfl⟩) (List.range n) _ ⟨gr, 0, 0, none, none, none, none, none, none, none, rfl, .inl rfl, .inl rfl, .inl rfl, .inl rfl, .inl rfl, .inl rfl, .inl rfl⟩
    obtain ⟨gr, r, t, s2, s3, s4, s5, s6, s7, s8, rfl, h2, h3, h4, h5, h6, h7, h8⟩ := hI.ex
    have cs : canSet [some (.scr ns, .fz), some (.drw gr r ce t, .ow), s2, s3, s4, s5, s6, s7, s8] 2 = true := h2.set
    obtain ⟨ρ', e, hS⟩ := body1 (sc := .scr ns) (ce := ce) ⟨gr, r, t, some (.int k, .fz), s3, s4, s5, s6, s7, s8, rfl, .some _, h3, h4, h5, h6, h7, h8⟩
    exact ⟨[some (.scr ns, .fz), some (.drw gr r ce t, .ow), some (.int k, .fz), s3, s4, s5, s6, s7, s8], by simp [setSlot, cs], .inl ⟨ρ', .inl e, hS⟩⟩
  obtain ⟨ρ', e⟩ := loop
  exact ⟨.fz, dA_rt (ρ1 := ρ') ((sSeq_nx a1).trans ((sSeq_nx ((sFor_1 hn2 rk).trans e)).trans (by simp))) (by simp)⟩
end Lk01
namespace Lk01
open PySem PySem.Spec PyProof.Rows L2 VL
def GG (K : PySem.W.Frag) (mg : Str → Option Value) : Gm := ⟨K, fun c => match c with
  | 0 => adrOf (mg "LockError")
  | 1 => adrOf (mg "BadWeb")
  | 2 => adrOf (mg "NoParty")
  | 3 => adrOf (mg "NoHanding")
  | 4 => adrOf (mg "BadLeaders")
  | 5 => adrOf (mg "BadKeepers")
  | 6 => adrOf (mg "BadLaying")
  | 7 => adrOf (mg "BadDeal")
  | 8 => adrOf (mg "BadNumber")
  | 9 => adrOf (mg "BadCourse")
  | 10 => adrOf (mg "BadRule")
  | 11 => adrOf (mg "NotNow")
  | 12 => adrOf (mg "NothingDone")
  | 13 => adrOf (mg "BadJournal")
  | 14 => adrOf (mg "BadText")
  | _ => none, []⟩
theorem cm_at {o : Option Value} {A : Addr} (h : o = some (.ref A)) : adrOf o = some A := by rw [h]; rfl
def Tied (P : Program) (K : PySem.W.Frag) (mg : Str → Option Value) : Prop := ∃ t : Tie P K mg (GG K mg), mg "law" = some (.ref t.f_law) ∧ ∀ (s : Shared) (u : Value), BindsTo s t.fd_law ⟨[u], []⟩ [("_law_script", u)]
theorem tied {P : Program} {w : World} {K : PySem.W.Frag} {mg : Str → Option Value} {fa : Addr} (hm : mg "law" = some (.ref fa)) (h : Tied P K mg) : ∃ fd : FuncData, (∀ (s : Shared) (u : Value), BindsTo s fd ⟨[u], []⟩ [("_law_script", u)]) ∧ ∀ base : Heap, K.In base → base.Ns mainGlobals mg → FnG P w K mg base 4 fa fd ["_law_script"] (spA (GG K mg) 1 D_law) := by
  obtain ⟨t, e, b⟩ := h
  have e' : fa = t.f_law := Value.ref.inj (Option.some.inj (hm.symm.trans e))
  subst e'
  exact ⟨t.fd_law, b, fun base _ _ => ok_law t⟩
set_option maxHeartbeats 0 in
theorem tie_mk {P : Program} {K : PySem.W.Frag} {h : Heap} {mg : Str → Option Value} (X : K.In h) (Gn : h.Ns mainGlobals mg)
    {A_LockError : Addr}
    {A_BadWeb : Addr}
    {f_BadWeb_init cda_BadWeb cc_BadWeb : Addr} {od_BadWeb_init an_BadWeb_init cdd_BadWeb cld_BadWeb : Option Addr} {sl_BadWeb_init ccs_BadWeb csl_BadWeb : Array (Option Value)} {oc_BadWeb_init kV_BadWeb_init dc_BadWeb_init pm_BadWeb_init ct_BadWeb_init ccl_BadWeb cl_BadWeb : Value} {vs_BadWeb : Array Value} {file_BadWeb : Str} {tf_BadWeb : Tok} {cld_BadWebx : ClassData}
    {A_NoParty : Addr}
    {f_NoParty_init cda_NoParty cc_NoParty : Addr} {od_NoParty_init an_NoParty_init cdd_NoParty cld_NoParty : Option Addr} {sl_NoParty_init ccs_NoParty csl_NoParty : Array (Option Value)} {oc_NoParty_init kV_NoParty_init dc_NoParty_init pm_NoParty_init ct_NoParty_init ccl_NoParty cl_NoParty : Value} {vs_NoParty : Array Value} {file_NoParty : Str} {tf_NoParty : Tok} {cld_NoPartyx : ClassData}
    {A_NoHanding : Addr}
    {f_NoHanding_init cda_NoHanding cc_NoHanding : Addr} {od_NoHanding_init an_NoHanding_init cdd_NoHanding cld_NoHanding : Option Addr} {sl_NoHanding_init ccs_NoHanding csl_NoHanding : Array (Option Value)} {oc_NoHanding_init kV_NoHanding_init dc_NoHanding_init pm_NoHanding_init ct_NoHanding_init ccl_NoHanding cl_NoHanding : Value} {vs_NoHanding : Array Value} {file_NoHanding : Str} {tf_NoHanding : Tok} {cld_NoHandingx : ClassData}
    {A_BadLeaders : Addr}
    {A_BadKeepers : Addr}
    {A_BadLaying : Addr}
    {f_BadLaying_init cda_BadLaying cc_BadLaying : Addr} {od_BadLaying_init an_BadLaying_init cdd_BadLaying cld_BadLaying : Option Addr} {sl_BadLaying_init ccs_BadLaying csl_BadLaying : Array (Option Value)} {oc_BadLaying_init kV_BadLaying_init dc_BadLaying_init pm_BadLaying_init ct_BadLaying_init ccl_BadLaying cl_BadLaying : Value} {vs_BadLaying : Array Value} {file_BadLaying : Str} {tf_BadLaying : Tok} {cld_BadLayingx : ClassData}
    {A_BadDeal : Addr}
    {f_BadDeal_init cda_BadDeal cc_BadDeal : Addr} {od_BadDeal_init an_BadDeal_init cdd_BadDeal cld_BadDeal : Option Addr} {sl_BadDeal_init ccs_BadDeal csl_BadDeal : Array (Option Value)} {oc_BadDeal_init kV_BadDeal_init dc_BadDeal_init pm_BadDeal_init ct_BadDeal_init ccl_BadDeal cl_BadDeal : Value} {vs_BadDeal : Array Value} {file_BadDeal : Str} {tf_BadDeal : Tok} {cld_BadDealx : ClassData}
    {A_BadNumber : Addr}
    {f_BadNumber_init cda_BadNumber cc_BadNumber : Addr} {od_BadNumber_init an_BadNumber_init cdd_BadNumber cld_BadNumber : Option Addr} {sl_BadNumber_init ccs_BadNumber csl_BadNumber : Array (Option Value)} {oc_BadNumber_init kV_BadNumber_init dc_BadNumber_init pm_BadNumber_init ct_BadNumber_init ccl_BadNumber cl_BadNumber : Value} {vs_BadNumber : Array Value} {file_BadNumber : Str} {tf_BadNumber : Tok} {cld_BadNumberx : ClassData}
    {A_BadCourse : Addr}
    {A_BadRule : Addr}
    {f_BadRule_init cda_BadRule cc_BadRule : Addr} {od_BadRule_init an_BadRule_init cdd_BadRule cld_BadRule : Option Addr} {sl_BadRule_init ccs_BadRule csl_BadRule : Array (Option Value)} {oc_BadRule_init kV_BadRule_init dc_BadRule_init pm_BadRule_init ct_BadRule_init ccl_BadRule cl_BadRule : Value} {vs_BadRule : Array Value} {file_BadRule : Str} {tf_BadRule : Tok} {cld_BadRulex : ClassData}
    {A_NotNow : Addr}
    {f_NotNow_init cda_NotNow cc_NotNow : Addr} {od_NotNow_init an_NotNow_init cdd_NotNow cld_NotNow : Option Addr} {sl_NotNow_init ccs_NotNow csl_NotNow : Array (Option Value)} {oc_NotNow_init kV_NotNow_init dc_NotNow_init pm_NotNow_init ct_NotNow_init ccl_NotNow cl_NotNow : Value} {vs_NotNow : Array Value} {file_NotNow : Str} {tf_NotNow : Tok} {cld_NotNowx : ClassData}
    {A_NothingDone : Addr}
    {A_BadJournal : Addr}
    {f_BadJournal_init cda_BadJournal cc_BadJournal : Addr} {od_BadJournal_init an_BadJournal_init cdd_BadJournal cld_BadJournal : Option Addr} {sl_BadJournal_init ccs_BadJournal csl_BadJournal : Array (Option Value)} {oc_BadJournal_init kV_BadJournal_init dc_BadJournal_init pm_BadJournal_init ct_BadJournal_init ccl_BadJournal cl_BadJournal : Value} {vs_BadJournal : Array Value} {file_BadJournal : Str} {tf_BadJournal : Tok} {cld_BadJournalx : ClassData}
    {A_BadText : Addr}
    {f_BadText_init cda_BadText cc_BadText : Addr} {od_BadText_init an_BadText_init cdd_BadText cld_BadText : Option Addr} {sl_BadText_init ccs_BadText csl_BadText : Array (Option Value)} {oc_BadText_init kV_BadText_init dc_BadText_init pm_BadText_init ct_BadText_init ccl_BadText cl_BadText : Value} {vs_BadText : Array Value} {file_BadText : Str} {tf_BadText : Tok} {cld_BadTextx : ClassData}
    {f_law_begin : Addr} {od_law_begin an_law_begin : Option Addr} {sl_law_begin : Array (Option Value)} {oc_law_begin kV_law_begin dc_law_begin pm_law_begin cd_law_begin ct_law_begin : Value}
    {f_law_blend : Addr} {od_law_blend an_law_blend : Option Addr} {sl_law_blend : Array (Option Value)} {oc_law_blend kV_law_blend dc_law_blend pm_law_blend cd_law_blend ct_law_blend : Value}
    {f_law_take : Addr} {od_law_take an_law_take : Option Addr} {sl_law_take : Array (Option Value)} {oc_law_take kV_law_take dc_law_take pm_law_take cd_law_take ct_law_take : Value}
    {f_law_pick : Addr} {od_law_pick an_law_pick : Option Addr} {sl_law_pick : Array (Option Value)} {oc_law_pick kV_law_pick dc_law_pick pm_law_pick cd_law_pick ct_law_pick : Value}
    {f_law_plain : Addr} {od_law_plain an_law_plain : Option Addr} {sl_law_plain : Array (Option Value)} {oc_law_plain kV_law_plain dc_law_plain pm_law_plain cd_law_plain ct_law_plain : Value}
    {f_law_marks : Addr} {od_law_marks an_law_marks : Option Addr} {sl_law_marks : Array (Option Value)} {oc_law_marks kV_law_marks dc_law_marks pm_law_marks cd_law_marks ct_law_marks : Value}
    {f_law_alone : Addr} {od_law_alone an_law_alone : Option Addr} {sl_law_alone : Array (Option Value)} {oc_law_alone kV_law_alone dc_law_alone pm_law_alone cd_law_alone ct_law_alone : Value}
    {f_law_with_fields : Addr} {od_law_with_fields an_law_with_fields : Option Addr} {sl_law_with_fields : Array (Option Value)} {oc_law_with_fields kV_law_with_fields dc_law_with_fields pm_law_with_fields cd_law_with_fields ct_law_with_fields : Value}
    {f_law : Addr} {od_law an_law : Option Addr} {sl_law : Array (Option Value)} {oc_law kV_law dc_law pm_law cd_law ct_law : Value}
    (sup : PySem.W.nsIn K mainGlobals "super" = some none)
    (opq : PySem.W.nsIn K cStatics "thirdparty.any" = some none)
    (topn : (P.main.scope.names.lookup ("super" : Str)).isSome = false)
    (aC_LockError : PySem.W.nsIn K mainGlobals "LockError" = some (some (.ref A_LockError)))
    (hd_LockError : PySem.W.hasDictIn K A_LockError = true)
    (ga_LockError : PySem.W.findIn K (.ref A_LockError) "__getattribute__" = some (some (.builtin "BaseException.__getattribute__")))
    (gg_LockError : PySem.W.findIn K (.ref A_LockError) "__getattr__" = some none)
    (sb_LockError : PySem.W.subIn K (.ref A_LockError) (.type "BaseException") = some true)
    (ha_LockError : PySem.W.findIn K (.ref A_LockError) "__class__" = some (some (.builtin "object.__class__")))
    (hm_LockError : PySem.W.mroIn K A_LockError (.type "object") = some true)
    (kc_LockError : PySem.W.keepIn K (.ref A_LockError) = true)
    (qx_LockError : PySem.W.excIn K A_LockError veBm "ValueError.__new__" = true)
    (st_LockError : PySem.W.findIn K (.ref A_LockError) "__str__" = some (some (.builtin "BaseException.__str__")))
    (aC_BadWeb : PySem.W.nsIn K mainGlobals "BadWeb" = some (some (.ref A_BadWeb)))
    (hd_BadWeb : PySem.W.hasDictIn K A_BadWeb = true)
    (ga_BadWeb : PySem.W.findIn K (.ref A_BadWeb) "__getattribute__" = some (some (.builtin "BaseException.__getattribute__")))
    (gg_BadWeb : PySem.W.findIn K (.ref A_BadWeb) "__getattr__" = some none)
    (sb_BadWeb : PySem.W.subIn K (.ref A_BadWeb) (.type "BaseException") = some true)
    (ha_BadWeb : PySem.W.findIn K (.ref A_BadWeb) "__class__" = some (some (.builtin "object.__class__")))
    (hm_BadWeb : PySem.W.mroIn K A_BadWeb (.type "object") = some true)
    (kc_BadWeb : PySem.W.keepIn K (.ref A_BadWeb) = true)
    (a_BadWeb_init : PySem.W.findIn K (.ref A_BadWeb) "__init__" = some (some (.ref f_BadWeb_init)))
    (ti_BadWeb_init : PySem.W.typeIn K (.ref f_BadWeb_init) = some (.type "function"))
    (l_BadWeb_init : K.lookup f_BadWeb_init = some ⟨oc_BadWeb_init, od_BadWeb_init, .func (PySem.W.ksFn "__init__" "BadWeb.__init__" (defArgs s_BadWeb_init) (defBody s_BadWeb_init) (defScope s_BadWeb_init) .none kV_BadWeb_init dc_BadWeb_init pm_BadWeb_init an_BadWeb_init (.ref cda_BadWeb) ct_BadWeb_init cc_BadWeb), sl_BadWeb_init⟩)
    (c_BadWeb_init : PySem.W.codeIn K (.ref cda_BadWeb) "BadWeb.__init__" = true)
    (lc_BadWeb : K.lookup cda_BadWeb = some ⟨ccl_BadWeb, cdd_BadWeb, .fields vs_BadWeb, ccs_BadWeb⟩)
    (hv_BadWeb : vs_BadWeb[2]? = some (.str file_BadWeb tf_BadWeb))
    (hf_BadWeb : ((P.main.file : Str) == file_BadWeb) = true)
    (lcc_BadWeb : K.lookup cc_BadWeb = some ⟨cl_BadWeb, cld_BadWeb, .cell (some (.ref A_BadWeb)), csl_BadWeb⟩)
    (hC_BadWeb : PySem.W.clsIn K A_BadWeb = some cld_BadWebx)
    (hr_BadWeb : PySem.HandSPX.refsVE cld_BadWebx.mro = true)
    (hh_BadWeb : cld_BadWebx.hasDict = true)
    (hi_BadWeb : PySem.W.excInitIn K A_BadWeb veBm "ValueError.__new__" = true)
    (su_BadWeb : PySem.W.mroIn K A_BadWeb (.ref A_BadWeb) = some true)
    (sm_BadWeb : PySem.W.ks_superIn K A_BadWeb A_BadWeb "__init__" = some (some (.builtin "ValueError.__init__")))
    (sB_BadWeb : PySem.W.subIn K (.ref A_BadWeb) (.type "ValueError") = some true)
    (sa_BadWeb : PySem.W.findIn K (.ref A_BadWeb) "__setattr__" = some (some (.builtin "object.__setattr__")))
    (fno_BadWeb : PySem.W.findIn K (.ref A_BadWeb) "part" = some none)
    (aC_NoParty : PySem.W.nsIn K mainGlobals "NoParty" = some (some (.ref A_NoParty)))
    (hd_NoParty : PySem.W.hasDictIn K A_NoParty = true)
    (ga_NoParty : PySem.W.findIn K (.ref A_NoParty) "__getattribute__" = some (some (.builtin "BaseException.__getattribute__")))
    (gg_NoParty : PySem.W.findIn K (.ref A_NoParty) "__getattr__" = some none)
    (sb_NoParty : PySem.W.subIn K (.ref A_NoParty) (.type "BaseException") = some true)
    (ha_NoParty : PySem.W.findIn K (.ref A_NoParty) "__class__" = some (some (.builtin "object.__class__")))
    (hm_NoParty : PySem.W.mroIn K A_NoParty (.type "object") = some true)
    (kc_NoParty : PySem.W.keepIn K (.ref A_NoParty) = true)
    (a_NoParty_init : PySem.W.findIn K (.ref A_NoParty) "__init__" = some (some (.ref f_NoParty_init)))
    (ti_NoParty_init : PySem.W.typeIn K (.ref f_NoParty_init) = some (.type "function"))
    (l_NoParty_init : K.lookup f_NoParty_init = some ⟨oc_NoParty_init, od_NoParty_init, .func (PySem.W.ksFn "__init__" "NoParty.__init__" (defArgs s_NoParty_init) (defBody s_NoParty_init) (defScope s_NoParty_init) .none kV_NoParty_init dc_NoParty_init pm_NoParty_init an_NoParty_init (.ref cda_NoParty) ct_NoParty_init cc_NoParty), sl_NoParty_init⟩)
    (c_NoParty_init : PySem.W.codeIn K (.ref cda_NoParty) "NoParty.__init__" = true)
    (lc_NoParty : K.lookup cda_NoParty = some ⟨ccl_NoParty, cdd_NoParty, .fields vs_NoParty, ccs_NoParty⟩)
    (hv_NoParty : vs_NoParty[2]? = some (.str file_NoParty tf_NoParty))
    (hf_NoParty : ((P.main.file : Str) == file_NoParty) = true)
    (lcc_NoParty : K.lookup cc_NoParty = some ⟨cl_NoParty, cld_NoParty, .cell (some (.ref A_NoParty)), csl_NoParty⟩)
    (hC_NoParty : PySem.W.clsIn K A_NoParty = some cld_NoPartyx)
    (hr_NoParty : PySem.HandSPX.refsVE cld_NoPartyx.mro = true)
    (hh_NoParty : cld_NoPartyx.hasDict = true)
    (hi_NoParty : PySem.W.excInitIn K A_NoParty veBm "ValueError.__new__" = true)
    (su_NoParty : PySem.W.mroIn K A_NoParty (.ref A_NoParty) = some true)
    (sm_NoParty : PySem.W.ks_superIn K A_NoParty A_NoParty "__init__" = some (some (.builtin "ValueError.__init__")))
    (sB_NoParty : PySem.W.subIn K (.ref A_NoParty) (.type "ValueError") = some true)
    (sa_NoParty : PySem.W.findIn K (.ref A_NoParty) "__setattr__" = some (some (.builtin "object.__setattr__")))
    (fno_NoParty : PySem.W.findIn K (.ref A_NoParty) "party" = some none)
    (aC_NoHanding : PySem.W.nsIn K mainGlobals "NoHanding" = some (some (.ref A_NoHanding)))
    (hd_NoHanding : PySem.W.hasDictIn K A_NoHanding = true)
    (ga_NoHanding : PySem.W.findIn K (.ref A_NoHanding) "__getattribute__" = some (some (.builtin "BaseException.__getattribute__")))
    (gg_NoHanding : PySem.W.findIn K (.ref A_NoHanding) "__getattr__" = some none)
    (sb_NoHanding : PySem.W.subIn K (.ref A_NoHanding) (.type "BaseException") = some true)
    (ha_NoHanding : PySem.W.findIn K (.ref A_NoHanding) "__class__" = some (some (.builtin "object.__class__")))
    (hm_NoHanding : PySem.W.mroIn K A_NoHanding (.type "object") = some true)
    (kc_NoHanding : PySem.W.keepIn K (.ref A_NoHanding) = true)
    (a_NoHanding_init : PySem.W.findIn K (.ref A_NoHanding) "__init__" = some (some (.ref f_NoHanding_init)))
    (ti_NoHanding_init : PySem.W.typeIn K (.ref f_NoHanding_init) = some (.type "function"))
    (l_NoHanding_init : K.lookup f_NoHanding_init = some ⟨oc_NoHanding_init, od_NoHanding_init, .func (PySem.W.ksFn "__init__" "NoHanding.__init__" (defArgs s_NoHanding_init) (defBody s_NoHanding_init) (defScope s_NoHanding_init) .none kV_NoHanding_init dc_NoHanding_init pm_NoHanding_init an_NoHanding_init (.ref cda_NoHanding) ct_NoHanding_init cc_NoHanding), sl_NoHanding_init⟩)
    (c_NoHanding_init : PySem.W.codeIn K (.ref cda_NoHanding) "NoHanding.__init__" = true)
    (lc_NoHanding : K.lookup cda_NoHanding = some ⟨ccl_NoHanding, cdd_NoHanding, .fields vs_NoHanding, ccs_NoHanding⟩)
    (hv_NoHanding : vs_NoHanding[2]? = some (.str file_NoHanding tf_NoHanding))
    (hf_NoHanding : ((P.main.file : Str) == file_NoHanding) = true)
    (lcc_NoHanding : K.lookup cc_NoHanding = some ⟨cl_NoHanding, cld_NoHanding, .cell (some (.ref A_NoHanding)), csl_NoHanding⟩)
    (hC_NoHanding : PySem.W.clsIn K A_NoHanding = some cld_NoHandingx)
    (hr_NoHanding : PySem.HandSPX.refsVE cld_NoHandingx.mro = true)
    (hh_NoHanding : cld_NoHandingx.hasDict = true)
    (hi_NoHanding : PySem.W.excInitIn K A_NoHanding veBm "ValueError.__new__" = true)
    (su_NoHanding : PySem.W.mroIn K A_NoHanding (.ref A_NoHanding) = some true)
    (sm_NoHanding : PySem.W.ks_superIn K A_NoHanding A_NoHanding "__init__" = some (some (.builtin "ValueError.__init__")))
    (sB_NoHanding : PySem.W.subIn K (.ref A_NoHanding) (.type "ValueError") = some true)
    (sa_NoHanding : PySem.W.findIn K (.ref A_NoHanding) "__setattr__" = some (some (.builtin "object.__setattr__")))
    (fno_NoHanding : PySem.W.findIn K (.ref A_NoHanding) "handing" = some none)
    (aC_BadLeaders : PySem.W.nsIn K mainGlobals "BadLeaders" = some (some (.ref A_BadLeaders)))
    (hd_BadLeaders : PySem.W.hasDictIn K A_BadLeaders = true)
    (ga_BadLeaders : PySem.W.findIn K (.ref A_BadLeaders) "__getattribute__" = some (some (.builtin "BaseException.__getattribute__")))
    (gg_BadLeaders : PySem.W.findIn K (.ref A_BadLeaders) "__getattr__" = some none)
    (sb_BadLeaders : PySem.W.subIn K (.ref A_BadLeaders) (.type "BaseException") = some true)
    (ha_BadLeaders : PySem.W.findIn K (.ref A_BadLeaders) "__class__" = some (some (.builtin "object.__class__")))
    (hm_BadLeaders : PySem.W.mroIn K A_BadLeaders (.type "object") = some true)
    (kc_BadLeaders : PySem.W.keepIn K (.ref A_BadLeaders) = true)
    (qx_BadLeaders : PySem.W.excIn K A_BadLeaders veBm "ValueError.__new__" = true)
    (st_BadLeaders : PySem.W.findIn K (.ref A_BadLeaders) "__str__" = some (some (.builtin "BaseException.__str__")))
    (aC_BadKeepers : PySem.W.nsIn K mainGlobals "BadKeepers" = some (some (.ref A_BadKeepers)))
    (hd_BadKeepers : PySem.W.hasDictIn K A_BadKeepers = true)
    (ga_BadKeepers : PySem.W.findIn K (.ref A_BadKeepers) "__getattribute__" = some (some (.builtin "BaseException.__getattribute__")))
    (gg_BadKeepers : PySem.W.findIn K (.ref A_BadKeepers) "__getattr__" = some none)
    (sb_BadKeepers : PySem.W.subIn K (.ref A_BadKeepers) (.type "BaseException") = some true)
    (ha_BadKeepers : PySem.W.findIn K (.ref A_BadKeepers) "__class__" = some (some (.builtin "object.__class__")))
    (hm_BadKeepers : PySem.W.mroIn K A_BadKeepers (.type "object") = some true)
    (kc_BadKeepers : PySem.W.keepIn K (.ref A_BadKeepers) = true)
    (qx_BadKeepers : PySem.W.excIn K A_BadKeepers veBm "ValueError.__new__" = true)
    (st_BadKeepers : PySem.W.findIn K (.ref A_BadKeepers) "__str__" = some (some (.builtin "BaseException.__str__")))
    (aC_BadLaying : PySem.W.nsIn K mainGlobals "BadLaying" = some (some (.ref A_BadLaying)))
    (hd_BadLaying : PySem.W.hasDictIn K A_BadLaying = true)
    (ga_BadLaying : PySem.W.findIn K (.ref A_BadLaying) "__getattribute__" = some (some (.builtin "BaseException.__getattribute__")))
    (gg_BadLaying : PySem.W.findIn K (.ref A_BadLaying) "__getattr__" = some none)
    (sb_BadLaying : PySem.W.subIn K (.ref A_BadLaying) (.type "BaseException") = some true)
    (ha_BadLaying : PySem.W.findIn K (.ref A_BadLaying) "__class__" = some (some (.builtin "object.__class__")))
    (hm_BadLaying : PySem.W.mroIn K A_BadLaying (.type "object") = some true)
    (kc_BadLaying : PySem.W.keepIn K (.ref A_BadLaying) = true)
    (a_BadLaying_init : PySem.W.findIn K (.ref A_BadLaying) "__init__" = some (some (.ref f_BadLaying_init)))
    (ti_BadLaying_init : PySem.W.typeIn K (.ref f_BadLaying_init) = some (.type "function"))
    (l_BadLaying_init : K.lookup f_BadLaying_init = some ⟨oc_BadLaying_init, od_BadLaying_init, .func (PySem.W.ksFn "__init__" "BadLaying.__init__" (defArgs s_BadLaying_init) (defBody s_BadLaying_init) (defScope s_BadLaying_init) .none kV_BadLaying_init dc_BadLaying_init pm_BadLaying_init an_BadLaying_init (.ref cda_BadLaying) ct_BadLaying_init cc_BadLaying), sl_BadLaying_init⟩)
    (c_BadLaying_init : PySem.W.codeIn K (.ref cda_BadLaying) "BadLaying.__init__" = true)
    (lc_BadLaying : K.lookup cda_BadLaying = some ⟨ccl_BadLaying, cdd_BadLaying, .fields vs_BadLaying, ccs_BadLaying⟩)
    (hv_BadLaying : vs_BadLaying[2]? = some (.str file_BadLaying tf_BadLaying))
    (hf_BadLaying : ((P.main.file : Str) == file_BadLaying) = true)
    (lcc_BadLaying : K.lookup cc_BadLaying = some ⟨cl_BadLaying, cld_BadLaying, .cell (some (.ref A_BadLaying)), csl_BadLaying⟩)
    (hC_BadLaying : PySem.W.clsIn K A_BadLaying = some cld_BadLayingx)
    (hr_BadLaying : PySem.HandSPX.refsVE cld_BadLayingx.mro = true)
    (hh_BadLaying : cld_BadLayingx.hasDict = true)
    (hi_BadLaying : PySem.W.excInitIn K A_BadLaying veBm "ValueError.__new__" = true)
    (su_BadLaying : PySem.W.mroIn K A_BadLaying (.ref A_BadLaying) = some true)
    (sm_BadLaying : PySem.W.ks_superIn K A_BadLaying A_BadLaying "__init__" = some (some (.builtin "ValueError.__init__")))
    (sB_BadLaying : PySem.W.subIn K (.ref A_BadLaying) (.type "ValueError") = some true)
    (sa_BadLaying : PySem.W.findIn K (.ref A_BadLaying) "__setattr__" = some (some (.builtin "object.__setattr__")))
    (fno_BadLaying : PySem.W.findIn K (.ref A_BadLaying) "at" = some none)
    (aC_BadDeal : PySem.W.nsIn K mainGlobals "BadDeal" = some (some (.ref A_BadDeal)))
    (hd_BadDeal : PySem.W.hasDictIn K A_BadDeal = true)
    (ga_BadDeal : PySem.W.findIn K (.ref A_BadDeal) "__getattribute__" = some (some (.builtin "BaseException.__getattribute__")))
    (gg_BadDeal : PySem.W.findIn K (.ref A_BadDeal) "__getattr__" = some none)
    (sb_BadDeal : PySem.W.subIn K (.ref A_BadDeal) (.type "BaseException") = some true)
    (ha_BadDeal : PySem.W.findIn K (.ref A_BadDeal) "__class__" = some (some (.builtin "object.__class__")))
    (hm_BadDeal : PySem.W.mroIn K A_BadDeal (.type "object") = some true)
    (kc_BadDeal : PySem.W.keepIn K (.ref A_BadDeal) = true)
    (a_BadDeal_init : PySem.W.findIn K (.ref A_BadDeal) "__init__" = some (some (.ref f_BadDeal_init)))
    (ti_BadDeal_init : PySem.W.typeIn K (.ref f_BadDeal_init) = some (.type "function"))
    (l_BadDeal_init : K.lookup f_BadDeal_init = some ⟨oc_BadDeal_init, od_BadDeal_init, .func (PySem.W.ksFn "__init__" "BadDeal.__init__" (defArgs s_BadDeal_init) (defBody s_BadDeal_init) (defScope s_BadDeal_init) .none kV_BadDeal_init dc_BadDeal_init pm_BadDeal_init an_BadDeal_init (.ref cda_BadDeal) ct_BadDeal_init cc_BadDeal), sl_BadDeal_init⟩)
    (c_BadDeal_init : PySem.W.codeIn K (.ref cda_BadDeal) "BadDeal.__init__" = true)
    (lc_BadDeal : K.lookup cda_BadDeal = some ⟨ccl_BadDeal, cdd_BadDeal, .fields vs_BadDeal, ccs_BadDeal⟩)
    (hv_BadDeal : vs_BadDeal[2]? = some (.str file_BadDeal tf_BadDeal))
    (hf_BadDeal : ((P.main.file : Str) == file_BadDeal) = true)
    (lcc_BadDeal : K.lookup cc_BadDeal = some ⟨cl_BadDeal, cld_BadDeal, .cell (some (.ref A_BadDeal)), csl_BadDeal⟩)
    (hC_BadDeal : PySem.W.clsIn K A_BadDeal = some cld_BadDealx)
    (hr_BadDeal : PySem.HandSPX.refsVE cld_BadDealx.mro = true)
    (hh_BadDeal : cld_BadDealx.hasDict = true)
    (hi_BadDeal : PySem.W.excInitIn K A_BadDeal veBm "ValueError.__new__" = true)
    (su_BadDeal : PySem.W.mroIn K A_BadDeal (.ref A_BadDeal) = some true)
    (sm_BadDeal : PySem.W.ks_superIn K A_BadDeal A_BadDeal "__init__" = some (some (.builtin "ValueError.__init__")))
    (sB_BadDeal : PySem.W.subIn K (.ref A_BadDeal) (.type "ValueError") = some true)
    (sa_BadDeal : PySem.W.findIn K (.ref A_BadDeal) "__setattr__" = some (some (.builtin "object.__setattr__")))
    (fno_BadDeal : PySem.W.findIn K (.ref A_BadDeal) "part" = some none)
    (aC_BadNumber : PySem.W.nsIn K mainGlobals "BadNumber" = some (some (.ref A_BadNumber)))
    (hd_BadNumber : PySem.W.hasDictIn K A_BadNumber = true)
    (ga_BadNumber : PySem.W.findIn K (.ref A_BadNumber) "__getattribute__" = some (some (.builtin "BaseException.__getattribute__")))
    (gg_BadNumber : PySem.W.findIn K (.ref A_BadNumber) "__getattr__" = some none)
    (sb_BadNumber : PySem.W.subIn K (.ref A_BadNumber) (.type "BaseException") = some true)
    (ha_BadNumber : PySem.W.findIn K (.ref A_BadNumber) "__class__" = some (some (.builtin "object.__class__")))
    (hm_BadNumber : PySem.W.mroIn K A_BadNumber (.type "object") = some true)
    (kc_BadNumber : PySem.W.keepIn K (.ref A_BadNumber) = true)
    (a_BadNumber_init : PySem.W.findIn K (.ref A_BadNumber) "__init__" = some (some (.ref f_BadNumber_init)))
    (ti_BadNumber_init : PySem.W.typeIn K (.ref f_BadNumber_init) = some (.type "function"))
    (l_BadNumber_init : K.lookup f_BadNumber_init = some ⟨oc_BadNumber_init, od_BadNumber_init, .func (PySem.W.ksFn "__init__" "BadNumber.__init__" (defArgs s_BadNumber_init) (defBody s_BadNumber_init) (defScope s_BadNumber_init) .none kV_BadNumber_init dc_BadNumber_init pm_BadNumber_init an_BadNumber_init (.ref cda_BadNumber) ct_BadNumber_init cc_BadNumber), sl_BadNumber_init⟩)
    (c_BadNumber_init : PySem.W.codeIn K (.ref cda_BadNumber) "BadNumber.__init__" = true)
    (lc_BadNumber : K.lookup cda_BadNumber = some ⟨ccl_BadNumber, cdd_BadNumber, .fields vs_BadNumber, ccs_BadNumber⟩)
    (hv_BadNumber : vs_BadNumber[2]? = some (.str file_BadNumber tf_BadNumber))
    (hf_BadNumber : ((P.main.file : Str) == file_BadNumber) = true)
    (lcc_BadNumber : K.lookup cc_BadNumber = some ⟨cl_BadNumber, cld_BadNumber, .cell (some (.ref A_BadNumber)), csl_BadNumber⟩)
    (hC_BadNumber : PySem.W.clsIn K A_BadNumber = some cld_BadNumberx)
    (hr_BadNumber : PySem.HandSPX.refsVE cld_BadNumberx.mro = true)
    (hh_BadNumber : cld_BadNumberx.hasDict = true)
    (hi_BadNumber : PySem.W.excInitIn K A_BadNumber veBm "ValueError.__new__" = true)
    (su_BadNumber : PySem.W.mroIn K A_BadNumber (.ref A_BadNumber) = some true)
    (sm_BadNumber : PySem.W.ks_superIn K A_BadNumber A_BadNumber "__init__" = some (some (.builtin "ValueError.__init__")))
    (sB_BadNumber : PySem.W.subIn K (.ref A_BadNumber) (.type "ValueError") = some true)
    (sa_BadNumber : PySem.W.findIn K (.ref A_BadNumber) "__setattr__" = some (some (.builtin "object.__setattr__")))
    (fno_BadNumber : PySem.W.findIn K (.ref A_BadNumber) "number" = some none)
    (aC_BadCourse : PySem.W.nsIn K mainGlobals "BadCourse" = some (some (.ref A_BadCourse)))
    (hd_BadCourse : PySem.W.hasDictIn K A_BadCourse = true)
    (ga_BadCourse : PySem.W.findIn K (.ref A_BadCourse) "__getattribute__" = some (some (.builtin "BaseException.__getattribute__")))
    (gg_BadCourse : PySem.W.findIn K (.ref A_BadCourse) "__getattr__" = some none)
    (sb_BadCourse : PySem.W.subIn K (.ref A_BadCourse) (.type "BaseException") = some true)
    (ha_BadCourse : PySem.W.findIn K (.ref A_BadCourse) "__class__" = some (some (.builtin "object.__class__")))
    (hm_BadCourse : PySem.W.mroIn K A_BadCourse (.type "object") = some true)
    (kc_BadCourse : PySem.W.keepIn K (.ref A_BadCourse) = true)
    (qx_BadCourse : PySem.W.excIn K A_BadCourse veBm "ValueError.__new__" = true)
    (st_BadCourse : PySem.W.findIn K (.ref A_BadCourse) "__str__" = some (some (.builtin "BaseException.__str__")))
    (aC_BadRule : PySem.W.nsIn K mainGlobals "BadRule" = some (some (.ref A_BadRule)))
    (hd_BadRule : PySem.W.hasDictIn K A_BadRule = true)
    (ga_BadRule : PySem.W.findIn K (.ref A_BadRule) "__getattribute__" = some (some (.builtin "BaseException.__getattribute__")))
    (gg_BadRule : PySem.W.findIn K (.ref A_BadRule) "__getattr__" = some none)
    (sb_BadRule : PySem.W.subIn K (.ref A_BadRule) (.type "BaseException") = some true)
    (ha_BadRule : PySem.W.findIn K (.ref A_BadRule) "__class__" = some (some (.builtin "object.__class__")))
    (hm_BadRule : PySem.W.mroIn K A_BadRule (.type "object") = some true)
    (kc_BadRule : PySem.W.keepIn K (.ref A_BadRule) = true)
    (a_BadRule_init : PySem.W.findIn K (.ref A_BadRule) "__init__" = some (some (.ref f_BadRule_init)))
    (ti_BadRule_init : PySem.W.typeIn K (.ref f_BadRule_init) = some (.type "function"))
    (l_BadRule_init : K.lookup f_BadRule_init = some ⟨oc_BadRule_init, od_BadRule_init, .func (PySem.W.ksFn "__init__" "BadRule.__init__" (defArgs s_BadRule_init) (defBody s_BadRule_init) (defScope s_BadRule_init) .none kV_BadRule_init dc_BadRule_init pm_BadRule_init an_BadRule_init (.ref cda_BadRule) ct_BadRule_init cc_BadRule), sl_BadRule_init⟩)
    (c_BadRule_init : PySem.W.codeIn K (.ref cda_BadRule) "BadRule.__init__" = true)
    (lc_BadRule : K.lookup cda_BadRule = some ⟨ccl_BadRule, cdd_BadRule, .fields vs_BadRule, ccs_BadRule⟩)
    (hv_BadRule : vs_BadRule[2]? = some (.str file_BadRule tf_BadRule))
    (hf_BadRule : ((P.main.file : Str) == file_BadRule) = true)
    (lcc_BadRule : K.lookup cc_BadRule = some ⟨cl_BadRule, cld_BadRule, .cell (some (.ref A_BadRule)), csl_BadRule⟩)
    (hC_BadRule : PySem.W.clsIn K A_BadRule = some cld_BadRulex)
    (hr_BadRule : PySem.HandSPX.refsVE cld_BadRulex.mro = true)
    (hh_BadRule : cld_BadRulex.hasDict = true)
    (hi_BadRule : PySem.W.excInitIn K A_BadRule veBm "ValueError.__new__" = true)
    (su_BadRule : PySem.W.mroIn K A_BadRule (.ref A_BadRule) = some true)
    (sm_BadRule : PySem.W.ks_superIn K A_BadRule A_BadRule "__init__" = some (some (.builtin "ValueError.__init__")))
    (sB_BadRule : PySem.W.subIn K (.ref A_BadRule) (.type "ValueError") = some true)
    (sa_BadRule : PySem.W.findIn K (.ref A_BadRule) "__setattr__" = some (some (.builtin "object.__setattr__")))
    (fno_BadRule : PySem.W.findIn K (.ref A_BadRule) "part" = some none)
    (aC_NotNow : PySem.W.nsIn K mainGlobals "NotNow" = some (some (.ref A_NotNow)))
    (hd_NotNow : PySem.W.hasDictIn K A_NotNow = true)
    (ga_NotNow : PySem.W.findIn K (.ref A_NotNow) "__getattribute__" = some (some (.builtin "BaseException.__getattribute__")))
    (gg_NotNow : PySem.W.findIn K (.ref A_NotNow) "__getattr__" = some none)
    (sb_NotNow : PySem.W.subIn K (.ref A_NotNow) (.type "BaseException") = some true)
    (ha_NotNow : PySem.W.findIn K (.ref A_NotNow) "__class__" = some (some (.builtin "object.__class__")))
    (hm_NotNow : PySem.W.mroIn K A_NotNow (.type "object") = some true)
    (kc_NotNow : PySem.W.keepIn K (.ref A_NotNow) = true)
    (a_NotNow_init : PySem.W.findIn K (.ref A_NotNow) "__init__" = some (some (.ref f_NotNow_init)))
    (ti_NotNow_init : PySem.W.typeIn K (.ref f_NotNow_init) = some (.type "function"))
    (l_NotNow_init : K.lookup f_NotNow_init = some ⟨oc_NotNow_init, od_NotNow_init, .func (PySem.W.ksFn "__init__" "NotNow.__init__" (defArgs s_NotNow_init) (defBody s_NotNow_init) (defScope s_NotNow_init) .none kV_NotNow_init dc_NotNow_init pm_NotNow_init an_NotNow_init (.ref cda_NotNow) ct_NotNow_init cc_NotNow), sl_NotNow_init⟩)
    (c_NotNow_init : PySem.W.codeIn K (.ref cda_NotNow) "NotNow.__init__" = true)
    (lc_NotNow : K.lookup cda_NotNow = some ⟨ccl_NotNow, cdd_NotNow, .fields vs_NotNow, ccs_NotNow⟩)
    (hv_NotNow : vs_NotNow[2]? = some (.str file_NotNow tf_NotNow))
    (hf_NotNow : ((P.main.file : Str) == file_NotNow) = true)
    (lcc_NotNow : K.lookup cc_NotNow = some ⟨cl_NotNow, cld_NotNow, .cell (some (.ref A_NotNow)), csl_NotNow⟩)
    (hC_NotNow : PySem.W.clsIn K A_NotNow = some cld_NotNowx)
    (hr_NotNow : PySem.HandSPX.refsVE cld_NotNowx.mro = true)
    (hh_NotNow : cld_NotNowx.hasDict = true)
    (hi_NotNow : PySem.W.excInitIn K A_NotNow veBm "ValueError.__new__" = true)
    (su_NotNow : PySem.W.mroIn K A_NotNow (.ref A_NotNow) = some true)
    (sm_NotNow : PySem.W.ks_superIn K A_NotNow A_NotNow "__init__" = some (some (.builtin "ValueError.__init__")))
    (sB_NotNow : PySem.W.subIn K (.ref A_NotNow) (.type "ValueError") = some true)
    (sa_NotNow : PySem.W.findIn K (.ref A_NotNow) "__setattr__" = some (some (.builtin "object.__setattr__")))
    (fno_NotNow : PySem.W.findIn K (.ref A_NotNow) "word" = some none)
    (aC_NothingDone : PySem.W.nsIn K mainGlobals "NothingDone" = some (some (.ref A_NothingDone)))
    (hd_NothingDone : PySem.W.hasDictIn K A_NothingDone = true)
    (ga_NothingDone : PySem.W.findIn K (.ref A_NothingDone) "__getattribute__" = some (some (.builtin "BaseException.__getattribute__")))
    (gg_NothingDone : PySem.W.findIn K (.ref A_NothingDone) "__getattr__" = some none)
    (sb_NothingDone : PySem.W.subIn K (.ref A_NothingDone) (.type "BaseException") = some true)
    (ha_NothingDone : PySem.W.findIn K (.ref A_NothingDone) "__class__" = some (some (.builtin "object.__class__")))
    (hm_NothingDone : PySem.W.mroIn K A_NothingDone (.type "object") = some true)
    (kc_NothingDone : PySem.W.keepIn K (.ref A_NothingDone) = true)
    (qx_NothingDone : PySem.W.excIn K A_NothingDone veBm "ValueError.__new__" = true)
    (st_NothingDone : PySem.W.findIn K (.ref A_NothingDone) "__str__" = some (some (.builtin "BaseException.__str__")))
    (aC_BadJournal : PySem.W.nsIn K mainGlobals "BadJournal" = some (some (.ref A_BadJournal)))
    (hd_BadJournal : PySem.W.hasDictIn K A_BadJournal = true)
    (ga_BadJournal : PySem.W.findIn K (.ref A_BadJournal) "__getattribute__" = some (some (.builtin "BaseException.__getattribute__")))
    (gg_BadJournal : PySem.W.findIn K (.ref A_BadJournal) "__getattr__" = some none)
    (sb_BadJournal : PySem.W.subIn K (.ref A_BadJournal) (.type "BaseException") = some true)
    (ha_BadJournal : PySem.W.findIn K (.ref A_BadJournal) "__class__" = some (some (.builtin "object.__class__")))
    (hm_BadJournal : PySem.W.mroIn K A_BadJournal (.type "object") = some true)
    (kc_BadJournal : PySem.W.keepIn K (.ref A_BadJournal) = true)
    (a_BadJournal_init : PySem.W.findIn K (.ref A_BadJournal) "__init__" = some (some (.ref f_BadJournal_init)))
    (ti_BadJournal_init : PySem.W.typeIn K (.ref f_BadJournal_init) = some (.type "function"))
    (l_BadJournal_init : K.lookup f_BadJournal_init = some ⟨oc_BadJournal_init, od_BadJournal_init, .func (PySem.W.ksFn "__init__" "BadJournal.__init__" (defArgs s_BadJournal_init) (defBody s_BadJournal_init) (defScope s_BadJournal_init) .none kV_BadJournal_init dc_BadJournal_init pm_BadJournal_init an_BadJournal_init (.ref cda_BadJournal) ct_BadJournal_init cc_BadJournal), sl_BadJournal_init⟩)
    (c_BadJournal_init : PySem.W.codeIn K (.ref cda_BadJournal) "BadJournal.__init__" = true)
    (lc_BadJournal : K.lookup cda_BadJournal = some ⟨ccl_BadJournal, cdd_BadJournal, .fields vs_BadJournal, ccs_BadJournal⟩)
    (hv_BadJournal : vs_BadJournal[2]? = some (.str file_BadJournal tf_BadJournal))
    (hf_BadJournal : ((P.main.file : Str) == file_BadJournal) = true)
    (lcc_BadJournal : K.lookup cc_BadJournal = some ⟨cl_BadJournal, cld_BadJournal, .cell (some (.ref A_BadJournal)), csl_BadJournal⟩)
    (hC_BadJournal : PySem.W.clsIn K A_BadJournal = some cld_BadJournalx)
    (hr_BadJournal : PySem.HandSPX.refsVE cld_BadJournalx.mro = true)
    (hh_BadJournal : cld_BadJournalx.hasDict = true)
    (hi_BadJournal : PySem.W.excInitIn K A_BadJournal veBm "ValueError.__new__" = true)
    (su_BadJournal : PySem.W.mroIn K A_BadJournal (.ref A_BadJournal) = some true)
    (sm_BadJournal : PySem.W.ks_superIn K A_BadJournal A_BadJournal "__init__" = some (some (.builtin "ValueError.__init__")))
    (sB_BadJournal : PySem.W.subIn K (.ref A_BadJournal) (.type "ValueError") = some true)
    (sa_BadJournal : PySem.W.findIn K (.ref A_BadJournal) "__setattr__" = some (some (.builtin "object.__setattr__")))
    (fno_BadJournal : PySem.W.findIn K (.ref A_BadJournal) "at" = some none)
    (aC_BadText : PySem.W.nsIn K mainGlobals "BadText" = some (some (.ref A_BadText)))
    (hd_BadText : PySem.W.hasDictIn K A_BadText = true)
    (ga_BadText : PySem.W.findIn K (.ref A_BadText) "__getattribute__" = some (some (.builtin "BaseException.__getattribute__")))
    (gg_BadText : PySem.W.findIn K (.ref A_BadText) "__getattr__" = some none)
    (sb_BadText : PySem.W.subIn K (.ref A_BadText) (.type "BaseException") = some true)
    (ha_BadText : PySem.W.findIn K (.ref A_BadText) "__class__" = some (some (.builtin "object.__class__")))
    (hm_BadText : PySem.W.mroIn K A_BadText (.type "object") = some true)
    (kc_BadText : PySem.W.keepIn K (.ref A_BadText) = true)
    (a_BadText_init : PySem.W.findIn K (.ref A_BadText) "__init__" = some (some (.ref f_BadText_init)))
    (ti_BadText_init : PySem.W.typeIn K (.ref f_BadText_init) = some (.type "function"))
    (l_BadText_init : K.lookup f_BadText_init = some ⟨oc_BadText_init, od_BadText_init, .func (PySem.W.ksFn "__init__" "BadText.__init__" (defArgs s_BadText_init) (defBody s_BadText_init) (defScope s_BadText_init) .none kV_BadText_init dc_BadText_init pm_BadText_init an_BadText_init (.ref cda_BadText) ct_BadText_init cc_BadText), sl_BadText_init⟩)
    (c_BadText_init : PySem.W.codeIn K (.ref cda_BadText) "BadText.__init__" = true)
    (lc_BadText : K.lookup cda_BadText = some ⟨ccl_BadText, cdd_BadText, .fields vs_BadText, ccs_BadText⟩)
    (hv_BadText : vs_BadText[2]? = some (.str file_BadText tf_BadText))
    (hf_BadText : ((P.main.file : Str) == file_BadText) = true)
    (lcc_BadText : K.lookup cc_BadText = some ⟨cl_BadText, cld_BadText, .cell (some (.ref A_BadText)), csl_BadText⟩)
    (hC_BadText : PySem.W.clsIn K A_BadText = some cld_BadTextx)
    (hr_BadText : PySem.HandSPX.refsVE cld_BadTextx.mro = true)
    (hh_BadText : cld_BadTextx.hasDict = true)
    (hi_BadText : PySem.W.excInitIn K A_BadText veBm "ValueError.__new__" = true)
    (su_BadText : PySem.W.mroIn K A_BadText (.ref A_BadText) = some true)
    (sm_BadText : PySem.W.ks_superIn K A_BadText A_BadText "__init__" = some (some (.builtin "ValueError.__init__")))
    (sB_BadText : PySem.W.subIn K (.ref A_BadText) (.type "ValueError") = some true)
    (sa_BadText : PySem.W.findIn K (.ref A_BadText) "__setattr__" = some (some (.builtin "object.__setattr__")))
    (fno_BadText : PySem.W.findIn K (.ref A_BadText) "line" = some none)
    (hn : PySem.W.specialIn K (.builtin "object.__class__") "__get__" = some (some (.builtin "getset_descriptor.__get__")))
    (ht : PySem.W.takesIn K (.builtin "object.__class__") = some true)
    (ki_BadCourse_0 : PySem.W.kitAny K (.ref A_LockError) [.ref A_BadCourse] = some false)
    (ki_BadCourse_1 : PySem.W.kitAny K (.ref A_BadWeb) [.ref A_BadCourse] = some false)
    (ki_BadCourse_2 : PySem.W.kitAny K (.ref A_NoParty) [.ref A_BadCourse] = some false)
    (ki_BadCourse_3 : PySem.W.kitAny K (.ref A_NoHanding) [.ref A_BadCourse] = some false)
    (ki_BadCourse_4 : PySem.W.kitAny K (.ref A_BadLeaders) [.ref A_BadCourse] = some false)
    (ki_BadCourse_5 : PySem.W.kitAny K (.ref A_BadKeepers) [.ref A_BadCourse] = some false)
    (ki_BadCourse_6 : PySem.W.kitAny K (.ref A_BadLaying) [.ref A_BadCourse] = some false)
    (ki_BadCourse_7 : PySem.W.kitAny K (.ref A_BadDeal) [.ref A_BadCourse] = some false)
    (ki_BadCourse_8 : PySem.W.kitAny K (.ref A_BadNumber) [.ref A_BadCourse] = some false)
    (ki_BadCourse_10 : PySem.W.kitAny K (.ref A_BadRule) [.ref A_BadCourse] = some false)
    (ki_BadCourse_11 : PySem.W.kitAny K (.ref A_NotNow) [.ref A_BadCourse] = some false)
    (ki_BadCourse_12 : PySem.W.kitAny K (.ref A_NothingDone) [.ref A_BadCourse] = some false)
    (ki_BadCourse_13 : PySem.W.kitAny K (.ref A_BadJournal) [.ref A_BadCourse] = some false)
    (ki_BadCourse_14 : PySem.W.kitAny K (.ref A_BadText) [.ref A_BadCourse] = some false)
    (ki_BadDeal_0 : PySem.W.kitAny K (.ref A_LockError) [.ref A_BadDeal] = some false)
    (ki_BadDeal_1 : PySem.W.kitAny K (.ref A_BadWeb) [.ref A_BadDeal] = some false)
    (ki_BadDeal_2 : PySem.W.kitAny K (.ref A_NoParty) [.ref A_BadDeal] = some false)
    (ki_BadDeal_3 : PySem.W.kitAny K (.ref A_NoHanding) [.ref A_BadDeal] = some false)
    (ki_BadDeal_4 : PySem.W.kitAny K (.ref A_BadLeaders) [.ref A_BadDeal] = some false)
    (ki_BadDeal_5 : PySem.W.kitAny K (.ref A_BadKeepers) [.ref A_BadDeal] = some false)
    (ki_BadDeal_6 : PySem.W.kitAny K (.ref A_BadLaying) [.ref A_BadDeal] = some false)
    (ki_BadDeal_8 : PySem.W.kitAny K (.ref A_BadNumber) [.ref A_BadDeal] = some false)
    (ki_BadDeal_9 : PySem.W.kitAny K (.ref A_BadCourse) [.ref A_BadDeal] = some false)
    (ki_BadDeal_10 : PySem.W.kitAny K (.ref A_BadRule) [.ref A_BadDeal] = some false)
    (ki_BadDeal_11 : PySem.W.kitAny K (.ref A_NotNow) [.ref A_BadDeal] = some false)
    (ki_BadDeal_12 : PySem.W.kitAny K (.ref A_NothingDone) [.ref A_BadDeal] = some false)
    (ki_BadDeal_13 : PySem.W.kitAny K (.ref A_BadJournal) [.ref A_BadDeal] = some false)
    (ki_BadDeal_14 : PySem.W.kitAny K (.ref A_BadText) [.ref A_BadDeal] = some false)
    (ki_BadJournal_0 : PySem.W.kitAny K (.ref A_LockError) [.ref A_BadJournal] = some false)
    (ki_BadJournal_1 : PySem.W.kitAny K (.ref A_BadWeb) [.ref A_BadJournal] = some false)
    (ki_BadJournal_2 : PySem.W.kitAny K (.ref A_NoParty) [.ref A_BadJournal] = some false)
    (ki_BadJournal_3 : PySem.W.kitAny K (.ref A_NoHanding) [.ref A_BadJournal] = some false)
    (ki_BadJournal_4 : PySem.W.kitAny K (.ref A_BadLeaders) [.ref A_BadJournal] = some false)
    (ki_BadJournal_5 : PySem.W.kitAny K (.ref A_BadKeepers) [.ref A_BadJournal] = some false)
    (ki_BadJournal_6 : PySem.W.kitAny K (.ref A_BadLaying) [.ref A_BadJournal] = some false)
    (ki_BadJournal_7 : PySem.W.kitAny K (.ref A_BadDeal) [.ref A_BadJournal] = some false)
    (ki_BadJournal_8 : PySem.W.kitAny K (.ref A_BadNumber) [.ref A_BadJournal] = some false)
    (ki_BadJournal_9 : PySem.W.kitAny K (.ref A_BadCourse) [.ref A_BadJournal] = some false)
    (ki_BadJournal_10 : PySem.W.kitAny K (.ref A_BadRule) [.ref A_BadJournal] = some false)
    (ki_BadJournal_11 : PySem.W.kitAny K (.ref A_NotNow) [.ref A_BadJournal] = some false)
    (ki_BadJournal_12 : PySem.W.kitAny K (.ref A_NothingDone) [.ref A_BadJournal] = some false)
    (ki_BadJournal_14 : PySem.W.kitAny K (.ref A_BadText) [.ref A_BadJournal] = some false)
    (ki_BadKeepers_0 : PySem.W.kitAny K (.ref A_LockError) [.ref A_BadKeepers] = some false)
    (ki_BadKeepers_1 : PySem.W.kitAny K (.ref A_BadWeb) [.ref A_BadKeepers] = some false)
    (ki_BadKeepers_2 : PySem.W.kitAny K (.ref A_NoParty) [.ref A_BadKeepers] = some false)
    (ki_BadKeepers_3 : PySem.W.kitAny K (.ref A_NoHanding) [.ref A_BadKeepers] = some false)
    (ki_BadKeepers_4 : PySem.W.kitAny K (.ref A_BadLeaders) [.ref A_BadKeepers] = some false)
    (ki_BadKeepers_6 : PySem.W.kitAny K (.ref A_BadLaying) [.ref A_BadKeepers] = some false)
    (ki_BadKeepers_7 : PySem.W.kitAny K (.ref A_BadDeal) [.ref A_BadKeepers] = some false)
    (ki_BadKeepers_8 : PySem.W.kitAny K (.ref A_BadNumber) [.ref A_BadKeepers] = some false)
    (ki_BadKeepers_9 : PySem.W.kitAny K (.ref A_BadCourse) [.ref A_BadKeepers] = some false)
    (ki_BadKeepers_10 : PySem.W.kitAny K (.ref A_BadRule) [.ref A_BadKeepers] = some false)
    (ki_BadKeepers_11 : PySem.W.kitAny K (.ref A_NotNow) [.ref A_BadKeepers] = some false)
    (ki_BadKeepers_12 : PySem.W.kitAny K (.ref A_NothingDone) [.ref A_BadKeepers] = some false)
    (ki_BadKeepers_13 : PySem.W.kitAny K (.ref A_BadJournal) [.ref A_BadKeepers] = some false)
    (ki_BadKeepers_14 : PySem.W.kitAny K (.ref A_BadText) [.ref A_BadKeepers] = some false)
    (ki_BadLaying_0 : PySem.W.kitAny K (.ref A_LockError) [.ref A_BadLaying] = some false)
    (ki_BadLaying_1 : PySem.W.kitAny K (.ref A_BadWeb) [.ref A_BadLaying] = some false)
    (ki_BadLaying_2 : PySem.W.kitAny K (.ref A_NoParty) [.ref A_BadLaying] = some false)
    (ki_BadLaying_3 : PySem.W.kitAny K (.ref A_NoHanding) [.ref A_BadLaying] = some false)
    (ki_BadLaying_4 : PySem.W.kitAny K (.ref A_BadLeaders) [.ref A_BadLaying] = some false)
    (ki_BadLaying_5 : PySem.W.kitAny K (.ref A_BadKeepers) [.ref A_BadLaying] = some false)
    (ki_BadLaying_7 : PySem.W.kitAny K (.ref A_BadDeal) [.ref A_BadLaying] = some false)
    (ki_BadLaying_8 : PySem.W.kitAny K (.ref A_BadNumber) [.ref A_BadLaying] = some false)
    (ki_BadLaying_9 : PySem.W.kitAny K (.ref A_BadCourse) [.ref A_BadLaying] = some false)
    (ki_BadLaying_10 : PySem.W.kitAny K (.ref A_BadRule) [.ref A_BadLaying] = some false)
    (ki_BadLaying_11 : PySem.W.kitAny K (.ref A_NotNow) [.ref A_BadLaying] = some false)
    (ki_BadLaying_12 : PySem.W.kitAny K (.ref A_NothingDone) [.ref A_BadLaying] = some false)
    (ki_BadLaying_13 : PySem.W.kitAny K (.ref A_BadJournal) [.ref A_BadLaying] = some false)
    (ki_BadLaying_14 : PySem.W.kitAny K (.ref A_BadText) [.ref A_BadLaying] = some false)
    (ki_BadLeaders_0 : PySem.W.kitAny K (.ref A_LockError) [.ref A_BadLeaders] = some false)
    (ki_BadLeaders_1 : PySem.W.kitAny K (.ref A_BadWeb) [.ref A_BadLeaders] = some false)
    (ki_BadLeaders_2 : PySem.W.kitAny K (.ref A_NoParty) [.ref A_BadLeaders] = some false)
    (ki_BadLeaders_3 : PySem.W.kitAny K (.ref A_NoHanding) [.ref A_BadLeaders] = some false)
    (ki_BadLeaders_5 : PySem.W.kitAny K (.ref A_BadKeepers) [.ref A_BadLeaders] = some false)
    (ki_BadLeaders_6 : PySem.W.kitAny K (.ref A_BadLaying) [.ref A_BadLeaders] = some false)
    (ki_BadLeaders_7 : PySem.W.kitAny K (.ref A_BadDeal) [.ref A_BadLeaders] = some false)
    (ki_BadLeaders_8 : PySem.W.kitAny K (.ref A_BadNumber) [.ref A_BadLeaders] = some false)
    (ki_BadLeaders_9 : PySem.W.kitAny K (.ref A_BadCourse) [.ref A_BadLeaders] = some false)
    (ki_BadLeaders_10 : PySem.W.kitAny K (.ref A_BadRule) [.ref A_BadLeaders] = some false)
    (ki_BadLeaders_11 : PySem.W.kitAny K (.ref A_NotNow) [.ref A_BadLeaders] = some false)
    (ki_BadLeaders_12 : PySem.W.kitAny K (.ref A_NothingDone) [.ref A_BadLeaders] = some false)
    (ki_BadLeaders_13 : PySem.W.kitAny K (.ref A_BadJournal) [.ref A_BadLeaders] = some false)
    (ki_BadLeaders_14 : PySem.W.kitAny K (.ref A_BadText) [.ref A_BadLeaders] = some false)
    (ki_BadNumber_0 : PySem.W.kitAny K (.ref A_LockError) [.ref A_BadNumber] = some false)
    (ki_BadNumber_1 : PySem.W.kitAny K (.ref A_BadWeb) [.ref A_BadNumber] = some false)
    (ki_BadNumber_2 : PySem.W.kitAny K (.ref A_NoParty) [.ref A_BadNumber] = some false)
    (ki_BadNumber_3 : PySem.W.kitAny K (.ref A_NoHanding) [.ref A_BadNumber] = some false)
    (ki_BadNumber_4 : PySem.W.kitAny K (.ref A_BadLeaders) [.ref A_BadNumber] = some false)
    (ki_BadNumber_5 : PySem.W.kitAny K (.ref A_BadKeepers) [.ref A_BadNumber] = some false)
    (ki_BadNumber_6 : PySem.W.kitAny K (.ref A_BadLaying) [.ref A_BadNumber] = some false)
    (ki_BadNumber_7 : PySem.W.kitAny K (.ref A_BadDeal) [.ref A_BadNumber] = some false)
    (ki_BadNumber_9 : PySem.W.kitAny K (.ref A_BadCourse) [.ref A_BadNumber] = some false)
    (ki_BadNumber_10 : PySem.W.kitAny K (.ref A_BadRule) [.ref A_BadNumber] = some false)
    (ki_BadNumber_11 : PySem.W.kitAny K (.ref A_NotNow) [.ref A_BadNumber] = some false)
    (ki_BadNumber_12 : PySem.W.kitAny K (.ref A_NothingDone) [.ref A_BadNumber] = some false)
    (ki_BadNumber_13 : PySem.W.kitAny K (.ref A_BadJournal) [.ref A_BadNumber] = some false)
    (ki_BadNumber_14 : PySem.W.kitAny K (.ref A_BadText) [.ref A_BadNumber] = some false)
    (ki_BadRule_0 : PySem.W.kitAny K (.ref A_LockError) [.ref A_BadRule] = some false)
    (ki_BadRule_1 : PySem.W.kitAny K (.ref A_BadWeb) [.ref A_BadRule] = some false)
    (ki_BadRule_2 : PySem.W.kitAny K (.ref A_NoParty) [.ref A_BadRule] = some false)
    (ki_BadRule_3 : PySem.W.kitAny K (.ref A_NoHanding) [.ref A_BadRule] = some false)
    (ki_BadRule_4 : PySem.W.kitAny K (.ref A_BadLeaders) [.ref A_BadRule] = some false)
    (ki_BadRule_5 : PySem.W.kitAny K (.ref A_BadKeepers) [.ref A_BadRule] = some false)
    (ki_BadRule_6 : PySem.W.kitAny K (.ref A_BadLaying) [.ref A_BadRule] = some false)
    (ki_BadRule_7 : PySem.W.kitAny K (.ref A_BadDeal) [.ref A_BadRule] = some false)
    (ki_BadRule_8 : PySem.W.kitAny K (.ref A_BadNumber) [.ref A_BadRule] = some false)
    (ki_BadRule_9 : PySem.W.kitAny K (.ref A_BadCourse) [.ref A_BadRule] = some false)
    (ki_BadRule_11 : PySem.W.kitAny K (.ref A_NotNow) [.ref A_BadRule] = some false)
    (ki_BadRule_12 : PySem.W.kitAny K (.ref A_NothingDone) [.ref A_BadRule] = some false)
    (ki_BadRule_13 : PySem.W.kitAny K (.ref A_BadJournal) [.ref A_BadRule] = some false)
    (ki_BadRule_14 : PySem.W.kitAny K (.ref A_BadText) [.ref A_BadRule] = some false)
    (ki_BadText_0 : PySem.W.kitAny K (.ref A_LockError) [.ref A_BadText] = some false)
    (ki_BadText_1 : PySem.W.kitAny K (.ref A_BadWeb) [.ref A_BadText] = some false)
    (ki_BadText_2 : PySem.W.kitAny K (.ref A_NoParty) [.ref A_BadText] = some false)
    (ki_BadText_3 : PySem.W.kitAny K (.ref A_NoHanding) [.ref A_BadText] = some false)
    (ki_BadText_4 : PySem.W.kitAny K (.ref A_BadLeaders) [.ref A_BadText] = some false)
    (ki_BadText_5 : PySem.W.kitAny K (.ref A_BadKeepers) [.ref A_BadText] = some false)
    (ki_BadText_6 : PySem.W.kitAny K (.ref A_BadLaying) [.ref A_BadText] = some false)
    (ki_BadText_7 : PySem.W.kitAny K (.ref A_BadDeal) [.ref A_BadText] = some false)
    (ki_BadText_8 : PySem.W.kitAny K (.ref A_BadNumber) [.ref A_BadText] = some false)
    (ki_BadText_9 : PySem.W.kitAny K (.ref A_BadCourse) [.ref A_BadText] = some false)
    (ki_BadText_10 : PySem.W.kitAny K (.ref A_BadRule) [.ref A_BadText] = some false)
    (ki_BadText_11 : PySem.W.kitAny K (.ref A_NotNow) [.ref A_BadText] = some false)
    (ki_BadText_12 : PySem.W.kitAny K (.ref A_NothingDone) [.ref A_BadText] = some false)
    (ki_BadText_13 : PySem.W.kitAny K (.ref A_BadJournal) [.ref A_BadText] = some false)
    (ki_BadWeb_0 : PySem.W.kitAny K (.ref A_LockError) [.ref A_BadWeb] = some false)
    (ki_BadWeb_2 : PySem.W.kitAny K (.ref A_NoParty) [.ref A_BadWeb] = some false)
    (ki_BadWeb_3 : PySem.W.kitAny K (.ref A_NoHanding) [.ref A_BadWeb] = some false)
    (ki_BadWeb_4 : PySem.W.kitAny K (.ref A_BadLeaders) [.ref A_BadWeb] = some false)
    (ki_BadWeb_5 : PySem.W.kitAny K (.ref A_BadKeepers) [.ref A_BadWeb] = some false)
    (ki_BadWeb_6 : PySem.W.kitAny K (.ref A_BadLaying) [.ref A_BadWeb] = some false)
    (ki_BadWeb_7 : PySem.W.kitAny K (.ref A_BadDeal) [.ref A_BadWeb] = some false)
    (ki_BadWeb_8 : PySem.W.kitAny K (.ref A_BadNumber) [.ref A_BadWeb] = some false)
    (ki_BadWeb_9 : PySem.W.kitAny K (.ref A_BadCourse) [.ref A_BadWeb] = some false)
    (ki_BadWeb_10 : PySem.W.kitAny K (.ref A_BadRule) [.ref A_BadWeb] = some false)
    (ki_BadWeb_11 : PySem.W.kitAny K (.ref A_NotNow) [.ref A_BadWeb] = some false)
    (ki_BadWeb_12 : PySem.W.kitAny K (.ref A_NothingDone) [.ref A_BadWeb] = some false)
    (ki_BadWeb_13 : PySem.W.kitAny K (.ref A_BadJournal) [.ref A_BadWeb] = some false)
    (ki_BadWeb_14 : PySem.W.kitAny K (.ref A_BadText) [.ref A_BadWeb] = some false)
    (ki_LockError_1 : PySem.W.kitAny K (.ref A_BadWeb) [.ref A_LockError] = some true)
    (ki_LockError_2 : PySem.W.kitAny K (.ref A_NoParty) [.ref A_LockError] = some true)
    (ki_LockError_3 : PySem.W.kitAny K (.ref A_NoHanding) [.ref A_LockError] = some true)
    (ki_LockError_4 : PySem.W.kitAny K (.ref A_BadLeaders) [.ref A_LockError] = some true)
    (ki_LockError_5 : PySem.W.kitAny K (.ref A_BadKeepers) [.ref A_LockError] = some true)
    (ki_LockError_6 : PySem.W.kitAny K (.ref A_BadLaying) [.ref A_LockError] = some true)
    (ki_LockError_7 : PySem.W.kitAny K (.ref A_BadDeal) [.ref A_LockError] = some true)
    (ki_LockError_8 : PySem.W.kitAny K (.ref A_BadNumber) [.ref A_LockError] = some true)
    (ki_LockError_9 : PySem.W.kitAny K (.ref A_BadCourse) [.ref A_LockError] = some true)
    (ki_LockError_10 : PySem.W.kitAny K (.ref A_BadRule) [.ref A_LockError] = some true)
    (ki_LockError_11 : PySem.W.kitAny K (.ref A_NotNow) [.ref A_LockError] = some true)
    (ki_LockError_12 : PySem.W.kitAny K (.ref A_NothingDone) [.ref A_LockError] = some true)
    (ki_LockError_13 : PySem.W.kitAny K (.ref A_BadJournal) [.ref A_LockError] = some true)
    (ki_LockError_14 : PySem.W.kitAny K (.ref A_BadText) [.ref A_LockError] = some true)
    (ki_NoHanding_0 : PySem.W.kitAny K (.ref A_LockError) [.ref A_NoHanding] = some false)
    (ki_NoHanding_1 : PySem.W.kitAny K (.ref A_BadWeb) [.ref A_NoHanding] = some false)
    (ki_NoHanding_2 : PySem.W.kitAny K (.ref A_NoParty) [.ref A_NoHanding] = some false)
    (ki_NoHanding_4 : PySem.W.kitAny K (.ref A_BadLeaders) [.ref A_NoHanding] = some false)
    (ki_NoHanding_5 : PySem.W.kitAny K (.ref A_BadKeepers) [.ref A_NoHanding] = some false)
    (ki_NoHanding_6 : PySem.W.kitAny K (.ref A_BadLaying) [.ref A_NoHanding] = some false)
    (ki_NoHanding_7 : PySem.W.kitAny K (.ref A_BadDeal) [.ref A_NoHanding] = some false)
    (ki_NoHanding_8 : PySem.W.kitAny K (.ref A_BadNumber) [.ref A_NoHanding] = some false)
    (ki_NoHanding_9 : PySem.W.kitAny K (.ref A_BadCourse) [.ref A_NoHanding] = some false)
    (ki_NoHanding_10 : PySem.W.kitAny K (.ref A_BadRule) [.ref A_NoHanding] = some false)
    (ki_NoHanding_11 : PySem.W.kitAny K (.ref A_NotNow) [.ref A_NoHanding] = some false)
    (ki_NoHanding_12 : PySem.W.kitAny K (.ref A_NothingDone) [.ref A_NoHanding] = some false)
    (ki_NoHanding_13 : PySem.W.kitAny K (.ref A_BadJournal) [.ref A_NoHanding] = some false)
    (ki_NoHanding_14 : PySem.W.kitAny K (.ref A_BadText) [.ref A_NoHanding] = some false)
    (ki_NoParty_0 : PySem.W.kitAny K (.ref A_LockError) [.ref A_NoParty] = some false)
    (ki_NoParty_1 : PySem.W.kitAny K (.ref A_BadWeb) [.ref A_NoParty] = some false)
    (ki_NoParty_3 : PySem.W.kitAny K (.ref A_NoHanding) [.ref A_NoParty] = some false)
    (ki_NoParty_4 : PySem.W.kitAny K (.ref A_BadLeaders) [.ref A_NoParty] = some false)
    (ki_NoParty_5 : PySem.W.kitAny K (.ref A_BadKeepers) [.ref A_NoParty] = some false)
    (ki_NoParty_6 : PySem.W.kitAny K (.ref A_BadLaying) [.ref A_NoParty] = some false)
    (ki_NoParty_7 : PySem.W.kitAny K (.ref A_BadDeal) [.ref A_NoParty] = some false)
    (ki_NoParty_8 : PySem.W.kitAny K (.ref A_BadNumber) [.ref A_NoParty] = some false)
    (ki_NoParty_9 : PySem.W.kitAny K (.ref A_BadCourse) [.ref A_NoParty] = some false)
    (ki_NoParty_10 : PySem.W.kitAny K (.ref A_BadRule) [.ref A_NoParty] = some false)
    (ki_NoParty_11 : PySem.W.kitAny K (.ref A_NotNow) [.ref A_NoParty] = some false)
    (ki_NoParty_12 : PySem.W.kitAny K (.ref A_NothingDone) [.ref A_NoParty] = some false)
    (ki_NoParty_13 : PySem.W.kitAny K (.ref A_BadJournal) [.ref A_NoParty] = some false)
    (ki_NoParty_14 : PySem.W.kitAny K (.ref A_BadText) [.ref A_NoParty] = some false)
    (ki_NotNow_0 : PySem.W.kitAny K (.ref A_LockError) [.ref A_NotNow] = some false)
    (ki_NotNow_1 : PySem.W.kitAny K (.ref A_BadWeb) [.ref A_NotNow] = some false)
    (ki_NotNow_2 : PySem.W.kitAny K (.ref A_NoParty) [.ref A_NotNow] = some false)
    (ki_NotNow_3 : PySem.W.kitAny K (.ref A_NoHanding) [.ref A_NotNow] = some false)
    (ki_NotNow_4 : PySem.W.kitAny K (.ref A_BadLeaders) [.ref A_NotNow] = some false)
    (ki_NotNow_5 : PySem.W.kitAny K (.ref A_BadKeepers) [.ref A_NotNow] = some false)
    (ki_NotNow_6 : PySem.W.kitAny K (.ref A_BadLaying) [.ref A_NotNow] = some false)
    (ki_NotNow_7 : PySem.W.kitAny K (.ref A_BadDeal) [.ref A_NotNow] = some false)
    (ki_NotNow_8 : PySem.W.kitAny K (.ref A_BadNumber) [.ref A_NotNow] = some false)
    (ki_NotNow_9 : PySem.W.kitAny K (.ref A_BadCourse) [.ref A_NotNow] = some false)
    (ki_NotNow_10 : PySem.W.kitAny K (.ref A_BadRule) [.ref A_NotNow] = some false)
    (ki_NotNow_12 : PySem.W.kitAny K (.ref A_NothingDone) [.ref A_NotNow] = some false)
    (ki_NotNow_13 : PySem.W.kitAny K (.ref A_BadJournal) [.ref A_NotNow] = some false)
    (ki_NotNow_14 : PySem.W.kitAny K (.ref A_BadText) [.ref A_NotNow] = some false)
    (ki_NothingDone_0 : PySem.W.kitAny K (.ref A_LockError) [.ref A_NothingDone] = some false)
    (ki_NothingDone_1 : PySem.W.kitAny K (.ref A_BadWeb) [.ref A_NothingDone] = some false)
    (ki_NothingDone_2 : PySem.W.kitAny K (.ref A_NoParty) [.ref A_NothingDone] = some false)
    (ki_NothingDone_3 : PySem.W.kitAny K (.ref A_NoHanding) [.ref A_NothingDone] = some false)
    (ki_NothingDone_4 : PySem.W.kitAny K (.ref A_BadLeaders) [.ref A_NothingDone] = some false)
    (ki_NothingDone_5 : PySem.W.kitAny K (.ref A_BadKeepers) [.ref A_NothingDone] = some false)
    (ki_NothingDone_6 : PySem.W.kitAny K (.ref A_BadLaying) [.ref A_NothingDone] = some false)
    (ki_NothingDone_7 : PySem.W.kitAny K (.ref A_BadDeal) [.ref A_NothingDone] = some false)
    (ki_NothingDone_8 : PySem.W.kitAny K (.ref A_BadNumber) [.ref A_NothingDone] = some false)
    (ki_NothingDone_9 : PySem.W.kitAny K (.ref A_BadCourse) [.ref A_NothingDone] = some false)
    (ki_NothingDone_10 : PySem.W.kitAny K (.ref A_BadRule) [.ref A_NothingDone] = some false)
    (ki_NothingDone_11 : PySem.W.kitAny K (.ref A_NotNow) [.ref A_NothingDone] = some false)
    (ki_NothingDone_13 : PySem.W.kitAny K (.ref A_BadJournal) [.ref A_NothingDone] = some false)
    (ki_NothingDone_14 : PySem.W.kitAny K (.ref A_BadText) [.ref A_NothingDone] = some false)
    (ki_ValueError_0 : PySem.W.kitAny K (.ref A_LockError) [.type "ValueError"] = some true)
    (ki_ValueError_1 : PySem.W.kitAny K (.ref A_BadWeb) [.type "ValueError"] = some true)
    (ki_ValueError_2 : PySem.W.kitAny K (.ref A_NoParty) [.type "ValueError"] = some true)
    (ki_ValueError_3 : PySem.W.kitAny K (.ref A_NoHanding) [.type "ValueError"] = some true)
    (ki_ValueError_4 : PySem.W.kitAny K (.ref A_BadLeaders) [.type "ValueError"] = some true)
    (ki_ValueError_5 : PySem.W.kitAny K (.ref A_BadKeepers) [.type "ValueError"] = some true)
    (ki_ValueError_6 : PySem.W.kitAny K (.ref A_BadLaying) [.type "ValueError"] = some true)
    (ki_ValueError_7 : PySem.W.kitAny K (.ref A_BadDeal) [.type "ValueError"] = some true)
    (ki_ValueError_8 : PySem.W.kitAny K (.ref A_BadNumber) [.type "ValueError"] = some true)
    (ki_ValueError_9 : PySem.W.kitAny K (.ref A_BadCourse) [.type "ValueError"] = some true)
    (ki_ValueError_10 : PySem.W.kitAny K (.ref A_BadRule) [.type "ValueError"] = some true)
    (ki_ValueError_11 : PySem.W.kitAny K (.ref A_NotNow) [.type "ValueError"] = some true)
    (ki_ValueError_12 : PySem.W.kitAny K (.ref A_NothingDone) [.type "ValueError"] = some true)
    (ki_ValueError_13 : PySem.W.kitAny K (.ref A_BadJournal) [.type "ValueError"] = some true)
    (ki_ValueError_14 : PySem.W.kitAny K (.ref A_BadText) [.type "ValueError"] = some true)
    (a_law_begin : PySem.W.nsIn K mainGlobals "_law_begin" = some (some (.ref f_law_begin)))
    (l_law_begin : K.lookup f_law_begin = some ⟨oc_law_begin, od_law_begin, .func (PySem.W.fnOf "_law_begin" "_law_begin" (defArgs s_law_begin) (defBody s_law_begin) (defScope s_law_begin) .none kV_law_begin dc_law_begin pm_law_begin an_law_begin cd_law_begin ct_law_begin), sl_law_begin⟩)
    (c_law_begin : PySem.W.codeIn K cd_law_begin "_law_begin" = true)
    (k_law_begin : PySem.W.keepIn K (.ref f_law_begin) = true)
    (a_law_blend : PySem.W.nsIn K mainGlobals "_law_blend" = some (some (.ref f_law_blend)))
    (l_law_blend : K.lookup f_law_blend = some ⟨oc_law_blend, od_law_blend, .func (PySem.W.fnOf "_law_blend" "_law_blend" (defArgs s_law_blend) (defBody s_law_blend) (defScope s_law_blend) .none kV_law_blend dc_law_blend pm_law_blend an_law_blend cd_law_blend ct_law_blend), sl_law_blend⟩)
    (c_law_blend : PySem.W.codeIn K cd_law_blend "_law_blend" = true)
    (k_law_blend : PySem.W.keepIn K (.ref f_law_blend) = true)
    (a_law_take : PySem.W.nsIn K mainGlobals "_law_take" = some (some (.ref f_law_take)))
    (l_law_take : K.lookup f_law_take = some ⟨oc_law_take, od_law_take, .func (PySem.W.fnOf "_law_take" "_law_take" (defArgs s_law_take) (defBody s_law_take) (defScope s_law_take) .none kV_law_take dc_law_take pm_law_take an_law_take cd_law_take ct_law_take), sl_law_take⟩)
    (c_law_take : PySem.W.codeIn K cd_law_take "_law_take" = true)
    (k_law_take : PySem.W.keepIn K (.ref f_law_take) = true)
    (a_law_pick : PySem.W.nsIn K mainGlobals "_law_pick" = some (some (.ref f_law_pick)))
    (l_law_pick : K.lookup f_law_pick = some ⟨oc_law_pick, od_law_pick, .func (PySem.W.fnOf "_law_pick" "_law_pick" (defArgs s_law_pick) (defBody s_law_pick) (defScope s_law_pick) .none kV_law_pick dc_law_pick pm_law_pick an_law_pick cd_law_pick ct_law_pick), sl_law_pick⟩)
    (c_law_pick : PySem.W.codeIn K cd_law_pick "_law_pick" = true)
    (k_law_pick : PySem.W.keepIn K (.ref f_law_pick) = true)
    (a_law_plain : PySem.W.nsIn K mainGlobals "_law_plain" = some (some (.ref f_law_plain)))
    (l_law_plain : K.lookup f_law_plain = some ⟨oc_law_plain, od_law_plain, .func (PySem.W.fnOf "_law_plain" "_law_plain" (defArgs s_law_plain) (defBody s_law_plain) (defScope s_law_plain) .none kV_law_plain dc_law_plain pm_law_plain an_law_plain cd_law_plain ct_law_plain), sl_law_plain⟩)
    (c_law_plain : PySem.W.codeIn K cd_law_plain "_law_plain" = true)
    (k_law_plain : PySem.W.keepIn K (.ref f_law_plain) = true)
    (a_law_marks : PySem.W.nsIn K mainGlobals "_law_marks" = some (some (.ref f_law_marks)))
    (l_law_marks : K.lookup f_law_marks = some ⟨oc_law_marks, od_law_marks, .func (PySem.W.fnOf "_law_marks" "_law_marks" (defArgs s_law_marks) (defBody s_law_marks) (defScope s_law_marks) .none kV_law_marks dc_law_marks pm_law_marks an_law_marks cd_law_marks ct_law_marks), sl_law_marks⟩)
    (c_law_marks : PySem.W.codeIn K cd_law_marks "_law_marks" = true)
    (k_law_marks : PySem.W.keepIn K (.ref f_law_marks) = true)
    (a_law_alone : PySem.W.nsIn K mainGlobals "_law_alone" = some (some (.ref f_law_alone)))
    (l_law_alone : K.lookup f_law_alone = some ⟨oc_law_alone, od_law_alone, .func (PySem.W.fnOf "_law_alone" "_law_alone" (defArgs s_law_alone) (defBody s_law_alone) (defScope s_law_alone) .none kV_law_alone dc_law_alone pm_law_alone an_law_alone cd_law_alone ct_law_alone), sl_law_alone⟩)
    (c_law_alone : PySem.W.codeIn K cd_law_alone "_law_alone" = true)
    (k_law_alone : PySem.W.keepIn K (.ref f_law_alone) = true)
    (a_law_with_fields : PySem.W.nsIn K mainGlobals "_law_with_fields" = some (some (.ref f_law_with_fields)))
    (l_law_with_fields : K.lookup f_law_with_fields = some ⟨oc_law_with_fields, od_law_with_fields, .func (PySem.W.fnOf "_law_with_fields" "_law_with_fields" (defArgs s_law_with_fields) (defBody s_law_with_fields) (defScope s_law_with_fields) .none kV_law_with_fields dc_law_with_fields pm_law_with_fields an_law_with_fields cd_law_with_fields ct_law_with_fields), sl_law_with_fields⟩)
    (c_law_with_fields : PySem.W.codeIn K cd_law_with_fields "_law_with_fields" = true)
    (k_law_with_fields : PySem.W.keepIn K (.ref f_law_with_fields) = true)
    (a_law : PySem.W.nsIn K mainGlobals "law" = some (some (.ref f_law)))
    (l_law : K.lookup f_law = some ⟨oc_law, od_law, .func (PySem.W.fnOf "law" "law" (defArgs s_law) (defBody s_law) (defScope s_law) .none kV_law dc_law pm_law an_law cd_law ct_law), sl_law⟩)
    (c_law : PySem.W.codeIn K cd_law "law" = true)
    (k_law : PySem.W.keepIn K (.ref f_law) = true)
    (z_ValueError : PySem.W.nsIn K mainGlobals "ValueError" = some none)
    (z_abs : PySem.W.nsIn K mainGlobals "abs" = some none)
    (z_enumerate : PySem.W.nsIn K mainGlobals "enumerate" = some none)
    (z_int : PySem.W.nsIn K mainGlobals "int" = some none)
    (z_isinstance : PySem.W.nsIn K mainGlobals "isinstance" = some none)
    (z_len : PySem.W.nsIn K mainGlobals "len" = some none)
    (z_min : PySem.W.nsIn K mainGlobals "min" = some none)
    (z_range : PySem.W.nsIn K mainGlobals "range" = some none)
    (z_repr : PySem.W.nsIn K mainGlobals "repr" = some none)
    (z_str : PySem.W.nsIn K mainGlobals "str" = some none) : Tied P K mg := ⟨{
    hK := rfl
    hT := rfl
    y_LockError := mkS_mk qx_LockError kc_LockError
    fx_BadWeb := f_BadWeb_init
    fdx_BadWeb := _
    x_BadWeb := ⟨supI_mk supb_BadWeb l_BadWeb_init c_BadWeb_init lc_BadWeb hv_BadWeb hf_BadWeb lcc_BadWeb rfl rfl hC_BadWeb hr_BadWeb hh_BadWeb hi_BadWeb su_BadWeb (PySem.W.mg_none_of X Gn sup) topn opq sm_BadWeb sB_BadWeb sa_BadWeb fno_BadWeb, sups_BadWeb, a_BadWeb_init, ti_BadWeb_init, kc_BadWeb, .all fun us hl => match us, hl with | [_, _], _ => rfl, kb_all fun us ws h1 h2 => match us, ws, h1, h2 with | [_], [_], _, _ => rfl⟩
    fx_NoParty := f_NoParty_init
    fdx_NoParty := _
    x_NoParty := ⟨supI_mk supb_NoParty l_NoParty_init c_NoParty_init lc_NoParty hv_NoParty hf_NoParty lcc_NoParty rfl rfl hC_NoParty hr_NoParty hh_NoParty hi_NoParty su_NoParty (PySem.W.mg_none_of X Gn sup) topn opq sm_NoParty sB_NoParty sa_NoParty fno_NoParty, sups_NoParty, a_NoParty_init, ti_NoParty_init, kc_NoParty, .all fun us hl => match us, hl with | [_, _], _ => rfl, kb_all fun us ws h1 h2 => match us, ws, h1, h2 with | [_], [_], _, _ => rfl⟩
    fx_NoHanding := f_NoHanding_init
    fdx_NoHanding := _
    x_NoHanding := ⟨supI_mk supb_NoHanding l_NoHanding_init c_NoHanding_init lc_NoHanding hv_NoHanding hf_NoHanding lcc_NoHanding rfl rfl hC_NoHanding hr_NoHanding hh_NoHanding hi_NoHanding su_NoHanding (PySem.W.mg_none_of X Gn sup) topn opq sm_NoHanding sB_NoHanding sa_NoHanding fno_NoHanding, sups_NoHanding, a_NoHanding_init, ti_NoHanding_init, kc_NoHanding, .all fun us hl => match us, hl with | [_, _], _ => rfl, kb_all fun us ws h1 h2 => match us, ws, h1, h2 with | [_], [_], _, _ => rfl⟩
    y_BadLeaders := mkS_mk qx_BadLeaders kc_BadLeaders
    y_BadKeepers := mkS_mk qx_BadKeepers kc_BadKeepers
    fx_BadLaying := f_BadLaying_init
    fdx_BadLaying := _
    x_BadLaying := ⟨supI_mk supb_BadLaying l_BadLaying_init c_BadLaying_init lc_BadLaying hv_BadLaying hf_BadLaying lcc_BadLaying rfl rfl hC_BadLaying hr_BadLaying hh_BadLaying hi_BadLaying su_BadLaying (PySem.W.mg_none_of X Gn sup) topn opq sm_BadLaying sB_BadLaying sa_BadLaying fno_BadLaying, sups_BadLaying, a_BadLaying_init, ti_BadLaying_init, kc_BadLaying, .all fun us hl => match us, hl with | [_, _], _ => rfl, kb_all fun us ws h1 h2 => match us, ws, h1, h2 with | [_], [_], _, _ => rfl⟩
    fx_BadDeal := f_BadDeal_init
    fdx_BadDeal := _
    x_BadDeal := ⟨supI_mk supb_BadDeal l_BadDeal_init c_BadDeal_init lc_BadDeal hv_BadDeal hf_BadDeal lcc_BadDeal rfl rfl hC_BadDeal hr_BadDeal hh_BadDeal hi_BadDeal su_BadDeal (PySem.W.mg_none_of X Gn sup) topn opq sm_BadDeal sB_BadDeal sa_BadDeal fno_BadDeal, sups_BadDeal, a_BadDeal_init, ti_BadDeal_init, kc_BadDeal, .all fun us hl => match us, hl with | [_, _], _ => rfl, kb_all fun us ws h1 h2 => match us, ws, h1, h2 with | [_], [_], _, _ => rfl⟩
    fx_BadNumber := f_BadNumber_init
    fdx_BadNumber := _
    x_BadNumber := ⟨supI_mk supb_BadNumber l_BadNumber_init c_BadNumber_init lc_BadNumber hv_BadNumber hf_BadNumber lcc_BadNumber rfl rfl hC_BadNumber hr_BadNumber hh_BadNumber hi_BadNumber su_BadNumber (PySem.W.mg_none_of X Gn sup) topn opq sm_BadNumber sB_BadNumber sa_BadNumber fno_BadNumber, sups_BadNumber, a_BadNumber_init, ti_BadNumber_init, kc_BadNumber, .all fun us hl => match us, hl with | [_, _], _ => rfl, kb_all fun us ws h1 h2 => match us, ws, h1, h2 with | [_], [_], _, _ => rfl⟩
    y_BadCourse := mkS_mk qx_BadCourse kc_BadCourse
    fx_BadRule := f_BadRule_init
    fdx_BadRule := _
    x_BadRule := ⟨supI_mk supb_BadRule l_BadRule_init c_BadRule_init lc_BadRule hv_BadRule hf_BadRule lcc_BadRule rfl rfl hC_BadRule hr_BadRule hh_BadRule hi_BadRule su_BadRule (PySem.W.mg_none_of X Gn sup) topn opq sm_BadRule sB_BadRule sa_BadRule fno_BadRule, sups_BadRule, a_BadRule_init, ti_BadRule_init, kc_BadRule, .all fun us hl => match us, hl with | [_, _], _ => rfl, kb_all fun us ws h1 h2 => match us, ws, h1, h2 with | [_], [_], _, _ => rfl⟩
    fx_NotNow := f_NotNow_init
    fdx_NotNow := _
    x_NotNow := ⟨supI_mk supb_NotNow l_NotNow_init c_NotNow_init lc_NotNow hv_NotNow hf_NotNow lcc_NotNow rfl rfl hC_NotNow hr_NotNow hh_NotNow hi_NotNow su_NotNow (PySem.W.mg_none_of X Gn sup) topn opq sm_NotNow sB_NotNow sa_NotNow fno_NotNow, sups_NotNow, a_NotNow_init, ti_NotNow_init, kc_NotNow, .all fun us hl => match us, hl with | [_, _], _ => rfl, kb_all fun us ws h1 h2 => match us, ws, h1, h2 with | [_], [_], _, _ => rfl⟩
    y_NothingDone := mkS_mk qx_NothingDone kc_NothingDone
    fx_BadJournal := f_BadJournal_init
    fdx_BadJournal := _
    x_BadJournal := ⟨supI_mk supb_BadJournal l_BadJournal_init c_BadJournal_init lc_BadJournal hv_BadJournal hf_BadJournal lcc_BadJournal rfl rfl hC_BadJournal hr_BadJournal hh_BadJournal hi_BadJournal su_BadJournal (PySem.W.mg_none_of X Gn sup) topn opq sm_BadJournal sB_BadJournal sa_BadJournal fno_BadJournal, sups_BadJournal, a_BadJournal_init, ti_BadJournal_init, kc_BadJournal, .all fun us hl => match us, hl with | [_, _], _ => rfl, kb_all fun us ws h1 h2 => match us, ws, h1, h2 with | [_], [_], _, _ => rfl⟩
    fx_BadText := f_BadText_init
    fdx_BadText := _
    x_BadText := ⟨supI_mk supb_BadText l_BadText_init c_BadText_init lc_BadText hv_BadText hf_BadText lcc_BadText rfl rfl hC_BadText hr_BadText hh_BadText hi_BadText su_BadText (PySem.W.mg_none_of X Gn sup) topn opq sm_BadText sB_BadText sa_BadText fno_BadText, sups_BadText, a_BadText_init, ti_BadText_init, kc_BadText, .all fun us hl => match us, hl with | [_, _], _ => rfl, kb_all fun us ws h1 h2 => match us, ws, h1, h2 with | [_], [_], _, _ => rfl⟩
    ax_part := (fldX_cons (cm_at (PySem.W.mg_of X Gn aC_BadWeb)) (excI_mk hd_BadWeb ga_BadWeb gg_BadWeb sb_BadWeb ha_BadWeb hn ht hm_BadWeb) fno_BadWeb (fldX_cons (cm_at (PySem.W.mg_of X Gn aC_BadDeal)) (excI_mk hd_BadDeal ga_BadDeal gg_BadDeal sb_BadDeal ha_BadDeal hn ht hm_BadDeal) fno_BadDeal (fldX_cons (cm_at (PySem.W.mg_of X Gn aC_BadRule)) (excI_mk hd_BadRule ga_BadRule gg_BadRule sb_BadRule ha_BadRule hn ht hm_BadRule) fno_BadRule fldX_nil)))
    ax_party := (fldX_cons (cm_at (PySem.W.mg_of X Gn aC_NoParty)) (excI_mk hd_NoParty ga_NoParty gg_NoParty sb_NoParty ha_NoParty hn ht hm_NoParty) fno_NoParty fldX_nil)
    ax_handing := (fldX_cons (cm_at (PySem.W.mg_of X Gn aC_NoHanding)) (excI_mk hd_NoHanding ga_NoHanding gg_NoHanding sb_NoHanding ha_NoHanding hn ht hm_NoHanding) fno_NoHanding fldX_nil)
    ax_at := (fldX_cons (cm_at (PySem.W.mg_of X Gn aC_BadLaying)) (excI_mk hd_BadLaying ga_BadLaying gg_BadLaying sb_BadLaying ha_BadLaying hn ht hm_BadLaying) fno_BadLaying (fldX_cons (cm_at (PySem.W.mg_of X Gn aC_BadJournal)) (excI_mk hd_BadJournal ga_BadJournal gg_BadJournal sb_BadJournal ha_BadJournal hn ht hm_BadJournal) fno_BadJournal fldX_nil))
    ax_number := (fldX_cons (cm_at (PySem.W.mg_of X Gn aC_BadNumber)) (excI_mk hd_BadNumber ga_BadNumber gg_BadNumber sb_BadNumber ha_BadNumber hn ht hm_BadNumber) fno_BadNumber fldX_nil)
    ax_word := (fldX_cons (cm_at (PySem.W.mg_of X Gn aC_NotNow)) (excI_mk hd_NotNow ga_NotNow gg_NotNow sb_NotNow ha_NotNow hn ht hm_NotNow) fno_NotNow fldX_nil)
    ax_line := (fldX_cons (cm_at (PySem.W.mg_of X Gn aC_BadText)) (excI_mk hd_BadText ga_BadText gg_BadText sb_BadText ha_BadText hn ht hm_BadText) fno_BadText fldX_nil)
    strx := (strX_cons (cm_at (PySem.W.mg_of X Gn aC_LockError)) st_LockError sb_LockError (strX_cons (cm_at (PySem.W.mg_of X Gn aC_BadLeaders)) st_BadLeaders sb_BadLeaders (strX_cons (cm_at (PySem.W.mg_of X Gn aC_BadKeepers)) st_BadKeepers sb_BadKeepers (strX_cons (cm_at (PySem.W.mg_of X Gn aC_BadCourse)) st_BadCourse sb_BadCourse (strX_cons (cm_at (PySem.W.mg_of X Gn aC_NothingDone)) st_NothingDone sb_NothingDone strX_nil)))))
    n_ValueError := PySem.W.mg_none_of X Gn z_ValueError
    n_abs := PySem.W.mg_none_of X Gn z_abs
    n_enumerate := PySem.W.mg_none_of X Gn z_enumerate
    n_int := PySem.W.mg_none_of X Gn z_int
    n_isinstance := PySem.W.mg_none_of X Gn z_isinstance
    n_len := PySem.W.mg_none_of X Gn z_len
    n_min := PySem.W.mg_none_of X Gn z_min
    n_range := PySem.W.mg_none_of X Gn z_range
    n_repr := PySem.W.mg_none_of X Gn z_repr
    n_str := PySem.W.mg_none_of X Gn z_str
    f_law_begin := f_law_begin
    fd_law_begin := _
    F_law_begin := fun_mk (st := s_law_begin) l_law_begin c_law_begin k_law_begin
    b_law_begin := (fun_mk (st := s_law_begin) l_law_begin c_law_begin k_law_begin).binds (ps := ["_law_script"]) fun _ _ _ _ _ _ us hl => match us, hl with | [_], _ => rfl
    g_law_begin := PySem.W.mg_of X Gn a_law_begin
    f_law_blend := f_law_blend
    fd_law_blend := _
    F_law_blend := fun_mk (st := s_law_blend) l_law_blend c_law_blend k_law_blend
    b_law_blend := (fun_mk (st := s_law_blend) l_law_blend c_law_blend k_law_blend).binds (ps := ["_law_draw"]) fun _ _ _ _ _ _ us hl => match us, hl with | [_], _ => rfl
    g_law_blend := PySem.W.mg_of X Gn a_law_blend
    f_law_take := f_law_take
    fd_law_take := _
    F_law_take := fun_mk (st := s_law_take) l_law_take c_law_take k_law_take
    b_law_take := (fun_mk (st := s_law_take) l_law_take c_law_take k_law_take).binds (ps := ["_law_draw", "_law_size"]) fun _ _ _ _ _ _ us hl => match us, hl with | [_, _], _ => rfl
    g_law_take := PySem.W.mg_of X Gn a_law_take
    f_law_pick := f_law_pick
    fd_law_pick := _
    F_law_pick := fun_mk (st := s_law_pick) l_law_pick c_law_pick k_law_pick
    b_law_pick := (fun_mk (st := s_law_pick) l_law_pick c_law_pick k_law_pick).binds (ps := ["_law_draw", "_law_some"]) fun _ _ _ _ _ _ us hl => match us, hl with | [_, _], _ => rfl
    g_law_pick := PySem.W.mg_of X Gn a_law_pick
    f_law_plain := f_law_plain
    fd_law_plain := _
    F_law_plain := fun_mk (st := s_law_plain) l_law_plain c_law_plain k_law_plain
    b_law_plain := (fun_mk (st := s_law_plain) l_law_plain c_law_plain k_law_plain).binds (ps := ["_law_page"]) fun _ _ _ _ _ _ us hl => match us, hl with | [_], _ => rfl
    g_law_plain := PySem.W.mg_of X Gn a_law_plain
    f_law_marks := f_law_marks
    fd_law_marks := _
    F_law_marks := fun_mk (st := s_law_marks) l_law_marks c_law_marks k_law_marks
    b_law_marks := (fun_mk (st := s_law_marks) l_law_marks c_law_marks k_law_marks).binds (ps := ["_law_error"]) fun _ _ _ _ _ _ us hl => match us, hl with | [_], _ => rfl
    g_law_marks := PySem.W.mg_of X Gn a_law_marks
    f_law_alone := f_law_alone
    fd_law_alone := _
    F_law_alone := fun_mk (st := s_law_alone) l_law_alone c_law_alone k_law_alone
    b_law_alone := (fun_mk (st := s_law_alone) l_law_alone c_law_alone k_law_alone).binds (ps := ["_law_error", "_law_place"]) fun _ _ _ _ _ _ us hl => match us, hl with | [_, _], _ => rfl
    g_law_alone := PySem.W.mg_of X Gn a_law_alone
    f_law_with_fields := f_law_with_fields
    fd_law_with_fields := _
    F_law_with_fields := fun_mk (st := s_law_with_fields) l_law_with_fields c_law_with_fields k_law_with_fields
    b_law_with_fields := (fun_mk (st := s_law_with_fields) l_law_with_fields c_law_with_fields k_law_with_fields).binds (ps := ["_law_item"]) fun _ _ _ _ _ _ us hl => match us, hl with | [_], _ => rfl
    g_law_with_fields := PySem.W.mg_of X Gn a_law_with_fields
    f_law := f_law
    fd_law := _
    F_law := fun_mk (st := s_law) l_law c_law k_law
    b_law := (fun_mk (st := s_law) l_law c_law k_law).binds (ps := ["_law_script"]) fun _ _ _ _ _ _ us hl => match us, hl with | [_], _ => rfl
    g_law := PySem.W.mg_of X Gn a_law
    A_LockError := A_LockError
    gc_LockError := PySem.W.mg_of X Gn aC_LockError
    cm_LockError := cm_at (PySem.W.mg_of X Gn aC_LockError)
    A_BadWeb := A_BadWeb
    gc_BadWeb := PySem.W.mg_of X Gn aC_BadWeb
    cm_BadWeb := cm_at (PySem.W.mg_of X Gn aC_BadWeb)
    A_NoParty := A_NoParty
    gc_NoParty := PySem.W.mg_of X Gn aC_NoParty
    cm_NoParty := cm_at (PySem.W.mg_of X Gn aC_NoParty)
    A_NoHanding := A_NoHanding
    gc_NoHanding := PySem.W.mg_of X Gn aC_NoHanding
    cm_NoHanding := cm_at (PySem.W.mg_of X Gn aC_NoHanding)
    A_BadLeaders := A_BadLeaders
    gc_BadLeaders := PySem.W.mg_of X Gn aC_BadLeaders
    cm_BadLeaders := cm_at (PySem.W.mg_of X Gn aC_BadLeaders)
    A_BadKeepers := A_BadKeepers
    gc_BadKeepers := PySem.W.mg_of X Gn aC_BadKeepers
    cm_BadKeepers := cm_at (PySem.W.mg_of X Gn aC_BadKeepers)
    A_BadLaying := A_BadLaying
    gc_BadLaying := PySem.W.mg_of X Gn aC_BadLaying
    cm_BadLaying := cm_at (PySem.W.mg_of X Gn aC_BadLaying)
    A_BadDeal := A_BadDeal
    gc_BadDeal := PySem.W.mg_of X Gn aC_BadDeal
    cm_BadDeal := cm_at (PySem.W.mg_of X Gn aC_BadDeal)
    A_BadNumber := A_BadNumber
    gc_BadNumber := PySem.W.mg_of X Gn aC_BadNumber
    cm_BadNumber := cm_at (PySem.W.mg_of X Gn aC_BadNumber)
    A_BadCourse := A_BadCourse
    gc_BadCourse := PySem.W.mg_of X Gn aC_BadCourse
    cm_BadCourse := cm_at (PySem.W.mg_of X Gn aC_BadCourse)
    A_BadRule := A_BadRule
    gc_BadRule := PySem.W.mg_of X Gn aC_BadRule
    cm_BadRule := cm_at (PySem.W.mg_of X Gn aC_BadRule)
    A_NotNow := A_NotNow
    gc_NotNow := PySem.W.mg_of X Gn aC_NotNow
    cm_NotNow := cm_at (PySem.W.mg_of X Gn aC_NotNow)
    A_NothingDone := A_NothingDone
    gc_NothingDone := PySem.W.mg_of X Gn aC_NothingDone
    cm_NothingDone := cm_at (PySem.W.mg_of X Gn aC_NothingDone)
    A_BadJournal := A_BadJournal
    gc_BadJournal := PySem.W.mg_of X Gn aC_BadJournal
    cm_BadJournal := cm_at (PySem.W.mg_of X Gn aC_BadJournal)
    A_BadText := A_BadText
    gc_BadText := PySem.W.mg_of X Gn aC_BadText
    cm_BadText := cm_at (PySem.W.mg_of X Gn aC_BadText)
    isi_BadCourse := (isi_consE (cm_at (PySem.W.mg_of X Gn aC_LockError)) (excI_mk hd_LockError ga_LockError gg_LockError sb_LockError ha_LockError hn ht hm_LockError) ki_BadCourse_0 (isi_consE (cm_at (PySem.W.mg_of X Gn aC_BadWeb)) (excI_mk hd_BadWeb ga_BadWeb gg_BadWeb sb_BadWeb ha_BadWeb hn ht hm_BadWeb) ki_BadCourse_1 (isi_consE (cm_at (PySem.W.mg_of X Gn aC_NoParty)) (excI_mk hd_NoParty ga_NoParty gg_NoParty sb_NoParty ha_NoParty hn ht hm_NoParty) ki_BadCourse_2 (isi_consE (cm_at (PySem.W.mg_of X Gn aC_NoHanding)) (excI_mk hd_NoHanding ga_NoHanding gg_NoHanding sb_NoHanding ha_NoHanding hn ht hm_NoHanding) ki_BadCourse_3 (isi_consE (cm_at (PySem.W.mg_of X Gn aC_BadLeaders)) (excI_mk hd_BadLeaders ga_BadLeaders gg_BadLeaders sb_BadLeaders ha_BadLeaders hn ht hm_BadLeaders) ki_BadCourse_4 (isi_consE (cm_at (PySem.W.mg_of X Gn aC_BadKeepers)) (excI_mk hd_BadKeepers ga_BadKeepers gg_BadKeepers sb_BadKeepers ha_BadKeepers hn ht hm_BadKeepers) ki_BadCourse_5 (isi_consE (cm_at (PySem.W.mg_of X Gn aC_BadLaying)) (excI_mk hd_BadLaying ga_BadLaying gg_BadLaying sb_BadLaying ha_BadLaying hn ht hm_BadLaying) ki_BadCourse_6 (isi_consE (cm_at (PySem.W.mg_of X Gn aC_BadDeal)) (excI_mk hd_BadDeal ga_BadDeal gg_BadDeal sb_BadDeal ha_BadDeal hn ht hm_BadDeal) ki_BadCourse_7 (isi_consE (cm_at (PySem.W.mg_of X Gn aC_BadNumber)) (excI_mk hd_BadNumber ga_BadNumber gg_BadNumber sb_BadNumber ha_BadNumber hn ht hm_BadNumber) ki_BadCourse_8 (isi_consE (cm_at (PySem.W.mg_of X Gn aC_BadCourse)) (excI_mk hd_BadCourse ga_BadCourse gg_BadCourse sb_BadCourse ha_BadCourse hn ht hm_BadCourse) kit_self (isi_consE (cm_at (PySem.W.mg_of X Gn aC_BadRule)) (excI_mk hd_BadRule ga_BadRule gg_BadRule sb_BadRule ha_BadRule hn ht hm_BadRule) ki_BadCourse_10 (isi_consE (cm_at (PySem.W.mg_of X Gn aC_NotNow)) (excI_mk hd_NotNow ga_NotNow gg_NotNow sb_NotNow ha_NotNow hn ht hm_NotNow) ki_BadCourse_11 (isi_consE (cm_at (PySem.W.mg_of X Gn aC_NothingDone)) (excI_mk hd_NothingDone ga_NothingDone gg_NothingDone sb_NothingDone ha_NothingDone hn ht hm_NothingDone) ki_BadCourse_12 (isi_consE (cm_at (PySem.W.mg_of X Gn aC_BadJournal)) (excI_mk hd_BadJournal ga_BadJournal gg_BadJournal sb_BadJournal ha_BadJournal hn ht hm_BadJournal) ki_BadCourse_13 (isi_consE (cm_at (PySem.W.mg_of X Gn aC_BadText)) (excI_mk hd_BadText ga_BadText gg_BadText sb_BadText ha_BadText hn ht hm_BadText) ki_BadCourse_14 isi_nil)))))))))))))))
    isi_BadDeal := (isi_consE (cm_at (PySem.W.mg_of X Gn aC_LockError)) (excI_mk hd_LockError ga_LockError gg_LockError sb_LockError ha_LockError hn ht hm_LockError) ki_BadDeal_0 (isi_consE (cm_at (PySem.W.mg_of X Gn aC_BadWeb)) (excI_mk hd_BadWeb ga_BadWeb gg_BadWeb sb_BadWeb ha_BadWeb hn ht hm_BadWeb) ki_BadDeal_1 (isi_consE (cm_at (PySem.W.mg_of X Gn aC_NoParty)) (excI_mk hd_NoParty ga_NoParty gg_NoParty sb_NoParty ha_NoParty hn ht hm_NoParty) ki_BadDeal_2 (isi_consE (cm_at (PySem.W.mg_of X Gn aC_NoHanding)) (excI_mk hd_NoHanding ga_NoHanding gg_NoHanding sb_NoHanding ha_NoHanding hn ht hm_NoHanding) ki_BadDeal_3 (isi_consE (cm_at (PySem.W.mg_of X Gn aC_BadLeaders)) (excI_mk hd_BadLeaders ga_BadLeaders gg_BadLeaders sb_BadLeaders ha_BadLeaders hn ht hm_BadLeaders) ki_BadDeal_4 (isi_consE (cm_at (PySem.W.mg_of X Gn aC_BadKeepers)) (excI_mk hd_BadKeepers ga_BadKeepers gg_BadKeepers sb_BadKeepers ha_BadKeepers hn ht hm_BadKeepers) ki_BadDeal_5 (isi_consE (cm_at (PySem.W.mg_of X Gn aC_BadLaying)) (excI_mk hd_BadLaying ga_BadLaying gg_BadLaying sb_BadLaying ha_BadLaying hn ht hm_BadLaying) ki_BadDeal_6 (isi_consE (cm_at (PySem.W.mg_of X Gn aC_BadDeal)) (excI_mk hd_BadDeal ga_BadDeal gg_BadDeal sb_BadDeal ha_BadDeal hn ht hm_BadDeal) kit_self (isi_consE (cm_at (PySem.W.mg_of X Gn aC_BadNumber)) (excI_mk hd_BadNumber ga_BadNumber gg_BadNumber sb_BadNumber ha_BadNumber hn ht hm_BadNumber) ki_BadDeal_8 (isi_consE (cm_at (PySem.W.mg_of X Gn aC_BadCourse)) (excI_mk hd_BadCourse ga_BadCourse gg_BadCourse sb_BadCourse ha_BadCourse hn ht hm_BadCourse) ki_BadDeal_9 (isi_consE (cm_at (PySem.W.mg_of X Gn aC_BadRule)) (excI_mk hd_BadRule ga_BadRule gg_BadRule sb_BadRule ha_BadRule hn ht hm_BadRule) ki_BadDeal_10 (isi_consE (cm_at (PySem.W.mg_of X Gn aC_NotNow)) (excI_mk hd_NotNow ga_NotNow gg_NotNow sb_NotNow ha_NotNow hn ht hm_NotNow) ki_BadDeal_11 (isi_consE (cm_at (PySem.W.mg_of X Gn aC_NothingDone)) (excI_mk hd_NothingDone ga_NothingDone gg_NothingDone sb_NothingDone ha_NothingDone hn ht hm_NothingDone) ki_BadDeal_12 (isi_consE (cm_at (PySem.W.mg_of X Gn aC_BadJournal)) (excI_mk hd_BadJournal ga_BadJournal gg_BadJournal sb_BadJournal ha_BadJournal hn ht hm_BadJournal) ki_BadDeal_13 (isi_consE (cm_at (PySem.W.mg_of X Gn aC_BadText)) (excI_mk hd_BadText ga_BadText gg_BadText sb_BadText ha_BadText hn ht hm_BadText) ki_BadDeal_14 isi_nil)))))))))))))))
    isi_BadJournal := (isi_consE (cm_at (PySem.W.mg_of X Gn aC_LockError)) (excI_mk hd_LockError ga_LockError gg_LockError sb_LockError ha_LockError hn ht hm_LockError) ki_BadJournal_0 (isi_consE (cm_at (PySem.W.mg_of X Gn aC_BadWeb)) (excI_mk hd_BadWeb ga_BadWeb gg_BadWeb sb_BadWeb ha_BadWeb hn ht hm_BadWeb) ki_BadJournal_1 (isi_consE (cm_at (PySem.W.mg_of X Gn aC_NoParty)) (excI_mk hd_NoParty ga_NoParty gg_NoParty sb_NoParty ha_NoParty hn ht hm_NoParty) ki_BadJournal_2 (isi_consE (cm_at (PySem.W.mg_of X Gn aC_NoHanding)) (excI_mk hd_NoHanding ga_NoHanding gg_NoHanding sb_NoHanding ha_NoHanding hn ht hm_NoHanding) ki_BadJournal_3 (isi_consE (cm_at (PySem.W.mg_of X Gn aC_BadLeaders)) (excI_mk hd_BadLeaders ga_BadLeaders gg_BadLeaders sb_BadLeaders ha_BadLeaders hn ht hm_BadLeaders) ki_BadJournal_4 (isi_consE (cm_at (PySem.W.mg_of X Gn aC_BadKeepers)) (excI_mk hd_BadKeepers ga_BadKeepers gg_BadKeepers sb_BadKeepers ha_BadKeepers hn ht hm_BadKeepers) ki_BadJournal_5 (isi_consE (cm_at (PySem.W.mg_of X Gn aC_BadLaying)) (excI_mk hd_BadLaying ga_BadLaying gg_BadLaying sb_BadLaying ha_BadLaying hn ht hm_BadLaying) ki_BadJournal_6 (isi_consE (cm_at (PySem.W.mg_of X Gn aC_BadDeal)) (excI_mk hd_BadDeal ga_BadDeal gg_BadDeal sb_BadDeal ha_BadDeal hn ht hm_BadDeal) ki_BadJournal_7 (isi_consE (cm_at (PySem.W.mg_of X Gn aC_BadNumber)) (excI_mk hd_BadNumber ga_BadNumber gg_BadNumber sb_BadNumber ha_BadNumber hn ht hm_BadNumber) ki_BadJournal_8 (isi_consE (cm_at (PySem.W.mg_of X Gn aC_BadCourse)) (excI_mk hd_BadCourse ga_BadCourse gg_BadCourse sb_BadCourse ha_BadCourse hn ht hm_BadCourse) ki_BadJournal_9 (isi_consE (cm_at (PySem.W.mg_of X Gn aC_BadRule)) (excI_mk hd_BadRule ga_BadRule gg_BadRule sb_BadRule ha_BadRule hn ht hm_BadRule) ki_BadJournal_10 (isi_consE (cm_at (PySem.W.mg_of X Gn aC_NotNow)) (excI_mk hd_NotNow ga_NotNow gg_NotNow sb_NotNow ha_NotNow hn ht hm_NotNow) ki_BadJournal_11 (isi_consE (cm_at (PySem.W.mg_of X Gn aC_NothingDone)) (excI_mk hd_NothingDone ga_NothingDone gg_NothingDone sb_NothingDone ha_NothingDone hn ht hm_NothingDone) ki_BadJournal_12 (isi_consE (cm_at (PySem.W.mg_of X Gn aC_BadJournal)) (excI_mk hd_BadJournal ga_BadJournal gg_BadJournal sb_BadJournal ha_BadJournal hn ht hm_BadJournal) kit_self (isi_consE (cm_at (PySem.W.mg_of X Gn aC_BadText)) (excI_mk hd_BadText ga_BadText gg_BadText sb_BadText ha_BadText hn ht hm_BadText) ki_BadJournal_14 isi_nil)))))))))))))))
    isi_BadKeepers := (isi_consE (cm_at (PySem.W.mg_of X Gn aC_LockError)) (excI_mk hd_LockError ga_LockError gg_LockError sb_LockError ha_LockError hn ht hm_LockError) ki_BadKeepers_0 (isi_consE (cm_at (PySem.W.mg_of X Gn aC_BadWeb)) (excI_mk hd_BadWeb ga_BadWeb gg_BadWeb sb_BadWeb ha_BadWeb hn ht hm_BadWeb) ki_BadKeepers_1 (isi_consE (cm_at (PySem.W.mg_of X Gn aC_NoParty)) (excI_mk hd_NoParty ga_NoParty gg_NoParty sb_NoParty ha_NoParty hn ht hm_NoParty) ki_BadKeepers_2 (isi_consE (cm_at (PySem.W.mg_of X Gn aC_NoHanding)) (excI_mk hd_NoHanding ga_NoHanding gg_NoHanding sb_NoHanding ha_NoHanding hn ht hm_NoHanding) ki_BadKeepers_3 (isi_consE (cm_at (PySem.W.mg_of X Gn aC_BadLeaders)) (excI_mk hd_BadLeaders ga_BadLeaders gg_BadLeaders sb_BadLeaders ha_BadLeaders hn ht hm_BadLeaders) ki_BadKeepers_4 (isi_consE (cm_at (PySem.W.mg_of X Gn aC_BadKeepers)) (excI_mk hd_BadKeepers ga_BadKeepers gg_BadKeepers sb_BadKeepers ha_BadKeepers hn ht hm_BadKeepers) kit_self (isi_consE (cm_at (PySem.W.mg_of X Gn aC_BadLaying)) (excI_mk hd_BadLaying ga_BadLaying gg_BadLaying sb_BadLaying ha_BadLaying hn ht hm_BadLaying) ki_BadKeepers_6 (isi_consE (cm_at (PySem.W.mg_of X Gn aC_BadDeal)) (excI_mk hd_BadDeal ga_BadDeal gg_BadDeal sb_BadDeal ha_BadDeal hn ht hm_BadDeal) ki_BadKeepers_7 (isi_consE (cm_at (PySem.W.mg_of X Gn aC_BadNumber)) (excI_mk hd_BadNumber ga_BadNumber gg_BadNumber sb_BadNumber ha_BadNumber hn ht hm_BadNumber) ki_BadKeepers_8 (isi_consE (cm_at (PySem.W.mg_of X Gn aC_BadCourse)) (excI_mk hd_BadCourse ga_BadCourse gg_BadCourse sb_BadCourse ha_BadCourse hn ht hm_BadCourse) ki_BadKeepers_9 (isi_consE (cm_at (PySem.W.mg_of X Gn aC_BadRule)) (excI_mk hd_BadRule ga_BadRule gg_BadRule sb_BadRule ha_BadRule hn ht hm_BadRule) ki_BadKeepers_10 (isi_consE (cm_at (PySem.W.mg_of X Gn aC_NotNow)) (excI_mk hd_NotNow ga_NotNow gg_NotNow sb_NotNow ha_NotNow hn ht hm_NotNow) ki_BadKeepers_11 (isi_consE (cm_at (PySem.W.mg_of X Gn aC_NothingDone)) (excI_mk hd_NothingDone ga_NothingDone gg_NothingDone sb_NothingDone ha_NothingDone hn ht hm_NothingDone) ki_BadKeepers_12 (isi_consE (cm_at (PySem.W.mg_of X Gn aC_BadJournal)) (excI_mk hd_BadJournal ga_BadJournal gg_BadJournal sb_BadJournal ha_BadJournal hn ht hm_BadJournal) ki_BadKeepers_13 (isi_consE (cm_at (PySem.W.mg_of X Gn aC_BadText)) (excI_mk hd_BadText ga_BadText gg_BadText sb_BadText ha_BadText hn ht hm_BadText) ki_BadKeepers_14 isi_nil)))))))))))))))
    isi_BadLaying := (isi_consE (cm_at (PySem.W.mg_of X Gn aC_LockError)) (excI_mk hd_LockError ga_LockError gg_LockError sb_LockError ha_LockError hn ht hm_LockError) ki_BadLaying_0 (isi_consE (cm_at (PySem.W.mg_of X Gn aC_BadWeb)) (excI_mk hd_BadWeb ga_BadWeb gg_BadWeb sb_BadWeb ha_BadWeb hn ht hm_BadWeb) ki_BadLaying_1 (isi_consE (cm_at (PySem.W.mg_of X Gn aC_NoParty)) (excI_mk hd_NoParty ga_NoParty gg_NoParty sb_NoParty ha_NoParty hn ht hm_NoParty) ki_BadLaying_2 (isi_consE (cm_at (PySem.W.mg_of X Gn aC_NoHanding)) (excI_mk hd_NoHanding ga_NoHanding gg_NoHanding sb_NoHanding ha_NoHanding hn ht hm_NoHanding) ki_BadLaying_3 (isi_consE (cm_at (PySem.W.mg_of X Gn aC_BadLeaders)) (excI_mk hd_BadLeaders ga_BadLeaders gg_BadLeaders sb_BadLeaders ha_BadLeaders hn ht hm_BadLeaders) ki_BadLaying_4 (isi_consE (cm_at (PySem.W.mg_of X Gn aC_BadKeepers)) (excI_mk hd_BadKeepers ga_BadKeepers gg_BadKeepers sb_BadKeepers ha_BadKeepers hn ht hm_BadKeepers) ki_BadLaying_5 (isi_consE (cm_at (PySem.W.mg_of X Gn aC_BadLaying)) (excI_mk hd_BadLaying ga_BadLaying gg_BadLaying sb_BadLaying ha_BadLaying hn ht hm_BadLaying) kit_self (isi_consE (cm_at (PySem.W.mg_of X Gn aC_BadDeal)) (excI_mk hd_BadDeal ga_BadDeal gg_BadDeal sb_BadDeal ha_BadDeal hn ht hm_BadDeal) ki_BadLaying_7 (isi_consE (cm_at (PySem.W.mg_of X Gn aC_BadNumber)) (excI_mk hd_BadNumber ga_BadNumber gg_BadNumber sb_BadNumber ha_BadNumber hn ht hm_BadNumber) ki_BadLaying_8 (isi_consE (cm_at (PySem.W.mg_of X Gn aC_BadCourse)) (excI_mk hd_BadCourse ga_BadCourse gg_BadCourse sb_BadCourse ha_BadCourse hn ht hm_BadCourse) ki_BadLaying_9 (isi_consE (cm_at (PySem.W.mg_of X Gn aC_BadRule)) (excI_mk hd_BadRule ga_BadRule gg_BadRule sb_BadRule ha_BadRule hn ht hm_BadRule) ki_BadLaying_10 (isi_consE (cm_at (PySem.W.mg_of X Gn aC_NotNow)) (excI_mk hd_NotNow ga_NotNow gg_NotNow sb_NotNow ha_NotNow hn ht hm_NotNow) ki_BadLaying_11 (isi_consE (cm_at (PySem.W.mg_of X Gn aC_NothingDone)) (excI_mk hd_NothingDone ga_NothingDone gg_NothingDone sb_NothingDone ha_NothingDone hn ht hm_NothingDone) ki_BadLaying_12 (isi_consE (cm_at (PySem.W.mg_of X Gn aC_BadJournal)) (excI_mk hd_BadJournal ga_BadJournal gg_BadJournal sb_BadJournal ha_BadJournal hn ht hm_BadJournal) ki_BadLaying_13 (isi_consE (cm_at (PySem.W.mg_of X Gn aC_BadText)) (excI_mk hd_BadText ga_BadText gg_BadText sb_BadText ha_BadText hn ht hm_BadText) ki_BadLaying_14 isi_nil)))))))))))))))
    isi_BadLeaders := (isi_consE (cm_at (PySem.W.mg_of X Gn aC_LockError)) (excI_mk hd_LockError ga_LockError gg_LockError sb_LockError ha_LockError hn ht hm_LockError) ki_BadLeaders_0 (isi_consE (cm_at (PySem.W.mg_of X Gn aC_BadWeb)) (excI_mk hd_BadWeb ga_BadWeb gg_BadWeb sb_BadWeb ha_BadWeb hn ht hm_BadWeb) ki_BadLeaders_1 (isi_consE (cm_at (PySem.W.mg_of X Gn aC_NoParty)) (excI_mk hd_NoParty ga_NoParty gg_NoParty sb_NoParty ha_NoParty hn ht hm_NoParty) ki_BadLeaders_2 (isi_consE (cm_at (PySem.W.mg_of X Gn aC_NoHanding)) (excI_mk hd_NoHanding ga_NoHanding gg_NoHanding sb_NoHanding ha_NoHanding hn ht hm_NoHanding) ki_BadLeaders_3 (isi_consE (cm_at (PySem.W.mg_of X Gn aC_BadLeaders)) (excI_mk hd_BadLeaders ga_BadLeaders gg_BadLeaders sb_BadLeaders ha_BadLeaders hn ht hm_BadLeaders) kit_self (isi_consE (cm_at (PySem.W.mg_of X Gn aC_BadKeepers)) (excI_mk hd_BadKeepers ga_BadKeepers gg_BadKeepers sb_BadKeepers ha_BadKeepers hn ht hm_BadKeepers) ki_BadLeaders_5 (isi_consE (cm_at (PySem.W.mg_of X Gn aC_BadLaying)) (excI_mk hd_BadLaying ga_BadLaying gg_BadLaying sb_BadLaying ha_BadLaying hn ht hm_BadLaying) ki_BadLeaders_6 (isi_consE (cm_at (PySem.W.mg_of X Gn aC_BadDeal)) (excI_mk hd_BadDeal ga_BadDeal gg_BadDeal sb_BadDeal ha_BadDeal hn ht hm_BadDeal) ki_BadLeaders_7 (isi_consE (cm_at (PySem.W.mg_of X Gn aC_BadNumber)) (excI_mk hd_BadNumber ga_BadNumber gg_BadNumber sb_BadNumber ha_BadNumber hn ht hm_BadNumber) ki_BadLeaders_8 (isi_consE (cm_at (PySem.W.mg_of X Gn aC_BadCourse)) (excI_mk hd_BadCourse ga_BadCourse gg_BadCourse sb_BadCourse ha_BadCourse hn ht hm_BadCourse) ki_BadLeaders_9 (isi_consE (cm_at (PySem.W.mg_of X Gn aC_BadRule)) (excI_mk hd_BadRule ga_BadRule gg_BadRule sb_BadRule ha_BadRule hn ht hm_BadRule) ki_BadLeaders_10 (isi_consE (cm_at (PySem.W.mg_of X Gn aC_NotNow)) (excI_mk hd_NotNow ga_NotNow gg_NotNow sb_NotNow ha_NotNow hn ht hm_NotNow) ki_BadLeaders_11 (isi_consE (cm_at (PySem.W.mg_of X Gn aC_NothingDone)) (excI_mk hd_NothingDone ga_NothingDone gg_NothingDone sb_NothingDone ha_NothingDone hn ht hm_NothingDone) ki_BadLeaders_12 (isi_consE (cm_at (PySem.W.mg_of X Gn aC_BadJournal)) (excI_mk hd_BadJournal ga_BadJournal gg_BadJournal sb_BadJournal ha_BadJournal hn ht hm_BadJournal) ki_BadLeaders_13 (isi_consE (cm_at (PySem.W.mg_of X Gn aC_BadText)) (excI_mk hd_BadText ga_BadText gg_BadText sb_BadText ha_BadText hn ht hm_BadText) ki_BadLeaders_14 isi_nil)))))))))))))))
    isi_BadNumber := (isi_consE (cm_at (PySem.W.mg_of X Gn aC_LockError)) (excI_mk hd_LockError ga_LockError gg_LockError sb_LockError ha_LockError hn ht hm_LockError) ki_BadNumber_0 (isi_consE (cm_at (PySem.W.mg_of X Gn aC_BadWeb)) (excI_mk hd_BadWeb ga_BadWeb gg_BadWeb sb_BadWeb ha_BadWeb hn ht hm_BadWeb) ki_BadNumber_1 (isi_consE (cm_at (PySem.W.mg_of X Gn aC_NoParty)) (excI_mk hd_NoParty ga_NoParty gg_NoParty sb_NoParty ha_NoParty hn ht hm_NoParty) ki_BadNumber_2 (isi_consE (cm_at (PySem.W.mg_of X Gn aC_NoHanding)) (excI_mk hd_NoHanding ga_NoHanding gg_NoHanding sb_NoHanding ha_NoHanding hn ht hm_NoHanding) ki_BadNumber_3 (isi_consE (cm_at (PySem.W.mg_of X Gn aC_BadLeaders)) (excI_mk hd_BadLeaders ga_BadLeaders gg_BadLeaders sb_BadLeaders ha_BadLeaders hn ht hm_BadLeaders) ki_BadNumber_4 (isi_consE (cm_at (PySem.W.mg_of X Gn aC_BadKeepers)) (excI_mk hd_BadKeepers ga_BadKeepers gg_BadKeepers sb_BadKeepers ha_BadKeepers hn ht hm_BadKeepers) ki_BadNumber_5 (isi_consE (cm_at (PySem.W.mg_of X Gn aC_BadLaying)) (excI_mk hd_BadLaying ga_BadLaying gg_BadLaying sb_BadLaying ha_BadLaying hn ht hm_BadLaying) ki_BadNumber_6 (isi_consE (cm_at (PySem.W.mg_of X Gn aC_BadDeal)) (excI_mk hd_BadDeal ga_BadDeal gg_BadDeal sb_BadDeal ha_BadDeal hn ht hm_BadDeal) ki_BadNumber_7 (isi_consE (cm_at (PySem.W.mg_of X Gn aC_BadNumber)) (excI_mk hd_BadNumber ga_BadNumber gg_BadNumber sb_BadNumber ha_BadNumber hn ht hm_BadNumber) kit_self (isi_consE (cm_at (PySem.W.mg_of X Gn aC_BadCourse)) (excI_mk hd_BadCourse ga_BadCourse gg_BadCourse sb_BadCourse ha_BadCourse hn ht hm_BadCourse) ki_BadNumber_9 (isi_consE (cm_at (PySem.W.mg_of X Gn aC_BadRule)) (excI_mk hd_BadRule ga_BadRule gg_BadRule sb_BadRule ha_BadRule hn ht hm_BadRule) ki_BadNumber_10 (isi_consE (cm_at (PySem.W.mg_of X Gn aC_NotNow)) (excI_mk hd_NotNow ga_NotNow gg_NotNow sb_NotNow ha_NotNow hn ht hm_NotNow) ki_BadNumber_11 (isi_consE (cm_at (PySem.W.mg_of X Gn aC_NothingDone)) (excI_mk hd_NothingDone ga_NothingDone gg_NothingDone sb_NothingDone ha_NothingDone hn ht hm_NothingDone) ki_BadNumber_12 (isi_consE (cm_at (PySem.W.mg_of X Gn aC_BadJournal)) (excI_mk hd_BadJournal ga_BadJournal gg_BadJournal sb_BadJournal ha_BadJournal hn ht hm_BadJournal) ki_BadNumber_13 (isi_consE (cm_at (PySem.W.mg_of X Gn aC_BadText)) (excI_mk hd_BadText ga_BadText gg_BadText sb_BadText ha_BadText hn ht hm_BadText) ki_BadNumber_14 isi_nil)))))))))))))))
    isi_BadRule := (isi_consE (cm_at (PySem.W.mg_of X Gn aC_LockError)) (excI_mk hd_LockError ga_LockError gg_LockError sb_LockError ha_LockError hn ht hm_LockError) ki_BadRule_0 (isi_consE (cm_at (PySem.W.mg_of X Gn aC_BadWeb)) (excI_mk hd_BadWeb ga_BadWeb gg_BadWeb sb_BadWeb ha_BadWeb hn ht hm_BadWeb) ki_BadRule_1 (isi_consE (cm_at (PySem.W.mg_of X Gn aC_NoParty)) (excI_mk hd_NoParty ga_NoParty gg_NoParty sb_NoParty ha_NoParty hn ht hm_NoParty) ki_BadRule_2 (isi_consE (cm_at (PySem.W.mg_of X Gn aC_NoHanding)) (excI_mk hd_NoHanding ga_NoHanding gg_NoHanding sb_NoHanding ha_NoHanding hn ht hm_NoHanding) ki_BadRule_3 (isi_consE (cm_at (PySem.W.mg_of X Gn aC_BadLeaders)) (excI_mk hd_BadLeaders ga_BadLeaders gg_BadLeaders sb_BadLeaders ha_BadLeaders hn ht hm_BadLeaders) ki_BadRule_4 (isi_consE (cm_at (PySem.W.mg_of X Gn aC_BadKeepers)) (excI_mk hd_BadKeepers ga_BadKeepers gg_BadKeepers sb_BadKeepers ha_BadKeepers hn ht hm_BadKeepers) ki_BadRule_5 (isi_consE (cm_at (PySem.W.mg_of X Gn aC_BadLaying)) (excI_mk hd_BadLaying ga_BadLaying gg_BadLaying sb_BadLaying ha_BadLaying hn ht hm_BadLaying) ki_BadRule_6 (isi_consE (cm_at (PySem.W.mg_of X Gn aC_BadDeal)) (excI_mk hd_BadDeal ga_BadDeal gg_BadDeal sb_BadDeal ha_BadDeal hn ht hm_BadDeal) ki_BadRule_7 (isi_consE (cm_at (PySem.W.mg_of X Gn aC_BadNumber)) (excI_mk hd_BadNumber ga_BadNumber gg_BadNumber sb_BadNumber ha_BadNumber hn ht hm_BadNumber) ki_BadRule_8 (isi_consE (cm_at (PySem.W.mg_of X Gn aC_BadCourse)) (excI_mk hd_BadCourse ga_BadCourse gg_BadCourse sb_BadCourse ha_BadCourse hn ht hm_BadCourse) ki_BadRule_9 (isi_consE (cm_at (PySem.W.mg_of X Gn aC_BadRule)) (excI_mk hd_BadRule ga_BadRule gg_BadRule sb_BadRule ha_BadRule hn ht hm_BadRule) kit_self (isi_consE (cm_at (PySem.W.mg_of X Gn aC_NotNow)) (excI_mk hd_NotNow ga_NotNow gg_NotNow sb_NotNow ha_NotNow hn ht hm_NotNow) ki_BadRule_11 (isi_consE (cm_at (PySem.W.mg_of X Gn aC_NothingDone)) (excI_mk hd_NothingDone ga_NothingDone gg_NothingDone sb_NothingDone ha_NothingDone hn ht hm_NothingDone) ki_BadRule_12 (isi_consE (cm_at (PySem.W.mg_of X Gn aC_BadJournal)) (excI_mk hd_BadJournal ga_BadJournal gg_BadJournal sb_BadJournal ha_BadJournal hn ht hm_BadJournal) ki_BadRule_13 (isi_consE (cm_at (PySem.W.mg_of X Gn aC_BadText)) (excI_mk hd_BadText ga_BadText gg_BadText sb_BadText ha_BadText hn ht hm_BadText) ki_BadRule_14 isi_nil)))))))))))))))
    isi_BadText := (isi_consE (cm_at (PySem.W.mg_of X Gn aC_LockError)) (excI_mk hd_LockError ga_LockError gg_LockError sb_LockError ha_LockError hn ht hm_LockError) ki_BadText_0 (isi_consE (cm_at (PySem.W.mg_of X Gn aC_BadWeb)) (excI_mk hd_BadWeb ga_BadWeb gg_BadWeb sb_BadWeb ha_BadWeb hn ht hm_BadWeb) ki_BadText_1 (isi_consE (cm_at (PySem.W.mg_of X Gn aC_NoParty)) (excI_mk hd_NoParty ga_NoParty gg_NoParty sb_NoParty ha_NoParty hn ht hm_NoParty) ki_BadText_2 (isi_consE (cm_at (PySem.W.mg_of X Gn aC_NoHanding)) (excI_mk hd_NoHanding ga_NoHanding gg_NoHanding sb_NoHanding ha_NoHanding hn ht hm_NoHanding) ki_BadText_3 (isi_consE (cm_at (PySem.W.mg_of X Gn aC_BadLeaders)) (excI_mk hd_BadLeaders ga_BadLeaders gg_BadLeaders sb_BadLeaders ha_BadLeaders hn ht hm_BadLeaders) ki_BadText_4 (isi_consE (cm_at (PySem.W.mg_of X Gn aC_BadKeepers)) (excI_mk hd_BadKeepers ga_BadKeepers gg_BadKeepers sb_BadKeepers ha_BadKeepers hn ht hm_BadKeepers) ki_BadText_5 (isi_consE (cm_at (PySem.W.mg_of X Gn aC_BadLaying)) (excI_mk hd_BadLaying ga_BadLaying gg_BadLaying sb_BadLaying ha_BadLaying hn ht hm_BadLaying) ki_BadText_6 (isi_consE (cm_at (PySem.W.mg_of X Gn aC_BadDeal)) (excI_mk hd_BadDeal ga_BadDeal gg_BadDeal sb_BadDeal ha_BadDeal hn ht hm_BadDeal) ki_BadText_7 (isi_consE (cm_at (PySem.W.mg_of X Gn aC_BadNumber)) (excI_mk hd_BadNumber ga_BadNumber gg_BadNumber sb_BadNumber ha_BadNumber hn ht hm_BadNumber) ki_BadText_8 (isi_consE (cm_at (PySem.W.mg_of X Gn aC_BadCourse)) (excI_mk hd_BadCourse ga_BadCourse gg_BadCourse sb_BadCourse ha_BadCourse hn ht hm_BadCourse) ki_BadText_9 (isi_consE (cm_at (PySem.W.mg_of X Gn aC_BadRule)) (excI_mk hd_BadRule ga_BadRule gg_BadRule sb_BadRule ha_BadRule hn ht hm_BadRule) ki_BadText_10 (isi_consE (cm_at (PySem.W.mg_of X Gn aC_NotNow)) (excI_mk hd_NotNow ga_NotNow gg_NotNow sb_NotNow ha_NotNow hn ht hm_NotNow) ki_BadText_11 (isi_consE (cm_at (PySem.W.mg_of X Gn aC_NothingDone)) (excI_mk hd_NothingDone ga_NothingDone gg_NothingDone sb_NothingDone ha_NothingDone hn ht hm_NothingDone) ki_BadText_12 (isi_consE (cm_at (PySem.W.mg_of X Gn aC_BadJournal)) (excI_mk hd_BadJournal ga_BadJournal gg_BadJournal sb_BadJournal ha_BadJournal hn ht hm_BadJournal) ki_BadText_13 (isi_consE (cm_at (PySem.W.mg_of X Gn aC_BadText)) (excI_mk hd_BadText ga_BadText gg_BadText sb_BadText ha_BadText hn ht hm_BadText) kit_self isi_nil)))))))))))))))
    isi_BadWeb := (isi_consE (cm_at (PySem.W.mg_of X Gn aC_LockError)) (excI_mk hd_LockError ga_LockError gg_LockError sb_LockError ha_LockError hn ht hm_LockError) ki_BadWeb_0 (isi_consE (cm_at (PySem.W.mg_of X Gn aC_BadWeb)) (excI_mk hd_BadWeb ga_BadWeb gg_BadWeb sb_BadWeb ha_BadWeb hn ht hm_BadWeb) kit_self (isi_consE (cm_at (PySem.W.mg_of X Gn aC_NoParty)) (excI_mk hd_NoParty ga_NoParty gg_NoParty sb_NoParty ha_NoParty hn ht hm_NoParty) ki_BadWeb_2 (isi_consE (cm_at (PySem.W.mg_of X Gn aC_NoHanding)) (excI_mk hd_NoHanding ga_NoHanding gg_NoHanding sb_NoHanding ha_NoHanding hn ht hm_NoHanding) ki_BadWeb_3 (isi_consE (cm_at (PySem.W.mg_of X Gn aC_BadLeaders)) (excI_mk hd_BadLeaders ga_BadLeaders gg_BadLeaders sb_BadLeaders ha_BadLeaders hn ht hm_BadLeaders) ki_BadWeb_4 (isi_consE (cm_at (PySem.W.mg_of X Gn aC_BadKeepers)) (excI_mk hd_BadKeepers ga_BadKeepers gg_BadKeepers sb_BadKeepers ha_BadKeepers hn ht hm_BadKeepers) ki_BadWeb_5 (isi_consE (cm_at (PySem.W.mg_of X Gn aC_BadLaying)) (excI_mk hd_BadLaying ga_BadLaying gg_BadLaying sb_BadLaying ha_BadLaying hn ht hm_BadLaying) ki_BadWeb_6 (isi_consE (cm_at (PySem.W.mg_of X Gn aC_BadDeal)) (excI_mk hd_BadDeal ga_BadDeal gg_BadDeal sb_BadDeal ha_BadDeal hn ht hm_BadDeal) ki_BadWeb_7 (isi_consE (cm_at (PySem.W.mg_of X Gn aC_BadNumber)) (excI_mk hd_BadNumber ga_BadNumber gg_BadNumber sb_BadNumber ha_BadNumber hn ht hm_BadNumber) ki_BadWeb_8 (isi_consE (cm_at (PySem.W.mg_of X Gn aC_BadCourse)) (excI_mk hd_BadCourse ga_BadCourse gg_BadCourse sb_BadCourse ha_BadCourse hn ht hm_BadCourse) ki_BadWeb_9 (isi_consE (cm_at (PySem.W.mg_of X Gn aC_BadRule)) (excI_mk hd_BadRule ga_BadRule gg_BadRule sb_BadRule ha_BadRule hn ht hm_BadRule) ki_BadWeb_10 (isi_consE (cm_at (PySem.W.mg_of X Gn aC_NotNow)) (excI_mk hd_NotNow ga_NotNow gg_NotNow sb_NotNow ha_NotNow hn ht hm_NotNow) ki_BadWeb_11 (isi_consE (cm_at (PySem.W.mg_of X Gn aC_NothingDone)) (excI_mk hd_NothingDone ga_NothingDone gg_NothingDone sb_NothingDone ha_NothingDone hn ht hm_NothingDone) ki_BadWeb_12 (isi_consE (cm_at (PySem.W.mg_of X Gn aC_BadJournal)) (excI_mk hd_BadJournal ga_BadJournal gg_BadJournal sb_BadJournal ha_BadJournal hn ht hm_BadJournal) ki_BadWeb_13 (isi_consE (cm_at (PySem.W.mg_of X Gn aC_BadText)) (excI_mk hd_BadText ga_BadText gg_BadText sb_BadText ha_BadText hn ht hm_BadText) ki_BadWeb_14 isi_nil)))))))))))))))
    isi_LockError := (isi_consE (cm_at (PySem.W.mg_of X Gn aC_LockError)) (excI_mk hd_LockError ga_LockError gg_LockError sb_LockError ha_LockError hn ht hm_LockError) kit_self (isi_consE (cm_at (PySem.W.mg_of X Gn aC_BadWeb)) (excI_mk hd_BadWeb ga_BadWeb gg_BadWeb sb_BadWeb ha_BadWeb hn ht hm_BadWeb) ki_LockError_1 (isi_consE (cm_at (PySem.W.mg_of X Gn aC_NoParty)) (excI_mk hd_NoParty ga_NoParty gg_NoParty sb_NoParty ha_NoParty hn ht hm_NoParty) ki_LockError_2 (isi_consE (cm_at (PySem.W.mg_of X Gn aC_NoHanding)) (excI_mk hd_NoHanding ga_NoHanding gg_NoHanding sb_NoHanding ha_NoHanding hn ht hm_NoHanding) ki_LockError_3 (isi_consE (cm_at (PySem.W.mg_of X Gn aC_BadLeaders)) (excI_mk hd_BadLeaders ga_BadLeaders gg_BadLeaders sb_BadLeaders ha_BadLeaders hn ht hm_BadLeaders) ki_LockError_4 (isi_consE (cm_at (PySem.W.mg_of X Gn aC_BadKeepers)) (excI_mk hd_BadKeepers ga_BadKeepers gg_BadKeepers sb_BadKeepers ha_BadKeepers hn ht hm_BadKeepers) ki_LockError_5 (isi_consE (cm_at (PySem.W.mg_of X Gn aC_BadLaying)) (excI_mk hd_BadLaying ga_BadLaying gg_BadLaying sb_BadLaying ha_BadLaying hn ht hm_BadLaying) ki_LockError_6 (isi_consE (cm_at (PySem.W.mg_of X Gn aC_BadDeal)) (excI_mk hd_BadDeal ga_BadDeal gg_BadDeal sb_BadDeal ha_BadDeal hn ht hm_BadDeal) ki_LockError_7 (isi_consE (cm_at (PySem.W.mg_of X Gn aC_BadNumber)) (excI_mk hd_BadNumber ga_BadNumber gg_BadNumber sb_BadNumber ha_BadNumber hn ht hm_BadNumber) ki_LockError_8 (isi_consE (cm_at (PySem.W.mg_of X Gn aC_BadCourse)) (excI_mk hd_BadCourse ga_BadCourse gg_BadCourse sb_BadCourse ha_BadCourse hn ht hm_BadCourse) ki_LockError_9 (isi_consE (cm_at (PySem.W.mg_of X Gn aC_BadRule)) (excI_mk hd_BadRule ga_BadRule gg_BadRule sb_BadRule ha_BadRule hn ht hm_BadRule) ki_LockError_10 (isi_consE (cm_at (PySem.W.mg_of X Gn aC_NotNow)) (excI_mk hd_NotNow ga_NotNow gg_NotNow sb_NotNow ha_NotNow hn ht hm_NotNow) ki_LockError_11 (isi_consE (cm_at (PySem.W.mg_of X Gn aC_NothingDone)) (excI_mk hd_NothingDone ga_NothingDone gg_NothingDone sb_NothingDone ha_NothingDone hn ht hm_NothingDone) ki_LockError_12 (isi_consE (cm_at (PySem.W.mg_of X Gn aC_BadJournal)) (excI_mk hd_BadJournal ga_BadJournal gg_BadJournal sb_BadJournal ha_BadJournal hn ht hm_BadJournal) ki_LockError_13 (isi_consE (cm_at (PySem.W.mg_of X Gn aC_BadText)) (excI_mk hd_BadText ga_BadText gg_BadText sb_BadText ha_BadText hn ht hm_BadText) ki_LockError_14 isi_nil)))))))))))))))
    isi_NoHanding := (isi_consE (cm_at (PySem.W.mg_of X Gn aC_LockError)) (excI_mk hd_LockError ga_LockError gg_LockError sb_LockError ha_LockError hn ht hm_LockError) ki_NoHanding_0 (isi_consE (cm_at (PySem.W.mg_of X Gn aC_BadWeb)) (excI_mk hd_BadWeb ga_BadWeb gg_BadWeb sb_BadWeb ha_BadWeb hn ht hm_BadWeb) ki_NoHanding_1 (isi_consE (cm_at (PySem.W.mg_of X Gn aC_NoParty)) (excI_mk hd_NoParty ga_NoParty gg_NoParty sb_NoParty ha_NoParty hn ht hm_NoParty) ki_NoHanding_2 (isi_consE (cm_at (PySem.W.mg_of X Gn aC_NoHanding)) (excI_mk hd_NoHanding ga_NoHanding gg_NoHanding sb_NoHanding ha_NoHanding hn ht hm_NoHanding) kit_self (isi_consE (cm_at (PySem.W.mg_of X Gn aC_BadLeaders)) (excI_mk hd_BadLeaders ga_BadLeaders gg_BadLeaders sb_BadLeaders ha_BadLeaders hn ht hm_BadLeaders) ki_NoHanding_4 (isi_consE (cm_at (PySem.W.mg_of X Gn aC_BadKeepers)) (excI_mk hd_BadKeepers ga_BadKeepers gg_BadKeepers sb_BadKeepers ha_BadKeepers hn ht hm_BadKeepers) ki_NoHanding_5 (isi_consE (cm_at (PySem.W.mg_of X Gn aC_BadLaying)) (excI_mk hd_BadLaying ga_BadLaying gg_BadLaying sb_BadLaying ha_BadLaying hn ht hm_BadLaying) ki_NoHanding_6 (isi_consE (cm_at (PySem.W.mg_of X Gn aC_BadDeal)) (excI_mk hd_BadDeal ga_BadDeal gg_BadDeal sb_BadDeal ha_BadDeal hn ht hm_BadDeal) ki_NoHanding_7 (isi_consE (cm_at (PySem.W.mg_of X Gn aC_BadNumber)) (excI_mk hd_BadNumber ga_BadNumber gg_BadNumber sb_BadNumber ha_BadNumber hn ht hm_BadNumber) ki_NoHanding_8 (isi_consE (cm_at (PySem.W.mg_of X Gn aC_BadCourse)) (excI_mk hd_BadCourse ga_BadCourse gg_BadCourse sb_BadCourse ha_BadCourse hn ht hm_BadCourse) ki_NoHanding_9 (isi_consE (cm_at (PySem.W.mg_of X Gn aC_BadRule)) (excI_mk hd_BadRule ga_BadRule gg_BadRule sb_BadRule ha_BadRule hn ht hm_BadRule) ki_NoHanding_10 (isi_consE (cm_at (PySem.W.mg_of X Gn aC_NotNow)) (excI_mk hd_NotNow ga_NotNow gg_NotNow sb_NotNow ha_NotNow hn ht hm_NotNow) ki_NoHanding_11 (isi_consE (cm_at (PySem.W.mg_of X Gn aC_NothingDone)) (excI_mk hd_NothingDone ga_NothingDone gg_NothingDone sb_NothingDone ha_NothingDone hn ht hm_NothingDone) ki_NoHanding_12 (isi_consE (cm_at (PySem.W.mg_of X Gn aC_BadJournal)) (excI_mk hd_BadJournal ga_BadJournal gg_BadJournal sb_BadJournal ha_BadJournal hn ht hm_BadJournal) ki_NoHanding_13 (isi_consE (cm_at (PySem.W.mg_of X Gn aC_BadText)) (excI_mk hd_BadText ga_BadText gg_BadText sb_BadText ha_BadText hn ht hm_BadText) ki_NoHanding_14 isi_nil)))))))))))))))
    isi_NoParty := (isi_consE (cm_at (PySem.W.mg_of X Gn aC_LockError)) (excI_mk hd_LockError ga_LockError gg_LockError sb_LockError ha_LockError hn ht hm_LockError) ki_NoParty_0 (isi_consE (cm_at (PySem.W.mg_of X Gn aC_BadWeb)) (excI_mk hd_BadWeb ga_BadWeb gg_BadWeb sb_BadWeb ha_BadWeb hn ht hm_BadWeb) ki_NoParty_1 (isi_consE (cm_at (PySem.W.mg_of X Gn aC_NoParty)) (excI_mk hd_NoParty ga_NoParty gg_NoParty sb_NoParty ha_NoParty hn ht hm_NoParty) kit_self (isi_consE (cm_at (PySem.W.mg_of X Gn aC_NoHanding)) (excI_mk hd_NoHanding ga_NoHanding gg_NoHanding sb_NoHanding ha_NoHanding hn ht hm_NoHanding) ki_NoParty_3 (isi_consE (cm_at (PySem.W.mg_of X Gn aC_BadLeaders)) (excI_mk hd_BadLeaders ga_BadLeaders gg_BadLeaders sb_BadLeaders ha_BadLeaders hn ht hm_BadLeaders) ki_NoParty_4 (isi_consE (cm_at (PySem.W.mg_of X Gn aC_BadKeepers)) (excI_mk hd_BadKeepers ga_BadKeepers gg_BadKeepers sb_BadKeepers ha_BadKeepers hn ht hm_BadKeepers) ki_NoParty_5 (isi_consE (cm_at (PySem.W.mg_of X Gn aC_BadLaying)) (excI_mk hd_BadLaying ga_BadLaying gg_BadLaying sb_BadLaying ha_BadLaying hn ht hm_BadLaying) ki_NoParty_6 (isi_consE (cm_at (PySem.W.mg_of X Gn aC_BadDeal)) (excI_mk hd_BadDeal ga_BadDeal gg_BadDeal sb_BadDeal ha_BadDeal hn ht hm_BadDeal) ki_NoParty_7 (isi_consE (cm_at (PySem.W.mg_of X Gn aC_BadNumber)) (excI_mk hd_BadNumber ga_BadNumber gg_BadNumber sb_BadNumber ha_BadNumber hn ht hm_BadNumber) ki_NoParty_8 (isi_consE (cm_at (PySem.W.mg_of X Gn aC_BadCourse)) (excI_mk hd_BadCourse ga_BadCourse gg_BadCourse sb_BadCourse ha_BadCourse hn ht hm_BadCourse) ki_NoParty_9 (isi_consE (cm_at (PySem.W.mg_of X Gn aC_BadRule)) (excI_mk hd_BadRule ga_BadRule gg_BadRule sb_BadRule ha_BadRule hn ht hm_BadRule) ki_NoParty_10 (isi_consE (cm_at (PySem.W.mg_of X Gn aC_NotNow)) (excI_mk hd_NotNow ga_NotNow gg_NotNow sb_NotNow ha_NotNow hn ht hm_NotNow) ki_NoParty_11 (isi_consE (cm_at (PySem.W.mg_of X Gn aC_NothingDone)) (excI_mk hd_NothingDone ga_NothingDone gg_NothingDone sb_NothingDone ha_NothingDone hn ht hm_NothingDone) ki_NoParty_12 (isi_consE (cm_at (PySem.W.mg_of X Gn aC_BadJournal)) (excI_mk hd_BadJournal ga_BadJournal gg_BadJournal sb_BadJournal ha_BadJournal hn ht hm_BadJournal) ki_NoParty_13 (isi_consE (cm_at (PySem.W.mg_of X Gn aC_BadText)) (excI_mk hd_BadText ga_BadText gg_BadText sb_BadText ha_BadText hn ht hm_BadText) ki_NoParty_14 isi_nil)))))))))))))))
    isi_NotNow := (isi_consE (cm_at (PySem.W.mg_of X Gn aC_LockError)) (excI_mk hd_LockError ga_LockError gg_LockError sb_LockError ha_LockError hn ht hm_LockError) ki_NotNow_0 (isi_consE (cm_at (PySem.W.mg_of X Gn aC_BadWeb)) (excI_mk hd_BadWeb ga_BadWeb gg_BadWeb sb_BadWeb ha_BadWeb hn ht hm_BadWeb) ki_NotNow_1 (isi_consE (cm_at (PySem.W.mg_of X Gn aC_NoParty)) (excI_mk hd_NoParty ga_NoParty gg_NoParty sb_NoParty ha_NoParty hn ht hm_NoParty) ki_NotNow_2 (isi_consE (cm_at (PySem.W.mg_of X Gn aC_NoHanding)) (excI_mk hd_NoHanding ga_NoHanding gg_NoHanding sb_NoHanding ha_NoHanding hn ht hm_NoHanding) ki_NotNow_3 (isi_consE (cm_at (PySem.W.mg_of X Gn aC_BadLeaders)) (excI_mk hd_BadLeaders ga_BadLeaders gg_BadLeaders sb_BadLeaders ha_BadLeaders hn ht hm_BadLeaders) ki_NotNow_4 (isi_consE (cm_at (PySem.W.mg_of X Gn aC_BadKeepers)) (excI_mk hd_BadKeepers ga_BadKeepers gg_BadKeepers sb_BadKeepers ha_BadKeepers hn ht hm_BadKeepers) ki_NotNow_5 (isi_consE (cm_at (PySem.W.mg_of X Gn aC_BadLaying)) (excI_mk hd_BadLaying ga_BadLaying gg_BadLaying sb_BadLaying ha_BadLaying hn ht hm_BadLaying) ki_NotNow_6 (isi_consE (cm_at (PySem.W.mg_of X Gn aC_BadDeal)) (excI_mk hd_BadDeal ga_BadDeal gg_BadDeal sb_BadDeal ha_BadDeal hn ht hm_BadDeal) ki_NotNow_7 (isi_consE (cm_at (PySem.W.mg_of X Gn aC_BadNumber)) (excI_mk hd_BadNumber ga_BadNumber gg_BadNumber sb_BadNumber ha_BadNumber hn ht hm_BadNumber) ki_NotNow_8 (isi_consE (cm_at (PySem.W.mg_of X Gn aC_BadCourse)) (excI_mk hd_BadCourse ga_BadCourse gg_BadCourse sb_BadCourse ha_BadCourse hn ht hm_BadCourse) ki_NotNow_9 (isi_consE (cm_at (PySem.W.mg_of X Gn aC_BadRule)) (excI_mk hd_BadRule ga_BadRule gg_BadRule sb_BadRule ha_BadRule hn ht hm_BadRule) ki_NotNow_10 (isi_consE (cm_at (PySem.W.mg_of X Gn aC_NotNow)) (excI_mk hd_NotNow ga_NotNow gg_NotNow sb_NotNow ha_NotNow hn ht hm_NotNow) kit_self (isi_consE (cm_at (PySem.W.mg_of X Gn aC_NothingDone)) (excI_mk hd_NothingDone ga_NothingDone gg_NothingDone sb_NothingDone ha_NothingDone hn ht hm_NothingDone) ki_NotNow_12 (isi_consE (cm_at (PySem.W.mg_of X Gn aC_BadJournal)) (excI_mk hd_BadJournal ga_BadJournal gg_BadJournal sb_BadJournal ha_BadJournal hn ht hm_BadJournal) ki_NotNow_13 (isi_consE (cm_at (PySem.W.mg_of X Gn aC_BadText)) (excI_mk hd_BadText ga_BadText gg_BadText sb_BadText ha_BadText hn ht hm_BadText) ki_NotNow_14 isi_nil)))))))))))))))
    isi_NothingDone := (isi_consE (cm_at (PySem.W.mg_of X Gn aC_LockError)) (excI_mk hd_LockError ga_LockError gg_LockError sb_LockError ha_LockError hn ht hm_LockError) ki_NothingDone_0 (isi_consE (cm_at (PySem.W.mg_of X Gn aC_BadWeb)) (excI_mk hd_BadWeb ga_BadWeb gg_BadWeb sb_BadWeb ha_BadWeb hn ht hm_BadWeb) ki_NothingDone_1 (isi_consE (cm_at (PySem.W.mg_of X Gn aC_NoParty)) (excI_mk hd_NoParty ga_NoParty gg_NoParty sb_NoParty ha_NoParty hn ht hm_NoParty) ki_NothingDone_2 (isi_consE (cm_at (PySem.W.mg_of X Gn aC_NoHanding)) (excI_mk hd_NoHanding ga_NoHanding gg_NoHanding sb_NoHanding ha_NoHanding hn ht hm_NoHanding) ki_NothingDone_3 (isi_consE (cm_at (PySem.W.mg_of X Gn aC_BadLeaders)) (excI_mk hd_BadLeaders ga_BadLeaders gg_BadLeaders sb_BadLeaders ha_BadLeaders hn ht hm_BadLeaders) ki_NothingDone_4 (isi_consE (cm_at (PySem.W.mg_of X Gn aC_BadKeepers)) (excI_mk hd_BadKeepers ga_BadKeepers gg_BadKeepers sb_BadKeepers ha_BadKeepers hn ht hm_BadKeepers) ki_NothingDone_5 (isi_consE (cm_at (PySem.W.mg_of X Gn aC_BadLaying)) (excI_mk hd_BadLaying ga_BadLaying gg_BadLaying sb_BadLaying ha_BadLaying hn ht hm_BadLaying) ki_NothingDone_6 (isi_consE (cm_at (PySem.W.mg_of X Gn aC_BadDeal)) (excI_mk hd_BadDeal ga_BadDeal gg_BadDeal sb_BadDeal ha_BadDeal hn ht hm_BadDeal) ki_NothingDone_7 (isi_consE (cm_at (PySem.W.mg_of X Gn aC_BadNumber)) (excI_mk hd_BadNumber ga_BadNumber gg_BadNumber sb_BadNumber ha_BadNumber hn ht hm_BadNumber) ki_NothingDone_8 (isi_consE (cm_at (PySem.W.mg_of X Gn aC_BadCourse)) (excI_mk hd_BadCourse ga_BadCourse gg_BadCourse sb_BadCourse ha_BadCourse hn ht hm_BadCourse) ki_NothingDone_9 (isi_consE (cm_at (PySem.W.mg_of X Gn aC_BadRule)) (excI_mk hd_BadRule ga_BadRule gg_BadRule sb_BadRule ha_BadRule hn ht hm_BadRule) ki_NothingDone_10 (isi_consE (cm_at (PySem.W.mg_of X Gn aC_NotNow)) (excI_mk hd_NotNow ga_NotNow gg_NotNow sb_NotNow ha_NotNow hn ht hm_NotNow) ki_NothingDone_11 (isi_consE (cm_at (PySem.W.mg_of X Gn aC_NothingDone)) (excI_mk hd_NothingDone ga_NothingDone gg_NothingDone sb_NothingDone ha_NothingDone hn ht hm_NothingDone) kit_self (isi_consE (cm_at (PySem.W.mg_of X Gn aC_BadJournal)) (excI_mk hd_BadJournal ga_BadJournal gg_BadJournal sb_BadJournal ha_BadJournal hn ht hm_BadJournal) ki_NothingDone_13 (isi_consE (cm_at (PySem.W.mg_of X Gn aC_BadText)) (excI_mk hd_BadText ga_BadText gg_BadText sb_BadText ha_BadText hn ht hm_BadText) ki_NothingDone_14 isi_nil)))))))))))))))
    isi_ValueError := (isi_consE (cm_at (PySem.W.mg_of X Gn aC_LockError)) (excI_mk hd_LockError ga_LockError gg_LockError sb_LockError ha_LockError hn ht hm_LockError) ki_ValueError_0 (isi_consE (cm_at (PySem.W.mg_of X Gn aC_BadWeb)) (excI_mk hd_BadWeb ga_BadWeb gg_BadWeb sb_BadWeb ha_BadWeb hn ht hm_BadWeb) ki_ValueError_1 (isi_consE (cm_at (PySem.W.mg_of X Gn aC_NoParty)) (excI_mk hd_NoParty ga_NoParty gg_NoParty sb_NoParty ha_NoParty hn ht hm_NoParty) ki_ValueError_2 (isi_consE (cm_at (PySem.W.mg_of X Gn aC_NoHanding)) (excI_mk hd_NoHanding ga_NoHanding gg_NoHanding sb_NoHanding ha_NoHanding hn ht hm_NoHanding) ki_ValueError_3 (isi_consE (cm_at (PySem.W.mg_of X Gn aC_BadLeaders)) (excI_mk hd_BadLeaders ga_BadLeaders gg_BadLeaders sb_BadLeaders ha_BadLeaders hn ht hm_BadLeaders) ki_ValueError_4 (isi_consE (cm_at (PySem.W.mg_of X Gn aC_BadKeepers)) (excI_mk hd_BadKeepers ga_BadKeepers gg_BadKeepers sb_BadKeepers ha_BadKeepers hn ht hm_BadKeepers) ki_ValueError_5 (isi_consE (cm_at (PySem.W.mg_of X Gn aC_BadLaying)) (excI_mk hd_BadLaying ga_BadLaying gg_BadLaying sb_BadLaying ha_BadLaying hn ht hm_BadLaying) ki_ValueError_6 (isi_consE (cm_at (PySem.W.mg_of X Gn aC_BadDeal)) (excI_mk hd_BadDeal ga_BadDeal gg_BadDeal sb_BadDeal ha_BadDeal hn ht hm_BadDeal) ki_ValueError_7 (isi_consE (cm_at (PySem.W.mg_of X Gn aC_BadNumber)) (excI_mk hd_BadNumber ga_BadNumber gg_BadNumber sb_BadNumber ha_BadNumber hn ht hm_BadNumber) ki_ValueError_8 (isi_consE (cm_at (PySem.W.mg_of X Gn aC_BadCourse)) (excI_mk hd_BadCourse ga_BadCourse gg_BadCourse sb_BadCourse ha_BadCourse hn ht hm_BadCourse) ki_ValueError_9 (isi_consE (cm_at (PySem.W.mg_of X Gn aC_BadRule)) (excI_mk hd_BadRule ga_BadRule gg_BadRule sb_BadRule ha_BadRule hn ht hm_BadRule) ki_ValueError_10 (isi_consE (cm_at (PySem.W.mg_of X Gn aC_NotNow)) (excI_mk hd_NotNow ga_NotNow gg_NotNow sb_NotNow ha_NotNow hn ht hm_NotNow) ki_ValueError_11 (isi_consE (cm_at (PySem.W.mg_of X Gn aC_NothingDone)) (excI_mk hd_NothingDone ga_NothingDone gg_NothingDone sb_NothingDone ha_NothingDone hn ht hm_NothingDone) ki_ValueError_12 (isi_consE (cm_at (PySem.W.mg_of X Gn aC_BadJournal)) (excI_mk hd_BadJournal ga_BadJournal gg_BadJournal sb_BadJournal ha_BadJournal hn ht hm_BadJournal) ki_ValueError_13 (isi_consE (cm_at (PySem.W.mg_of X Gn aC_BadText)) (excI_mk hd_BadText ga_BadText gg_BadText sb_BadText ha_BadText hn ht hm_BadText) ki_ValueError_14 isi_nil))))))))))))))) }, PySem.W.mg_of X Gn a_law, fun s u => .of_eq rfl⟩
end Lk01
open PySem PySem.W PyProof.Rows
set_option maxHeartbeats 0 in
theorem PySem.Challenge.cw_handlocks_k01_errors_by_hand_holds : PySem.Challenge.rw_handlocks_k01_errors_by_hand.Holds := by
  w_on; o_law; k_head; (case hw => w_witness2)
  k_fill
  refine VL.lawWalk (l := PySem.Challenge.rw_handlocks_k01_errors_by_hand) (n := 63) (k := 4) (x := "_law_script") (GG := fun wd mg => Lk01.GG _ mg) (m := Lk01.D_law) rfl (by decide) rfl ⟨rfl, by decide, by decide⟩ (fun w h Y => PySem.W.kIn_of Y) (fun _ _ => ⟨rfl, rfl⟩) ?F Lk01.plain
  case F =>
    intro w mg fa h KX G hmg
    refine Lk01.tied hmg (?_ : Lk01.Tied _ _ mg)
    refine' Lk01.tie_mk KX G ?sup ?opq ?topn ?aC_LockError ?hd_LockError ?ga_LockError ?gg_LockError ?sb_LockError ?ha_LockError ?hm_LockError ?kc_LockError ?qx_LockError ?st_LockError ?aC_BadWeb ?hd_BadWeb ?ga_BadWeb ?gg_BadWeb ?sb_BadWeb ?ha_BadWeb ?hm_BadWeb ?kc_BadWeb ?a_BadWeb_init ?ti_BadWeb_init ?l_BadWeb_init ?c_BadWeb_init ?lc_BadWeb ?hv_BadWeb ?hf_BadWeb ?lcc_BadWeb ?hC_BadWeb ?hr_BadWeb ?hh_BadWeb ?hi_BadWeb ?su_BadWeb ?sm_BadWeb ?sB_BadWeb ?sa_BadWeb ?fno_BadWeb ?aC_NoParty ?hd_NoParty ?ga_NoParty ?gg_NoParty ?sb_NoParty ?ha_NoParty ?hm_NoParty ?kc_NoParty ?a_NoParty_init ?ti_NoParty_init ?l_NoParty_init ?c_NoParty_init ?lc_NoParty ?hv_NoParty ?hf_NoParty ?lcc_NoParty ?hC_NoParty ?hr_NoParty ?hh_NoParty ?hi_NoParty ?su_NoParty ?sm_NoParty ?sB_NoParty ?sa_NoParty ?fno_NoParty ?aC_NoHanding ?hd_NoHanding ?ga_NoHanding ?gg_NoHanding ?sb_NoHanding ?ha_NoHanding ?hm_NoHanding ?kc_NoHanding ?a_NoHanding_init ?ti_NoHanding_init ?l_NoHanding_init ?c_NoHanding_init ?lc_NoHanding ?hv_NoHanding ?hf_NoHanding ?lcc_NoHanding ?hC_NoHanding ?hr_NoHanding ?hh_NoHanding ?hi_NoHanding ?su_NoHanding ?sm_NoHanding ?sB_NoHanding ?sa_NoHanding ?fno_NoHanding ?aC_BadLeaders ?hd_BadLeaders ?ga_BadLeaders ?gg_BadLeaders ?sb_BadLeaders ?ha_BadLeaders ?hm_BadLeaders ?kc_BadLeaders ?qx_BadLeaders ?st_BadLeaders ?aC_BadKeepers ?hd_BadKeepers ?ga_BadKeepers ?gg_BadKeepers ?sb_BadKeepers ?ha_BadKeepers ?hm_BadKeepers ?kc_BadKeepers ?qx_BadKeepers ?st_BadKeepers ?aC_BadLaying ?hd_BadLaying ?ga_BadLaying ?gg_BadLaying ?sb_BadLaying ?ha_BadLaying ?hm_BadLaying ?kc_BadLaying ?a_BadLaying_init ?ti_BadLaying_init ?l_BadLaying_init ?c_BadLaying_init ?lc_BadLaying ?hv_BadLaying ?hf_BadLaying ?lcc_BadLaying ?hC_BadLaying ?hr_BadLaying ?hh_BadLaying ?hi_BadLaying ?su_BadLaying ?sm_BadLaying ?sB_BadLaying ?sa_BadLaying ?fno_BadLaying ?aC_BadDeal ?hd_BadDeal ?ga_BadDeal ?gg_BadDeal ?sb_BadDeal ?ha_BadDeal ?hm_BadDeal ?kc_BadDeal ?a_BadDeal_init ?ti_BadDeal_init ?l_BadDeal_init ?c_BadDeal_init ?lc_BadDeal ?hv_BadDeal ?hf_BadDeal ?lcc_BadDeal ?hC_BadDeal ?hr_BadDeal ?hh_BadDeal ?hi_BadDeal ?su_BadDeal ?sm_BadDeal ?sB_BadDeal ?sa_BadDeal ?fno_BadDeal ?aC_BadNumber ?hd_BadNumber ?ga_BadNumber ?gg_BadNumber ?sb_BadNumber ?ha_BadNumber ?hm_BadNumber ?kc_BadNumber ?a_BadNumber_init ?ti_BadNumber_init ?l_BadNumber_init ?c_BadNumber_init ?lc_BadNumber ?hv_BadNumber ?hf_BadNumber ?lcc_BadNumber ?hC_BadNumber ?hr_BadNumber ?hh_BadNumber ?hi_BadNumber ?su_BadNumber ?sm_BadNumber ?sB_BadNumber ?sa_BadNumber ?fno_BadNumber ?aC_BadCourse ?hd_BadCourse ?ga_BadCourse ?gg_BadCourse ?sb_BadCourse ?ha_BadCourse ?hm_BadCourse ?kc_BadCourse ?qx_BadCourse ?st_BadCourse ?aC_BadRule ?hd_BadRule ?ga_BadRule ?gg_BadRule ?sb_BadRule ?ha_BadRule ?hm_BadRule ?kc_BadRule ?a_BadRule_init ?ti_BadRule_init ?l_BadRule_init ?c_BadRule_init ?lc_BadRule ?hv_BadRule ?hf_BadRule ?lcc_BadRule ?hC_BadRule ?hr_BadRule ?hh_BadRule ?hi_BadRule ?su_BadRule ?sm_BadRule ?sB_BadRule ?sa_BadRule ?fno_BadRule ?aC_NotNow ?hd_NotNow ?ga_NotNow ?gg_NotNow ?sb_NotNow ?ha_NotNow ?hm_NotNow ?kc_NotNow ?a_NotNow_init ?ti_NotNow_init ?l_NotNow_init ?c_NotNow_init ?lc_NotNow ?hv_NotNow ?hf_NotNow ?lcc_NotNow ?hC_NotNow ?hr_NotNow ?hh_NotNow ?hi_NotNow ?su_NotNow ?sm_NotNow ?sB_NotNow ?sa_NotNow ?fno_NotNow ?aC_NothingDone ?hd_NothingDone ?ga_NothingDone ?gg_NothingDone ?sb_NothingDone ?ha_NothingDone ?hm_NothingDone ?kc_NothingDone ?qx_NothingDone ?st_NothingDone ?aC_BadJournal ?hd_BadJournal ?ga_BadJournal ?gg_BadJournal ?sb_BadJournal ?ha_BadJournal ?hm_BadJournal ?kc_BadJournal ?a_BadJournal_init ?ti_BadJournal_init ?l_BadJournal_init ?c_BadJournal_init ?lc_BadJournal ?hv_BadJournal ?hf_BadJournal ?lcc_BadJournal ?hC_BadJournal ?hr_BadJournal ?hh_BadJournal ?hi_BadJournal ?su_BadJournal ?sm_BadJournal ?sB_BadJournal ?sa_BadJournal ?fno_BadJournal ?aC_BadText ?hd_BadText ?ga_BadText ?gg_BadText ?sb_BadText ?ha_BadText ?hm_BadText ?kc_BadText ?a_BadText_init ?ti_BadText_init ?l_BadText_init ?c_BadText_init ?lc_BadText ?hv_BadText ?hf_BadText ?lcc_BadText ?hC_BadText ?hr_BadText ?hh_BadText ?hi_BadText ?su_BadText ?sm_BadText ?sB_BadText ?sa_BadText ?fno_BadText ?hn ?ht ?ki_BadCourse_0 ?ki_BadCourse_1 ?ki_BadCourse_2 ?ki_BadCourse_3 ?ki_BadCourse_4 ?ki_BadCourse_5 ?ki_BadCourse_6 ?ki_BadCourse_7 ?ki_BadCourse_8 ?ki_BadCourse_10 ?ki_BadCourse_11 ?ki_BadCourse_12 ?ki_BadCourse_13 ?ki_BadCourse_14 ?ki_BadDeal_0 ?ki_BadDeal_1 ?ki_BadDeal_2 ?ki_BadDeal_3 ?ki_BadDeal_4 ?ki_BadDeal_5 ?ki_BadDeal_6 ?ki_BadDeal_8 ?ki_BadDeal_9 ?ki_BadDeal_10 ?ki_BadDeal_11 ?ki_BadDeal_12 ?ki_BadDeal_13 ?ki_BadDeal_14 ?ki_BadJournal_0 ?ki_BadJournal_1 ?ki_BadJournal_2 ?ki_BadJournal_3 ?ki_BadJournal_4 ?ki_BadJournal_5 ?ki_BadJournal_6 ?ki_BadJournal_7 ?ki_BadJournal_8 ?ki_BadJournal_9 ?ki_BadJournal_10 ?ki_BadJournal_11 ?ki_BadJournal_12 ?ki_BadJournal_14 ?ki_BadKeepers_0 ?ki_BadKeepers_1 ?ki_BadKeepers_2 ?ki_BadKeepers_3 ?ki_BadKeepers_4 ?ki_BadKeepers_6 ?ki_BadKeepers_7 ?ki_BadKeepers_8 ?ki_BadKeepers_9 ?ki_BadKeepers_10 ?ki_BadKeepers_11 ?ki_BadKeepers_12 ?ki_BadKeepers_13 ?ki_BadKeepers_14 ?ki_BadLaying_0 ?ki_BadLaying_1 ?ki_BadLaying_2 ?ki_BadLaying_3 ?ki_BadLaying_4 ?ki_BadLaying_5 ?ki_BadLaying_7 ?ki_BadLaying_8 ?ki_BadLaying_9 ?ki_BadLaying_10 ?ki_BadLaying_11 ?ki_BadLaying_12 ?ki_BadLaying_13 ?ki_BadLaying_14 ?ki_BadLeaders_0 ?ki_BadLeaders_1 ?ki_BadLeaders_2 ?ki_BadLeaders_3 ?ki_BadLeaders_5 ?ki_BadLeaders_6 ?ki_BadLeaders_7 ?ki_BadLeaders_8 ?ki_BadLeaders_9 ?ki_BadLeaders_10 ?ki_BadLeaders_11 ?ki_BadLeaders_12 ?ki_BadLeaders_13 ?ki_BadLeaders_14 ?ki_BadNumber_0 ?ki_BadNumber_1 ?ki_BadNumber_2 ?ki_BadNumber_3 ?ki_BadNumber_4 ?ki_BadNumber_5 ?ki_BadNumber_6 ?ki_BadNumber_7 ?ki_BadNumber_9 ?ki_BadNumber_10 ?ki_BadNumber_11 ?ki_BadNumber_12 ?ki_BadNumber_13 ?ki_BadNumber_14 ?ki_BadRule_0 ?ki_BadRule_1 ?ki_BadRule_2 ?ki_BadRule_3 ?ki_BadRule_4 ?ki_BadRule_5 ?ki_BadRule_6 ?ki_BadRule_7 ?ki_BadRule_8 ?ki_BadRule_9 ?ki_BadRule_11 ?ki_BadRule_12 ?ki_BadRule_13 ?ki_BadRule_14 ?ki_BadText_0 ?ki_BadText_1 ?ki_BadText_2 ?ki_BadText_3 ?ki_BadText_4 ?ki_BadText_5 ?ki_BadText_6 ?ki_BadText_7 ?ki_BadText_8 ?ki_BadText_9 ?ki_BadText_10 ?ki_BadText_11 ?ki_BadText_12 ?ki_BadText_13 ?ki_BadWeb_0 ?ki_BadWeb_2 ?ki_BadWeb_3 ?ki_BadWeb_4 ?ki_BadWeb_5 ?ki_BadWeb_6 ?ki_BadWeb_7 ?ki_BadWeb_8 ?ki_BadWeb_9 ?ki_BadWeb_10 ?ki_BadWeb_11 ?ki_BadWeb_12 ?ki_BadWeb_13 ?ki_BadWeb_14 ?ki_LockError_1 ?ki_LockError_2 ?ki_LockError_3 ?ki_LockError_4 ?ki_LockError_5 ?ki_LockError_6 ?ki_LockError_7 ?ki_LockError_8 ?ki_LockError_9 ?ki_LockError_10 ?ki_LockError_11 ?ki_LockError_12 ?ki_LockError_13 ?ki_LockError_14 ?ki_NoHanding_0 ?ki_NoHanding_1 ?ki_NoHanding_2 ?ki_NoHanding_4 ?ki_NoHanding_5 ?ki_NoHanding_6 ?ki_NoHanding_7 ?ki_NoHanding_8 ?ki_NoHanding_9 ?ki_NoHanding_10 ?ki_NoHanding_11 ?ki_NoHanding_12 ?ki_NoHanding_13 ?ki_NoHanding_14 ?ki_NoParty_0 ?ki_NoParty_1 ?ki_NoParty_3 ?ki_NoParty_4 ?ki_NoParty_5 ?ki_NoParty_6 ?ki_NoParty_7 ?ki_NoParty_8 ?ki_NoParty_9 ?ki_NoParty_10 ?ki_NoParty_11 ?ki_NoParty_12 ?ki_NoParty_13 ?ki_NoParty_14 ?ki_NotNow_0 ?ki_NotNow_1 ?ki_NotNow_2 ?ki_NotNow_3 ?ki_NotNow_4 ?ki_NotNow_5 ?ki_NotNow_6 ?ki_NotNow_7 ?ki_NotNow_8 ?ki_NotNow_9 ?ki_NotNow_10 ?ki_NotNow_12 ?ki_NotNow_13 ?ki_NotNow_14 ?ki_NothingDone_0 ?ki_NothingDone_1 ?ki_NothingDone_2 ?ki_NothingDone_3 ?ki_NothingDone_4 ?ki_NothingDone_5 ?ki_NothingDone_6 ?ki_NothingDone_7 ?ki_NothingDone_8 ?ki_NothingDone_9 ?ki_NothingDone_10 ?ki_NothingDone_11 ?ki_NothingDone_13 ?ki_NothingDone_14 ?ki_ValueError_0 ?ki_ValueError_1 ?ki_ValueError_2 ?ki_ValueError_3 ?ki_ValueError_4 ?ki_ValueError_5 ?ki_ValueError_6 ?ki_ValueError_7 ?ki_ValueError_8 ?ki_ValueError_9 ?ki_ValueError_10 ?ki_ValueError_11 ?ki_ValueError_12 ?ki_ValueError_13 ?ki_ValueError_14 ?a_law_begin ?l_law_begin ?c_law_begin ?k_law_begin ?a_law_blend ?l_law_blend ?c_law_blend ?k_law_blend ?a_law_take ?l_law_take ?c_law_take ?k_law_take ?a_law_pick ?l_law_pick ?c_law_pick ?k_law_pick ?a_law_plain ?l_law_plain ?c_law_plain ?k_law_plain ?a_law_marks ?l_law_marks ?c_law_marks ?k_law_marks ?a_law_alone ?l_law_alone ?c_law_alone ?k_law_alone ?a_law_with_fields ?l_law_with_fields ?c_law_with_fields ?k_law_with_fields ?a_law ?l_law ?c_law ?k_law ?z_ValueError ?z_abs ?z_enumerate ?z_int ?z_isinstance ?z_len ?z_min ?z_range ?z_repr ?z_str
    (case sup => k_is)
    (case opq => k_is)
    (case topn => first | rfl | decide +kernel | kernel_rfl)
    (case aC_LockError => k_is)
    (case hd_LockError => k_is)
    (case ga_LockError => k_is)
    (case gg_LockError => k_is)
    (case sb_LockError => k_is)
    (case ha_LockError => k_is)
    (case hm_LockError => k_is)
    (case kc_LockError => k_is)
    (case qx_LockError => k_exc)
    (case st_LockError => k_is)
    (case aC_BadWeb => k_is)
    (case hd_BadWeb => k_is)
    (case ga_BadWeb => k_is)
    (case gg_BadWeb => k_is)
    (case sb_BadWeb => k_is)
    (case ha_BadWeb => k_is)
    (case hm_BadWeb => k_is)
    (case kc_BadWeb => k_is)
    (case a_BadWeb_init => k_is)
    (case ti_BadWeb_init => k_is)
    (case l_BadWeb_init => k_is)
    (case c_BadWeb_init => k_is)
    (case lc_BadWeb => k_is)
    (case hv_BadWeb => rfl)
    (case hf_BadWeb => first | rfl | decide +kernel | kernel_rfl)
    (case lcc_BadWeb => k_is)
    (case hC_BadWeb => k_is)
    (case hr_BadWeb => first | rfl | decide +kernel)
    (case hh_BadWeb => rfl)
    (case hi_BadWeb => first | k_is | k_exc | kernel_rfl)
    (case su_BadWeb => k_is)
    (case sm_BadWeb => ks_is)
    (case sB_BadWeb => k_is)
    (case sa_BadWeb => k_is)
    (case fno_BadWeb => k_is)
    (case aC_NoParty => k_is)
    (case hd_NoParty => k_is)
    (case ga_NoParty => k_is)
    (case gg_NoParty => k_is)
    (case sb_NoParty => k_is)
    (case ha_NoParty => k_is)
    (case hm_NoParty => k_is)
    (case kc_NoParty => k_is)
    (case a_NoParty_init => k_is)
    (case ti_NoParty_init => k_is)
    (case l_NoParty_init => k_is)
    (case c_NoParty_init => k_is)
    (case lc_NoParty => k_is)
    (case hv_NoParty => rfl)
    (case hf_NoParty => first | rfl | decide +kernel | kernel_rfl)
    (case lcc_NoParty => k_is)
    (case hC_NoParty => k_is)
    (case hr_NoParty => first | rfl | decide +kernel)
    (case hh_NoParty => rfl)
    (case hi_NoParty => first | k_is | k_exc | kernel_rfl)
    (case su_NoParty => k_is)
    (case sm_NoParty => ks_is)
    (case sB_NoParty => k_is)
    (case sa_NoParty => k_is)
    (case fno_NoParty => k_is)
    (case aC_NoHanding => k_is)
    (case hd_NoHanding => k_is)
    (case ga_NoHanding => k_is)
    (case gg_NoHanding => k_is)
    (case sb_NoHanding => k_is)
    (case ha_NoHanding => k_is)
    (case hm_NoHanding => k_is)
    (case kc_NoHanding => k_is)
    (case a_NoHanding_init => k_is)
    (case ti_NoHanding_init => k_is)
    (case l_NoHanding_init => k_is)
    (case c_NoHanding_init => k_is)
    (case lc_NoHanding => k_is)
    (case hv_NoHanding => rfl)
    (case hf_NoHanding => first | rfl | decide +kernel | kernel_rfl)
    (case lcc_NoHanding => k_is)
    (case hC_NoHanding => k_is)
    (case hr_NoHanding => first | rfl | decide +kernel)
    (case hh_NoHanding => rfl)
    (case hi_NoHanding => first | k_is | k_exc | kernel_rfl)
    (case su_NoHanding => k_is)
    (case sm_NoHanding => ks_is)
    (case sB_NoHanding => k_is)
    (case sa_NoHanding => k_is)
    (case fno_NoHanding => k_is)
    (case aC_BadLeaders => k_is)
    (case hd_BadLeaders => k_is)
    (case ga_BadLeaders => k_is)
    (case gg_BadLeaders => k_is)
    (case sb_BadLeaders => k_is)
    (case ha_BadLeaders => k_is)
    (case hm_BadLeaders => k_is)
    (case kc_BadLeaders => k_is)
    (case qx_BadLeaders => k_exc)
    (case st_BadLeaders => k_is)
    (case aC_BadKeepers => k_is)
    (case hd_BadKeepers => k_is)
    (case ga_BadKeepers => k_is)
    (case gg_BadKeepers => k_is)
    (case sb_BadKeepers => k_is)
    (case ha_BadKeepers => k_is)
    (case hm_BadKeepers => k_is)
    (case kc_BadKeepers => k_is)
    (case qx_BadKeepers => k_exc)
    (case st_BadKeepers => k_is)
    (case aC_BadLaying => k_is)
    (case hd_BadLaying => k_is)
    (case ga_BadLaying => k_is)
    (case gg_BadLaying => k_is)
    (case sb_BadLaying => k_is)
    (case ha_BadLaying => k_is)
    (case hm_BadLaying => k_is)
    (case kc_BadLaying => k_is)
    (case a_BadLaying_init => k_is)
    (case ti_BadLaying_init => k_is)
    (case l_BadLaying_init => k_is)
    (case c_BadLaying_init => k_is)
    (case lc_BadLaying => k_is)
    (case hv_BadLaying => rfl)
    (case hf_BadLaying => first | rfl | decide +kernel | kernel_rfl)
    (case lcc_BadLaying => k_is)
    (case hC_BadLaying => k_is)
    (case hr_BadLaying => first | rfl | decide +kernel)
    (case hh_BadLaying => rfl)
    (case hi_BadLaying => first | k_is | k_exc | kernel_rfl)
    (case su_BadLaying => k_is)
    (case sm_BadLaying => ks_is)
    (case sB_BadLaying => k_is)
    (case sa_BadLaying => k_is)
    (case fno_BadLaying => k_is)
    (case aC_BadDeal => k_is)
    (case hd_BadDeal => k_is)
    (case ga_BadDeal => k_is)
    (case gg_BadDeal => k_is)
    (case sb_BadDeal => k_is)
    (case ha_BadDeal => k_is)
    (case hm_BadDeal => k_is)
    (case kc_BadDeal => k_is)
    (case a_BadDeal_init => k_is)
    (case ti_BadDeal_init => k_is)
    (case l_BadDeal_init => k_is)
    (case c_BadDeal_init => k_is)
    (case lc_BadDeal => k_is)
    (case hv_BadDeal => rfl)
    (case hf_BadDeal => first | rfl | decide +kernel | kernel_rfl)
    (case lcc_BadDeal => k_is)
    (case hC_BadDeal => k_is)
    (case hr_BadDeal => first | rfl | decide +kernel)
    (case hh_BadDeal => rfl)
    (case hi_BadDeal => first | k_is | k_exc | kernel_rfl)
    (case su_BadDeal => k_is)
    (case sm_BadDeal => ks_is)
    (case sB_BadDeal => k_is)
    (case sa_BadDeal => k_is)
    (case fno_BadDeal => k_is)
    (case aC_BadNumber => k_is)
    (case hd_BadNumber => k_is)
    (case ga_BadNumber => k_is)
    (case gg_BadNumber => k_is)
    (case sb_BadNumber => k_is)
    (case ha_BadNumber => k_is)
    (case hm_BadNumber => k_is)
    (case kc_BadNumber => k_is)
    (case a_BadNumber_init => k_is)
    (case ti_BadNumber_init => k_is)
    (case l_BadNumber_init => k_is)
    (case c_BadNumber_init => k_is)
    (case lc_BadNumber => k_is)
    (case hv_BadNumber => rfl)
    (case hf_BadNumber => first | rfl | decide +kernel | kernel_rfl)
    (case lcc_BadNumber => k_is)
    (case hC_BadNumber => k_is)
    (case hr_BadNumber => first | rfl | decide +kernel)
    (case hh_BadNumber => rfl)
    (case hi_BadNumber => first | k_is | k_exc | kernel_rfl)
    (case su_BadNumber => k_is)
    (case sm_BadNumber => ks_is)
    (case sB_BadNumber => k_is)
    (case sa_BadNumber => k_is)
    (case fno_BadNumber => k_is)
    (case aC_BadCourse => k_is)
    (case hd_BadCourse => k_is)
    (case ga_BadCourse => k_is)
    (case gg_BadCourse => k_is)
    (case sb_BadCourse => k_is)
    (case ha_BadCourse => k_is)
    (case hm_BadCourse => k_is)
    (case kc_BadCourse => k_is)
    (case qx_BadCourse => k_exc)
    (case st_BadCourse => k_is)
    (case aC_BadRule => k_is)
    (case hd_BadRule => k_is)
    (case ga_BadRule => k_is)
    (case gg_BadRule => k_is)
    (case sb_BadRule => k_is)
    (case ha_BadRule => k_is)
    (case hm_BadRule => k_is)
    (case kc_BadRule => k_is)
    (case a_BadRule_init => k_is)
    (case ti_BadRule_init => k_is)
    (case l_BadRule_init => k_is)
    (case c_BadRule_init => k_is)
    (case lc_BadRule => k_is)
    (case hv_BadRule => rfl)
    (case hf_BadRule => first | rfl | decide +kernel | kernel_rfl)
    (case lcc_BadRule => k_is)
    (case hC_BadRule => k_is)
    (case hr_BadRule => first | rfl | decide +kernel)
    (case hh_BadRule => rfl)
    (case hi_BadRule => first | k_is | k_exc | kernel_rfl)
    (case su_BadRule => k_is)
    (case sm_BadRule => ks_is)
    (case sB_BadRule => k_is)
    (case sa_BadRule => k_is)
    (case fno_BadRule => k_is)
    (case aC_NotNow => k_is)
    (case hd_NotNow => k_is)
    (case ga_NotNow => k_is)
    (case gg_NotNow => k_is)
    (case sb_NotNow => k_is)
    (case ha_NotNow => k_is)
    (case hm_NotNow => k_is)
    (case kc_NotNow => k_is)
    (case a_NotNow_init => k_is)
    (case ti_NotNow_init => k_is)
    (case l_NotNow_init => k_is)
    (case c_NotNow_init => k_is)
    (case lc_NotNow => k_is)
    (case hv_NotNow => rfl)
    (case hf_NotNow => first | rfl | decide +kernel | kernel_rfl)
    (case lcc_NotNow => k_is)
    (case hC_NotNow => k_is)
    (case hr_NotNow => first | rfl | decide +kernel)
    (case hh_NotNow => rfl)
    (case hi_NotNow => first | k_is | k_exc | kernel_rfl)
    (case su_NotNow => k_is)
    (case sm_NotNow => ks_is)
    (case sB_NotNow => k_is)
    (case sa_NotNow => k_is)
    (case fno_NotNow => k_is)
    (case aC_NothingDone => k_is)
    (case hd_NothingDone => k_is)
    (case ga_NothingDone => k_is)
    (case gg_NothingDone => k_is)
    (case sb_NothingDone => k_is)
    (case ha_NothingDone => k_is)
    (case hm_NothingDone => k_is)
    (case kc_NothingDone => k_is)
    (case qx_NothingDone => k_exc)
    (case st_NothingDone => k_is)
    (case aC_BadJournal => k_is)
    (case hd_BadJournal => k_is)
    (case ga_BadJournal => k_is)
    (case gg_BadJournal => k_is)
    (case sb_BadJournal => k_is)
    (case ha_BadJournal => k_is)
    (case hm_BadJournal => k_is)
    (case kc_BadJournal => k_is)
    (case a_BadJournal_init => k_is)
    (case ti_BadJournal_init => k_is)
    (case l_BadJournal_init => k_is)
    (case c_BadJournal_init => k_is)
    (case lc_BadJournal => k_is)
    (case hv_BadJournal => rfl)
    (case hf_BadJournal => first | rfl | decide +kernel | kernel_rfl)
    (case lcc_BadJournal => k_is)
    (case hC_BadJournal => k_is)
    (case hr_BadJournal => first | rfl | decide +kernel)
    (case hh_BadJournal => rfl)
    (case hi_BadJournal => first | k_is | k_exc | kernel_rfl)
    (case su_BadJournal => k_is)
    (case sm_BadJournal => ks_is)
    (case sB_BadJournal => k_is)
    (case sa_BadJournal => k_is)
    (case fno_BadJournal => k_is)
    (case aC_BadText => k_is)
    (case hd_BadText => k_is)
    (case ga_BadText => k_is)
    (case gg_BadText => k_is)
    (case sb_BadText => k_is)
    (case ha_BadText => k_is)
    (case hm_BadText => k_is)
    (case kc_BadText => k_is)
    (case a_BadText_init => k_is)
    (case ti_BadText_init => k_is)
    (case l_BadText_init => k_is)
    (case c_BadText_init => k_is)
    (case lc_BadText => k_is)
    (case hv_BadText => rfl)
    (case hf_BadText => first | rfl | decide +kernel | kernel_rfl)
    (case lcc_BadText => k_is)
    (case hC_BadText => k_is)
    (case hr_BadText => first | rfl | decide +kernel)
    (case hh_BadText => rfl)
    (case hi_BadText => first | k_is | k_exc | kernel_rfl)
    (case su_BadText => k_is)
    (case sm_BadText => ks_is)
    (case sB_BadText => k_is)
    (case sa_BadText => k_is)
    (case fno_BadText => k_is)
    (case hn => k_is)
    (case ht => k_is)
    (case ki_BadCourse_0 => kit_is)
    (case ki_BadCourse_1 => kit_is)
    (case ki_BadCourse_2 => kit_is)
    (case ki_BadCourse_3 => kit_is)
    (case ki_BadCourse_4 => kit_is)
    (case ki_BadCourse_5 => kit_is)
    (case ki_BadCourse_6 => kit_is)
    (case ki_BadCourse_7 => kit_is)
    (case ki_BadCourse_8 => kit_is)
    (case ki_BadCourse_10 => kit_is)
    (case ki_BadCourse_11 => kit_is)
    (case ki_BadCourse_12 => kit_is)
    (case ki_BadCourse_13 => kit_is)
    (case ki_BadCourse_14 => kit_is)
    (case ki_BadDeal_0 => kit_is)
    (case ki_BadDeal_1 => kit_is)
    (case ki_BadDeal_2 => kit_is)
    (case ki_BadDeal_3 => kit_is)
    (case ki_BadDeal_4 => kit_is)
    (case ki_BadDeal_5 => kit_is)
    (case ki_BadDeal_6 => kit_is)
    (case ki_BadDeal_8 => kit_is)
    (case ki_BadDeal_9 => kit_is)
    (case ki_BadDeal_10 => kit_is)
    (case ki_BadDeal_11 => kit_is)
    (case ki_BadDeal_12 => kit_is)
    (case ki_BadDeal_13 => kit_is)
    (case ki_BadDeal_14 => kit_is)
    (case ki_BadJournal_0 => kit_is)
    (case ki_BadJournal_1 => kit_is)
    (case ki_BadJournal_2 => kit_is)
    (case ki_BadJournal_3 => kit_is)
    (case ki_BadJournal_4 => kit_is)
    (case ki_BadJournal_5 => kit_is)
    (case ki_BadJournal_6 => kit_is)
    (case ki_BadJournal_7 => kit_is)
    (case ki_BadJournal_8 => kit_is)
    (case ki_BadJournal_9 => kit_is)
    (case ki_BadJournal_10 => kit_is)
    (case ki_BadJournal_11 => kit_is)
    (case ki_BadJournal_12 => kit_is)
    (case ki_BadJournal_14 => kit_is)
    (case ki_BadKeepers_0 => kit_is)
    (case ki_BadKeepers_1 => kit_is)
    (case ki_BadKeepers_2 => kit_is)
    (case ki_BadKeepers_3 => kit_is)
    (case ki_BadKeepers_4 => kit_is)
    (case ki_BadKeepers_6 => kit_is)
    (case ki_BadKeepers_7 => kit_is)
    (case ki_BadKeepers_8 => kit_is)
    (case ki_BadKeepers_9 => kit_is)
    (case ki_BadKeepers_10 => kit_is)
    (case ki_BadKeepers_11 => kit_is)
    (case ki_BadKeepers_12 => kit_is)
    (case ki_BadKeepers_13 => kit_is)
    (case ki_BadKeepers_14 => kit_is)
    (case ki_BadLaying_0 => kit_is)
    (case ki_BadLaying_1 => kit_is)
    (case ki_BadLaying_2 => kit_is)
    (case ki_BadLaying_3 => kit_is)
    (case ki_BadLaying_4 => kit_is)
    (case ki_BadLaying_5 => kit_is)
    (case ki_BadLaying_7 => kit_is)
    (case ki_BadLaying_8 => kit_is)
    (case ki_BadLaying_9 => kit_is)
    (case ki_BadLaying_10 => kit_is)
    (case ki_BadLaying_11 => kit_is)
    (case ki_BadLaying_12 => kit_is)
    (case ki_BadLaying_13 => kit_is)
    (case ki_BadLaying_14 => kit_is)
    (case ki_BadLeaders_0 => kit_is)
    (case ki_BadLeaders_1 => kit_is)
    (case ki_BadLeaders_2 => kit_is)
    (case ki_BadLeaders_3 => kit_is)
    (case ki_BadLeaders_5 => kit_is)
    (case ki_BadLeaders_6 => kit_is)
    (case ki_BadLeaders_7 => kit_is)
    (case ki_BadLeaders_8 => kit_is)
    (case ki_BadLeaders_9 => kit_is)
    (case ki_BadLeaders_10 => kit_is)
    (case ki_BadLeaders_11 => kit_is)
    (case ki_BadLeaders_12 => kit_is)
    (case ki_BadLeaders_13 => kit_is)
    (case ki_BadLeaders_14 => kit_is)
    (case ki_BadNumber_0 => kit_is)
    (case ki_BadNumber_1 => kit_is)
    (case ki_BadNumber_2 => kit_is)
    (case ki_BadNumber_3 => kit_is)
    (case ki_BadNumber_4 => kit_is)
    (case ki_BadNumber_5 => kit_is)
    (case ki_BadNumber_6 => kit_is)
    (case ki_BadNumber_7 => kit_is)
    (case ki_BadNumber_9 => kit_is)
    (case ki_BadNumber_10 => kit_is)
    (case ki_BadNumber_11 => kit_is)
    (case ki_BadNumber_12 => kit_is)
    (case ki_BadNumber_13 => kit_is)
    (case ki_BadNumber_14 => kit_is)
    (case ki_BadRule_0 => kit_is)
    (case ki_BadRule_1 => kit_is)
    (case ki_BadRule_2 => kit_is)
    (case ki_BadRule_3 => kit_is)
    (case ki_BadRule_4 => kit_is)
    (case ki_BadRule_5 => kit_is)
    (case ki_BadRule_6 => kit_is)
    (case ki_BadRule_7 => kit_is)
    (case ki_BadRule_8 => kit_is)
    (case ki_BadRule_9 => kit_is)
    (case ki_BadRule_11 => kit_is)
    (case ki_BadRule_12 => kit_is)
    (case ki_BadRule_13 => kit_is)
    (case ki_BadRule_14 => kit_is)
    (case ki_BadText_0 => kit_is)
    (case ki_BadText_1 => kit_is)
    (case ki_BadText_2 => kit_is)
    (case ki_BadText_3 => kit_is)
    (case ki_BadText_4 => kit_is)
    (case ki_BadText_5 => kit_is)
    (case ki_BadText_6 => kit_is)
    (case ki_BadText_7 => kit_is)
    (case ki_BadText_8 => kit_is)
    (case ki_BadText_9 => kit_is)
    (case ki_BadText_10 => kit_is)
    (case ki_BadText_11 => kit_is)
    (case ki_BadText_12 => kit_is)
    (case ki_BadText_13 => kit_is)
    (case ki_BadWeb_0 => kit_is)
    (case ki_BadWeb_2 => kit_is)
    (case ki_BadWeb_3 => kit_is)
    (case ki_BadWeb_4 => kit_is)
    (case ki_BadWeb_5 => kit_is)
    (case ki_BadWeb_6 => kit_is)
    (case ki_BadWeb_7 => kit_is)
    (case ki_BadWeb_8 => kit_is)
    (case ki_BadWeb_9 => kit_is)
    (case ki_BadWeb_10 => kit_is)
    (case ki_BadWeb_11 => kit_is)
    (case ki_BadWeb_12 => kit_is)
    (case ki_BadWeb_13 => kit_is)
    (case ki_BadWeb_14 => kit_is)
    (case ki_LockError_1 => kit_is)
    (case ki_LockError_2 => kit_is)
    (case ki_LockError_3 => kit_is)
    (case ki_LockError_4 => kit_is)
    (case ki_LockError_5 => kit_is)
    (case ki_LockError_6 => kit_is)
    (case ki_LockError_7 => kit_is)
    (case ki_LockError_8 => kit_is)
    (case ki_LockError_9 => kit_is)
    (case ki_LockError_10 => kit_is)
    (case ki_LockError_11 => kit_is)
    (case ki_LockError_12 => kit_is)
    (case ki_LockError_13 => kit_is)
    (case ki_LockError_14 => kit_is)
    (case ki_NoHanding_0 => kit_is)
    (case ki_NoHanding_1 => kit_is)
    (case ki_NoHanding_2 => kit_is)
    (case ki_NoHanding_4 => kit_is)
    (case ki_NoHanding_5 => kit_is)
    (case ki_NoHanding_6 => kit_is)
    (case ki_NoHanding_7 => kit_is)
    (case ki_NoHanding_8 => kit_is)
    (case ki_NoHanding_9 => kit_is)
    (case ki_NoHanding_10 => kit_is)
    (case ki_NoHanding_11 => kit_is)
    (case ki_NoHanding_12 => kit_is)
    (case ki_NoHanding_13 => kit_is)
    (case ki_NoHanding_14 => kit_is)
    (case ki_NoParty_0 => kit_is)
    (case ki_NoParty_1 => kit_is)
    (case ki_NoParty_3 => kit_is)
    (case ki_NoParty_4 => kit_is)
    (case ki_NoParty_5 => kit_is)
    (case ki_NoParty_6 => kit_is)
    (case ki_NoParty_7 => kit_is)
    (case ki_NoParty_8 => kit_is)
    (case ki_NoParty_9 => kit_is)
    (case ki_NoParty_10 => kit_is)
    (case ki_NoParty_11 => kit_is)
    (case ki_NoParty_12 => kit_is)
    (case ki_NoParty_13 => kit_is)
    (case ki_NoParty_14 => kit_is)
    (case ki_NotNow_0 => kit_is)
    (case ki_NotNow_1 => kit_is)
    (case ki_NotNow_2 => kit_is)
    (case ki_NotNow_3 => kit_is)
    (case ki_NotNow_4 => kit_is)
    (case ki_NotNow_5 => kit_is)
    (case ki_NotNow_6 => kit_is)
    (case ki_NotNow_7 => kit_is)
    (case ki_NotNow_8 => kit_is)
    (case ki_NotNow_9 => kit_is)
    (case ki_NotNow_10 => kit_is)
    (case ki_NotNow_12 => kit_is)
    (case ki_NotNow_13 => kit_is)
    (case ki_NotNow_14 => kit_is)
    (case ki_NothingDone_0 => kit_is)
    (case ki_NothingDone_1 => kit_is)
    (case ki_NothingDone_2 => kit_is)
    (case ki_NothingDone_3 => kit_is)
    (case ki_NothingDone_4 => kit_is)
    (case ki_NothingDone_5 => kit_is)
    (case ki_NothingDone_6 => kit_is)
    (case ki_NothingDone_7 => kit_is)
    (case ki_NothingDone_8 => kit_is)
    (case ki_NothingDone_9 => kit_is)
    (case ki_NothingDone_10 => kit_is)
    (case ki_NothingDone_11 => kit_is)
    (case ki_NothingDone_13 => kit_is)
    (case ki_NothingDone_14 => kit_is)
    (case ki_ValueError_0 => kit_is)
    (case ki_ValueError_1 => kit_is)
    (case ki_ValueError_2 => kit_is)
    (case ki_ValueError_3 => kit_is)
    (case ki_ValueError_4 => kit_is)
    (case ki_ValueError_5 => kit_is)
    (case ki_ValueError_6 => kit_is)
    (case ki_ValueError_7 => kit_is)
    (case ki_ValueError_8 => kit_is)
    (case ki_ValueError_9 => kit_is)
    (case ki_ValueError_10 => kit_is)
    (case ki_ValueError_11 => kit_is)
    (case ki_ValueError_12 => kit_is)
    (case ki_ValueError_13 => kit_is)
    (case ki_ValueError_14 => kit_is)
    (case a_law_begin => k_is)
    (case l_law_begin => k_is)
    (case c_law_begin => k_is)
    (case k_law_begin => k_is)
    (case a_law_blend => k_is)
    (case l_law_blend => k_is)
    (case c_law_blend => k_is)
    (case k_law_blend => k_is)
    (case a_law_take => k_is)
    (case l_law_take => k_is)
    (case c_law_take => k_is)
    (case k_law_take => k_is)
    (case a_law_pick => k_is)
    (case l_law_pick => k_is)
    (case c_law_pick => k_is)
    (case k_law_pick => k_is)
    (case a_law_plain => k_is)
    (case l_law_plain => k_is)
    (case c_law_plain => k_is)
    (case k_law_plain => k_is)
    (case a_law_marks => k_is)
    (case l_law_marks => k_is)
    (case c_law_marks => k_is)
    (case k_law_marks => k_is)
    (case a_law_alone => k_is)
    (case l_law_alone => k_is)
    (case c_law_alone => k_is)
    (case k_law_alone => k_is)
    (case a_law_with_fields => k_is)
    (case l_law_with_fields => k_is)
    (case c_law_with_fields => k_is)
    (case k_law_with_fields => k_is)
    (case a_law => k_is)
    (case l_law => k_is)
    (case c_law => k_is)
    (case k_law => k_is)
    (case z_ValueError => k_is)
    (case z_abs => k_is)
    (case z_enumerate => k_is)
    (case z_int => k_is)
    (case z_isinstance => k_is)
    (case z_len => k_is)
    (case z_min => k_is)
    (case z_range => k_is)
    (case z_repr => k_is)
    (case z_str => k_is)
