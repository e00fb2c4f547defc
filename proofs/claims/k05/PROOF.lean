import PyProof.Rows.All
import HandS.ForMost
import HandS.ForExc
import HandS.IsInst
import HandS.Property
import HandS.Wide
import HandS.Flow
import HandS.Lambda
import HandS.Deep
import KE.KExcIs
import HandS.ExcField
import HandS.TupAny
import HandS.Style
import Wide.All
import OpenK.AllK
import Wide.FinOn
import KE.KSuper
import KE.KExcSuper
import HandS.Exc
import HandS.ExcInit
import KE.KExcStr
import HandS.ExcValue
import HandS.Iter
import KE.RegKIsAll
import KE.SortData
import HandS.DictComp
import HandS.DictTup
import HandS.TupLen
import HandS.WordsDict
import HandS.Star
import HandS.Flt
import KE.DataMinMax
import HandS.Text
import PyProof.StrLawsJoin
import PyProof.ReprLen
import PySem.Challenge.RW_handlocks_k05_rings_told
set_option Elab.async false
set_option linter.all false
set_option maxRecDepth 100000
/-! VL1: plain data, what stands for it in the abstract heap, slots with ownership, the readings of expressions. -/
namespace VL
open PySem PySem.Spec PyProof.Rows L2

/-- plain data -/
inductive D where
  | non | bl (b : Bool) | int (i : Int) | str (x : Str)
  | tup (l : List D) | lst (l : List D)
  | dK (l : List (Key × D)) | dT (l : List (List Key × D))
  | ins (c : Nat) (fs : List (Str × D))
  | exc (c : Nat) (fs : List (Str × D)) | exs (c : Nat) (x : Str)
  | drw (great : List Int) (rest : Int) (cells : List Int) (turn : Int)
  | scr (ns : List Int)
  deriving Inhabited

/-- how a slot holds its datum: frozen for good, owned, owned by the caller and lent for change, lent to be read -/
inductive Fl where | fz | ow | pn | lk
  deriving DecidableEq
/-- how a value comes: frozen, a new owned object, read off an owned slot -/
inductive Kd where | fz | ow | br
  deriving DecidableEq
abbrev St := L2.St
abbrev Slot := Option (D × Fl)
abbrev Env := List Slot

inductive Res (α : Type) where
  | ok (a : α)
  | err (c : Nat) (d : D) (ρ : Env)
  | bad
def Res.bind {α β : Type} (x : Res α) (f : α → Res β) : Res β := match x with
  | .ok a => f a
  | .err c d ρ => .err c d ρ
  | .bad => .bad
instance : Monad Res where
  pure := Res.ok
  bind := Res.bind
@[simp] theorem Res.bind_ok {α β : Type} (a : α) (f : α → Res β) : (Res.ok a >>= f) = f a := rfl
@[simp] theorem Res.bind_bad {α β : Type} (f : α → Res β) : ((Res.bad : Res α) >>= f) = Res.bad := rfl
@[simp] theorem Res.bind_err {α β : Type} (c : Nat) (d : D) (ρ : Env) (f : α → Res β) : ((Res.err c d ρ : Res α) >>= f) = Res.err c d ρ := rfl
@[simp] theorem Res.pure_ok {α : Type} (a : α) : (pure a : Res α) = Res.ok a := rfl

/-- the law's own context: the written part, the classes by number, the tables of code objects -/
structure Gm where
  K : PySem.W.Frag
  cm : Nat → Option Addr
  T : List (Addr × Str)

def atomD : V → Option D
  | .non => some .non
  | .bl b => some (.bl b)
  | .int i => some (.int i)
  | .str x => some (.str x)
  | _ => none

/-- the tuple at a is a part of the written text -/
def KTup (K : PySem.W.Frag) (a : Addr) (xs : List V) : Prop :=
  ∃ (o : Obj) (its : Array Value) (n : Nat), K.lookup a = some o ∧ o.cls = .type "tuple" ∧ o.data = .seq its n ∧ its.size ≤ sizeLine ∧ Vals xs its.toList

/-- .. a list of ints, as the law's script may be -/
def KLst (K : PySem.W.Frag) (a : Addr) (xs : List V) : Prop :=
  ∃ (o : Obj) (its : Array Value) (n : Nat), K.lookup a = some o ∧ o.cls = .type "list" ∧ o.dict = none ∧ o.data = .seq its n ∧ its.size ≤ sizeLine ∧ Vals xs its.toList

/-- an exception's object of the class at C, its dict at dx -/
def exv (a C dx : Addr) : HO := .ext fun h => ∃ (oe : Obj) (vs : Array Value), h.get? a = some oe ∧ Zc (.ref C) (some dx) oe ∧ oe.data = .fields vs
/-- one without a dict, its arguments in the tuple at ta -/
def exw (a C ta : Addr) : HO := .ext fun h => ∃ (oe : Obj) (vs : Array Value), h.get? a = some oe ∧ Zc (.ref C) none oe ∧ oe.data = .fields vs ∧ vs[0]? = some (.ref ta)
/-- values that stand for data, within the frozen region F -/
inductive Rep (G : Gm) (F : Addr → Prop) (H : Hp) : List V → List D → Prop
  | nil : Rep G F H [] []
  | atom {v d vs ds} : atomD v = some d → Rep G F H vs ds → Rep G F H (v :: vs) (d :: ds)
  | tup {a ws es vs ds} : F a → H a = some (.tup ws) → ws.length ≤ sizeLine → Rep G F H ws es → Rep G F H vs ds → Rep G F H (.ref a :: vs) (.tup es :: ds)
  | lst {a ws es vs ds} : F a → H a = some (.lst ws) → ws.length ≤ sizeLine → Rep G F H ws es → Rep G F H vs ds → Rep G F H (.ref a :: vs) (.lst es :: ds)
  | scr {a o ns vs ds} : F a → H a = some (.frz o (.lst (ns.map V.int))) → ns.length ≤ sizeLine → Rep G F H vs ds → Rep G F H (.ref a :: vs) (.scr ns :: ds)
  | scrK {a ns vs ds} : KLst G.K a (ns.map V.int) → ns.length ≤ sizeLine → Rep G F H vs ds → Rep G F H (.ref a :: vs) (.scr ns :: ds)
  | dK {a} {ws : List (Key × V)} {es : List (Key × D)} {vs ds} : F a → H a = some (.dK ws) → ws.length ≤ sizeLine → ws.map (·.1) = es.map (·.1) → Rep G F H (ws.map (·.2)) (es.map (·.2)) → Rep G F H vs ds → Rep G F H (.ref a :: vs) (.dK es :: ds)
  | dT {a} {ws : List (List Key × V)} {es : List (List Key × D)} {vs ds} : F a → H a = some (.dT ws) → ws.length ≤ sizeLine → ws.map (·.1) = es.map (·.1) → Rep G F H (ws.map (·.2)) (es.map (·.2)) → Rep G F H vs ds → Rep G F H (.ref a :: vs) (.dT es :: ds)
  | ins {a C dx c} {ws : List (Str × V)} {es : List (Str × D)} {vs ds} : F a → H a = some (.ins C dx ws) → G.cm c = some C → ws.map (·.1) = es.map (·.1) → Rep G F H (ws.map (·.2)) (es.map (·.2)) → Rep G F H vs ds → Rep G F H (.ref a :: vs) (.ins c es :: ds)
  | exc {a C dx c} {ws : List (Str × V)} {es : List (Str × D)} {vs ds} : F a → H a = some (exv a C dx) → F dx → H dx = some (.xd ws) → G.cm c = some C → ws.map (·.1) = es.map (·.1) → Rep G F H (ws.map (·.2)) (es.map (·.2)) → Rep G F H vs ds → Rep G F H (.ref a :: vs) (.exc c es :: ds)
  | exs {a C ta c x vs ds} : F a → H a = some (exw a C ta) → F ta → H ta = some (.tup [.str x]) → G.cm c = some C → Rep G F H vs ds → Rep G F H (.ref a :: vs) (.exs c x :: ds)

/-- one object that may be changed, by its datum; its parts are frozen -/
def Objs (G : Gm) (F : Addr → Prop) (H : Hp) (a : Addr) : D → Prop
  | .lst es => ∃ ws, H a = some (.lst ws) ∧ ws.length ≤ sizeLine ∧ Rep G F H ws es
  | .dK es => ∃ ws : List (Key × V), H a = some (.dK ws) ∧ ws.length ≤ sizeLine ∧ ws.map (·.1) = es.map (·.1) ∧ Rep G F H (ws.map (·.2)) (es.map (·.2))
  | .dT es => ∃ ws : List (List Key × V), H a = some (.dT ws) ∧ ws.length ≤ sizeLine ∧ ws.map (·.1) = es.map (·.1) ∧ Rep G F H (ws.map (·.2)) (es.map (·.2))
  | .ins c es => ∃ (C dx : Addr) (ws : List (Str × V)), H a = some (.ins C dx ws) ∧ G.cm c = some C ∧ ws.map (·.1) = es.map (·.1) ∧ Rep G F H (ws.map (·.2)) (es.map (·.2))
  | _ => False

def kw (x : Str) : Key := Sum.inr x
/-- the state of the draws -/
def DrwAt (H : Hp) (a g c : Addr) (gr : List Int) (r : Int) (ce : List Int) (t : Int) : Prop :=
  H a = some (.dK [(kw "great", .ref g), (kw "rest", .int r), (kw "cells", .ref c), (kw "turn", .int t)]) ∧ H g = some (.lst (gr.map V.int)) ∧ H c = some (.lst (ce.map V.int)) ∧ a ≠ g

/-- a value, its datum, the addresses that it owns -/
inductive Own (G : Gm) (F : Addr → Prop) (H : Hp) : V → D → List Addr → Prop
  | fz {v d} : Rep G F H [v] [d] → Own G F H v d []
  | ow {a d} : ¬ F a → Objs G F H a d → Own G F H (.ref a) d [a]
  | drw {a g c gr r ce t} : ¬ F a → ¬ F g → F c → gr.length ≤ sizeLine → ce.length ≤ sizeLine → DrwAt H a g c gr r ce t → Own G F H (.ref a) (.drw gr r ce t) [a, g]

/-- o: what the owned slots own, p: what the lent ones own, b: what is lent to be read -/
inductive Slots (G : Gm) (F : Addr → Prop) (H : Hp) : Env → St → List Addr → List Addr → List Addr → Prop
  | nil : Slots G F H [] [] [] [] []
  | none {x ρ σ o p b} : Slots G F H ρ σ o p b → Slots G F H (none :: ρ) (x :: σ) o p b
  | fz {v d ρ σ o p b} : Rep G F H [v] [d] → Slots G F H ρ σ o p b → Slots G F H (some (d, .fz) :: ρ) (some v :: σ) o p b
  | ow {v d fp ρ σ o p b} : Own G F H v d fp → fp ≠ [] → Slots G F H ρ σ o p b → Slots G F H (some (d, .ow) :: ρ) (some v :: σ) (fp ++ o) p b
  | pn {v d fp ρ σ o p b} : Own G F H v d fp → fp ≠ [] → Slots G F H ρ σ o p b → Slots G F H (some (d, .pn) :: ρ) (some v :: σ) o (fp ++ p) b
  | lk {v d fp ρ σ o p b} : Own G F H v d fp → Slots G F H ρ σ o p b → Slots G F H (some (d, .lk) :: ρ) (some v :: σ) o p (fp ++ b)

/-! ### how these carry over -/
def isTbl : HO → Bool
  | .tbl _ => true
  | _ => false
/-- all tracked objects outside m are kept -/
def Kept (m : List Addr) (H H' : Hp) : Prop := ∀ a o, H a = some o → a ∉ m → isTbl o = false → H' a = some o
theorem Kept.refl {m H} : Kept m H H := fun _ _ h _ _ => h
theorem Kept.trans {m m' H H1 H2} (a : Kept m H H1) (b : Kept m' H1 H2) (hm : ∀ x, x ∈ m' → x ∈ m ∨ H x = none) : Kept m H H2 := fun x o h n t => by
  refine b x o (a x o h n t) (fun z => ?_) t
  rcases hm x z with q | q
  · exact n q
  · rw [h] at q; cases q
theorem Kept.mono {m m' H H'} (a : Kept m H H') (hm : ∀ x, x ∈ m → x ∈ m') : Kept m' H H' := fun x o h n t => a x o h (fun z => n (hm x z)) t
/-- what a region's objects are, all else being free -/
def KeptF (F : Addr → Prop) (H H' : Hp) : Prop := ∀ a o, F a → H a = some o → isTbl o = false → H' a = some o
theorem KeptF.refl {F H} : KeptF F H H := fun _ _ _ h _ => h
theorem KeptF.trans {F F' H H1 H2} (a : KeptF F H H1) (b : KeptF F' H1 H2) (hf : ∀ x, F x → F' x) : KeptF F H H2 := fun x o f h t => b x o (hf x f) (a x o f h t) t
theorem Rep.keep {G F F' H H' vs ds} (h : Rep G F H vs ds) (hf : ∀ a, F a → F' a) (hk : KeptF F H H') : Rep G F' H' vs ds := by
  induction h with
  | nil => exact .nil
  | atom e _ ih => exact .atom e ih
  | tup f e z _ _ ih1 ih2 => exact .tup (hf _ f) (hk _ _ f e rfl) z ih1 ih2
  | lst f e z _ _ ih1 ih2 => exact .lst (hf _ f) (hk _ _ f e rfl) z ih1 ih2
  | scr f e z _ ih2 => exact .scr (hf _ f) (hk _ _ f e rfl) z ih2
  | scrK f z _ ih2 => exact .scrK f z ih2
  | dK f e z k _ _ ih1 ih2 => exact .dK (hf _ f) (hk _ _ f e rfl) z k ih1 ih2
  | dT f e z k _ _ ih1 ih2 => exact .dT (hf _ f) (hk _ _ f e rfl) z k ih1 ih2
  | ins f e c k _ _ ih1 ih2 => exact .ins (hf _ f) (hk _ _ f e rfl) c k ih1 ih2
  | exc f e f2 e2 c k _ _ ih1 ih2 => exact .exc (hf _ f) (hk _ _ f e rfl) (hf _ f2) (hk _ _ f2 e2 rfl) c k ih1 ih2
  | exs f e f2 e2 c _ ih => exact .exs (hf _ f) (hk _ _ f e rfl) (hf _ f2) (hk _ _ f2 e2 rfl) c ih
theorem Rep.length {G F H vs ds} (h : Rep G F H vs ds) : vs.length = ds.length := by
  induction h with
  | nil => rfl
  | atom _ _ ih => simp [ih]
  | tup _ _ _ _ _ _ ih => simp [ih]
  | lst _ _ _ _ _ _ ih => simp [ih]
  | scr _ _ _ _ ih => simp [ih]
  | scrK _ _ _ ih => simp [ih]
  | dK _ _ _ _ _ _ _ ih => simp [ih]
  | dT _ _ _ _ _ _ _ ih => simp [ih]
  | ins _ _ _ _ _ _ _ ih => simp [ih]
  | exc _ _ _ _ _ _ _ _ _ ih => simp [ih]
  | exs _ _ _ _ _ _ ih => simp [ih]
theorem Rep.cons_iff {G F H v vs d ds} : Rep G F H (v :: vs) (d :: ds) ↔ Rep G F H [v] [d] ∧ Rep G F H vs ds := by
  constructor
  · intro h
    cases h with
    | atom e r => exact ⟨.atom e .nil, r⟩
    | tup f e z r1 r2 => exact ⟨.tup f e z r1 .nil, r2⟩
    | lst f e z r1 r2 => exact ⟨.lst f e z r1 .nil, r2⟩
    | scr f e z r2 => exact ⟨.scr f e z .nil, r2⟩
    | scrK f z r2 => exact ⟨.scrK f z .nil, r2⟩
    | dK f e z k r1 r2 => exact ⟨.dK f e z k r1 .nil, r2⟩
    | dT f e z k r1 r2 => exact ⟨.dT f e z k r1 .nil, r2⟩
    | ins f e c k r1 r2 => exact ⟨.ins f e c k r1 .nil, r2⟩
    | exc f e f2 e2 c k r1 r2 => exact ⟨.exc f e f2 e2 c k r1 .nil, r2⟩
    | exs f e f2 e2 c r2 => exact ⟨.exs f e f2 e2 c .nil, r2⟩
  · rintro ⟨h, r⟩
    cases h with
    | atom e _ => exact .atom e r
    | tup f e z r1 _ => exact .tup f e z r1 r
    | lst f e z r1 _ => exact .lst f e z r1 r
    | scr f e z _ => exact .scr f e z r
    | scrK f z _ => exact .scrK f z r
    | dK f e z k r1 _ => exact .dK f e z k r1 r
    | dT f e z k r1 _ => exact .dT f e z k r1 r
    | ins f e c k r1 _ => exact .ins f e c k r1 r
    | exc f e f2 e2 c k r1 _ => exact .exc f e f2 e2 c k r1 r
    | exs f e f2 e2 c _ => exact .exs f e f2 e2 c r
theorem Rep.nil_of {G F H vs} (h : Rep G F H vs []) : vs = [] := by cases h; rfl
theorem Rep.cons_of {G F H vs d ds} (h : Rep G F H vs (d :: ds)) : ∃ v ws, vs = v :: ws ∧ Rep G F H [v] [d] ∧ Rep G F H ws ds := by
  cases vs with
  | nil => exact absurd h.length (by simp)
  | cons v ws => exact ⟨v, ws, rfl, Rep.cons_iff.mp h⟩
theorem Rep.get {G F H} : ∀ {ds : List D} {vs : List V} {i : Nat} {d : D}, Rep G F H vs ds → ds[i]? = some d → ∃ v, vs[i]? = some v ∧ Rep G F H [v] [d]
  | [], _, _, _, _, e => by simp at e
  | d :: ds, vs, 0, d', h, e => by
    obtain ⟨v, ws, rfl, r, _⟩ := h.cons_of
    simp at e; subst e
    exact ⟨v, rfl, r⟩
  | d :: ds, vs, i + 1, d', h, e => by
    obtain ⟨v, ws, rfl, _, r⟩ := h.cons_of
    obtain ⟨u, e1, r1⟩ := Rep.get (i := i) r (by simpa using e)
    exact ⟨u, by simpa using e1, r1⟩
theorem Rep.append {G F H} : ∀ {ds es : List D} {vs ws : List V}, Rep G F H vs ds → Rep G F H ws es → Rep G F H (vs ++ ws) (ds ++ es)
  | [], _, vs, _, h, r => by rw [h.nil_of]; exact r
  | d :: ds, es, vs, ws, h, r => by
    obtain ⟨v, us, rfl, r1, r2⟩ := h.cons_of
    exact Rep.cons_iff.mpr ⟨r1, Rep.append r2 r⟩
theorem Rep.take {G F H} : ∀ {ds : List D} {vs : List V} (n : Nat), Rep G F H vs ds → Rep G F H (vs.take n) (ds.take n)
  | [], vs, n, h => by rw [h.nil_of]; simp; exact .nil
  | d :: ds, vs, 0, h => by simp; exact .nil
  | d :: ds, vs, n + 1, h => by
    obtain ⟨v, us, rfl, r1, r2⟩ := h.cons_of
    exact Rep.cons_iff.mpr ⟨r1, Rep.take n r2⟩
theorem Rep.drop {G F H} : ∀ {ds : List D} {vs : List V} (n : Nat), Rep G F H vs ds → Rep G F H (vs.drop n) (ds.drop n)
  | [], vs, n, h => by rw [h.nil_of]; simp; exact .nil
  | d :: ds, vs, 0, h => by simpa using h
  | d :: ds, vs, n + 1, h => by
    obtain ⟨v, us, rfl, r1, r2⟩ := h.cons_of
    exact Rep.drop n r2
theorem Rep.snoc {G F H v d} {ds : List D} {vs : List V} (h : Rep G F H vs ds) (r : Rep G F H [v] [d]) : Rep G F H (vs ++ [v]) (ds ++ [d]) := h.append r
theorem Rep.ints {G F H} : ∀ (ns : List Int), Rep G F H (ns.map V.int) (ns.map D.int)
  | [] => .nil
  | n :: ns => .atom rfl (Rep.ints ns)
theorem Rep.int_of {G F H v i} (h : Rep G F H [v] [.int i]) : v = .int i := by
  cases h with
  | atom e _ => cases v <;> simp [atomD] at e <;> simp [e]
theorem Rep.str_of {G F H v x} (h : Rep G F H [v] [.str x]) : v = .str x := by
  cases h with
  | atom e _ => cases v <;> simp [atomD] at e <;> simp [e]
theorem Rep.bl_of {G F H v b} (h : Rep G F H [v] [.bl b]) : v = .bl b := by
  cases h with
  | atom e _ => cases v <;> simp [atomD] at e <;> simp [e]
theorem Rep.non_of {G F H v} (h : Rep G F H [v] [.non]) : v = .non := by
  cases h with
  | atom e _ => cases v <;> simp [atomD] at e <;> rfl
theorem Objs.keep {G F F' H H' a d} (h : Objs G F H a d) (hf : ∀ x, F x → F' x) (hk : KeptF F H H') (ha : ∀ o, H a = some o → isTbl o = false → H' a = some o) : Objs G F' H' a d := by
  cases d <;> first | exact h.elim | skip
  case lst es => obtain ⟨ws, e, z, r⟩ := h; exact ⟨ws, ha _ e rfl, z, r.keep hf hk⟩
  case dK es => obtain ⟨ws, e, z, k, r⟩ := h; exact ⟨ws, ha _ e rfl, z, k, r.keep hf hk⟩
  case dT es => obtain ⟨ws, e, z, k, r⟩ := h; exact ⟨ws, ha _ e rfl, z, k, r.keep hf hk⟩
  case ins c es => obtain ⟨C, dx, ws, e, z, k, r⟩ := h; exact ⟨C, dx, ws, ha _ e rfl, z, k, r.keep hf hk⟩
theorem Objs.there {G F H a d} (h : Objs G F H a d) : ∃ o, H a = some o ∧ isTbl o = false := by
  cases d <;> first | exact h.elim | skip
  case lst es => obtain ⟨ws, e, _⟩ := h; exact ⟨_, e, rfl⟩
  case dK es => obtain ⟨ws, e, _⟩ := h; exact ⟨_, e, rfl⟩
  case dT es => obtain ⟨ws, e, _⟩ := h; exact ⟨_, e, rfl⟩
  case ins c es => obtain ⟨C, dx, ws, e, _⟩ := h; exact ⟨_, e, rfl⟩
theorem Own.there {G F H v d fp} (h : Own G F H v d fp) : ∀ a ∈ fp, ¬ F a ∧ ∃ o, H a = some o ∧ isTbl o = false := by
  intro a ha
  cases h with
  | fz r => simp at ha
  | ow f ob => simp at ha; subst ha; exact ⟨f, ob.there⟩
  | drw f1 f2 f3 z1 z2 q =>
    obtain ⟨e1, e2, e3, _⟩ := q
    simp at ha
    rcases ha with rfl | rfl
    · exact ⟨f1, _, e1, rfl⟩
    · exact ⟨f2, _, e2, rfl⟩
theorem Own.keep {G F F' H H' v d fp} (h : Own G F H v d fp) (hf : ∀ x, F x → F' x) (hk : KeptF F H H') (ha : ∀ a ∈ fp, ¬ F' a ∧ ∀ o, H a = some o → isTbl o = false → H' a = some o) : Own G F' H' v d fp := by
  cases h with
  | fz r => exact .fz (r.keep hf hk)
  | ow f ob => exact .ow (ha _ (by simp)).1 (ob.keep hf hk (ha _ (by simp)).2)
  | drw f1 f2 f3 z1 z2 q =>
    obtain ⟨e1, e2, e3, n⟩ := q
    exact .drw (ha _ (by simp)).1 (ha _ (by simp)).1 (hf _ f3) z1 z2 ⟨(ha _ (by simp)).2 _ e1 rfl, (ha _ (by simp)).2 _ e2 rfl, hk _ _ f3 e3 rfl, n⟩
theorem Slots.there {G F H ρ σ o p b} (h : Slots G F H ρ σ o p b) : ∀ a, a ∈ o ∨ a ∈ p ∨ a ∈ b → ¬ F a ∧ ∃ o, H a = some o ∧ isTbl o = false := by
  induction h with
  | nil => simp
  | none _ ih => exact ih
  | fz _ _ ih => exact ih
  | ow w _ _ ih =>
    intro a ha
    simp only [List.mem_append] at ha
    rcases ha with (ha | ha) | ha | ha
    · exact w.there a ha
    · exact ih a (.inl ha)
    · exact ih a (.inr (.inl ha))
    · exact ih a (.inr (.inr ha))
  | pn w _ _ ih =>
    intro a ha
    simp only [List.mem_append] at ha
    rcases ha with ha | (ha | ha) | ha
    · exact ih a (.inl ha)
    · exact w.there a ha
    · exact ih a (.inr (.inl ha))
    · exact ih a (.inr (.inr ha))
  | lk w _ ih =>
    intro a ha
    simp only [List.mem_append] at ha
    rcases ha with ha | ha | (ha | ha)
    · exact ih a (.inl ha)
    · exact ih a (.inr (.inl ha))
    · exact w.there a ha
    · exact ih a (.inr (.inr ha))
theorem Slots.keep {G F F' H H' ρ σ o p b} (h : Slots G F H ρ σ o p b) (hf : ∀ x, F x → F' x) (hk : KeptF F H H') (ha : ∀ a, a ∈ o ∨ a ∈ p ∨ a ∈ b → ¬ F' a ∧ ∀ o, H a = some o → isTbl o = false → H' a = some o) : Slots G F' H' ρ σ o p b := by
  induction h with
  | nil => exact .nil
  | none _ ih => exact .none (ih ha)
  | fz r _ ih => exact .fz (r.keep hf hk) (ih ha)
  | ow w n _ ih =>
    refine .ow (w.keep hf hk fun a h => ha a (.inl (by simp [h]))) n (ih fun a h => ha a ?_)
    rcases h with h | h | h
    · exact .inl (by simp [h])
    · exact .inr (.inl h)
    · exact .inr (.inr h)
  | pn w n _ ih =>
    refine .pn (w.keep hf hk fun a h => ha a (.inr (.inl (by simp [h])))) n (ih fun a h => ha a ?_)
    rcases h with h | h | h
    · exact .inl h
    · exact .inr (.inl (by simp [h]))
    · exact .inr (.inr h)
  | lk w _ ih =>
    refine .lk (w.keep hf hk fun a h => ha a (.inr (.inr (by simp [h])))) (ih fun a h => ha a ?_)
    rcases h with h | h | h
    · exact .inl h
    · exact .inr (.inl h)
    · exact .inr (.inr (by simp [h]))
theorem Slots.length {G F H ρ σ o p b} (h : Slots G F H ρ σ o p b) : ρ.length = σ.length := by
  induction h <;> simp_all
/-- reading a slot -/
theorem Slots.get {G F H ρ σ o p b} (h : Slots G F H ρ σ o p b) : ∀ {i : Nat} {d : D} {fl : Fl}, ρ[i]? = some (some (d, fl)) →
    ∃ v fp, σ[i]? = some (some v) ∧ Own G F H v d fp ∧ (fl = .fz → fp = []) ∧ (fl = .ow ∨ fl = .pn → fp ≠ []) ∧ ∀ a ∈ fp, (fl = .ow ∧ a ∈ o) ∨ (fl = .pn ∧ a ∈ p) ∨ (fl = .lk ∧ a ∈ b) := by
  induction h with
  | nil => intro i d fl e; simp at e
  | none _ ih =>
    intro i d fl e
    cases i with
    | zero => simp at e
    | succ i => exact ih (by simpa using e)
  | fz r _ ih =>
    intro i d fl e
    cases i with
    | zero =>
      simp at e; obtain ⟨rfl, rfl⟩ := e
      exact ⟨_, [], rfl, .fz r, fun _ => rfl, by simp, by simp⟩
    | succ i => exact ih (by simpa using e)
  | ow w n _ ih =>
    intro i d fl e
    cases i with
    | zero =>
      simp at e; obtain ⟨rfl, rfl⟩ := e
      exact ⟨_, _, rfl, w, fun z => by simp at z, fun _ => n, fun a ha => .inl ⟨rfl, by simp [ha]⟩⟩
    | succ i =>
      obtain ⟨v, fp, e1, w1, f1, g1, m1⟩ := ih (i := i) (d := d) (fl := fl) (by simpa using e)
      refine ⟨v, fp, by simpa using e1, w1, f1, g1, fun a ha => ?_⟩
      rcases m1 a ha with q | q | q
      · exact .inl ⟨q.1, by simp [q.2]⟩
      · exact .inr (.inl q)
      · exact .inr (.inr q)
  | pn w n _ ih =>
    intro i d fl e
    cases i with
    | zero =>
      simp at e; obtain ⟨rfl, rfl⟩ := e
      exact ⟨_, _, rfl, w, fun z => by simp at z, fun _ => n, fun a ha => .inr (.inl ⟨rfl, by simp [ha]⟩)⟩
    | succ i =>
      obtain ⟨v, fp, e1, w1, f1, g1, m1⟩ := ih (i := i) (d := d) (fl := fl) (by simpa using e)
      refine ⟨v, fp, by simpa using e1, w1, f1, g1, fun a ha => ?_⟩
      rcases m1 a ha with q | q | q
      · exact .inl q
      · exact .inr (.inl ⟨q.1, by simp [q.2]⟩)
      · exact .inr (.inr q)
  | lk w _ ih =>
    intro i d fl e
    cases i with
    | zero =>
      simp at e; obtain ⟨rfl, rfl⟩ := e
      exact ⟨_, _, rfl, w, fun z => by simp at z, by simp, fun a ha => .inr (.inr ⟨rfl, by simp [ha]⟩)⟩
    | succ i =>
      obtain ⟨v, fp, e1, w1, f1, g1, m1⟩ := ih (i := i) (d := d) (fl := fl) (by simpa using e)
      refine ⟨v, fp, by simpa using e1, w1, f1, g1, fun a ha => ?_⟩
      rcases m1 a ha with q | q | q
      · exact .inl q
      · exact .inr (.inl q)
      · exact .inr (.inr ⟨q.1, by simp [q.2]⟩)
end VL
/-! VL2: states, readings of expressions, their rules. -/
namespace VL
open PySem PySem.Spec PyProof.Rows L2

/-- a state -/
structure Stt where
  F : Addr → Prop
  rho : Env
  sg : St
  H : Hp
  o : List Addr
  p : List Addr
  b : List Addr
def DomF (F : Addr → Prop) (H : Hp) : Prop := ∀ a, F a → ∃ o, H a = some o ∧ isTbl o = false
structure SInv (G : Gm) (x : Stt) : Prop where
  sl : Slots G x.F x.H x.rho x.sg x.o x.p x.b
  nd : (x.o ++ (x.p ++ x.b)).Nodup
  dom : DomF x.F x.H
  tb : LamX.Tabs G.T x.H
/-- what an expression may do -/
structure Ext (still : Bool) (x y : Stt) : Prop where
  sg : y.sg = x.sg
  kp : Kept (x.o ++ x.p) x.H y.H
  f1 : ∀ a, x.F a → y.F a
  f2 : ∀ a, y.F a → x.F a ∨ x.H a = none
  o1 : ∀ a ∈ y.o, a ∈ x.o ∨ x.H a = none
  p1 : y.p = x.p
  b1 : y.b = x.b
  dm : ∀ a, y.H a = none → x.H a = none
  lk : ∀ (j : Nat) (d : D) (fl : Fl), x.rho[j]? = some (some (d, fl)) → fl = Fl.lk ∨ fl = Fl.pn → ∃ d', y.rho[j]? = some (some (d', fl)) ∧ (fl = Fl.lk → d' = d)
  st : still = true → y.rho = x.rho ∧ Kept [] x.H y.H ∧ y.o = x.o
theorem Ext.refl {b x} : Ext b x x := ⟨rfl, .refl, fun _ h => h, fun _ h => .inl h, fun _ h => .inl h, rfl, rfl, fun _ h => h, fun _ d _ e _ => ⟨d, e, fun _ => rfl⟩, fun _ => ⟨rfl, .refl, rfl⟩⟩
theorem SInv.there {G x} (h : SInv G x) {a : Addr} (ha : a ∈ x.o ∨ a ∈ x.p ∨ a ∈ x.b) : ¬ x.F a ∧ ∃ o, x.H a = some o ∧ isTbl o = false := h.sl.there a ha
theorem SInv.keptF {G x} (h : SInv G x) {m : List Addr} {H' : Hp} (hm : ∀ a ∈ m, a ∈ x.o ∨ a ∈ x.p ∨ a ∈ x.b) (k : Kept m x.H H') : KeptF x.F x.H H' := fun a o f e t => k a o e (fun z => (h.there (hm a z)).1 f) t
theorem Ext.keptF {G b x y} (h : SInv G x) (e : Ext b x y) : KeptF x.F x.H y.H := h.keptF (fun a ha => by
  rcases List.mem_append.mp ha with q | q
  · exact .inl q
  · exact .inr (.inl q)) e.kp
theorem none_of_kept {m H H'} (k : Kept m H H') {a : Addr} (hm : a ∉ m) (h : H' a = none) (ht : ∀ o, H a = some o → isTbl o = false) : H a = none := by
  cases q : H a with
  | none => rfl
  | some o => rw [k a o q hm (ht o q)] at h; cases h
/-- tables are told apart from what is free -/
theorem Ext.free {G b x y} (h : SInv G x) (hy : SInv G y) (e : Ext b x y) {a : Addr} (q : y.F a ∨ a ∈ y.o) (n : ¬ x.F a) (n2 : a ∉ x.o) : x.H a = none := by
  rcases q with q | q
  · exact (e.f2 a q).resolve_left n
  · exact (e.o1 a q).resolve_left n2
theorem Ext.trans {G b c x y z} (hx : SInv G x) (hy : SInv G y) (e : Ext b x y) (f : Ext c y z) : Ext (b && c) x z where
  sg := f.sg.trans e.sg
  kp := e.kp.trans f.kp fun a ha => by
    rcases List.mem_append.mp ha with q | q
    · rcases e.o1 a q with q | q
      · exact .inl (List.mem_append_left _ q)
      · exact .inr q
    · rw [e.p1] at q; exact .inl (List.mem_append_right _ q)
  f1 := fun a h => f.f1 a (e.f1 a h)
  f2 := fun a h => by
    rcases f.f2 a h with q | q
    · exact e.f2 a q
    · exact .inr (e.dm a q)
  o1 := fun a h => by
    rcases f.o1 a h with q | q
    · exact e.o1 a q
    · exact .inr (e.dm a q)
  p1 := f.p1.trans e.p1
  b1 := f.b1.trans e.b1
  dm := fun a h => e.dm a (f.dm a h)
  lk := fun j d fl e1 hf => by
    obtain ⟨d1, e2, k2⟩ := e.lk j d fl e1 hf
    obtain ⟨d2, e3, k3⟩ := f.lk j d1 fl e2 hf
    exact ⟨d2, e3, fun h => (k3 h).trans (k2 h)⟩
  st := fun h => by
    simp only [Bool.and_eq_true] at h
    obtain ⟨r1, k1, o1⟩ := e.st h.1
    obtain ⟨r2, k2, o2⟩ := f.st h.2
    exact ⟨r2.trans r1, k1.trans k2 (by simp), o2.trans o1⟩

def KdOk (x y : Stt) (k : Kd) (fv : List Addr) : Prop := match k with
  | .fz => fv = []
  | .ow => fv ≠ [] ∧ ∀ a ∈ fv, x.H a = none ∧ a ∉ y.o ∧ a ∉ y.p ∧ a ∉ y.b
  | .br => ∀ a ∈ fv, a ∈ y.o ∨ a ∈ y.p ∨ a ∈ y.b
/-- what is lent is just what a slot holds -/
def Src (y : Stt) (v : V) (d : D) (k : Kd) : Prop := k = .br → ∃ (j : Nat) (fl : Fl), y.rho[j]? = some (some (d, fl)) ∧ y.sg[j]? = some (some v) ∧ fl ≠ .fz
theorem Src.fz {y v d} : Src y v d .fz := fun h => by cases h
theorem Src.ow {y v d} : Src y v d .ow := fun h => by cases h
theorem Src.ne {y v d k} (h : k ≠ .br) : Src y v d k := fun e => absurd e h
structure EPost (G : Gm) (still : Bool) (x y : Stt) (v : V) (d : D) (k : Kd) (fv : List Addr) : Prop where
  inv : SInv G y
  ext : Ext still x y
  own : Own G y.F y.H v d fv
  kd : KdOk x y k fv
  src : Src y v d k
/-- an exception, by its class's number and what it bears -/
def ErrV (G : Gm) (y : Stt) (cls : Value) (dx : Option Addr) (c : Nat) (d : D) : Prop :=
  ∃ C, G.cm c = some C ∧ cls = Value.ref C ∧ ((dx = none ∧ d = .non) ∨ ∃ (a : Addr) (f : Str) (v : V) (d' : D), dx = some a ∧ y.H a = some (.xd [(f, v)]) ∧ d = .tup [.str f, d'] ∧ Rep G y.F y.H [v] [d'])

abbrev EE := Env → Res (D × Kd × Env)
abbrev AE := Env → Res (List (D × Kd) × Env)
def tS (G : Gm) (W : WX) (still : Bool) (f : EE) : TE := fun σ H Q => ∃ x : Stt, x.sg = σ ∧ x.H = H ∧ SInv G x ∧
  match f x.rho with
  | .ok (d, k, ρ') => ∀ y v fv, y.rho = ρ' → EPost G still x y v d k fv → Q v y.H
  | .err c d ρ' => ∀ y cls dx, y.rho = ρ' → SInv G y → Ext still x y → ErrV G y cls dx c d → W cls dx σ y.H
  | .bad => False
inductive AOk (G : Gm) (x y : Stt) : List V → List (D × Kd) → Prop
  | nil : AOk G x y [] []
  | cons {v d k fv vs dks} : Own G y.F y.H v d fv → KdOk x y k fv → Src y v d k → AOk G x y vs dks → AOk G x y (v :: vs) ((d, k) :: dks)
def tA (G : Gm) (W : WX) (still : Bool) (f : AE) : TA := fun σ H Q => ∃ x : Stt, x.sg = σ ∧ x.H = H ∧ SInv G x ∧
  match f x.rho with
  | .ok (l, ρ') => ∀ y vs, y.rho = ρ' → SInv G y → Ext still x y → AOk G x y vs l → Q vs y.H
  | .err c d ρ' => ∀ y cls dx, y.rho = ρ' → SInv G y → Ext still x y → ErrV G y cls dx c d → W cls dx σ y.H
  | .bad => False

theorem Own.nodup {G F H v d fp} (h : Own G F H v d fp) : fp.Nodup := by
  cases h with
  | fz _ => simp
  | ow _ _ => simp
  | drw _ _ _ _ _ q => obtain ⟨_, _, _, n1⟩ := q; simp [n1]
/-- a value stays what it is while others are reckoned -/
theorem carry {G s x y z v d k fv} (hy : SInv G y) (hxy : ∀ a, y.H a = none → x.H a = none) (w : Own G y.F y.H v d fv) (kd : KdOk x y k fv) (e : Ext s y z) (hs : Src y v d k) (hk : k = .br → s = true) : Own G z.F z.H v d fv ∧ KdOk x z k fv ∧ Src z v d k := by
  have kf : KeptF y.F y.H z.H := e.keptF hy
  cases k with
  | fz =>
    obtain rfl : fv = [] := kd
    cases w with
    | fz r => exact ⟨.fz (r.keep e.f1 kf), rfl, .fz⟩
  | ow =>
    obtain ⟨n0, kd⟩ := kd
    have th := w.there
    have nn : ∀ a ∈ fv, y.H a ≠ none := fun a ha z => by
      obtain ⟨_, o, ho, _⟩ := th a ha
      rw [ho] at z; cases z
    refine ⟨w.keep e.f1 kf fun a ha => ⟨fun f => ?_, fun o ho t => ?_⟩, ⟨n0, fun a ha => ⟨(kd a ha).1, fun q => ?_, fun q => ?_, fun q => ?_⟩⟩, .ow⟩
    · rcases e.f2 a f with q | q
      · exact (th a ha).1 q
      · exact nn a ha q
    · refine e.kp a o ho (fun q => ?_) t
      rcases List.mem_append.mp q with q | q
      · exact (kd a ha).2.1 q
      · exact (kd a ha).2.2.1 q
    · rcases e.o1 a q with q | q
      · exact (kd a ha).2.1 q
      · exact nn a ha q
    · rw [e.p1] at q; exact (kd a ha).2.2.1 q
    · rw [e.b1] at q; exact (kd a ha).2.2.2 q
  | br =>
    obtain ⟨r1, k1, o1⟩ := e.st (hk rfl)
    have th := w.there
    refine ⟨w.keep e.f1 kf fun a ha => ⟨fun f => ?_, fun o ho t => k1 a o ho (by simp) t⟩, fun a ha => ?_, fun e' => by obtain ⟨j, fl, e1, e2, e3⟩ := hs e'; exact ⟨j, fl, by rw [r1]; exact e1, by rw [e.sg]; exact e2, e3⟩⟩
    · rcases e.f2 a f with q | q
      · exact (th a ha).1 q
      · obtain ⟨_, o, ho, _⟩ := th a ha
        rw [ho] at q; cases q
    · have := kd a ha
      rw [o1, e.p1, e.b1]; exact this

section
variable {X : Cx} {G : Gm} {W : WX}
theorem PE.of {e : Expr} {t u : TE} (h : PE X e t) (i : ∀ σ H Q, u σ H Q → t σ H Q) : PE X e u := ⟨fun pins s σ H Q I w => h.run pins s σ H Q I (i σ H Q w)⟩
theorem PA.of {e : List Expr} {t u : TA} (h : PA X e t) (i : ∀ σ H Q, u σ H Q → t σ H Q) : PA X e u := ⟨fun pos pins s σ H Q I w => h.run pos pins s σ H Q I (i σ H Q w)⟩
theorem PS.of {e : Stmt} {t u : TS} (h : PS X e t) (i : ∀ D σ H, u D σ H → t D σ H) : PS X e u := ⟨fun pins s σ H D I w => h.run pins s σ H D I (i D σ H w)⟩
theorem PSs.of {e : List Stmt} {t u : TS} (h : PSs X e t) (i : ∀ D σ H, u D σ H → t D σ H) : PSs X e u := ⟨fun pins s σ H D I w => h.run pins s σ H D I (i D σ H w)⟩
theorem PT.of {e : Expr} {t u : TT} (h : PT X e t) (i : ∀ σ H Q, u σ H Q → t σ H Q) : PT X e u := ⟨fun pins s σ H Q I w => h.run pins s σ H Q I (i σ H Q w)⟩

/-! ### constants and names -/
def xC (d : D) : EE := fun ρ => .ok (d, .fz, ρ)
theorem r_const {e : Expr} {v : V} {d : D} (h : PE X e (tC v)) (hd : atomD v = some d) : PE X e (tS G W true (xC d)) := PE.of h fun σ H Q ⟨x, e1, e2, hi, q⟩ => by
  subst e1 e2
  exact q x v [] rfl ⟨hi, .refl, .fz (.atom hd .nil), rfl, .fz⟩
def xV (i : Nat) : EE := fun ρ => match ρ[i]? with
  | some (some (d, .fz)) => .ok (d, .fz, ρ)
  | some (some (d, _)) => .ok (d, .br, ρ)
  | _ => .bad
theorem r_var {e : Expr} {i : Nat} (h : PE X e (tVar i)) : PE X e (tS G W true (xV i)) := PE.of h fun σ H Q ⟨x, e1, e2, hi, q⟩ => by
  subst e1 e2
  unfold xV at q
  cases hρ : x.rho[i]? with
  | none => rw [hρ] at q; exact q.elim
  | some sl =>
    cases sl with
    | none => rw [hρ] at q; exact q.elim
    | some df =>
      obtain ⟨d, fl⟩ := df
      rw [hρ] at q
      obtain ⟨v, fp, e1, w, f0, _, m⟩ := hi.sl.get hρ
      refine ⟨v, e1, ?_⟩
      cases fl with
      | fz =>
        obtain rfl := f0 rfl
        exact q x v [] rfl ⟨hi, .refl, w, rfl, .fz⟩
      | ow => exact q x v fp rfl ⟨hi, .refl, w, (fun a ha => by rcases m a ha with z | z | z <;> simp_all), fun _ => ⟨i, .ow, hρ, e1, by simp⟩⟩
      | pn => exact q x v fp rfl ⟨hi, .refl, w, (fun a ha => by rcases m a ha with z | z | z <;> simp_all), fun _ => ⟨i, .pn, hρ, e1, by simp⟩⟩
      | lk => exact q x v fp rfl ⟨hi, .refl, w, (fun a ha => by rcases m a ha with z | z | z <;> simp_all), fun _ => ⟨i, .lk, hρ, e1, by simp⟩⟩

/-! ### argument lists -/
def aN : AE := fun ρ => .ok ([], ρ)
def aC (s : Bool) (f : EE) (g : AE) : AE := fun ρ => do
  let (d, k, ρ1) ← f ρ
  if k = .br ∧ s = false then .bad else do
    let (l, ρ2) ← g ρ1
    pure ((d, k) :: l, ρ2)
theorem r_anil : PA X [] (tA G W true aN) := PA.of pa_nil fun σ H Q ⟨x, e1, e2, hi, q⟩ => by
  subst e1 e2
  exact q x [] rfl hi .refl .nil
theorem AOk.carry {s x y z vs l} (hy : SInv G y) (hxy : ∀ a, y.H a = none → x.H a = none) (e : Ext s y z) (h : AOk G x y vs l) (hk : ∀ dk ∈ l, dk.2 = Kd.br → s = true) : AOk G x z vs l := by
  induction h with
  | nil => exact .nil
  | cons w kd sr _ ih =>
    obtain ⟨w', kd', sr'⟩ := VL.carry hy hxy w kd e sr (hk _ List.mem_cons_self)
    exact .cons w' kd' sr' (ih fun dk h => hk dk (List.mem_cons_of_mem _ h))
theorem AOk.older {x x' y vs l} (h : AOk G x' y vs l) (hx : ∀ a, x'.H a = none → x.H a = none) : AOk G x y vs l := by
  induction h with
  | nil => exact .nil
  | @cons v d k fv vs dks w kd sr _ ih =>
    refine .cons w ?_ sr ih
    cases k with
    | fz => exact kd
    | ow => exact ⟨kd.1, fun a ha => ⟨hx a (kd.2 a ha).1, (kd.2 a ha).2⟩⟩
    | br => exact kd
theorem r_acons {e : Expr} {es : List Expr} {s t : Bool} {f : EE} {g : AE} (ha : PE X e (tS G W s f)) (hr : PA X es (tA G W t g)) (hs : starEach (e :: es) X.env = (false, eval e X.env) :: starEach es X.env := by rfl) : PA X (e :: es) (tA G W (s && t) (aC t f g)) := PA.of (pa_cons ha hr hs) fun σ H Q ⟨x, e1, e2, hi, q⟩ => by
  subst e1 e2
  refine ⟨x, rfl, rfl, hi, ?_⟩
  unfold aC at q
  cases h1 : f x.rho with
  | bad => simp only [h1, Res.bind_bad] at q
  | err c d ρ' =>
    simp only [h1, Res.bind_err] at q
    intro y cls dx hρ iy ey hev
    refine q y cls dx hρ iy { ey with st := fun z => ey.st (by simp only [Bool.and_eq_true] at z; exact z.1) } hev
  | ok r =>
    obtain ⟨d, k, ρ1⟩ := r
    simp only [h1, Res.bind_ok] at q
    intro y v fv hρ P
    refine ⟨y, P.ext.sg, rfl, P.inv, ?_⟩
    by_cases hb : k = .br ∧ t = false
    · rw [if_pos hb] at q; exact q.elim
    · rw [if_neg hb] at q
      rw [hρ]
      cases h2 : g ρ1 with
      | bad => simp only [h2, Res.bind_bad] at q
      | err c d' ρ' =>
        simp only [h2, Res.bind_err] at q
        intro z cls dx hz iz ez hev
        exact q z cls dx hz iz (P.ext.trans hi P.inv ez) hev
      | ok r2 =>
        obtain ⟨l, ρ2⟩ := r2
        simp only [h2, Res.bind_ok] at q
        intro z vs hz iz ez az
        have hk : k = .br → t = true := fun e => by
          cases t with
          | true => rfl
          | false => exact absurd ⟨e, rfl⟩ hb
        obtain ⟨w', kd', sr'⟩ := carry P.inv P.ext.dm P.own P.kd ez P.src hk
        exact q z (v :: vs) hz iz (P.ext.trans hi P.inv ez) (.cons w' kd' sr' (az.older P.ext.dm))
end
end VL
/-! VL3: functions on data applied to reckoned values; tests. -/
namespace VL
open PySem PySem.Spec PyProof.Rows L2

/-- what a built-in operation makes: all stays, perhaps something new -/
structure NewV (G : Gm) (F : Addr → Prop) (H : Hp) (F' : Addr → Prop) (H' : Hp) (v : V) (d : D) (k : Kd) (fv : List Addr) : Prop where
  dom : DomF F' H'
  f1 : ∀ a, F a → F' a
  f2 : ∀ a, F' a → F a ∨ H a = none
  kp : ∀ a o, H a = some o → H' a = some o
  own : Own G F' H' v d fv
  kd : match k with
    | .fz => fv = []
    | .ow => fv ≠ [] ∧ ∀ a ∈ fv, H a = none
    | .br => False
theorem NewV.dm {G F H F' H' v d k fv} (n : NewV G F H F' H' v d k fv) : ∀ a, H' a = none → H a = none := fun a h => by
  cases q : H a with
  | none => rfl
  | some o => rw [n.kp a o q] at h; cases h
theorem NewV.post {G : Gm} {y : Stt} {F' H' v d k fv} (hy : SInv G y) (n : NewV G y.F y.H F' H' v d k fv) :
    EPost G true y { y with F := F', H := H' } v d k fv where
  inv := by
    have kf : KeptF y.F y.H H' := fun a o _ e _ => n.kp a o e
    refine ⟨hy.sl.keep n.f1 kf fun a ha => ⟨fun f => ?_, fun o e _ => n.kp a o e⟩, hy.nd, n.dom, hy.tb.ext n.kp⟩
    obtain ⟨nf, o, e, _⟩ := hy.sl.there a ha
    rcases n.f2 a f with q | q
    · exact nf q
    · rw [e] at q; cases q
  ext := ⟨rfl, fun a o e _ _ => n.kp a o e, n.f1, n.f2, fun a h => .inl h, rfl, rfl, n.dm, fun _ d _ e _ => ⟨d, e, fun _ => rfl⟩, fun _ => ⟨rfl, fun a o e _ _ => n.kp a o e, rfl⟩⟩
  own := n.own
  src := .ne fun e => by subst e; exact n.kd.elim
  kd := by
    have q := n.kd
    cases k with
    | fz => exact q
    | br => exact q.elim
    | ow =>
      refine ⟨q.1, fun a ha => ⟨q.2 a ha, fun z => ?_, fun z => ?_, fun z => ?_⟩⟩
      · obtain ⟨_, o, e, _⟩ := hy.sl.there a (.inl z); rw [q.2 a ha] at e; cases e
      · obtain ⟨_, o, e, _⟩ := hy.sl.there a (.inr (.inl z)); rw [q.2 a ha] at e; cases e
      · obtain ⟨_, o, e, _⟩ := hy.sl.there a (.inr (.inr z)); rw [q.2 a ha] at e; cases e
theorem EPost.after {G : Gm} {s : Bool} {x y : Stt} {F' H' v d k fv} (hx : SInv G x) (hy : SInv G y) (e : Ext s x y) (n : NewV G y.F y.H F' H' v d k fv) :
    EPost G s x { y with F := F', H := H' } v d k fv := by
  have p := n.post hy
  refine ⟨p.inv, by have := e.trans hx hy p.ext; rwa [Bool.and_true] at this, p.own, ?_, p.src⟩
  have q := p.kd
  cases k with
  | fz => exact q
  | br => exact q
  | ow => exact ⟨q.1, fun a ha => ⟨e.dm a (q.2 a ha).1, (q.2 a ha).2⟩⟩
/-- nothing new -/
theorem NewV.same {G F H v d} (hd : DomF F H) (r : Rep G F H [v] [d]) : NewV G F H F H v d .fz [] := ⟨hd, fun _ h => h, fun _ h => .inl h, fun _ _ h => h, .fz r, rfl⟩
theorem NewV.atom {G F H v d} (hd : DomF F H) (e : atomD v = some d) : NewV G F H F H v d .fz [] := .same hd (.atom e .nil)
/-- a new list, owned -/
theorem NewV.lst {G : Gm} {F H p ws es} (hd : DomF F H) (hp : H p = none) (hz : ws.length ≤ sizeLine) (r : Rep G F H ws es) : NewV G F H F (upd H p (.lst ws)) (.ref p) (.lst es) .ow [p] := by
  have kp : ∀ a o, H a = some o → upd H p (.lst ws) a = some o := fun a o e => by rw [upd_ne (ne_of_none e hp)]; exact e
  have nf : ¬ F p := fun f => by obtain ⟨o, e, _⟩ := hd p f; rw [hp] at e; cases e
  exact ⟨fun a f => by obtain ⟨o, e, t⟩ := hd a f; exact ⟨o, kp a o e, t⟩, fun _ h => h, fun _ h => .inl h, kp, .ow nf ⟨ws, upd_same, hz, r.keep (fun _ h => h) fun a o _ e _ => kp a o e⟩, by simp, by simpa using hp⟩
theorem NewV.objs {G : Gm} {F H p d ob} (hd : DomF F H) (hp : H p = none) (r : Objs G F (upd H p ob) p d) : NewV G F H F (upd H p ob) (.ref p) d .ow [p] := by
  have kp : ∀ a o, H a = some o → upd H p ob a = some o := fun a o e => by rw [upd_ne (ne_of_none e hp)]; exact e
  have nf : ¬ F p := fun f => by obtain ⟨o, e, _⟩ := hd p f; rw [hp] at e; cases e
  exact ⟨fun a f => by obtain ⟨o, e, t⟩ := hd a f; exact ⟨o, kp a o e, t⟩, fun _ h => h, fun _ h => .inl h, kp, .ow nf r, by simp, by simpa using hp⟩
/-- a new tuple, frozen at once -/
theorem NewV.tup {G : Gm} {F H p ws es} (hd : DomF F H) (hp : H p = none) (hz : ws.length ≤ sizeLine) (r : Rep G F H ws es) : NewV G F H (fun a => F a ∨ a = p) (upd H p (.tup ws)) (.ref p) (.tup es) .fz [] := by
  have kp : ∀ a o, H a = some o → upd H p (.tup ws) a = some o := fun a o e => by rw [upd_ne (ne_of_none e hp)]; exact e
  refine ⟨fun a f => ?_, fun _ h => .inl h, fun a h => ?_, kp, .fz (.tup (.inr rfl) upd_same hz (r.keep (fun _ h => .inl h) fun a o _ e _ => kp a o e) .nil), rfl⟩
  · rcases f with f | rfl
    · obtain ⟨o, e, t⟩ := hd a f; exact ⟨o, kp a o e, t⟩
    · exact ⟨_, upd_same, rfl⟩
  · rcases h with h | rfl
    · exact .inl h
    · exact .inr hp

inductive Reads (G : Gm) (F : Addr → Prop) (H : Hp) : List V → List D → Prop
  | nil : Reads G F H [] []
  | cons {v d fp vs ds} : Own G F H v d fp → Reads G F H vs ds → Reads G F H (v :: vs) (d :: ds)
theorem AOk.reads {G x y vs l} (h : AOk G x y vs l) : Reads G y.F y.H vs (l.map (·.1)) := by
  induction h with
  | nil => exact .nil
  | cons w _ _ _ ih => exact .cons w ih

/-- an operation over values, as a function on data -/
def FnD (G : Gm) (r : List V → Hp → VK → Prop) (g : List D → Option (D × Kd)) : Prop := ∀ F H vs ds d k Q, DomF F H → Reads G F H vs ds → g ds = some (d, k) →
  (∀ F' H' v fv, NewV G F H F' H' v d k fv → Q v H') → r vs H Q
def FnD2 (G : Gm) (r : R2) (g : D → D → Option (D × Kd)) : Prop := ∀ F H v w a b fv fw d k Q, DomF F H → Own G F H v a fv → Own G F H w b fw → g a b = some (d, k) →
  (∀ F' H' u fu, NewV G F H F' H' u d k fu → Q u H') → r v w H Q
def FnD1 (G : Gm) (r : V → Hp → VK → Prop) (g : D → Option (D × Kd)) : Prop := ∀ F H v a fv d k Q, DomF F H → Own G F H v a fv → g a = some (d, k) →
  (∀ F' H' u fu, NewV G F H F' H' u d k fu → Q u H') → r v H Q
def xApp (g : List D → Option (D × Kd)) (f : AE) : EE := fun ρ => do
  let (l, ρ1) ← f ρ
  match g (l.map (·.1)) with
  | some (d, k) => pure (d, k, ρ1)
  | none => .bad
def xAp2 (s2 : Bool) (g : D → D → Option (D × Kd)) (f1 f2 : EE) : EE := fun ρ => do
  let (a, k1, ρ1) ← f1 ρ
  if k1 = .br ∧ s2 = false then .bad else do
    let (b, _, ρ2) ← f2 ρ1
    match g a b with
    | some (d, k) => pure (d, k, ρ2)
    | none => .bad
def xAp1 (g : D → Option (D × Kd)) (f : EE) : EE := fun ρ => do
  let (a, _, ρ1) ← f ρ
  match g a with
  | some (d, k) => pure (d, k, ρ1)
  | none => .bad
section
variable {X : Cx} {G : Gm} {W : WX}
theorem tS_app {t : TA} {r : List V → Hp → VK → Prop} {s : Bool} {f : AE} {g : List D → Option (D × Kd)} (hg : FnD G r g) {σ H Q} (h : tS G W s (xApp g f) σ H Q) : tA G W s f σ H fun vs H1 => r vs H1 Q := by
  obtain ⟨x, rfl, rfl, hi, q⟩ := h
  refine ⟨x, rfl, rfl, hi, ?_⟩
  unfold xApp at q
  cases h1 : f x.rho with
  | bad => simp only [h1, Res.bind_bad] at q
  | err c d ρ' => simp only [h1, Res.bind_err] at q; exact q
  | ok r1 =>
    obtain ⟨l, ρ1⟩ := r1
    simp only [h1, Res.bind_ok] at q
    intro y vs hρ iy ey ay
    cases h2 : g (l.map (·.1)) with
    | none => simp only [h2] at q
    | some dk =>
      obtain ⟨d, k⟩ := dk
      simp only [h2, Res.pure_ok] at q
      refine hg y.F y.H vs _ d k Q iy.dom ay.reads h2 fun F' H' v fv n => ?_
      exact q { y with F := F', H := H' } v fv hρ (EPost.after hi iy ey n)
theorem tS_ap2 {r : R2} {s t : Bool} {f1 f2 : EE} {g : D → D → Option (D × Kd)} (hg : FnD2 G r g) {σ H Q} (h : tS G W (s && t) (xAp2 t g f1 f2) σ H Q) : tOp r (tS G W s f1) (tS G W t f2) σ H Q := by
  obtain ⟨x, rfl, rfl, hi, q⟩ := h
  refine ⟨x, rfl, rfl, hi, ?_⟩
  unfold xAp2 at q
  cases h1 : f1 x.rho with
  | bad => simp only [h1, Res.bind_bad] at q
  | err c d ρ' =>
    simp only [h1, Res.bind_err] at q
    exact fun y cls dx hρ iy ey hev => q y cls dx hρ iy { ey with st := fun z => ey.st (by simp only [Bool.and_eq_true] at z; exact z.1) } hev
  | ok r1 =>
    obtain ⟨a, k1, ρ1⟩ := r1
    simp only [h1, Res.bind_ok] at q
    intro y v fv hρ P
    by_cases hb : k1 = .br ∧ t = false
    · rw [if_pos hb] at q; exact q.elim
    rw [if_neg hb] at q
    have hk : k1 = .br → t = true := fun e => by
      cases t with
      | true => rfl
      | false => exact absurd ⟨e, rfl⟩ hb
    refine ⟨y, P.ext.sg, rfl, P.inv, ?_⟩
    rw [hρ]
    cases h2 : f2 ρ1 with
    | bad => simp only [h2, Res.bind_bad] at q
    | err c d' ρ' =>
      simp only [h2, Res.bind_err] at q
      exact fun z cls dx hz iz ez hev => q z cls dx hz iz (P.ext.trans hi P.inv ez) hev
    | ok r2 =>
      obtain ⟨b, k2, ρ2⟩ := r2
      simp only [h2, Res.bind_ok] at q
      intro z w fw hz P2
      cases h3 : g a b with
      | none => simp only [h3] at q
      | some dk =>
        obtain ⟨d, k⟩ := dk
        simp only [h3, Res.pure_ok] at q
        obtain ⟨w', kd', _⟩ := carry P.inv P.ext.dm P.own P.kd P2.ext P.src hk
        refine hg z.F z.H v w a b _ _ d k Q P2.inv.dom w' P2.own h3 fun F' H' u fu n => ?_
        exact q { z with F := F', H := H' } u fu hz (EPost.after hi P2.inv (P.ext.trans hi P.inv P2.ext) n)
theorem tS_ap1 {r : V → Hp → VK → Prop} {s : Bool} {f : EE} {g : D → Option (D × Kd)} (hg : FnD1 G r g) {σ H Q} (h : tS G W s (xAp1 g f) σ H Q) : tUn r (tS G W s f) σ H Q := by
  obtain ⟨x, rfl, rfl, hi, q⟩ := h
  refine ⟨x, rfl, rfl, hi, ?_⟩
  unfold xAp1 at q
  cases h1 : f x.rho with
  | bad => simp only [h1, Res.bind_bad] at q
  | err c d ρ' => simp only [h1, Res.bind_err] at q; exact q
  | ok r1 =>
    obtain ⟨a, k1, ρ1⟩ := r1
    simp only [h1, Res.bind_ok] at q
    intro y v fv hρ P
    cases h3 : g a with
    | none => simp only [h3] at q
    | some dk =>
      obtain ⟨d, k⟩ := dk
      simp only [h3, Res.pure_ok] at q
      refine hg y.F y.H v a fv d k Q P.inv.dom P.own h3 fun F' H' u fu n => ?_
      exact q { y with F := F', H := H' } u fu hρ (EPost.after hi P.inv P.ext n)
theorem r_bin {op : Operator} {a b : Expr} {pos : Pos} {r : R2} {g : D → D → Option (D × Kd)} {s t : Bool} {f1 f2 : EE} (ho : OpR X (binaryOp op) r) (hg : FnD2 G r g) (ha : PE X a (tS G W s f1)) (hb : PE X b (tS G W t f2)) : PE X (.BinOp a op b pos) (tS G W (s && t) (xAp2 t g f1 f2)) :=
  PE.of (pe_op ho ha hb) fun _ _ _ h => tS_ap2 hg h
theorem r_un {op : UnaryOp} {a : Expr} {pos : Pos} {r : V → Hp → VK → Prop} {g : D → Option (D × Kd)} {s : Bool} {f : EE} (ho : UnR X (unaryOp op) r) (hg : FnD1 G r g) (ha : PE X a (tS G W s f)) : PE X (.UnaryOp op a pos) (tS G W s (xAp1 g f)) :=
  PE.of (pe_un ho ha) fun _ _ _ h => tS_ap1 hg h
theorem r_cmp {op : CmpOp} {a b : Expr} {pos : Pos} {r : R2} {g : D → D → Option (D × Kd)} {s t : Bool} {f1 f2 : EE} (ho : OpR X (compareOp op) r) (hg : FnD2 G r g) (ha : PE X a (tS G W s f1)) (hb : PE X b (tS G W t f2)) (hm : behindInMarks op b = false) : PE X (.Compare a [op] [b] pos) (tS G W (s && t) (xAp2 t g f1 f2)) :=
  PE.of (pe_cmpR ho ha hb hm) fun _ _ _ h => tS_ap2 hg h
theorem r_ix {a b : Expr} {pos : Pos} {r : R2} {g : D → D → Option (D × Kd)} {s t : Bool} {f1 f2 : EE} (ho : IxR X r) (hg : FnD2 G r g) (ha : PE X a (tS G W s f1)) (hb : PE X b (tS G W t f2)) (hs : PlainIx b) : PE X (.Subscript a b pos) (tS G W (s && t) (xAp2 t g f1 f2)) :=
  PE.of (pe_ix ho ha hb hs) fun _ _ _ h => tS_ap2 hg h
theorem r_callB {id : String} {x : Str} {p pos : Pos} {e : Expr} {es : List Expr} {r : List V → Hp → VK → Prop} {g : List D → Option (D × Kd)} {s : Bool} {f : AE} (hc : CallR X (.builtin id) r) (hg' : FnD G r g) (hg : Gl X x) (hm : X.mg x = none) (hv : bootBuiltins x = some (.builtin id)) (ha : PA X (e :: es) (tA G W s f))
    (hn : x ≠ "__name__" := by decide) (hdb : (x == ("__debug__" : Str)) = false := by decide) (he : starEach (e :: es) X.env = (false, eval e X.env) :: starEach es X.env := by rfl) (hpl : (backTo pos (starEach es X.env)).any (·.1) = false := by rfl) :
    PE X (.Call (.Name x p) (e :: es) [] pos) (tS G W s (xApp g f)) :=
  PE.of (pe_callB hc hg hm hv ha hn hdb he hpl) fun _ _ _ h => tS_app (t := tA G W s f) hg' h
theorem r_callTy {T : String} {x : Str} {p pos : Pos} {e : Expr} {es : List Expr} {r : List V → Hp → VK → Prop} {g : List D → Option (D × Kd)} {s : Bool} {f : AE} (hc : CallR X (.type T) r) (hg' : FnD G r g) (hg : Gl X x) (hm : X.mg x = none) (hv : bootBuiltins x = some (.type T)) (ha : PA X (e :: es) (tA G W s f))
    (hn : x ≠ "__name__" := by decide) (hdb : (x == ("__debug__" : Str)) = false := by decide) (he : starEach (e :: es) X.env = (false, eval e X.env) :: starEach es X.env := by rfl) (hpl : (backTo pos (starEach es X.env)).any (·.1) = false := by rfl) :
    PE X (.Call (.Name x p) (e :: es) [] pos) (tS G W s (xApp g f)) :=
  PE.of (pe_callTy hc hg hm hv ha hn hdb he hpl) fun _ _ _ h => tS_app (t := tA G W s f) hg' h
end
end VL
/-! VL4: displays, tests, and or not, conditional expressions, attributes. -/
namespace VL
open PySem PySem.Spec PyProof.Rows L2

/-- freezing what is owned by a reckoned value -/
theorem SInv.freeze {G : Gm} {y : Stt} {fv : List Addr} (hy : SInv G y) (hd : ∀ a ∈ fv, (∃ o, y.H a = some o ∧ isTbl o = false) ∧ a ∉ y.o ∧ a ∉ y.p ∧ a ∉ y.b) : SInv G { y with F := fun a => y.F a ∨ a ∈ fv } := by
  refine ⟨hy.sl.keep (fun _ h => .inl h) KeptF.refl fun a ha => ⟨fun f => ?_, fun o e _ => e⟩, hy.nd, fun a f => ?_, hy.tb⟩
  · rcases f with f | f
    · exact (hy.sl.there a ha).1 f
    · obtain ⟨_, n1, n2, n3⟩ := hd a f
      rcases ha with z | z | z
      · exact n1 z
      · exact n2 z
      · exact n3 z
  · rcases f with f | f
    · exact hy.dom a f
    · exact (hd a f).1

def D.fzOk : D → Bool
  | .drw _ _ _ _ => false
  | _ => true
theorem Objs.rep {G : Gm} {F F' : Addr → Prop} {H : Hp} {a : Addr} {d : D} (h : Objs G F H a d) (fa : F' a) (hf : ∀ x, F x → F' x) : Rep G F' H [.ref a] [d] := by
  cases d <;> first | exact h.elim | skip
  case lst es => obtain ⟨ws, e, z, r⟩ := h; exact .lst fa e z (r.keep hf .refl) .nil
  case dK es => obtain ⟨ws, e, z, k, r⟩ := h; exact .dK fa e z k (r.keep hf .refl) .nil
  case dT es => obtain ⟨ws, e, z, k, r⟩ := h; exact .dT fa e z k (r.keep hf .refl) .nil
  case ins c es => obtain ⟨C, dx, ws, e, z, k, r⟩ := h; exact .ins fa e z k (r.keep hf .refl) .nil
theorem Own.rep {G : Gm} {F F' : Addr → Prop} {H : Hp} {v : V} {d : D} {fp : List Addr} (h : Own G F H v d fp) (fa : ∀ a ∈ fp, F' a) (hf : ∀ x, F x → F' x) (hd : d.fzOk = true) : Rep G F' H [v] [d] := by
  cases h with
  | fz r => exact r.keep hf .refl
  | ow _ ob => exact ob.rep (fa _ (by simp)) hf
  | drw => cases hd
def fzAll (l : List (D × Kd)) : Bool := l.all fun dk => (decide (dk.2 ≠ .br)) && dk.1.fzOk
theorem AOk.temps {G : Gm} {x y : Stt} {vs : List V} {l : List (D × Kd)} (h : AOk G x y vs l) (hb : fzAll l = true) :
    ∃ fs : List Addr, (∀ a ∈ fs, ((∃ o, y.H a = some o ∧ isTbl o = false) ∧ a ∉ y.o ∧ a ∉ y.p ∧ a ∉ y.b) ∧ x.H a = none) ∧ Rep G (fun a => y.F a ∨ a ∈ fs) y.H vs (l.map (·.1)) := by
  induction h with
  | nil => exact ⟨[], by simp, .nil⟩
  | @cons v d k fv vs dks w kd _ _ ih =>
    simp only [fzAll, List.all_cons, Bool.and_eq_true, decide_eq_true_eq] at hb
    obtain ⟨⟨hk, hd⟩, hb⟩ := hb
    obtain ⟨fs, h1, r⟩ := ih (by simpa [fzAll] using hb)
    cases k with
    | br => exact absurd rfl hk
    | fz =>
      obtain rfl : fv = [] := kd
      exact ⟨fs, h1, Rep.cons_iff.mpr ⟨w.rep (by simp) (fun _ h => .inl h) hd, r⟩⟩
    | ow =>
      refine ⟨fv ++ fs, fun a ha => ?_, Rep.cons_iff.mpr ⟨w.rep (fun a ha => .inr (by simp [ha])) (fun _ h => .inl h) hd, r.keep (fun a h => ?_) .refl⟩⟩
      · rcases List.mem_append.mp ha with q | q
        · exact ⟨⟨(w.there a q).2, (kd.2 a q).2⟩, (kd.2 a q).1⟩
        · exact h1 a q
      · rcases h with h | h
        · exact .inl h
        · exact .inr (by simp [h])
theorem AOk.frozen {G : Gm} {s : Bool} {x y : Stt} {vs : List V} {l : List (D × Kd)} (hx : SInv G x) (hy : SInv G y) (e : Ext s x y) (h : AOk G x y vs l) (hb : fzAll l = true) :
    ∃ F' : Addr → Prop, SInv G { y with F := F' } ∧ Ext s x { y with F := F' } ∧ Rep G F' y.H vs (l.map (·.1)) := by
  obtain ⟨fs, h1, r⟩ := h.temps hb
  refine ⟨fun a => y.F a ∨ a ∈ fs, hy.freeze fun a ha => (h1 a ha).1, ⟨e.sg, e.kp, fun a f => .inl (e.f1 a f), fun a f => ?_, e.o1, e.p1, e.b1, e.dm, e.lk, e.st⟩, r⟩
  rcases f with f | f
  · exact e.f2 a f
  · exact .inr (h1 a f).2
def xTup (f : AE) : EE := fun ρ => do
  let (l, ρ1) ← f ρ
  if fzAll l = true ∧ l.length ≤ sizeLine then pure (.tup (l.map (·.1)), .fz, ρ1) else .bad
def xLst (f : AE) : EE := fun ρ => do
  let (l, ρ1) ← f ρ
  if fzAll l = true ∧ l.length ≤ sizeLine then pure (.lst (l.map (·.1)), .ow, ρ1) else .bad
section
variable {X : Cx} {G : Gm} {W : WX}
theorem r_tup {es : List Expr} {x1 : Nat} {pos : Pos} {s : Bool} {f : AE} (h : PA X es (tA G W s f)) : PE X (.Tuple es x1 pos) (tS G W s (xTup f)) := PE.of (pe_tup h) fun σ H Q ⟨x, e1, e2, hi, q⟩ => by
  subst e1 e2
  refine ⟨x, rfl, rfl, hi, ?_⟩
  unfold xTup at q
  cases h1 : f x.rho with
  | bad => simp only [h1, Res.bind_bad] at q
  | err c d ρ' => simp only [h1, Res.bind_err] at q; exact q
  | ok r1 =>
    obtain ⟨l, ρ1⟩ := r1
    simp only [h1, Res.bind_ok] at q
    intro y vs hρ iy ey ay
    by_cases hc : fzAll l = true ∧ l.length ≤ sizeLine
    · rw [if_pos hc] at q
      obtain ⟨F', i', e', r⟩ := ay.frozen hi iy ey hc.1
      have hz : vs.length ≤ sizeLine := by rw [r.length, List.length_map]; exact hc.2
      refine ⟨hz, fun p hp => ?_⟩
      have P := EPost.after (y := { y with F := F' }) hi i' e' (NewV.tup i'.dom hp hz r)
      exact q { F := _, rho := y.rho, sg := y.sg, H := _, o := y.o, p := y.p, b := y.b } _ [] hρ P
    · rw [if_neg hc] at q; exact q.elim
theorem r_lst {es : List Expr} {pos : Pos} {s : Bool} {f : AE} (h : PA X es (tA G W s f)) : PE X (.List es pos) (tS G W s (xLst f)) := PE.of (pe_lst h) fun σ H Q ⟨x, e1, e2, hi, q⟩ => by
  subst e1 e2
  refine ⟨x, rfl, rfl, hi, ?_⟩
  unfold xLst at q
  cases h1 : f x.rho with
  | bad => simp only [h1, Res.bind_bad] at q
  | err c d ρ' => simp only [h1, Res.bind_err] at q; exact q
  | ok r1 =>
    obtain ⟨l, ρ1⟩ := r1
    simp only [h1, Res.bind_ok] at q
    intro y vs hρ iy ey ay
    by_cases hc : fzAll l = true ∧ l.length ≤ sizeLine
    · rw [if_pos hc] at q
      obtain ⟨F', i', e', r⟩ := ay.frozen hi iy ey hc.1
      have hz : vs.length ≤ sizeLine := by rw [r.length, List.length_map]; exact hc.2
      refine ⟨hz, fun p hp => ?_⟩
      have P := EPost.after (y := { y with F := F' }) hi i' e' (NewV.lst i'.dom hp hz r)
      exact q { F := _, rho := y.rho, sg := y.sg, H := _, o := y.o, p := y.p, b := y.b } _ _ hρ P
    · rw [if_neg hc] at q; exact q.elim

/-! ### tests -/
abbrev BE := Env → Res (Bool × Env)
def tB (G : Gm) (W : WX) (still : Bool) (f : BE) : TT := fun σ H Q => ∃ x : Stt, x.sg = σ ∧ x.H = H ∧ SInv G x ∧
  match f x.rho with
  | .ok (b, ρ') => ∀ y, y.rho = ρ' → SInv G y → Ext still x y → Q b y.H
  | .err c d ρ' => ∀ y cls dx, y.rho = ρ' → SInv G y → Ext still x y → ErrV G y cls dx c d → W cls dx σ y.H
  | .bad => False
def xTst (f : EE) : BE := fun ρ => do
  let (d, _, ρ1) ← f ρ
  match d with
  | .bl b => pure (b, ρ1)
  | _ => .bad
theorem tB_of {s : Bool} {f : EE} {σ H} {Q : Bool → Hp → Prop} (h : tB G W s (xTst f) σ H Q) : tS G W s f σ H fun x H1 => ∃ c, x = .bl c ∧ Q c H1 := by
  obtain ⟨x, rfl, rfl, hi, q⟩ := h
  refine ⟨x, rfl, rfl, hi, ?_⟩
  unfold xTst at q
  cases h1 : f x.rho with
  | bad => simp only [h1, Res.bind_bad] at q
  | err c d ρ' => simp only [h1, Res.bind_err] at q; exact q
  | ok r1 =>
    obtain ⟨d, k, ρ1⟩ := r1
    simp only [h1, Res.bind_ok] at q
    intro y v fv hρ P
    cases d <;> first | exact q.elim | skip
    case bl b =>
      have w := P.own
      have : v = .bl b := by
        cases w with
        | fz r => exact r.bl_of
        | ow _ ob => exact ob.elim
      exact ⟨b, this, q y hρ P.inv P.ext⟩
theorem r_test {e : Expr} {s : Bool} {f : EE} (h : PE X e (tS G W s f)) (he : ∀ whole, isTrue e X.env whole = (do let v ← whole; standAt e.pos; holding [v] (truthy v)) := by intro _; rfl) : PT X e (tB G W s (xTst f)) := PT.of (pt_val h he) fun _ _ _ h => tB_of h
theorem r_tcmp {op : CmpOp} {a b : Expr} {pos : Pos} {r : R2} {g : D → D → Option (D × Kd)} {s t : Bool} {f1 f2 : EE} (ho : OpR X (compareOp op) r) (hg : FnD2 G r g) (ha : PE X a (tS G W s f1)) (hb : PE X b (tS G W t f2)) (hm : behindInMarks op b = false) : PT X (.Compare a [op] [b] pos) (tB G W (s && t) (xTst (xAp2 t g f1 f2))) :=
  PT.of (pt_cmpR ho ha hb hm) fun _ _ _ h => tS_ap2 hg (tB_of h)
def bNot (f : BE) : BE := fun ρ => do
  let (b, ρ1) ← f ρ
  pure (!b, ρ1)
def bK (b : Bool) : BE := fun ρ => pure (b, ρ)
def bIf (f g g' : BE) : BE := fun ρ => do
  let (b, ρ1) ← f ρ
  if b = true then g ρ1 else g' ρ1
def bAnd (f g : BE) : BE := bIf f g (bK false)
def bOr (f g : BE) : BE := bIf f (bK true) g
theorem Ext.weak {s t : Bool} {x y : Stt} (e : Ext s x y) (h : t = true → s = true) : Ext t x y := { e with st := fun z => e.st (h z) }
theorem r_not {a : Expr} {pos : Pos} {s : Bool} {f : BE} (h : PT X a (tB G W s f)) : PT X (.UnaryOp .Not a pos) (tB G W s (bNot f)) := PT.of (pt_not h) fun σ H Q ⟨x, e1, e2, hi, q⟩ => by
  subst e1 e2
  refine ⟨x, rfl, rfl, hi, ?_⟩
  unfold bNot at q
  cases h1 : f x.rho with
  | bad => simp only [h1, Res.bind_bad] at q
  | err c d ρ' => simp only [h1, Res.bind_err] at q; exact q
  | ok r1 =>
    obtain ⟨b, ρ1⟩ := r1
    simp only [h1, Res.bind_ok] at q
    exact q
theorem tB_cond {s t u : Bool} {f g g' : BE} {σ H} {Q : Bool → Hp → Prop} (h : tB G W (s && (t && u)) (bIf f g g') σ H Q) :
    tB G W s f σ H fun c H1 => if c = true then tB G W t g σ H1 Q else tB G W u g' σ H1 Q := by
  obtain ⟨x, rfl, rfl, hi, q⟩ := h
  refine ⟨x, rfl, rfl, hi, ?_⟩
  unfold bIf at q
  cases h1 : f x.rho with
  | bad => simp only [h1, Res.bind_bad] at q
  | err c d ρ' =>
    simp only [h1, Res.bind_err] at q
    exact fun y cls dx hρ iy ey hev => q y cls dx hρ iy (ey.weak fun z => by simp only [Bool.and_eq_true] at z; exact z.1) hev
  | ok r1 =>
    obtain ⟨b, ρ1⟩ := r1
    simp only [h1, Res.bind_ok] at q
    intro y hρ iy ey
    cases b with
    | true =>
      rw [if_pos rfl]; rw [if_pos rfl] at q
      refine ⟨y, ey.sg, rfl, iy, ?_⟩
      rw [hρ]
      cases h2 : g ρ1 with
      | bad => simp only [h2] at q
      | err c d' ρ' =>
        simp only [h2] at q
        exact fun z cls dx hz iz ez hev => q z cls dx hz iz ((ey.trans hi iy ez).weak fun z => by simp only [Bool.and_eq_true] at z ⊢; exact ⟨z.1, z.2.1⟩) hev
      | ok r2 =>
        simp only [h2] at q
        exact fun z hz iz ez => q z hz iz ((ey.trans hi iy ez).weak fun z => by simp only [Bool.and_eq_true] at z ⊢; exact ⟨z.1, z.2.1⟩)
    | false =>
      rw [if_neg (by simp)]; rw [if_neg (by simp)] at q
      refine ⟨y, ey.sg, rfl, iy, ?_⟩
      rw [hρ]
      cases h2 : g' ρ1 with
      | bad => simp only [h2] at q
      | err c d' ρ' =>
        simp only [h2] at q
        exact fun z cls dx hz iz ez hev => q z cls dx hz iz ((ey.trans hi iy ez).weak fun z => by simp only [Bool.and_eq_true] at z ⊢; exact ⟨z.1, z.2.2⟩) hev
      | ok r2 =>
        simp only [h2] at q
        exact fun z hz iz ez => q z hz iz ((ey.trans hi iy ez).weak fun z => by simp only [Bool.and_eq_true] at z ⊢; exact ⟨z.1, z.2.2⟩)
theorem tB_pure {s : Bool} {b : Bool} {σ H} {Q : Bool → Hp → Prop} (h : tB G W s (bK b) σ H Q) : Q b H := by
  obtain ⟨x, rfl, rfl, hi, q⟩ := h
  exact q x rfl hi .refl
theorem tB_imp {s : Bool} {f : BE} {σ H} {Q Q' : Bool → Hp → Prop} (h : tB G W s f σ H Q) (i : ∀ b H', Q b H' → Q' b H') : tB G W s f σ H Q' := by
  obtain ⟨x, e1, e2, hi, q⟩ := h
  refine ⟨x, e1, e2, hi, ?_⟩
  revert q
  cases f x.rho with
  | bad => exact id
  | err c d ρ' => exact id
  | ok r1 => exact fun q y hρ iy ey => i _ _ (q y hρ iy ey)
theorem r_and {a b : Expr} {rest : List Expr} {pos : Pos} {s t : Bool} {f g : BE} (ha : PT X a (tB G W s f)) (hb : PW X (.BoolOp .And (b :: rest) pos) (tB G W t g)) : PW X (.BoolOp .And (a :: b :: rest) pos) (tB G W (s && t) (bAnd f g)) := by
  have h := pw_and (pos := pos) ha hb
  refine ⟨fun wh pins st σ H Q I w => h.run wh pins st σ H Q I ?_⟩
  have q := tB_cond (u := true) (s := s) (t := t) (f := f) (g := g) (g' := bK false) (by rw [Bool.and_true]; exact w)
  refine tB_imp q fun b H' q => ?_
  split
  · rename_i hb; rw [if_pos hb] at q; exact q
  · rename_i hb; rw [if_neg hb] at q; exact tB_pure q
theorem r_or {a b : Expr} {rest : List Expr} {pos : Pos} {s t : Bool} {f g : BE} (ha : PT X a (tB G W s f)) (hb : PW X (.BoolOp .Or (b :: rest) pos) (tB G W t g)) : PW X (.BoolOp .Or (a :: b :: rest) pos) (tB G W (s && t) (bOr f g)) := by
  have h := pw_or (pos := pos) ha hb
  refine ⟨fun wh pins st σ H Q I w => h.run wh pins st σ H Q I ?_⟩
  have q := tB_cond (t := true) (s := s) (u := t) (f := f) (g := bK true) (g' := g) (by rw [Bool.true_and]; exact w)
  refine tB_imp q fun b H' q => ?_
  split
  · rename_i hb; rw [if_pos hb] at q; exact tB_pure q
  · rename_i hb; rw [if_neg hb] at q; exact q
theorem r_and1 {a : Expr} {pos : Pos} {s : Bool} {f : BE} (ha : PT X a (tB G W s f)) : PW X (.BoolOp .And [a] pos) (tB G W s f) := pw_and1 ha
theorem r_or1 {a : Expr} {pos : Pos} {s : Bool} {f : BE} (ha : PT X a (tB G W s f)) : PW X (.BoolOp .Or [a] pos) (tB G W s f) := pw_or1 ha
end
end VL
/-! VL5: slots changed; conditional expressions; attributes; readings of statements. -/
namespace VL
open PySem PySem.Spec PyProof.Rows L2

/-- what a slot may hold anew -/
inductive SlotOk (G : Gm) (F : Addr → Prop) (H : Hp) (v : V) (d : D) : Fl → List Addr → Prop
  | fz : Rep G F H [v] [d] → SlotOk G F H v d .fz []
  | ow {fp} : Own G F H v d fp → fp ≠ [] → SlotOk G F H v d .ow fp
theorem Slots.set {G F H ρ σ o p b} (h : Slots G F H ρ σ o p b) : ∀ {i : Nat} {v : V} {d : D} {fl : Fl} {fp : List Addr}, i < ρ.length → (∀ d' fl', ρ[i]? = some (some (d', fl')) → fl' = .fz ∨ fl' = .ow) → SlotOk G F H v d fl fp →
    ∃ o1 old o3, o = o1 ++ (old ++ o3) ∧ Slots G F H (ρ.set i (some (d, fl))) (σ.set i (some v)) (o1 ++ (fp ++ o3)) p b := by
  induction h with
  | nil => intro i v d fl fp hi; simp at hi
  | @none x ρ σ o p b hs ih =>
    intro i v d fl fp hi hn w
    cases i with
    | zero =>
      refine ⟨[], [], o, rfl, ?_⟩
      cases w with
      | fz r => exact .fz r hs
      | ow r n => exact Slots.ow (fp := fp) r n hs
    | succ i =>
      obtain ⟨o1, old, o3, e, q⟩ := ih (i := i) (by simpa using hi) (fun d' fl' e => hn d' fl' (by simpa using e)) w
      exact ⟨o1, old, o3, e, .none q⟩
  | @fz v0 d0 ρ σ o p b r0 hs ih =>
    intro i v d fl fp hi hn w
    cases i with
    | zero =>
      refine ⟨[], [], o, rfl, ?_⟩
      cases w with
      | fz r => exact .fz r hs
      | ow r n => exact Slots.ow (fp := fp) r n hs
    | succ i =>
      obtain ⟨o1, old, o3, e, q⟩ := ih (i := i) (by simpa using hi) (fun d' fl' e => hn d' fl' (by simpa using e)) w
      exact ⟨o1, old, o3, e, .fz r0 q⟩
  | @ow v0 d0 fp0 ρ σ o p b r0 n0 hs ih =>
    intro i v d fl fp hi hn w
    cases i with
    | zero =>
      refine ⟨[], fp0, o, rfl, ?_⟩
      cases w with
      | fz r => exact .fz r hs
      | ow r n => exact Slots.ow (fp := fp) r n hs
    | succ i =>
      obtain ⟨o1, old, o3, e, q⟩ := ih (i := i) (by simpa using hi) (fun d' fl' e => hn d' fl' (by simpa using e)) w
      refine ⟨fp0 ++ o1, old, o3, by rw [e, List.append_assoc], ?_⟩
      rw [List.append_assoc]
      exact .ow r0 n0 q
  | @pn v0 d0 fp0 ρ σ o p b r0 n0 hs ih =>
    intro i v d fl fp hi hn w
    cases i with
    | zero => have := hn d0 .pn rfl; simp at this
    | succ i =>
      obtain ⟨o1, old, o3, e, q⟩ := ih (i := i) (by simpa using hi) (fun d' fl' e => hn d' fl' (by simpa using e)) w
      exact ⟨o1, old, o3, e, .pn r0 n0 q⟩
  | @lk v0 d0 fp0 ρ σ o p b r0 hs ih =>
    intro i v d fl fp hi hn w
    cases i with
    | zero => have := hn d0 .lk rfl; simp at this
    | succ i =>
      obtain ⟨o1, old, o3, e, q⟩ := ih (i := i) (by simpa using hi) (fun d' fl' e => hn d' fl' (by simpa using e)) w
      exact ⟨o1, old, o3, e, .lk r0 q⟩
/-- the object of an owned slot is changed -/
theorem Slots.mut {G F H H' ρ σ o p b} (h : Slots G F H ρ σ o p b) : ∀ {i : Nat} {d d' : D} {fl : Fl} {v : V} {fp : List Addr}, (o ++ (p ++ b)).Nodup → ρ[i]? = some (some (d, fl)) → (fl = .ow ∨ fl = .pn) → σ[i]? = some (some v) → Own G F H v d fp → fp ≠ [] → Own G F H' v d' fp →
    (∀ a ob, H a = some ob → a ∉ fp → isTbl ob = false → H' a = some ob) → Slots G F H' (ρ.set i (some (d', fl))) σ o p b := by
  have key : ∀ {ρ σ o p b}, Slots G F H ρ σ o p b → ∀ fp : List Addr, (∀ a ∈ fp, ¬ F a) → (∀ a ob, H a = some ob → a ∉ fp → isTbl ob = false → H' a = some ob) → (∀ a, a ∈ o ∨ a ∈ p ∨ a ∈ b → a ∉ fp) → Slots G F H' ρ σ o p b := by
    intro ρ σ o p b hs fp nf k dis
    refine hs.keep (fun _ h => h) (fun a ob f e t => k a ob e (fun z => nf a z f) t) fun a ha => ⟨(hs.there a ha).1, fun ob e t => k a ob e (dis a ha) t⟩
  have own1 : ∀ {v d fp fp'}, Own G F H v d fp → Own G F H v d fp' → fp ≠ [] → fp' ≠ [] → fp = fp' := by
    intro v d fp fp' w w' n n'
    cases w with
    | fz _ => exact absurd rfl n
    | ow f ob =>
      cases w' with
      | fz _ => exact absurd rfl n'
      | ow _ _ => rfl
      | drw _ _ _ _ _ _ => exact ob.elim
    | drw f1 f2 f3 _ _ q =>
      cases w' with
      | fz _ => exact absurd rfl n'
      | ow _ ob => exact ob.elim
      | drw _ _ _ _ _ q' =>
        have e := q.1.symm.trans q'.1
        simp at e
        rw [e.1]
  induction h with
  | nil => intro i d d' fl v fp nd e; simp at e
  | none hs ih =>
    intro i d d' fl v fp nd e hf ev w n w' k
    cases i with
    | zero => simp at e
    | succ i => exact .none (ih nd (by simpa using e) hf (by simpa using ev) w n w' k)
  | fz r hs ih =>
    intro i d d' fl v fp nd e hf ev w n w' k
    cases i with
    | zero => simp at e; obtain ⟨rfl, rfl⟩ := e; simp at hf
    | succ i => exact .fz (r.keep (fun _ h => h) fun a ob f e t => k a ob e (fun z => (w.there a z).1 f) t) (ih nd (by simpa using e) hf (by simpa using ev) w n w' k)
  | @ow v0 d0 fp0 ρ σ o p b w0 n0 hs ih =>
    intro i d d' fl v fp nd e hf ev w n w' k
    cases i with
    | zero =>
      simp at e ev; obtain ⟨rfl, rfl⟩ := e; subst ev
      obtain rfl := own1 w0 w n0 n
      refine .ow w' n (key hs fp0 (fun a ha => (w.there a ha).1) k fun a ha z => ?_)
      rw [List.append_assoc, List.nodup_append] at nd
      exact nd.2.2 a z a (by simp [ha]) rfl
    | succ i =>
      have e' : ρ[i]? = some (some (d, fl)) := by simpa using e
      have nd' : (o ++ (p ++ b)).Nodup := by rw [List.append_assoc, List.nodup_append] at nd; exact nd.2.1
      have ev' : σ[i]? = some (some v) := by simpa using ev
      obtain ⟨v1, fp1, q1, q2, _, q5, q4⟩ := hs.get e'
      rw [ev'] at q1; cases q1
      have sub : ∀ a ∈ fp, a ∈ o ∨ a ∈ p ∨ a ∈ b := fun a ha => by
        have h1 : fp1 ≠ [] := q5 hf
        obtain rfl := own1 q2 w h1 n
        rcases q4 a ha with z | z | z
        · exact .inl z.2
        · exact .inr (.inl z.2)
        · exact .inr (.inr z.2)
      refine .ow (w0.keep (fun _ h => h) (fun a ob f e t => k a ob e (fun z => (w.there a z).1 f) t) fun a ha => ⟨(w0.there a ha).1, fun ob e t => k a ob e (fun z => ?_) t⟩) n0 (ih nd' e' hf ev' w n w' k)
      rw [List.append_assoc, List.nodup_append] at nd
      exact nd.2.2 a ha a (by simpa using sub a z) rfl
  | @pn v0 d0 fp0 ρ σ o p b w0 n0 hs ih =>
    intro i d d' fl v fp nd e hf ev w n w' k
    have nd1 : (o ++ (fp0 ++ (p ++ b))).Nodup := by rwa [List.append_assoc] at nd
    have nd2 := (List.nodup_append.mp nd1)
    have nd3 := (List.nodup_append.mp nd2.2.1)
    cases i with
    | zero =>
      simp at e ev; obtain ⟨rfl, rfl⟩ := e; subst ev
      obtain rfl := own1 w0 w n0 n
      refine .pn w' n (key hs fp0 (fun a ha => (w.there a ha).1) k fun a ha z => ?_)
      rcases ha with q | q | q
      · exact nd2.2.2 a q a (by simp [z]) rfl
      · exact nd3.2.2 a z a (by simp [q]) rfl
      · exact nd3.2.2 a z a (by simp [q]) rfl
    | succ i =>
      have e' : ρ[i]? = some (some (d, fl)) := by simpa using e
      have nd' : (o ++ (p ++ b)).Nodup := List.nodup_append.mpr ⟨nd2.1, nd3.2.1, fun a ha c hc => nd2.2.2 a ha c (by simp at hc ⊢; exact .inr hc)⟩
      have ev' : σ[i]? = some (some v) := by simpa using ev
      obtain ⟨v1, fp1, q1, q2, _, q5, q4⟩ := hs.get e'
      rw [ev'] at q1; cases q1
      have sub : ∀ a ∈ fp, a ∈ o ∨ a ∈ p ∨ a ∈ b := fun a ha => by
        have h1 : fp1 ≠ [] := q5 hf
        obtain rfl := own1 q2 w h1 n
        rcases q4 a ha with z | z | z
        · exact .inl z.2
        · exact .inr (.inl z.2)
        · exact .inr (.inr z.2)
      refine .pn (w0.keep (fun _ h => h) (fun a ob f e t => k a ob e (fun z => (w.there a z).1 f) t) fun a ha => ⟨(w0.there a ha).1, fun ob e t => k a ob e (fun z => ?_) t⟩) n0 (ih nd' e' hf ev' w n w' k)
      rcases sub a z with q | q | q
      · exact nd2.2.2 a q a (by simp [ha]) rfl
      · exact nd3.2.2 a ha a (by simp [q]) rfl
      · exact nd3.2.2 a ha a (by simp [q]) rfl
  | @lk v0 d0 fp0 ρ σ o p b w0 hs ih =>
    intro i d d' fl v fp nd e hf ev w n w' k
    cases i with
    | zero => simp at e; obtain ⟨rfl, rfl⟩ := e; simp at hf
    | succ i =>
      have e' : ρ[i]? = some (some (d, fl)) := by simpa using e
      have ev' : σ[i]? = some (some v) := by simpa using ev
      have nd2 := (List.nodup_append.mp nd)
      have nd3 := (List.nodup_append.mp nd2.2.1)
      have nd4 := (List.nodup_append.mp nd3.2.1)
      have nd' : (o ++ (p ++ b)).Nodup := List.nodup_append.mpr ⟨nd2.1, List.nodup_append.mpr ⟨nd3.1, nd4.2.1, fun a ha c hc => nd3.2.2 a ha c (by simp [hc])⟩, fun a ha c hc => nd2.2.2 a ha c (by
        rcases List.mem_append.mp hc with q | q
        · simp [q]
        · simp [q])⟩
      obtain ⟨v1, fp1, q1, q2, _, q5, q4⟩ := hs.get e'
      rw [ev'] at q1; cases q1
      have sub : ∀ a ∈ fp, (a ∈ o ∨ a ∈ p) := fun a ha => by
        have h1 : fp1 ≠ [] := q5 hf
        obtain rfl := own1 q2 w h1 n
        rcases q4 a ha with z | z | z
        · exact .inl z.2
        · exact .inr z.2
        · rcases hf with q | q <;> simp [q] at z
      refine .lk (w0.keep (fun _ h => h) (fun a ob f e t => k a ob e (fun z => (w.there a z).1 f) t) fun a ha => ⟨(w0.there a ha).1, fun ob e t => k a ob e (fun z => ?_) t⟩) (ih nd' e' hf ev' w n w' k)
      rcases sub a z with q | q
      · exact nd2.2.2 a q a (by simp [ha]) rfl
      · exact nd3.2.2 a q a (by simp [ha]) rfl
/-- an owned slot is emptied -/
theorem Slots.drop {G F H ρ σ o p b} (h : Slots G F H ρ σ o p b) : ∀ {i : Nat} {d : D}, ρ[i]? = some (some (d, .ow)) →
    ∃ v fp o1 o3, σ[i]? = some (some v) ∧ Own G F H v d fp ∧ o = o1 ++ (fp ++ o3) ∧ Slots G F H (ρ.set i Option.none) σ (o1 ++ o3) p b := by
  induction h with
  | nil => intro i d e; simp at e
  | none _ ih =>
    intro i d e
    cases i with
    | zero => simp at e
    | succ i =>
      obtain ⟨v, fp, o1, o3, e1, w, e2, q⟩ := ih (i := i) (by simpa using e)
      exact ⟨v, fp, o1, o3, by simpa using e1, w, e2, .none q⟩
  | fz r _ ih =>
    intro i d e
    cases i with
    | zero => simp at e
    | succ i =>
      obtain ⟨v, fp, o1, o3, e1, w, e2, q⟩ := ih (i := i) (by simpa using e)
      exact ⟨v, fp, o1, o3, by simpa using e1, w, e2, .fz r q⟩
  | @ow v0 d0 fp0 ρ σ o p b w0 n0 hs ih =>
    intro i d e
    cases i with
    | zero =>
      simp at e; subst e
      exact ⟨v0, fp0, [], o, rfl, w0, rfl, .none hs⟩
    | succ i =>
      obtain ⟨v, fp, o1, o3, e1, w, e2, q⟩ := ih (i := i) (by simpa using e)
      refine ⟨v, fp, fp0 ++ o1, o3, by simpa using e1, w, by rw [e2, List.append_assoc], ?_⟩
      rw [List.append_assoc]
      exact .ow w0 n0 q
  | pn w0 n0 _ ih =>
    intro i d e
    cases i with
    | zero => simp at e
    | succ i =>
      obtain ⟨v, fp, o1, o3, e1, w, e2, q⟩ := ih (i := i) (by simpa using e)
      exact ⟨v, fp, o1, o3, by simpa using e1, w, e2, .pn w0 n0 q⟩
  | lk w0 _ ih =>
    intro i d e
    cases i with
    | zero => simp at e
    | succ i =>
      obtain ⟨v, fp, o1, o3, e1, w, e2, q⟩ := ih (i := i) (by simpa using e)
      exact ⟨v, fp, o1, o3, by simpa using e1, w, e2, .lk w0 q⟩
end VL
/-! VL6: readings of statements and their rules. -/
namespace VL
open PySem PySem.Spec PyProof.Rows L2

/-- z: the state at the def's entry -/
structure EInv (z x : Stt) : Prop where
  f1 : ∀ a, x.F a → z.F a ∨ z.H a = none
  kp : Kept z.p z.H x.H
  p1 : x.p = z.p
  o1 : ∀ a ∈ x.o, z.H a = none
  dm : ∀ a, x.H a = none → z.H a = none
  f0 : ∀ a, z.F a → x.F a
structure SStep (G : Gm) (z x y : Stt) : Prop where
  inv : SInv G y
  ent : EInv z y
  lk : ∀ (j : Nat) (d : D) (fl : Fl), x.rho[j]? = some (some (d, fl)) → fl = Fl.lk ∨ fl = Fl.pn → ∃ d', y.rho[j]? = some (some (d', fl)) ∧ (fl = Fl.lk → d' = d) ∧ y.sg[j]? = x.sg[j]?
  kf : KeptF x.F x.H y.H
  f1 : ∀ a, x.F a → y.F a
theorem SStep.refl {G z x} (h : SInv G x) (e : EInv z x) : SStep G z x x := ⟨h, e, fun _ d _ e _ => ⟨d, e, fun _ => rfl, rfl⟩, .refl, fun _ h => h⟩
theorem SStep.trans {G z x y w} (a : SStep G z x y) (b : SStep G z y w) : SStep G z x w where
  inv := b.inv
  ent := b.ent
  lk := fun j d fl e hf => by
    obtain ⟨d1, e1, k1, s1⟩ := a.lk j d fl e hf
    obtain ⟨d2, e2, k2, s2⟩ := b.lk j d1 fl e1 hf
    exact ⟨d2, e2, fun h => (k2 h).trans (k1 h), s2.trans s1⟩
  kf := a.kf.trans b.kf a.f1
  f1 := fun c h => b.f1 c (a.f1 c h)
theorem EInv.ext {G s z x y} (h : EInv z x) (hx : SInv G x) (e : Ext s x y) : EInv z y where
  f1 := fun a f => by
    rcases e.f2 a f with q | q
    · exact h.f1 a q
    · exact .inr (h.dm a q)
  kp := fun a o e1 n t => by
    refine e.kp a o (h.kp a o e1 n t) (fun q => ?_) t
    rcases List.mem_append.mp q with q | q
    · rw [h.o1 a q] at e1; cases e1
    · rw [h.p1] at q; exact n q
  p1 := e.p1.trans h.p1
  o1 := fun a q => by
    rcases e.o1 a q with q | q
    · exact h.o1 a q
    · exact h.dm a q
  dm := fun a q => h.dm a (e.dm a q)
  f0 := fun a f => e.f1 a (h.f0 a f)
theorem SStep.ext {G s z x y} (h : EInv z x) (hx : SInv G x) (hy : SInv G y) (e : Ext s x y) : SStep G z x y where
  inv := hy
  ent := h.ext hx e
  lk := fun j d fl e1 hf => by
    obtain ⟨d', e2, k⟩ := e.lk j d fl e1 hf
    exact ⟨d', e2, k, by rw [e.sg]⟩
  kf := e.keptF hx
  f1 := e.f1

inductive Flo where
  | nx (ρ : Env) | rt (d : D) (k : Kd) (ρ : Env) | bk (ρ : Env) | ct (ρ : Env)
abbrev SE := Env → Res Flo
def KdS (z : Stt) (k : Kd) (fv : List Addr) : Prop := match k with
  | .fz => fv = []
  | .ow => fv ≠ [] ∧ ∀ a ∈ fv, z.H a = none
  | .br => False
/-- what is wanted behind a statement, by what its function says -/
def TQ (G : Gm) (W : WX) (z x : Stt) (Dn : Ends) : Res Flo → Prop
  | .ok (.nx ρ') => ∀ y, y.rho = ρ' → SStep G z x y → Dn.nx y.sg y.H
  | .ok (.bk ρ') => ∀ y, y.rho = ρ' → SStep G z x y → Dn.bk y.sg y.H
  | .ok (.ct ρ') => ∀ y, y.rho = ρ' → SStep G z x y → Dn.ct y.sg y.H
  | .ok (.rt d k ρ') => ∀ y v fv, y.rho = ρ' → SStep G z x y → Own G y.F y.H v d fv → KdS z k fv → Dn.rt v y.H
  | .err c d ρ' => ∀ y cls dx, y.rho = ρ' → SStep G z x y → ErrV G y cls dx c d → W cls dx y.sg y.H
  | .bad => False
def tT (G : Gm) (W : WX) (z : Stt) (s : SE) : TS := fun Dn σ H => ∃ x : Stt, x.sg = σ ∧ x.H = H ∧ SInv G x ∧ EInv z x ∧ TQ G W z x Dn (s x.rho)
theorem TQ.step {G W z x y Dn r} (h : TQ G W z x Dn r) (e : SStep G z x y) : TQ G W z y Dn r := by
  cases r with
  | bad => exact h
  | err c d ρ' => exact fun w cls dx h1 h2 h3 => h w cls dx h1 (e.trans h2) h3
  | ok f =>
    cases f with
    | nx ρ' => exact fun w h1 h2 => h w h1 (e.trans h2)
    | bk ρ' => exact fun w h1 h2 => h w h1 (e.trans h2)
    | ct ρ' => exact fun w h1 h2 => h w h1 (e.trans h2)
    | rt d k ρ' => exact fun w v fv h1 h2 => h w v fv h1 (e.trans h2)
def sSeq (s t : SE) : SE := fun ρ => do
  match ← s ρ with
  | .nx ρ1 => t ρ1
  | f => pure f
def sNil : SE := fun ρ => pure (.nx ρ)
def sEx (f : EE) : SE := fun ρ => do
  let (_, _, ρ1) ← f ρ
  pure (.nx ρ1)
def sIf (c : BE) (s t : SE) : SE := fun ρ => do
  let (b, ρ1) ← c ρ
  if b = true then s ρ1 else t ρ1
/-- the flag in slot i lets it be set -/
def canSet (ρ : Env) (i : Nat) : Bool := match ρ[i]? with
  | some (some (_, .lk)) => false
  | some (some (_, .pn)) => false
  | some _ => true
  | none => false
/-- name = value: frozen, or owned where fl is ow and the value is new -/
def setSlot (fl : Fl) (i : Nat) (d : D) (k : Kd) (ρ : Env) : Res Env :=
  if canSet ρ i = true then
    match k, fl with
    | .fz, _ => .ok (ρ.set i (some (d, .fz)))
    | .ow, .ow => .ok (ρ.set i (some (d, .ow)))
    | .ow, _ => if d.fzOk = true then .ok (ρ.set i (some (d, .fz))) else .bad
    | .br, _ => .bad
  else .bad
def sSet (fl : Fl) (i : Nat) (f : EE) : SE := fun ρ => do
  let (d, k, ρ1) ← f ρ
  let ρ2 ← setSlot fl i d k ρ1
  pure (.nx ρ2)
def sRet (f : EE) : SE := fun ρ => do
  let (d, k, ρ1) ← f ρ
  match k with
  | .br => .bad
  | _ => pure (.rt d k ρ1)
/-- an owned list is handed back -/
def sRetV (i : Nat) : SE := fun ρ => match ρ[i]? with
  | some (some (d, .fz)) => pure (.rt d .fz ρ)
  | some (some (d, .ow)) => pure (.rt d .ow ρ)
  | _ => .bad
def sRetN : SE := fun ρ => pure (.rt .non .fz ρ)
/-- slot i is frozen from here on (no Python stands for it) -/
def sFrz (i : Nat) (s : SE) : SE := fun ρ => match ρ[i]? with
  | some (some (d, .ow)) => if d.fzOk = true then s (ρ.set i (some (d, .fz))) else .bad
  | _ => s ρ
theorem canSet_spec {ρ : Env} {i : Nat} (h : canSet ρ i = true) : i < ρ.length ∧ ∀ d' fl', ρ[i]? = some (some (d', fl')) → fl' = .fz ∨ fl' = .ow := by
  unfold canSet at h
  cases e : ρ[i]? with
  | none => rw [e] at h; cases h
  | some s =>
    refine ⟨(List.getElem?_eq_some_iff.mp e).1, fun d' fl' q => ?_⟩
    cases q
    rw [e] at h
    cases fl' <;> simp at h ⊢
theorem nodup_mid {o1 old o3 r fp : List Addr} (h : ((o1 ++ (old ++ o3)) ++ r).Nodup) (hf : fp.Nodup) (hd : ∀ a ∈ fp, a ∉ o1 ∧ a ∉ o3 ∧ a ∉ r) : ((o1 ++ (fp ++ o3)) ++ r).Nodup := by
  simp only [List.nodup_append, List.mem_append] at h ⊢
  obtain ⟨⟨n1, ⟨_, n3, _⟩, n13⟩, nr, nn⟩ := h
  refine ⟨⟨n1, ⟨hf, n3, fun a ha b hb e => (hd a ha).2.1 (e ▸ hb)⟩, fun a ha b hb e => ?_⟩, nr, fun a ha b hb e => ?_⟩
  · rcases hb with hb | hb
    · exact (hd b hb).1 (e ▸ ha)
    · exact n13 a ha b (.inr hb) e
  · rcases ha with ha | ha | ha
    · exact nn a (.inl ha) b hb e
    · exact (hd a ha).2.2 (e ▸ hb)
    · exact nn a (.inr (.inr ha)) b hb e
/-- a slot is set -/
theorem set_step {G : Gm} {z x y : Stt} {s : Bool} {v : V} {d : D} {k : Kd} {fv : List Addr} {fl : Fl} {i : Nat} {ρ2 : Env} (hx : SInv G x) (hz : EInv z x) (P : EPost G s x y v d k fv) (h : setSlot fl i d k y.rho = .ok ρ2) :
    ∃ w : Stt, w.rho = ρ2 ∧ w.sg = y.sg.set i (some v) ∧ w.H = y.H ∧ SStep G z x w := by
  unfold setSlot at h
  by_cases hc : canSet y.rho i = true
  · rw [if_pos hc] at h
    obtain ⟨hi, hn⟩ := canSet_spec hc
    have st := SStep.ext hz hx P.inv P.ext
    have dis : k = .ow → ∀ a ∈ fv, a ∉ y.o ∧ a ∉ y.p ∧ a ∉ y.b := fun e a ha => by subst e; exact (P.kd.2 a ha).2
    have lkk : ∀ {sl : Option (D × Fl)} (j : Nat) (d0 : D) (fl0 : Fl), y.rho[j]? = some (some (d0, fl0)) → fl0 = Fl.lk ∨ fl0 = Fl.pn → ∃ d', (y.rho.set i sl)[j]? = some (some (d', fl0)) ∧ (fl0 = Fl.lk → d' = d0) ∧ (y.sg.set i (some v))[j]? = y.sg[j]? := by
      intro sl j d0 fl0 e hf
      have ne : i ≠ j := by
        intro q; subst q
        rcases hn _ _ e with q | q <;> subst q <;> simp at hf
      exact ⟨d0, by rw [List.getElem?_set_ne ne]; exact e, fun _ => rfl, by rw [List.getElem?_set_ne ne]⟩
    -- frozen
    have frz : (k = .fz ∨ k = .ow ∧ d.fzOk = true) → ρ2 = y.rho.set i (some (d, .fz)) → ∃ w : Stt, w.rho = ρ2 ∧ w.sg = y.sg.set i (some v) ∧ w.H = y.H ∧ SStep G z x w := by
      intro hk e
      have hF : SInv G { y with F := fun a => y.F a ∨ a ∈ fv } := P.inv.freeze fun a ha => by
        rcases hk with q | q
        · subst q; have : fv = [] := P.kd; rw [this] at ha; simp at ha
        · exact ⟨(P.own.there a ha).2, dis q.1 a ha⟩
      have hr : Rep G (fun a => y.F a ∨ a ∈ fv) y.H [v] [d] := by
        rcases hk with q | q
        · subst q
          have : fv = [] := P.kd
          subst this
          cases P.own with
          | fz r => exact r.keep (fun _ h => .inl h) .refl
        · exact P.own.rep (fun a ha => .inr ha) (fun _ h => .inl h) q.2
      obtain ⟨o1, old, o3, eo, sl⟩ := hF.sl.set (i := i) hi hn (.fz hr)
      have eo : y.o = o1 ++ (old ++ o3) := eo
      refine ⟨⟨fun a => y.F a ∨ a ∈ fv, ρ2, y.sg.set i (some v), y.H, o1 ++ ([] ++ o3), y.p, y.b⟩, rfl, rfl, rfl, st.trans ⟨⟨by rw [e]; exact sl, ?_, hF.dom, P.inv.tb⟩, ⟨fun a f => ?_, st.ent.kp, st.ent.p1, fun a ha => st.ent.o1 a ?_, st.ent.dm, fun a f => .inl (st.ent.f0 a f)⟩, ?_, .refl, fun a f => .inl f⟩⟩
      · have := P.inv.nd; rw [eo] at this
        exact nodup_mid this (by simp) (by simp)
      · rcases f with f | f
        · exact st.ent.f1 a f
        · rcases hk with q | q
          · subst q; have : fv = [] := P.kd; rw [this] at f; simp at f
          · obtain ⟨q, _⟩ := q; subst q; exact .inr (hz.dm a (P.kd.2 a f).1)
      · rw [eo]; simp only [List.mem_append, List.nil_append] at ha ⊢; rcases ha with q | q
        · exact .inl q
        · exact .inr (.inr q)
      · rw [e]; exact lkk
    cases k with
    | br => simp at h
    | fz => simp at h; exact frz (.inl rfl) h.symm
    | ow =>
      cases fl with
      | ow =>
        simp at h
        obtain ⟨o1, old, o3, eo, sl⟩ := P.inv.sl.set (i := i) hi hn (.ow P.own P.kd.1)
        refine ⟨⟨y.F, ρ2, y.sg.set i (some v), y.H, o1 ++ (fv ++ o3), y.p, y.b⟩, rfl, rfl, rfl, st.trans ⟨⟨by rw [← h]; exact sl, ?_, P.inv.dom, P.inv.tb⟩, ⟨st.ent.f1, st.ent.kp, st.ent.p1, fun a ha => ?_, st.ent.dm, st.ent.f0⟩, by rw [← h]; exact lkk, .refl, fun _ f => f⟩⟩
        · have := P.inv.nd; rw [eo] at this
          refine nodup_mid this P.own.nodup fun a ha => ?_
          obtain ⟨n1, n2, n3⟩ := dis rfl a ha
          rw [eo] at n1
          simp only [List.mem_append, not_or] at n1 ⊢
          exact ⟨n1.1, n1.2.2, n2, n3⟩
        · simp only [List.mem_append] at ha
          rcases ha with q | q | q
          · exact st.ent.o1 a (by rw [eo]; simp [q])
          · exact hz.dm a (P.kd.2 a q).1
          · exact st.ent.o1 a (by rw [eo]; simp [q])
      | fz => by_cases hd : d.fzOk = true
              · simp [hd] at h; exact frz (.inr ⟨rfl, hd⟩) h.symm
              · simp [hd] at h
      | pn => by_cases hd : d.fzOk = true
              · simp [hd] at h; exact frz (.inr ⟨rfl, hd⟩) h.symm
              · simp [hd] at h
      | lk => by_cases hd : d.fzOk = true
              · simp [hd] at h; exact frz (.inr ⟨rfl, hd⟩) h.symm
              · simp [hd] at h
  · rw [if_neg hc] at h; cases h
section
variable {X : Cx} {G : Gm} {W : WX} {z : Stt}
/-- from a statement's reading to its expression's -/
theorem tT_expr {s : Bool} {f : EE} {Dn : Ends} {σ H} {k : D → Kd → Env → Res Flo} {Q : VK} (h : tT G W z (fun ρ => do let (d, kd, ρ1) ← f ρ; k d kd ρ1) Dn σ H)
    (hQ : ∀ x y v d kd fv, SInv G x → EInv z x → x.sg = σ → EPost G s x y v d kd fv → TQ G W z x Dn (k d kd y.rho) → Q v y.H) : tS G W s f σ H Q := by
  obtain ⟨x, rfl, rfl, hi, hz, q⟩ := h
  refine ⟨x, rfl, rfl, hi, ?_⟩
  cases h1 : f x.rho with
  | bad => simp only [h1, Res.bind_bad] at q; exact q
  | err c d ρ' =>
    simp only [h1, Res.bind_err] at q
    intro y cls dx hρ iy ey hev
    have := q y cls dx hρ (SStep.ext hz hi iy ey) hev
    rw [ey.sg] at this; exact this
  | ok r =>
    obtain ⟨d, kd, ρ1⟩ := r
    simp only [h1, Res.bind_ok] at q
    intro y v fv hρ P
    exact hQ x y v d kd fv hi hz rfl P (by rw [hρ]; exact q)
theorem r_ex {e : Expr} {pos : Pos} {s : Bool} {f : EE} (he : PE X e (tS G W s f)) (hs : swapsWith e none pos.line X.env = pure false := by rfl) : PS X (.Expr e pos) (tT G W z (sEx f)) := PS.of (ps_expr he hs) fun D σ H h =>
  tT_expr (k := fun _ _ ρ1 => pure (.nx ρ1)) h fun x y v d kd fv hi hz e P q => by
    have := q y rfl (SStep.ext hz hi P.inv P.ext)
    rw [P.ext.sg, e] at this; exact this
theorem r_ret {e : Expr} {pos : Pos} {s : Bool} {f : EE} (he : PE X e (tS G W s f)) : PS X (.Return (some e) pos) (tT G W z (sRet f)) := PS.of (ps_ret he) fun D σ H h =>
  tT_expr (k := fun d k ρ1 => match k with | .br => .bad | _ => pure (.rt d k ρ1)) h fun x y v d kd fv hi hz e P q => by
    have st := SStep.ext hz hi P.inv P.ext
    cases kd with
    | br => exact q.elim
    | fz => exact q y v fv rfl st P.own P.kd
    | ow => exact q y v fv rfl st P.own ⟨P.kd.1, fun a ha => hz.dm a (P.kd.2 a ha).1⟩
theorem r_retv {i : Nat} {e : Expr} {pos : Pos} (he : PE X e (tVar i)) : PS X (.Return (some e) pos) (tT G W z (sRetV i)) := PS.of (ps_ret he) fun D σ H h => by
  obtain ⟨x, rfl, rfl, hi, hz, q⟩ := h
  unfold sRetV at q
  cases hρ : x.rho[i]? with
  | none => rw [hρ] at q; exact q.elim
  | some sl =>
    cases sl with
    | none => rw [hρ] at q; exact q.elim
    | some df =>
      obtain ⟨d, fl⟩ := df
      rw [hρ] at q
      obtain ⟨v, fp, e1, w, f0, n0, m⟩ := hi.sl.get hρ
      refine ⟨v, e1, ?_⟩
      cases fl with
      | fz => exact q x v fp rfl (.refl hi hz) w (f0 rfl)
      | ow =>
        refine q x v fp rfl (.refl hi hz) w ⟨n0 (.inl rfl), fun a ha => ?_⟩
        rcases m a ha with z | z | z
        · exact hz.o1 a z.2
        · simp at z
        · simp at z
      | pn => exact q.elim
      | lk => exact q.elim
theorem r_retn {pos : Pos} : PS X (.Return none pos) (tT G W z sRetN) := PS.of ps_retN fun D σ H h => by
  obtain ⟨x, rfl, rfl, hi, hz, q⟩ := h
  exact q x .non [] rfl (.refl hi hz) (.fz (.atom rfl .nil)) rfl
theorem r_nil : PSs X [] (tT G W z sNil) := PSs.of pss_nil fun D σ H h => by
  obtain ⟨x, rfl, rfl, hi, hz, q⟩ := h
  exact q x rfl (.refl hi hz)
theorem r_pass {pos : Pos} : PS X (.Pass pos) (tT G W z sNil) := PS.of ps_pass fun D σ H h => by
  obtain ⟨x, rfl, rfl, hi, hz, q⟩ := h
  exact q x rfl (.refl hi hz)
def sBrk : SE := fun ρ => pure (.bk ρ)
def sCnt : SE := fun ρ => pure (.ct ρ)
theorem r_break {pos : Pos} : PS X (.Break pos) (tT G W z sBrk) := PS.of ps_break fun D σ H h => by
  obtain ⟨x, rfl, rfl, hi, hz, q⟩ := h
  exact q x rfl (.refl hi hz)
theorem r_continue {pos : Pos} : PS X (.Continue pos) (tT G W z sCnt) := PS.of ps_continue fun D σ H h => by
  obtain ⟨x, rfl, rfl, hi, hz, q⟩ := h
  exact q x rfl (.refl hi hz)
theorem r_cons {st : Stmt} {rest : List Stmt} {s t : SE} (h1 : PS X st (tT G W z s)) (h2 : PSs X rest (tT G W z t)) : PSs X (st :: rest) (tT G W z (sSeq s t)) := PSs.of (pss_cons h1 h2) fun D σ H h => by
  obtain ⟨x, rfl, rfl, hi, hz, q⟩ := h
  refine ⟨x, rfl, rfl, hi, hz, ?_⟩
  unfold sSeq at q
  cases e : s x.rho with
  | bad => simp only [e, Res.bind_bad] at q; exact q
  | err c d ρ' => simp only [e, Res.bind_err] at q; exact q
  | ok f =>
    simp only [e, Res.bind_ok] at q
    cases f with
    | nx ρ' => exact fun y hy st => ⟨y, rfl, rfl, st.inv, st.ent, by rw [hy]; exact TQ.step q st⟩
    | bk ρ' => exact q
    | ct ρ' => exact q
    | rt d k ρ' => exact q
theorem r_one {st : Stmt} {s : SE} (h1 : PS X st (tT G W z s)) : PSs X [st] (tT G W z s) := pss_one h1
theorem r_if {c : Expr} {a b : List Stmt} {pos : Pos} {sc : Bool} {f : BE} {s t : SE} (hc : PT X c (tB G W sc f)) (ha : PSs X a (tT G W z s)) (hb : PSs X b (tT G W z t)) : PS X (.If c a b pos) (tT G W z (sIf f s t)) := PS.of (ps_if hc ha hb) fun D σ H h => by
  obtain ⟨x, rfl, rfl, hi, hz, q⟩ := h
  refine ⟨x, rfl, rfl, hi, ?_⟩
  unfold sIf at q
  cases e : f x.rho with
  | bad => simp only [e, Res.bind_bad] at q; exact q
  | err c d ρ' =>
    simp only [e, Res.bind_err] at q
    intro y cls dx hρ iy ey hev
    have := q y cls dx hρ (SStep.ext hz hi iy ey) hev
    rw [ey.sg] at this; exact this
  | ok r =>
    obtain ⟨b, ρ1⟩ := r
    simp only [e, Res.bind_ok] at q
    intro y hρ iy ey
    have st := SStep.ext hz hi iy ey
    cases b with
    | true => rw [if_pos rfl] at q ⊢; exact ⟨y, ey.sg, rfl, iy, st.ent, by rw [hρ]; exact TQ.step q st⟩
    | false => rw [if_neg (by simp)] at q ⊢; exact ⟨y, ey.sg, rfl, iy, st.ent, by rw [hρ]; exact TQ.step q st⟩
theorem r_set {fl : Fl} {i : Nat} {tg e : Expr} {pos : Pos} {s : Bool} {f : EE} (h : PS X (.Assign [tg] e pos) (tAsg (tS G W s f) (gName i))) : PS X (.Assign [tg] e pos) (tT G W z (sSet fl i f)) := PS.of h fun D σ H h =>
  tT_expr (k := fun d k ρ1 => do let ρ2 ← setSlot fl i d k ρ1; pure (.nx ρ2)) h fun x y v d kd fv hi hz e P q => by
    cases h1 : setSlot fl i d kd y.rho with
    | bad => simp only [h1, Res.bind_bad] at q; exact q.elim
    | err c d' ρ' =>
      exfalso
      unfold setSlot at h1
      split at h1
      · split at h1 <;> first | cases h1 | (split at h1 <;> cases h1)
      · cases h1
    | ok ρ2 =>
      simp only [h1, Res.bind_ok] at q
      obtain ⟨w, w1, w2, w3, w4⟩ := set_step hi hz P h1
      have := q w w1 w4
      rw [w2, w3, P.ext.sg, e] at this
      exact this
theorem r_frz {i : Nat} {st : Stmt} {s : SE} (h : PS X st (tT G W z s)) : PS X st (tT G W z (sFrz i s)) := PS.of h fun D σ H h => by
  obtain ⟨x, rfl, rfl, hi, hz, q⟩ := h
  unfold sFrz at q
  split at q
  · rename_i d hρ
    split at q
    · rename_i hd
      obtain ⟨v, fp, o1, o3, e1, w, eo, sl⟩ := hi.sl.drop hρ
      have hil : i < x.rho.length := (List.getElem?_eq_some_iff.mp hρ).1
      have nd := hi.nd
      rw [eo] at nd
      have nd' : ((o1 ++ ([] ++ o3)) ++ (x.p ++ x.b)).Nodup := nodup_mid nd (by simp) (by simp)
      have hdis : ∀ a ∈ fp, a ∉ o1 ++ o3 ∧ a ∉ x.p ∧ a ∉ x.b := by
        intro a ha
        simp only [List.nodup_append, List.mem_append] at nd
        obtain ⟨⟨n1, ⟨n2, n3, n23⟩, n13⟩, nr, nn⟩ := nd
        refine ⟨fun z => ?_, fun z => nn a (.inr (.inl ha)) a (.inl z) rfl, fun z => nn a (.inr (.inl ha)) a (.inr z) rfl⟩
        rcases List.mem_append.mp z with z | z
        · exact n13 a z a (.inl ha) rfl
        · exact n23 a ha a z rfl
      have i1 : SInv G { x with rho := x.rho.set i none, o := o1 ++ o3 } := ⟨sl, by simpa using nd', hi.dom, hi.tb⟩
      have i2 := i1.freeze (fv := fp) fun a ha => ⟨(w.there a ha).2, hdis a ha⟩
      have r : Rep G (fun a => x.F a ∨ a ∈ fp) x.H [v] [d] := w.rep (fun a ha => .inr ha) (fun _ h => .inl h) hd
      obtain ⟨p1, old, p3, ep, sl3⟩ := i2.sl.set (i := i) (v := v) (d := d) (by simpa using hil) (fun d' fl' e => by
        have e : (x.rho.set i none)[i]? = some (some (d', fl')) := e
        rw [List.getElem?_set_self hil] at e; cases e) (.fz r)
      have sl3 : Slots G (fun a => x.F a ∨ a ∈ fp) x.H ((x.rho.set i none).set i (some (d, .fz))) (x.sg.set i (some v)) (p1 ++ ([] ++ p3)) x.p x.b := sl3
      have ep : o1 ++ o3 = p1 ++ (old ++ p3) := ep
      rw [List.set_set] at sl3
      have es : x.sg.set i (some v) = x.sg := by
        apply List.ext_getElem?
        intro j
        by_cases ej : i = j
        · subst ej; rw [List.getElem?_set_self (by have := (List.getElem?_eq_some_iff.mp e1).1; exact this), e1]
        · rw [List.getElem?_set_ne ej]
      rw [es] at sl3
      have nd3 : ((p1 ++ ([] ++ p3)) ++ (x.p ++ x.b)).Nodup := by
        have : ((o1 ++ o3) ++ (x.p ++ x.b)).Nodup := by simpa using nd'
        rw [ep] at this
        exact nodup_mid this (by simp) (by simp)
      have sub : ∀ a ∈ p1 ++ ([] ++ p3), a ∈ x.o := fun a ha => by
        have : a ∈ o1 ++ o3 := by
          rw [ep]; simp only [List.mem_append, List.nil_append] at ha ⊢
          rcases ha with z | z
          · exact .inl z
          · exact .inr (.inr z)
        rw [eo]; simp only [List.mem_append] at this ⊢
        rcases this with z | z
        · exact .inl z
        · exact .inr (.inr z)
      let y : Stt := ⟨fun a => x.F a ∨ a ∈ fp, x.rho.set i (some (d, .fz)), x.sg, x.H, p1 ++ ([] ++ p3), x.p, x.b⟩
      have st : SStep G z x y := by
        refine ⟨⟨sl3, nd3, i2.dom, hi.tb⟩, ⟨fun a f => ?_, hz.kp, hz.p1, fun a ha => hz.o1 a (sub a ha), hz.dm, fun a f => .inl (hz.f0 a f)⟩, fun j d0 fl0 e hf => ⟨d0, ?_, fun _ => rfl, rfl⟩, .refl, fun _ f => .inl f⟩
        · rcases f with f | f
          · exact hz.f1 a f
          · exact .inr (hz.o1 a (by rw [eo]; simp [f]))
        · have ne : i ≠ j := by
            intro q; subst q
            rw [hρ] at e; cases e; simp at hf
          show (x.rho.set i (some (d, .fz)))[j]? = _
          rw [List.getElem?_set_ne ne]; exact e
      exact ⟨y, rfl, rfl, st.inv, st.ent, TQ.step q st⟩
    · exact q.elim
  · exact ⟨x, rfl, rfl, hi, hz, q⟩
end
end VL
/-! VL7: what is walked, targets, for and while. -/
namespace VL
open PySem PySem.Spec PyProof.Rows L2

/-! ### targets -/
structure TStep (G : Gm) (is : List Nat) (x y : Stt) : Prop where
  inv : SInv G y
  out : ∀ j, j ∉ is → y.sg[j]? = x.sg[j]?
  len : y.sg.length = x.sg.length
  H : y.H = x.H
  F : y.F = x.F
  o1 : ∀ a ∈ y.o, a ∈ x.o
  p1 : y.p = x.p
  b1 : y.b = x.b
  lk : ∀ (j : Nat) (d : D) (fl : Fl), x.rho[j]? = some (some (d, fl)) → fl = Fl.lk ∨ fl = Fl.pn → y.rho[j]? = some (some (d, fl)) ∧ y.sg[j]? = x.sg[j]?
theorem TStep.refl {G is x} (h : SInv G x) : TStep G is x x := ⟨h, fun _ _ => rfl, rfl, rfl, rfl, fun _ h => h, rfl, rfl, fun _ _ _ e _ => ⟨e, rfl⟩⟩
theorem TStep.mono {G is js x y} (a : TStep G is x y) (h : ∀ j ∈ is, j ∈ js) : TStep G js x y := { a with out := fun j hj => a.out j fun z => hj (h j z) }
theorem TStep.trans {G is x y w} (a : TStep G is x y) (b : TStep G is y w) : TStep G is x w := ⟨b.inv, fun j h => (b.out j h).trans (a.out j h), b.len.trans a.len, b.H.trans a.H, b.F.trans a.F, fun c h => a.o1 c (b.o1 c h), b.p1.trans a.p1, b.b1.trans a.b1, fun j d fl e hf => by
  obtain ⟨e1, s1⟩ := a.lk j d fl e hf
  obtain ⟨e2, s2⟩ := b.lk j d fl e1 hf
  exact ⟨e2, s2.trans s1⟩⟩
theorem TStep.step {G is z x y} (e : EInv z x) (t : TStep G is x y) : SStep G z x y where
  inv := t.inv
  ent := ⟨fun a f => e.f1 a (by rw [← t.F]; exact f), by rw [t.H]; exact e.kp, t.p1.trans e.p1, fun a h => e.o1 a (t.o1 a h), fun a h => e.dm a (by rw [← t.H]; exact h), fun a f => by rw [t.F]; exact e.f0 a f⟩
  lk := fun j d fl e1 hf => by
    obtain ⟨e2, s2⟩ := t.lk j d fl e1 hf
    exact ⟨d, e2, fun _ => rfl, s2⟩
  kf := by rw [t.H]; exact .refl
  f1 := fun a f => by rw [t.F]; exact f
abbrev GE := D → Env → Res Env
def tG (G : Gm) (is : List Nat) (g : GE) : TG := fun v σ H Q => ∃ (x : Stt) (d : D), x.sg = σ ∧ x.H = H ∧ SInv G x ∧ Rep G x.F x.H [v] [d] ∧
  match g d x.rho with
  | .ok ρ' => ∀ y, y.rho = ρ' → TStep G is x y → Q y.sg y.H
  | _ => False
def tGs (G : Gm) (is : List Nat) (g : List D → Env → Res Env) : TGs := fun vs σ H Q => ∃ (x : Stt) (ds : List D), x.sg = σ ∧ x.H = H ∧ SInv G x ∧ Rep G x.F x.H vs ds ∧
  match g ds x.rho with
  | .ok ρ' => ∀ y, y.rho = ρ' → TStep G is x y → Q y.sg y.H
  | _ => False
def gNm (i : Nat) : GE := fun d ρ => setSlot .fz i d .fz ρ
def gsN : List D → Env → Res Env := fun ds ρ => match ds with
  | [] => .ok ρ
  | _ => .bad
def gsC (g : GE) (gs : List D → Env → Res Env) : List D → Env → Res Env := fun ds ρ => match ds with
  | d :: r => do
    let ρ1 ← g d ρ
    gs r ρ1
  | [] => .bad
def gTp (n : Nat) (gs : List D → Env → Res Env) : GE := fun d ρ => match d with
  | .tup ds => if ds.length = n then gs ds ρ else .bad
  | _ => .bad
theorem set_tstep {G : Gm} {x : Stt} {v : V} {d : D} {i : Nat} {ρ2 : Env} (hx : SInv G x) (r : Rep G x.F x.H [v] [d]) (h : setSlot .fz i d .fz x.rho = .ok ρ2) :
    ∃ w : Stt, w.rho = ρ2 ∧ w.sg = x.sg.set i (some v) ∧ w.H = x.H ∧ TStep G [i] x w := by
  unfold setSlot at h
  by_cases hc : canSet x.rho i = true
  · rw [if_pos hc] at h
    obtain ⟨hi, hn⟩ := canSet_spec hc
    simp at h
    obtain ⟨o1, old, o3, eo, sl⟩ := hx.sl.set (i := i) hi hn (.fz r)
    refine ⟨⟨x.F, ρ2, x.sg.set i (some v), x.H, o1 ++ ([] ++ o3), x.p, x.b⟩, rfl, rfl, rfl, ⟨⟨by rw [← h]; exact sl, ?_, hx.dom, hx.tb⟩, fun j hj => List.getElem?_set_ne (by simpa using fun e => hj (by simp [e])), by simp, rfl, rfl, fun a ha => ?_, rfl, rfl, fun j d0 fl0 e hf => ?_⟩⟩
    · have := hx.nd; rw [eo] at this
      exact nodup_mid this (by simp) (by simp)
    · rw [eo]; simp only [List.mem_append, List.nil_append] at ha ⊢
      rcases ha with q | q
      · exact .inl q
      · exact .inr (.inr q)
    · have ne : i ≠ j := by
        intro q; subst q
        rcases hn _ _ e with q | q <;> subst q <;> simp at hf
      rw [← h]
      exact ⟨by rw [List.getElem?_set_ne ne]; exact e, by rw [List.getElem?_set_ne ne]⟩
  · rw [if_neg hc] at h; cases h
section
variable {X : Cx} {G : Gm} {W : WX} {z : Stt}
theorem PG.of {e : Expr} {t u : TG} (h : PG X e t) (i : ∀ v σ H Q, u v σ H Q → t v σ H Q) : PG X e u := ⟨fun pins s σ H v w Q I r q => h.run pins s σ H v w Q I r (i v σ H Q q)⟩
theorem PGs.of {e : List Expr} {t u : TGs} (h : PGs X e t) (i : ∀ v σ H Q, u v σ H Q → t v σ H Q) : PGs X e u := ⟨fun pins s σ H v w Q I r q => h.run pins s σ H v w Q I r (i v σ H Q q)⟩
theorem g_name {i : Nat} {e : Expr} (h : PG X e (gName i)) : PG X e (tG G [i] (gNm i)) := PG.of h fun v σ H Q ⟨x, d, e1, e2, hi, r, q⟩ => by
  subst e1 e2
  unfold gNm at q
  cases h1 : setSlot .fz i d .fz x.rho with
  | bad => rw [h1] at q; exact q.elim
  | err c d' ρ' => rw [h1] at q; exact q.elim
  | ok ρ2 =>
    rw [h1] at q
    obtain ⟨w, w1, w2, w3, w4⟩ := set_tstep hi r h1
    have := q w w1 w4
    rw [w2, w3] at this; exact this
theorem g_nil : PGs X [] (tGs G [] gsN) := PGs.of pgs_nil fun vs σ H Q ⟨x, ds, e1, e2, hi, r, q⟩ => by
  subst e1 e2
  cases ds with
  | nil => exact ⟨r.nil_of, q x rfl (.refl hi)⟩
  | cons d ds => exact q.elim
theorem g_cons {e : Expr} {es : List Expr} {is js : List Nat} {g : GE} {gs : List D → Env → Res Env} (h1 : PG X e (tG G is g)) (h2 : PGs X es (tGs G js gs)) (hs : (assignEach (e :: es) X.env).map (·.2) = assign e X.env :: (assignEach es X.env).map (·.2) := by rfl) :
    PGs X (e :: es) (tGs G (is ++ js) (gsC g gs)) := PGs.of (pgs_cons h1 h2 hs) fun vs σ H Q ⟨x, ds, e1, e2, hi, r, q⟩ => by
  subst e1 e2
  cases ds with
  | nil => exact q.elim
  | cons d ds =>
    obtain ⟨v, ws, rfl, r1, r2⟩ := r.cons_of
    refine ⟨v, ws, rfl, x, d, rfl, rfl, hi, r1, ?_⟩
    simp only [gsC] at q
    cases h1 : g d x.rho with
    | bad => simp only [h1, Res.bind_bad] at q
    | err c d' ρ' => simp only [h1, Res.bind_err] at q
    | ok ρ1 =>
      simp only [h1, Res.bind_ok] at q
      intro y hy st
      refine ⟨y, ds, rfl, rfl, st.inv, by rw [st.F, st.H]; exact r2, ?_⟩
      rw [hy]
      cases h2 : gs ds ρ1 with
      | bad => simp only [h2] at q
      | err c d' ρ' => simp only [h2] at q
      | ok ρ2 =>
        simp only [h2] at q
        exact fun w hw st2 => q w hw ((st.mono fun j h => by simp [h]).trans (st2.mono fun j h => by simp [h]))
theorem g_tup {es : List Expr} {k : Nat} {pos : Pos} {is : List Nat} {gs : List D → Env → Res Env} {n : Nat} (hc : X.calm = true) (hK : X.K = G.K) (h : PGs X es (tGs G is gs))
    (hn : (assignEach es X.env).length = n := by rfl) (hst : (assignEach es X.env).findIdx? (·.1) = none := by rfl) : PG X (.Tuple es k pos) (tG G is (gTp n gs)) := PG.of (pg_tup hc h hn hst) fun v σ H Q ⟨x, d, e1, e2, hi, r, q⟩ => by
  subst e1 e2
  unfold gTp at q
  cases d <;> first | exact q.elim | skip
  case tup ds =>
    simp only at q
    by_cases hl : ds.length = n
    · rw [if_pos hl] at q
      have : ∃ a ws, v = .ref a ∧ SqT X.K x.H a ws ∧ Rep G x.F x.H ws ds := by
        cases r with
        | atom e _ => cases v <;> simp [atomD] at e
        | tup f e z r1 _ => exact ⟨_, _, rfl, .of e, r1⟩
      obtain ⟨a, ws, rfl, sq, r1⟩ := this
      exact ⟨a, ws, rfl, sq, by rw [r1.length]; exact hl, x, ds, rfl, rfl, hi, r1, q⟩
    · rw [if_neg hl] at q; exact q.elim
end

theorem Own.fz_of {G : Gm} {F : Addr → Prop} {H : Hp} {v : V} {d : D} (h : Own G F H v d []) : Rep G F H [v] [d] := by
  cases h with
  | fz r => exact r
/-! ### what is walked -/
/-- J walks the data ds, as long as what y froze stands (where br: as long as all stands) -/
def Walks (G : Gm) (y : Stt) (J : It) (ds : List D) (br : Bool) : Prop := ∀ w : Stt, SInv G w → (∀ a, y.F a → w.F a) → KeptF y.F y.H w.H → (br = true → Kept [] y.H w.H) →
  ∀ i, (∀ d, ds[i]? = some d → J.go i w.H ∧ ∀ v H', J.yld i w.H v H' → ∃ F', NewV G w.F w.H F' H' v d .fz []) ∧ (ds.length ≤ i → J.stop i w.H)
abbrev IE := Env → Res (List D × Bool × Env)
def tI (G : Gm) (W : WX) (still : Bool) (f : IE) : TI := fun σ H R => ∃ x : Stt, x.sg = σ ∧ x.H = H ∧ SInv G x ∧
  match f x.rho with
  | .ok (ds, br, ρ') => ∀ y J, y.rho = ρ' → SInv G y → Ext still x y → Walks G y J ds br → R J y.H
  | .err c d ρ' => ∀ y cls dx, y.rho = ρ' → SInv G y → Ext still x y → ErrV G y cls dx c d → W cls dx σ y.H
  | .bad => False
def forL (g : GE) (body : SE) : List D → Env → Res Flo
  | [], ρ => .ok (.nx ρ)
  | d :: ds, ρ => do
    let ρ1 ← g d ρ
    match ← body ρ1 with
    | .nx ρ2 => forL g body ds ρ2
    | .ct ρ2 => forL g body ds ρ2
    | .bk ρ2 => .ok (.nx ρ2)
    | .rt d k ρ2 => .ok (.rt d k ρ2)
def sFor (it : IE) (g : GE) (body : SE) : SE := fun ρ => do
  let (ds, br, ρ1) ← it ρ
  if br = true then .bad else forL g body ds ρ1
def whileL (c : BE) (body : SE) : Nat → Env → Res Flo
  | 0, _ => .bad
  | n + 1, ρ => do
    let (b, ρ1) ← c ρ
    if b = true then do
      match ← body ρ1 with
      | .nx ρ2 => whileL c body n ρ2
      | .ct ρ2 => whileL c body n ρ2
      | .bk ρ2 => .ok (.nx ρ2)
      | .rt d k ρ2 => .ok (.rt d k ρ2)
    else .ok (.nx ρ1)
def sWhile (n : Nat) (c : BE) (body : SE) : SE := fun ρ => whileL c body n ρ
section
variable {X : Cx} {G : Gm} {W : WX} {z : Stt}
theorem PI.of {tg e : Expr} {t u : TI} (h : PI X tg e t) (i : ∀ σ H R, u σ H R → t σ H R) : PI X tg e u := ⟨fun pins s σ H R I w => h.run pins s σ H R I (i σ H R w)⟩
theorem PI.or {tg e : Expr} {t u : TI} (h : PI X tg e t) (h' : PI X tg e u) : PI X tg e (fun σ H R => t σ H R ∨ u σ H R) := ⟨fun pins s σ H R I w => w.elim (h.run pins s σ H R I) (h'.run pins s σ H R I)⟩
theorem g_ok {g : GE} {body : SE} {d : D} {ds : List D} {x : Stt} {Dn : Ends} (q : TQ G W z x Dn (forL g body (d :: ds) x.rho)) :
    (∃ ρ1, g d x.rho = .ok ρ1 ∧ TQ G W z x Dn (do match ← body ρ1 with | .nx ρ2 => forL g body ds ρ2 | .ct ρ2 => forL g body ds ρ2 | .bk ρ2 => .ok (.nx ρ2) | .rt d k ρ2 => .ok (.rt d k ρ2))) ∨ ∃ c e ρ', g d x.rho = .err c e ρ' := by
  simp only [forL] at q
  cases h : g d x.rho with
  | bad => simp only [h, Res.bind_bad] at q; exact q.elim
  | err c e ρ' => exact .inr ⟨c, e, ρ', rfl⟩
  | ok ρ1 => simp only [h, Res.bind_ok] at q; exact .inl ⟨ρ1, rfl, q⟩
/-- targets never raise -/
def NoErr (g : GE) : Prop := ∀ d ρ c e ρ', g d ρ ≠ .err c e ρ'
def NoErrs (g : List D → Env → Res Env) : Prop := ∀ d ρ c e ρ', g d ρ ≠ .err c e ρ'
theorem ne_name {i : Nat} : NoErr (gNm i) := fun d ρ c e ρ' h => by
  unfold gNm setSlot at h
  split at h
  · simp at h
  · cases h
theorem ne_nil : NoErrs gsN := fun ds ρ c e ρ' h => by cases ds <;> simp [gsN] at h
theorem ne_cons {g gs} (h1 : NoErr g) (h2 : NoErrs gs) : NoErrs (gsC g gs) := fun ds ρ c e ρ' h => by
  cases ds with
  | nil => simp [gsC] at h
  | cons d ds =>
    simp only [gsC] at h
    cases h3 : g d ρ with
    | bad => simp [h3] at h
    | err c1 e1 ρ1 => exact h1 d ρ c1 e1 ρ1 h3
    | ok ρ1 => simp only [h3, Res.bind_ok] at h; exact h2 _ _ _ _ _ h
theorem ne_tup {n gs} (h : NoErrs gs) : NoErr (gTp n gs) := fun d ρ c e ρ' q => by
  unfold gTp at q
  split at q
  · split at q
    · exact h _ _ _ _ _ q
    · cases q
  · cases q
theorem r_for {tg iter : Expr} {body : List Stmt} {pos : Pos} {s : Bool} {it : IE} {is : List Nat} {g : GE} {bd : SE} (hp : PassesOwn (model X.prog X.w) X.A X.env X.xe) (hc : X.calm = true) (hi : PI X tg iter (tI G W s it)) (hg : PG X tg (tG G is g)) (hne : NoErr g) (hb : PSs X body (tT G W z bd))
    (hs : ∀ x, foldedSetIterable iter X.env x = pure x := by intro _; rfl) : PS X (.For tg iter body [] pos) (tT G W z (sFor it g bd)) := PS.of (ps_for hp hc hi hg hb hs) fun Dn σ H h => by
  obtain ⟨x, rfl, rfl, hx, hz, q⟩ := h
  refine ⟨x, rfl, rfl, hx, ?_⟩
  unfold sFor at q
  cases e : it x.rho with
  | bad => simp only [e, Res.bind_bad] at q; exact q
  | err c d ρ' =>
    simp only [e, Res.bind_err] at q
    intro y cls dx hρ iy ey hev
    have := q y cls dx hρ (SStep.ext hz hx iy ey) hev
    rw [ey.sg] at this; exact this
  | ok r =>
    obtain ⟨ds, br, ρ1⟩ := r
    simp only [e, Res.bind_ok] at q
    intro y J hρ iy ey wk
    cases br with
    | true => rw [if_pos rfl] at q; exact q.elim
    | false =>
    rw [if_neg (by simp)] at q
    have st0 := SStep.ext hz hx iy ey
    have q0 : TQ G W z y Dn (forL g bd ds y.rho) := by rw [hρ]; exact TQ.step q st0
    refine ⟨fun i m σ' H' => ∃ w : Stt, w.sg = σ' ∧ w.H = H' ∧ SStep G z y w ∧ m = ds.length - i ∧ i ≤ ds.length ∧ TQ G W z w Dn (forL g bd (ds.drop i) w.rho), ⟨ds.length, y, ey.sg, rfl, .refl iy st0.ent, by simp, Nat.zero_le _, q0⟩, ?_⟩
    rintro i m σ' H' ⟨w, rfl, rfl, sw, rfl, hi, qw⟩
    have wkw := wk w sw.inv sw.f1 sw.kf (by simp) i
    by_cases hlt : i < ds.length
    · have ed : ds[i]? = some ds[i] := List.getElem?_eq_getElem hlt
      obtain ⟨hgo, hy⟩ := wkw.1 _ ed
      rw [List.drop_eq_getElem_cons hlt] at qw
      rcases g_ok qw with ⟨ρ2, hg2, qb⟩ | ⟨c, e', ρ', hg2⟩
      · refine .inr ⟨hgo, fun σ' H' => ∃ w' : Stt, w'.sg = σ' ∧ w'.H = H' ∧ SStep G z y w' ∧ TQ G W z w' Dn (forL g bd (ds.drop (i + 1)) w'.rho), fun σ' H' ⟨w', e1, e2, s2, q2⟩ => ⟨ds.length - (i + 1), by omega, w', e1, e2, s2, rfl, hlt, q2⟩, fun v H' yl => ?_⟩
        obtain ⟨F', n⟩ := hy v H' yl
        have P := n.post sw.inv
        have s1 := SStep.ext sw.ent sw.inv P.inv P.ext
        have r1 : Rep G F' H' [v] [ds[i]] := n.own.fz_of
        refine ⟨{ w with F := F', H := H' }, ds[i], rfl, rfl, P.inv, r1, ?_⟩
        show (match g ds[i] w.rho with | .ok ρ' => _ | _ => False)
        rw [hg2]
        intro u hu tu
        have s2 := s1.trans (tu.step s1.ent)
        refine ⟨u, rfl, rfl, tu.inv, s2.ent, ?_⟩
        have qb := TQ.step qb s2
        rw [hu]
        cases e3 : bd ρ2 with
        | bad => simp only [e3, Res.bind_bad] at qb; exact qb
        | err c d ρ' => simp only [e3, Res.bind_err] at qb; exact qb
        | ok f =>
          simp only [e3, Res.bind_ok] at qb
          cases f with
          | nx ρ3 => exact fun w' hw' sw' => ⟨w', rfl, rfl, (sw.trans s2).trans sw', by rw [hw']; exact TQ.step qb sw'⟩
          | ct ρ3 => exact fun w' hw' sw' => ⟨w', rfl, rfl, (sw.trans s2).trans sw', by rw [hw']; exact TQ.step qb sw'⟩
          | bk ρ3 => exact fun w' hw' sw' => qb w' hw' sw'
          | rt d k ρ3 => exact qb
      · exact absurd hg2 (hne _ _ _ _ _)
    · have ei : i = ds.length := by omega
      subst ei
      rw [List.drop_length] at qw
      exact .inl ⟨wkw.2 (Nat.le_refl _), qw w rfl (.refl sw.inv sw.ent)⟩
theorem r_while {c : Expr} {body : List Stmt} {pos : Pos} {s : Bool} {f : BE} {bd : SE} (n : Nat) (hp : PassesOwn (model X.prog X.w) X.A X.env X.xe) (hc : PT X c (tB G W s f)) (hb : PSs X body (tT G W z bd)) : PS X (.While c body [] pos) (tT G W z (sWhile n f bd)) := PS.of (ps_while hp hc hb) fun Dn σ H h => by
  obtain ⟨x, rfl, rfl, hx, hz, q⟩ := h
  refine ⟨fun m σ' H' => ∃ w : Stt, w.sg = σ' ∧ w.H = H' ∧ SStep G z x w ∧ TQ G W z w Dn (whileL f bd m w.rho), ⟨n, x, rfl, rfl, .refl hx hz, q⟩, ?_⟩
  rintro m σ' H' ⟨w, rfl, rfl, sw, qw⟩
  refine ⟨w, rfl, rfl, sw.inv, ?_⟩
  cases m with
  | zero => exact qw.elim
  | succ m =>
    simp only [whileL] at qw
    cases e : f w.rho with
    | bad => simp only [e, Res.bind_bad] at qw; exact qw
    | err c d ρ' =>
      simp only [e, Res.bind_err] at qw
      intro y cls dx hρ iy ey hev
      have := qw y cls dx hρ (SStep.ext sw.ent sw.inv iy ey) hev
      rw [ey.sg] at this; exact this
    | ok r =>
      obtain ⟨b, ρ1⟩ := r
      simp only [e, Res.bind_ok] at qw
      intro y hρ iy ey
      have s1 := SStep.ext sw.ent sw.inv iy ey
      have qw := TQ.step qw s1
      cases b with
      | true =>
        rw [if_pos rfl] at qw ⊢
        refine ⟨fun σ' H' => ∃ w' : Stt, w'.sg = σ' ∧ w'.H = H' ∧ SStep G z x w' ∧ TQ G W z w' Dn (whileL f bd m w'.rho), fun σ' H' ⟨w', e1, e2, s2, q2⟩ => ⟨m, Nat.lt_succ_self _, w', e1, e2, s2, q2⟩, y, ey.sg, rfl, iy, s1.ent, ?_⟩
        rw [hρ]
        cases e3 : bd ρ1 with
        | bad => simp only [e3, Res.bind_bad] at qw; exact qw
        | err c d ρ' => simp only [e3, Res.bind_err] at qw; exact qw
        | ok fl =>
          simp only [e3, Res.bind_ok] at qw
          cases fl with
          | nx ρ3 => exact fun w' hw' sw' => ⟨w', rfl, rfl, (sw.trans s1).trans sw', by rw [hw']; exact TQ.step qw sw'⟩
          | ct ρ3 => exact fun w' hw' sw' => ⟨w', rfl, rfl, (sw.trans s1).trans sw', by rw [hw']; exact TQ.step qw sw'⟩
          | bk ρ3 => exact fun w' hw' sw' => qw w' hw' sw'
          | rt d k ρ3 => exact qw
      | false =>
        rw [if_neg (by simp)] at qw ⊢
        have := qw y hρ (.refl iy s1.ent)
        rw [ey.sg] at this; exact this
end
end VL
/-! VL8: lists, tuples and ranges walked; comprehensions. -/
namespace VL
open PySem PySem.Spec PyProof.Rows L2

theorem Own.lst_of {G : Gm} {F : Addr → Prop} {H : Hp} {v : V} {ds : List D} {fp : List Addr} (h : Own G F H v (.lst ds) fp) (K : PySem.W.Frag) :
    ∃ a ws, v = .ref a ∧ SqL K H a ws ∧ ws.length ≤ sizeLine ∧ Rep G F H ws ds ∧
      ∀ (F' : Addr → Prop) (H' : Hp), (∀ x, F x → F' x) → KeptF F H H' → (F' a ∨ fp = [] ∨ Kept [] H H') → (F' a → fp ≠ [] → H' a = H a) → SqL K H' a ws := by
  cases h with
  | fz r =>
    cases r with
    | atom e _ => cases v <;> simp [atomD] at e
    | lst f e z r1 _ => exact ⟨_, _, rfl, .of e, z, r1, fun F' H' _ k _ _ => .of (k _ _ f e rfl)⟩
  | ow f ob =>
    obtain ⟨ws, e, z, r⟩ := ob
    refine ⟨_, ws, rfl, .of e, z, r, fun F' H' _ k c q => ?_⟩
    rcases c with c | c | c
    · exact .of (by rw [q c (by simp)]; exact e)
    · simp at c
    · exact .of (c _ _ e (by simp) rfl)
theorem Own.scr_of {G : Gm} {F : Addr → Prop} {H : Hp} {v : V} {ns : List Int} {fp : List Addr} (h : Own G F H v (.scr ns) fp) {K : PySem.W.Frag} (hK : K = G.K) :
    ∃ a, v = .ref a ∧ SqL K H a (ns.map V.int) ∧ ns.length ≤ sizeLine ∧ fp = [] ∧ ∀ (F' : Addr → Prop) (H' : Hp), (∀ x, F x → F' x) → KeptF F H H' → SqL K H' a (ns.map V.int) := by
  subst hK
  cases h with
  | fz r =>
    cases r with
    | atom e _ => cases v <;> simp [atomD] at e
    | scr f e z _ => exact ⟨_, rfl, .inl (.inr ⟨_, e⟩), z, rfl, fun F' H' _ k => .inl (.inr ⟨_, k _ _ f e rfl⟩)⟩
    | scrK f z _ => exact ⟨_, rfl, .inr f, z, rfl, fun _ _ _ _ => .inr f⟩
  | ow f ob => exact False.elim ob
theorem Own.tup_of {G : Gm} {F : Addr → Prop} {H : Hp} {v : V} {ds : List D} {fp : List Addr} (h : Own G F H v (.tup ds) fp) {K : PySem.W.Frag} (hK : K = G.K) :
    ∃ a ws, v = .ref a ∧ SqT K H a ws ∧ ws.length ≤ sizeLine ∧ Rep G F H ws ds ∧ fp = [] ∧ ∀ (F' : Addr → Prop) (H' : Hp), (∀ x, F x → F' x) → KeptF F H H' → SqT K H' a ws := by
  subst hK
  cases h with
  | fz r =>
    cases r with
    | atom e _ => cases v <;> simp [atomD] at e
    | tup f e z r1 _ => exact ⟨_, _, rfl, .of e, z, r1, rfl, fun F' H' _ k => .of (k _ _ f e rfl)⟩
  | ow f ob => exact False.elim ob
def iSeq (f : EE) : IE := fun ρ => do
  let (d, k, ρ1) ← f ρ
  match d with
  | .lst ds => pure (ds, decide (k = .br), ρ1)
  | .tup ds => pure (ds, false, ρ1)
  | .scr ns => pure (ns.map D.int, false, ρ1)
  | _ => .bad
section
variable {X : Cx} {G : Gm} {W : WX} {z : Stt}
theorem r_iseq {tg e : Expr} {s : Bool} {f : EE} (hK : X.K = G.K) (h : PE X e (tS G W s f)) : PI X tg e (tI G W s (iSeq f)) := PI.of (PI.or (pi_list h) (pi_tup h)) fun σ H R ⟨x, e1, e2, hx, q⟩ => by
  subst e1 e2
  unfold iSeq at q
  cases e : f x.rho with
  | bad => simp only [e, Res.bind_bad] at q
  | err c d ρ' =>
    simp only [e, Res.bind_err] at q
    refine .inl ⟨x, rfl, rfl, hx, ?_⟩
    rw [e]; exact q
  | ok r =>
    obtain ⟨d, k, ρ1⟩ := r
    simp only [e, Res.bind_ok] at q
    cases d <;> first | exact q.elim | skip
    case tup ds =>
      refine .inr ⟨x, rfl, rfl, hx, ?_⟩
      rw [e]
      intro y v fv hρ P
      obtain ⟨a, ws, rfl, sq, hz, r, hf, stay⟩ := P.own.tup_of hK
      refine ⟨a, rfl, ⟨ws, sq⟩, q y _ hρ P.inv P.ext fun w iw f1 kf _ i => ⟨fun d hd => ?_, fun hl => ⟨ws, stay _ _ f1 kf, by rw [r.length]; exact hl⟩⟩⟩
      obtain ⟨u, hu, ru⟩ := (r.keep f1 kf).get hd
      refine ⟨⟨ws, u, stay _ _ f1 kf, hu⟩, fun v H' yl => ?_⟩
      obtain ⟨e1, yl⟩ := yl
      subst e1
      have := yl ws (stay _ _ f1 kf)
      rw [hu] at this; cases this
      exact ⟨w.F, .same iw.dom ru⟩
    case scr ns =>
      refine .inl ⟨x, rfl, rfl, hx, ?_⟩
      rw [e]
      intro y v fv hρ P
      obtain ⟨a, rfl, sq, hz, hf, stay⟩ := P.own.scr_of hK
      have r : Rep G y.F y.H (ns.map V.int) (ns.map D.int) := Rep.ints ns
      refine ⟨a, rfl, ⟨_, sq⟩, q y _ hρ P.inv P.ext fun w iw f1 kf _ i => ⟨fun d hd => ?_, fun hl => ⟨_, stay _ _ f1 kf, by rw [r.length]; exact hl⟩⟩⟩
      obtain ⟨u, hu, ru⟩ := (r.keep f1 kf).get hd
      refine ⟨⟨_, u, stay _ _ f1 kf, hu⟩, fun v H' yl => ?_⟩
      obtain ⟨e1, yl⟩ := yl
      subst e1
      have := yl _ (stay _ _ f1 kf)
      rw [hu] at this; cases this
      exact ⟨w.F, .same iw.dom ru⟩
    case lst ds =>
      refine .inl ⟨x, rfl, rfl, hx, ?_⟩
      rw [e]
      intro y v fv hρ P
      obtain ⟨a, ws, rfl, sq, hz, r, stay⟩ := P.own.lst_of X.K
      have av : fv = [] ∨ fv = [a] := by
        cases P.own with
        | fz _ => exact .inl rfl
        | ow _ _ => exact .inr rfl
      refine ⟨a, rfl, ⟨ws, sq⟩, ?_⟩
      -- the walk, once it is known that the list stays
      have wk : ∀ (y' : Stt), y'.H = y.H → (∀ b, y.F b → y'.F b) → ∀ br, (∀ w : Stt, SInv G w → (∀ b, y'.F b → w.F b) → KeptF y'.F y'.H w.H → (br = true → Kept [] y'.H w.H) → SqL X.K w.H a ws) → Walks G y' (Itl X.K a) ds br := by
        intro y' eH f0 br st w iw f1 kf kb i
        have sw := st w iw f1 kf kb
        have rw' : Rep G w.F w.H ws ds := r.keep (fun b h => f1 b (f0 b h)) (by rw [← eH]; exact fun b o hb e t => kf b o (f0 b hb) e t)
        refine ⟨fun d hd => ?_, fun hl => ⟨ws, sw, by rw [r.length]; exact hl⟩⟩
        obtain ⟨u, hu, ru⟩ := rw'.get hd
        refine ⟨⟨ws, u, sw, hu⟩, fun v H' yl => ?_⟩
        obtain ⟨e1, yl⟩ := yl
        subst e1
        have := yl ws sw
        rw [hu] at this; cases this
        exact ⟨w.F, .same iw.dom ru⟩
      cases k with
      | fz =>
        have hf : fv = [] := P.kd
        refine q y _ hρ P.inv P.ext (wk y rfl (fun _ h => h) _ fun w iw f1 kf kb => stay _ _ f1 kf (.inr (.inl hf)) fun _ n => absurd hf n)
      | br =>
        refine q y _ hρ P.inv P.ext (wk y rfl (fun _ h => h) _ fun w iw f1 kf kb => stay _ _ f1 kf (.inr (.inr (kb (by simp)))) fun fa n => ?_)
        have ha : a ∈ fv := by rcases av with z | z <;> simp_all
        obtain ⟨_, o, ho, ht⟩ := P.own.there a ha
        rw [ho]; exact kb (by simp) a o ho (by simp) ht
      | ow =>
        have hF := P.inv.freeze (fv := fv) fun b hb => ⟨(P.own.there b hb).2, (P.kd.2 b hb).2⟩
        have hE : Ext s x { y with F := fun b => y.F b ∨ b ∈ fv } := { P.ext with f1 := fun b h => .inl (P.ext.f1 b h), f2 := fun b h => h.elim (P.ext.f2 b) fun h => .inr (P.kd.2 b h).1 }
        refine q { y with F := fun b => y.F b ∨ b ∈ fv } _ hρ hF hE (wk { y with F := fun b => y.F b ∨ b ∈ fv } rfl (fun _ h => .inl h) _ fun w iw f1 kf kb => ?_)
        have ha : a ∈ fv := by
          have n := P.kd.1
          rcases av with z | z
          · exact absurd z n
          · simp [z]
        obtain ⟨_, o, ho, ht⟩ := P.own.there a ha
        have h' := kf a o (.inr ha) ho ht
        exact stay _ _ (fun b h => f1 b (.inl h)) (fun b o hb e t => kf b o (.inl hb) e t) (.inl (f1 a (.inr ha))) fun _ _ => by rw [h', ho]
def rng (lo : Int) (n : Nat) : List D := (List.range n).map fun (i : Nat) => D.int (lo + (i : Int))
theorem walks_range {y : Stt} {lo : Int} {n : Nat} {b : Bool} : Walks G y (Itr lo n) (rng lo n) b := fun w iw f1 kf kb i => by
  refine ⟨fun d hd => ?_, fun h => ?_⟩
  · unfold rng at hd
    rw [List.getElem?_map] at hd
    cases e : (List.range n)[i]? with
    | none => rw [e] at hd; cases hd
    | some j =>
      rw [e] at hd
      obtain ⟨hj, ej⟩ := List.getElem?_eq_some_iff.mp e
      rw [List.getElem_range] at ej
      rw [List.length_range] at hj
      subst ej
      cases hd
      refine ⟨hj, fun v H' yl => ?_⟩
      obtain ⟨rfl, rfl⟩ := yl
      exact ⟨w.F, .atom iw.dom rfl⟩
  · simp only [rng, List.length_map, List.length_range] at h
    exact h
def rngOk (i : Int) : Bool := decide (-(2 ^ 62) ≤ i ∧ i < 2 ^ 62)
def int1 : List (D × Kd) → Option Int
  | [(.int j, _)] => some j
  | _ => none
def int2 : List (D × Kd) → Option (Int × Int)
  | [(.int i, _), (.int j, _)] => some (i, j)
  | _ => none
theorem int1_of {l : List (D × Kd)} {j : Int} (h : int1 l = some j) : l.map (·.1) = [.int j] := by
  unfold int1 at h
  split at h
  · cases h; rfl
  · cases h
theorem int2_of {l : List (D × Kd)} {i j : Int} (h : int2 l = some (i, j)) : l.map (·.1) = [.int i, .int j] := by
  unfold int2 at h
  split at h
  · cases h; rfl
  · cases h
def iRng1D (f : AE) : IE := fun ρ => do
  let (l, ρ1) ← f ρ
  match int1 l with
  | some j => if rngOk j = true then pure (rng 0 j.toNat, false, ρ1) else .bad
  | none => .bad
def iRng2D (f : AE) : IE := fun ρ => do
  let (l, ρ1) ← f ρ
  match int2 l with
  | some (i, j) => if rngOk i = true ∧ rngOk j = true then pure (rng i (j - i).toNat, false, ρ1) else .bad
  | none => .bad
theorem AOk.int1 {x y vs l j} (h : AOk G x y vs l) (e : l.map (·.1) = [.int j]) : vs = [.int j] := by
  cases h with
  | nil => simp at e
  | cons w kd _ r =>
    simp at e
    obtain ⟨rfl, e⟩ := e
    cases r with
    | nil =>
      cases w with
      | fz r => rw [r.int_of]
      | ow _ ob => exact False.elim ob
    | cons _ _ _ _ => simp at e
theorem AOk.int2 {x y vs l i j} (h : AOk G x y vs l) (e : l.map (·.1) = [.int i, .int j]) : vs = [.int i, .int j] := by
  cases h with
  | nil => simp at e
  | @cons v d k fv vs dks w kd _ r =>
    simp only [List.map_cons, List.cons.injEq] at e
    obtain ⟨rfl, e⟩ := e
    rw [r.int1 e]
    cases w with
    | fz r => rw [r.int_of]
    | ow _ ob => exact False.elim ob
theorem r_irange1 {tg a : Expr} {p pos : Pos} {s : Bool} {f : AE} (hg : Gl X "range") (hm : X.mg "range" = none) (ha : PA X [a] (tA G W s f)) (hs : starEach [a] X.env = [(false, eval a X.env)] := by rfl) : PI X tg (.Call (.Name "range" p) [a] [] pos) (tI G W s (iRng1D f)) := PI.of (pi_range1 hg hm ha hs) fun σ H R ⟨x, e1, e2, hx, q⟩ => by
  subst e1 e2
  refine ⟨x, rfl, rfl, hx, ?_⟩
  unfold iRng1D at q
  cases e : f x.rho with
  | bad => simp only [e, Res.bind_bad] at q
  | err c d ρ' => simp only [e, Res.bind_err] at q; exact q
  | ok r =>
    obtain ⟨l, ρ1⟩ := r
    simp only [e, Res.bind_ok] at q
    intro y vs hρ iy ey ay
    cases hl : int1 l with
    | none => simp only [hl] at q
    | some j =>
      simp only [hl] at q
      by_cases hj : rngOk j = true
      · rw [if_pos hj] at q
        have e1 := ay.int1 (int1_of hl)
        simp only [rngOk, decide_eq_true_eq] at hj
        exact ⟨j, e1, hj.1, hj.2, q y _ hρ iy ey walks_range⟩
      · rw [if_neg hj] at q; exact q.elim
theorem r_irange2 {tg a b : Expr} {p pos : Pos} {s : Bool} {f : AE} (hg : Gl X "range") (hm : X.mg "range" = none) (ha : PA X [a, b] (tA G W s f)) (hs : starEach [a, b] X.env = [(false, eval a X.env), (false, eval b X.env)] := by rfl) (hs2 : starEach [b] X.env = [(false, eval b X.env)] := by rfl) : PI X tg (.Call (.Name "range" p) [a, b] [] pos) (tI G W s (iRng2D f)) := PI.of (pi_range2 hg hm ha hs hs2) fun σ H R ⟨x, e1, e2, hx, q⟩ => by
  subst e1 e2
  refine ⟨x, rfl, rfl, hx, ?_⟩
  unfold iRng2D at q
  cases e : f x.rho with
  | bad => simp only [e, Res.bind_bad] at q
  | err c d ρ' => simp only [e, Res.bind_err] at q; exact q
  | ok r =>
    obtain ⟨l, ρ1⟩ := r
    simp only [e, Res.bind_ok] at q
    intro y vs hρ iy ey ay
    cases hl : int2 l with
    | none => simp only [hl] at q
    | some ij =>
      obtain ⟨i, j⟩ := ij
      simp only [hl] at q
      by_cases hj : rngOk i = true ∧ rngOk j = true
      · rw [if_pos hj] at q
        have e1 := ay.int2 (int2_of hl)
        simp only [rngOk, decide_eq_true_eq] at hj
        exact ⟨i, j, e1, ⟨hj.1.1, hj.1.2, hj.2.1, hj.2.2⟩, q y _ hρ iy ey walks_range⟩
      · rw [if_neg hj] at q; exact q.elim
end
end VL
/-! VL9: list comprehensions. -/
namespace VL
open PySem PySem.Spec PyProof.Rows L2

def wipeR (ρ : Env) : List Nat → Env
  | [] => ρ
  | v :: vs => (wipeR ρ vs).set v none
def slotFree (ρ : Env) (i : Nat) : Bool := match ρ[i]? with
  | some none => true
  | some (some (_, .fz)) => true
  | _ => false
def wipable (ρ : Env) (vs : List Nat) : Bool := vs.all (slotFree ρ)
theorem wipeR_length (ρ : Env) : ∀ vs : List Nat, (wipeR ρ vs).length = ρ.length
  | [] => rfl
  | v :: vs => by unfold wipeR; rw [List.length_set, wipeR_length ρ vs]
theorem wipeR_get (ρ : Env) (i : Nat) : ∀ vs : List Nat, (wipeR ρ vs)[i]? = if i ∈ vs ∧ i < ρ.length then some none else ρ[i]?
  | [] => by simp [wipeR]
  | v :: vs => by
    unfold wipeR
    by_cases e : v = i
    · subst e
      by_cases h : v < ρ.length
      · rw [List.getElem?_set_self (by rw [wipeR_length]; exact h)]; simp [h]
      · have : (ρ[v]? : Option Slot) = none := List.getElem?_eq_none (by omega)
        simp [h, wipeR_length]
    · rw [List.getElem?_set_ne e, wipeR_get ρ i vs]
      have : (i ∈ v :: vs) ↔ i ∈ vs := by simp [Ne.symm e]
      simp only [this]
theorem wipe_get (σ : St) (i : Nat) : ∀ vs : List Nat, (wipe σ vs)[i]? = if i ∈ vs ∧ i < σ.length then some none else σ[i]?
  | [] => by simp [wipe]
  | v :: vs => by
    unfold wipe
    by_cases e : v = i
    · subst e
      by_cases h : v < σ.length
      · rw [List.getElem?_set_self (by rw [wipe_length]; exact h)]; simp [h]
      · simp [h, wipe_length]
    · rw [List.getElem?_set_ne e, wipe_get σ i vs]
      have : (i ∈ v :: vs) ↔ i ∈ vs := by simp [Ne.symm e]
      simp only [this]
theorem wipe_same {σ τ : St} {is vs : List Nat} (hl : τ.length = σ.length) (h : ∀ j, j ∉ is → τ[j]? = (wipe σ vs)[j]?) (hs : ∀ j ∈ is, j ∈ vs) : wipe τ vs = wipe σ vs := by
  apply List.ext_getElem?
  intro j
  rw [wipe_get τ j vs, wipe_get σ j vs, hl]
  by_cases hj : j ∈ vs
  · by_cases hj2 : j < σ.length
    · simp [hj, hj2]
    · have e1 : (τ[j]? : Option (Option V)) = none := List.getElem?_eq_none (by omega)
      have e2 : (σ[j]? : Option (Option V)) = none := List.getElem?_eq_none (by omega)
      simp [hj2, e1, e2]
  · have := h j fun z => hj (hs j z)
    rw [wipe_get σ j vs] at this
    simp [hj] at this ⊢
    exact this
theorem Slots.setNone {G F H ρ σ o p b} (h : Slots G F H ρ σ o p b) : ∀ {i : Nat}, slotFree ρ i = true → Slots G F H (ρ.set i Option.none) (σ.set i Option.none) o p b := by
  induction h with
  | nil => intro i h; simp [slotFree] at h
  | none hs ih =>
    intro i h
    cases i with
    | zero => exact .none hs
    | succ i => exact .none (ih (by simpa [slotFree] using h))
  | fz r hs ih =>
    intro i h
    cases i with
    | zero => exact .none hs
    | succ i => exact .fz r (ih (by simpa [slotFree] using h))
  | ow w n hs ih =>
    intro i h
    cases i with
    | zero => simp [slotFree] at h
    | succ i => exact .ow w n (ih (by simpa [slotFree] using h))
  | pn w n hs ih =>
    intro i h
    cases i with
    | zero => simp [slotFree] at h
    | succ i => exact .pn w n (ih (by simpa [slotFree] using h))
  | lk w hs ih =>
    intro i h
    cases i with
    | zero => simp [slotFree] at h
    | succ i => exact .lk w (ih (by simpa [slotFree] using h))
theorem Slots.wipe {G F H ρ σ o p b} (h : Slots G F H ρ σ o p b) : ∀ {vs : List Nat}, wipable ρ vs = true → Slots G F H (wipeR ρ vs) (wipe σ vs) o p b
  | [], _ => h
  | v :: vs, hw => by
    simp only [wipable, List.all_cons, Bool.and_eq_true] at hw
    have ih := Slots.wipe h (vs := vs) hw.2
    refine ih.setNone ?_
    unfold slotFree
    rw [wipeR_get]
    by_cases hv : v ∈ vs ∧ v < ρ.length
    · simp [hv]
    · rw [if_neg hv]; exact hw.1
theorem tabs_upd {T : List (Addr × Str)} {H : Hp} {a : Addr} {o o' : HO} (t : LamX.Tabs T H) (h : H a = some o) (n1 : isTbl o = false) (n2 : ∀ φ, o ≠ .ext φ) : LamX.Tabs T (upd H a o') := fun p hp => by
  obtain ⟨ps, e, ok, c⟩ := t p hp
  have ne : p.1 ≠ a := fun z => by rw [z, h] at e; cases e; cases n1
  refine ⟨ps, by rw [upd_ne ne]; exact e, ok, fun pos cv hc => ?_⟩
  obtain ⟨c', e1, e2⟩ := c pos cv hc
  have ne2 : c' ≠ a := fun z => by rw [z, h] at e2; cases e2; exact n2 _ rfl
  exact ⟨c', e1, by rw [upd_ne ne2]; exact e2⟩

/-- one comprehension's turns where nothing but new things come: the function from data to data -/
def lcS (g : GE) (t : BE) (e : EE) (ρ : Env) : List D → Res (List D)
  | [] => .ok []
  | d :: ds => do
    let ρ1 ← g d ρ
    let (b, _) ← t ρ1
    if b = true then do
      let (v, k, _) ← e ρ1
      if decide (k ≠ .br) && v.fzOk then do
        let r ← lcS g t e ρ ds
        pure (v :: r)
      else .bad
    else lcS g t e ρ ds
def xLc (vs : List Nat) (it : IE) (g : GE) (t : BE) (e : EE) : EE := fun ρ => do
  let (ds, _, ρ1) ← it ρ
  if wipable ρ1 vs = true ∧ ds.length ≤ sizeLine then
    match lcS g t e (wipeR ρ1 vs) ds with
    | .ok l => .ok (.lst l, .ow, ρ1)
    | _ => .bad
  else .bad
def bYes : BE := fun ρ => pure (true, ρ)
/-- nothing is raised out of a comprehension -/
abbrev W0 : WX := fun _ _ _ _ => False
structure LcI (G : Gm) (y : Stt) (D0 : Addr) (ws : List V) (acc : List D) (F : Addr → Prop) (H : Hp) : Prop where
  f1 : ∀ a, y.F a → F a
  f2 : ∀ a, F a → y.F a ∨ y.H a = none
  kp : Kept [] y.H H
  dm : ∀ a, H a = none → y.H a = none
  dom : DomF F H
  tb : LamX.Tabs G.T H
  nD : ¬ F D0
  eD : H D0 = some (.lst ws)
  rep : Rep G F H ws acc
theorem LcI.slots {G y D0 ws acc F H} (hy : SInv G y) (I : LcI G y D0 ws acc F H) : Slots G F H y.rho y.sg y.o y.p y.b :=
  hy.sl.keep I.f1 (fun a o _ e t => I.kp a o e (by simp) t) fun a ha => ⟨fun f => by
    obtain ⟨nf, o, e, _⟩ := hy.sl.there a ha
    rcases I.f2 a f with q | q
    · exact nf q
    · (rw [e] at q; cases q), fun o e t => I.kp a o e (by simp) t⟩
theorem LcI.inv {G y D0 ws acc F H vs} (hy : SInv G y) (I : LcI G y D0 ws acc F H) (hw : wipable y.rho vs = true) : SInv G ⟨F, wipeR y.rho vs, wipe y.sg vs, H, y.o, y.p, y.b⟩ := by
  have s1 : Slots G F H y.rho y.sg y.o y.p y.b := hy.sl.keep I.f1 (fun a o _ e t => I.kp a o e (by simp) t) fun a ha => ⟨fun f => ?_, fun o e t => I.kp a o e (by simp) t⟩
  · exact ⟨s1.wipe hw, hy.nd, I.dom, I.tb⟩
  · obtain ⟨nf, o, e, _⟩ := hy.sl.there a ha
    rcases I.f2 a f with q | q
    · exact nf q
    · rw [e] at q; cases q
section
variable {X : Cx} {G : Gm} {W : WX} {z : Stt}
theorem pts_no : PTs X [] (tB G W0 true bYes) := ⟨fun pins s σ H Q I ⟨x, e1, e2, hi, q⟩ => by
  subst e1 e2
  exact pts_nil.run pins s x.sg x.H Q I (q x rfl hi .refl)⟩
theorem pts_if {c : Expr} {s : Bool} {f : BE} (h : PT X c (tB G W0 s f)) : PTs X [c] (tB G W0 s f) := pts_one h
theorem tS_lc {s : Bool} {vs is : List Nat} {it : IE} {g : GE} {t : BE} {e : EE} (his : ∀ j ∈ is, j ∈ vs) {σ H Q} (h : tS G W s (xLc vs it g t e) σ H Q) : tLc (tI G W s it) (tG G is g) (tB G W0 true t) (tS G W0 true e) vs σ H Q := by
  obtain ⟨x, rfl, rfl, hx, q⟩ := h
  refine ⟨x, rfl, rfl, hx, ?_⟩
  unfold xLc at q
  cases e1 : it x.rho with
  | bad => simp only [e1, Res.bind_bad] at q
  | err c d ρ' => simp only [e1, Res.bind_err] at q; exact q
  | ok r =>
    obtain ⟨ds, br, ρ1⟩ := r
    simp only [e1, Res.bind_ok] at q
    intro y J hρ iy ey wk D0 hD
    have hc : wipable ρ1 vs = true ∧ ds.length ≤ sizeLine := by
      by_cases hc : wipable ρ1 vs = true ∧ ds.length ≤ sizeLine
      · exact hc
      · rw [if_neg hc] at q; exact q.elim
    rw [if_pos hc] at q
    obtain ⟨hw, hz⟩ := hc
    rw [← hρ] at hw
    cases hl : lcS g t e (wipeR ρ1 vs) ds with
    | bad => simp only [hl] at q
    | err c d ρ' => simp only [hl] at q
    | ok l =>
    simp only [hl] at q
    rw [← hρ] at hl
    -- D0 is apart
    have apart : ∀ a, y.H a ≠ none → a ≠ D0 := fun a h z => h (by rw [z]; exact hD)
    refine ⟨fun i m H => ∃ F ws acc, LcI G y D0 ws acc F H ∧ ws.length ≤ i ∧ m = ds.length - i ∧ i ≤ ds.length ∧ ∃ r, lcS g t e (wipeR y.rho vs) (ds.drop i) = .ok r ∧ l = acc ++ r, ⟨ds.length, y.F, [], [], ⟨fun _ h => h, fun _ h => .inl h, fun a o e _ _ => by rw [upd_ne (ne_of_none e hD)]; exact e, fun a h => ?_, fun a f => ?_, ?_, fun f => ?_, upd_same, .nil⟩, by simp, by simp, Nat.zero_le _, l, by simpa using hl, by simp⟩, ?_⟩
    · by_cases ea : a = D0
      · rw [ea]; exact hD
      · rwa [upd_ne ea] at h
    · obtain ⟨o, e, tt⟩ := iy.dom a f
      exact ⟨o, by rw [upd_ne (ne_of_none e hD)]; exact e, tt⟩
    · exact iy.tb.ext fun b o e => by rw [upd_ne (ne_of_none e hD)]; exact e
    · obtain ⟨o, e, _⟩ := iy.dom D0 f
      rw [hD] at e; cases e
    rintro i m H1 ⟨F, ws, acc, I, hws, rfl, hi, r, hr, rfl⟩
    have iw := I.inv iy hw
    have wkw := wk ⟨F, wipeR y.rho vs, wipe y.sg vs, H1, y.o, y.p, y.b⟩ iw I.f1 (fun a o _ e tt => I.kp a o e (by simp) tt) (fun _ => I.kp) i
    rcases Nat.lt_or_ge i ds.length with hlt | hge
    rotate_left
    · have ei : i = ds.length := by omega
      subst ei
      rw [List.drop_length] at hr
      simp only [lcS, Res.ok.injEq] at hr
      subst hr
      refine .inl ⟨wkw.2 (Nat.le_refl _), ?_⟩
      have s1 := I.slots iy
      have E2 : Ext true y { y with F := F, H := H1 } := ⟨rfl, I.kp.mono (by simp), I.f1, I.f2, fun a h => .inl h, rfl, rfl, I.dm, fun _ d _ e _ => ⟨d, e, fun _ => rfl⟩, fun _ => ⟨rfl, I.kp, rfl⟩⟩
      have hE := ey.trans hx iy E2
      rw [Bool.and_true] at hE
      rw [List.append_nil] at q
      refine q { y with F := F, H := H1 } (.ref D0) [D0] hρ ⟨⟨s1, iy.nd, I.dom, I.tb⟩, hE, .ow I.nD ⟨ws, I.eD, by omega, I.rep⟩, ⟨by simp, fun a ha => ?_⟩, .ow⟩
      have : a = D0 := by simpa using ha
      subst this
      refine ⟨ey.dm a hD, fun z => ?_, fun z => ?_, fun z => ?_⟩
      · obtain ⟨_, o, e, _⟩ := iy.sl.there a (.inl z); rw [hD] at e; cases e
      · obtain ⟨_, o, e, _⟩ := iy.sl.there a (.inr (.inl z)); rw [hD] at e; cases e
      · obtain ⟨_, o, e, _⟩ := iy.sl.there a (.inr (.inr z)); rw [hD] at e; cases e
    · have ed : ds[i]? = some ds[i] := List.getElem?_eq_getElem hlt
      obtain ⟨hgo, hyld⟩ := wkw.1 _ ed
      rw [List.drop_eq_getElem_cons hlt] at hr
      simp only [lcS] at hr
      cases hg : g ds[i] (wipeR y.rho vs) with
      | bad => simp only [hg, Res.bind_bad] at hr; cases hr
      | err c d ρ' => simp only [hg, Res.bind_err] at hr; cases hr
      | ok ρ2 =>
      simp only [hg, Res.bind_ok] at hr
      cases ht : t ρ2 with
      | bad => simp only [ht, Res.bind_bad] at hr; cases hr
      | err c d ρ' => simp only [ht, Res.bind_err] at hr; cases hr
      | ok r2 =>
      obtain ⟨b, ρ3⟩ := r2
      simp only [ht, Res.bind_ok] at hr
      refine .inr ⟨hgo, fun H2 => ∃ F ws acc', LcI G y D0 ws acc' F H2 ∧ ws.length ≤ i + 1 ∧ ∃ r', lcS g t e (wipeR y.rho vs) (ds.drop (i + 1)) = .ok r' ∧ acc ++ r = acc' ++ r', fun H2 ⟨F, ws, acc', I2, h2, r', h3, h4⟩ => ⟨ds.length - (i + 1), by omega, F, ws, acc', I2, h2, rfl, hlt, r', h3, h4⟩, fun v H2 yl => ?_⟩
      obtain ⟨F2, n⟩ := hyld v H2 yl
      have P := n.post iw
      have r1 : Rep G F2 H2 [v] [ds[i]] := n.own.fz_of
      rw [ey.sg] at P
      refine ⟨⟨F2, wipeR y.rho vs, wipe x.sg vs, H2, y.o, y.p, y.b⟩, ds[i], rfl, rfl, P.inv, r1, ?_⟩
      show (match g ds[i] (wipeR y.rho vs) with | .ok ρ' => _ | _ => False)
      rw [hg]
      intro u hu tu
      refine ⟨wipe_same (tu.len.trans (wipe_length x.sg vs)) (fun j hj => tu.out j hj) his, u, rfl, rfl, tu.inv, ?_⟩
      rw [hu, ht]
      intro u2 hu2 iu2 eu2
      obtain ⟨ρu2, ku2, ou2⟩ := eu2.st rfl
      -- what is known behind the test
      have I2 : LcI G y D0 ws acc u2.F u2.H := by
        have hF : u.F = F2 := tu.F
        have hH : u.H = H2 := tu.H
        have kp2 : Kept [] H1 u2.H := by
          refine Kept.trans (m' := []) (fun a o e _ _ => n.kp a o e) (by rw [← hH]; exact ku2) (by simp)
        have f12 : ∀ a, F a → u2.F a := fun a f => eu2.f1 a (by rw [hF]; exact n.f1 a f)
        refine ⟨fun a f => f12 a (I.f1 a f), fun a f => ?_, I.kp.trans kp2 (by simp), fun a h => ?_, iu2.dom, iu2.tb, fun f => ?_, kp2 _ _ I.eD (by simp) rfl, I.rep.keep f12 fun a o _ e tt => kp2 a o e (by simp) tt⟩
        · rcases eu2.f2 a f with q | q
          · rw [hF] at q
            rcases n.f2 a q with q | q
            · exact I.f2 a q
            · exact .inr (I.dm a q)
          · rw [hH] at q; exact .inr (I.dm a (n.dm a q))
        · have h1 := eu2.dm a h
          rw [hH] at h1
          exact I.dm a (n.dm a h1)
        · rcases eu2.f2 D0 f with q | q
          · rw [hF] at q
            rcases n.f2 D0 q with q | q
            · exact I.nD q
            · have q' : H1 D0 = none := q
              rw [I.eD] at q'; cases q'
          · rw [hH, n.kp _ _ I.eD] at q; cases q
      cases b with
      | false =>
        rw [if_neg (by simp)] at hr ⊢
        exact ⟨u2.F, ws, acc, I2, by omega, r, hr, rfl⟩
      | true =>
        rw [if_pos rfl] at hr ⊢
        cases he : e ρ2 with
        | bad => simp only [he, Res.bind_bad] at hr; cases hr
        | err c d ρ' => simp only [he, Res.bind_err] at hr; cases hr
        | ok r3 =>
        obtain ⟨vd, k, ρ4⟩ := r3
        simp only [he, Res.bind_ok] at hr
        have hk : (decide (k ≠ .br) && vd.fzOk) = true := by
          by_cases hk : (decide (k ≠ .br) && vd.fzOk) = true
          · exact hk
          · rw [if_neg hk] at hr; cases hr
        rw [if_pos hk] at hr
        simp only [Bool.and_eq_true, decide_eq_true_eq] at hk
        cases h5 : lcS g t e (wipeR y.rho vs) (ds.drop (i + 1)) with
        | bad => simp only [h5, Res.bind_bad] at hr; cases hr
        | err c d ρ' => simp only [h5, Res.bind_err] at hr; cases hr
        | ok r' =>
        simp only [h5, Res.bind_ok, Res.pure_ok, Res.ok.injEq] at hr
        subst hr
        refine ⟨u2, eu2.sg, rfl, iu2, ?_⟩
        rw [ρu2, hu, he]
        intro u3 yv fv hu3 P3
        obtain ⟨ρu3, ku3, ou3⟩ := P3.ext.st rfl
        have eD3 : u3.H D0 = some (.lst ws) := ku3 _ _ I2.eD (by simp) rfl
        have nD3 : ¬ u3.F D0 := fun f => by
          rcases P3.ext.f2 D0 f with q | q
          · exact I2.nD q
          · rw [I2.eD] at q; cases q
        refine ⟨ws, eD3, by omega, ?_⟩
        have hv : D0 ∉ fv := fun z => by
          cases k with
          | br => exact hk.1 rfl
          | fz => have : fv = [] := P3.kd; rw [this] at z; simp at z
          | ow => have := (P3.kd.2 D0 z).1; rw [I2.eD] at this; cases this
        have hF3 : SInv G { u3 with F := fun a => u3.F a ∨ a ∈ fv } := P3.inv.freeze fun a ha => ⟨(P3.own.there a ha).2, by
          cases k with
          | br => exact absurd rfl hk.1
          | fz => have : fv = [] := P3.kd; rw [this] at ha; simp at ha
          | ow => exact (P3.kd.2 a ha).2⟩
        have fr : ∀ a ∈ fv, u2.H a = none := fun a ha => by
          cases k with
          | br => exact absurd rfl hk.1
          | fz => have : fv = [] := P3.kd; rw [this] at ha; simp at ha
          | ow => exact (P3.kd.2 a ha).1
        have rv : Rep G (fun a => u3.F a ∨ a ∈ fv) u3.H [yv] [vd] := P3.own.rep (fun a ha => .inr ha) (fun _ h => .inl h) hk.2
        have kD : ∀ a o, u3.H a = some o → a ≠ D0 → upd u3.H D0 (.lst (ws ++ [yv])) a = some o := fun a o e n => by rw [upd_ne n]; exact e
        have kfD : KeptF (fun a => u3.F a ∨ a ∈ fv) u3.H (upd u3.H D0 (.lst (ws ++ [yv]))) := fun a o f e _ => kD a o e fun z => by
          subst z
          rcases f with f | f
          · exact nD3 f
          · exact hv f
        refine ⟨fun a => u3.F a ∨ a ∈ fv, ws ++ [yv], acc ++ [vd], ⟨fun a f => .inl (P3.ext.f1 a (I2.f1 a f)), fun a f => ?_, ?_, fun a h => ?_, fun a f => ?_, tabs_upd P3.inv.tb eD3 rfl (fun φ z => by cases z), fun f => ?_, upd_same, ?_⟩, by simp; omega, r', rfl, by simp⟩
        · rcases f with f | f
          · rcases P3.ext.f2 a f with q | q
            · exact I2.f2 a q
            · exact .inr (I2.dm a q)
          · exact .inr (I2.dm a (fr a f))
        · intro a o e _ tt
          have h1 := ku3 a o (I2.kp a o e (by simp) tt) (by simp) tt
          exact kD a o h1 (apart a (by rw [e]; simp))
        · by_cases ea : a = D0
          · rw [ea]; exact hD
          · rw [upd_ne ea] at h
            exact I2.dm a (P3.ext.dm a h)
        · by_cases ea : a = D0
          · rw [ea]; exact ⟨_, upd_same, rfl⟩
          · obtain ⟨o, e, tt⟩ := hF3.dom a f
            exact ⟨o, kD a o e ea, tt⟩
        · rcases f with f | f
          · exact nD3 f
          · exact hv f
        · refine Rep.snoc ((I2.rep.keep P3.ext.f1 fun a o _ e tt => ku3 a o e (by simp) tt).keep (fun _ h => .inl h) ?_) (rv.keep (fun _ h => h) kfD)
          exact fun a o f e tt => kfD a o (.inl f) e tt
theorem r_lc {elt tg iter : Expr} {ifs : List Expr} {scope : Scope} {own : List (Str × Nat)} {pos : Pos} {s : Bool} {is : List Nat} {it : IE} {g : GE} {t : BE} {e : EE} (hc : X.calm = true) (hN : X.N.Nodup) (hi : PI X tg iter (tI G W s it)) (ok : BlkOk X.N X.env.scope scope own)
    (his : ∀ j ∈ is, j ∈ own.map (·.2))
    (hg : ∀ (s : Shared) (H : Hp) (C : Addr) (cl : List (Str × Addr)) (fp : List Addr), PG (X.blk s H scope (compEnvC scope cl C X.env) fp) tg (tG G is g)) (ht : ∀ (s : Shared) (H : Hp) (C : Addr) (cl : List (Str × Addr)) (fp : List Addr), PTs (X.blk s H scope (compEnvC scope cl C X.env) fp) ifs (tB G W0 true t))
    (he : ∀ (s : Shared) (H : Hp) (C : Addr) (cl : List (Str × Addr)) (fp : List Addr), PE (X.blk s H scope (compEnvC scope cl C X.env) fp) elt (tS G W0 true e)) (hs : ∀ x, foldedSetIterable iter X.env x = pure x := by intro _; rfl) :
    PE X (.ListComp elt [⟨tg, iter, ifs, 0⟩] scope pos) (tS G W s (xLc (own.map (·.2)) it g t e)) :=
  PE.of (pe_lc hc hN hi ok hg ht he hs) fun σ H Q h => tS_lc his h
theorem r_setlc {fl : Fl} {i : Nat} {y : Str} {py : Pos} {elt tg iter : Expr} {ifs : List Expr} {scope : Scope} {own : List (Str × Nat)} {pos spos : Pos} {s : Bool} {is : List Nat} {it : IE} {g : GE} {t : BE} {e : EE} (hc : X.calm = true) (hN : X.N.Nodup) (hy : X.N[i]? = some y) (hyl : X.env.scope.names.lookup y = some .local)
    (hsw : swapsWith (.ListComp elt [⟨tg, iter, ifs, 0⟩] scope pos) (some (.Name y py)) spos.line X.env = pure true) (hi : PI X tg iter (tI G W s it)) (ok : BlkOk X.N X.env.scope scope own)
    (his : ∀ j ∈ is, j ∈ own.map (·.2))
    (hg : ∀ (s : Shared) (H : Hp) (C : Addr) (cl : List (Str × Addr)) (fp : List Addr), PG (X.blk s H scope (compEnvC scope cl C X.env) fp) tg (tG G is g)) (ht : ∀ (s : Shared) (H : Hp) (C : Addr) (cl : List (Str × Addr)) (fp : List Addr), PTs (X.blk s H scope (compEnvC scope cl C X.env) fp) ifs (tB G W0 true t))
    (he : ∀ (s : Shared) (H : Hp) (C : Addr) (cl : List (Str × Addr)) (fp : List Addr), PE (X.blk s H scope (compEnvC scope cl C X.env) fp) elt (tS G W0 true e)) (hs : ∀ x, foldedSetIterable iter X.env x = pure x := by intro _; rfl) :
    PS X (.Assign [.Name y py] (.ListComp elt [⟨tg, iter, ifs, 0⟩] scope pos) spos) (tT G W z (sSet fl i (xLc (own.map (·.2)) it g t e))) :=
  r_set (PS.of (ps_setLc hc hN hy hyl hsw hi ok hg ht he hs) fun Dn σ H h => by
    have h : tS G W s (xLc (own.map (·.2)) it g t e) σ H (fun x H1 => gName i x σ H1 Dn.nx) := h
    exact tS_lc his h)
end
end VL
/-! VL0: defs' promises where it is known that no guard stands on the stack (repr of lists asks that). -/
namespace VL
open PySem PySem.Spec PyProof.Rows L2

structure RoomG (k : Nat) (A : Around) : Prop where
  room : Room k A
  g : A.guards = some []
theorem RoomG.mono {j k : Nat} {A : Around} (r : RoomG k A) (h : j ≤ k) : RoomG j A := ⟨r.room.mono h, r.g⟩
structure FnG (P : Program) (w : World) (K : PySem.W.Frag) (mg : Str → Option Value) (base : Heap) (k : Nat) (f : Addr) (fd : FuncData) (ps : List Str) (sp : Sp) : Prop where
  len : ∀ vs H Q E, sp vs H Q E → vs.length = ps.length
  go : ∀ (B : Around) (below : List PySem.Env) (t : Shared) (J : Hp) (as : Args) (us : List Value) (vs : List V) (R : VK) (E : XK),
    RoomG k B → Env0 P w K mg base B below t J → BindsTo t fd as (ps.zip us) → Vals vs us → sp vs J R E →
    codeAny (model P w) B (.call (.ref f) as) (CR (L2.CX P w) below P w J t R E) t
section
variable {P : Program} {w : World} {K : PySem.W.Frag} {mg : Str → Option Value} {base : Heap}
theorem FnG.mono {j k : Nat} {f : Addr} {fd : FuncData} {ps : List Str} {sp : Sp} (F : FnG P w K mg base j f fd ps sp) (h : j ≤ k) : FnG P w K mg base k f fd ps sp :=
  ⟨F.len, fun B below t J as us vs R E r => F.go B below t J as us vs R E (r.mono h)⟩
theorem FnG.imp {k : Nat} {f : Addr} {fd : FuncData} {ps : List Str} {sp sp' : Sp} (F : FnG P w K mg base k f fd ps sp) (h : ∀ vs H Q E, sp' vs H Q E → sp vs H Q E) : FnG P w K mg base k f fd ps sp' :=
  ⟨fun vs H Q E q => F.len vs H Q E (h _ _ _ _ q), fun B below t J as us vs R E r e b v q => F.go B below t J as us vs R E r e b v (h _ _ _ _ q)⟩
/-- a def of the text and its body -/
theorem fnG {x qual : Str} {st : Stmt} {f : Addr} {fd : FuncData} {N ps : List Str} {k : Nat} {sp : Sp} (F : Fun K x qual st f fd) (S : FnScope N ps (defScope st)) (len : ∀ vs H Q E, sp vs H Q E → vs.length = ps.length)
    (body : ∀ (cdv : Value) (B : Around) (below : List PySem.Env) (t : Shared) (J : Hp) (vs : List V) (R : VK) (E : XK), RoomG k (B.deeper (envOfC qual (defScope st) t.heap.objs.size f cdv)) → sp vs J R E →
      ∃ u, PSs (cxOf (L2.CX P w) P w K mg base N qual (defScope st) f cdv B below t J E) (defBody st) u ∧ u { nx := fun _ J' => R .non J', rt := R } (L2.start N vs) J) :
    FnG P w K mg base (k + 1) f fd ps sp := by
  obtain ⟨oc, od, kV, doc, pm, an, cdv, ct, osl, rfl, lk, cd⟩ := F.ex
  refine ⟨len, ?_⟩
  intro B below t J as us vs R E rg e0 hb rv hsp
  have nl := len _ _ _ _ hsp
  have KX : K.In t.heap := e0.mod.kin.keeps fun b o q => (e0.bs b o q).1
  have lim : t.heap.NoLimit := e0.mod.nolimit.keeps fun b o q => (e0.bs b o q).1
  have kinds : ∀ y ∈ ps.zip us, (defScope st).names.lookup y.1 = some .local ∨ ((defScope st).names.lookup y.1 = some .cell ∧ ((cellsFrom (t.heap.objs.size + 1) (defScope st).names []).lookup y.1).isSome = true) := by
    rintro ⟨n, v⟩ hy
    have hp := S.par n (List.of_mem_zip hy).1
    exact hp.elim .inl fun q => .inr ⟨q, PySem.W.cellsFrom_some _ _ _ (.inl q)⟩
  have inner : RoomG k (B.deeper (envOfC qual (defScope st) t.heap.objs.size f cdv)) := ⟨rg.room.deeper _, rg.g⟩
  refine codeAny_call_function rg.room.depth (KX _ _ lk) rfl S.co S.gen rfl (PySem.W.codeRec_of KX cd) (hb _ _ _ _ ?_)
  refine wpAny_newFunctionEnv_cells S.kind kinds ?_
  intro env he t1 x
  subst he
  refine ⟨lim.keeps x.toInCall.keep, codeAny_func ?_⟩
  obtain ⟨u, hu, hq⟩ := body cdv B below t J vs R E inner hsp
  have I0 := inv_start (CX := L2.CX P w) (E := E) S rg.room.hd e0 nl rv x
  have fin : ∀ {σ' : St} {J' : Hp} {v : V} {r : Value} {t' : Shared}, Inv (cxOf (L2.CX P w) P w K mg base N qual (defScope st) f cdv B below t J E) [] σ' J' t' → RelV v r → R v J' → CE below P w J t R r t' := by
    intro σ' J' v r t' I rr q
    exact ⟨v, J', I.os, I.bare, I.base, I.hok, rr, q⟩
  refine wpAny_mono (hu.run [] t1 _ J _ I0 hq) (fun fl t' h => ?_) (fun e t' h => h)
  cases fl with
  | ret r => exact let ⟨v, σ', J', I, rr, q⟩ := h; fin I rr q
  | next => exact let ⟨σ', J', I, q⟩ := h; fin (v := V.non) (r := Value.none) I rfl q
  | brk => exact let ⟨_, _, _, q⟩ := h; q.elim
  | cont => exact let ⟨_, _, _, q⟩ := h; q.elim
end
section
variable {X : Cx} {k : Nat} {f : Addr} {fd : FuncData} {ps : List Str} {sp : Sp} {E : St → XK}
theorem runG {pins : List (Addr × Obj)} {σ : St} {J : Hp} {t : Shared} {R : VK} {us : List Value} {vs : List V} (F : FnG X.prog X.w X.K X.mg X.base k f fd ps sp) (rg : RoomG k X.A) (hb : Binds X.K fd ps []) (hx : PassesAt (L2.CX X.prog X.w) X σ (E σ))
    (I : Inv X pins σ J t) (rv : Vals vs us) (q : sp vs J R (E σ)) : wpAny (model X.prog X.w) X.A (PySem.call (.ref f) us) (EP X pins σ R) X.xe t := by
  have nl : us.length = ps.length := by rw [← rv.length]; exact F.len _ _ _ _ q
  have bd := hb t us I.kIn (by simpa using nl)
  rw [List.append_nil] at bd
  refine wpAny_call (codeAny_mono (F.go X.A X.stack t J ⟨us, []⟩ us vs R (E σ) rg I.env0 bd rv q) ?_)
  intro r t' hq
  match r, hq with
  | .error e, hq => exact hx pins J t e t' I hq
  | .ok (.ret u), hq => exact I.after hq
  | .ok .next, hq => exact False.elim hq
  | .ok .brk, hq => exact False.elim hq
  | .ok .cont, hq => exact False.elim hq
theorem callG {x : Str} {p pos : Pos} {e : Expr} {es : List Expr} {t : TA} (F : FnG X.prog X.w X.K X.mg X.base k f fd ps sp) (rg : RoomG k X.A) (hg : Gl X x) (hm : X.mg x = some (.ref f)) (hk : PySem.W.keepIn X.K (.ref f) = true) (hb : Binds X.K fd ps []) (hx : ∀ σ, PassesAt (L2.CX X.prog X.w) X σ (E σ))
    (ha : PA X (e :: es) t) (hdb : (x == ("__debug__" : Str)) = false := by decide) (he : starEach (e :: es) X.env = (false, eval e X.env) :: starEach es X.env := by rfl) (hpl : (backTo pos (starEach es X.env)).any (·.1) = false := by rfl) :
    PE X (.Call (.Name x p) (e :: es) [] pos) (tCallS sp E t) := by
  constructor
  intro pins t0 σ J R I h
  refine wpAny_Call_Name_kw (ld_glob I hg hm ?_ hdb)
  refine PySem.W.callWith_K (h₀ := X.base) I.ok.mod.kin hk (thn (ha.run pos pins t0 σ J _ I h) ?_) he hpl
  rintro us t1 ⟨vs, J1, I1, rv, q⟩
  exact ⟨I1.kIn, runG F rg hb (hx σ) I1 rv q⟩
end
end VL
/-! VL10: defs: what a def promises, its body, its calls. -/
namespace VL
open PySem PySem.Spec PyProof.Rows L2

/-- a def as a function: its parameters' slots in, a datum out -/
abbrev FA := Env → Res (D × Kd)
/-- .. whose first parameter is lent for change: its new datum besides -/
abbrev FB := Env → Res (D × Kd × D)
structure ArgA (G : Gm) (np : Nat) (vs : List V) (H : Hp) (x : Stt) : Prop where
  sg : x.sg = vs.map some
  H : x.H = H
  inv : SInv G x
  len : x.rho.length = np
  o : x.o = []
def spA (G : Gm) (np : Nat) (m : FA) : Sp := fun vs H Q E => ∃ x : Stt, ArgA G np vs H x ∧ x.p = [] ∧
  match m x.rho with
  | .ok (d, k) => ∀ y v fv, y.rho = x.rho → EPost G true x y v d k fv → k ≠ .br → Q v y.H
  | .err c d _ => ∀ y cls dx, y.rho = x.rho → SInv G y → Ext true x y → ErrV G y cls dx c d → E cls dx y.H
  | .bad => False
/-- no slot is lent for change -/
def NoPn (r : Env) : Prop := ∀ s ∈ r, ∀ d : D, s ≠ some (d, Fl.pn)
/-- what an error hands back of the lent datum -/
def err1 : Env → Option D
  | [some (d1, .pn)] => some d1
  | _ => none
def spB (G : Gm) (np : Nat) (m : FB) : Sp := fun vs H Q E => ∃ (x : Stt) (d0 : D) (r : Env), ArgA G np vs H x ∧ x.rho = some (d0, .pn) :: r ∧ NoPn r ∧
  match m x.rho with
  | .ok (d, k, d1) => ∀ y v fv, y.rho = some (d1, .pn) :: r → EPost G false x y v d k fv → k ≠ .br → Q v y.H
  | .err c d ρ' => ∃ d1, err1 ρ' = some d1 ∧ ∀ y cls dx, y.rho = some (d1, .pn) :: r → SInv G y → Ext false x y → ErrV G y cls dx c d → E cls dx y.H
  | _ => False
def bodyEnv (n : Nat) (ρ : Env) : Env := ρ ++ List.replicate (n - ρ.length) none
def dA (n : Nat) (body : SE) : FA := fun ρ => match body (bodyEnv n ρ) with
  | .ok (.rt d k _) => if k = .br then .bad else .ok (d, k)
  | .ok (.nx _) => .ok (.non, .fz)
  | .err c d ρ' => .err c d ρ'
  | _ => .bad
def D.isDrw : D → Bool
  | .drw _ _ _ _ => true
  | _ => false
def pn0 (d0 : D) (ρ : Env) : Option D := match ρ[(0 : Nat)]? with
  | some (some (d1, .pn)) => if d1.isDrw = d0.isDrw then some d1 else none
  | _ => none
def dB (n : Nat) (body : SE) : FB := fun ρ => match ρ with
  | some (d0, _) :: _ => match body (bodyEnv n ρ) with
    | .ok (.rt d k ρ') => if k = .br then .bad else match pn0 d0 ρ' with
      | some d1 => .ok (d, k, d1)
      | none => .bad
    | .ok (.nx ρ') => match pn0 d0 ρ' with
      | some d1 => .ok (.non, .fz, d1)
      | none => .bad
    | .err c d ρ' => match pn0 d0 ρ' with
      | some d1 => .err c d [some (d1, .pn)]
      | none => .bad
    | _ => .bad
  | _ => .bad
theorem Slots.nones {G F H ρ σ o p b} (h : Slots G F H ρ σ o p b) : ∀ n, Slots G F H (ρ ++ List.replicate n Option.none) (σ ++ List.replicate n Option.none) o p b := by
  have key : ∀ n, Slots G F H (List.replicate n Option.none) (List.replicate n Option.none) [] [] [] := fun n => by
    induction n with
    | zero => exact .nil
    | succ n ih => exact .none ih
  intro n
  induction h with
  | nil => exact key n
  | none _ ih => exact .none ih
  | fz r _ ih => exact .fz r ih
  | ow w q _ ih => exact .ow w q ih
  | pn w q _ ih => exact .pn w q ih
  | lk w _ ih => exact .lk w ih
theorem EInv.start {z : Stt} (h : z.o = []) : EInv z z := ⟨fun _ f => .inl f, .refl, rfl, fun a ha => by rw [h] at ha; simp at ha, fun _ h => h, fun _ f => f⟩
section
variable {P : Program} {w : World} {K : PySem.W.Frag} {mg : Str → Option Value} {base : Heap} {G : Gm}
theorem entry {n np : Nat} {vs : List V} {H : Hp} {x : Stt} (h : ArgA G np vs H x) (N : List Str) (hn : N.length = n) :
    ∃ z : Stt, z.sg = L2.start N vs ∧ z.H = H ∧ SInv G z ∧ EInv z z ∧ z.rho = bodyEnv n x.rho ∧ z.F = x.F ∧ z.p = x.p ∧ z.b = x.b := by
  have hl : x.rho.length = vs.length := by rw [h.inv.sl.length, h.sg, List.length_map]
  refine ⟨⟨x.F, bodyEnv n x.rho, L2.start N vs, x.H, x.o, x.p, x.b⟩, rfl, h.H, ⟨?_, h.inv.nd, h.inv.dom, h.inv.tb⟩, EInv.start h.o, rfl, rfl, rfl, rfl⟩
  have s := h.inv.sl.nones (n - vs.length)
  rw [h.sg] at s
  show Slots G x.F x.H (x.rho ++ List.replicate (n - x.rho.length) none) (vs.map some ++ List.replicate (N.length - vs.length) none) x.o x.p x.b
  rw [hl, hn]; exact s
/-- the caller's view -/
def bkS (x y : Stt) : Stt := ⟨y.F, x.rho, x.sg, y.H, [], [], x.b⟩
/-- behind a body: back to the caller's view, where nothing was lent for change -/
theorem backA {np : Nat} {vs : List V} {H : Hp} {x z y : Stt} (h : ArgA G np vs H x) (hp : x.p = []) (hz : z.H = H) (hF : z.F = x.F) (zp : z.p = x.p) (st : SStep G z z y) :
    SInv G (bkS x y) ∧ Ext true x (bkS x y) := by
  have zH : z.H = x.H := hz.trans h.H.symm
  have f1 : ∀ a, x.F a → y.F a := fun a f => st.f1 a (by rw [hF]; exact f)
  have kp : Kept [] x.H y.H := by have := st.ent.kp; rw [zp, hp, zH] at this; exact this
  have f2 : ∀ a, y.F a → x.F a ∨ x.H a = none := fun a f => by have := st.ent.f1 a f; rwa [hF, zH] at this
  have dm : ∀ a, y.H a = none → x.H a = none := fun a q => by have := st.ent.dm a q; rwa [zH] at this
  have sl : Slots G y.F y.H x.rho x.sg [] [] x.b := by
    have := h.inv.sl
    rw [h.o, hp] at this
    refine this.keep f1 (fun a o f e t => kp a o e (by simp) t) fun a ha => ⟨fun f => ?_, fun o e t => kp a o e (by simp) t⟩
    obtain ⟨nf, o, e, _⟩ := this.there a ha
    rcases f2 a f with q | q
    · exact nf q
    · rw [e] at q; cases q
  have nd := h.inv.nd
  rw [h.o, hp] at nd
  exact ⟨⟨sl, nd, st.inv.dom, st.inv.tb⟩, ⟨rfl, kp.mono (by simp), f1, f2, fun a ha => by simp [bkS] at ha, hp.symm, rfl, dm, fun _ d _ e _ => ⟨d, e, fun _ => rfl⟩, fun _ => ⟨rfl, kp, h.o.symm⟩⟩⟩
theorem kd_back {x z y : Stt} {k : Kd} {fv : List Addr} {o p b : List Addr} (ho : o = []) (hz : z.H = x.H) (hx : ∀ a, a ∈ p ∨ a ∈ b → x.H a ≠ none) (h : KdS z k fv) : KdOk x ⟨y.F, y.rho, y.sg, y.H, o, p, b⟩ k fv := by
  subst ho
  cases k with
  | br => exact h.elim
  | fz => exact h
  | ow =>
    refine ⟨h.1, fun a ha => ?_⟩
    have n : x.H a = none := by rw [← hz]; exact h.2 a ha
    exact ⟨n, by simp, fun q => hx a (.inl q) n, fun q => hx a (.inr q) n⟩
theorem def_okA {x qual : Str} {st : Stmt} {f : Addr} {fd : FuncData} {N ps : List Str} {k n : Nat} {body : SE} (F : Fun K x qual st f fd) (S : FnScope N ps (defScope st)) (hn : N.length = n)
    (hb : ∀ (cdv : Value) (A : Around) (outer : List PySem.Env) (s : Shared) (H : Hp) (E : XK) (z : Stt), RoomG k (A.deeper (envOfC qual (defScope st) s.heap.objs.size f cdv)) →
      PSs (cxOf (L2.CX P w) P w K mg base N qual (defScope st) f cdv A outer s H E) (defBody st) (tT G (fun cls d _ H => E cls d H) z body)) :
    FnG P w K mg base (k + 1) f fd ps (spA G ps.length (dA n body)) := by
  refine fnG F S (fun vs H Q E h => ?_) (fun cdv A outer s H vs Q E hr h => ?_)
  · obtain ⟨x, h, _⟩ := h
    have := h.inv.sl.length
    rw [h.sg, List.length_map, h.len] at this
    exact this.symm
  · obtain ⟨x, h, hp, q⟩ := h
    obtain ⟨z, z1, z2, z3, z4, z5, z6, z7, z8⟩ := entry h N hn
    refine ⟨_, hb cdv A outer s H E z hr, z, z1, z2, z3, z4, ?_⟩
    rw [z5]
    unfold dA at q
    have zH : z.H = x.H := z2.trans h.H.symm
    have th : ∀ a, a ∈ ([] : List Addr) ∨ a ∈ x.b → x.H a ≠ none := fun a ha e => by
      rcases ha with z | z
      · simp at z
      · obtain ⟨_, o, e', _⟩ := h.inv.there (.inr (.inr z)); rw [e] at e'; cases e'
    cases e : body (bodyEnv n x.rho) with
    | bad => simp only [e] at q
    | err c d ρ' =>
      simp only [e] at q
      intro y cls dx hy sy hev
      obtain ⟨i1, e1⟩ := backA h hp z2 z6 z7 sy
      exact q (bkS x y) cls dx rfl i1 e1 hev
    | ok fl =>
      simp only [e] at q
      cases fl with
      | bk ρ' => simp only at q
      | ct ρ' => simp only at q
      | nx ρ' =>
        simp only at q
        intro y hy sy
        obtain ⟨i1, e1⟩ := backA h hp z2 z6 z7 sy
        exact q (bkS x y) .non [] rfl ⟨i1, e1, .fz (.atom rfl .nil), rfl, .fz⟩ (by simp)
      | rt d k ρ' =>
        simp only at q
        intro y v fv hy sy w kd
        obtain ⟨i1, e1⟩ := backA h hp z2 z6 z7 sy
        by_cases hk : k = .br
        · simp only [hk] at q; exact q.elim
        · simp only [if_neg hk] at q
          exact q (bkS x y) v fv rfl ⟨i1, e1, w, kd_back (y := bkS x y) rfl zH th kd, .ne hk⟩ hk
theorem Own.len {F : Addr → Prop} {H : Hp} {v : V} {d : D} {fp : List Addr} (h : Own G F H v d fp) (n : fp ≠ []) : fp.length = if d.isDrw = true then 2 else 1 := by
  cases h with
  | fz _ => exact absurd rfl n
  | ow f ob => cases d <;> first | rfl | exact False.elim ob
  | drw _ _ _ _ _ _ => rfl
theorem Slots.noPn {F H ρ σ o p b} (h : Slots G F H ρ σ o p b) (n : NoPn ρ) : p = [] := by
  induction h with
  | nil => rfl
  | none _ ih => exact ih fun s hs => n s (List.mem_cons_of_mem _ hs)
  | fz _ _ ih => exact ih fun s hs => n s (List.mem_cons_of_mem _ hs)
  | ow _ _ _ ih => exact ih fun s hs => n s (List.mem_cons_of_mem _ hs)
  | pn _ _ _ _ => exact absurd rfl (n _ List.mem_cons_self _)
  | lk _ _ ih => exact ih fun s hs => n s (List.mem_cons_of_mem _ hs)
def bkB (x y : Stt) (d1 : D) (r : Env) : Stt := ⟨y.F, some (d1, .pn) :: r, x.sg, y.H, [], x.p, x.b⟩
theorem backB {np n : Nat} {vs : List V} {H : Hp} {x z y : Stt} {d0 d1 : D} {r : Env} (h : ArgA G np vs H x) (hr : x.rho = some (d0, .pn) :: r) (nr : NoPn r) (hz : z.H = H) (hF : z.F = x.F) (zp : z.p = x.p) (zρ : z.rho = bodyEnv n x.rho) (zσ : z.sg[(0 : Nat)]? = x.sg[(0 : Nat)]?) (st : SStep G z z y) (hd : pn0 d0 y.rho = some d1) :
    SInv G (bkB x y d1 r) ∧ Ext false x (bkB x y d1 r) := by
  have zH : z.H = x.H := hz.trans h.H.symm
  have f1 : ∀ a, x.F a → y.F a := fun a f => st.f1 a (by rw [hF]; exact f)
  have kp : Kept x.p x.H y.H := by have := st.ent.kp; rw [zp, zH] at this; exact this
  have f2 : ∀ a, y.F a → x.F a ∨ x.H a = none := fun a f => by have := st.ent.f1 a f; rwa [hF, zH] at this
  have dm : ∀ a, y.H a = none → x.H a = none := fun a q => by have := st.ent.dm a q; rwa [zH] at this
  have e0 : z.rho[(0 : Nat)]? = some (some (d0, .pn)) := by rw [zρ, hr]; rfl
  obtain ⟨d1', e1, _, s1⟩ := st.lk 0 d0 .pn e0 (.inr rfl)
  have ed : d1' = d1 ∧ d1.isDrw = d0.isDrw := by
    unfold pn0 at hd
    rw [e1] at hd
    simp only at hd
    split at hd
    · rename_i hh; cases hd; exact ⟨rfl, hh⟩
    · cases hd
  obtain ⟨rfl, hdr⟩ := ed
  have hs := h.inv.sl
  rw [hr, h.o] at hs
  have hx := h.inv
  obtain ⟨xF, xρ, xσ, xH, xo, xp, xb⟩ := x
  obtain ⟨yF, yρ, yσ, yH, yo, yp, yb⟩ := y
  simp only at *
  subst hr
  cases hs with
  | @pn v _ fp ρ σ _ p _ w n0 hs =>
  have pe : p = [] := hs.noPn nr
  subst pe
  have ysl := st.inv.sl
  simp only at ysl
  have yp0 : yp = fp := by have := st.ent.p1; simp only at this; rw [this, zp]; simp
  cases ysl with
  | nil => simp at e1
  | none _ => simp at e1
  | fz _ _ => simp at e1
  | ow _ _ _ => simp at e1
  | lk _ _ => simp at e1
  | @pn v' d' fp' ρt σt _ pt _ w' n' hst =>
    simp only [List.getElem?_cons_zero, Option.some.injEq, Prod.mk.injEq, and_true] at e1
    subst e1
    have ev : v' = v := by
      rw [zσ] at s1
      simpa using s1
    subst ev
    have efp : fp' = fp := by
      have l1 := w.len n0
      have l2 := w'.len n'
      rw [hdr] at l2
      have : fp'.length = fp.length := by rw [l1, l2]
      have h3 : fp' ++ pt = fp := yp0
      have h4 := congrArg (List.take fp'.length) h3
      rw [List.take_left, this, List.take_length] at h4
      exact h4
    subst efp
    have nd := hx.nd
    have kf : KeptF xF xH yH := fun a o f e t => kp a o e (fun q => by
      simp only [List.append_nil] at q
      exact (w.there a q).1 f) t
    have disb : ∀ a ∈ xb, a ∉ fp' := fun a ha q => by
      have : (xo ++ ((fp' ++ []) ++ xb)).Nodup := nd
      simp only [List.nodup_append, List.mem_append] at this
      exact this.2.1.2.2 a (.inl q) a ha rfl
    have ho : xo = [] := h.o
    refine ⟨⟨.pn w' n' (hs.keep f1 kf fun a ha => ?_), ?_, st.inv.dom, st.inv.tb⟩, ⟨rfl, ?_, f1, f2, fun a ha => by simp [bkB] at ha, rfl, rfl, dm, fun j d fl e hf => ?_, by simp⟩⟩
    · rcases ha with q | q | q
      · simp at q
      · simp at q
      · refine ⟨fun f => ?_, fun o e t => kp a o e (fun z => disb a q (by simpa using z)) t⟩
        obtain ⟨nf, o, e, _⟩ := hs.there a (.inr (.inr q))
        rcases f2 a f with c | c
        · exact nf c
        · rw [e] at c; cases c
    · simp only [bkB]; rw [ho] at nd; exact nd
    · simp only [ho, List.nil_append]; exact kp
    · cases j with
      | zero =>
        simp only [List.getElem?_cons_zero, Option.some.injEq, Prod.mk.injEq] at e
        obtain ⟨rfl, rfl⟩ := e
        exact ⟨d', rfl, fun q => by cases q⟩
      | succ j =>
        refine ⟨d, ?_, fun _ => rfl⟩
        simp only [bkB, List.getElem?_cons_succ] at e ⊢
        exact e
theorem def_okB {x qual : Str} {st : Stmt} {f : Addr} {fd : FuncData} {N ps : List Str} {k n : Nat} {body : SE} (F : Fun K x qual st f fd) (S : FnScope N ps (defScope st)) (hn : N.length = n)
    (hb : ∀ (cdv : Value) (A : Around) (outer : List PySem.Env) (s : Shared) (H : Hp) (E : XK) (z : Stt), RoomG k (A.deeper (envOfC qual (defScope st) s.heap.objs.size f cdv)) →
      PSs (cxOf (L2.CX P w) P w K mg base N qual (defScope st) f cdv A outer s H E) (defBody st) (tT G (fun cls d _ H => E cls d H) z body)) :
    FnG P w K mg base (k + 1) f fd ps (spB G ps.length (dB n body)) := by
  refine fnG F S (fun vs H Q E h => ?_) (fun cdv A outer s H vs Q E hr h => ?_)
  · obtain ⟨x, _, _, h, _⟩ := h
    have := h.inv.sl.length
    rw [h.sg, List.length_map, h.len] at this
    exact this.symm
  · obtain ⟨x, d0, r, h, hρ, nr, q⟩ := h
    obtain ⟨z, z1, z2, z3, z4, z5, z6, z7, z8⟩ := entry h N hn
    refine ⟨_, hb cdv A outer s H E z hr, z, z1, z2, z3, z4, ?_⟩
    rw [z5]
    have zσ : z.sg[(0 : Nat)]? = x.sg[(0 : Nat)]? := by
      rw [z1, h.sg]
      have hl : x.rho.length = vs.length := by rw [h.inv.sl.length, h.sg, List.length_map]
      unfold L2.start
      cases vs with
      | nil => rw [hρ] at hl; simp at hl
      | cons v vs => rfl
    unfold dB at q
    rw [hρ] at q
    simp only at q
    rw [← hρ] at q
    have zH : z.H = x.H := z2.trans h.H.symm
    have th : ∀ a, a ∈ x.p ∨ a ∈ x.b → x.H a ≠ none := fun a ha e => by
      obtain ⟨_, o, e', _⟩ := h.inv.there (.inr ha); rw [e] at e'; cases e'
    cases e : body (bodyEnv n x.rho) with
    | bad => simp only [e] at q
    | err c d ρ' =>
      simp only [e] at q
      intro y cls dx hy sy hev
      cases hp : pn0 d0 ρ' with
      | none => simp only [hp] at q
      | some d1 =>
        simp only [hp] at q
        obtain ⟨d1', e1', q⟩ := q
        cases e1'
        obtain ⟨i1, e1⟩ := backB (n := n) h hρ nr z2 z6 z7 z5 zσ sy (by rw [hy]; exact hp)
        exact q (bkB x y d1 r) cls dx rfl i1 e1 hev
    | ok fl =>
      simp only [e] at q
      cases fl with
      | bk ρ' => simp only at q
      | ct ρ' => simp only at q
      | nx ρ' =>
        simp only at q
        intro y hy sy
        cases hp : pn0 d0 ρ' with
        | none => simp only [hp] at q
        | some d1 =>
          simp only [hp] at q
          obtain ⟨i1, e1⟩ := backB (n := n) h hρ nr z2 z6 z7 z5 zσ sy (by rw [hy]; exact hp)
          exact q (bkB x y d1 r) .non [] rfl ⟨i1, e1, .fz (.atom rfl .nil), rfl, .fz⟩ (by simp)
      | rt d k ρ' =>
        simp only at q
        intro y v fv hy sy w kd
        by_cases hk : k = .br
        · simp only [hk] at q; exact q.elim
        · simp only [if_neg hk] at q
          cases hp : pn0 d0 ρ' with
          | none => simp only [hp] at q
          | some d1 =>
            simp only [hp] at q
            obtain ⟨i1, e1⟩ := backB (n := n) h hρ nr z2 z6 z7 z5 zσ sy (by rw [hy]; exact hp)
            exact q (bkB x y d1 r) v fv rfl ⟨i1, e1, w, kd_back (y := bkB x y d1 r) rfl zH th kd, .ne hk⟩ hk
end
end VL
/-! VL11: calls of defs. -/
namespace VL
open PySem PySem.Spec PyProof.Rows L2

theorem Own.uniq {G : Gm} {F : Addr → Prop} {H : Hp} {v : V} {d : D} {fp fp' : List Addr} (w : Own G F H v d fp) (w' : Own G F H v d fp') : fp = fp' := by
  have key : ∀ {a : Addr} {d : D}, ¬ F a → Objs G F H a d → Rep G F H [.ref a] [d] → False := fun f ob r => by
    cases r <;> first | (exact f ‹_›) | (exact False.elim ob) | (rename_i h _; simp [atomD] at h)
  cases w with
  | fz r =>
    cases w' with
    | fz _ => rfl
    | ow f ob => exact (key f ob r).elim
    | drw f1 f2 f3 _ _ q => cases r; rename_i h _; simp [atomD] at h
  | ow f ob =>
    cases w' with
    | fz r => exact (key f ob r).elim
    | ow _ _ => rfl
    | drw _ _ _ _ _ _ => exact False.elim ob
  | drw f1 f2 f3 _ _ q =>
    cases w' with
    | fz r => cases r; rename_i h _; simp [atomD] at h
    | ow _ ob => exact False.elim ob
    | drw _ _ _ _ _ q' =>
      have e := q.1.symm.trans q'.1
      simp at e
      rw [e.1]
theorem Slots.ports {G F H ρ σ o p b} (h : Slots G F H ρ σ o p b) : (o ++ (p ++ b)).Nodup → ∃ port : Nat → List Addr,
    (∀ (i : Nat) (d : D) (fl : Fl), ρ[i]? = some (some (d, fl)) → ∃ v, σ[i]? = some (some v) ∧ Own G F H v d (port i)) ∧ (∀ i j, i ≠ j → ∀ a ∈ port i, a ∉ port j) ∧ ∀ i, ∀ a ∈ port i, a ∈ o ∨ a ∈ p ∨ a ∈ b := by
  -- one more slot in front
  have step : ∀ {x : Option (D × Fl)} {y : Option V} {ρ : Env} {σ : St} {o p b o' p' b' fp : List Addr} {port : Nat → List Addr},
      (∀ d fl, x = some (d, fl) → ∃ v, y = some v ∧ Own G F H v d fp) →
      (∀ a ∈ fp, a ∈ o' ∨ a ∈ p' ∨ a ∈ b') → (∀ a ∈ fp, ¬ (a ∈ o ∨ a ∈ p ∨ a ∈ b)) → (∀ a, a ∈ o ∨ a ∈ p ∨ a ∈ b → a ∈ o' ∨ a ∈ p' ∨ a ∈ b') →
      ((∀ (i : Nat) (d : D) (fl : Fl), ρ[i]? = some (some (d, fl)) → ∃ v, σ[i]? = some (some v) ∧ Own G F H v d (port i)) ∧ (∀ i j, i ≠ j → ∀ a ∈ port i, a ∉ port j) ∧ ∀ i, ∀ a ∈ port i, a ∈ o ∨ a ∈ p ∨ a ∈ b) →
      ∃ port : Nat → List Addr, (∀ (i : Nat) (d : D) (fl : Fl), (x :: ρ)[i]? = some (some (d, fl)) → ∃ v, (y :: σ)[i]? = some (some v) ∧ Own G F H v d (port i)) ∧ (∀ i j, i ≠ j → ∀ a ∈ port i, a ∉ port j) ∧ ∀ i, ∀ a ∈ port i, a ∈ o' ∨ a ∈ p' ∨ a ∈ b' := by
    intro x y ρ σ o p b o' p' b' fp port hx h1 h2 h3 ⟨p1, p2, p3⟩
    refine ⟨fun i => match i with | 0 => fp | i + 1 => port i, fun i d fl e => ?_, fun i j ne a ha hb => ?_, fun i a ha => ?_⟩
    · cases i with
      | zero => simp at e; obtain ⟨v, e1, w⟩ := hx d fl e; exact ⟨v, by simp [e1], w⟩
      | succ i => simpa using p1 i d fl (by simpa using e)
    · cases i with
      | zero =>
        cases j with
        | zero => exact ne rfl
        | succ j => exact h2 a ha (p3 j a hb)
      | succ i =>
        cases j with
        | zero => exact h2 a hb (p3 i a ha)
        | succ j => exact p2 i j (fun e => ne (by rw [e])) a ha hb
    · cases i with
      | zero => exact h1 a ha
      | succ i => exact h3 a (p3 i a ha)
  induction h with
  | nil => exact fun _ => ⟨fun _ => [], fun i d fl e => by simp at e, fun _ _ _ a ha => by simp at ha, fun _ a ha => by simp at ha⟩
  | none _ ih =>
    intro nd
    obtain ⟨port, q⟩ := ih nd
    exact step (fp := []) (fun _ _ e => by cases e) (fun a ha => by simp at ha) (fun a ha => by simp at ha) (fun _ h => h) q
  | fz r _ ih =>
    intro nd
    obtain ⟨port, q⟩ := ih nd
    exact step (fp := []) (fun _ _ e => by cases e; exact ⟨_, rfl, .fz r⟩) (fun a ha => by simp at ha) (fun a ha => by simp at ha) (fun _ h => h) q
  | @ow v d fp ρ σ o p b w n _ ih =>
    intro nd
    rw [List.append_assoc, List.nodup_append] at nd
    obtain ⟨port, q⟩ := ih nd.2.1
    refine step (fp := fp) (fun _ _ e => by cases e; exact ⟨_, rfl, w⟩) (fun a ha => .inl (by simp [ha])) (fun a ha z => nd.2.2 a ha a (by simpa using z) rfl) (fun a z => ?_) q
    rcases z with z | z | z
    · exact .inl (by simp [z])
    · exact .inr (.inl z)
    · exact .inr (.inr z)
  | @pn v d fp ρ σ o p b w n _ ih =>
    intro nd
    have nd1 : (o ++ (fp ++ (p ++ b))).Nodup := by rwa [List.append_assoc] at nd
    have nd2 := (List.nodup_append.mp nd1)
    have nd3 := (List.nodup_append.mp nd2.2.1)
    obtain ⟨port, q⟩ := ih (List.nodup_append.mpr ⟨nd2.1, nd3.2.1, fun a ha c hc => nd2.2.2 a ha c (by simp at hc ⊢; exact .inr hc)⟩)
    refine step (fp := fp) (fun _ _ e => by cases e; exact ⟨_, rfl, w⟩) (fun a ha => .inr (.inl (by simp [ha]))) (fun a ha z => ?_) (fun a z => ?_) q
    · rcases z with z | z | z
      · exact nd2.2.2 a z a (by simp [ha]) rfl
      · exact nd3.2.2 a ha a (by simp [z]) rfl
      · exact nd3.2.2 a ha a (by simp [z]) rfl
    · rcases z with z | z | z
      · exact .inl z
      · exact .inr (.inl (by simp [z]))
      · exact .inr (.inr z)
  | @lk v d fp ρ σ o p b w _ ih =>
    intro nd
    have nd2 := (List.nodup_append.mp nd)
    have nd3 := (List.nodup_append.mp nd2.2.1)
    have nd4 := (List.nodup_append.mp nd3.2.1)
    obtain ⟨port, q⟩ := ih (List.nodup_append.mpr ⟨nd2.1, List.nodup_append.mpr ⟨nd3.1, nd4.2.1, fun a ha c hc => nd3.2.2 a ha c (by simp [hc])⟩, fun a ha c hc => nd2.2.2 a ha c (by
        rcases List.mem_append.mp hc with q | q
        · simp [q]
        · simp [q])⟩)
    refine step (fp := fp) (fun _ _ e => by cases e; exact ⟨_, rfl, w⟩) (fun a ha => .inr (.inr (by simp [ha]))) (fun a ha z => ?_) (fun a z => ?_) q
    · rcases z with z | z | z
      · exact nd2.2.2 a z a (by simp [ha]) rfl
      · exact nd3.2.2 a z a (by simp [ha]) rfl
      · exact nd4.2.2 a ha a z rfl
    · rcases z with z | z | z
      · exact .inl z
      · exact .inr (.inl z)
      · exact .inr (.inr (by simp [z]))

/-! ### entering a def -/
def argS (dk : D × Kd) : Slot := some (dk.1, if dk.2 = .br then .lk else .fz)
/-- arguments that can be handed on: at most one is lent; what is new can be frozen -/
def argsOk (l : List (D × Kd)) : Bool := decide ((l.filter fun dk => decide (dk.2 = .br)).length ≤ 1) && l.all fun dk => decide (dk.2 = .br) || dk.1.fzOk
theorem AOk.enter {G : Gm} {x y : Stt} {vs : List V} {l : List (D × Kd)} (h : AOk G x y vs l) (h1 : (l.filter fun dk => decide (dk.2 = .br)).length ≤ 1) (h2 : (l.all fun dk => decide (dk.2 = .br) || dk.1.fzOk) = true) :
    ∃ fs b : List Addr, (∀ a ∈ fs, ((∃ o, y.H a = some o ∧ isTbl o = false) ∧ a ∉ y.o ∧ a ∉ y.p ∧ a ∉ y.b) ∧ x.H a = none) ∧ (∀ a ∈ b, a ∈ y.o ∨ a ∈ y.p ∨ a ∈ y.b) ∧ b.Nodup ∧
      (∀ a ∈ b, ∃ dk v fv, dk ∈ l ∧ dk.2 = .br ∧ Src y v dk.1 .br ∧ Own G y.F y.H v dk.1 fv ∧ a ∈ fv) ∧
      Slots G (fun a => y.F a ∨ a ∈ fs) y.H (l.map argS) (vs.map some) [] [] b := by
  induction h with
  | nil => exact ⟨[], [], by simp, by simp, by simp, by simp, .nil⟩
  | @cons v d k fv vs dks w kd sr r ih =>
    simp only [List.all_cons, Bool.and_eq_true, Bool.or_eq_true, decide_eq_true_eq] at h2
    cases k with
    | br =>
      have h1' : (dks.filter fun dk => decide (dk.2 = Kd.br)) = [] := by
        simp only [List.filter_cons, decide_true, if_true, List.length_cons] at h1
        exact List.eq_nil_of_length_eq_zero (by omega)
      obtain ⟨fs, b, q1, q2, q3, q4, q5⟩ := ih (by rw [h1']; simp) h2.2
      have hb : b = [] := by
        cases b with
        | nil => rfl
        | cons a b =>
          obtain ⟨dk, _, _, hm, he, _⟩ := q4 a List.mem_cons_self
          have : dk ∈ dks.filter fun dk => decide (dk.2 = Kd.br) := List.mem_filter.mpr ⟨hm, by simp [he]⟩
          rw [h1'] at this; simp at this
      subst hb
      refine ⟨fs, fv ++ [], q1, fun a ha => kd a (by simpa using ha), by simpa using w.nodup, fun a ha => ⟨(d, .br), v, fv, List.mem_cons_self, rfl, sr, w, by simpa using ha⟩, ?_⟩
      refine .lk (w.keep (fun _ h => .inl h) .refl fun a ha => ⟨fun f => ?_, fun o e _ => e⟩) q5
      rcases f with f | f
      · exact (w.there a ha).1 f
      · obtain ⟨⟨_, n1, n2, n3⟩, _⟩ := q1 a f
        rcases kd a ha with z | z | z
        · exact n1 z
        · exact n2 z
        · exact n3 z
    | fz =>
      obtain ⟨fs, b, q1, q2, q3, q4, q5⟩ := ih (by simpa [List.filter_cons] using h1) h2.2
      obtain rfl : fv = [] := kd
      refine ⟨fs, b, q1, q2, q3, fun a ha => ?_, .fz (w.rep (by simp) (fun _ h => .inl h) ?_) q5⟩
      · obtain ⟨dk, v', fv', m, r⟩ := q4 a ha
        exact ⟨dk, v', fv', List.mem_cons_of_mem _ m, r⟩
      · rcases h2.1 with z | z
        · cases z
        · exact z
    | ow =>
      obtain ⟨fs, b, q1, q2, q3, q4, q5⟩ := ih (by simpa [List.filter_cons] using h1) h2.2
      refine ⟨fv ++ fs, b, fun a ha => ?_, q2, q3, fun a ha => ?_, .fz (w.rep (fun a ha => .inr (by simp [ha])) (fun _ h => .inl h) ?_) (q5.keep (fun a h => ?_) .refl fun a ha => ⟨fun f => ?_, fun o e _ => e⟩)⟩
      · rcases List.mem_append.mp ha with q | q
        · exact ⟨⟨(w.there a q).2, (kd.2 a q).2⟩, (kd.2 a q).1⟩
        · exact q1 a q
      · obtain ⟨dk, v', fv', m, r⟩ := q4 a ha
        exact ⟨dk, v', fv', List.mem_cons_of_mem _ m, r⟩
      · rcases h2.1 with z | z
        · cases z
        · exact z
      · rcases h with h | h
        · exact .inl h
        · exact .inr (by simp [h])
      · rcases ha with z | z | z
        · simp at z
        · simp at z
        · rcases f with f | f
          · exact (q5.there a (.inr (.inr z))).1 (.inl f)
          · rcases List.mem_append.mp f with f | f
            · have n := (kd.2 a f).2
              rcases q2 a z with c | c | c
              · exact n.1 c
              · exact n.2.1 c
              · exact n.2.2 c
            · exact (q5.there a (.inr (.inr z))).1 (.inr f)
/-- the callee's state, nothing being lent for change -/
theorem enterA {G : Gm} {s : Bool} {x y : Stt} {vs : List V} {l : List (D × Kd)} (hy : SInv G y) (h : AOk G x y vs l) (hl : argsOk l = true) :
    ∃ c : Stt, ArgA G l.length vs y.H c ∧ c.rho = l.map argS ∧ c.p = [] ∧ (∀ a, y.F a → c.F a) ∧ ∀ a, c.F a → y.F a ∨ (x.H a = none ∧ a ∉ y.o ∧ a ∉ y.p ∧ a ∉ y.b) := by
  simp only [argsOk, Bool.and_eq_true, decide_eq_true_eq] at hl
  obtain ⟨fs, b, q1, q2, q3, q4, q5⟩ := h.enter hl.1 hl.2
  refine ⟨⟨fun a => y.F a ∨ a ∈ fs, l.map argS, vs.map some, y.H, [], [], b⟩, ⟨rfl, rfl, ⟨q5, by simpa using q3, fun a f => ?_, hy.tb⟩, by simp, rfl⟩, rfl, rfl, fun _ h => .inl h, fun a f => ?_⟩
  · rcases f with f | f
    · exact hy.dom a f
    · exact (q1 a f).1.1
  · rcases f with f | f
    · exact .inl f
    · exact .inr ⟨(q1 a f).2, (q1 a f).1.2⟩
theorem leaveA {G : Gm} {s : Bool} {x y c u : Stt} (hx : SInv G x) (hy : SInv G y) (e : Ext s x y) (hcH : c.H = y.H) (f1 : ∀ a, y.F a → c.F a) (f2 : ∀ a, c.F a → y.F a ∨ (x.H a = none ∧ a ∉ y.o ∧ a ∉ y.p ∧ a ∉ y.b)) (iu : SInv G u) (eu : Ext true c u) :
    SInv G { y with F := u.F, H := u.H } ∧ Ext s x { y with F := u.F, H := u.H } := by
  obtain ⟨_, ku, _⟩ := eu.st rfl
  rw [hcH] at ku
  have hf : ∀ a, y.F a → u.F a := fun a f => eu.f1 a (f1 a f)
  have hdm : ∀ a, u.H a = none → y.H a = none := fun a q => by have := eu.dm a q; rwa [hcH] at this
  have inv : SInv G { y with F := u.F, H := u.H } := by
    refine ⟨hy.sl.keep hf (fun a o f e t => ku a o e (by simp) t) fun a ha => ⟨fun f => ?_, fun o e t => ku a o e (by simp) t⟩, hy.nd, iu.dom, iu.tb⟩
    obtain ⟨nf, o, e', _⟩ := hy.sl.there a ha
    rcases eu.f2 a f with q | q
    · rcases f2 a q with q | q
      · exact nf q
      · rcases ha with z | z | z
        · exact q.2.1 z
        · exact q.2.2.1 z
        · exact q.2.2.2 z
    · rw [hcH, e'] at q; cases q
  refine ⟨inv, ⟨e.sg, e.kp.trans (m' := []) ku (by simp), fun a f => hf a (e.f1 a f), fun a f => ?_, e.o1, e.p1, e.b1, fun a q => e.dm a (hdm a q), e.lk, fun q => ?_⟩⟩
  · rcases eu.f2 a f with q | q
    · rcases f2 a q with q | q
      · exact e.f2 a q
      · exact .inr q.1
    · rw [hcH] at q; exact .inr (e.dm a q)
  · obtain ⟨r1, k1, o1⟩ := e.st q
    exact ⟨r1, k1.trans ku (by simp), o1⟩
theorem leaveA_post {G : Gm} {s : Bool} {x y c u : Stt} {v : V} {d : D} {k : Kd} {fv : List Addr} (hx : SInv G x) (hy : SInv G y) (e : Ext s x y) (hcH : c.H = y.H) (f1 : ∀ a, y.F a → c.F a) (f2 : ∀ a, c.F a → y.F a ∨ (x.H a = none ∧ a ∉ y.o ∧ a ∉ y.p ∧ a ∉ y.b)) (P : EPost G true c u v d k fv) (hk : k ≠ .br) :
    EPost G s x { y with F := u.F, H := u.H } v d k fv := by
  obtain ⟨i1, e1⟩ := leaveA hx hy e hcH f1 f2 P.inv P.ext
  refine ⟨i1, e1, P.own, ?_, .ne hk⟩
  have kd := P.kd
  cases k with
  | br => exact absurd rfl hk
  | fz => exact kd
  | ow =>
    refine ⟨kd.1, fun a ha => ?_⟩
    have n : y.H a = none := by rw [← hcH]; exact (kd.2 a ha).1
    refine ⟨e.dm a n, fun z => ?_, fun z => ?_, fun z => ?_⟩
    · obtain ⟨_, o, e', _⟩ := hy.there (.inl z); rw [n] at e'; cases e'
    · obtain ⟨_, o, e', _⟩ := hy.there (.inr (.inl z)); rw [n] at e'; cases e'
    · obtain ⟨_, o, e', _⟩ := hy.there (.inr (.inr z)); rw [n] at e'; cases e'
def xCall (m : FA) (f : AE) : EE := fun ρ => do
  let (l, ρ1) ← f ρ
  if argsOk l = true then
    match m (l.map argS) with
    | .ok (d, k) => if k = .br then .bad else .ok (d, k, ρ1)
    | .err c d _ => .err c d ρ1
    | .bad => .bad
  else .bad
section
variable {X : Cx} {G : Gm} {W : WX}
theorem tS_call {np : Nat} {m : FA} {s : Bool} {f : AE} {σ H Q} (h : tS G W s (xCall m f) σ H Q) (hn : ∀ ρ l ρ1, f ρ = .ok (l, ρ1) → l.length = np) : tA G W s f σ H fun vs H1 => spA G np m vs H1 Q (WE W σ) := by
  obtain ⟨x, rfl, rfl, hx, q⟩ := h
  refine ⟨x, rfl, rfl, hx, ?_⟩
  unfold xCall at q
  cases e : f x.rho with
  | bad => simp only [e, Res.bind_bad] at q
  | err c d ρ' => simp only [e, Res.bind_err] at q; exact q
  | ok r =>
    obtain ⟨l, ρ1⟩ := r
    simp only [e, Res.bind_ok] at q
    intro y vs hρ iy ey ay
    by_cases hl : argsOk l = true
    · rw [if_pos hl] at q
      obtain ⟨c, hc, hcρ, hcp, f1, f2⟩ := enterA (s := s) iy ay hl
      rw [hn _ _ _ e] at hc
      refine ⟨c, hc, hcp, ?_⟩
      rw [hcρ]
      cases e2 : m (l.map argS) with
      | bad => simp only [e2] at q
      | err c' d ρ' =>
        simp only [e2] at q
        intro u cls dx hu iu eu hev
        obtain ⟨i1, e1⟩ := leaveA hx iy ey hc.H f1 f2 iu eu
        exact q { y with F := u.F, H := u.H } cls dx hρ i1 e1 hev
      | ok r2 =>
        obtain ⟨d, k⟩ := r2
        simp only [e2] at q
        intro u v fv hu P hk
        rw [if_neg hk] at q
        exact q { y with F := u.F, H := u.H } v fv hρ (leaveA_post hx iy ey hc.H f1 f2 P hk)
    · rw [if_neg hl] at q; exact q.elim
/-- as many arguments as written -/
def ALen (n : Nat) (f : AE) : Prop := ∀ ρ l ρ1, f ρ = .ok (l, ρ1) → l.length = n
theorem alen_nil : ALen 0 aN := fun ρ l ρ1 h => by cases h; rfl
theorem alen_cons {n : Nat} {s : Bool} {f : EE} {g : AE} (h : ALen n g) : ALen (n + 1) (aC s f g) := fun ρ l ρ1 e => by
  unfold aC at e
  cases h1 : f ρ with
  | bad => simp [h1] at e
  | err c d ρ' => simp [h1] at e
  | ok r =>
    obtain ⟨d, k, ρ2⟩ := r
    simp only [h1, Res.bind_ok] at e
    split at e
    · cases e
    · cases h2 : g ρ2 with
      | bad => simp [h2] at e
      | err c d ρ' => simp [h2] at e
      | ok r2 =>
        obtain ⟨l2, ρ3⟩ := r2
        simp only [h2, Res.bind_ok, Res.pure_ok, Res.ok.injEq, Prod.mk.injEq] at e
        obtain ⟨rfl, _⟩ := e
        simp [h _ _ _ h2]
theorem r_call {x : Str} {p pos : Pos} {e : Expr} {es : List Expr} {k : Nat} {fa : Addr} {fd : FuncData} {ps : List Str} {m : FA} {s : Bool} {f : AE} (tk : Takes X W) (F : FnG X.prog X.w X.K X.mg X.base k fa fd ps (spA G ps.length m)) (hr : RoomG k X.A) (hg : Gl X x) (hm : X.mg x = some (.ref fa)) (hk : PySem.W.keepIn X.K (.ref fa) = true) (hb : Binds X.K fd ps [])
    (ha : PA X (e :: es) (tA G W s f)) (hn : ALen ps.length f) (hdb : (x == ("__debug__" : Str)) = false := by decide) (he : starEach (e :: es) X.env = (false, eval e X.env) :: starEach es X.env := by rfl) (hpl : (backTo pos (starEach es X.env)).any (·.1) = false := by rfl) :
    PE X (.Call (.Name x p) (e :: es) [] pos) (tS G W s (xCall m f)) :=
  PE.of (callG F hr hg hm hk hb (fun σ => passAt tk σ) ha hdb he hpl) fun σ H Q h => tS_call h hn
end
end VL
/-! VL12: calls of defs that change their first argument. -/
namespace VL
open PySem PySem.Spec PyProof.Rows L2

def ownFl (fl : Fl) : Bool := decide (fl = .ow) || decide (fl = .pn)
def callMK (m : FB) (i : Nat) (l : List (D × Kd)) (ρ1 : Env) : Res (D × Kd × Env) :=
  match ρ1[i]? with
  | some (some (d0, fl1)) =>
    if ownFl fl1 = true ∧ argsOk l = true ∧ (l.all fun dk => decide (dk.2 ≠ .br) || decide (dk.1.isDrw ≠ d0.isDrw)) = true then
      match m (some (d0, .pn) :: l.map argS) with
      | .ok (d, k, d1) => if k = .br then .bad else .ok (d, k, ρ1.set i (some (d1, fl1)))
      | .err c d ρ' => match err1 ρ' with
        | some d1 => .err c d (ρ1.set i (some (d1, fl1)))
        | none => .bad
      | _ => .bad
    else .bad
  | _ => .bad
def xCallM (m : FB) (i : Nat) (f : AE) : EE := fun ρ => match ρ[i]? with
  | some (some (_, fl)) => if ownFl fl = true then (do
      let (l, ρ1) ← f ρ
      callMK m i l ρ1) else .bad
  | _ => .bad
theorem noPn_args (l : List (D × Kd)) : NoPn (l.map argS) := fun s hs d e => by
  obtain ⟨dk, _, rfl⟩ := List.mem_map.mp hs
  unfold argS at e
  split at e <;> cases e
theorem ownFl_iff {fl : Fl} (h : ownFl fl = true) : fl = .ow ∨ fl = .pn := by
  cases fl <;> simp [ownFl] at h <;> simp
theorem enterB {G : Gm} {x y : Stt} {vs : List V} {l : List (D × Kd)} {i : Nat} {v0 : V} {d0 : D} {fl : Fl} (hy : SInv G y) (h : AOk G x y vs l) (hl : argsOk l = true) (hi : y.rho[i]? = some (some (d0, fl))) (hfl : fl = .ow ∨ fl = .pn) (hv : y.sg[i]? = some (some v0))
    (hd : (l.all fun dk => decide (dk.2 ≠ .br) || decide (dk.1.isDrw ≠ d0.isDrw)) = true) :
    ∃ (c : Stt) (fp : List Addr), ArgA G (l.length + 1) (v0 :: vs) y.H c ∧ c.rho = some (d0, .pn) :: l.map argS ∧ c.p = fp ∧ (∀ a, y.F a → c.F a) ∧ (∀ a, c.F a → y.F a ∨ (x.H a = none ∧ a ∉ y.o ∧ a ∉ y.p ∧ a ∉ y.b)) ∧
      Own G y.F y.H v0 d0 fp ∧ fp ≠ [] ∧ (∀ a ∈ fp, a ∈ y.o ∨ a ∈ y.p) := by
  simp only [argsOk, Bool.and_eq_true, decide_eq_true_eq] at hl
  obtain ⟨fs, b, q1, q2, q3, q4, q5⟩ := h.enter hl.1 hl.2
  obtain ⟨v0', fp, e1, w, _, n0, hm⟩ := hy.sl.get hi
  rw [hv] at e1; cases e1
  have n0 := n0 hfl
  obtain ⟨port, p1, p2, p3⟩ := hy.sl.ports hy.nd
  have pe : ∀ {j : Nat} {d : D} {flj : Fl} {v : V} {fv : List Addr}, y.rho[j]? = some (some (d, flj)) → y.sg[j]? = some (some v) → Own G y.F y.H v d fv → fv = port j := by
    intro j d flj v fv e2 e3 w2
    obtain ⟨v', e4, w3⟩ := p1 j d flj e2
    rw [e3] at e4; cases e4
    exact w2.uniq w3
  have hfp := pe hi hv w
  have dis : ∀ a ∈ fp, a ∉ b := fun a ha hb => by
    obtain ⟨dk, v, fv, m, hbr, sr, wv, hav⟩ := q4 a hb
    obtain ⟨j, flj, s1, s2, s3⟩ := sr rfl
    have hj : i ≠ j := fun e => by
      subst e
      rw [hi] at s1; cases s1
      have := List.all_eq_true.mp hd dk m
      simp [hbr] at this
    have := pe s1 s2 wv
    rw [this] at hav
    rw [hfp] at ha
    exact p2 i j hj a ha hav
  have nin : ∀ a ∈ fp, a ∉ fs := fun a ha hf => by
    obtain ⟨⟨_, n1, n2, n3⟩, _⟩ := q1 a hf
    rcases hm a ha with z | z | z
    · exact n1 z.2
    · exact n2 z.2
    · exact n3 z.2
  refine ⟨⟨fun a => y.F a ∨ a ∈ fs, some (d0, .pn) :: l.map argS, (v0 :: vs).map some, y.H, [], fp ++ [], b⟩, fp, ⟨rfl, rfl, ⟨.pn (w.keep (fun _ h => .inl h) .refl fun a ha => ⟨fun f => ?_, fun o e _ => e⟩) n0 q5, ?_, fun a f => ?_, hy.tb⟩, by simp, rfl⟩, rfl, by simp, fun _ h => .inl h, fun a f => ?_, w, n0, fun a ha => ?_⟩
  · rcases f with f | f
    · exact (w.there a ha).1 f
    · exact nin a ha f
  · simp only [List.nil_append, List.append_nil]
    exact List.nodup_append.mpr ⟨w.nodup, q3, fun a ha c hc e => dis a ha (e ▸ hc)⟩
  · rcases f with f | f
    · exact hy.dom a f
    · exact (q1 a f).1.1
  · rcases f with f | f
    · exact .inl f
    · exact .inr ⟨(q1 a f).2, (q1 a f).1.2⟩
  · rcases hm a ha with z | z | z
    · exact .inl z.2
    · exact .inr z.2
    · obtain ⟨z, _⟩ := z; rcases hfl with q | q <;> (rw [q] at z; cases z)
theorem leaveB0 {G : Gm} {s : Bool} {x y c u : Stt} {i : Nat} {v0 : V} {d0 d1 : D} {fp : List Addr} {fl : Fl} {l : List (D × Kd)} {vs : List V} (hx : SInv G x) (hy : SInv G y) (e : Ext s x y) (hi : y.rho[i]? = some (some (d0, fl))) (hfl : fl = .ow ∨ fl = .pn) (hv : y.sg[i]? = some (some v0))
    (hc : ArgA G (l.length + 1) (v0 :: vs) y.H c) (hcp : c.p = fp) (f1 : ∀ a, y.F a → c.F a) (f2 : ∀ a, c.F a → y.F a ∨ (x.H a = none ∧ a ∉ y.o ∧ a ∉ y.p ∧ a ∉ y.b)) (w : Own G y.F y.H v0 d0 fp) (n0 : fp ≠ []) (hm : ∀ a ∈ fp, a ∈ y.o ∨ a ∈ y.p)
    (hu : u.rho = some (d1, .pn) :: l.map argS) (iu : SInv G u) (eu : Ext false c u) :
    SInv G { y with F := u.F, H := u.H, rho := y.rho.set i (some (d1, fl)) } ∧ Ext false x { y with F := u.F, H := u.H, rho := y.rho.set i (some (d1, fl)) } := by
  have hcH := hc.H
  have kp : Kept fp y.H u.H := by
    have := eu.kp
    rw [hc.o, hcp, hcH] at this
    simpa using this
  have hf : ∀ a, y.F a → u.F a := fun a f => eu.f1 a (f1 a f)
  have hdm : ∀ a, u.H a = none → y.H a = none := fun a q => by have := eu.dm a q; rwa [hcH] at this
  have nuF : ∀ a, a ∈ y.o ∨ a ∈ y.p ∨ a ∈ y.b → ¬ u.F a := fun a ha f => by
    obtain ⟨nf, o, e', _⟩ := hy.sl.there a ha
    rcases eu.f2 a f with q | q
    · rcases f2 a q with q | q
      · exact nf q
      · rcases ha with z | z | z
        · exact q.2.1 z
        · exact q.2.2.1 z
        · exact q.2.2.2 z
    · rw [hcH, e'] at q; cases q
  have hm3 : ∀ a ∈ fp, a ∈ y.o ∨ a ∈ y.p ∨ a ∈ y.b := fun a ha => (hm a ha).elim .inl fun z => .inr (.inl z)
  -- the lent object behind the call
  have w' : Own G u.F u.H v0 d1 fp := by
    have us := iu.sl
    have hσ : u.sg = (v0 :: vs).map some := eu.sg.trans hc.sg
    have hp : u.p = fp := eu.p1.trans hcp
    rw [hu, hσ, hp] at us
    have gen : ∀ {ρ σ o p b}, Slots G u.F u.H ρ σ o p b → ρ = some (d1, .pn) :: l.map argS → σ = some v0 :: vs.map some → Own G u.F u.H v0 d1 p := by
      intro ρ σ o p b hs e1 e2
      cases hs with
      | nil => cases e1
      | none _ => cases e1
      | fz _ _ => cases e1
      | ow _ _ _ => cases e1
      | lk _ _ => cases e1
      | pn w' n' hs =>
        cases e1
        cases e2
        have := hs.noPn (noPn_args l)
        rw [this, List.append_nil]
        exact w'
    exact gen us rfl rfl
  have s1 : Slots G u.F y.H y.rho y.sg y.o y.p y.b := hy.sl.keep hf .refl fun a ha => ⟨nuF a ha, fun o e _ => e⟩
  have w1 : Own G u.F y.H v0 d0 fp := w.keep hf .refl fun a ha => ⟨nuF a (hm3 a ha), fun o e _ => e⟩
  have s2 := s1.mut (H' := u.H) hy.nd hi hfl hv w1 n0 w' fun a ob e n t => kp a ob e n t
  have hlen : i < y.rho.length := (List.getElem?_eq_some_iff.mp hi).1
  refine ⟨⟨s2, hy.nd, iu.dom, iu.tb⟩, ⟨e.sg, e.kp.trans kp fun a ha => ?_, fun a f => hf a (e.f1 a f), fun a f => ?_, e.o1, e.p1, e.b1, fun a q => e.dm a (hdm a q), fun j d' fl' e1 hf' => ?_, fun q => by cases q⟩⟩
  · rcases hm a ha with q | q
    · rcases e.o1 a q with q | q
      · exact .inl (by simp [q])
      · exact .inr q
    · rw [e.p1] at q; exact .inl (by simp [q])
  · rcases eu.f2 a f with q | q
    · rcases f2 a q with q | q
      · exact e.f2 a q
      · exact .inr q.1
    · rw [hcH] at q; exact .inr (e.dm a q)
  · obtain ⟨d2, e2, k2⟩ := e.lk j d' fl' e1 hf'
    by_cases hj : i = j
    · subst hj
      rw [hi] at e2; cases e2
      refine ⟨d1, List.getElem?_set_self hlen, fun z => ?_⟩
      rcases hfl with q | q <;> (rw [q] at z; cases z)
    · exact ⟨d2, by rw [List.getElem?_set_ne hj]; exact e2, k2⟩
theorem leaveB {G : Gm} {s : Bool} {x y c u : Stt} {i : Nat} {v0 v : V} {d0 d1 d : D} {k : Kd} {fv fp : List Addr} {fl : Fl} {l : List (D × Kd)} {vs : List V} (hx : SInv G x) (hy : SInv G y) (e : Ext s x y) (hi : y.rho[i]? = some (some (d0, fl))) (hfl : fl = .ow ∨ fl = .pn) (hv : y.sg[i]? = some (some v0))
    (hc : ArgA G (l.length + 1) (v0 :: vs) y.H c) (hcp : c.p = fp) (f1 : ∀ a, y.F a → c.F a) (f2 : ∀ a, c.F a → y.F a ∨ (x.H a = none ∧ a ∉ y.o ∧ a ∉ y.p ∧ a ∉ y.b)) (w : Own G y.F y.H v0 d0 fp) (n0 : fp ≠ []) (hm : ∀ a ∈ fp, a ∈ y.o ∨ a ∈ y.p)
    (hu : u.rho = some (d1, .pn) :: l.map argS) (P : EPost G false c u v d k fv) (hk : k ≠ .br) :
    EPost G false x { y with F := u.F, H := u.H, rho := y.rho.set i (some (d1, fl)) } v d k fv := by
  obtain ⟨i1, e1⟩ := leaveB0 hx hy e hi hfl hv hc hcp f1 f2 w n0 hm hu P.inv P.ext
  have hcH := hc.H
  refine ⟨i1, e1, P.own, ?_, .ne hk⟩
  have kd := P.kd
  cases k with
  | br => exact absurd rfl hk
  | fz => exact kd
  | ow =>
    refine ⟨kd.1, fun a ha => ?_⟩
    have n : y.H a = none := by rw [← hcH]; exact (kd.2 a ha).1
    refine ⟨e.dm a n, fun z => ?_, fun z => ?_, fun z => ?_⟩
    · obtain ⟨_, o, e', _⟩ := hy.there (.inl z); rw [n] at e'; cases e'
    · obtain ⟨_, o, e', _⟩ := hy.there (.inr (.inl z)); rw [n] at e'; cases e'
    · obtain ⟨_, o, e', _⟩ := hy.there (.inr (.inr z)); rw [n] at e'; cases e'
section
variable {X : Cx} {G : Gm} {W : WX}
theorem tS_callM {np i : Nat} {m : FB} {s : Bool} {f : AE} {σ H Q} (h : tS G W false (xCallM m i f) σ H Q) (hn : ALen np f) : tCons (tVar i) (tA G W s f) σ H fun vs H1 => spB G (np + 1) m vs H1 Q (WE W σ) := by
  obtain ⟨x, rfl, rfl, hx, q⟩ := h
  unfold xCallM at q
  cases e0 : x.rho[i]? with
  | none => simp only [e0] at q
  | some sl =>
  cases sl with
  | none => simp only [e0] at q
  | some df =>
  obtain ⟨d00, fl0⟩ := df
  simp only [e0] at q
  by_cases hfl0 : ownFl fl0 = true
  · rw [if_pos hfl0] at q
    obtain ⟨v0, fp0, ev, _⟩ := hx.sl.get e0
    refine ⟨v0, ev, x, rfl, rfl, hx, ?_⟩
    cases e : f x.rho with
    | bad => simp only [e, Res.bind_bad] at q
    | err c d ρ' =>
      simp only [e, Res.bind_err] at q
      exact fun y cls dx hρ iy ey hev => q y cls dx hρ iy (ey.weak fun z => by cases z) hev
    | ok r =>
      obtain ⟨l, ρ1⟩ := r
      simp only [e, Res.bind_ok] at q
      intro y vs hρ iy ey ay
      unfold callMK at q
      cases e1 : ρ1[i]? with
      | none => simp only [e1] at q
      | some sl1 =>
      cases sl1 with
      | none => simp only [e1] at q
      | some df1 =>
      obtain ⟨d0, fl⟩ := df1
      simp only [e1] at q
      by_cases hc : ownFl fl = true ∧ argsOk l = true ∧ (l.all fun dk => decide (dk.2 ≠ .br) || decide (dk.1.isDrw ≠ d0.isDrw)) = true
      · rw [if_pos hc] at q
        have hi : y.rho[i]? = some (some (d0, fl)) := by rw [hρ]; exact e1
        have hv : y.sg[i]? = some (some v0) := by rw [ey.sg]; exact ev
        obtain ⟨c, fp, a1, a2, a3, a4, a5, a6, a7, a8⟩ := enterB iy ay hc.2.1 hi (ownFl_iff hc.1) hv hc.2.2
        have a1' := a1
        rw [hn _ _ _ e] at a1
        refine ⟨c, d0, l.map argS, a1, a2, noPn_args l, ?_⟩
        rw [a2]
        cases e2 : m (some (d0, .pn) :: l.map argS) with
        | bad => simp only [e2] at q
        | err c' d ρ' =>
          simp only [e2] at q
          cases h1 : err1 ρ' with
          | none => simp only [h1] at q
          | some d1 =>
            simp only [h1] at q
            refine ⟨d1, h1, fun u cls dx hu iu eu hev => ?_⟩
            obtain ⟨i1, e1'⟩ := leaveB0 hx iy ey hi (ownFl_iff hc.1) hv a1' a3 a4 a5 a6 a7 a8 hu iu eu
            exact q { y with F := u.F, H := u.H, rho := y.rho.set i (some (d1, fl)) } cls dx (by rw [hρ]) i1 e1' hev
        | ok r2 =>
          obtain ⟨d, k, d1⟩ := r2
          simp only [e2] at q
          intro u v fv hu P hk
          rw [if_neg hk] at q
          have R := leaveB hx iy ey hi (ownFl_iff hc.1) hv a1' a3 a4 a5 a6 a7 a8 hu P hk
          exact q { y with F := u.F, H := u.H, rho := y.rho.set i (some (d1, fl)) } v fv (by rw [hρ]) R
      · rw [if_neg hc] at q; exact q.elim
  · rw [if_neg hfl0] at q; exact q.elim
theorem r_callM {x : Str} {p pos : Pos} {e : Expr} {es : List Expr} {k i : Nat} {fa : Addr} {fd : FuncData} {ps : List Str} {np : Nat} {m : FB} {s : Bool} {f : AE} (tk : Takes X W) (F : FnG X.prog X.w X.K X.mg X.base k fa fd ps (spB G ps.length m)) (hr : RoomG k X.A) (hg : Gl X x) (hm : X.mg x = some (.ref fa)) (hk : PySem.W.keepIn X.K (.ref fa) = true) (hb : Binds X.K fd ps [])
    (he0 : PE X e (tVar i)) (ha : PA X es (tA G W s f)) (hn : ALen np f) (hps : ps.length = np + 1 := by rfl) (hdb : (x == ("__debug__" : Str)) = false := by decide) (he : starEach (e :: es) X.env = (false, eval e X.env) :: starEach es X.env := by rfl) (hpl : (backTo pos (starEach es X.env)).any (·.1) = false := by rfl) :
    PE X (.Call (.Name x p) (e :: es) [] pos) (tS G W false (xCallM m i f)) :=
  PE.of (callG F hr hg hm hk hb (fun σ => passAt tk σ) (pa_cons he0 ha he) hdb he hpl) fun σ H Q h => by
    have := tS_callM (s := s) h hn
    rw [← hps] at this
    exact this
end
end VL
/-! VL13: functions on data for the built-in operations. -/
namespace VL
open PySem PySem.Spec PyProof.Rows L2

section
variable {G : Gm} {F : Addr → Prop} {H : Hp} {v w : V} {fv fw : List Addr}
theorem Own.int_of {i : Int} (h : Own G F H v (.int i) fv) : v = .int i := by
  cases h with
  | fz r => exact r.int_of
  | ow _ ob => exact False.elim ob
theorem Own.bl_of {i : Bool} (h : Own G F H v (.bl i) fv) : v = .bl i := by
  cases h with
  | fz r => exact r.bl_of
  | ow _ ob => exact False.elim ob
theorem Own.str_of {i : Str} (h : Own G F H v (.str i) fv) : v = .str i := by
  cases h with
  | fz r => exact r.str_of
  | ow _ ob => exact False.elim ob
theorem Own.non_of (h : Own G F H v .non fv) : v = .non := by
  cases h with
  | fz r => exact r.non_of
  | ow _ ob => exact False.elim ob
/-- is it None? -/
def D.isNon : D → Bool
  | .non => true
  | _ => false
theorem Own.isNon {d : D} (h : Own G F H v d fv) : decide (v = .non) = d.isNon := by
  cases d
  case non => rw [h.non_of]; rfl
  all_goals
    simp only [D.isNon, decide_eq_false_iff_not]
    rintro rfl
    cases h with
    | fz r => cases r; rename_i h _; simp [atomD] at h
end

/-! ### numbers -/
def d2I (g : Int → Int → Option (D × Kd)) : D → D → Option (D × Kd)
  | .int i, .int j => g i j
  | _, _ => none
theorem d2I_eq {g : Int → Int → Option (D × Kd)} {a b : D} {r : D × Kd} (h : d2I g a b = some r) : ∃ i j, a = .int i ∧ b = .int j ∧ g i j = some r := by
  unfold d2I at h
  split at h
  · exact ⟨_, _, rfl, rfl, h⟩
  · cases h
theorem fn_int2 {G : Gm} {r : R2} {g : Int → Int → Option (D × Kd)} (hr : ∀ i j e k Q H, g i j = some (e, k) → k = .fz ∧ ∃ v, atomD v = some e ∧ (Q v H → r (.int i) (.int j) H Q)) : FnD2 G r (d2I g) := by
  intro F H v w a b fv fw d k Q hd ha hb hg q
  obtain ⟨i, j, rfl, rfl, hg⟩ := d2I_eq hg
  rw [ha.int_of, hb.int_of]
  obtain ⟨rfl, u, hu, f⟩ := hr i j d k Q H hg
  exact f (q F H u [] (.atom hd hu))
def gI (f : Int → Int → Int) : Int → Int → Option (D × Kd) := fun i j => some (.int (f i j), .fz)
def gB (f : Int → Int → Bool) : Int → Int → Option (D × Kd) := fun i j => some (.bl (f i j), .fz)
def gIf (c : Int → Int → Prop) [∀ i j, Decidable (c i j)] (f : Int → Int → Int) : Int → Int → Option (D × Kd) := fun i j => if c i j then some (.int (f i j), .fz) else none
theorem fn_gI {G : Gm} {f : Int → Int → Int} : FnD2 G (rI0 fun i j => .int (f i j)) (d2I (gI f)) := fn_int2 fun i j e k Q H h => by
  simp only [gI, Option.some.injEq, Prod.mk.injEq] at h
  obtain ⟨rfl, rfl⟩ := h
  exact ⟨rfl, .int (f i j), rfl, fun q => ⟨i, j, rfl, rfl, q⟩⟩
theorem fn_gB {G : Gm} {f : Int → Int → Bool} : FnD2 G (rI0 fun i j => .bl (f i j)) (d2I (gB f)) := fn_int2 fun i j e k Q H h => by
  simp only [gB, Option.some.injEq, Prod.mk.injEq] at h
  obtain ⟨rfl, rfl⟩ := h
  exact ⟨rfl, .bl (f i j), rfl, fun q => ⟨i, j, rfl, rfl, q⟩⟩
theorem fn_gIf {G : Gm} {c : Int → Int → Prop} [∀ i j, Decidable (c i j)] {C : Int → Int → Prop} (hc : ∀ i j, c i j → C i j) {f : Int → Int → Int} : FnD2 G (rI C fun i j => .int (f i j)) (d2I (gIf c f)) := fn_int2 fun i j e k Q H h => by
  unfold gIf at h
  split at h
  · rename_i hh
    simp only [Option.some.injEq, Prod.mk.injEq] at h
    obtain ⟨rfl, rfl⟩ := h
    exact ⟨rfl, .int (f i j), rfl, fun q => ⟨i, j, rfl, rfl, hc _ _ hh, q⟩⟩
  · cases h
def dSub := d2I (gI fun i j => i - j)
def dLt := d2I (gB fun i j => decide (i < j))
def dLe := d2I (gB fun i j => decide (i ≤ j))
def dGt := d2I (gB fun i j => decide (j < i))
def dGe := d2I (gB fun i j => decide (j ≤ i))
def smallI (i : Int) : Prop := -(2 ^ 64) < i ∧ i < 2 ^ 64
instance {i : Int} : Decidable (smallI i) := by unfold smallI; infer_instance
instance {i j : Int} : Decidable (CDivN i j) := by unfold CDivN; infer_instance
instance {i j : Int} : Decidable (CPow i j) := by unfold CPow; infer_instance
instance {i j : Int} : Decidable (CMul i j) := by unfold CMul; infer_instance
/-- floor division by an open number below 2 ^ 30 -/
def dFdiv := d2I (gIf CDivN Int.fdiv)
def dMod := d2I (gIf (fun _ j => j ≠ 0) Int.fmod)
def dPow := d2I (gIf CPow fun i j => i ^ j.toNat)
section
variable {X : Cx} {G : Gm}
theorem o_sub : OpR X (binaryOp .Sub) (rI0 fun i j => .int (i - j)) ∧ FnD2 G (rI0 fun i j => .int (i - j)) dSub := ⟨op_sub, fn_gI⟩
theorem o_fdiv : OpR X (binaryOp .FloorDiv) (rI CDivN fun i j => .int (i.fdiv j)) ∧ FnD2 G (rI CDivN fun i j => .int (i.fdiv j)) dFdiv := ⟨op_fdivN, fn_gIf fun _ _ h => h⟩
theorem o_mod : OpR X (binaryOp .Mod) (rI (fun _ j => j ≠ 0) fun i j => .int (i.fmod j)) ∧ FnD2 G (rI (fun _ j => j ≠ 0) fun i j => .int (i.fmod j)) dMod := ⟨op_modN, fn_gIf fun _ _ h => h⟩
theorem o_pow : OpR X (binaryOp .Pow) (rI CPow fun i j => .int (i ^ j.toNat)) ∧ FnD2 G (rI CPow fun i j => .int (i ^ j.toNat)) dPow := ⟨op_pow, fn_gIf fun _ _ h => h⟩
theorem o_lt : OpR X (compareOp .Lt) (rI0 fun i j => .bl (decide (i < j))) ∧ FnD2 G (rI0 fun i j => .bl (decide (i < j))) dLt := ⟨op_lt, fn_gB⟩
theorem o_le : OpR X (compareOp .LtE) (rI0 fun i j => .bl (decide (i ≤ j))) ∧ FnD2 G (rI0 fun i j => .bl (decide (i ≤ j))) dLe := ⟨op_le, fn_gB⟩
theorem o_gt : OpR X (compareOp .Gt) (rI0 fun i j => .bl (decide (j < i))) ∧ FnD2 G (rI0 fun i j => .bl (decide (j < i))) dGt := ⟨op_gt, fn_gB⟩
theorem o_ge : OpR X (compareOp .GtE) (rI0 fun i j => .bl (decide (j ≤ i))) ∧ FnD2 G (rI0 fun i j => .bl (decide (j ≤ i))) dGe := ⟨op_ge, fn_gB⟩

/-! ### + and * -/
def dAdd : D → D → Option (D × Kd)
  | .int i, .int j => some (.int (i + j), .fz)
  | .str x, .str y => if x.length + y.length ≤ sizeLine then some (.str (x ++ y), .fz) else none
  | .lst a, .lst b => if a.length + b.length ≤ sizeLine then some (.lst (a ++ b), .ow) else none
  | .tup a, .tup b => if a ≠ [] ∧ b ≠ [] ∧ a.length + b.length ≤ sizeLine then some (.tup (a ++ b), .fz) else none
  | _, _ => none
theorem Own.lstM {F : Addr → Prop} {H : Hp} {v : V} {ds : List D} {fp : List Addr} (h : Own G F H v (.lst ds) fp) : ∃ a ws, v = .ref a ∧ H a = some (.lst ws) ∧ ws.length ≤ sizeLine ∧ Rep G F H ws ds := by
  cases h with
  | fz r =>
    cases r with
    | atom e _ => cases v <;> simp [atomD] at e
    | lst f e z r1 _ => exact ⟨_, _, rfl, e, z, r1⟩
  | ow f ob =>
    obtain ⟨ws, e, z, r⟩ := ob
    exact ⟨_, ws, rfl, e, z, r⟩
/-- lists but the script -/
def rAddAll (K : PySem.W.Frag) : R2 := fun x y H Q => rI0 (fun i j => .int (i + j)) x y H Q ∨ (∃ i j, x = .str i ∧ y = .str j ∧ i.length + j.length ≤ sizeLine ∧ Q (.str (i ++ j)) H) ∨ rCat x y H Q ∨ rCatT K x y H Q
theorem op_addAll : OpR X (binaryOp .Add) (rAddAll X.K) := op_add.or (op_add_str.or (op_cat.or op_catT))
theorem fn_add (hK : X.K = G.K) : FnD2 G (rAddAll X.K) dAdd := by
  intro F H v w a b fv fw d k Q hd ha hb hg q
  unfold dAdd at hg
  split at hg
  · cases hg
    rw [ha.int_of, hb.int_of]
    exact .inl ⟨_, _, rfl, rfl, q F H _ [] (.atom hd rfl)⟩
  · split at hg
    · rename_i hz
      cases hg
      rw [ha.str_of, hb.str_of]
      exact .inr (.inl ⟨_, _, rfl, rfl, hz, q F H _ [] (.atom hd rfl)⟩)
    · cases hg
  · split at hg
    · rename_i hz
      cases hg
      obtain ⟨a, ws, rfl, e1, z1, r1⟩ := ha.lstM
      obtain ⟨b, us, rfl, e2, z2, r2⟩ := hb.lstM
      have hz' : ws.length + us.length ≤ sizeLine := by rw [r1.length, r2.length]; exact hz
      exact .inr (.inr (.inl ⟨a, b, ws, us, rfl, rfl, e1, e2, hz', fun p hp => q _ _ _ _ (.lst hd hp (by simpa using hz') (r1.append r2))⟩))
    · cases hg
  · split at hg
    · rename_i hz
      cases hg
      obtain ⟨a, ws, rfl, e1, z1, r1, _⟩ := ha.tup_of hK
      obtain ⟨b, us, rfl, e2, z2, r2, _⟩ := hb.tup_of hK
      have hz' : ws.length + us.length ≤ sizeLine := by rw [r1.length, r2.length]; exact hz.2.2
      refine .inr (.inr (.inr ⟨a, b, ws, us, rfl, rfl, e1, e2, fun z => hz.1 ?_, hz', ?_⟩))
      · subst z; cases r1; rfl
      · have n2 : us ≠ [] := fun z => hz.2.1 (by subst z; cases r2; rfl)
        exact ⟨fun z => absurd z n2, fun _ p hp => q _ _ _ _ (.tup hd hp (by simpa using hz') (r1.append r2))⟩
    · cases hg
  · cases hg

def dMul : D → D → Option (D × Kd)
  | .int i, .int j => if CMul i j then some (.int (i * j), .fz) else none
  | .lst a, .int k => if -(2 ^ 63) ≤ k ∧ k < 2 ^ 63 ∧ a.length * k.toNat ≤ sizeLine then some (.lst (List.replicate k.toNat a).flatten, .ow) else none
  | _, _ => none
theorem Rep.rep {F : Addr → Prop} {H : Hp} {vs : List V} {ds : List D} (h : Rep G F H vs ds) : ∀ k, Rep G F H (List.replicate k vs).flatten (List.replicate k ds).flatten
  | 0 => .nil
  | k + 1 => by
    simp only [List.replicate_succ, List.flatten_cons]
    exact h.append (Rep.rep h k)
theorem len_rep {α : Type} (l : List α) : ∀ k, (List.replicate k l).flatten.length = l.length * k
  | 0 => by simp
  | k + 1 => by simp only [List.replicate_succ, List.flatten_cons, List.length_append, len_rep l k]; rw [Nat.mul_succ]; omega
def rMulAll : R2 := fun x y H Q => rI CMul (fun i j => .int (i * j)) x y H Q ∨ rRep x y H Q
theorem op_mulAll : OpR X (binaryOp .Mult) rMulAll := op_mul.or op_rep
theorem fn_mul : FnD2 G rMulAll dMul := by
  intro F H v w a b fv fw d k Q hd ha hb hg q
  unfold dMul at hg
  split at hg
  · split at hg
    · rename_i hc
      cases hg
      rw [ha.int_of, hb.int_of]
      exact .inl ⟨_, _, rfl, rfl, hc, q F H _ [] (.atom hd rfl)⟩
    · cases hg
  · rename_i l0 k0
    split at hg
    · rename_i hz
      cases hg
      obtain ⟨a, ws, rfl, e1, z1, r1⟩ := ha.lstM
      rw [hb.int_of]
      have hz' : ws.length * k0.toNat ≤ sizeLine := by rw [r1.length]; exact hz.2.2
      exact .inr ⟨a, _, ws, rfl, rfl, e1, hz.1, hz.2.1, hz', fun p hp => q _ _ _ _ (.lst hd hp (by rw [len_rep]; exact hz') (r1.rep _))⟩
    · cases hg
  · cases hg
theorem o_add (hK : X.K = G.K) : OpR X (binaryOp .Add) (rAddAll X.K) ∧ FnD2 G (rAddAll X.K) dAdd := ⟨op_addAll, fn_add hK⟩
theorem o_mul : OpR X (binaryOp .Mult) rMulAll ∧ FnD2 G rMulAll dMul := ⟨op_mulAll, fn_mul⟩

/-! ### data without objects of classes -/
end
mutual
def toPy : D → Option PyData
  | .non => some .none
  | .bl b => some (.bool b)
  | .int i => some (.int i)
  | .str x => some (.str x)
  | .tup l => (toPyL l).map .tuple
  | .lst l => (toPyL l).map .list
  | _ => none
def toPyL : List D → Option (List PyData)
  | [] => some []
  | d :: ds => match toPy d, toPyL ds with
    | some p, some ps => some (p :: ps)
    | _, _ => none
end
section
variable {X : Cx} {G : Gm} {F : Addr → Prop} {H : Hp}
theorem Rep.dp {vs : List V} {ds : List D} (h : Rep G F H vs ds) {K : PySem.W.Frag} (hK : K = G.K) : ∀ {ps : List PyData}, toPyL ds = some ps → DpAll K H vs ps := by
  subst hK
  have cut : ∀ {d : D} {ds : List D} {ps : List PyData}, toPyL (d :: ds) = some ps → ∃ p qs, ps = p :: qs ∧ toPy d = some p ∧ toPyL ds = some qs := by
    intro d ds ps e
    simp only [toPyL] at e
    cases e1 : toPy d with
    | none => rw [e1] at e; cases e
    | some p =>
      rw [e1] at e
      cases e2 : toPyL ds with
      | none => rw [e2] at e; cases e
      | some qs => rw [e2] at e; cases e; exact ⟨p, qs, rfl, rfl, rfl⟩
  induction h with
  | nil => intro ps e; simp [toPyL] at e; subst e; exact .nil
  | @atom v d vs ds hv _ ih =>
    intro ps e
    obtain ⟨p, qs, rfl, e1, e2⟩ := cut e
    refine .cons ?_ (ih e2)
    cases v <;> simp [atomD] at hv <;> subst hv <;> simp [toPy] at e1 <;> subst e1
    · exact .non
    · exact .bl _
    · exact .int _
    · exact .str _
  | tup f e z r1 _ ih1 ih2 =>
    intro ps e
    obtain ⟨p, qs, rfl, e1, e2⟩ := cut e
    simp only [toPy, Option.map_eq_some_iff] at e1
    obtain ⟨ws, e3, rfl⟩ := e1
    exact .cons (.tup (.of ‹_›) (ih1 e3)) (ih2 e2)
  | lst f e z r1 _ ih1 ih2 =>
    intro ps e
    obtain ⟨p, qs, rfl, e1, e2⟩ := cut e
    simp only [toPy, Option.map_eq_some_iff] at e1
    obtain ⟨ws, e3, rfl⟩ := e1
    exact .cons (.lst (.of ‹_›) (ih1 e3)) (ih2 e2)
  | scr _ _ _ _ _ => intro ps e; obtain ⟨p, qs, rfl, e1, e2⟩ := cut e; simp [toPy] at e1
  | scrK _ _ _ _ => intro ps e; obtain ⟨p, qs, rfl, e1, e2⟩ := cut e; simp [toPy] at e1
  | dK _ _ _ _ _ _ _ _ => intro ps e; obtain ⟨p, qs, rfl, e1, e2⟩ := cut e; simp [toPy] at e1
  | dT _ _ _ _ _ _ _ _ => intro ps e; obtain ⟨p, qs, rfl, e1, e2⟩ := cut e; simp [toPy] at e1
  | ins _ _ _ _ _ _ _ _ => intro ps e; obtain ⟨p, qs, rfl, e1, e2⟩ := cut e; simp [toPy] at e1
  | exc _ _ _ _ _ _ _ _ _ _ => intro ps e; obtain ⟨p, qs, rfl, e1, e2⟩ := cut e; simp [toPy] at e1
  | exs _ _ _ _ _ _ _ => intro ps e; obtain ⟨p, qs, rfl, e1, e2⟩ := cut e; simp [toPy] at e1
theorem Own.dp {v : V} {d : D} {fp : List Addr} (h : Own G F H v d fp) {K : PySem.W.Frag} (hK : K = G.K) {p : PyData} (e : toPy d = some p) : Dp K H v p := by
  cases h with
  | fz r =>
    have := r.dp hK (ps := [p]) (by simp [toPyL, e])
    cases this with
    | cons h _ => exact h
  | ow f ob =>
    cases d <;> first | exact False.elim ob | skip
    case lst es =>
      obtain ⟨ws, e1, z, r⟩ := ob
      simp only [toPy, Option.map_eq_some_iff] at e
      obtain ⟨qs, e3, rfl⟩ := e
      exact .lst (.of e1) (r.dp hK e3)
    all_goals simp [toPy] at e
  | drw _ _ _ _ _ _ => simp [toPy] at e
/-- == of data; texts by themselves -/
def pyEq (a b : D) : Option Bool := match toPy a, toPy b with
  | some p, some q => if SeqAt.shaped p = true ∧ SeqAt.shaped q = true then some (PyData.eqv p q) else none
  | _, _ => none
def dEqB : D → D → Option Bool
  | .str x, .str y => some (decide (x = y))
  | a, b => pyEq a b
def dEq (a b : D) : Option (D × Kd) := (dEqB a b).map fun c => (.bl c, .fz)
def dNe (a b : D) : Option (D × Kd) := (dEqB a b).map fun c => (.bl (!c), .fz)
theorem pyEq_of {a b : D} {c : Bool} (h : pyEq a b = some c) : ∃ p q, toPy a = some p ∧ toPy b = some q ∧ SeqAt.shaped p = true ∧ SeqAt.shaped q = true ∧ c = PyData.eqv p q := by
  unfold pyEq at h
  split at h
  · split at h
    · rename_i hs
      cases h
      exact ⟨_, _, ‹_›, ‹_›, hs.1, hs.2, rfl⟩
    · cases h
  · cases h
theorem dEqB_of {a b : D} {c : Bool} (h : dEqB a b = some c) : (∃ x y, a = .str x ∧ b = .str y ∧ c = decide (x = y)) ∨ pyEq a b = some c := by
  unfold dEqB at h
  split at h
  · cases h; exact .inl ⟨_, _, rfl, rfl, rfl⟩
  · exact .inr h
theorem fn_eq (hK : X.K = G.K) : FnD2 G (fun x y H Q => rEq x y H Q ∨ rEqD X.K x y H Q) dEq := by
  intro F H v w a b fv fw d k Q hd ha hb hg q
  simp only [dEq, Option.map_eq_some_iff] at hg
  obtain ⟨c, hc, e⟩ := hg
  cases e
  rcases dEqB_of hc with ⟨x, y, rfl, rfl, rfl⟩ | h
  · rw [ha.str_of, hb.str_of]
    refine .inl ⟨rfl, ?_⟩
    have : decide (V.str x = V.str y) = decide (x = y) := by by_cases e : x = y <;> simp [e]
    rw [this]
    exact q F H _ [] (.atom hd rfl)
  · obtain ⟨p, p', e1, e2, s1, s2, rfl⟩ := pyEq_of h
    exact .inr ⟨p, p', ha.dp hK e1, hb.dp hK e2, s1, s2, q F H _ [] (.atom hd rfl)⟩
theorem fn_ne (hK : X.K = G.K) : FnD2 G (fun x y H Q => rNe x y H Q ∨ rNeD X.K x y H Q) dNe := by
  intro F H v w a b fv fw d k Q hd ha hb hg q
  simp only [dNe, Option.map_eq_some_iff] at hg
  obtain ⟨c, hc, e⟩ := hg
  cases e
  rcases dEqB_of hc with ⟨x, y, rfl, rfl, rfl⟩ | h
  · rw [ha.str_of, hb.str_of]
    refine .inl ⟨rfl, ?_⟩
    have : decide (V.str x = V.str y) = decide (x = y) := by by_cases e : x = y <;> simp [e]
    rw [this]
    exact q F H _ [] (.atom hd rfl)
  · obtain ⟨p, p', e1, e2, s1, s2, rfl⟩ := pyEq_of h
    exact .inr ⟨p, p', ha.dp hK e1, hb.dp hK e2, s1, s2, q F H _ [] (.atom hd rfl)⟩
theorem o_eq {k : Nat} (hr : RoomG k X.A) (hK : X.K = G.K) : OpR X (compareOp .Eq) (fun x y H Q => rEq x y H Q ∨ rEqD X.K x y H Q) ∧ FnD2 G (fun x y H Q => rEq x y H Q ∨ rEqD X.K x y H Q) dEq := ⟨op_eq.or (op_eqD hr.room.units), fn_eq hK⟩
theorem o_ne {k : Nat} (hr : RoomG k X.A) (hK : X.K = G.K) : OpR X (compareOp .NotEq) (fun x y H Q => rNe x y H Q ∨ rNeD X.K x y H Q) ∧ FnD2 G (fun x y H Q => rNe x y H Q ∨ rNeD X.K x y H Q) dNe := ⟨op_ne.or (op_neD hr.room.units), fn_ne hK⟩
def dIs : D → D → Option (D × Kd)
  | a, .non => some (.bl a.isNon, .fz)
  | _, _ => none
def dIsNot : D → D → Option (D × Kd)
  | a, .non => some (.bl (!a.isNon), .fz)
  | _, _ => none
theorem o_is : OpR X (compareOp .Is) (fun x y H Q => y = .non ∧ Q (.bl (decide (x = .non))) H) ∧ FnD2 G (fun x y H Q => y = .non ∧ Q (.bl (decide (x = .non))) H) dIs := ⟨op_isN, by
  intro F H v w a b fv fw d k Q hd ha hb hg q
  cases b <;> simp [dIs] at hg
  obtain ⟨rfl, rfl⟩ := hg
  exact ⟨hb.non_of, by rw [ha.isNon]; exact q F H _ [] (.atom hd rfl)⟩⟩
theorem o_isnot : OpR X (compareOp .IsNot) (fun x y H Q => y = .non ∧ Q (.bl (!decide (x = .non))) H) ∧ FnD2 G (fun x y H Q => y = .non ∧ Q (.bl (!decide (x = .non))) H) dIsNot := ⟨op_notN, by
  intro F H v w a b fv fw d k Q hd ha hb hg q
  cases b <;> simp [dIsNot] at hg
  obtain ⟨rfl, rfl⟩ := hg
  exact ⟨hb.non_of, by rw [ha.isNon]; exact q F H _ [] (.atom hd rfl)⟩⟩
def dNeg : D → Option (D × Kd)
  | .int i => some (.int (-i), .fz)
  | _ => none
theorem o_neg : UnR X (unaryOp .USub) (rU fun i => .int (-i)) ∧ FnD1 G (rU fun i => .int (-i)) dNeg := ⟨un_neg, by
  intro F H v a fv d k Q hd ha hg q
  cases a <;> simp [dNeg] at hg
  obtain ⟨rfl, rfl⟩ := hg
  rw [ha.int_of]
  exact ⟨_, rfl, q F H _ [] (.atom hd rfl)⟩⟩

/-! ### items -/
def dIdx : D → D → Option (D × Kd)
  | .lst l, .int i => (atI l i).map fun d => (d, .fz)
  | .tup l, .int i => (atI l i).map fun d => (d, .fz)
  | .str x, .int i => if x.length ≤ sizeLine then (atI x.cps.toList i).map fun c => (.str ⟨#[c]⟩, .fz) else none
  | _, _ => none
theorem Rep.atI {vs : List V} {ds : List D} {i : Int} {d : D} (h : Rep G F H vs ds) (e : L2.atI ds i = some d) : ∃ v, L2.atI vs i = some v ∧ Rep G F H [v] [d] := by
  unfold L2.atI at e ⊢
  rw [h.length]
  cases e1 : ixN ds.length i with
  | none => rw [e1] at e; cases e
  | some j =>
    rw [e1] at e
    exact h.get e
theorem o_idx (hK : X.K = G.K) : IxR X (rIx X.K) ∧ FnD2 G (rIx X.K) dIdx := ⟨ix_seq, by
  intro F H v w a b fv fw d k Q hd ha hb hg q
  unfold dIdx at hg
  split at hg
  · simp only [Option.map_eq_some_iff, Prod.mk.injEq] at hg
    obtain ⟨d', e, rfl, rfl⟩ := hg
    obtain ⟨a, ws, rfl, e1, z1, r1⟩ := ha.lstM
    obtain ⟨u, hu, ru⟩ := r1.atI e
    rw [hb.int_of]
    exact .inl ⟨a, ws, _, u, rfl, rfl, .of e1, hu, q F H _ [] (.same hd ru)⟩
  · simp only [Option.map_eq_some_iff, Prod.mk.injEq] at hg
    obtain ⟨d', e, rfl, rfl⟩ := hg
    obtain ⟨a, ws, rfl, e1, z1, r1, _⟩ := ha.tup_of hK
    obtain ⟨u, hu, ru⟩ := r1.atI e
    rw [hb.int_of]
    exact .inr (.inl ⟨a, ws, _, u, rfl, rfl, e1, hu, q F H _ [] (.same hd ru)⟩)
  · split at hg
    · rename_i hz
      simp only [Option.map_eq_some_iff, Prod.mk.injEq] at hg
      obtain ⟨c, e, rfl, rfl⟩ := hg
      rw [ha.str_of, hb.int_of]
      exact .inr (.inr ⟨_, _, c, rfl, rfl, hz, e, q F H _ [] (.atom hd rfl)⟩)
    · cases hg
  · cases hg⟩

/-! ### built-in functions -/
theorem Reads.one {vs : List V} {d : D} (h : Reads G F H vs [d]) : ∃ v fp, vs = [v] ∧ Own G F H v d fp := by
  cases h with
  | cons w r => cases r; exact ⟨_, _, rfl, w⟩
theorem Reads.two {vs : List V} {d e : D} (h : Reads G F H vs [d, e]) : ∃ v w fv fw, vs = [v, w] ∧ Own G F H v d fv ∧ Own G F H w e fw := by
  cases h with
  | cons w r => obtain ⟨u, fu, rfl, w2⟩ := r.one; exact ⟨_, _, _, _, rfl, w, w2⟩
def f1 (g : D → Option (D × Kd)) : List D → Option (D × Kd)
  | [d] => g d
  | _ => none
def f2 (g : D → D → Option (D × Kd)) : List D → Option (D × Kd)
  | [d, e] => g d e
  | _ => none
theorem f1_of {g : D → Option (D × Kd)} {ds : List D} {r : D × Kd} (h : f1 g ds = some r) : ∃ d, ds = [d] ∧ g d = some r := by
  unfold f1 at h; split at h
  · exact ⟨_, rfl, h⟩
  · cases h
theorem f2_of {g : D → D → Option (D × Kd)} {ds : List D} {r : D × Kd} (h : f2 g ds = some r) : ∃ d e, ds = [d, e] ∧ g d e = some r := by
  unfold f2 at h; split at h
  · exact ⟨_, _, rfl, h⟩
  · cases h
def dLen : D → Option (D × Kd)
  | .lst l => some (.int l.length, .fz)
  | .tup l => some (.int l.length, .fz)
  | .scr l => some (.int l.length, .fz)
  | .str x => if x.length ≤ sizeLine then some (.int x.length, .fz) else none
  | _ => none
def rLen (K : PySem.W.Frag) : List V → Hp → VK → Prop := fun xs H Q => ∃ x n, xs = [x] ∧ LenV K x H n ∧ Q (.int n) H
theorem o_len (hK : X.K = G.K) : CallR X (.builtin "len") (rLen X.K) ∧ FnD G (rLen X.K) (f1 dLen) := ⟨call_len, by
  intro F H vs ds d k Q hd hr hg q
  obtain ⟨a, ea, hg'⟩ := f1_of hg
  clear hg
  subst ea
  have hg := hg'
  clear hg'
  obtain ⟨v, fp, rfl, w⟩ := hr.one
  unfold dLen at hg
  split at hg
  · cases hg
    obtain ⟨a, ws, rfl, e1, z1, r1⟩ := w.lstM
    rw [← r1.length] at q
    exact ⟨_, _, rfl, .inl ⟨ws, .of e1, rfl⟩, q F H _ [] (.atom hd rfl)⟩
  · cases hg
    obtain ⟨a, ws, rfl, e1, z1, r1, _⟩ := w.tup_of hK
    rw [← r1.length] at q
    exact ⟨_, _, rfl, .inr ⟨ws, e1, rfl⟩, q F H _ [] (.atom hd rfl)⟩
  · cases hg
    obtain ⟨a, rfl, e1, z1, _⟩ := w.scr_of hK
    exact ⟨_, _, rfl, .inl ⟨_, e1, by simp⟩, q F H _ [] (.atom hd rfl)⟩
  · split at hg
    · rename_i hz
      cases hg
      rw [w.str_of]
      exact ⟨_, _, rfl, ⟨hz, rfl⟩, q F H _ [] (.atom hd rfl)⟩
    · cases hg
  · cases hg⟩
def dMin2 := d2I (gI fun i j => if j < i then j else i)
def dMax2 := d2I (gI fun i j => if j > i then j else i)
theorem o_max (hc : X.calm = true) : CallR X (.builtin "max") (fun xs H Q => ∃ i j, xs = [.int i, .int j] ∧ Q (.int (if j > i then j else i)) H) ∧ FnD G (fun xs H Q => ∃ i j, xs = [.int i, .int j] ∧ Q (.int (if j > i then j else i)) H) (f2 dMax2) := ⟨call_max2 hc, by
  intro F H vs ds d k Q hd hr hg q
  obtain ⟨a, b, ea, hg'⟩ := f2_of hg
  clear hg
  subst ea
  have hg := hg'
  clear hg'
  obtain ⟨v, w, fv, fw, rfl, h1, h2⟩ := hr.two
  obtain ⟨i, j, rfl, rfl, hg⟩ := d2I_eq hg
  cases hg
  rw [h1.int_of, h2.int_of]
  exact ⟨_, _, rfl, q F H _ [] (.atom hd rfl)⟩⟩
theorem o_min (hc : X.calm = true) : CallR X (.builtin "min") (fun xs H Q => ∃ i j, xs = [.int i, .int j] ∧ Q (.int (if j < i then j else i)) H) ∧ FnD G (fun xs H Q => ∃ i j, xs = [.int i, .int j] ∧ Q (.int (if j < i then j else i)) H) (f2 dMin2) := ⟨call_min2 hc, by
  intro F H vs ds d k Q hd hr hg q
  obtain ⟨a, b, ea, hg'⟩ := f2_of hg
  clear hg
  subst ea
  have hg := hg'
  clear hg'
  obtain ⟨v, w, fv, fw, rfl, h1, h2⟩ := hr.two
  obtain ⟨i, j, rfl, rfl, hg⟩ := d2I_eq hg
  cases hg
  rw [h1.int_of, h2.int_of]
  exact ⟨_, _, rfl, q F H _ [] (.atom hd rfl)⟩⟩
def dAbs : D → Option (D × Kd)
  | .int i => some (.int (if i < 0 then -i else i), .fz)
  | _ => none
theorem o_abs : CallR X (.builtin "abs") (fun xs H Q => ∃ i, xs = [.int i] ∧ Q (.int (if i < 0 then -i else i)) H) ∧ FnD G (fun xs H Q => ∃ i, xs = [.int i] ∧ Q (.int (if i < 0 then -i else i)) H) (f1 dAbs) := ⟨call_abs, by
  intro F H vs ds d k Q hd hr hg q
  obtain ⟨a, ea, hg'⟩ := f1_of hg
  clear hg
  subst ea
  have hg := hg'
  clear hg'
  obtain ⟨v, fp, rfl, w⟩ := hr.one
  cases a <;> simp [dAbs] at hg
  obtain ⟨rfl, rfl⟩ := hg
  rw [w.int_of]
  exact ⟨_, rfl, q F H _ [] (.atom hd rfl)⟩⟩
def dInt : D → Option (D × Kd)
  | .int i => some (.int i, .fz)
  | .bl b => some (.int (if b then 1 else 0), .fz)
  | _ => none
def rInt : List V → Hp → VK → Prop := fun xs H Q => (∃ i, xs = [.int i] ∧ Q (.int i) H) ∨ ∃ k, xs = [.bl k] ∧ Q (.int (if k then 1 else 0)) H
theorem o_int : CallR X (.type "int") rInt ∧ FnD G rInt (f1 dInt) := ⟨call_int1, by
  intro F H vs ds d k Q hd hr hg q
  obtain ⟨a, ea, hg'⟩ := f1_of hg
  clear hg
  subst ea
  have hg := hg'
  clear hg'
  obtain ⟨v, fp, rfl, w⟩ := hr.one
  cases a <;> simp [dInt] at hg
  · obtain ⟨rfl, rfl⟩ := hg
    rw [w.bl_of]
    exact .inr ⟨_, rfl, q F H _ [] (.atom hd rfl)⟩
  · obtain ⟨rfl, rfl⟩ := hg
    rw [w.int_of]
    exact .inl ⟨_, rfl, q F H _ [] (.atom hd rfl)⟩⟩
def dTuple : D → Option (D × Kd)
  | .lst l => some (.tup l, .fz)
  | .tup l => some (.tup l, .fz)
  | _ => none
def rTuple (K : PySem.W.Frag) : List V → Hp → VK → Prop := fun xs H Q => ∃ p ys, xs = [.ref p] ∧ ((SqL K H p ys ∧ ∀ l, H l = none → Q (.ref l) (upd H l (.tup ys))) ∨ (SqT K H p ys ∧ Q (.ref p) H))
theorem Own.fzT {v : V} {l : List D} {fp : List Addr} (w : Own G F H v (.tup l) fp) : Rep G F H [v] [.tup l] := by
  cases w with
  | fz r => exact r
  | ow _ ob => exact False.elim ob
theorem o_tuple (hK : X.K = G.K) : CallR X (.type "tuple") (rTuple X.K) ∧ FnD G (rTuple X.K) (f1 dTuple) := ⟨call_tuple_of, by
  intro F H vs ds d k Q hd hr hg q
  obtain ⟨a, ea, hg'⟩ := f1_of hg
  clear hg
  subst ea
  have hg := hg'
  clear hg'
  obtain ⟨v, fp, rfl, w⟩ := hr.one
  cases a <;> simp [dTuple] at hg
  · obtain ⟨rfl, rfl⟩ := hg
    obtain ⟨a, ws, rfl, e1, z1, r1, _⟩ := w.tup_of hK
    exact ⟨a, ws, rfl, .inr ⟨e1, q F H _ [] (.same hd w.fzT)⟩⟩
  · obtain ⟨rfl, rfl⟩ := hg
    obtain ⟨a, ws, rfl, e1, z1, r1⟩ := w.lstM
    exact ⟨a, ws, rfl, .inl ⟨.of e1, fun l hl => q _ _ _ [] (.tup hd hl z1 r1)⟩⟩⟩
def dList : D → Option (D × Kd)
  | .lst l => some (.lst l, .ow)
  | .tup l => some (.lst l, .ow)
  | _ => none
def rList (K : PySem.W.Frag) : List V → Hp → VK → Prop := fun xs H Q => ∃ p ys, xs = [.ref p] ∧ (SqL K H p ys ∨ SqT K H p ys) ∧ ∀ l, H l = none → Q (.ref l) (upd H l (.lst ys))
theorem o_list (hK : X.K = G.K) : CallR X (.type "list") (rList X.K) ∧ FnD G (rList X.K) (f1 dList) := ⟨call_list_of, by
  intro F H vs ds d k Q hd hr hg q
  obtain ⟨a, ea, hg'⟩ := f1_of hg
  clear hg
  subst ea
  have hg := hg'
  clear hg'
  obtain ⟨v, fp, rfl, w⟩ := hr.one
  cases a <;> simp [dList] at hg
  · obtain ⟨rfl, rfl⟩ := hg
    obtain ⟨a, ws, rfl, e1, z1, r1, _⟩ := w.tup_of hK
    exact ⟨a, ws, rfl, .inr e1, fun l hl => q _ _ _ _ (.lst hd hl z1 r1)⟩
  · obtain ⟨rfl, rfl⟩ := hg
    obtain ⟨a, ws, rfl, e1, z1, r1⟩ := w.lstM
    exact ⟨a, ws, rfl, .inl (.of e1), fun l hl => q _ _ _ _ (.lst hd hl z1 r1)⟩⟩
end
end VL
/-! VL14: attributes, isinstance, repr. -/
namespace VL
open PySem PySem.Spec PyProof.Rows L2

theorem Rep.lookup {G : Gm} {F : Addr → Prop} {H : Hp} : ∀ {ws : List (Str × V)} {es : List (Str × D)} {f : Str} {d : D}, ws.map (·.1) = es.map (·.1) → Rep G F H (ws.map (·.2)) (es.map (·.2)) → es.lookup f = some d → ∃ v, ws.lookup f = some v ∧ Rep G F H [v] [d]
  | [], [], f, d, _, _, e => by simp at e
  | [], _ :: _, _, _, e, _, _ => by simp at e
  | _ :: _, [], _, _, e, _, _ => by simp at e
  | (n, v) :: ws, (m, e) :: es, f, d, hn, hr, hl => by
    simp only [List.map_cons, List.cons.injEq] at hn
    obtain ⟨rfl, hn⟩ := hn
    obtain ⟨r1, r2⟩ := Rep.cons_iff.mp (by simpa using hr)
    simp only [List.lookup_cons] at hl ⊢
    by_cases hf : f == n
    · simp only [hf] at hl ⊢
      cases hl
      exact ⟨v, rfl, r1⟩
    · simp only [hf] at hl ⊢
      exact Rep.lookup hn r2 hl
theorem Own.ins_of {G : Gm} {F : Addr → Prop} {H : Hp} {v : V} {c : Nat} {es : List (Str × D)} {fp : List Addr} (h : Own G F H v (.ins c es) fp) :
    ∃ (a C dx : Addr) (ws : List (Str × V)), v = .ref a ∧ H a = some (.ins C dx ws) ∧ G.cm c = some C ∧ ws.map (·.1) = es.map (·.1) ∧ Rep G F H (ws.map (·.2)) (es.map (·.2)) := by
  cases h with
  | fz r =>
    cases r with
    | atom e _ => cases v <;> simp [atomD] at e
    | ins f e c k r1 _ => exact ⟨_, _, _, _, rfl, e, c, k, r1⟩
  | ow f ob =>
    obtain ⟨C, dx, ws, e, c, k, r⟩ := ob
    exact ⟨_, C, dx, ws, rfl, e, c, k, r⟩
/-- e.f of instances of the classes cs -/
def dFld (cs : List Nat) (f : Str) : D → Option (D × Kd)
  | .ins c es => if cs.contains c = true then (es.lookup f).map fun d => (d, .fz) else none
  | _ => none
/-- what the classes cs must be, for their field f -/
def FldOk (G : Gm) (cs : List Nat) (f : Str) : Prop := ∀ c ∈ cs, ∀ C, G.cm c = some C → Cls G.K C ∧ NoAttr G.K C f
/-- the kinds that isinstance tells apart -/
inductive Tag where
  | ty (n : String) | cls (c : Nat) | exn (c : Nat)
  deriving DecidableEq
def D.tag : D → Option Tag
  | .non => some (.ty "NoneType")
  | .bl _ => some (.ty "bool")
  | .int _ => some (.ty "int")
  | .str _ => some (.ty "str")
  | .tup _ => some (.ty "tuple")
  | .lst _ => some (.ty "list")
  | .scr _ => some (.ty "list")
  | .dK _ => some (.ty "dict")
  | .dT _ => some (.ty "dict")
  | .ins c _ => some (.cls c)
  | .exc c _ => some (.exn c)
  | .exs c _ => some (.exn c)
  | .drw _ _ _ _ => some (.ty "dict")
/-- an instance's class, as isinstance asks it -/
structure ClsI (K : PySem.W.Frag) (C : Addr) : Prop where
  cl : Cls K C
  ha : PySem.W.findIn K (.ref C) "__class__" = some (some (.builtin "object.__class__"))
  hn : PySem.W.specialIn K (.builtin "object.__class__") "__get__" = some (some (.builtin "getset_descriptor.__get__"))
  htk : PySem.W.takesIn K (.builtin "object.__class__") = some true
  hm : PySem.W.mroIn K C (.type "object") = some true
/-- an exception's class, as isinstance and e.f ask it -/
structure ExcI (K : PySem.W.Frag) (C : Addr) : Prop where
  cl : (PySem.W.clsIn K C).isSome = true
  ga : PySem.W.findIn K (.ref C) "__getattribute__" = some (some (.builtin "BaseException.__getattribute__"))
  gg : PySem.W.findIn K (.ref C) "__getattr__" = some none
  sb : PySem.W.subIn K (.ref C) (.type "BaseException") = some true
  hd : PySem.W.hasDictIn K C = true
  ha : PySem.W.findIn K (.ref C) "__class__" = some (some (.builtin "object.__class__"))
  hn : PySem.W.specialIn K (.builtin "object.__class__") "__get__" = some (some (.builtin "getset_descriptor.__get__"))
  htk : PySem.W.takesIn K (.builtin "object.__class__") = some true
  hm : PySem.W.mroIn K C (.type "object") = some true
def TagV (G : Gm) : Tag → Value → Prop
  | .ty n, t => t = .type n
  | .cls c, t => ∃ C, G.cm c = some C ∧ t = .ref C ∧ ClsI G.K C
  | .exn c, t => ∃ C, G.cm c = some C ∧ t = .ref C ∧ ExcI G.K C
/-- what the classes must be -/
def TagOk (G : Gm) : Tag → Prop
  | .ty _ => True
  | .cls c => ∀ C, G.cm c = some C → ClsI G.K C
  | .exn c => ∀ C, G.cm c = some C → ExcI G.K C
/-- a value's type, exceptions too -/
inductive TyZ (K : PySem.W.Frag) (H : Hp) : V → Value → Prop where
  | base {x : V} {t : Value} (h : TyX K H x t) : TyZ K H x t
  | exv {a C dx : Addr} {ws : List (Str × V)} (e : H a = some (exv a C dx)) (e2 : H dx = some (.xd ws)) (q : ExcI K C) : TyZ K H (.ref a) (.ref C)
  | exw {a C ta : Addr} (e : H a = some (exw a C ta)) (q : ExcI K C) : TyZ K H (.ref a) (.ref C)
theorem exv_at {P : Program} {w : World} {H : Hp} {h : Heap} {a C dx : Addr} (hok : HOk P w H h) (he : H a = some (exv a C dx)) : ∃ (oe : Obj) (vs : Array Value), h.get? a = some oe ∧ Zc (.ref C) (some dx) oe ∧ oe.data = .fields vs := by
  have x : ObjOk P w H h a (.ext fun h => ∃ (oe : Obj) (vs : Array Value), h.get? a = some oe ∧ Zc (.ref C) (some dx) oe ∧ oe.data = .fields vs) := hok a _ he
  exact x.1
theorem exw_at {P : Program} {w : World} {H : Hp} {h : Heap} {a C ta : Addr} (hok : HOk P w H h) (he : H a = some (exw a C ta)) : ∃ (oe : Obj) (vs : Array Value), h.get? a = some oe ∧ Zc (.ref C) none oe ∧ oe.data = .fields vs ∧ vs[0]? = some (.ref ta) := by
  have x : ObjOk P w H h a (.ext fun h => ∃ (oe : Obj) (vs : Array Value), h.get? a = some oe ∧ Zc (.ref C) none oe ∧ oe.data = .fields vs ∧ vs[0]? = some (.ref ta)) := hok a _ he
  exact x.1
section
variable {X : Cx} {pins : List (Addr × Obj)} {σ : St} {H : Hp} {s : Shared}
theorem exv_inst (I : Inv X pins σ H s) {a C dx : Addr} {ws : List (Str × V)} (e : H a = some (exv a C dx)) (e2 : H dx = some (.xd ws)) : ∃ (oe od : Obj) (mA : Str → Option Value), PySem.W.InstAt s.heap a oe C (some od) ∧ s.heap.Ns1 dx mA ∧ (∀ f, RelO (ws.lookup f) (mA f)) ∧ (∀ n, PySem.W.lookIn n od = some (mA n)) := by
  obtain ⟨oe, vs, h1, hz, hd⟩ := exv_at I.hok e
  have hx : ObjOk X.prog X.w H s.heap dx (.xd ws) := I.hok dx _ e2
  obtain ⟨mA, hns, hr⟩ := hx
  obtain ⟨od, ho, hl⟩ := lookIn_ns hns
  exact ⟨oe, od, mA, ⟨h1, hz.1, by unfold PySem.W.notCls; rw [hd] <;> rfl, by rw [hz.2]; exact ho⟩, hns, hr, hl⟩
theorem kit_ofZ {x : V} {u t : Value} (I : Inv X pins σ H s) (rx : RelV x u) (ty : TyZ X.K H x t) : ∃ P : Heap → Prop, PySem.W.KitX X.K u t P ∧ P s.heap ∧ u ≠ .builtin "__main__.__loader__#opaque" := by
  cases ty with
  | base h => exact kit_of I rx h
  | exv e e2 q =>
    obtain ⟨oe, od, mA, J, _⟩ := exv_inst I e e2
    cases (show u = Value.ref _ from rx)
    exact ⟨_, PySem.W.kitx_exc q.cl q.ga q.gg q.sb q.ha q.hn q.htk q.hm, J, fun z => nomatch z⟩
  | exw e q =>
    obtain ⟨oe, vs, h1, hz, hd, _⟩ := exw_at I.hok e
    cases (show u = Value.ref _ from rx)
    exact ⟨_, PySem.W.kitx_exc (ox := oe) (od := none) q.cl q.ga q.gg q.sb q.ha q.hn q.htk q.hm, ⟨h1, hz.1, by unfold PySem.W.notCls; rw [hd] <;> rfl, by rw [hz.2]; trivial⟩, fun z => nomatch z⟩
end
def rIsiZ (K : PySem.W.Frag) : List V → Hp → VK → Prop := fun xs H Q => ∃ (x c : V) (t u : Value) (b : Bool), xs = [x, c] ∧ ClsV c u ∧ TyZ K H x t ∧ PySem.W.kitOne K t u = some b ∧ Q (.bl b) H
def rIsiTZ (K : PySem.W.Frag) : List V → Hp → VK → Prop := fun xs H Q => ∃ (x : V) (tp : Addr) (cs : List V) (t : Value) (us : List Value) (b : Bool), xs = [x, .ref tp] ∧ H tp = some (.tup cs) ∧ Paired ClsV cs us ∧ TyZ K H x t ∧ PySem.W.kitAny K t us = some b ∧ Q (.bl b) H
section
variable {X : Cx}
theorem call_isiZ : CallR X (.builtin "isinstance") (rIsiZ X.K) := by
  intro pins s σ H xs us Q I r h
  obtain ⟨x, c, t, u, b, rfl, k, ty, e, q⟩ := h
  obtain ⟨u1, u2, rfl, r1, r2⟩ := vals2 r
  have e2 := k.eq r2
  subst e2
  obtain ⟨P, Z, p, hx⟩ := kit_ofZ I r1 ty
  exact PySem.W.kia_one Z I.kIn p e hx fun tk => ⟨.bl b, H, I.tok tk, rfl, q⟩
theorem call_isiTZ : CallR X (.builtin "isinstance") (rIsiTZ X.K) := by
  intro pins s σ H xs us Q I r h
  obtain ⟨x, tp, cs, t, ws, b, rfl, hT, k, ty, e, q⟩ := h
  obtain ⟨u1, u2, rfl, r1, r2⟩ := vals2 r
  cases (show u2 = Value.ref tp from r2)
  obtain ⟨P, Z, p, hx⟩ := kit_ofZ I r1 ty
  obtain ⟨_, its, rv, o, h1, h2, n, h3⟩ := (show ObjOk X.prog X.w H s.heap tp (.tup cs) from I.hok tp _ hT)
  have e3 := ClsV.all k rv
  subst e3
  obtain ⟨oc, od, dt, sl⟩ := o
  simp only at h2 h3
  subst h2 h3
  exact PySem.W.kia_tup Z I.kIn p h1 e hx fun tk => ⟨.bl b, H, I.tok tk, rfl, q⟩
end
theorem Own.exc_of {G : Gm} {F : Addr → Prop} {H : Hp} {v : V} {c : Nat} {es : List (Str × D)} {fp : List Addr} (h : Own G F H v (.exc c es) fp) :
    ∃ (a C dx : Addr) (ws : List (Str × V)), v = .ref a ∧ H a = some (exv a C dx) ∧ H dx = some (.xd ws) ∧ G.cm c = some C ∧ ws.map (·.1) = es.map (·.1) ∧ Rep G F H (ws.map (·.2)) (es.map (·.2)) := by
  cases h with
  | fz r =>
    cases r with
    | atom e _ => cases v <;> simp [atomD] at e
    | exc f e f2 e2 c k r1 _ => exact ⟨_, _, _, _, rfl, e, e2, c, k, r1⟩
  | ow f ob => exact ob.elim
theorem Own.exs_of {G : Gm} {F : Addr → Prop} {H : Hp} {v : V} {c : Nat} {x : Str} {fp : List Addr} (h : Own G F H v (.exs c x) fp) :
    ∃ (a C ta : Addr), v = .ref a ∧ H a = some (exw a C ta) ∧ H ta = some (.tup [.str x]) ∧ G.cm c = some C := by
  cases h with
  | fz r =>
    cases r with
    | atom e _ => cases v <;> simp [atomD] at e
    | exs f e f2 e2 c _ => exact ⟨_, _, _, rfl, e, e2, c⟩
  | ow f ob => exact ob.elim
theorem Own.ty {G : Gm} {F : Addr → Prop} {H : Hp} {v : V} {d : D} {fp : List Addr} (h : Own G F H v d fp) {tg : Tag} (e : d.tag = some tg) (hc : TagOk G tg) : ∃ t, TagV G tg t ∧ TyZ G.K H v t := by
  cases d <;> simp only [D.tag, Option.some.injEq] at e <;> subst e
  case non => rw [h.non_of]; exact ⟨_, rfl, .base (.base .non)⟩
  case bl b => rw [h.bl_of]; exact ⟨_, rfl, (.base (.base (.bl b)))⟩
  case int i => rw [h.int_of]; exact ⟨_, rfl, (.base (.base (.int i)))⟩
  case str x => rw [h.str_of]; exact ⟨_, rfl, (.base (.base (.str x)))⟩
  case tup l =>
    cases h.fzT with
    | atom e _ => cases v <;> simp [atomD] at e
    | tup f e z r1 _ => exact ⟨_, rfl, (.base (.base (.tup e)))⟩
  case lst l =>
    obtain ⟨a, ws, rfl, e1, _⟩ := h.lstM
    exact ⟨_, rfl, (.base (.base (.lst e1)))⟩
  case scr l =>
    cases h with
    | fz r =>
      cases r with
      | atom e _ => cases v <;> simp [atomD] at e
      | scr f e z _ => exact ⟨_, rfl, (.base (.base (.frz e)))⟩
      | scrK f z _ =>
        obtain ⟨o, its, n, h1, h2, _⟩ := f
        exact ⟨_, rfl, .base (.kList h1 h2)⟩
    | ow _ ob => exact False.elim ob
  case dK l =>
    cases h with
    | fz r =>
      cases r with
      | atom e _ => cases v <;> simp [atomD] at e
      | dK f e z k r1 _ => exact ⟨_, rfl, (.base (.base (.dK e)))⟩
    | ow _ ob => obtain ⟨ws, e, _⟩ := ob; exact ⟨_, rfl, (.base (.base (.dK e)))⟩
  case dT l =>
    cases h with
    | fz r =>
      cases r with
      | atom e _ => cases v <;> simp [atomD] at e
      | dT f e z k r1 _ => exact ⟨_, rfl, (.base (.base (.dT e)))⟩
    | ow _ ob => obtain ⟨ws, e, _⟩ := ob; exact ⟨_, rfl, (.base (.base (.dT e)))⟩
  case ins c es =>
    obtain ⟨a, C, dx, ws, rfl, e1, e2, _⟩ := h.ins_of
    have q := hc C e2
    exact ⟨.ref C, ⟨C, e2, rfl, q⟩, (.base (.base (.ins e1 q.cl q.ha q.hn q.htk q.hm)))⟩
  case exc c es =>
    obtain ⟨a, C, dx, ws, rfl, e1, e3, e2, _⟩ := h.exc_of
    have q := hc C e2
    exact ⟨.ref C, ⟨C, e2, rfl, q⟩, .exv e1 e3 q⟩
  case exs c x =>
    obtain ⟨a, C, ta, rfl, e1, e3, e2⟩ := h.exs_of
    have q := hc C e2
    exact ⟨.ref C, ⟨C, e2, rfl, q⟩, .exw e1 q⟩
  case drw gr r ce t =>
    cases h with
    | fz r => cases r; rename_i h _; cases v <;> simp [atomD] at h
    | ow _ ob => exact False.elim ob
    | drw _ _ _ _ _ q => exact ⟨_, rfl, (.base (.base (.dK q.1)))⟩
def dIsi (tab : List (Tag × Bool)) : D → Option (D × Kd) := fun d => d.tag.bind fun t => (tab.lookup t).map fun b => (.bl b, .fz)
/-- the table tells isinstance for the class u -/
def IsiOk (G : Gm) (tab : List (Tag × Bool)) (us : List Value) : Prop := ∀ p ∈ tab, TagOk G p.1 ∧ ∀ t, TagV G p.1 t → PySem.W.kitAny G.K t us = some p.2
theorem kitAny_one {K : PySem.W.Frag} {t u : Value} {b : Bool} (h : PySem.W.kitAny K t [u] = some b) : PySem.W.kitOne K t u = some b := by
  simp only [PySem.W.kitAny] at h
  cases e : PySem.W.kitOne K t u with
  | none => rw [e] at h; cases h
  | some c => rw [e] at h; cases c <;> simp at h <;> rw [h]
theorem lookup_mem {α β : Type} [BEq α] [LawfulBEq α] {l : List (α × β)} {a : α} {b : β} (h : l.lookup a = some b) : (a, b) ∈ l := by
  induction l with
  | nil => simp at h
  | cons p l ih =>
    obtain ⟨x, y⟩ := p
    simp only [List.lookup_cons] at h
    by_cases e : a == x
    · simp only [e] at h; cases h; rw [eq_of_beq e]; exact List.mem_cons_self
    · simp only [e] at h; exact List.mem_cons_of_mem _ (ih h)
section
variable {X : Cx} {G : Gm} {W : WX}
theorem r_fld {e : Expr} {f : Str} {pos : Pos} {s : Bool} {g : EE} {cs : List Nat} (hK : X.K = G.K) (hf : FldOk G cs f) (h : PE X e (tS G W s g)) (hb : attributeBase e f X.env (eval e X.env) = eval e X.env) : PE X (.Attribute e f pos) (tS G W s (xAp1 (dFld cs f) g)) :=
  PE.of (pe_fld h hb) fun σ H Q q => tS_ap1 (r := fun x H1 Q => ∃ a C dx fs v, x = .ref a ∧ H1 a = some (.ins C dx fs) ∧ Cls X.K C ∧ NoAttr X.K C f ∧ fs.lookup f = some v ∧ Q v H1) (fun F H v d fv d' k Q hd ha hg q => by
    cases d <;> simp only [dFld] at hg <;> first | cases hg | skip
    case ins c es =>
      split at hg
      · rename_i hc
        simp only [Option.map_eq_some_iff, Prod.mk.injEq] at hg
        obtain ⟨d', e1, rfl, rfl⟩ := hg
        obtain ⟨a, C, dx, ws, rfl, h1, h2, h3, h4⟩ := ha.ins_of
        obtain ⟨v, l, r⟩ := h4.lookup h3 e1
        obtain ⟨q1, q2⟩ := hf c (by simpa using hc) C h2
        rw [hK]
        exact ⟨a, C, dx, ws, v, rfl, h1, q1, q2, l, q F H _ [] (.same hd r)⟩
      · cases hg) q
/-- isinstance(x, c) -/
theorem r_isi {p pos : Pos} {a c : Expr} {s : Bool} {g : EE} {cv : V} {cu : Value} {tab : List (Tag × Bool)} (hK : X.K = G.K) (hg : Gl X "isinstance") (hm : X.mg "isinstance" = none) (h : PE X a (tS G W s g)) (hc : PE X c (tC cv)) (hcv : ClsV cv cu) (ht : IsiOk G tab [cu])
    (he : starEach [a, c] X.env = (false, eval a X.env) :: starEach [c] X.env := by rfl) (he2 : starEach [c] X.env = (false, eval c X.env) :: starEach [] X.env := by rfl) (hpl : (backTo pos (starEach [c] X.env)).any (·.1) = false := by rfl) :
    PE X (.Call (.Name "isinstance" p) [a, c] [] pos) (tS G W s (xAp1 (dIsi tab) g)) :=
  PE.of (pe_callB call_isiZ hg hm (by decide +kernel) (pa_cons h (pa_cons hc pa_nil he2) he) (by decide) (by decide) he hpl) fun σ H Q q => tS_ap1 (r := fun x H Q => rIsiZ X.K [x, cv] H Q) (fun F H v d fv d' k Q hd ha hg q => by
    simp only [dIsi, Option.bind_eq_some_iff, Option.map_eq_some_iff, Prod.mk.injEq] at hg
    obtain ⟨tg, e1, b, e2, rfl, rfl⟩ := hg
    obtain ⟨k1, k2⟩ := ht _ (lookup_mem e2)
    obtain ⟨t, t1, t2⟩ := ha.ty e1 k1
    rw [← hK] at t2
    exact ⟨v, cv, t, cu, b, rfl, hcv, t2, by rw [hK]; exact kitAny_one (k2 t t1), q F H _ [] (.atom hd rfl)⟩) q
/-- isinstance(x, (c1, c2)) -/
theorem r_isiT {p pos pos2 : Pos} {a : Expr} {cs : List Expr} {x1 : Nat} {s : Bool} {g : EE} {cvs : List V} {cus : List Value} {tab : List (Tag × Bool)} {t2 : TA} (hK : X.K = G.K) (hg : Gl X "isinstance") (hm : X.mg "isinstance" = none) (h : PE X a (tS G W s g)) (hc : PA X cs t2) (ht2 : ∀ σ H Q, Q cvs H → t2 σ H Q) (hz : cvs.length ≤ sizeLine) (hcv : Paired ClsV cvs cus) (ht : IsiOk G tab cus)
    (he : starEach [a, .Tuple cs x1 pos2] X.env = (false, eval a X.env) :: starEach [.Tuple cs x1 pos2] X.env := by rfl) (he2 : starEach [.Tuple cs x1 pos2] X.env = (false, eval (.Tuple cs x1 pos2) X.env) :: starEach [] X.env := by rfl) (hpl : (backTo pos (starEach [.Tuple cs x1 pos2] X.env)).any (·.1) = false := by rfl) :
    PE X (.Call (.Name "isinstance" p) [a, .Tuple cs x1 pos2] [] pos) (tS G W s (xAp1 (dIsi tab) g)) :=
  PE.of (pe_callB call_isiTZ hg hm (by decide +kernel) (pa_cons h (pa_cons (pe_tup hc) pa_nil he2) he) (by decide) (by decide) he hpl) fun σ H Q q => by
    have := tS_ap1 (r := fun x H Q => ∀ p, H p = none → rIsiTZ X.K [x, .ref p] (upd H p (.tup cvs)) Q) (G := G) (W := W) (s := s) (f := g) (g := dIsi tab) (fun F H v d fv d' k Q hd ha hg q p hp => by
      simp only [dIsi, Option.bind_eq_some_iff, Option.map_eq_some_iff, Prod.mk.injEq] at hg
      obtain ⟨tg, e1, b, e2, rfl, rfl⟩ := hg
      obtain ⟨k1, k2⟩ := ht _ (lookup_mem e2)
      have kp : ∀ a o, H a = some o → upd H p (.tup cvs) a = some o := fun a o e => by rw [upd_ne (ne_of_none e hp)]; exact e
      have ha' : Own G F (upd H p (.tup cvs)) v d fv := ha.keep (fun _ h => h) (fun a o _ e _ => kp a o e) fun a q => ⟨(ha.there a q).1, fun o e _ => kp a o e⟩
      obtain ⟨t, t1, t2⟩ := ha'.ty e1 k1
      rw [← hK] at t2
      refine ⟨v, p, cvs, t, cus, b, rfl, upd_same, hcv, t2, by rw [hK]; exact k2 t t1, q F _ _ [] ⟨fun a f => ?_, fun _ h => h, fun _ h => .inl h, kp, .fz (.atom rfl .nil), rfl⟩⟩
      obtain ⟨o, e, tt⟩ := hd a f
      exact ⟨o, kp a o e, tt⟩) q
    unfold tUn at this
    obtain ⟨x, r1, r2, hx, q⟩ := this
    refine ⟨x, r1, r2, hx, ?_⟩
    revert q
    cases g x.rho with
    | bad => exact id
    | err c d ρ' => exact id
    | ok r =>
      intro q y v fv hρ P
      exact ht2 _ _ _ ⟨hz, fun p hp => q y v fv hρ P p hp⟩

/-! ### repr of data -/
theorem Dp.noDict {K : PySem.W.Frag} {H : Hp} : ∀ (d : PyData) (v : V), Dp K H v d → d.hasDict = false
  | .none, _, _ => rfl
  | .bool _, _, _ => rfl
  | .int _, _, _ => rfl
  | .str _, _, _ => rfl
  | .list ds, _, h => by
    cases h with
    | lst hs ha => simp only [PyData.hasDict]; exact all ds _ ha
  | .tuple ds, _, h => by
    cases h with
    | tup hs ha => simp only [PyData.hasDict]; exact all ds _ ha
  | .dict _, _, h => by cases h
where all : ∀ (ds : List PyData) (vs : List V), DpAll K H vs ds → PyData.hasDictAll ds = false
  | [], _, _ => rfl
  | d :: ds, _, h => by
    cases h with
    | cons h1 h2 => simp only [PyData.hasDictAll, Dp.noDict d _ h1, all ds _ h2, Bool.or_self]
def rRepr (K : PySem.W.Frag) : List V → Hp → VK → Prop := fun xs H Q => ∃ x d, xs = [x] ∧ Dp K H x d ∧ d.showable = true ∧ d.depth ≤ 60 ∧ d.shown.length ≤ sizeLine ∧ Q (.str d.shown) H
theorem call_reprD (hg : X.A.guards = some []) (hu : X.A.units + 64 < cLine) : CallR X (.builtin "repr") (rRepr X.K) := by
  intro pins s σ H xs us Q I r h
  obtain ⟨x, d, rfl, hd, hs, hdp, hz, q⟩ := h
  obtain ⟨u, rfl, ru⟩ := vals1 r
  obtain ⟨as, rd⟩ := Dp.reads I d x u hd ru
  have fin : ∀ (h' : Heap) (t : Tok) (tk : Nat), (∀ b o, s.heap.get? b = some o → h'.get? b = some o) → EP X pins σ Q (.str d.shown t) { s with heap := h', toks := tk } := fun h' t tk k => ⟨.str d.shown, H, I.kept (t' := tk) k, ⟨t, rfl⟩, q⟩
  cases hd with
  | non => cases ru; exact PySem.P.repr_of_none (fin _ _ _ fun _ _ h => h)
  | bl b => cases ru; exact PySem.P.repr_of_bool (fin _ _ _ fun _ _ h => h)
  | int i => obtain ⟨t, rfl⟩ := ru; exact PySem.P.repr_of_int (by simpa [PyData.showable] using hs) (fin _ _ _ fun _ _ h => h)
  | str x => obtain ⟨t, rfl⟩ := ru; exact PySem.P.repr_of_str (fin _ _ _ fun _ _ h => h) hz
  | @lst a ys ps hs' ha =>
    cases ru
    exact repr_of_reads' rd hs (fun z => by rw [Dp.noDict _ _ (Dp.lst hs' ha)] at z; cases z) hg (by omega) (fun _ _ h => h) (fun h' t tk k => fin h' t tk k) hz
  | @tup a ys ps hs' ha =>
    cases ru
    exact repr_of_reads' rd hs (fun z => by rw [Dp.noDict _ _ (Dp.tup hs' ha)] at z; cases z) hg (by omega) (fun _ _ h => h) (fun h' t tk k => fin h' t tk k) hz
def dRepr (d : D) : Option (D × Kd) := match toPy d with
  | some p => if p.showable = true ∧ p.depth ≤ 60 ∧ p.shown.length ≤ sizeLine then some (.str p.shown, .fz) else none
  | none => none
theorem o_repr {k : Nat} (hr : RoomG k X.A) (hK : X.K = G.K) : CallR X (.builtin "repr") (rRepr X.K) ∧ FnD G (rRepr X.K) (f1 dRepr) := ⟨call_reprD hr.g hr.room.units, by
  intro F H vs ds d k Q hd hr hg q
  obtain ⟨a, ea, hg'⟩ := f1_of hg
  clear hg
  subst ea
  have hg := hg'
  clear hg'
  obtain ⟨v, fp, rfl, w⟩ := hr.one
  unfold dRepr at hg
  split at hg
  · rename_i p hp
    split at hg
    · rename_i hc
      cases hg
      exact ⟨v, p, rfl, w.dp hK hp, hc.1, hc.2.1, hc.2.2, q F H _ [] (.atom hd rfl)⟩
    · cases hg
  · cases hg⟩
end
end VL
/-! VL15: calls with keywords; new instances. -/
namespace VL
open PySem PySem.Spec PyProof.Rows L2

def pick {α : Type} : List Nat → List α → List α
  | [], _ => []
  | i :: is, xs => match xs[i]? with
    | some a => a :: pick is xs
    | none => pick is xs
theorem Vals.pick {vs : List V} {us : List Value} (r : Vals vs us) : ∀ is : List Nat, Vals (VL.pick is vs) (VL.pick is us)
  | [] => .nil
  | i :: is => by
    unfold VL.pick
    cases e : vs[i]? with
    | none =>
      have := r.none_of e
      rw [this]
      exact Vals.pick r is
    | some v =>
      obtain ⟨u, hu, ru⟩ := r.get e
      rw [hu]
      exact .cons ru (Vals.pick r is)
theorem AOk.get {G : Gm} {x y : Stt} {vs : List V} {l : List (D × Kd)} (h : AOk G x y vs l) : ∀ i : Nat, (vs[i]? = none ∧ l[i]? = none) ∨ ∃ v d k fv, vs[i]? = some v ∧ l[i]? = some (d, k) ∧ Own G y.F y.H v d fv ∧ KdOk x y k fv ∧ Src y v d k := by
  induction h with
  | nil => intro i; exact .inl ⟨by simp, by simp⟩
  | cons w kd sr _ ih =>
    intro i
    cases i with
    | zero => exact .inr ⟨_, _, _, _, rfl, rfl, w, kd, sr⟩
    | succ i => simpa using ih i
theorem AOk.pick {G : Gm} {x y : Stt} {vs : List V} {l : List (D × Kd)} (h : AOk G x y vs l) : ∀ is : List Nat, AOk G x y (VL.pick is vs) (VL.pick is l)
  | [] => .nil
  | i :: is => by
    unfold VL.pick
    rcases h.get i with ⟨e1, e2⟩ | ⟨v, d, k, fv, e1, e2, w, kd, sr⟩
    · rw [e1, e2]; exact AOk.pick h is
    · rw [e1, e2]; exact .cons w kd sr (AOk.pick h is)
theorem AOk.append {G : Gm} {x y : Stt} {vs ws : List V} {l m : List (D × Kd)} (h : AOk G x y vs l) (h2 : AOk G x y ws m) : AOk G x y (vs ++ ws) (l ++ m) := by
  induction h with
  | nil => exact h2
  | cons w kd sr _ ih => exact .cons w kd sr ih
theorem AOk.length {G : Gm} {x y : Stt} {vs : List V} {l : List (D × Kd)} (h : AOk G x y vs l) : vs.length = l.length := by
  induction h with
  | nil => rfl
  | cons _ _ _ _ ih => simp [ih]
/-- how a call with n values and the keywords ks binds: the parameters in their order are picked at the places perm -/
def KB (K : PySem.W.Frag) (fd : FuncData) (ps ks : List Str) (n : Nat) (perm : List Nat) : Prop :=
  ∀ (s : Shared) (us ws : List Value), K.In s.heap → us.length = n → ws.length = ks.length → BindsTo s fd ⟨us, ks.zip ws⟩ (ps.zip (pick perm (us ++ ws)))
theorem kb_of {K : PySem.W.Frag} {x qual : Str} {st : Stmt} {f : Addr} {fd : FuncData} {ps ks : List Str} {n : Nat} {perm : List Nat} (F : Fun K x qual st f fd)
    (h : ∀ (kV doc pm : Value) (an : Option Addr) (cdv ct : Value) (us ws : List Value), us.length = n → ws.length = ks.length → bindArgs (PySem.W.fnOf x qual (defArgs st) (defBody st) (defScope st) .none kV doc pm an cdv ct) ⟨us, ks.zip ws⟩ = pure (ps.zip (pick perm (us ++ ws)))) : KB K fd ps ks n perm := by
  obtain ⟨oc, od, kV, doc, pm, an, cdv, ct, osl, rfl, lk, hcd⟩ := F.ex
  exact fun s us ws _ h1 h2 => .of_eq (h kV doc pm an cdv ct us ws h1 h2)
def tCallKS (sp : Sp) (perm : List Nat) (n m : Nat) (E : St → XK) (t tk : TA) : TE := fun σ H Q => t σ H fun vs H1 => tk σ H1 fun zs H2 => vs.length = n ∧ zs.length = m ∧ sp (pick perm (vs ++ zs)) H2 Q (E σ)
section
variable {X : Cx} {k n : Nat} {f C : Addr} {fd : FuncData} {ps ks : List Str} {sp : Sp} {E : St → XK} {perm : List Nat}
theorem runKG {pins : List (Addr × Obj)} {σ : St} {J : Hp} {t : Shared} {R : VK} {us ws : List Value} {vs zs : List V} (F : FnG X.prog X.w X.K X.mg X.base k f fd ps sp) (rg : RoomG k X.A) (hb : KB X.K fd ps ks n perm) (hx : PassesAt (L2.CX X.prog X.w) X σ (E σ))
    (I : Inv X pins σ J t) (rv : Vals vs us) (rz : Vals zs ws) (l1 : vs.length = n) (l2 : zs.length = ks.length) (q : sp (pick perm (vs ++ zs)) J R (E σ)) : wpAny (model X.prog X.w) X.A (PySem.call (.ref f) us (ks.zip ws)) (EP X pins σ R) X.xe t := by
  have bd := hb t us ws I.kIn (by rw [← rv.length]; exact l1) (by rw [← rz.length]; exact l2)
  refine wpAny_call (codeAny_mono (F.go X.A X.stack t J ⟨us, ks.zip ws⟩ (pick perm (us ++ ws)) (pick perm (vs ++ zs)) R (E σ) rg I.env0 bd (VL.Vals.pick (rv.append rz) perm) q) ?_)
  intro r t' hq
  match r, hq with
  | .error e, hq => exact hx pins J t e t' I hq
  | .ok (.ret u), hq => exact I.after hq
  | .ok .next, hq => exact False.elim hq
  | .ok .brk, hq => exact False.elim hq
  | .ok .cont, hq => exact False.elim hq
theorem callKG0 {x : Str} {p pos : Pos} {kws : List Keyword} {tk : TA} (F : FnG X.prog X.w X.K X.mg X.base k f fd ps sp) (rg : RoomG k X.A) (hg : Gl X x) (hm : X.mg x = some (.ref f)) (hk : PySem.W.keepIn X.K (.ref f) = true) (hb : KB X.K fd ps ks 0 perm) (hx : ∀ σ, PassesAt (L2.CX X.prog X.w) X σ (E σ))
    (hkw : PK X kws tk) (hall : (backToKw pos (keywordEach kws X.env)).all (·.1.isSome) = true := by rfl) (hks : (backToKw pos (keywordEach kws X.env)).filterMap (·.1) = ks := by rfl) (hdb : (x == ("__debug__" : Str)) = false := by decide)
    (hpl : ((backTo pos (starEach [] X.env)).any (·.1) || (backToKw pos (keywordEach kws X.env)).any (·.1.isNone)) = false := by rfl) :
    PE X (.Call (.Name x p) [] kws pos) (tCallKS sp perm 0 ks.length E tNil tk) := by
  constructor
  intro pins t0 σ J R I h
  refine wpAny_Call_Name_kw (ld_glob I hg hm ?_ hdb)
  refine PySem.W.callWith_KW0 (h₀ := X.base) I.ok.mod.kin hk hall (thn (hkw.run pos pins t0 σ J _ I h) ?_) hpl
  rintro ws t1 ⟨zs, J1, I1, rz, l1, l2, q⟩
  refine ⟨I1.kIn, ?_⟩
  rw [hks]
  exact runKG F rg hb (hx σ) I1 .nil rz l1 l2 q
theorem callKG1 {x : Str} {p pos : Pos} {e : Expr} {es : List Expr} {kws : List Keyword} {t tk : TA} (F : FnG X.prog X.w X.K X.mg X.base k f fd ps sp) (rg : RoomG k X.A) (hg : Gl X x) (hm : X.mg x = some (.ref f)) (hk : PySem.W.keepIn X.K (.ref f) = true) (hb : KB X.K fd ps ks n perm) (hx : ∀ σ, PassesAt (L2.CX X.prog X.w) X σ (E σ))
    (ha : PA X (e :: es) t) (hkw : PK X kws tk) (hall : (backToKw pos (keywordEach kws X.env)).all (·.1.isSome) = true := by rfl) (hks : (backToKw pos (keywordEach kws X.env)).filterMap (·.1) = ks := by rfl) (hdb : (x == ("__debug__" : Str)) = false := by decide)
    (he : starEach (e :: es) X.env = (false, eval e X.env) :: starEach es X.env := by rfl)
    (hpl : ((backTo pos (starEach (e :: es) X.env)).any (·.1) || (backToKw pos (keywordEach kws X.env)).any (·.1.isNone)) = false := by rfl) :
    PE X (.Call (.Name x p) (e :: es) kws pos) (tCallKS sp perm n ks.length E t tk) := by
  constructor
  intro pins t0 σ J R I h
  refine wpAny_Call_Name_kw (ld_glob I hg hm ?_ hdb)
  refine PySem.W.callWith_KW (h₀ := X.base) I.ok.mod.kin hk hall (thn (ha.run pos pins t0 σ J _ I h) ?_) hpl he
  rintro us t1 ⟨vs, J1, I1, rv, q⟩
  refine thn (hkw.run pos pins t1 σ J1 _ I1 q) ?_
  rintro ws t2 ⟨zs, J2, I2, rz, l1, l2, q2⟩
  refine ⟨I2.kIn, ?_⟩
  rw [hks]
  exact runKG F rg hb (hx σ) I2 rv rz l1 l2 q2
end
section
variable {X : Cx} {G : Gm} {W : WX}
theorem PK.of {e : List Keyword} {t u : TA} (h : PK X e t) (i : ∀ σ H Q, u σ H Q → t σ H Q) : PK X e u := ⟨fun pos pins s σ H Q I w => h.run pos pins s σ H Q I (i σ H Q w)⟩
theorem r_knil : PK X [] (tA G W true aN) := PK.of pk_nil fun σ H Q ⟨x, e1, e2, hi, q⟩ => by
  subst e1 e2
  exact q x [] rfl hi .refl .nil
theorem tA_cons {s t : Bool} {f : EE} {g : AE} {σ H Q} (h : tA G W (s && t) (aC t f g) σ H Q) : tCons (tS G W s f) (tA G W t g) σ H Q := by
  obtain ⟨x, rfl, rfl, hi, q⟩ := h
  refine ⟨x, rfl, rfl, hi, ?_⟩
  unfold aC at q
  cases h1 : f x.rho with
  | bad => simp only [h1, Res.bind_bad] at q
  | err c d ρ' =>
    simp only [h1, Res.bind_err] at q
    intro y cls dx hρ iy ey hev
    refine q y cls dx hρ iy { ey with st := fun z => ey.st (by simp only [Bool.and_eq_true] at z; exact z.1) } hev
  | ok r =>
    obtain ⟨d, k, ρ1⟩ := r
    simp only [h1, Res.bind_ok] at q
    intro y v fv hρ P
    refine ⟨y, P.ext.sg, rfl, P.inv, ?_⟩
    by_cases hb : k = .br ∧ t = false
    · rw [if_pos hb] at q; exact q.elim
    · rw [if_neg hb] at q
      rw [hρ]
      cases h2 : g ρ1 with
      | bad => simp only [h2, Res.bind_bad] at q
      | err c d' ρ' =>
        simp only [h2, Res.bind_err] at q
        exact fun z cls dx hz iz ez hev => q z cls dx hz iz (P.ext.trans hi P.inv ez) hev
      | ok r2 =>
        obtain ⟨l, ρ2⟩ := r2
        simp only [h2, Res.bind_ok] at q
        intro z vs hz iz ez az
        have hk : k = .br → t = true := fun e => by
          cases t with
          | true => rfl
          | false => exact absurd ⟨e, rfl⟩ hb
        obtain ⟨w', kd', sr'⟩ := carry P.inv P.ext.dm P.own P.kd ez P.src hk
        exact q z (v :: vs) hz iz (P.ext.trans hi P.inv ez) (.cons w' kd' sr' (az.older P.ext.dm))
theorem r_kcons {nm : Option Str} {kpos : Pos} {e : Expr} {kws : List Keyword} {s t : Bool} {f : EE} {g : AE} (ha : PE X e (tS G W s f)) (hr : PK X kws (tA G W t g)) : PK X (⟨nm, e, kpos⟩ :: kws) (tA G W (s && t) (aC t f g)) :=
  PK.of (pk_cons ha hr) fun σ H Q h => tA_cons h
def xCallK (m : FA) (perm : List Nat) (s2 : Bool) (f fk : AE) : EE := fun ρ => do
  let (l1, ρ1) ← f ρ
  if (l1.any fun dk => decide (dk.2 = .br)) = true ∧ s2 = false then .bad else do
    let (l2, ρ2) ← fk ρ1
    let l := pick perm (l1 ++ l2)
    if argsOk l = true then
      match m (l.map argS) with
      | .ok (d, k) => if k = .br then .bad else .ok (d, k, ρ2)
      | .err c d _ => .err c d ρ2
      | .bad => .bad
    else .bad
theorem tS_callK {np n j : Nat} {m : FA} {perm : List Nat} {s s2 : Bool} {f fk : AE} {σ H Q} (h : tS G W (s && s2) (xCallK m perm s2 f fk) σ H Q) (hn : ALen n f) (hj : ALen j fk) (hp : ∀ l : List (D × Kd), l.length = n + j → (pick perm l).length = np) :
    tCallKS (spA G np m) perm n j (fun σ => WE W σ) (tA G W s f) (tA G W s2 fk) σ H Q := by
  obtain ⟨x, rfl, rfl, hx, q⟩ := h
  refine ⟨x, rfl, rfl, hx, ?_⟩
  unfold xCallK at q
  cases e : f x.rho with
  | bad => simp only [e, Res.bind_bad] at q
  | err c d ρ' =>
    simp only [e, Res.bind_err] at q
    exact fun y cls dx hρ iy ey hev => q y cls dx hρ iy (ey.weak fun z => by simp only [Bool.and_eq_true] at z; exact z.1) hev
  | ok r =>
    obtain ⟨l1, ρ1⟩ := r
    simp only [e, Res.bind_ok] at q
    intro y vs hρ iy ey ay
    by_cases hb : (l1.any fun dk => decide (dk.2 = .br)) = true ∧ s2 = false
    · rw [if_pos hb] at q; exact q.elim
    rw [if_neg hb] at q
    refine ⟨y, ey.sg, rfl, iy, ?_⟩
    rw [hρ]
    cases e2 : fk ρ1 with
    | bad => simp only [e2, Res.bind_bad] at q
    | err c d ρ' =>
      simp only [e2, Res.bind_err] at q
      exact fun z cls dx hz iz ez hev => q z cls dx hz iz (ey.trans hx iy ez) hev
    | ok r2 =>
      obtain ⟨l2, ρ2⟩ := r2
      simp only [e2, Res.bind_ok] at q
      intro z zs hz iz ez az
      have ay' : AOk G x z vs l1 := ay.carry iy ey.dm ez fun dk hdk hbr => by
        cases s2 with
        | true => rfl
        | false => exact absurd ⟨List.any_eq_true.mpr ⟨dk, hdk, by simp [hbr]⟩, rfl⟩ hb
      have all := (ay'.append (az.older ey.dm)).pick perm
      have exz := ey.trans hx iy ez
      refine ⟨by rw [ay.length]; exact hn _ _ _ e, by rw [az.length]; exact hj _ _ _ e2, ?_⟩
      by_cases hl : argsOk (pick perm (l1 ++ l2)) = true
      · rw [if_pos hl] at q
        obtain ⟨c, hc, hcρ, hcp, f1, f2⟩ := enterA (s := s && s2) iz all hl
        rw [hp _ (by rw [List.length_append, hn _ _ _ e, hj _ _ _ e2])] at hc
        refine ⟨c, hc, hcp, ?_⟩
        rw [hcρ]
        cases e3 : m ((pick perm (l1 ++ l2)).map argS) with
        | bad => simp only [e3] at q
        | err c' d ρ' =>
          simp only [e3] at q
          intro u cls dx hu iu eu hev
          obtain ⟨i1, e1⟩ := leaveA hx iz exz hc.H f1 f2 iu eu
          have := q { z with F := u.F, H := u.H } cls dx hz i1 e1 hev
          exact this
        | ok r3 =>
          obtain ⟨d, k⟩ := r3
          simp only [e3] at q
          intro u v fv hu P hk
          rw [if_neg hk] at q
          exact q { z with F := u.F, H := u.H } v fv hz (leaveA_post hx iz exz hc.H f1 f2 P hk)
      · rw [if_neg hl] at q; exact q.elim
theorem pick_len {perm : List Nat} {n : Nat} (h : perm.all (fun i => decide (i < n)) = true) : ∀ {α : Type} (l : List α), l.length = n → (pick perm l).length = perm.length := by
  intro α l hl
  induction perm with
  | nil => rfl
  | cons i is ih =>
    simp only [List.all_cons, Bool.and_eq_true, decide_eq_true_eq] at h
    unfold pick
    have : l[i]? = some (l[i]'(by omega)) := List.getElem?_eq_getElem (by omega)
    rw [this]
    simp [ih h.2]
theorem r_callK0 {x : Str} {p pos : Pos} {kws : List Keyword} {k j : Nat} {fa : Addr} {fd : FuncData} {ps ks : List Str} {perm : List Nat} {m : FA} {s2 : Bool} {fk : AE} (tk : Takes X W) (F : FnG X.prog X.w X.K X.mg X.base k fa fd ps (spA G ps.length m)) (hr : RoomG k X.A) (hg : Gl X x) (hm : X.mg x = some (.ref fa)) (hk : PySem.W.keepIn X.K (.ref fa) = true) (hb : KB X.K fd ps ks 0 perm)
    (hkw : PK X kws (tA G W s2 fk)) (hj : ALen j fk) (hjk : ks.length = j := by rfl) (hpl' : perm.all (fun i => decide (i < 0 + j)) = true := by decide) (hps : perm.length = ps.length := by rfl) (hall : (backToKw pos (keywordEach kws X.env)).all (·.1.isSome) = true := by rfl) (hks : (backToKw pos (keywordEach kws X.env)).filterMap (·.1) = ks := by rfl) (hdb : (x == ("__debug__" : Str)) = false := by decide)
    (hpl : ((backTo pos (starEach [] X.env)).any (·.1) || (backToKw pos (keywordEach kws X.env)).any (·.1.isNone)) = false := by rfl) :
    PE X (.Call (.Name x p) [] kws pos) (tS G W (true && s2) (xCallK m perm s2 aN fk)) :=
  PE.of (callKG0 F hr hg hm hk hb (fun σ => passAt tk σ) hkw hall hks hdb hpl) fun σ H Q h => by
    have q := tS_callK (np := ps.length) (n := 0) (j := j) h alen_nil hj fun l hl => by rw [← hps]; exact pick_len hpl' l hl
    rw [hjk]
    obtain ⟨x, rfl, rfl, hx, q⟩ := q
    exact q x [] rfl hx .refl .nil
theorem r_callK1 {x : Str} {p pos : Pos} {e : Expr} {es : List Expr} {kws : List Keyword} {k n j : Nat} {fa : Addr} {fd : FuncData} {ps ks : List Str} {perm : List Nat} {m : FA} {s s2 : Bool} {f fk : AE} (tk : Takes X W) (F : FnG X.prog X.w X.K X.mg X.base k fa fd ps (spA G ps.length m)) (hr : RoomG k X.A) (hg : Gl X x) (hm : X.mg x = some (.ref fa)) (hk : PySem.W.keepIn X.K (.ref fa) = true) (hb : KB X.K fd ps ks n perm)
    (ha : PA X (e :: es) (tA G W s f)) (hkw : PK X kws (tA G W s2 fk)) (hn : ALen n f) (hj : ALen j fk) (hjk : ks.length = j := by rfl) (hpl' : perm.all (fun i => decide (i < n + j)) = true := by decide) (hps : perm.length = ps.length := by rfl) (hall : (backToKw pos (keywordEach kws X.env)).all (·.1.isSome) = true := by rfl) (hks : (backToKw pos (keywordEach kws X.env)).filterMap (·.1) = ks := by rfl) (hdb : (x == ("__debug__" : Str)) = false := by decide)
    (he : starEach (e :: es) X.env = (false, eval e X.env) :: starEach es X.env := by rfl)
    (hpl : ((backTo pos (starEach (e :: es) X.env)).any (·.1) || (backToKw pos (keywordEach kws X.env)).any (·.1.isNone)) = false := by rfl) :
    PE X (.Call (.Name x p) (e :: es) kws pos) (tS G W (s && s2) (xCallK m perm s2 f fk)) :=
  PE.of (callKG1 F hr hg hm hk hb (fun σ => passAt tk σ) ha hkw hall hks hdb he hpl) fun σ H Q h => by
    have q := tS_callK (np := ps.length) (n := n) (j := j) h hn hj fun l hl => by rw [← hps]; exact pick_len hpl' l hl
    rw [hjk]
    exact q
end
end VL
/-! VL16: new instances; objects that change in their slots. -/
namespace VL
open PySem PySem.Spec PyProof.Rows L2

theorem make_guards {A : Around} {C : Addr} {us : List Value} {kw : List (Str × Value)} (h : A.guards = some []) : (A.under (.builtin "type.__call__" ⟨.ref C :: us, kw⟩)).guards = some [] := by
  show pushGuards (Code.guards (.builtin "type.__call__" ⟨.ref C :: us, kw⟩)) A.guards = some []
  rw [h]
  have e : Code.guards (.builtin "type.__call__" ⟨.ref C :: us, kw⟩) = [] := by
    unfold Code.guards
    rw [if_neg]
    show ¬ (guardIds.contains "type.__call__" = true)
    decide +kernel
  rw [e]; rfl
theorem RoomG.make {k : Nat} {A : Around} (r : RoomG (k + 1) A) (C : Addr) (us : List Value) (kw : List (Str × Value)) : RoomG k (A.under (.builtin "type.__call__" ⟨.ref C :: us, kw⟩)) := ⟨r.room.make C us kw, make_guards r.g⟩
def tMakeS (C : Addr) (sp : Sp) (E : St → XK) (t : TA) : TE := fun σ H Q => t σ H fun vs H1 => ∀ x dx, H1 x = none → H1 dx = none → dx ≠ x →
  sp (.ref x :: vs) (upd (upd H1 dx (.own x)) x (.ins C dx [])) (fun v H2 => v = .non ∧ Q (.ref x) H2) (E σ)
section
variable {X : Cx} {k : Nat} {f C : Addr} {fd : FuncData} {ps : List Str} {sp : Sp} {E : St → XK}
theorem runMk {pins : List (Addr × Obj)} {σ : St} {J : Hp} {t : Shared} {R : VK} {us : List Value} {vs : List V} (M : Mk X.K C f) (F : FnG X.prog X.w X.K X.mg X.base k f fd ps sp) (rg : RoomG (k + 1) X.A) (hb : Binds X.K fd ps []) (hx : PassesAt (L2.CX X.prog X.w) X σ (E σ))
    (I : Inv X pins σ J t) (rv : Vals vs us) (q : ∀ x dx, J x = none → J dx = none → dx ≠ x → sp (.ref x :: vs) (upd (upd J dx (.own x)) x (.ins C dx [])) (fun v H2 => v = .non ∧ R (.ref x) H2) (E σ)) :
    wpAny (model X.prog X.w) X.A (PySem.call (.ref C) us) (EP X pins σ R) X.xe t := by
  have q0 := q (t.heap.objs.size + 1) t.heap.objs.size (I.hok.fresh (Nat.le_succ _)) (I.hok.fresh (Nat.le_refl _)) (Nat.ne_of_lt (Nat.lt_succ_self _))
  have I2 := Inv.made (C := C) I
  have r2 : Vals (V.ref (t.heap.objs.size + 1) :: vs) (Value.ref (t.heap.objs.size + 1) :: us) := .cons rfl rv
  have nl : (Value.ref (t.heap.objs.size + 1) :: us).length = ps.length := by rw [← r2.length]; exact F.len _ _ _ _ q0
  have bd := hb _ (Value.ref (t.heap.objs.size + 1) :: us) I2.kIn (by simpa using nl)
  rw [List.append_nil] at bd
  refine wpAny_call (make_map (f := f) I.kIn M.makes M.init (beq_iff_eq.mp M.fn) (codeAny_mono (F.go _ X.stack _ _ ⟨_, []⟩ _ _ _ (E σ) (rg.make C us []) (I2.env0.make C us []) bd r2 q0) ?_))
  intro r t' hq
  match r, hq with
  | .error e, hq => exact hx pins _ _ e t' I2 hq
  | .ok (.ret u), hq =>
    obtain ⟨v, J', I3, rr, ev, q3⟩ := I2.after hq
    subst ev
    exact ⟨rr, ⟨V.ref (t.heap.objs.size + 1), J', I3, rfl, q3⟩⟩
  | .ok .next, hq => exact False.elim hq
  | .ok .brk, hq => exact False.elim hq
  | .ok .cont, hq => exact False.elim hq
theorem makeG {x : Str} {p pos : Pos} {e : Expr} {es : List Expr} {t : TA} (M : Mk X.K C f) (F : FnG X.prog X.w X.K X.mg X.base k f fd ps sp) (rg : RoomG (k + 1) X.A) (hg : Gl X x) (hm : X.mg x = some (.ref C)) (hb : Binds X.K fd ps []) (hx : ∀ σ, PassesAt (L2.CX X.prog X.w) X σ (E σ))
    (ha : PA X (e :: es) t) (hdb : (x == ("__debug__" : Str)) = false := by decide) (he : starEach (e :: es) X.env = (false, eval e X.env) :: starEach es X.env := by rfl) (hpl : (backTo pos (starEach es X.env)).any (·.1) = false := by rfl) :
    PE X (.Call (.Name x p) (e :: es) [] pos) (tMakeS C sp E t) := by
  constructor
  intro pins t0 σ J R I h
  refine wpAny_Call_Name_kw (ld_glob I hg hm ?_ hdb)
  refine PySem.W.callWith_K (h₀ := X.base) I.ok.mod.kin M.kp (thn (ha.run pos pins t0 σ J _ I h) ?_) he hpl
  rintro us t1 ⟨vs, J1, I1, rv, q⟩
  exact ⟨I1.kIn, runMk M F rg hb (hx σ) I1 rv q⟩
end
def xMake (cn : Nat) (m : FB) (f : AE) : EE := fun ρ => do
  let (l, ρ1) ← f ρ
  if argsOk l = true then
    match m (some (.ins cn [], .pn) :: l.map argS) with
    | .ok (.non, _, d1) => if d1.isDrw = true then .bad else .ok (d1, .ow, ρ1)
    | .err c d ρ' => match err1 ρ' with
      | some _ => .err c d ρ1
      | none => .bad
    | _ => .bad
  else .bad
section
variable {X : Cx} {G : Gm} {W : WX}
/-- the state at a new instance's __init__ -/
theorem enterMk {s : Bool} {x y : Stt} {vs : List V} {l : List (D × Kd)} {cn : Nat} {C a dx : Addr} (hy : SInv G y) (h : AOk G x y vs l) (hl : argsOk l = true) (hC : G.cm cn = some C) (ha : y.H a = none) (hd : y.H dx = none) (hne : dx ≠ a) :
    ∃ c : Stt, ArgA G (l.length + 1) (.ref a :: vs) (upd (upd y.H dx (.own a)) a (.ins C dx [])) c ∧ c.rho = some (.ins cn [], .pn) :: l.map argS ∧ c.p = [a] ∧ (∀ b, y.F b → c.F b) ∧ (∀ b, c.F b → y.F b ∨ (x.H b = none ∧ b ∉ y.o ∧ b ∉ y.p ∧ b ∉ y.b)) ∧ (∀ b o, y.H b = some o → c.H b = some o) ∧ ¬ c.F a := by
  simp only [argsOk, Bool.and_eq_true, decide_eq_true_eq] at hl
  obtain ⟨fs, b, q1, q2, q3, q4, q5⟩ := h.enter hl.1 hl.2
  have kp : ∀ b o, y.H b = some o → upd (upd y.H dx (.own a)) a (.ins C dx []) b = some o := fun b o e => by
    rw [upd_ne (ne_of_none e ha), upd_ne (ne_of_none e hd)]; exact e
  have nF : ¬ (y.F a ∨ a ∈ fs) := fun f => by
    rcases f with f | f
    · obtain ⟨o, e, _⟩ := hy.dom a f; rw [ha] at e; cases e
    · obtain ⟨⟨⟨o, e, _⟩, _⟩, _⟩ := q1 a f; rw [ha] at e; cases e
  have nb : a ∉ b := fun z => by
    obtain ⟨_, o, e, _⟩ := hy.there (q2 a z); rw [ha] at e; cases e
  refine ⟨⟨fun c => y.F c ∨ c ∈ fs, some (.ins cn [], .pn) :: l.map argS, (V.ref a :: vs).map some, upd (upd y.H dx (.own a)) a (.ins C dx []), [], [a] ++ [], b⟩, ⟨rfl, rfl, ⟨.pn (.ow nF ⟨C, dx, [], upd_same, hC, rfl, .nil⟩) (by simp) (q5.keep (fun _ h => h) (fun c o _ e _ => kp c o e) fun c hc => ⟨(q5.there c hc).1, fun o e _ => kp c o e⟩), ?_, fun c f => ?_, hy.tb.ext kp⟩, by simp, rfl⟩, rfl, by simp, fun _ h => .inl h, fun c f => ?_, kp, nF⟩
  · simp only [List.nil_append, List.append_nil]
    exact List.nodup_append.mpr ⟨by simp, q3, fun c hc d hd e => nb (by simp at hc; subst hc; subst e; exact hd)⟩
  · rcases f with f | f
    · obtain ⟨o, e, t⟩ := hy.dom c f; exact ⟨o, kp c o e, t⟩
    · obtain ⟨⟨⟨o, e, t⟩, _⟩, _⟩ := q1 c f; exact ⟨o, kp c o e, t⟩
  · rcases f with f | f
    · exact .inl f
    · exact .inr ⟨(q1 c f).2, (q1 c f).1.2⟩
theorem leaveMk {s : Bool} {x y c u : Stt} {a dx : Addr} {C : Addr} (hx : SInv G x) (hy : SInv G y) (e : Ext s x y) (ha : y.H a = none) (hd : y.H dx = none) (hcH : c.H = upd (upd y.H dx (.own a)) a (.ins C dx [])) (hco : c.o = []) (hcp : c.p = [a]) (f1 : ∀ b, y.F b → c.F b) (f2 : ∀ b, c.F b → y.F b ∨ (x.H b = none ∧ b ∉ y.o ∧ b ∉ y.p ∧ b ∉ y.b)) (kp : ∀ b o, y.H b = some o → c.H b = some o)
    (iu : SInv G u) (eu : Ext false c u) : SInv G { y with F := u.F, H := u.H } ∧ Ext s x { y with F := u.F, H := u.H } := by
  have ku : Kept [] y.H u.H := fun b o h _ t => by
    have := eu.kp b o (kp b o h) (by rw [hco, hcp]; simp only [List.nil_append, List.mem_singleton]; rintro rfl; rw [ha] at h; cases h) t
    exact this
  have hf : ∀ b, y.F b → u.F b := fun b f => eu.f1 b (f1 b f)
  have hdm : ∀ b, u.H b = none → y.H b = none := fun b q => by
    have h1 := eu.dm b q
    cases h2 : y.H b with
    | none => rfl
    | some o => rw [kp b o h2] at h1; cases h1
  have hcn : ∀ b, c.H b = none → y.H b = none := fun b q => by
    cases h2 : y.H b with
    | none => rfl
    | some o => rw [kp b o h2] at q; cases q
  have inv : SInv G { y with F := u.F, H := u.H } := by
    refine ⟨hy.sl.keep hf (fun b o f e t => ku b o e (by simp) t) fun b hb => ⟨fun f => ?_, fun o e t => ku b o e (by simp) t⟩, hy.nd, iu.dom, iu.tb⟩
    obtain ⟨nf, o, e', _⟩ := hy.sl.there b hb
    rcases eu.f2 b f with q | q
    · rcases f2 b q with q | q
      · exact nf q
      · rcases hb with z | z | z
        · exact q.2.1 z
        · exact q.2.2.1 z
        · exact q.2.2.2 z
    · have := hcn b q; rw [e'] at this; cases this
  refine ⟨inv, ⟨e.sg, e.kp.trans (m' := []) ku (by simp), fun b f => hf b (e.f1 b f), fun b f => ?_, e.o1, e.p1, e.b1, fun b q => e.dm b (hdm b q), e.lk, fun q => ?_⟩⟩
  · rcases eu.f2 b f with q | q
    · rcases f2 b q with q | q
      · exact e.f2 b q
      · exact .inr q.1
    · exact .inr (e.dm b (hcn b q))
  · obtain ⟨r1, k1, o1⟩ := e.st q
    exact ⟨r1, k1.trans ku (by simp), o1⟩
theorem tS_make {np cn : Nat} {C : Addr} {m : FB} {s : Bool} {f : AE} {σ H Q} (h : tS G W s (xMake cn m f) σ H Q) (hn : ALen np f) (hC : G.cm cn = some C) : tMakeS C (spB G (np + 1) m) (fun σ => WE W σ) (tA G W s f) σ H Q := by
  obtain ⟨x, rfl, rfl, hx, q⟩ := h
  refine ⟨x, rfl, rfl, hx, ?_⟩
  unfold xMake at q
  cases e : f x.rho with
  | bad => simp only [e, Res.bind_bad] at q
  | err c d ρ' => simp only [e, Res.bind_err] at q; exact q
  | ok r =>
    obtain ⟨l, ρ1⟩ := r
    simp only [e, Res.bind_ok] at q
    intro y vs hρ iy ey ay a dx ha hd hne
    by_cases hl : argsOk l = true
    · rw [if_pos hl] at q
      obtain ⟨c, a1, a2, a3, a4, a5, a6, a7⟩ := enterMk (s := s) iy ay hl hC ha hd hne
      have a1' := a1
      rw [hn _ _ _ e] at a1
      refine ⟨c, .ins cn [], l.map argS, a1, a2, noPn_args l, ?_⟩
      rw [a2]
      cases e2 : m (some (.ins cn [], .pn) :: l.map argS) with
      | bad => simp only [e2] at q
      | err c' d ρ' =>
        simp only [e2] at q
        cases h1 : err1 ρ' with
        | none => simp only [h1] at q
        | some d1 =>
          simp only [h1] at q
          refine ⟨d1, h1, fun u cls dx' hu iu eu hev => ?_⟩
          obtain ⟨i1, e1⟩ := leaveMk hx iy ey ha hd a1.H a1.o a3 a4 a5 a6 iu eu
          exact q { y with F := u.F, H := u.H } cls dx' hρ i1 e1 hev
      | ok r2 =>
        obtain ⟨d, k, d1⟩ := r2
        simp only [e2] at q
        cases d <;> first | exact q.elim | skip
        case non =>
          simp only at q
          have hdr : d1.isDrw = false := by
            cases hh : d1.isDrw with
            | false => rfl
            | true => simp only [hh, if_true] at q
          simp only [hdr, Bool.false_eq_true, if_false] at q
          intro u v fv hu P hk
          refine ⟨P.own.non_of, ?_⟩
          obtain ⟨i1, e1⟩ := leaveMk hx iy ey ha hd a1.H a1.o a3 a4 a5 a6 P.inv P.ext
          have us := P.inv.sl
          have hσ : u.sg = (V.ref a :: vs).map some := P.ext.sg.trans a1.sg
          have hp : u.p = [a] := P.ext.p1.trans a3
          rw [hu, hσ, hp] at us
          have gen : ∀ {ρ σ o p b}, Slots G u.F u.H ρ σ o p b → ρ = some (d1, .pn) :: l.map argS → σ = some (.ref a) :: vs.map some → Own G u.F u.H (.ref a) d1 p := by
            intro ρ σ o p b hs e1 e2
            cases hs with
            | nil => cases e1
            | none _ => cases e1
            | fz _ _ => cases e1
            | ow _ _ _ => cases e1
            | lk _ _ => cases e1
            | pn w' n' hs =>
              cases e1
              cases e2
              have := hs.noPn (noPn_args l)
              rw [this, List.append_nil]
              exact w'
          have w' := gen us rfl rfl
          refine q { y with F := u.F, H := u.H } (.ref a) [a] hρ ⟨i1, e1, w', ⟨by simp, fun b hb => ?_⟩, .ow⟩
          have : b = a := by simpa using hb
          subst this
          refine ⟨ey.dm b ha, fun z => ?_, fun z => ?_, fun z => ?_⟩
          · obtain ⟨_, o, e', _⟩ := iy.there (.inl z); rw [ha] at e'; cases e'
          · obtain ⟨_, o, e', _⟩ := iy.there (.inr (.inl z)); rw [ha] at e'; cases e'
          · obtain ⟨_, o, e', _⟩ := iy.there (.inr (.inr z)); rw [ha] at e'; cases e'
    · rw [if_neg hl] at q; exact q.elim
theorem r_make {x : Str} {p pos : Pos} {e : Expr} {es : List Expr} {k cn np : Nat} {C fa : Addr} {fd : FuncData} {ps : List Str} {m : FB} {s : Bool} {f : AE} (tk : Takes X W) (M : Mk X.K C fa) (F : FnG X.prog X.w X.K X.mg X.base k fa fd ps (spB G ps.length m)) (hr : RoomG (k + 1) X.A) (hC : G.cm cn = some C) (hg : Gl X x) (hm : X.mg x = some (.ref C)) (hb : Binds X.K fd ps [])
    (ha : PA X (e :: es) (tA G W s f)) (hn : ALen np f) (hps : ps.length = np + 1 := by rfl) (hdb : (x == ("__debug__" : Str)) = false := by decide) (he : starEach (e :: es) X.env = (false, eval e X.env) :: starEach es X.env := by rfl) (hpl : (backTo pos (starEach es X.env)).any (·.1) = false := by rfl) :
    PE X (.Call (.Name x p) (e :: es) [] pos) (tS G W s (xMake cn m f)) :=
  PE.of (makeG M F hr hg hm hb (fun σ => passAt tk σ) ha hdb he hpl) fun σ H Q h => by
    have := tS_make h hn hC
    rw [← hps] at this
    exact this

/-! ### changes of the object in a slot -/
def MutR (G : Gm) (r : V → List V → Hp → VK → Prop) (g : D → List D → Option (D × D)) : Prop := ∀ F H a d0 vs ds d1 dr Q, Objs G F H a d0 → ¬ F a → Rep G F H vs ds → g d0 ds = some (d1, dr) →
  (∀ o' u, isTbl o' = false → Objs G F (upd H a o') a d1 → Rep G F (upd H a o') [u] [dr] → Q u (upd H a o')) → r (.ref a) vs H Q
def mutK (p : D → Bool) (i : Nat) (g : D → List D → Option (D × D)) (l : List (D × Kd)) (ρ1 : Env) : Res (D × Kd × Env) := match ρ1[i]? with
  | some (some (d0, fl1)) => if ownFl fl1 = true ∧ fzAll l = true ∧ p d0 = true then
      match g d0 (l.map (·.1)) with
      | some (d1, dr) => .ok (dr, .fz, ρ1.set i (some (d1, fl1)))
      | none => .bad
    else .bad
  | _ => .bad
/-- x.m(e, ..), x in slot i -/
def xMut (p : D → Bool) (i : Nat) (g : D → List D → Option (D × D)) (f : AE) : EE := fun ρ => match ρ[i]? with
  | some (some (d0, fl)) => if ownFl fl = true ∧ p d0 = true then (do
      let (l, ρ1) ← f ρ
      mutK p i g l ρ1) else .bad
  | _ => .bad
theorem Objs.noExt {F H a d} (h : Objs G F H a d) : ∃ o, H a = some o ∧ isTbl o = false ∧ ∀ φ, o ≠ .ext φ := by
  cases d <;> first | exact False.elim h | skip
  case lst es => obtain ⟨ws, e, _⟩ := h; exact ⟨_, e, rfl, fun _ z => by cases z⟩
  case dK es => obtain ⟨ws, e, _⟩ := h; exact ⟨_, e, rfl, fun _ z => by cases z⟩
  case dT es => obtain ⟨ws, e, _⟩ := h; exact ⟨_, e, rfl, fun _ z => by cases z⟩
  case ins c es => obtain ⟨C, dx, ws, e, _⟩ := h; exact ⟨_, e, rfl, fun _ z => by cases z⟩
theorem mut_post {s : Bool} {x y : Stt} {vs : List V} {l : List (D × Kd)} {i : Nat} {d0 d1 : D} {fl : Fl} {a : Addr} {o' : HO} (hx : SInv G x) (hy : SInv G y) (e : Ext s x y) (hi : y.rho[i]? = some (some (d0, fl))) (hfl : fl = .ow ∨ fl = .pn) (hv : y.sg[i]? = some (some (.ref a))) (w : Own G y.F y.H (.ref a) d0 [a]) (ob : Objs G y.F y.H a d0) (nF : ¬ y.F a) (ho : isTbl o' = false)
    (ob' : Objs G y.F (upd y.H a o') a d1) :
    SInv G { y with H := upd y.H a o', rho := y.rho.set i (some (d1, fl)) } ∧ Ext false x { y with H := upd y.H a o', rho := y.rho.set i (some (d1, fl)) } := by
  obtain ⟨o, eo, to, no⟩ := ob.noExt
  have hlen : i < y.rho.length := (List.getElem?_eq_some_iff.mp hi).1
  have s2 := hy.sl.mut (H' := upd y.H a o') hy.nd hi hfl hv w (by simp) (.ow nF ob') fun b ob h n _ => by
    rw [upd_ne (by simpa using n)]; exact h
  have ha : a ∈ y.o ∨ a ∈ y.p := by
    obtain ⟨v0, fp, e1, w1, _, n0, hm⟩ := hy.sl.get hi
    rw [hv] at e1; cases e1
    have := w.uniq w1
    subst this
    rcases hm a (by simp) with z | z | z
    · exact .inl z.2
    · exact .inr z.2
    · obtain ⟨z, _⟩ := z; rcases hfl with q | q <;> (rw [q] at z; cases z)
  have kp : Kept [a] y.H (upd y.H a o') := fun b ob h n _ => by rw [upd_ne (by simpa using n)]; exact h
  have dm : ∀ b, upd y.H a o' b = none → y.H b = none := fun b h => by
    by_cases eb : b = a
    · subst eb; rw [upd_same] at h; cases h
    · rwa [upd_ne eb] at h
  refine ⟨⟨s2, hy.nd, fun b f => ?_, tabs_upd hy.tb eo to no⟩, ⟨e.sg, e.kp.trans kp fun b hb => ?_, e.f1, e.f2, e.o1, e.p1, e.b1, fun b h => e.dm b (dm b h), fun j d' fl' e1 hf' => ?_, fun q => by cases q⟩⟩
  · have nb : b ≠ a := fun z => nF (z ▸ f)
    obtain ⟨o, h, t⟩ := hy.dom b f
    exact ⟨o, by show upd y.H a o' b = some o; rw [upd_ne nb]; exact h, t⟩
  · have : b = a := by simpa using hb
    subst this
    rcases ha with q | q
    · rcases e.o1 b q with q | q
      · exact .inl (by simp [q])
      · exact .inr q
    · rw [e.p1] at q; exact .inl (by simp [q])
  · obtain ⟨d2, e2, k2⟩ := e.lk j d' fl' e1 hf'
    by_cases hj : i = j
    · subst hj
      rw [hi] at e2; cases e2
      refine ⟨d1, List.getElem?_set_self hlen, fun z => ?_⟩
      rcases hfl with q | q <;> (rw [q] at z; cases z)
    · exact ⟨d2, by rw [List.getElem?_set_ne hj]; exact e2, k2⟩
/-- the object that an owned slot holds -/
theorem own_slot {y : Stt} {i : Nat} {d0 : D} {fl : Fl} {v : V} (hy : SInv G y) (hi : y.rho[i]? = some (some (d0, fl))) (hfl : fl = .ow ∨ fl = .pn) (hd : d0.isDrw = false) (hv : y.sg[i]? = some (some v)) : ∃ a, v = .ref a ∧ Own G y.F y.H (.ref a) d0 [a] ∧ Objs G y.F y.H a d0 ∧ ¬ y.F a := by
  obtain ⟨v0, fp, e1, w1, _, n0, hm⟩ := hy.sl.get hi
  rw [hv] at e1; cases e1
  cases w1 with
  | fz r => exact absurd rfl (n0 hfl)
  | ow f ob => exact ⟨_, rfl, .ow f ob, ob, f⟩
  | drw _ _ _ _ _ _ => cases hd
theorem kf_upd {F : Addr → Prop} {H : Hp} {a : Addr} {o' : HO} (nF : ¬ F a) : KeptF F H (upd H a o') := fun b o f e _ => by
  have nb : b ≠ a := fun z => nF (by rw [← z]; exact f)
  rw [upd_ne nb]; exact e
def D.isLst : D → Bool
  | .lst _ => true
  | _ => false
theorem tS_mut {T : String} {r : V → List V → Hp → VK → Prop} {p : D → Bool} {g : D → List D → Option (D × D)} {i : Nat} {s : Bool} {f : AE} {σ H Q} (hg : MutR G r g) (hp : ∀ d, p d = true → d.isDrw = false) (hty : ∀ {F H a d0}, Objs G F H a d0 → p d0 = true → tyV X.K T (.ref a) H)
    (h : tS G W false (xMut p i g f) σ H Q) : tBM X.K T r (tVar i) (tA G W s f) σ H Q := by
  obtain ⟨x, rfl, rfl, hx, q⟩ := h
  unfold xMut at q
  cases e0 : x.rho[i]? with
  | none => simp only [e0] at q
  | some sl =>
  cases sl with
  | none => simp only [e0] at q
  | some df =>
  obtain ⟨d00, fl0⟩ := df
  simp only [e0] at q
  by_cases hfl0 : ownFl fl0 = true ∧ p d00 = true
  · rw [if_pos hfl0] at q
    obtain ⟨v0, fp0, ev, _⟩ := hx.sl.get e0
    obtain ⟨a0, rfl, w0, ob0, nf0⟩ := own_slot hx e0 (ownFl_iff hfl0.1) (hp _ hfl0.2) ev
    refine ⟨.ref a0, ev, hty ob0 hfl0.2, x, rfl, rfl, hx, ?_⟩
    cases e : f x.rho with
    | bad => simp only [e, Res.bind_bad] at q
    | err c d ρ' =>
      simp only [e, Res.bind_err] at q
      exact fun y cls dx hρ iy ey hev => q y cls dx hρ iy (ey.weak fun z => by cases z) hev
    | ok rr =>
      obtain ⟨l, ρ1⟩ := rr
      simp only [e, Res.bind_ok] at q
      intro y vs hρ iy ey ay
      unfold mutK at q
      cases e1 : ρ1[i]? with
      | none => simp only [e1] at q
      | some sl1 =>
      cases sl1 with
      | none => simp only [e1] at q
      | some df1 =>
      obtain ⟨d0, fl⟩ := df1
      simp only [e1] at q
      by_cases hc : ownFl fl = true ∧ fzAll l = true ∧ p d0 = true
      · rw [if_pos hc] at q
        cases e2 : g d0 (l.map (·.1)) with
        | none => simp only [e2] at q
        | some dd =>
          obtain ⟨d1, dr⟩ := dd
          simp only [e2] at q
          obtain ⟨F', i', e', rp⟩ := ay.frozen hx iy ey hc.2.1
          have hi : ({ y with F := F' } : Stt).rho[i]? = some (some (d0, fl)) := by show y.rho[i]? = _; rw [hρ]; exact e1
          have hv : ({ y with F := F' } : Stt).sg[i]? = some (some (.ref a0)) := by show y.sg[i]? = _; rw [ey.sg]; exact ev
          obtain ⟨a, ea, w, ob, nF⟩ := own_slot i' hi (ownFl_iff hc.1) (hp _ hc.2.2) hv
          cases ea
          refine hg F' y.H a0 _ vs _ d1 dr Q ob nF rp e2 fun o' u to ob' ru => ?_
          obtain ⟨i2, e2'⟩ := mut_post (l := l) (vs := vs) hx i' e' hi (ownFl_iff hc.1) hv w ob nF to ob'
          exact q { y with F := F', H := upd y.H a0 o', rho := y.rho.set i (some (d1, fl)) } u [] (by show y.rho.set i _ = _; rw [hρ]) ⟨i2, e2', .fz ru, rfl, .fz⟩
      · rw [if_neg hc] at q; exact q.elim
  · rw [if_neg hfl0] at q; exact q.elim
theorem isLst_ty {F H a d0} (ob : Objs G F H a d0) (h : d0.isLst = true) : tyV X.K "list" (.ref a) H := by
  cases d0 <;> first | cases h | skip
  case lst es => obtain ⟨ws, e, _⟩ := ob; exact .inl ⟨rfl, _, .of e⟩
theorem isLst_drw : ∀ d : D, d.isLst = true → d.isDrw = false := fun d h => by cases d <;> first | rfl | cases h
def mAppend : D → List D → Option (D × D)
  | .lst es, [d] => if es.length < sizeLine then some (.lst (es ++ [d]), .non) else none
  | _, _ => none
theorem m_append : MutR G rAppend mAppend := by
  intro F H a d0 vs ds d1 dr Q ob nF r hg q
  unfold mAppend at hg
  split at hg
  · split at hg
    · rename_i hz
      cases hg
      obtain ⟨ws, e, z, rw'⟩ := ob
      obtain ⟨v, us, rfl, r1, r2⟩ := r.cons_of
      rw [r2.nil_of]
      have kf : KeptF F H (upd H a (.lst (ws ++ [v]))) := kf_upd nF
      refine ⟨a, ws, v, rfl, rfl, e, by rw [rw'.length]; exact hz, q _ .non rfl ⟨_, upd_same, by simp; rw [rw'.length]; omega, (rw'.snoc r1).keep (fun _ h => h) kf⟩ (.atom rfl .nil)⟩
    · cases hg
  · cases hg
def mExtend : D → List D → Option (D × D)
  | .lst es, [.lst fs] => if es.length + fs.length ≤ sizeLine then some (.lst (es ++ fs), .non) else none
  | _, _ => none
theorem m_extend : MutR G rExtend mExtend := by
  intro F H a d0 vs ds d1 dr Q ob nF r hg q
  unfold mExtend at hg
  split at hg
  · split at hg
    · rename_i hz
      cases hg
      obtain ⟨ws, e, z, rw'⟩ := ob
      obtain ⟨v, us, rfl, r1, r2⟩ := r.cons_of
      rw [r2.nil_of]
      obtain ⟨b, zs, rfl, e2, z2, r3⟩ := (Own.fz r1).lstM
      have kf : KeptF F H (upd H a (.lst (ws ++ zs))) := kf_upd nF
      have hz' : ws.length + zs.length ≤ sizeLine := by rw [rw'.length, r3.length]; exact hz
      exact ⟨a, b, ws, zs, rfl, rfl, e, e2, hz', q _ .non rfl ⟨_, upd_same, by simpa using hz', (rw'.append r3).keep (fun _ h => h) kf⟩ (.atom rfl .nil)⟩
    · cases hg
  · cases hg
/-- pop of the last item -/
def mPop : D → List D → Option (D × D)
  | .lst es, [] => (es[es.length - 1]?).map fun d => (.lst es.dropLast, d)
  | _, _ => none
theorem Rep.dropLast {F : Addr → Prop} {H : Hp} {vs : List V} {ds : List D} (h : Rep G F H vs ds) : Rep G F H vs.dropLast ds.dropLast := by
  rw [List.dropLast_eq_take, List.dropLast_eq_take, h.length]
  exact h.take _
theorem m_pop : MutR G rPop mPop := by
  intro F H a d0 vs ds d1 dr Q ob nF r hg q
  unfold mPop at hg
  split at hg
  · simp only [Option.map_eq_some_iff, Prod.mk.injEq] at hg
    obtain ⟨d, e0, rfl, rfl⟩ := hg
    obtain ⟨ws, e, z, rw'⟩ := ob
    rw [r.nil_of]
    obtain ⟨v, ev, rv⟩ := rw'.get e0
    have kf : KeptF F H (upd H a (.lst ws.dropLast)) := kf_upd nF
    refine ⟨a, ws, v, rfl, rfl, e, by rw [rw'.length]; exact ev, q _ v rfl ⟨_, upd_same, by simp; omega, rw'.dropLast.keep (fun _ h => h) kf⟩ (rv.keep (fun _ h => h) kf)⟩
  · cases hg
/-- pop at a place -/
def mPopAt : D → List D → Option (D × D)
  | .lst es, [.int i] => if 0 ≤ i ∧ i < es.length ∧ es.length ≤ sizeLine then (es[i.toNat]?).map fun d => (.lst (es.eraseIdx i.toNat), d) else none
  | _, _ => none
theorem Rep.eraseIdx {F : Addr → Prop} {H : Hp} {vs : List V} {ds : List D} (h : Rep G F H vs ds) (i : Nat) : Rep G F H (vs.eraseIdx i) (ds.eraseIdx i) := by
  rw [List.eraseIdx_eq_take_drop_succ, List.eraseIdx_eq_take_drop_succ]
  exact (h.take _).append (h.drop _)
theorem m_popAt : MutR G rPopAt mPopAt := by
  intro F H a d0 vs ds d1 dr Q ob nF r hg q
  unfold mPopAt at hg
  split at hg
  · rename_i es i
    split at hg
    · rename_i hi
      simp only [Option.map_eq_some_iff, Prod.mk.injEq] at hg
      obtain ⟨d, e0, rfl, rfl⟩ := hg
      obtain ⟨ws, e, z, rw'⟩ := ob
      obtain ⟨v, us, rfl, r1, r2⟩ := r.cons_of
      rw [r2.nil_of, r1.int_of]
      obtain ⟨v, ev, rv⟩ := rw'.get e0
      have kf : KeptF F H (upd H a (.lst (ws.eraseIdx i.toNat))) := kf_upd nF
      have h63 := line63
      have hs : seqIndex? i ws.length = some i.toNat := by
        have := (ixN_seq (n := ws.length) (i := i) (j := i.toNat) (by unfold ixN; rw [if_pos hi.1, if_pos (by rw [rw'.length]; exact hi.2.1)])).1
        exact this
      refine ⟨a, ws, i, i.toNat, v, rfl, rfl, e, by omega, by omega, hs, ev, q _ v rfl ⟨_, upd_same, Nat.le_trans (len_erase _ _) z, (rw'.eraseIdx _).keep (fun _ h => h) kf⟩ (rv.keep (fun _ h => h) kf)⟩
    · cases hg
  · cases hg
theorem r_append {i : Nat} {o e : Expr} {apos pos : Pos} {s : Bool} {f : AE} (h : PE X (.Call (.Attribute o "append" apos) [e] [] pos) (tBM X.K "list" rAppend (tVar i) (tA G W s f))) : PE X (.Call (.Attribute o "append" apos) [e] [] pos) (tS G W false (xMut D.isLst i mAppend f)) :=
  PE.of h fun σ H Q q => tS_mut m_append isLst_drw isLst_ty q
theorem r_mut {i : Nat} {e : Expr} {T : String} {r : V → List V → Hp → VK → Prop} {p : D → Bool} {g : D → List D → Option (D × D)} {s : Bool} {f : AE} (hg : MutR G r g) (hp : ∀ d, p d = true → d.isDrw = false) (hty : ∀ {F H a d0}, Objs G F H a d0 → p d0 = true → tyV X.K T (.ref a) H) (h : PE X e (tBM X.K T r (tVar i) (tA G W s f))) : PE X e (tS G W false (xMut p i g f)) :=
  PE.of h fun σ H Q q => tS_mut hg hp hty q
end
end VL
/-! VL17: the draws; attributes stored; what is never reached. -/
namespace VL
open PySem PySem.Spec PyProof.Rows L2

theorem Own.drw_of {G : Gm} {F : Addr → Prop} {H : Hp} {v : V} {gr : List Int} {r : Int} {ce : List Int} {t : Int} {fp : List Addr} (h : Own G F H v (.drw gr r ce t) fp) : ∃ a g c, v = .ref a ∧ fp = [a, g] ∧ ¬ F a ∧ ¬ F g ∧ F c ∧ gr.length ≤ sizeLine ∧ ce.length ≤ sizeLine ∧ DrwAt H a g c gr r ce t := by
  cases h with
  | fz r => cases r; rename_i h _; cases v <;> simp [atomD] at h
  | ow _ ob => exact False.elim ob
  | drw f1 f2 f3 z1 z2 q => exact ⟨_, _, _, rfl, rfl, f1, f2, f3, z1, z2, q⟩
/-- the slot that holds the draws -/
def drwAt (i : Nat) (ρ : Env) : Option (List Int × Int × List Int × Int × Fl) := match ρ[i]? with
  | some (some (.drw gr r ce t, fl)) => if ownFl fl = true then some (gr, r, ce, t, fl) else none
  | _ => none
theorem drwAt_of {i : Nat} {ρ : Env} {gr r ce t fl} (h : drwAt i ρ = some (gr, r, ce, t, fl)) : ρ[i]? = some (some (.drw gr r ce t, fl)) ∧ (fl = .ow ∨ fl = .pn) := by
  unfold drwAt at h
  split at h
  · split at h
    · rename_i hf
      cases h
      exact ⟨‹_›, ownFl_iff hf⟩
    · cases h
  · cases h
def xDrwRest (i : Nat) : EE := fun ρ => match drwAt i ρ with
  | some (_, r, _, _, _) => .ok (.int r, .fz, ρ)
  | none => .bad
def xDrwTurn (i : Nat) : EE := fun ρ => match drwAt i ρ with
  | some (_, _, _, t, _) => .ok (.int t, .fz, ρ)
  | none => .bad
def xDrwCells (i : Nat) : EE := fun ρ => match drwAt i ρ with
  | some (_, _, ce, _, _) => .ok (.lst (ce.map D.int), .fz, ρ)
  | none => .bad
/-- great != [] -/
def xDrwNe (i : Nat) : EE := fun ρ => match drwAt i ρ with
  | some (gr, _, _, _, _) => .ok (.bl (!gr.isEmpty), .fz, ρ)
  | none => .bad
/-- great.pop(0) -/
def xDrwPop (i : Nat) : EE := fun ρ => match drwAt i ρ with
  | some (n :: gr, r, ce, t, fl) => .ok (.int n, .fz, ρ.set i (some (.drw gr r ce t, fl)))
  | _ => .bad
def sDrwRest (i : Nat) (f : EE) : SE := fun ρ => do
  let (d, _, ρ1) ← f ρ
  match d, drwAt i ρ1 with
  | .int n, some (gr, _, ce, t, fl) => .ok (.nx (ρ1.set i (some (.drw gr n ce t, fl))))
  | _, _ => .bad
def sDrwTurn (i : Nat) (f : EE) : SE := fun ρ => do
  let (d, _, ρ1) ← f ρ
  match d, drwAt i ρ1 with
  | .int n, some (gr, r, ce, _, fl) => .ok (.nx (ρ1.set i (some (.drw gr r ce n, fl))))
  | _, _ => .bad
def sBad : SE := fun _ => .bad
section
variable {X : Cx} {G : Gm} {W : WX} {z : Stt}
theorem r_never {st : Stmt} : PS X st (tT G W z sBad) := PS.of ps_never fun D σ H ⟨x, _, _, _, _, q⟩ => q
theorem drw_slot {x : Stt} {i : Nat} {gr r ce t fl} (hx : SInv G x) (h : drwAt i x.rho = some (gr, r, ce, t, fl)) : ∃ a g c, x.sg[i]? = some (some (.ref a)) ∧ Own G x.F x.H (.ref a) (.drw gr r ce t) [a, g] ∧ ¬ x.F a ∧ ¬ x.F g ∧ x.F c ∧ gr.length ≤ sizeLine ∧ ce.length ≤ sizeLine ∧ DrwAt x.H a g c gr r ce t ∧ (∀ b ∈ [a, g], b ∈ x.o ∨ b ∈ x.p) := by
  obtain ⟨e, hf⟩ := drwAt_of h
  obtain ⟨v, fp, ev, w, _, n0, m⟩ := hx.sl.get e
  obtain ⟨a, g, c, rfl, rfl, f1, f2, f3, z1, z2, q⟩ := w.drw_of
  refine ⟨a, g, c, ev, w, f1, f2, f3, z1, z2, q, fun b hb => ?_⟩
  rcases m b hb with z | z | z
  · exact .inl z.2
  · exact .inr z.2
  · obtain ⟨z, _⟩ := z; rcases hf with q | q <;> (rw [q] at z; cases z)
theorem dget {H : Hp} {a g c : Addr} {gr : List Int} {r : Int} {ce : List Int} {t : Int} (h : DrwAt H a g c gr r ce t) {key : Str} {v : V} (e : valV [(kw "great", V.ref g), (kw "rest", .int r), (kw "cells", .ref c), (kw "turn", .int t)] (kw key) = some v) : DGet H a (.str key) (some v) := by
  have := DGet.k (k := kw key) h.1
  rw [e] at this
  exact this
theorem v_great {g c : Addr} {r t : Int} : valV [(kw "great", V.ref g), (kw "rest", .int r), (kw "cells", .ref c), (kw "turn", .int t)] (kw "great") = some (.ref g) := rfl
theorem v_rest {g c : Addr} {r t : Int} : valV [(kw "great", V.ref g), (kw "rest", .int r), (kw "cells", .ref c), (kw "turn", .int t)] (kw "rest") = some (.int r) := rfl
theorem v_cells {g c : Addr} {r t : Int} : valV [(kw "great", V.ref g), (kw "rest", .int r), (kw "cells", .ref c), (kw "turn", .int t)] (kw "cells") = some (.ref c) := rfl
theorem v_turn {g c : Addr} {r t : Int} : valV [(kw "great", V.ref g), (kw "rest", .int r), (kw "cells", .ref c), (kw "turn", .int t)] (kw "turn") = some (.int t) := rfl
theorem p_rest {g c : Addr} {r t n : Int} : putK [(kw "great", V.ref g), (kw "rest", .int r), (kw "cells", .ref c), (kw "turn", .int t)] (kw "rest") (.int n) = [(kw "great", V.ref g), (kw "rest", .int n), (kw "cells", .ref c), (kw "turn", .int t)] := rfl
theorem p_turn {g c : Addr} {r t n : Int} : putK [(kw "great", V.ref g), (kw "rest", .int r), (kw "cells", .ref c), (kw "turn", .int t)] (kw "turn") (.int n) = [(kw "great", V.ref g), (kw "rest", .int r), (kw "cells", .ref c), (kw "turn", .int n)] := rfl
end
end VL
/-! VL18: the rules for the draws. -/
namespace VL
open PySem PySem.Spec PyProof.Rows L2

theorem mutF_post {G : Gm} {s : Bool} {x y : Stt} {i : Nat} {d0 d1 : D} {fl : Fl} {v : V} {fp : List Addr} {H' : Hp} (hx : SInv G x) (hy : SInv G y) (e : Ext s x y) (hi : y.rho[i]? = some (some (d0, fl))) (hfl : fl = .ow ∨ fl = .pn) (hv : y.sg[i]? = some (some v)) (w : Own G y.F y.H v d0 fp) (n : fp ≠ []) (w' : Own G y.F H' v d1 fp)
    (kp : Kept fp y.H H') (dm : ∀ b, H' b = none → y.H b = none) (tb : LamX.Tabs G.T H') :
    SInv G { y with H := H', rho := y.rho.set i (some (d1, fl)) } ∧ Ext false x { y with H := H', rho := y.rho.set i (some (d1, fl)) } := by
  have hlen : i < y.rho.length := (List.getElem?_eq_some_iff.mp hi).1
  have s2 := hy.sl.mut (H' := H') hy.nd hi hfl hv w n w' kp
  have ha : ∀ a ∈ fp, a ∈ y.o ∨ a ∈ y.p := by
    obtain ⟨v0, fp', e1, w1, _, n0, hm⟩ := hy.sl.get hi
    rw [hv] at e1; cases e1
    have := w.uniq w1
    subst this
    intro a ha
    rcases hm a ha with z | z | z
    · exact .inl z.2
    · exact .inr z.2
    · obtain ⟨z, _⟩ := z; rcases hfl with q | q <;> (rw [q] at z; cases z)
  refine ⟨⟨s2, hy.nd, fun b f => ?_, tb⟩, ⟨e.sg, e.kp.trans kp fun b hb => ?_, e.f1, e.f2, e.o1, e.p1, e.b1, fun b h => e.dm b (dm b h), fun j d' fl' e1 hf' => ?_, fun q => by cases q⟩⟩
  · obtain ⟨o, h, t⟩ := hy.dom b f
    exact ⟨o, kp b o h (fun z => (w.there b z).1 f) t, t⟩
  · rcases ha b hb with q | q
    · rcases e.o1 b q with q | q
      · exact .inl (by simp [q])
      · exact .inr q
    · rw [e.p1] at q; exact .inl (by simp [q])
  · obtain ⟨d2, e2, k2⟩ := e.lk j d' fl' e1 hf'
    by_cases hj : i = j
    · subst hj
      rw [hi] at e2; cases e2
      refine ⟨d1, List.getElem?_set_self hlen, fun z => ?_⟩
      rcases hfl with q | q <;> (rw [q] at z; cases z)
    · exact ⟨d2, by rw [List.getElem?_set_ne hj]; exact e2, k2⟩
section
variable {X : Cx} {G : Gm} {W : WX} {z : Stt} {i kk : Nat} {o k : Expr} {pos p1 : Pos}
theorem r_drwRest (hr : RoomG kk X.A) (ho : PE X o (tVar i)) (hk : PE X k (tC (.str "rest"))) (hs : NoSl k) : PE X (.Subscript o k pos) (tS G W true (xDrwRest i)) := PE.of (pe_dget (Nat.lt_of_le_of_lt (Nat.add_le_add_left (by decide) _) hr.room.units) ho hk hs) fun σ H Q h => by
  obtain ⟨x, rfl, rfl, hx, q⟩ := h
  unfold xDrwRest at q
  cases h1 : drwAt i x.rho with
  | none => simp only [h1] at q
  | some t =>
    obtain ⟨gr, r, ce, t, fl⟩ := t
    simp only [h1] at q
    obtain ⟨a, g, c, e1, w, f1, f2, f3, z1, z2, dd, m⟩ := drw_slot hx h1
    exact ⟨_, e1, a, .int r, rfl, dget dd v_rest, q x _ [] rfl ⟨hx, .refl, .fz (.atom rfl .nil), rfl, .fz⟩⟩
theorem r_drwTurn (hr : RoomG kk X.A) (ho : PE X o (tVar i)) (hk : PE X k (tC (.str "turn"))) (hs : NoSl k) : PE X (.Subscript o k pos) (tS G W true (xDrwTurn i)) := PE.of (pe_dget (Nat.lt_of_le_of_lt (Nat.add_le_add_left (by decide) _) hr.room.units) ho hk hs) fun σ H Q h => by
  obtain ⟨x, rfl, rfl, hx, q⟩ := h
  unfold xDrwTurn at q
  cases h1 : drwAt i x.rho with
  | none => simp only [h1] at q
  | some t =>
    obtain ⟨gr, r, ce, t, fl⟩ := t
    simp only [h1] at q
    obtain ⟨a, g, c, e1, w, f1, f2, f3, z1, z2, dd, m⟩ := drw_slot hx h1
    exact ⟨_, e1, a, .int t, rfl, dget dd v_turn, q x _ [] rfl ⟨hx, .refl, .fz (.atom rfl .nil), rfl, .fz⟩⟩
theorem r_drwCells (hr : RoomG kk X.A) (ho : PE X o (tVar i)) (hk : PE X k (tC (.str "cells"))) (hs : NoSl k) : PE X (.Subscript o k pos) (tS G W true (xDrwCells i)) := PE.of (pe_dget (Nat.lt_of_le_of_lt (Nat.add_le_add_left (by decide) _) hr.room.units) ho hk hs) fun σ H Q h => by
  obtain ⟨x, rfl, rfl, hx, q⟩ := h
  unfold xDrwCells at q
  cases h1 : drwAt i x.rho with
  | none => simp only [h1] at q
  | some t =>
    obtain ⟨gr, r, ce, t, fl⟩ := t
    simp only [h1] at q
    obtain ⟨a, g, c, e1, w, f1, f2, f3, z1, z2, dd, m⟩ := drw_slot hx h1
    exact ⟨_, e1, a, .ref c, rfl, dget dd v_cells, q x _ [] rfl ⟨hx, .refl, .fz (.lst f3 dd.2.2.1 (by simpa using z2) (Rep.ints _) .nil), rfl, .fz⟩⟩
theorem toPyL_ints : ∀ gr : List Int, toPyL (gr.map D.int) = some (gr.map fun n => PyData.int n)
  | [] => rfl
  | n :: gr => by simp [toPyL, toPy, toPyL_ints gr]
theorem lay_ints : ∀ gr : List Int, PyData.canLayAll0 (gr.map fun n => PyData.int n) = true ∧ PyData.depthAll (gr.map fun n => PyData.int n) ≤ 1
  | [] => by simp [PyData.canLayAll0, PyData.depthAll]
  | n :: gr => by
    obtain ⟨h1, h2⟩ := lay_ints gr
    simp only [List.map_cons, PyData.canLayAll0, PyData.canLay0, PyData.depthAll, PyData.depth, h1, Bool.and_self, true_and]
    omega
theorem shaped_ints (gr : List Int) : SeqAt.shaped (.list (gr.map fun n => PyData.int n)) = true := by
  obtain ⟨h1, h2⟩ := lay_ints gr
  unfold SeqAt.shaped
  have e : PyData.depth (.list (gr.map fun n => PyData.int n)) = PyData.depthAll (gr.map fun n => PyData.int n) + 1 := by simp only [PyData.depth]; try omega
  simp only [PyData.canLay0, e, h1, Bool.true_and, decide_eq_true_eq]
  omega
theorem dNe_nil (gr : List Int) : dNe (.lst (gr.map D.int)) (.lst []) = some (.bl (!gr.isEmpty), .fz) := by
  have e : dEqB (.lst (gr.map D.int)) (.lst []) = some gr.isEmpty := by
    show pyEq _ _ = _
    unfold pyEq
    have h1 : toPy (.lst (gr.map D.int)) = some (.list (gr.map fun n => PyData.int n)) := by simp [toPy, toPyL_ints]
    have h2 : toPy (.lst []) = some (.list []) := by simp [toPy, toPyL]
    rw [h1, h2]
    simp only
    rw [if_pos ⟨shaped_ints gr, shaped_ints []⟩]
    cases gr with
    | nil => simp [PyData.eqv, PyData.eqvAll]
    | cons n gr => simp [PyData.eqv, PyData.eqvAll]
  unfold dNe
  rw [e]; rfl
theorem Own.objs_of {F : Addr → Prop} {H : Hp} {a : Addr} {d : D} {b : Addr} (h : Own G F H (.ref a) d [b]) : Objs G F H a d := by
  cases h with
  | ow _ ob => exact ob
theorem drwGreat {gr : List Int} {F : Addr → Prop} {H : Hp} {a g c : Addr} {r t : Int} {ce : List Int} (f2 : ¬ F g) (z1 : gr.length ≤ sizeLine) (dd : DrwAt H a g c gr r ce t) : Own G F H (.ref g) (.lst (gr.map D.int)) [g] := .ow f2 ⟨_, dd.2.1, by simpa using z1, Rep.ints _⟩
theorem drwNe_imp (hr : RoomG kk X.A) (hK : X.K = G.K) {σ H} {Q : VK} (h : tS G W true (xDrwNe i) σ H Q) : tOp (fun x y H Q => rNe x y H Q ∨ rNeD X.K x y H Q) (tDGet (tVar i) (tC (.str "great"))) (tS G W true (xLst aN)) σ H Q := by
  obtain ⟨x, rfl, rfl, hx, q⟩ := h
  unfold xDrwNe at q
  cases h1 : drwAt i x.rho with
  | none => simp only [h1] at q
  | some t =>
    obtain ⟨gr, r, ce, t, fl⟩ := t
    simp only [h1] at q
    obtain ⟨a, g, c, e1, w, f1, f2, f3, z1, z2, dd, m⟩ := drw_slot hx h1
    refine ⟨_, e1, a, .ref g, rfl, dget dd v_great, x, rfl, rfl, hx, ?_⟩
    show ∀ (y : Stt) (v : V) (fv : List Addr), y.rho = x.rho → EPost G true x y v (.lst []) .ow fv → _
    intro y v fv hy P
    obtain ⟨k1, k2, k3⟩ := P.ext.st rfl
    have w2 : Own G y.F y.H (.ref g) (.lst (gr.map D.int)) [g] := (drwGreat f2 z1 dd).keep P.ext.f1 (P.ext.keptF hx) fun b hb => by
      have : b = g := by simpa using hb
      subst this
      refine ⟨fun f => ?_, fun o e t => k2 b o e (by simp) t⟩
      rcases P.ext.f2 b f with q | q
      · exact f2 q
      · rw [dd.2.1] at q; cases q
    refine (o_ne (G := G) hr hK).2 y.F y.H _ _ _ _ _ _ _ _ _ P.inv.dom w2 P.own (dNe_nil gr) fun F' H' u fu n => ?_
    exact q { y with F := F', H := H' } u fu hy (EPost.after hx P.inv P.ext n)
/-- great != [] -/
theorem r_drwNe {p2 p3 : Pos} (hr : RoomG kk X.A) (hK : X.K = G.K) (ho : PE X o (tVar i)) (hk : PE X k (tC (.str "great"))) (hs : NoSl k) : PE X (.Compare (.Subscript o k p1) [.NotEq] [.List [] p2] p3) (tS G W true (xDrwNe i)) :=
  PE.of (pe_cmpR (o_ne (G := G) hr hK).1 (pe_dget (Nat.lt_of_le_of_lt (Nat.add_le_add_left (by decide) _) hr.room.units) ho hk hs) (r_lst (G := G) (W := W) r_anil) rfl) fun σ H Q h => drwNe_imp hr hK h
/-- great.pop(0) -/
theorem r_drwPop {e : Expr} {apos cpos : Pos} (hr : RoomG kk X.A) (ho : PE X o (tVar i)) (hk : PE X k (tC (.str "great"))) (hs : NoSl k) (he : PE X e (tC (.int 0))) (hst : starEach [e] X.env = (false, eval e X.env) :: starEach [] X.env)
    (h : ∀ to t, PE X (.Subscript o k p1) to → PA X [e] t → PE X (.Call (.Attribute (.Subscript o k p1) "pop" apos) [e] [] cpos) (tBM X.K "list" rPopAt to t)) :
    PE X (.Call (.Attribute (.Subscript o k p1) "pop" apos) [e] [] cpos) (tS G W false (xDrwPop i)) :=
  PE.of (h _ _ (pe_dget (Nat.lt_of_le_of_lt (Nat.add_le_add_left (by decide) _) hr.room.units) ho hk hs) (pa_cons he pa_nil hst)) fun σ H Q h => by
  obtain ⟨x, rfl, rfl, hx, q⟩ := h
  unfold xDrwPop at q
  cases h1 : drwAt i x.rho with
  | none => simp only [h1] at q
  | some t =>
    obtain ⟨gr, r, ce, t, fl⟩ := t
    cases gr with
    | nil => simp only [h1] at q
    | cons n gr =>
    simp only [h1] at q
    obtain ⟨a, g, c, e1, w, f1, f2, f3, z1, z2, dd, m⟩ := drw_slot hx h1
    refine ⟨_, e1, a, .ref g, rfl, dget dd v_great, ?_⟩
    refine ⟨isLst_ty (G := G) (drwGreat f2 z1 dd).objs_of rfl, ?_⟩
    have h63 := line63
    refine ⟨g, _, 0, 0, .int n, rfl, rfl, dd.2.1, by decide, by decide, ?_, rfl, ?_⟩
    · have := (ixN_seq (n := ((n :: gr).map V.int).length) (i := 0) (j := 0) (by unfold ixN; simp)).1
      exact this
    obtain ⟨ei, hfl⟩ := drwAt_of h1
    have kp : Kept [a, g] x.H (upd x.H g (.lst (gr.map V.int))) := fun b o e n _ => by
      rw [upd_ne (fun z => n (by simp [z]))]; exact e
    have w' : Own G x.F (upd x.H g (.lst (gr.map V.int))) (.ref a) (.drw gr r ce t) [a, g] := by
      refine .drw (c := c) f1 f2 f3 (Nat.le_of_succ_le z1) z2 ⟨?_, upd_same, ?_, dd.2.2.2⟩
      · rw [upd_ne dd.2.2.2]; exact dd.1
      · rw [upd_ne (fun z : c = g => f2 (z ▸ f3))]; exact dd.2.2.1
    obtain ⟨i2, e2⟩ := mutF_post (s := true) hx hx .refl ei hfl e1 w (by simp) w' kp (fun b hb => by
      by_cases eb : b = g
      · subst eb; rw [upd_same] at hb; cases hb
      · rwa [upd_ne eb] at hb) (tabs_upd hx.tb dd.2.1 rfl (fun φ z => by cases z))
    exact q { x with H := upd x.H g (.lst (gr.map V.int)), rho := x.rho.set i (some (.drw gr r ce t, fl)) } (.int n) [] rfl ⟨i2, e2, .fz (.atom rfl .nil), rfl, .fz⟩
theorem drw_put {a g c : Addr} {gr : List Int} {r r' : Int} {ce : List Int} {t t' : Int} {x y : Stt} {fl : Fl} {s : Bool} {o' : List (Key × V)} (hx : SInv G x) (e : Ext s x y) (hy : SInv G y) (ei : y.rho[i]? = some (some (.drw gr r ce t, fl))) (hfl : fl = .ow ∨ fl = .pn) (e1 : y.sg[i]? = some (some (.ref a))) (w : Own G y.F y.H (.ref a) (.drw gr r ce t) [a, g]) (f1 : ¬ y.F a) (f2 : ¬ y.F g) (f3 : y.F c) (z1 : gr.length ≤ sizeLine) (z2 : ce.length ≤ sizeLine) (dd : DrwAt y.H a g c gr r ce t) (ho : o' = [(kw "great", .ref g), (kw "rest", .int r'), (kw "cells", .ref c), (kw "turn", .int t')]) :
    SInv G { y with H := upd y.H a (.dK o'), rho := y.rho.set i (some (.drw gr r' ce t', fl)) } ∧ Ext false x { y with H := upd y.H a (.dK o'), rho := y.rho.set i (some (.drw gr r' ce t', fl)) } := by
  subst ho
  refine mutF_post hx hy e ei hfl e1 w (by simp) (.drw (c := c) f1 f2 f3 z1 z2 ⟨upd_same, ?_, ?_, dd.2.2.2⟩) (fun b o e n _ => by
      rw [upd_ne (fun z => n (by simp [z]))]; exact e) (fun b hb => by
      by_cases eb : b = a
      · subst eb; rw [upd_same] at hb; cases hb
      · rwa [upd_ne eb] at hb) (tabs_upd hy.tb dd.1 rfl (fun φ z => by cases z))
  · rw [upd_ne (Ne.symm dd.2.2.2)]; exact dd.2.1
  · rw [upd_ne (fun z : c = a => f1 (z ▸ f3))]; exact dd.2.2.1
theorem r_drwSetRest {e : Expr} {s : Bool} {f : EE} (hr : RoomG kk X.A) (ho : PE X o (tVar i)) (hk : PE X k (tC (.str "rest"))) (he : PE X e (tS G W s f)) (hs : swapsWith e (some (.Subscript o k p1)) pos.line X.env = pure false := by rfl) :
    PS X (.Assign [.Subscript o k p1] e pos) (tT G W z (sDrwRest i f)) := PS.of (ps_dput (Nat.lt_of_le_of_lt (Nat.add_le_add_left (by decide) _) hr.room.units) ho hk he hs) fun D σ H h =>
  tT_expr (k := fun d _ ρ1 => match d, drwAt i ρ1 with
  | .int n, some (gr, _, ce, t, fl) => .ok (.nx (ρ1.set i (some (.drw gr n ce t, fl))))
  | _, _ => .bad) h fun x y v d kd fv hi hz ex P q => by
    cases d <;> first | exact q.elim | skip
    rename_i n
    cases h1 : drwAt i y.rho with
    | none => simp only [h1] at q; exact q.elim
    | some t =>
      obtain ⟨gr, r, ce, t, fl⟩ := t
      simp only [h1] at q
      obtain ⟨a, g, c, e1, w, f1, f2, f3, z1, z2, dd, m⟩ := drw_slot P.inv h1
      obtain ⟨ei, hfl⟩ := drwAt_of h1
      rw [P.own.int_of]
      refine ⟨_, by rw [← ex, ← P.ext.sg]; exact e1, a, _, rfl, DPut.k (k := kw "rest") dd.1 (by show 4 < sizeLine; rw [sizeLine_eq]; decide), ?_⟩
      obtain ⟨i2, e2⟩ := drw_put (r' := n) hi P.ext P.inv ei hfl e1 w f1 f2 f3 z1 z2 dd p_rest
      have := q _ rfl (SStep.ext hz hi i2 e2)
      rw [← ex, ← P.ext.sg]; exact this
theorem r_drwSetTurn {e : Expr} {s : Bool} {f : EE} (hr : RoomG kk X.A) (ho : PE X o (tVar i)) (hk : PE X k (tC (.str "turn"))) (he : PE X e (tS G W s f)) (hs : swapsWith e (some (.Subscript o k p1)) pos.line X.env = pure false := by rfl) :
    PS X (.Assign [.Subscript o k p1] e pos) (tT G W z (sDrwTurn i f)) := PS.of (ps_dput (Nat.lt_of_le_of_lt (Nat.add_le_add_left (by decide) _) hr.room.units) ho hk he hs) fun D σ H h =>
  tT_expr (k := fun d _ ρ1 => match d, drwAt i ρ1 with
  | .int n, some (gr, r, ce, _, fl) => .ok (.nx (ρ1.set i (some (.drw gr r ce n, fl))))
  | _, _ => .bad) h fun x y v d kd fv hi hz ex P q => by
    cases d <;> first | exact q.elim | skip
    rename_i n
    cases h1 : drwAt i y.rho with
    | none => simp only [h1] at q; exact q.elim
    | some t =>
      obtain ⟨gr, r, ce, t, fl⟩ := t
      simp only [h1] at q
      obtain ⟨a, g, c, e1, w, f1, f2, f3, z1, z2, dd, m⟩ := drw_slot P.inv h1
      obtain ⟨ei, hfl⟩ := drwAt_of h1
      rw [P.own.int_of]
      refine ⟨_, by rw [← ex, ← P.ext.sg]; exact e1, a, _, rfl, DPut.k (k := kw "turn") dd.1 (by show 4 < sizeLine; rw [sizeLine_eq]; decide), ?_⟩
      obtain ⟨i2, e2⟩ := drw_put (t' := n) hi P.ext P.inv ei hfl e1 w f1 f2 f3 z1 z2 dd p_turn
      have := q _ rfl (SStep.ext hz hi i2 e2)
      rw [← ex, ← P.ext.sg]; exact this
end
end VL
/-! VL19: values chosen by tests, chains, targets of a statement, attributes stored, the draws' beginning. -/
namespace VL
open PySem PySem.Spec PyProof.Rows L2

theorem EPost.older {G : Gm} {s t u : Bool} {x y z : Stt} {v : V} {d : D} {k : Kd} {fv : List Addr} (hx : SInv G x) (hy : SInv G y) (e : Ext s x y) (P : EPost G t y z v d k fv) (h : u = true → s = true ∧ t = true) : EPost G u x z v d k fv where
  inv := P.inv
  ext := (e.trans hx hy P.ext).weak fun q => by simp only [Bool.and_eq_true]; exact h q
  own := P.own
  src := P.src
  kd := by
    have q := P.kd
    cases k with
    | fz => exact q
    | br => exact q
    | ow => exact ⟨q.1, fun a ha => ⟨e.dm a (q.2 a ha).1, (q.2 a ha).2⟩⟩
def xIfD (f g g' : EE) : EE := fun ρ => do
  let (d, _, ρ1) ← f ρ
  match d with
  | .bl b => if b = true then g ρ1 else g' ρ1
  | _ => .bad
def xIfE (c : BE) (g g' : EE) : EE := fun ρ => do
  let (b, ρ1) ← c ρ
  if b = true then g ρ1 else g' ρ1
section
variable {X : Cx} {G : Gm} {W : WX} {z : Stt}
theorem tS_after {s t u : Bool} {x y : Stt} {g : EE} {Q : VK} (hx : SInv G x) (hy : SInv G y) (e : Ext s x y) (h : u = true → s = true ∧ t = true)
    (q : match g y.rho with
      | .ok (d, k, ρ') => ∀ y v fv, y.rho = ρ' → EPost G u x y v d k fv → Q v y.H
      | .err c d ρ' => ∀ y cls dx, y.rho = ρ' → SInv G y → Ext u x y → ErrV G y cls dx c d → W cls dx x.sg y.H
      | .bad => False) : tS G W t g x.sg y.H Q := by
  refine ⟨y, e.sg, rfl, hy, ?_⟩
  cases h2 : g y.rho with
  | bad => simp only [h2] at q
  | err c d' ρ' =>
    simp only [h2] at q
    exact fun z cls dx hz iz ez hev => q z cls dx hz iz ((e.trans hx hy ez).weak fun q => by simp only [Bool.and_eq_true]; exact h q) hev
  | ok r2 =>
    obtain ⟨d, k, ρ'⟩ := r2
    simp only [h2] at q
    exact fun z v fv hz P => q z v fv hz (P.older hx hy e h)
theorem tS_ifD {s t u : Bool} {f g g' : EE} {σ H} {Q : VK} (h : tS G W (s && (t && u)) (xIfD f g g') σ H Q) : tS G W s f σ H fun x H1 => ∃ c, x = .bl c ∧ if c = true then tS G W t g σ H1 Q else tS G W u g' σ H1 Q := by
  obtain ⟨x, rfl, rfl, hi, q⟩ := h
  refine ⟨x, rfl, rfl, hi, ?_⟩
  unfold xIfD at q
  cases h1 : f x.rho with
  | bad => simp only [h1, Res.bind_bad] at q
  | err c d ρ' =>
    simp only [h1, Res.bind_err] at q
    exact fun y cls dx hρ iy ey hev => q y cls dx hρ iy (ey.weak fun z => by simp only [Bool.and_eq_true] at z; exact z.1) hev
  | ok r1 =>
    obtain ⟨d, k, ρ1⟩ := r1
    simp only [h1, Res.bind_ok] at q
    intro y v fv hρ P
    cases d <;> first | exact q.elim | skip
    case bl b =>
      refine ⟨b, P.own.bl_of, ?_⟩
      rw [← hρ] at q
      cases b with
      | true =>
        simp only [if_true] at q ⊢
        exact tS_after hi P.inv P.ext (fun q => by simp only [Bool.and_eq_true] at q; exact ⟨q.1, q.2.1⟩) q
      | false =>
        simp only [Bool.false_eq_true, if_false] at q ⊢
        exact tS_after hi P.inv P.ext (fun q => by simp only [Bool.and_eq_true] at q; exact ⟨q.1, q.2.2⟩) q
theorem tS_ifE {s t u : Bool} {f : BE} {g g' : EE} {σ H} {Q : VK} (h : tS G W (s && (t && u)) (xIfE f g g') σ H Q) : tB G W s f σ H fun c H1 => if c = true then tS G W t g σ H1 Q else tS G W u g' σ H1 Q := by
  obtain ⟨x, rfl, rfl, hi, q⟩ := h
  refine ⟨x, rfl, rfl, hi, ?_⟩
  unfold xIfE at q
  cases h1 : f x.rho with
  | bad => simp only [h1, Res.bind_bad] at q
  | err c d ρ' =>
    simp only [h1, Res.bind_err] at q
    exact fun y cls dx hρ iy ey hev => q y cls dx hρ iy (ey.weak fun z => by simp only [Bool.and_eq_true] at z; exact z.1) hev
  | ok r1 =>
    obtain ⟨b, ρ1⟩ := r1
    simp only [h1, Res.bind_ok] at q
    intro y hρ iy ey
    rw [← hρ] at q
    cases b with
    | true =>
      simp only [if_true] at q ⊢
      exact tS_after hi iy ey (fun q => by simp only [Bool.and_eq_true] at q; exact ⟨q.1, q.2.1⟩) q
    | false =>
      simp only [Bool.false_eq_true, if_false] at q ⊢
      exact tS_after hi iy ey (fun q => by simp only [Bool.and_eq_true] at q; exact ⟨q.1, q.2.2⟩) q
theorem tS_const {s : Bool} {v : V} {d : D} {σ H} {Q : VK} (hd : atomD v = some d) (h : tS G W s (xC d) σ H Q) : Q v H := by
  obtain ⟨x, rfl, rfl, hi, q⟩ := h
  exact q x v [] rfl ⟨hi, .refl, .fz (.atom hd .nil), rfl, .fz⟩
def xAnd (f g : EE) : EE := xIfD f g (xC (.bl false))
def xOr (f g : EE) : EE := xIfD f (xC (.bl true)) g
def xNot (f : EE) : EE := xIfD f (xC (.bl false)) (xC (.bl true))
theorem r_andV {a b : Expr} {rest : List Expr} {pos : Pos} {s t : Bool} {f g : EE} (ha : PE X a (tS G W s f)) (hb : PE X (.BoolOp .And (b :: rest) pos) (tS G W t g)) : PE X (.BoolOp .And (a :: b :: rest) pos) (tS G W (s && t) (xAnd f g)) := PE.of (pe_and ha hb) fun σ H Q h => by
  have q := tS_ifD (s := s) (t := t) (u := true) (f := f) (g := g) (g' := xC (.bl false)) (by rw [Bool.and_true]; exact h)
  obtain ⟨x, e1, e2, hi, q⟩ := q
  refine ⟨x, e1, e2, hi, ?_⟩
  revert q
  cases f x.rho with
  | bad => exact id
  | err c d ρ' => exact id
  | ok r1 =>
    intro q y v fv hρ P
    obtain ⟨c, e, q⟩ := q y v fv hρ P
    refine ⟨c, e, ?_⟩
    cases c with
    | true => simpa using q
    | false => exact tS_const rfl (by simpa using q)
theorem r_orV {a b : Expr} {rest : List Expr} {pos : Pos} {s t : Bool} {f g : EE} (ha : PE X a (tS G W s f)) (hb : PE X (.BoolOp .Or (b :: rest) pos) (tS G W t g)) : PE X (.BoolOp .Or (a :: b :: rest) pos) (tS G W (s && t) (xOr f g)) := PE.of (pe_or ha hb) fun σ H Q h => by
  have q := tS_ifD (s := s) (t := true) (u := t) (f := f) (g := xC (.bl true)) (g' := g) (by rw [Bool.true_and]; exact h)
  obtain ⟨x, e1, e2, hi, q⟩ := q
  refine ⟨x, e1, e2, hi, ?_⟩
  revert q
  cases f x.rho with
  | bad => exact id
  | err c d ρ' => exact id
  | ok r1 =>
    intro q y v fv hρ P
    obtain ⟨c, e, q⟩ := q y v fv hρ P
    refine ⟨c, e, ?_⟩
    cases c with
    | true => exact tS_const rfl (by simpa using q)
    | false => simpa using q
theorem r_oneV {op} {a : Expr} {pos : Pos} {t : TE} (h : PE X a t) : PE X (.BoolOp op [a] pos) t := pe_one h
theorem r_notV {a : Expr} {pos : Pos} {s : Bool} {f : EE} (ha : PE X a (tS G W s f)) : PE X (.UnaryOp .Not a pos) (tS G W s (xNot f)) := PE.of (pe_not ha) fun σ H Q h => by
  have q := tS_ifD (s := s) (t := true) (u := true) (f := f) (g := xC (.bl false)) (g' := xC (.bl true)) (by rw [Bool.and_true, Bool.and_true]; exact h)
  obtain ⟨x, e1, e2, hi, q⟩ := q
  refine ⟨x, e1, e2, hi, ?_⟩
  revert q
  cases f x.rho with
  | bad => exact id
  | err c d ρ' => exact id
  | ok r1 =>
    intro q y v fv hρ P
    obtain ⟨c, e, q⟩ := q y v fv hρ P
    refine ⟨c, e, ?_⟩
    cases c with
    | true => exact tS_const (v := .bl false) rfl (by simpa using q)
    | false => exact tS_const (v := .bl true) rfl (by simpa using q)
theorem r_ifV {c a b : Expr} {pos : Pos} {s t u : Bool} {f : BE} {g g' : EE} (hc : PT X c (tB G W s f)) (ha : PE X a (tS G W t g)) (hb : PE X b (tS G W u g')) : PE X (.IfExp c a b pos) (tS G W (s && (t && u)) (xIfE f g g')) := PE.of (pe_ifExp hc ha hb) fun _ _ _ h => tS_ifE h
/-! ### chains -/
def chainK (g' : D → D → Option (D × Kd)) (f3 : EE) (b : D) (c : Bool) (ρ2 : Env) : Res (D × Kd × Env) :=
  if c = true then (f3 ρ2).bind fun r => match g' b r.1 with
    | some (d, k) => .ok (d, k, r.2.2)
    | none => .bad
  else .ok (.bl false, .fz, ρ2)
def chainM (g g' : D → D → Option (D × Kd)) (f3 : EE) (a b : D) (ρ2 : Env) : Res (D × Kd × Env) := match g a b with
  | some (.bl c, .fz) => chainK g' f3 b c ρ2
  | _ => .bad
def xChain (g g' : D → D → Option (D × Kd)) (f1 f2 f3 : EE) : EE := fun ρ => do
  let (a, k1, ρ1) ← f1 ρ
  if k1 = .br then .bad else do
    let (b, k2, ρ2) ← f2 ρ1
    if k2 = .br then .bad else chainM g g' f3 a b ρ2
theorem chainM_ok {g g' : D → D → Option (D × Kd)} {f3 : EE} {a b : D} {ρ2 : Env} {P : Res (D × Kd × Env) → Prop} (h : P (chainM g g' f3 a b ρ2)) (hb : ¬ P .bad) : ∃ c, g a b = some (.bl c, .fz) ∧ P (chainK g' f3 b c ρ2) := by
  unfold chainM at h
  split at h
  · rename_i c h3; exact ⟨c, h3, h⟩
  · exact absurd h hb
theorem tS_chain {r r' : R2} {s t u : Bool} {f1 f2 f3 : EE} {g g' : D → D → Option (D × Kd)} (hg : FnD2 G r g) (hg' : FnD2 G r' g') {σ H Q} (h : tS G W (s && (t && u)) (xChain g g' f1 f2 f3) σ H Q) : tChain r r' (tS G W s f1) (tS G W t f2) (tS G W u f3) σ H Q := by
  obtain ⟨x, rfl, rfl, hi, q⟩ := h
  refine ⟨x, rfl, rfl, hi, ?_⟩
  unfold xChain at q
  cases h1 : f1 x.rho with
  | bad => simp only [h1, Res.bind_bad] at q
  | err c d ρ' =>
    simp only [h1, Res.bind_err] at q
    exact fun y cls dx hρ iy ey hev => q y cls dx hρ iy (ey.weak fun z => by simp only [Bool.and_eq_true] at z; exact z.1) hev
  | ok r1 =>
  obtain ⟨a, k1, ρ1⟩ := r1
  simp only [h1, Res.bind_ok] at q
  intro y v fv hρ P
  by_cases hb1 : k1 = .br
  · rw [if_pos hb1] at q; exact q.elim
  rw [if_neg hb1] at q
  refine ⟨y, P.ext.sg, rfl, P.inv, ?_⟩
  rw [hρ]
  cases h2 : f2 ρ1 with
  | bad => simp only [h2, Res.bind_bad] at q
  | err c d' ρ' =>
    simp only [h2, Res.bind_err] at q
    exact fun z cls dx hz iz ez hev => q z cls dx hz iz ((P.ext.trans hi P.inv ez).weak fun z => by simp only [Bool.and_eq_true] at z ⊢; exact ⟨z.1, z.2.1⟩) hev
  | ok r2 =>
  obtain ⟨b, k2, ρ2⟩ := r2
  simp only [h2, Res.bind_ok] at q
  intro y2 w fw hρ2 P2
  subst hρ2
  by_cases hb2 : k2 = .br
  · rw [if_pos hb2] at q; exact q.elim
  rw [if_neg hb2] at q
  obtain ⟨w1, kd1, _⟩ := carry P.inv P.ext.dm P.own P.kd P2.ext P.src (fun e => absurd e hb1)
  have E2 : Ext (s && t) x y2 := P.ext.trans hi P.inv P2.ext
  obtain ⟨c, h3, q⟩ := chainM_ok (P := fun r => match r with
      | .ok (d, k, ρ') => ∀ y v fv, y.rho = ρ' → EPost G (s && (t && u)) x y v d k fv → Q v y.H
      | .err c d ρ' => ∀ y cls dx, y.rho = ρ' → SInv G y → Ext (s && (t && u)) x y → ErrV G y cls dx c d → W cls dx x.sg y.H
      | .bad => False) q id
  refine hg y2.F y2.H v w a b _ _ _ _ _ P2.inv.dom w1 P2.own h3 fun F' H' uv fu n => ?_
  have N := n.post P2.inv
  obtain ⟨w2, kd2, _⟩ := carry P2.inv P2.ext.dm P2.own P2.kd N.ext P2.src (fun e => absurd e hb2)
  refine ⟨c, n.own.bl_of, ?_⟩
  have E3 : Ext (s && t) x { y2 with F := F', H := H' } := (E2.trans hi P2.inv N.ext).weak fun z => by rw [Bool.and_true]; exact z
  unfold chainK at q
  cases c with
  | false =>
    simp only [Bool.false_eq_true, if_false] at q ⊢
    exact q { y2 with F := F', H := H' } (.bl false) [] rfl ⟨N.inv, E3.weak fun z => by simp only [Bool.and_eq_true] at z ⊢; exact ⟨z.1, z.2.1⟩, .fz (.atom rfl .nil), rfl, .fz⟩
  | true =>
    simp only [if_true] at q ⊢
    refine ⟨{ y2 with F := F', H := H' }, E3.sg, rfl, N.inv, ?_⟩
    show match f3 y2.rho with | .ok (d, k, ρ') => _ | .err c d ρ' => _ | .bad => _
    cases h4 : f3 y2.rho with
    | bad => simp only [h4, Res.bind] at q
    | err c d' ρ' =>
      simp only [h4, Res.bind] at q
      exact fun z cls dx hz iz ez hev => q z cls dx hz iz ((E3.trans hi N.inv ez).weak fun z => by simp only [Bool.and_eq_true] at z ⊢; exact ⟨⟨z.1, z.2.1⟩, z.2.2⟩) hev
    | ok r3 =>
    obtain ⟨e, k3, ρ3⟩ := r3
    simp only [h4, Res.bind] at q
    intro y3 w3 fw3 hρ3 P3
    obtain ⟨w4, kd4, _⟩ := carry N.inv (fun a h => P2.ext.dm a (n.dm a h)) w2 (x := y) kd2 P3.ext (.ne hb2) (fun e => absurd e hb2)
    cases h5 : g' b e with
    | none => simp only [h5] at q
    | some dk =>
      obtain ⟨d, k⟩ := dk
      simp only [h5] at q
      refine hg' y3.F y3.H w w3 b e _ _ d k Q P3.inv.dom w4 P3.own h5 fun F2 H2 u2 fu2 n2 => ?_
      have E4 := (E3.trans hi N.inv P3.ext)
      have := EPost.after hi P3.inv E4 n2
      exact q { y3 with F := F2, H := H2 } u2 fu2 hρ3 { this with ext := this.ext.weak fun z => by simp only [Bool.and_eq_true] at z ⊢; exact ⟨⟨z.1, z.2.1⟩, z.2.2⟩ }
theorem r_chain {op op' : CmpOp} {r r' : R2} {a b c : Expr} {pos : Pos} {s t u : Bool} {f1 f2 f3 : EE} {g g' : D → D → Option (D × Kd)} (ho : OpR X (compareOp op) r) (hg : FnD2 G r g) (ho' : OpR X (compareOp op') r') (hg' : FnD2 G r' g') (ha : PE X a (tS G W s f1)) (hb : PE X b (tS G W t f2)) (hc : PE X c (tS G W u f3))
    (hm : lastMarks [op, op'] [b, c] = false := by with_unfolding_all rfl) : PE X (.Compare a [op, op'] [b, c] pos) (tS G W (s && (t && u)) (xChain g g' f1 f2 f3)) := PE.of (pe_chain ho ho' ha hb hc hm) fun _ _ _ h => tS_chain hg hg' h
theorem r_tchain {op op' : CmpOp} {r r' : R2} {a b c : Expr} {pos : Pos} {s t u : Bool} {f1 f2 f3 : EE} {g g' : D → D → Option (D × Kd)} (ho : OpR X (compareOp op) r) (hg : FnD2 G r g) (ho' : OpR X (compareOp op') r') (hg' : FnD2 G r' g') (ha : PE X a (tS G W s f1)) (hb : PE X b (tS G W t f2)) (hc : PE X c (tS G W u f3))
    (hm : lastMarks [op, op'] [b, c] = false := by with_unfolding_all rfl) : PT X (.Compare a [op, op'] [b, c] pos) (tB G W (s && (t && u)) (xTst (xChain g g' f1 f2 f3))) := PT.of (pt_chain ho ho' ha hb hc hm) fun _ _ _ h => tS_chain hg hg' (tB_of h)
/-! ### a statement's target -/
def sAsg (g : GE) (f : EE) : SE := fun ρ => do
  let (d, k, ρ1) ← f ρ
  match k with
  | .fz => do
    let ρ2 ← g d ρ1
    pure (.nx ρ2)
  | _ => .bad
theorem r_asg {tg e : Expr} {pos : Pos} {s : Bool} {is : List Nat} {g : GE} {f : EE} (h : ∀ te tt, PE X e te → PG X tg tt → PS X (.Assign [tg] e pos) (tAsg te tt)) (he : PE X e (tS G W s f)) (hg : PG X tg (tG G is g)) (hne : NoErr g) : PS X (.Assign [tg] e pos) (tT G W z (sAsg g f)) := PS.of (h _ _ he hg) fun Dn σ H h =>
  tT_expr (k := fun d k ρ1 => match k with
  | .fz => do
    let ρ2 ← g d ρ1
    pure (.nx ρ2)
  | _ => .bad) h fun x y v d kd fv hi hz ex P q => by
    cases kd with
    | br => exact q.elim
    | ow => exact q.elim
    | fz =>
      obtain rfl : fv = [] := P.kd
      refine ⟨y, d, by rw [P.ext.sg, ex], rfl, P.inv, P.own.fz_of, ?_⟩
      cases h1 : g d y.rho with
      | bad => simp only [h1, Res.bind_bad] at q; exact q.elim
      | err c d' ρ' =>
        exact absurd h1 (hne _ _ _ _ _)
      | ok ρ2 =>
        simp only [h1, Res.bind_ok] at q
        intro w hw st
        exact q w hw ((SStep.ext hz hi P.inv P.ext).trans (st.step (hz.ext hi P.ext)))
/-! ### attributes stored -/
def putD (f : Str) (v : D) : List (Str × D) → List (Str × D)
  | [] => [(f, v)]
  | (g, x) :: r => if g = f then (g, v) :: r else (g, x) :: putD f v r
theorem putD_rep {F : Addr → Prop} {H : Hp} {f : Str} {v : V} {d : D} (r : Rep G F H [v] [d]) : ∀ {ws : List (Str × V)} {es : List (Str × D)}, ws.map (·.1) = es.map (·.1) → Rep G F H (ws.map (·.2)) (es.map (·.2)) → (putF f v ws).map (·.1) = (putD f d es).map (·.1) ∧ Rep G F H ((putF f v ws).map (·.2)) ((putD f d es).map (·.2))
  | [], [], _, _ => ⟨rfl, r⟩
  | [], _ :: _, e, _ => by simp at e
  | _ :: _, [], e, _ => by simp at e
  | (n, w) :: ws, (m, e) :: es, hn, hr => by
    simp only [List.map_cons, List.cons.injEq] at hn
    obtain ⟨rfl, hn⟩ := hn
    obtain ⟨r1, r2⟩ := Rep.cons_iff.mp (by simpa using hr)
    unfold putF putD
    by_cases hf : n = f
    · rw [if_pos hf, if_pos hf]
      exact ⟨by simp [hn], Rep.cons_iff.mpr ⟨r, r2⟩⟩
    · rw [if_neg hf, if_neg hf]
      obtain ⟨h1, h2⟩ := putD_rep r hn r2
      exact ⟨by simp [h1], Rep.cons_iff.mpr ⟨r1, h2⟩⟩
def fldK (cs : List Nat) (i : Nat) (f : Str) (d : D) (k : Kd) (ρ1 : Env) : Res Flo := match ρ1[i]? with
  | some (some (.ins c es, fl)) => if ownFl fl = true ∧ fzAll [(d, k)] = true ∧ cs.contains c = true ∧ es.length < 1000 then .ok (.nx (ρ1.set i (some (.ins c (putD f d es), fl)))) else .bad
  | _ => .bad
def sFldSet (cs : List Nat) (i : Nat) (f : Str) (g : EE) : SE := fun ρ => do
  let (d, k, ρ1) ← g ρ
  fldK cs i f d k ρ1
theorem r_fldset {o e : Expr} {i : Nat} {f : Str} {pos pos' : Pos} {s : Bool} {g : EE} {cs : List Nat} (hK : X.K = G.K) (hf : FldOk G cs f) (ho : PE X o (tVar i)) (he : PE X e (tS G W s g)) (hs : swapsWith e (some (.Attribute o f pos')) pos.line X.env = pure false := by rfl) :
    PS X (.Assign [.Attribute o f pos'] e pos) (tT G W z (sFldSet cs i f g)) := PS.of (ps_fld ho he hs) fun Dn σ H h =>
  tT_expr (k := fldK cs i f) h fun x y v d kd fv hi hz ex P q => by
    unfold fldK at q
    cases e1 : y.rho[i]? with
    | none => simp only [e1] at q; exact q.elim
    | some sl =>
    cases sl with
    | none => simp only [e1] at q; exact q.elim
    | some df =>
    obtain ⟨d0, fl⟩ := df
    simp only [e1] at q
    cases d0 <;> first | exact q.elim | skip
    rename_i c es
    simp only at q
    by_cases hc : ownFl fl = true ∧ fzAll [(d, kd)] = true ∧ cs.contains c = true ∧ es.length < 1000
    · rw [if_pos hc] at q
      obtain ⟨F', i', e', rp⟩ := (AOk.cons P.own P.kd P.src .nil : AOk G x y [v] [(d, kd)]).frozen hi P.inv P.ext hc.2.1
      have h1 : ({ y with F := F' } : Stt).rho[i]? = some (some (.ins c es, fl)) := e1
      obtain ⟨v0, fp0, ev, _⟩ := i'.sl.get h1
      obtain ⟨a, rfl, w, ob, nF⟩ := own_slot i' h1 (ownFl_iff hc.1) rfl ev
      obtain ⟨C, dx, ws, eo, cC, hn, hr⟩ := ob
      obtain ⟨m1, m2⟩ := hf c (by simpa using hc.2.2.1) C cC
      have hl : ws.length = es.length := by
        have := congrArg List.length hn
        simpa using this
      refine ⟨.ref a, by rw [← ex, ← P.ext.sg]; exact ev, a, C, dx, ws, rfl, eo, by rw [hK]; exact m1, by rw [hK]; exact m2, by rw [hl]; exact hc.2.2.2, ?_⟩
      obtain ⟨n1, n2⟩ := putD_rep (f := f) rp hn hr
      have ob' : Objs G F' (upd y.H a (.ins C dx (putF f v ws))) a (.ins c (putD f d es)) := ⟨C, dx, _, upd_same, cC, n1, n2.keep (fun _ h => h) (kf_upd nF)⟩
      obtain ⟨i2, e2⟩ := mut_post (l := []) (vs := []) hi i' e' h1 (ownFl_iff hc.1) ev w ⟨C, dx, ws, eo, cC, hn, hr⟩ nF rfl ob'
      have := q _ rfl (SStep.ext hz hi i2 e2)
      rw [← ex, ← P.ext.sg]; exact this
    · rw [if_neg hc] at q; exact q.elim
/-! ### the draws' beginning -/
def intsOf : List D → Option (List Int)
  | [] => some []
  | .int n :: r => (intsOf r).map (n :: ·)
  | _ :: _ => none
theorem intsOf_eq : ∀ {l : List D} {ns : List Int}, intsOf l = some ns → l = ns.map D.int
  | [], ns, h => by cases h; rfl
  | d :: r, ns, h => by
    cases d <;> first | cases h | skip
    simp only [intsOf, Option.map_eq_some_iff] at h
    obtain ⟨ms, h1, rfl⟩ := h
    rw [List.map_cons, intsOf_eq h1]
theorem intsOf_map : ∀ ns : List Int, intsOf (ns.map D.int) = some ns
  | [] => rfl
  | n :: ns => by simp [intsOf, intsOf_map ns]
theorem Rep.ints_of {F : Addr → Prop} {H : Hp} : ∀ {ns : List Int} {vs : List V}, Rep G F H vs (ns.map D.int) → vs = ns.map V.int
  | [], vs, h => h.nil_of
  | n :: ns, vs, h => by
    obtain ⟨v, ws, rfl, r1, r2⟩ := h.cons_of
    rw [r1.int_of, Rep.ints_of r2]; rfl
/-- return {'great': .., 'rest': 0, 'cells': .., 'turn': 0} -/
def sRetDrw (i : Nat) (f : EE) : SE := fun ρ => match ρ[i]? with
  | some (some (.lst es, .ow)) => match intsOf es with
    | some gr => (f ρ).bind fun r => match r with
      | (.lst cs, .ow, ρ1) => match intsOf cs with
        | some ce => .ok (.rt (.drw gr 0 ce 0) .ow ρ1)
        | none => .bad
      | _ => .bad
    | none => .bad
  | _ => .bad
theorem r_retDrw {i : Nat} {k1 k2 k3 k4 e1 e2 e3 e4 : Expr} {p1 pos : Pos} {f : EE} (h1 : PE X k1 (tC (.str "great"))) (h2 : PE X k2 (tC (.str "rest"))) (h3 : PE X k3 (tC (.str "cells"))) (h4 : PE X k4 (tC (.str "turn"))) (v1 : PE X e1 (tVar i)) (v2 : PE X e2 (tC (.int 0))) (v3 : PE X e3 (tS G W true f)) (v4 : PE X e4 (tC (.int 0))) :
    PS X (.Return (some (.Dict [some k1, some k2, some k3, some k4] [e1, e2, e3, e4] p1)) pos) (tT G W z (sRetDrw i f)) :=
  PS.of (ps_ret (pe_disp (pps_cons h1 v1 (pps_cons h2 v2 (pps_cons h3 v3 (pps_cons h4 v4 pps_nil)))) rfl rfl (by simp) (by simp))) fun Dn σ H h => by
  obtain ⟨x, rfl, rfl, hx, hz, q⟩ := h
  unfold sRetDrw at q
  cases e1 : x.rho[i]? with
  | none => simp only [e1] at q; exact q.elim
  | some sl =>
  cases sl with
  | none => simp only [e1] at q; exact q.elim
  | some df =>
  obtain ⟨d, fl⟩ := df
  simp only [e1] at q
  cases d <;> first | exact q.elim | skip
  cases fl <;> first | exact q.elim | skip
  rename_i es
  simp only at q
  cases eg : intsOf es with
  | none => simp only [eg] at q; exact q.elim
  | some gr =>
  simp only [eg] at q
  obtain rfl := intsOf_eq eg
  obtain ⟨v0, fp, ev, w0, _, n0, hm⟩ := hx.sl.get e1
  obtain ⟨g, rfl, w, ⟨wg, hg, zg, rg⟩, nFg⟩ := own_slot hx e1 (.inl rfl) rfl ev
  obtain rfl := Rep.ints_of rg
  have hgo : g ∈ x.o := by
    have := w.uniq w0
    subst this
    rcases hm g (by simp) with z | z | z
    · exact z.2
    · cases z.1
    · cases z.1
  intro p hp
  have hpg : p ≠ g := fun e => by rw [e, hg] at hp; cases hp
  have N := NewV.objs (G := G) (F := x.F) (ob := .dK []) (d := .dK []) hx.dom hp ⟨[], upd_same, by simp, rfl, .nil⟩
  have P1 := N.post hx
  refine ⟨.ref g, ev, { x with H := upd x.H p (.dK []) }, rfl, rfl, P1.inv, ?_⟩
  show match f x.rho with | .ok (d, k, ρ') => _ | .err c d ρ' => _ | .bad => _
  cases e2 : f x.rho with
  | bad => simp only [e2, Res.bind] at q; exact q.elim
  | err c d' ρ' =>
    simp only [e2, Res.bind] at q
    exact fun y cls dx hρ iy ey hev => by
      have E := P1.ext.trans hx P1.inv ey
      have := q y cls dx hρ (SStep.ext hz hx iy E) hev
      rw [E.sg] at this; exact this
  | ok r =>
  obtain ⟨dc, kc, ρ1⟩ := r
  simp only [e2, Res.bind] at q
  intro y cv fc hρ P2
  cases dc <;> first | exact q.elim | skip
  cases kc <;> first | exact q.elim | skip
  rename_i cs
  simp only at q
  cases ec : intsOf cs with
  | none => simp only [ec] at q; exact q.elim
  | some ce =>
  simp only [ec] at q
  obtain rfl := intsOf_eq ec
  have E2 : Ext true x y := P1.ext.trans hx P1.inv P2.ext
  obtain ⟨ρy, ky, oy⟩ := P2.ext.st rfl
  have hpy : y.H p = some (.dK []) := ky p _ upd_same (by simp) rfl
  have hgy : y.H g = some (.lst (gr.map V.int)) := ky g _ (by show upd x.H p (.dK []) g = _; rw [upd_ne (Ne.symm hpg)]; exact hg) (by simp) rfl
  have hc : ∃ c, cv = .ref c ∧ fc = [c] ∧ ¬ y.F c ∧ y.H c = some (.lst (ce.map V.int)) ∧ ce.length ≤ sizeLine := by
    have n := P2.kd.1
    cases P2.own with
    | fz _ => exact absurd rfl n
    | ow nf ob =>
      obtain ⟨ws, h1, h2, h3⟩ := ob
      obtain rfl := Rep.ints_of h3
      exact ⟨_, rfl, rfl, nf, h1, by simpa using h2⟩
  obtain ⟨c, rfl, rfl, nFc, hcy, zc⟩ := hc
  have kc := P2.kd.2 c (by simp)
  have hcx : x.H c = none := P1.ext.dm c kc.1
  have hcp : c ≠ p := fun e => by
    have := kc.1; rw [e] at this
    rw [show ({ x with H := upd x.H p (.dK []) } : Stt).H = upd x.H p (.dK []) from rfl, upd_same] at this; cases this
  have hcg : c ≠ g := fun e => by rw [e, hg] at hcx; cases hcx
  have nFp : ¬ y.F p := fun fp => by
    rcases P2.ext.f2 p fp with z | z
    · obtain ⟨o, e, _⟩ := hx.dom p z; rw [hp] at e; cases e
    · rw [show ({ x with H := upd x.H p (.dK []) } : Stt).H = upd x.H p (.dK []) from rfl, upd_same] at z; cases z
  have nFg' : ¬ y.F g := fun f => by
    rcases E2.f2 g f with z | z
    · exact nFg z
    · rw [hg] at z; cases z
  have out : ∀ a, a ∈ y.o ∨ a ∈ y.p ∨ a ∈ y.b → a ≠ p := fun a ha e => by
    subst e
    rw [show y.o = x.o from oy, E2.p1, E2.b1] at ha
    obtain ⟨_, o, e, _⟩ := hx.there ha
    rw [hp] at e; cases e
  have i3 := P2.inv.freeze (fv := [c]) fun a ha => by
    have : a = c := by simpa using ha
    subst this
    exact ⟨⟨_, hcy, rfl⟩, kc.2⟩
  have nF3 : ¬ (y.F p ∨ p ∈ [c]) := fun f => by
    rcases f with f | f
    · exact nFp f
    · have e : p = c := by simpa using f
      exact hcp e.symm
  refine ⟨hpy, [(kw "great", .ref g), (kw "rest", .int 0), (kw "cells", .ref c), (kw "turn", .int 0)], rfl, by simp, ?_⟩
  have em : mergeK [] [(kw "great", V.ref g), (kw "rest", .int 0), (kw "cells", .ref c), (kw "turn", .int 0)] = [(kw "great", .ref g), (kw "rest", .int 0), (kw "cells", .ref c), (kw "turn", .int 0)] := rfl
  rw [em]
  generalize ho : HO.dK [(kw "great", V.ref g), (kw "rest", .int 0), (kw "cells", .ref c), (kw "turn", .int 0)] = o'
  have dmu : ∀ b, upd y.H p o' b = none → y.H b = none := fun b hb => by
    by_cases eb : b = p
    · subst eb; rw [upd_same] at hb; cases hb
    · rwa [upd_ne eb] at hb
  have inv : SInv G { y with F := fun a => y.F a ∨ a ∈ [c], H := upd y.H p o' } := by
    refine ⟨i3.sl.keep (fun _ h => h) (kf_upd nF3) fun a ha => ⟨(i3.there ha).1, fun o e _ => by show upd y.H p o' a = _; rw [upd_ne (out a ha)]; exact e⟩, i3.nd, fun b f => ?_, tabs_upd P2.inv.tb hpy rfl (fun φ z => by cases z)⟩
    obtain ⟨o, h, t⟩ := i3.dom b f
    have nb : b ≠ p := fun z => nF3 (z ▸ f)
    exact ⟨o, by show upd y.H p o' b = some o; rw [upd_ne nb]; exact h, t⟩
  have kx : ∀ m, Kept m x.H y.H → Kept m x.H (upd y.H p o') := fun m k a o e n t => by
    have na : a ≠ p := fun z => by rw [z, hp] at e; cases e
    rw [upd_ne na]; exact k a o e n t
  have E3 : Ext true x { y with F := fun a => y.F a ∨ a ∈ [c], H := upd y.H p o' } := by
    refine ⟨E2.sg, kx _ E2.kp, fun a f => .inl (E2.f1 a f), fun a f => ?_, E2.o1, E2.p1, E2.b1, fun a h => E2.dm a (dmu a h), E2.lk, fun _ => ?_⟩
    · rcases f with f | f
      · exact E2.f2 a f
      · have : a = c := by simpa using f
        subst this; exact .inr hcx
    · obtain ⟨r1, k1, o1⟩ := E2.st rfl
      exact ⟨r1, kx _ k1, o1⟩
  refine q { y with F := fun a => y.F a ∨ a ∈ [c], H := upd y.H p o' } (.ref p) [p, g] hρ (SStep.ext hz hx inv E3) (.drw (c := c) nF3 (fun f => ?_) (.inr (by simp)) (by simpa using zg) zc ⟨?_, ?_, ?_, hpg⟩) ⟨by simp, fun a ha => ?_⟩
  · rcases f with f | f
    · exact nFg' f
    · have e : g = c := by simpa using f
      exact hcg e.symm
  · rw [← ho]; exact upd_same
  · show upd y.H p o' g = _; rw [upd_ne (Ne.symm hpg)]; exact hgy
  · show upd y.H p o' c = _; rw [upd_ne hcp]; exact hcy
  · have : a = p ∨ a = g := by simpa using ha
    rcases this with rfl | rfl
    · exact hz.dm _ hp
    · exact hz.o1 _ hgo
end
end VL
/-! VL20: the law's end. -/
namespace VL
open PySem PySem.Spec PyProof.Rows L2

def Done (t : Shared) : Except Value Flow → Shared → Prop := fun r t' => r = .ok (.ret (.bool true)) ∧ PySem.OldK t.heap t'.heap ∧ t'.os = t.os ∧ AllBare t'.gens
section
variable {P : Program} {wd : World} {K : PySem.W.Frag} {mg mb : Str → Option Value} {k : Nat} {fa sa : Addr} {fd : FuncData} {x : Str} {sp : Sp} {t : Shared} {us : List Value} {ns : List Int}
theorem lawIn (J : Hp) (inK : K.In t.heap) (nm : t.heap.Ns mainGlobals mg) (nb : t.heap.Ns builtinsNs mb) (bb : ∀ y : Str, y ≠ "__name__" → mb y = bootBuiltins y) (lim : t.heap.NoLimit) (ng : t.gens = #[]) (rm : Room k callerA)
    (so : t.heap.get? sa = some { cls := .type "list", data := .seq us.toArray }) (F : ∀ base : Heap, K.In base → base.Ns mainGlobals mg → FnG P wd K mg base k fa fd [x] sp) (bd : ∀ (s : Shared) (u : Value), BindsTo s fd ⟨[u], []⟩ [(x, u)])
    (only : Only J) (hk : HOk P wd J t.heap) (alone : ∀ b, J b ≠ none → b = sa) (nK : J sa ≠ none → K.lookup sa = none)
    (say : sp [.ref sa] J (fun v _ => v = .bl true) fun _ _ _ => False) : codeAny (model P wd) callerA (.call (.ref fa) ⟨[.ref sa], []⟩) (Done t) t := by
  have seen : ∀ {b : Addr} {ob : Obj}, t.heap.get? b = some ob → J b = none → (hidT t.heap J).get? b = some ob := fun e n => hidT_get e n
  have free : ∀ {b : Addr} {ob : Obj}, t.heap.get? b = some ob → b ≠ sa → J b = none := fun {b ob} e n => by
    cases q : J b with
    | none => rfl
    | some u => exact absurd (alone b (by rw [q]; simp)) n
  have dic : ∀ {b : Addr} {ob : Obj} {es : Array DictEntry} {ep : Nat}, t.heap.get? b = some ob → ob.data = .dict es ep → b ≠ sa := fun {b ob es ep} e d z => by
    subst z
    rw [so] at e
    cases e
    have d : Data.seq us.toArray _ = Data.dict es ep := d
    cases d
  have nsT : ∀ {b : Addr} {m : Str → Option Value}, t.heap.Ns b m → (hidT t.heap J).Ns b m := fun ⟨ob, es, ep, e, d, r⟩ => ⟨ob, es, ep, seen e (free e (dic e d)), d, r⟩
  have inB : K.In (hidT t.heap J) := fun b ob e => by
    have e1 := inK b ob e
    refine seen e1 ?_
    cases q : J b with
    | none => rfl
    | some u =>
      have z := alone b (by rw [q]; simp)
      subst z
      have := nK (by rw [q]; simp)
      rw [e] at this; cases this
  have limT : (hidT t.heap J).NoLimit := by
    obtain ⟨mc, h1, h2⟩ := lim
    exact ⟨mc, nsT h1, h2⟩
  have env : Env0 P wd K mg (hidT t.heap J) callerA [] t J := by
    refine ⟨rfl, ⟨inB, nsT nm, ⟨mb, nsT nb, bb⟩, limT⟩, fun b ob e => of_hidT e, Nat.le_of_eq (hidT_size _ _), trivial, fun b hb => ?_, hk, .of_eq ng⟩
    have : b ∈ ([] : List Addr) := hb
    simp at this
  have run := (F _ inB (nsT nm)).go callerA [] t J ⟨[.ref sa], []⟩ [.ref sa] [.ref sa] _ _ ⟨rm, rfl⟩ env (bd t (.ref sa)) (.cons rfl .nil) say
  refine codeAny_mono run fun r t' h => ?_
  match r, h with
  | .error e, h => obtain ⟨_, _, _, _, _, _, _, _, _, _, _, _, q⟩ := h; exact False.elim q
  | .ok .next, h => exact False.elim h
  | .ok .brk, h => exact False.elim h
  | .ok .cont, h => exact False.elim h
  | .ok (.ret u), h =>
    obtain ⟨v, J', os, bare, un, hk', rv, ev⟩ := h
    have ev : v = .bl true := ev
    subst ev
    have ru : u = Value.bool true := rv
    subst ru
    refine ⟨rfl, PySem.OldK.of_keep fun b ob e => ?_, os, bare⟩
    cases q : J b with
    | none =>
      refine un.keep b ob e q (fun z => ?_) (by simp)
      have : b ∈ ([] : List Addr) := z
      simp at this
    | some u =>
      rcases only b with z | ⟨o1, xs, z⟩
      · rw [z] at q; cases q
      · have e1 := (hk b _ z).1
        have e2 := (hk' b _ (un.frzs b o1 _ z)).1
        rw [e] at e1
        cases e1
        exact e2
theorem lawSays {G : Gm} {k' : Kd} {m : FA} {J : Hp} (hK : G.K = K) (hT : G.T = []) (lo : ns.length ≤ sizeLine) (h : m [some (.scr ns, .fz)] = .ok (.bl true, k')) (only : Only J) (sq : SqL K J sa (ns.map V.int)) :
    spA G 1 m [.ref sa] J (fun v _ => v = .bl true) fun _ _ _ => False := by
  subst hK
  have tb : LamX.Tabs G.T J := by rw [hT]; exact fun p hp => by simp at hp
  have fin : ∀ x : Stt, x.rho = [some (.scr ns, .fz)] → match m x.rho with
      | .ok (d, k) => ∀ (y : Stt) v fv, y.rho = x.rho → EPost G true x y v d k fv → k ≠ .br → v = .bl true
      | .err c d _ => ∀ (y : Stt) cls dx, y.rho = x.rho → SInv G y → Ext true x y → ErrV G y cls dx c d → False
      | .bad => False := by
    intro x hx
    rw [hx, h]
    exact fun y v fv _ P _ => P.own.bl_of
  have key : ∀ Fz : Addr → Prop, DomF Fz J → Rep G Fz J [.ref sa] [.scr ns] → spA G 1 m [.ref sa] J (fun v _ => v = .bl true) fun _ _ _ => False := fun Fz dm r => by
    refine ⟨⟨Fz, [some (.scr ns, .fz)], [some (.ref sa)], J, [], [], []⟩, ⟨rfl, rfl, ⟨.fz r .nil, by simp, dm, tb⟩, rfl, rfl⟩, rfl, fin _ rfl⟩
  rcases sq with q | q
  · rcases only sa with z | ⟨o, xs, z⟩
    · rcases q with q | ⟨o, q⟩ <;> (rw [z] at q; cases q)
    · have e : J sa = some (.frz o (.lst (ns.map V.int))) := by
        rcases q with q | ⟨o', q⟩
        · rw [z] at q; cases q
        · rw [z] at q; cases q; exact z
      refine key (fun a => a = sa) (fun a f => ?_) (.scr rfl e lo .nil)
      subst f
      exact ⟨_, e, rfl⟩
  · exact key (fun _ => False) (fun _ f => f.elim) (.scrK q lo .nil)
theorem lawRun {G : Gm} {m : FA} {k' : Kd} (hK : G.K = K) (hT : G.T = []) (inK : K.In t.heap) (nm : t.heap.Ns mainGlobals mg) (nb : t.heap.Ns builtinsNs mb) (bb : ∀ y : Str, y ≠ "__name__" → mb y = bootBuiltins y) (lim : t.heap.NoLimit) (ng : t.gens = #[]) (rm : Room k callerA)
    (so : t.heap.get? sa = some { cls := .type "list", data := .seq us.toArray }) (li : IntsAre us ns) (lo : ns.length ≤ sizeLine) (F : ∀ base : Heap, K.In base → base.Ns mainGlobals mg → FnG P wd K mg base k fa fd [x] (spA G 1 m)) (bd : ∀ (s : Shared) (u : Value), BindsTo s fd ⟨[u], []⟩ [(x, u)])
    (h : m [some (.scr ns, .fz)] = .ok (.bl true, k')) : codeAny (model P wd) callerA (.call (.ref fa) ⟨[.ref sa], []⟩) (Done t) t := by
  have rv := vals_ints li
  have ln := li.length
  cases hk : K.lookup sa with
  | some o =>
    have e := inK sa o hk
    rw [so] at e
    cases e
    have sq : SqL K (fun _ => none) sa (ns.map V.int) := .inr ⟨_, us.toArray, _, hk, rfl, rfl, rfl, by rw [List.size_toArray, ln]; exact lo, by simpa using rv⟩
    exact lawIn (fun _ => none) inK nm nb bb lim ng rm so F bd (fun _ => .inl rfl) (fun b u z => by have z : (none : Option HO) = some u := z; cases z) (fun b z => absurd rfl z) (fun z => absurd rfl z) (lawSays hK hT lo h (fun _ => .inl rfl) sq)
  | none =>
    let J : Hp := fun b => if b = sa then some (.frz { cls := .type "list", data := .seq us.toArray } (.lst (ns.map V.int))) else none
    have at1 : J sa = some (.frz { cls := .type "list", data := .seq us.toArray } (.lst (ns.map V.int))) := if_pos rfl
    have at2 : ∀ b, b ≠ sa → J b = none := fun b n => if_neg n
    have only : Only J := fun b => by
      by_cases e : b = sa
      · subst e; exact .inr ⟨_, _, at1⟩
      · exact .inl (at2 b e)
    refine lawIn J inK nm nb bb lim ng rm so F bd only (fun b u z => ?_) (fun b z => ?_) (fun _ => hk) (lawSays hK hT lo h only (.inl (.inr ⟨_, at1⟩)))
    · by_cases e : b = sa
      · subst e
        rw [at1] at z
        cases z
        exact ⟨so, by rw [List.length_map]; exact lo, us, _, rv, so⟩
      · rw [at2 b e] at z; cases z
    · by_cases e : b = sa
      · exact e
      · exact absurd (at2 b e) z
end
theorem lawWalk {l : PySem.W.OpenLaw} {n k : Nat} {q : Program} {loose : List Str} {XP : (Str → Option Value) → Heap → Prop} {YP : World → Heap → Prop} {df : DefRec} {KK : Params → PySem.W.Frag} {GG : World → (Str → Option Value) → Gm} {m : FA} {x : Str}
    (most : l.most = some n) (small : n ≤ sizeLine) (nd : df.params.defaults = []) (rm : Room k callerA) (inn : ∀ (wd : World) (h : Heap), YP wd h → (KK wd.params).In h)
    (hG : ∀ wd mg, (GG wd mg).K = KK wd.params ∧ (GG wd mg).T = [])
    (F : ∀ (wd : World) (mg : Str → Option Value) (fa : Addr) (h : Heap), (KK wd.params).In h → h.Ns mainGlobals mg → mg df.name = some (.ref fa) →
      ∃ fd : FuncData, (∀ (s : Shared) (u : Value), BindsTo s fd ⟨[u], []⟩ [(x, u)]) ∧ ∀ base : Heap, (KK wd.params).In base → base.Ns mainGlobals mg → FnG l.prog wd (KK wd.params) mg base k fa fd [x] (spA (GG wd mg) 1 m))
    (plain : ∀ ns : List Int, ns.length ≤ n → ∃ k', m [some (.scr ns, .fz)] = .ok (.bl true, k')) :
    PySem.W.WalkO q loose XP YP l.row.toRowW df [] (fun f vs => PySem.call f vs) :=
  Att.attach_call most nd fun wd s0 t mg mb fa o pm cd doc a us ns Gr Y ho hd hcd hmg so li lo ng => by
    obtain ⟨fd, bd, F'⟩ := F wd mg fa _ (inn wd _ Y) Gr.T.g hmg
    obtain ⟨k', pl⟩ := plain ns lo
    exact lawRun (hG wd mg).1 (hG wd mg).2 (inn wd _ Y) Gr.T.g Gr.T.b Gr.T.builtins Gr.T.nolimit ng rm so li (Nat.le_trans lo small) F' bd pl
end VL
/-! VL21: short words for walks. -/
namespace VL
open PySem PySem.Spec PyProof.Rows L2

def xBad : EE := fun _ => .bad
theorem tk0 {X : Cx} : Takes X W0 := fun u s' ⟨_, _, _, _, _, _, _, _, _, _, _, _, _, _, _, _, w⟩ => False.elim w
def kitsB (a : String) : List String → Option Bool
  | [] => some false
  | b :: r => match kitB a b with
    | some true => some true
    | some false => kitsB a r
    | none => none
theorem kits_any {K : PySem.W.Frag} {a : String} : ∀ {bs : List String} {r : Bool}, kitsB a bs = some r → PySem.W.kitAny K (.type a) (bs.map Value.type) = some r
  | [], _, h => h
  | b :: bs, r, h => by
    simp only [kitsB] at h
    cases e : kitB a b with
    | none => rw [e] at h; cases h
    | some c =>
      rw [e] at h
      cases c with
      | true => exact kitAny_cons (b := true) (kit_ty e) (fun z => by cases z) (fun _ => by simpa using h.symm)
      | false => exact kitAny_cons (b := false) (kit_ty e) (fun _ => kits_any h) (fun z => by cases z)
/-- isinstance for built-in classes alone -/
def tyTab (bs : List String) (ts : List String) : List (Tag × Bool) := ts.filterMap fun t => (kitsB t bs).map fun r => (.ty t, r)
theorem tyTab_ok {G : Gm} {bs ts : List String} {us : List Value} (h : us = bs.map Value.type) : IsiOk G (tyTab bs ts) us := by
  subst h
  intro p hp
  simp only [tyTab, List.mem_filterMap, Option.map_eq_some_iff] at hp
  obtain ⟨t, _, r, e, rfl⟩ := hp
  refine ⟨True.intro, fun v hv => ?_⟩
  obtain rfl : v = .type t := hv
  exact kits_any e
section
variable {X : Cx} {G : Gm} {W : WX} {z : Stt} {kk : Nat}
theorem r_globC {x : Str} {pos : Pos} {v : V} {d : D} (hg : Gl X x) (h : ∃ u, X.mg x = some u ∧ RelV v u) (hd : atomD v = some d) (hdb : (x == ("__debug__" : Str)) = false := by decide) : PE X (.Name x pos) (tS G W true (xC d)) := by
  obtain ⟨u, h1, h2⟩ := h
  exact r_const (pe_glob hg h1 h2 hdb) hd
theorem g_at {i : Nat} {x : Str} {pos : Pos} (hN : X.N.Nodup) (hi : X.N[i]? = some x := by rfl) (hx : Loc X.env.scope x := by first | exact Or.inl rfl | exact Or.inr rfl) (hf : X.fn x = true ∨ X.env.scope.names.lookup x = some .local := by first | exact Or.inl rfl | exact Or.inr rfl) : PG X (.Name x pos) (tG G [i] (gNm i)) := g_name (pg_name hN hi hx hf)
theorem set_at {fl : Fl} {i : Nat} {x : Str} {e : Expr} {s : Bool} {f : EE} {pos pos' : Pos} (hN : X.N.Nodup) (he : PE X e (tS G W s f)) (hi : X.N[i]? = some x := by rfl) (hx : Loc X.env.scope x := by first | exact Or.inl rfl | exact Or.inr rfl) (hs : swapsWith e (some (.Name x pos')) pos.line X.env = pure false := by rfl) (hf : X.fn x = true ∨ X.env.scope.names.lookup x = some .local := by first | exact Or.inl rfl | exact Or.inr rfl) :
    PS X (.Assign [.Name x pos'] e pos) (tT G W z (sSet fl i f)) := r_set (ps_set hN hi hx he hs hf)
theorem asg_at {tg e : Expr} {pos : Pos} {s : Bool} {is : List Nat} {g : GE} {f : EE} (he : PE X e (tS G W s f)) (hg : PG X tg (tG G is g)) (hne : NoErr g) (hs : swapsWithSole [tg] e pos.line X.env = pure false := by rfl) (hw : swappedStores [tg] e X.env = pure none := by rfl)
    (h1 : (assignEach [tg] X.env).map (·.2) = [assign tg X.env] := by rfl) : PS X (.Assign [tg] e pos) (tT G W z (sAsg g f)) := r_asg (fun _ _ a b => ps_asg a b hs hw h1) he hg hne
/-- a, b = x, y -/
def parK (i j : Nat) (ρ1 : Env) : List (D × Kd) → Res Flo
  | [(d1, k1), (d2, k2)] => if fzAll [(d1, k1), (d2, k2)] = true then
      (gNm i d1 ρ1).bind fun ρ2 => (gNm j d2 ρ2).bind fun ρ3 => .ok (.nx ρ3)
    else .bad
  | _ => .bad
def sPar (i j : Nat) (f : AE) : SE := fun ρ => do
  let (l, ρ1) ← f ρ
  parK i j ρ1 l
theorem r_par {i j : Nat} {x y : Str} {a b : Expr} {s : Bool} {f : AE} {px py pt pos : Pos} {kt k2 pt2} (hc : X.calm = true) (hN : X.N.Nodup) (hi : X.N[i]? = some x) (hj : X.N[j]? = some y) (hij : i ≠ j)
    (lx : X.env.scope.names.lookup x = some .local) (ly : X.env.scope.names.lookup y = some .local) (ha : PA X [a, b] (tA G W s f))
    (hw : swappedStores [.Tuple [.Name x px, .Name y py] kt pt] (.Tuple [a, b] k2 pt2) X.env = pure (some [x, y]) := by rfl)
    (hs : swapsWithSole [.Tuple [.Name x px, .Name y py] kt pt] (.Tuple [a, b] k2 pt2) pos.line X.env = pure false := by rfl) :
    PS X (.Assign [.Tuple [.Name x px, .Name y py] kt pt] (.Tuple [a, b] k2 pt2) pos) (tT G W z (sPar i j f)) := PS.of (ps_par hc hN hi hj hij lx ly ha hw hs) fun Dn σ H h => by
  obtain ⟨x, rfl, rfl, hx, hz, q⟩ := h
  refine ⟨x, rfl, rfl, hx, ?_⟩
  unfold sPar at q
  cases e : f x.rho with
  | bad => simp only [e, Res.bind_bad] at q; exact q.elim
  | err c d ρ' =>
    simp only [e, Res.bind_err] at q
    intro y cls dx hρ iy ey hev
    have := q y cls dx hρ (SStep.ext hz hx iy ey) hev
    rw [ey.sg] at this; exact this
  | ok r =>
    obtain ⟨l, ρ1⟩ := r
    simp only [e, Res.bind_ok] at q
    intro y vs hρ iy ey ay
    match l, ay, q with
    | [(d1, k1), (d2, k2)], ay, q =>
      simp only [parK] at q
      by_cases hf : fzAll [(d1, k1), (d2, k2)] = true
      · rw [if_pos hf] at q
        obtain ⟨F', i', e', rp⟩ := ay.frozen hx iy ey hf
        obtain ⟨v, ws, rfl, r1, r2⟩ := rp.cons_of
        obtain ⟨w, ws, rfl, r2, r3⟩ := r2.cons_of
        rw [r3.nil_of]
        refine ⟨v, w, rfl, ?_⟩
        rw [← hρ] at q
        cases h1 : gNm i d1 y.rho with
        | bad => simp only [h1, Res.bind] at q; exact q.elim
        | err c d' ρ' => exact absurd h1 (ne_name _ _ _ _ _)
        | ok ρ2 =>
          simp only [h1, Res.bind] at q
          obtain ⟨y1, y2, y3, y4, y5⟩ := set_tstep (x := { y with F := F' }) i' r1 h1
          cases h2 : gNm j d2 ρ2 with
          | bad => simp only [h2] at q; exact q.elim
          | err c d' ρ' => exact absurd h2 (ne_name _ _ _ _ _)
          | ok ρ3 =>
            simp only [h2] at q
            obtain ⟨u1, u2, u3, u4, u5⟩ := set_tstep (v := w) y5.inv (by rw [y5.F, y5.H]; exact r2) (show setSlot .fz j d2 .fz y1.rho = .ok ρ3 by rw [y2]; exact h2)
            have st := (SStep.ext hz hx i' e').trans ((y5.step (hz.ext hx e')).trans (u5.step ((y5.step (hz.ext hx e')).ent)))
            have := q u1 u2 st
            rw [u3, y3, u4, y4] at this
            rw [← ey.sg]; exact this
      · rw [if_neg hf] at q; exact q.elim
    | [], _, q => exact q.elim
    | [_], _, q => exact q.elim
    | _ :: _ :: _ :: _, _, q => exact q.elim
/-- all(list of truths) -/
def blsOf : List D → Option (List Bool)
  | [] => some []
  | .bl b :: r => (blsOf r).map (b :: ·)
  | _ :: _ => none
theorem blsOf_eq : ∀ {l : List D} {bs : List Bool}, blsOf l = some bs → l = bs.map D.bl
  | [], ns, h => by cases h; rfl
  | d :: r, ns, h => by
    cases d <;> first | cases h | skip
    simp only [blsOf, Option.map_eq_some_iff] at h
    obtain ⟨ms, h1, rfl⟩ := h
    rw [List.map_cons, blsOf_eq h1]
theorem Rep.bls_of {F : Addr → Prop} {H : Hp} : ∀ {ns : List Bool} {vs : List V}, Rep G F H vs (ns.map D.bl) → vs = ns.map V.bl
  | [], vs, h => h.nil_of
  | n :: ns, vs, h => by
    obtain ⟨v, ws, rfl, r1, r2⟩ := h.cons_of
    rw [r1.bl_of, Rep.bls_of r2]; rfl
def dAll : D → Option (D × Kd)
  | .lst es => (blsOf es).map fun bs => (.bl (bs.all id), .fz)
  | _ => none
theorem o_all (hc : X.calm = true) : CallR X (.builtin "all") (rAll X.K) ∧ FnD G (rAll X.K) (f1 dAll) := ⟨cr_all hc, by
  intro F H vs ds d k Q hd hr hg q
  obtain ⟨a, ea, hg'⟩ := f1_of hg
  subst ea
  obtain ⟨v, fp, rfl, w⟩ := hr.one
  cases a <;> first | cases hg' | skip
  simp only [dAll, Option.map_eq_some_iff, Prod.mk.injEq] at hg'
  obtain ⟨bs, e, rfl, rfl⟩ := hg'
  obtain rfl := blsOf_eq e
  obtain ⟨a, ws, rfl, e1, z1, r1⟩ := w.lstM
  obtain rfl := Rep.bls_of r1
  exact ⟨a, bs, rfl, .inl (.inl e1), q F H _ [] (.atom hd rfl)⟩⟩
/-- great != [] as a test -/
theorem r_tdrwNe {i : Nat} {o k : Expr} {p1 p2 p3 : Pos} (hr : RoomG kk X.A) (hK : X.K = G.K) (ho : PE X o (tVar i)) (hk : PE X k (tC (.str "great"))) (hs : NoSl k) : PT X (.Compare (.Subscript o k p1) [.NotEq] [.List [] p2] p3) (tB G W true (xTst (xDrwNe i))) :=
  PT.of (pt_cmpR (o_ne (G := G) hr hK).1 (pe_dget (Nat.lt_of_le_of_lt (Nat.add_le_add_left (by decide) _) hr.room.units) ho hk hs) (r_lst (G := G) (W := W) r_anil) rfl) fun σ H Q h => drwNe_imp hr hK (tB_of h)
end
section
variable {X : Cx} {G : Gm} {W : WX} {z : Stt}
theorem r_neverE {e : Expr} : PE X e (tS G W true xBad) := ⟨fun _ _ _ _ _ _ ⟨_, _, _, _, q⟩ => False.elim q⟩
theorem b_bin {op : Operator} {a b : Expr} {pos : Pos} {r : R2} {g : D → D → Option (D × Kd)} {s t : Bool} {f1 f2 : EE} (h : OpR X (binaryOp op) r ∧ FnD2 G r g) (ha : PE X a (tS G W s f1)) (hb : PE X b (tS G W t f2)) : PE X (.BinOp a op b pos) (tS G W (s && t) (xAp2 t g f1 f2)) := r_bin h.1 h.2 ha hb
theorem b_un {op : UnaryOp} {a : Expr} {pos : Pos} {r : V → Hp → VK → Prop} {g : D → Option (D × Kd)} {s : Bool} {f : EE} (h : UnR X (unaryOp op) r ∧ FnD1 G r g) (ha : PE X a (tS G W s f)) : PE X (.UnaryOp op a pos) (tS G W s (xAp1 g f)) := r_un h.1 h.2 ha
theorem b_cmp {op : CmpOp} {a b : Expr} {pos : Pos} {r : R2} {g : D → D → Option (D × Kd)} {s t : Bool} {f1 f2 : EE} (h : OpR X (compareOp op) r ∧ FnD2 G r g) (ha : PE X a (tS G W s f1)) (hb : PE X b (tS G W t f2)) (hm : behindInMarks op b = false := by rfl) : PE X (.Compare a [op] [b] pos) (tS G W (s && t) (xAp2 t g f1 f2)) := r_cmp h.1 h.2 ha hb hm
theorem b_tcmp {op : CmpOp} {a b : Expr} {pos : Pos} {r : R2} {g : D → D → Option (D × Kd)} {s t : Bool} {f1 f2 : EE} (h : OpR X (compareOp op) r ∧ FnD2 G r g) (ha : PE X a (tS G W s f1)) (hb : PE X b (tS G W t f2)) (hm : behindInMarks op b = false := by rfl) : PT X (.Compare a [op] [b] pos) (tB G W (s && t) (xTst (xAp2 t g f1 f2))) := r_tcmp h.1 h.2 ha hb hm
theorem b_chain {op op' : CmpOp} {r r' : R2} {a b c : Expr} {pos : Pos} {s t u : Bool} {f1 f2 f3 : EE} {g g' : D → D → Option (D × Kd)} (h : OpR X (compareOp op) r ∧ FnD2 G r g) (h' : OpR X (compareOp op') r' ∧ FnD2 G r' g') (ha : PE X a (tS G W s f1)) (hb : PE X b (tS G W t f2)) (hc : PE X c (tS G W u f3))
    (hm : lastMarks [op, op'] [b, c] = false := by with_unfolding_all rfl) : PE X (.Compare a [op, op'] [b, c] pos) (tS G W (s && (t && u)) (xChain g g' f1 f2 f3)) := r_chain h.1 h.2 h'.1 h'.2 ha hb hc hm
theorem b_tchain {op op' : CmpOp} {r r' : R2} {a b c : Expr} {pos : Pos} {s t u : Bool} {f1 f2 f3 : EE} {g g' : D → D → Option (D × Kd)} (h : OpR X (compareOp op) r ∧ FnD2 G r g) (h' : OpR X (compareOp op') r' ∧ FnD2 G r' g') (ha : PE X a (tS G W s f1)) (hb : PE X b (tS G W t f2)) (hc : PE X c (tS G W u f3))
    (hm : lastMarks [op, op'] [b, c] = false := by with_unfolding_all rfl) : PT X (.Compare a [op, op'] [b, c] pos) (tB G W (s && (t && u)) (xTst (xChain g g' f1 f2 f3))) := r_tchain h.1 h.2 h'.1 h'.2 ha hb hc hm
theorem b_ix {a b : Expr} {pos : Pos} {r : R2} {g : D → D → Option (D × Kd)} {s t : Bool} {f1 f2 : EE} (h : IxR X r ∧ FnD2 G r g) (ha : PE X a (tS G W s f1)) (hb : PE X b (tS G W t f2)) (hs : PlainIx b := by exact fun _ _ => rfl) : PE X (.Subscript a b pos) (tS G W (s && t) (xAp2 t g f1 f2)) := r_ix h.1 h.2 ha hb hs
theorem b_cb {id : String} {x : Str} {p pos : Pos} {e : Expr} {es : List Expr} {r : List V → Hp → VK → Prop} {g : List D → Option (D × Kd)} {s : Bool} {f : AE} (h : CallR X (.builtin id) r ∧ FnD G r g) (hm : X.mg x = none) (ha : PA X (e :: es) (tA G W s f)) (hg : Gl X x := by rfl) (hv : bootBuiltins x = some (.builtin id) := by decide +kernel)
    (hn : x ≠ "__name__" := by decide) (hdb : (x == ("__debug__" : Str)) = false := by decide) (he : starEach (e :: es) X.env = (false, eval e X.env) :: starEach es X.env := by rfl) (hpl : (backTo pos (starEach es X.env)).any (·.1) = false := by rfl) :
    PE X (.Call (.Name x p) (e :: es) [] pos) (tS G W s (xApp g f)) := r_callB h.1 h.2 hg hm hv ha hn hdb he hpl
theorem b_ct {T : String} {x : Str} {p pos : Pos} {e : Expr} {es : List Expr} {r : List V → Hp → VK → Prop} {g : List D → Option (D × Kd)} {s : Bool} {f : AE} (h : CallR X (.type T) r ∧ FnD G r g) (hm : X.mg x = none) (ha : PA X (e :: es) (tA G W s f)) (hg : Gl X x := by rfl) (hv : bootBuiltins x = some (.type T) := by decide +kernel)
    (hn : x ≠ "__name__" := by decide) (hdb : (x == ("__debug__" : Str)) = false := by decide) (he : starEach (e :: es) X.env = (false, eval e X.env) :: starEach es X.env := by rfl) (hpl : (backTo pos (starEach es X.env)).any (·.1) = false := by rfl) :
    PE X (.Call (.Name x p) (e :: es) [] pos) (tS G W s (xApp g f)) := r_callTy h.1 h.2 hg hm hv ha hn hdb he hpl
end
section
variable {P : Program} {w : World} {K : PySem.W.Frag} {mg : Str → Option Value} {base : Heap} {N : List Str} {qual : Str} {sc : Scope} {f : Addr} {cd : Value} {A : Around} {outer : List PySem.Env} {s : Shared} {H : Hp} {E : XK}
theorem tkD : Takes (cxOf (L2.CX P w) P w K mg base N qual sc f cd A outer s H E) (fun cls d _ H => E cls d H) := takes_of rfl rfl rfl rfl
theorem paD : PassesOwn (model (cxOf (L2.CX P w) P w K mg base N qual sc f cd A outer s H E).prog (cxOf (L2.CX P w) P w K mg base N qual sc f cd A outer s H E).w) (cxOf (L2.CX P w) P w K mg base N qual sc f cd A outer s H E).A (cxOf (L2.CX P w) P w K mg base N qual sc f cd A outer s H E).env (cxOf (L2.CX P w) P w K mg base N qual sc f cd A outer s H E).xe := passes_of rfl
end
/-- a class whose instances are plain -/
structure ClsOk (K : PySem.W.Frag) (C : Addr) : Prop where
  i : ClsI K C
theorem clsI_mk {K : PySem.W.Frag} {C : Addr} (pg : PySem.W.plainGet K C Str.empty = true) (hd : PySem.W.hasDictIn K C = true) (po : PySem.W.plainOver K C = true) (sa : PySem.W.findIn K (.ref C) "__setattr__" = some (some (.builtin "object.__setattr__")))
    (ha : PySem.W.findIn K (.ref C) "__class__" = some (some (.builtin "object.__class__"))) (hn : PySem.W.specialIn K (.builtin "object.__class__") "__get__" = some (some (.builtin "getset_descriptor.__get__"))) (ht : PySem.W.takesIn K (.builtin "object.__class__") = some true) (hm : PySem.W.mroIn K C (.type "object") = some true) : ClsI K C := ⟨⟨pg, hd, po, sa⟩, ha, hn, ht, hm⟩
theorem kit_self {K : PySem.W.Frag} {C : Addr} {us : List Value} : PySem.W.kitAny K (.ref C) (.ref C :: us) = some true := by
  have e : (Value.ref C == Value.ref C) = true := by simp
  simp only [PySem.W.kitAny, PySem.W.kitOne, e, if_true]
theorem isi_nil {G : Gm} {us : List Value} : IsiOk G [] us := fun p hp => by simp at hp
theorem isi_cons {G : Gm} {c : Nat} {C : Addr} {b : Bool} {tab : List (Tag × Bool)} {us : List Value} (hc : G.cm c = some C) (hi : ClsI G.K C) (hk : PySem.W.kitAny G.K (.ref C) us = some b) (h : IsiOk G tab us) : IsiOk G ((.cls c, b) :: tab) us := fun p hp => by
  rcases List.mem_cons.mp hp with e | hp
  · subst e
    refine ⟨fun C' hC => ?_, fun t ht => ?_⟩
    · rw [hc] at hC; cases hC; exact hi
    · obtain ⟨C', hC, e, _⟩ := ht
      rw [hc] at hC; cases hC; subst e; exact hk
  · exact h p hp
theorem isi_consE {G : Gm} {c : Nat} {C : Addr} {b : Bool} {tab : List (Tag × Bool)} {us : List Value} (hc : G.cm c = some C) (hi : ExcI G.K C) (hk : PySem.W.kitAny G.K (.ref C) us = some b) (h : IsiOk G tab us) : IsiOk G ((.exn c, b) :: tab) us := fun p hp => by
  rcases List.mem_cons.mp hp with e | hp
  · subst e
    refine ⟨fun C' hC => ?_, fun t ht => ?_⟩
    · rw [hc] at hC; cases hC; exact hi
    · obtain ⟨C', hC, e, _⟩ := ht
      rw [hc] at hC; cases hC; subst e; exact hk
  · exact h p hp
theorem isi_consT {G : Gm} {n : String} {b : Bool} {tab : List (Tag × Bool)} {us : List Value} (hk : PySem.W.kitAny G.K (.type n) us = some b) (h : IsiOk G tab us) : IsiOk G ((.ty n, b) :: tab) us := fun p hp => by
  rcases List.mem_cons.mp hp with e | hp
  · subst e
    refine ⟨True.intro, fun t ht => ?_⟩
    obtain rfl : t = .type n := ht
    exact hk
  · exact h p hp
theorem fld_nil {G : Gm} {f : Str} : FldOk G [] f := fun c hc => by simp at hc
theorem fld_cons {G : Gm} {c : Nat} {C : Addr} {cs : List Nat} {f : Str} (hc : G.cm c = some C) (cl : Cls G.K C) (na : NoAttr G.K C f) (h : FldOk G cs f) : FldOk G (c :: cs) f := fun c' hp C' hC => by
  rcases List.mem_cons.mp hp with e | hp
  · subst e
    rw [hc] at hC; cases hC; exact ⟨cl, na⟩
  · exact h c' hp C' hC
def adrOf : Option Value → Option Addr
  | some (.ref a) => some a
  | _ => none
end VL
/-! VLE: the mirrors unfolded. -/
namespace VL
open PySem PySem.Spec PyProof.Rows L2

@[simp] theorem ev_xC (d : D) (ρ : Env) : xC d ρ = (.ok (d, .fz, ρ)) := Eq.trans rfl rfl
@[simp] theorem ev_xV (i : Nat) (ρ : Env) : xV i ρ = (match ρ[i]? with
  | some (some (d, .fz)) => .ok (d, .fz, ρ)
  | some (some (d, _)) => .ok (d, .br, ρ)
  | _ => .bad) := Eq.trans rfl rfl
@[simp] theorem ev_aN (ρ : Env) : aN  ρ = (.ok ([], ρ)) := Eq.trans rfl rfl
@[simp] theorem ev_aC (s : Bool) (f : EE) (g : AE) (ρ : Env) : aC s f g ρ = (do
  let (d, k, ρ1) ← f ρ
  if k = .br ∧ s = false then .bad else do
    let (l, ρ2) ← g ρ1
    pure ((d, k) :: l, ρ2)) := Eq.trans rfl rfl
@[simp] theorem ev_xTup (f : AE) (ρ : Env) : xTup f ρ = (do
  let (l, ρ1) ← f ρ
  if fzAll l = true ∧ l.length ≤ sizeLine then pure (.tup (l.map (·.1)), .fz, ρ1) else .bad) := Eq.trans rfl rfl
@[simp] theorem ev_xLst (f : AE) (ρ : Env) : xLst f ρ = (do
  let (l, ρ1) ← f ρ
  if fzAll l = true ∧ l.length ≤ sizeLine then pure (.lst (l.map (·.1)), .ow, ρ1) else .bad) := Eq.trans rfl rfl
@[simp] theorem ev_xTst (f : EE) (ρ : Env) : xTst f ρ = (do
  let (d, _, ρ1) ← f ρ
  match d with
  | .bl b => pure (b, ρ1)
  | _ => .bad) := Eq.trans rfl rfl
@[simp] theorem ev_bNot (f : BE) (ρ : Env) : bNot f ρ = (do
  let (b, ρ1) ← f ρ
  pure (!b, ρ1)) := Eq.trans rfl rfl
@[simp] theorem ev_bK (b : Bool) (ρ : Env) : bK b ρ = (pure (b, ρ)) := Eq.trans rfl rfl
@[simp] theorem ev_bIf (f g g' : BE) (ρ : Env) : bIf f g g' ρ = (do
  let (b, ρ1) ← f ρ
  if b = true then g ρ1 else g' ρ1) := Eq.trans rfl rfl
@[simp] theorem ev_xCall (m : FA) (f : AE) (ρ : Env) : xCall m f ρ = (do
  let (l, ρ1) ← f ρ
  if argsOk l = true then
    match m (l.map argS) with
    | .ok (d, k) => if k = .br then .bad else .ok (d, k, ρ1)
    | .err c d _ => .err c d ρ1
    | .bad => .bad
  else .bad) := Eq.trans rfl rfl
@[simp] theorem ev_xCallM (m : FB) (i : Nat) (f : AE) (ρ : Env) : xCallM m i f ρ = (match ρ[i]? with
  | some (some (_, fl)) => if ownFl fl = true then (do
      let (l, ρ1) ← f ρ
      callMK m i l ρ1) else .bad
  | _ => .bad) := Eq.trans rfl rfl
@[simp] theorem ev_xMake (cn : Nat) (m : FB) (f : AE) (ρ : Env) : xMake cn m f ρ = (do
  let (l, ρ1) ← f ρ
  if argsOk l = true then
    match m (some (.ins cn [], .pn) :: l.map argS) with
    | .ok (.non, _, d1) => if d1.isDrw = true then .bad else .ok (d1, .ow, ρ1)
    | .err c d ρ' => match err1 ρ' with
      | some _ => .err c d ρ1
      | none => .bad
    | _ => .bad
  else .bad) := Eq.trans rfl rfl
@[simp] theorem ev_xDrwRest (i : Nat) (ρ : Env) : xDrwRest i ρ = (match drwAt i ρ with
  | some (_, r, _, _, _) => .ok (.int r, .fz, ρ)
  | none => .bad) := Eq.trans rfl rfl
@[simp] theorem ev_xDrwTurn (i : Nat) (ρ : Env) : xDrwTurn i ρ = (match drwAt i ρ with
  | some (_, _, _, t, _) => .ok (.int t, .fz, ρ)
  | none => .bad) := Eq.trans rfl rfl
@[simp] theorem ev_xDrwCells (i : Nat) (ρ : Env) : xDrwCells i ρ = (match drwAt i ρ with
  | some (_, _, ce, _, _) => .ok (.lst (ce.map D.int), .fz, ρ)
  | none => .bad) := Eq.trans rfl rfl
@[simp] theorem ev_xDrwNe (i : Nat) (ρ : Env) : xDrwNe i ρ = (match drwAt i ρ with
  | some (gr, _, _, _, _) => .ok (.bl (!gr.isEmpty), .fz, ρ)
  | none => .bad) := Eq.trans rfl rfl
@[simp] theorem ev_xDrwPop (i : Nat) (ρ : Env) : xDrwPop i ρ = (match drwAt i ρ with
  | some (n :: gr, r, ce, t, fl) => .ok (.int n, .fz, ρ.set i (some (.drw gr r ce t, fl)))
  | _ => .bad) := Eq.trans rfl rfl
@[simp] theorem ev_sDrwRest (i : Nat) (f : EE) (ρ : Env) : sDrwRest i f ρ = (do
  let (d, _, ρ1) ← f ρ
  match d, drwAt i ρ1 with
  | .int n, some (gr, _, ce, t, fl) => .ok (.nx (ρ1.set i (some (.drw gr n ce t, fl))))
  | _, _ => .bad) := Eq.trans rfl rfl
@[simp] theorem ev_sDrwTurn (i : Nat) (f : EE) (ρ : Env) : sDrwTurn i f ρ = (do
  let (d, _, ρ1) ← f ρ
  match d, drwAt i ρ1 with
  | .int n, some (gr, r, ce, _, fl) => .ok (.nx (ρ1.set i (some (.drw gr r ce n, fl))))
  | _, _ => .bad) := Eq.trans rfl rfl
@[simp] theorem ev_sBad (v0 : Env) : sBad  v0 = (.bad) := Eq.trans rfl rfl
@[simp] theorem ev_xBad (v0 : Env) : xBad  v0 = (.bad) := Eq.trans rfl rfl
@[simp] theorem ev_xIfD (f g g' : EE) (ρ : Env) : xIfD f g g' ρ = (do
  let (d, _, ρ1) ← f ρ
  match d with
  | .bl b => if b = true then g ρ1 else g' ρ1
  | _ => .bad) := Eq.trans rfl rfl
@[simp] theorem ev_xIfE (c : BE) (g g' : EE) (ρ : Env) : xIfE c g g' ρ = (do
  let (b, ρ1) ← c ρ
  if b = true then g ρ1 else g' ρ1) := Eq.trans rfl rfl
@[simp] theorem ev_sAsg (g : GE) (f : EE) (ρ : Env) : sAsg g f ρ = (do
  let (d, k, ρ1) ← f ρ
  match k with
  | .fz => do
    let ρ2 ← g d ρ1
    pure (.nx ρ2)
  | _ => .bad) := Eq.trans rfl rfl
@[simp] theorem ev_sFldSet (cs : List Nat) (i : Nat) (f : Str) (g : EE) (ρ : Env) : sFldSet cs i f g ρ = (do
  let (d, k, ρ1) ← g ρ
  fldK cs i f d k ρ1) := Eq.trans rfl rfl
@[simp] theorem ev_sRetDrw (i : Nat) (f : EE) (ρ : Env) : sRetDrw i f ρ = (match ρ[i]? with
  | some (some (.lst es, .ow)) => match intsOf es with
    | some gr => (f ρ).bind fun r => match r with
      | (.lst cs, .ow, ρ1) => match intsOf cs with
        | some ce => .ok (.rt (.drw gr 0 ce 0) .ow ρ1)
        | none => .bad
      | _ => .bad
    | none => .bad
  | _ => .bad) := Eq.trans rfl rfl
@[simp] theorem ev_sSeq (s t : SE) (ρ : Env) : sSeq s t ρ = (do
  match ← s ρ with
  | .nx ρ1 => t ρ1
  | f => pure f) := Eq.trans rfl rfl
@[simp] theorem ev_sNil (ρ : Env) : sNil  ρ = (pure (.nx ρ)) := Eq.trans rfl rfl
@[simp] theorem ev_sEx (f : EE) (ρ : Env) : sEx f ρ = (do
  let (_, _, ρ1) ← f ρ
  pure (.nx ρ1)) := Eq.trans rfl rfl
@[simp] theorem ev_sIf (c : BE) (s t : SE) (ρ : Env) : sIf c s t ρ = (do
  let (b, ρ1) ← c ρ
  if b = true then s ρ1 else t ρ1) := Eq.trans rfl rfl
@[simp] theorem ev_sSet (fl : Fl) (i : Nat) (f : EE) (ρ : Env) : sSet fl i f ρ = (do
  let (d, k, ρ1) ← f ρ
  let ρ2 ← setSlot fl i d k ρ1
  pure (.nx ρ2)) := Eq.trans rfl rfl
@[simp] theorem ev_sRet (f : EE) (ρ : Env) : sRet f ρ = (do
  let (d, k, ρ1) ← f ρ
  match k with
  | .br => .bad
  | _ => pure (.rt d k ρ1)) := Eq.trans rfl rfl
@[simp] theorem ev_sRetV (i : Nat) (ρ : Env) : sRetV i ρ = (match ρ[i]? with
  | some (some (d, .fz)) => pure (.rt d .fz ρ)
  | some (some (d, .ow)) => pure (.rt d .ow ρ)
  | _ => .bad) := Eq.trans rfl rfl
@[simp] theorem ev_sRetN (ρ : Env) : sRetN  ρ = (pure (.rt .non .fz ρ)) := Eq.trans rfl rfl
@[simp] theorem ev_sFrz (i : Nat) (s : SE) (ρ : Env) : sFrz i s ρ = (match ρ[i]? with
  | some (some (d, .ow)) => if d.fzOk = true then s (ρ.set i (some (d, .fz))) else .bad
  | _ => s ρ) := Eq.trans rfl rfl
@[simp] theorem ev_sBrk (ρ : Env) : sBrk  ρ = (pure (.bk ρ)) := Eq.trans rfl rfl
@[simp] theorem ev_sCnt (ρ : Env) : sCnt  ρ = (pure (.ct ρ)) := Eq.trans rfl rfl
@[simp] theorem ev_gNm (i : Nat) (d : D) (ρ : Env) : gNm i d ρ = (setSlot .fz i d .fz ρ) := Eq.trans rfl rfl
@[simp] theorem ev_gsN (ds : List D) (ρ : Env) : gsN  ds ρ = (match ds with
  | [] => .ok ρ
  | _ => .bad) := Eq.trans rfl rfl
@[simp] theorem ev_gsC (g : GE) (gs : List D → Env → Res Env) (ds : List D) (ρ : Env) : gsC g gs ds ρ = (match ds with
  | d :: r => do
    let ρ1 ← g d ρ
    gs r ρ1
  | [] => .bad) := Eq.trans rfl rfl
@[simp] theorem ev_gTp (n : Nat) (gs : List D → Env → Res Env) (d : D) (ρ : Env) : gTp n gs d ρ = (match d with
  | .tup ds => if ds.length = n then gs ds ρ else .bad
  | _ => .bad) := Eq.trans rfl rfl
@[simp] theorem ev_sFor (it : IE) (g : GE) (body : SE) (ρ : Env) : sFor it g body ρ = (do
  let (ds, br, ρ1) ← it ρ
  if br = true then .bad else forL g body ds ρ1) := Eq.trans rfl rfl
@[simp] theorem ev_iSeq (f : EE) (ρ : Env) : iSeq f ρ = (do
  let (d, k, ρ1) ← f ρ
  match d with
  | .lst ds => pure (ds, decide (k = .br), ρ1)
  | .tup ds => pure (ds, false, ρ1)
  | .scr ns => pure (ns.map D.int, false, ρ1)
  | _ => .bad) := Eq.trans rfl rfl
@[simp] theorem ev_bYes (ρ : Env) : bYes  ρ = (pure (true, ρ)) := Eq.trans rfl rfl
@[simp] theorem ev_xLc (vs : List Nat) (it : IE) (g : GE) (t : BE) (e : EE) (ρ : Env) : xLc vs it g t e ρ = (do
  let (ds, _, ρ1) ← it ρ
  if wipable ρ1 vs = true ∧ ds.length ≤ sizeLine then
    match lcS g t e (wipeR ρ1 vs) ds with
    | .ok l => .ok (.lst l, .ow, ρ1)
    | _ => .bad
  else .bad) := Eq.trans rfl rfl
@[simp] theorem ev_sPar (i j : Nat) (f : AE) (ρ : Env) : sPar i j f ρ = (do
  let (l, ρ1) ← f ρ
  parK i j ρ1 l) := Eq.trans rfl rfl
@[simp] theorem ev_xCallK (m : FA) (perm : List Nat) (s2 : Bool) (f fk : AE) (ρ : Env) : xCallK m perm s2 f fk ρ = (do
  let (l1, ρ1) ← f ρ
  if (l1.any fun dk => decide (dk.2 = .br)) = true ∧ s2 = false then .bad else do
    let (l2, ρ2) ← fk ρ1
    let l := pick perm (l1 ++ l2)
    if argsOk l = true then
      match m (l.map argS) with
      | .ok (d, k) => if k = .br then .bad else .ok (d, k, ρ2)
      | .err c d _ => .err c d ρ2
      | .bad => .bad
    else .bad) := Eq.trans rfl rfl
@[simp] theorem ev_bAnd (f g : BE) : bAnd f g = (bIf f g (bK false)) := Eq.trans rfl rfl
@[simp] theorem ev_bOr (f g : BE) : bOr f g = (bIf f (bK true) g) := Eq.trans rfl rfl
@[simp] theorem ev_xAnd (f g : EE) : xAnd f g = (xIfD f g (xC (.bl false))) := Eq.trans rfl rfl
@[simp] theorem ev_xOr (f g : EE) : xOr f g = (xIfD f (xC (.bl true)) g) := Eq.trans rfl rfl
@[simp] theorem ev_xNot (f : EE) : xNot f = (xIfD f (xC (.bl false)) (xC (.bl true))) := Eq.trans rfl rfl
@[simp] theorem ev_xApp (g : List D → Option (D × Kd)) (f : AE) (ρ : Env) : xApp g f ρ = (do
  let (l, ρ1) ← f ρ
  match g (l.map (·.1)) with
  | some (d, k) => pure (d, k, ρ1)
  | none => .bad) := Eq.trans rfl rfl
@[simp] theorem ev_xAp2 (s2 : Bool) (g : D → D → Option (D × Kd)) (f1 f2 : EE) (ρ : Env) : xAp2 s2 g f1 f2 ρ = (do
  let (a, k1, ρ1) ← f1 ρ
  if k1 = .br ∧ s2 = false then .bad else do
    let (b, _, ρ2) ← f2 ρ1
    match g a b with
    | some (d, k) => pure (d, k, ρ2)
    | none => .bad) := Eq.trans rfl rfl
@[simp] theorem ev_xAp1 (g : D → Option (D × Kd)) (f : EE) (ρ : Env) : xAp1 g f ρ = (do
  let (a, _, ρ1) ← f ρ
  match g a with
  | some (d, k) => pure (d, k, ρ1)
  | none => .bad) := Eq.trans rfl rfl
@[simp] theorem ev_xMut (p : D → Bool) (i : Nat) (g : D → List D → Option (D × D)) (f : AE) (ρ : Env) : xMut p i g f ρ = (match ρ[i]? with
  | some (some (d0, fl)) => if ownFl fl = true ∧ p d0 = true then (do
      let (l, ρ1) ← f ρ
      mutK p i g l ρ1) else .bad
  | _ => .bad) := Eq.trans rfl rfl
@[simp] theorem ev_xChain (g g' : D → D → Option (D × Kd)) (f1 f2 f3 : EE) (ρ : Env) : xChain g g' f1 f2 f3 ρ = (do
  let (a, k1, ρ1) ← f1 ρ
  if k1 = .br then .bad else do
    let (b, k2, ρ2) ← f2 ρ1
    if k2 = .br then .bad else chainM g g' f3 a b ρ2) := Eq.trans rfl rfl
@[simp] theorem ev_append (es : List D) (d : D) : mAppend (.lst es) [d] = if es.length < sizeLine then some (.lst (es ++ [d]), .non) else none := Eq.trans rfl rfl
def rngK1 (l : List (D × Kd)) (ρ1 : Env) : Res (List D × Bool × Env) := match int1 l with
  | some j => if rngOk j = true then pure (rng 0 j.toNat, false, ρ1) else .bad
  | none => .bad
def rngK2 (l : List (D × Kd)) (ρ1 : Env) : Res (List D × Bool × Env) := match int2 l with
  | some (i, j) => if rngOk i = true ∧ rngOk j = true then pure (rng i (j - i).toNat, false, ρ1) else .bad
  | none => .bad
@[simp] theorem ev_iRng1D (f : AE) (ρ : Env) : iRng1D f ρ = (do
  let (l, ρ1) ← f ρ
  rngK1 l ρ1) := Eq.trans rfl rfl
@[simp] theorem ev_iRng2D (f : AE) (ρ : Env) : iRng2D f ρ = (do
  let (l, ρ1) ← f ρ
  rngK2 l ρ1) := Eq.trans rfl rfl
theorem rngOk_small {j : Int} (h : -1000000 < j ∧ j < 1000000) : rngOk j = true := by
  unfold rngOk
  rw [decide_eq_true_eq]
  omega
theorem rngK1_ok {j : Int} {k : Kd} {ρ1 : Env} (h : -1000000 < j ∧ j < 1000000) : rngK1 [(.int j, k)] ρ1 = .ok (rng 0 j.toNat, false, ρ1) := by
  unfold rngK1 int1
  exact if_pos (rngOk_small h)
theorem rngK2_ok {i j : Int} {k k' : Kd} {ρ1 : Env} (h : -1000000 < i ∧ i < 1000000) (h' : -1000000 < j ∧ j < 1000000) : rngK2 [(.int i, k), (.int j, k')] ρ1 = .ok (rng i (j - i).toNat, false, ρ1) := by
  unfold rngK2 int2
  exact if_pos ⟨rngOk_small h, rngOk_small h'⟩
theorem rng_nat {j : Int} {n : Nat} (h : j = n) : rng 0 j.toNat = (List.range n).map fun (k : Nat) => D.int k := by
  subst h
  unfold rng
  simp
theorem rngK1_len {n : Nat} {k : Kd} {ρ1 : Env} (h : n < 1000000) : rngK1 [(.int n, k)] ρ1 = .ok ((List.range n).map fun (k : Nat) => D.int k, false, ρ1) := by
  rw [rngK1_ok (by omega), rng_nat rfl]
theorem rngK2_len {i j : Int} {n : Nat} {k k' : Kd} {ρ1 : Env} (h : -1000000 < i ∧ i < 1000000) (e : j = i + n) (h' : j < 1000000) : rngK2 [(.int i, k), (.int j, k')] ρ1 = .ok ((List.range n).map fun (k : Nat) => D.int (i + k), false, ρ1) := by
  rw [rngK2_ok h (by omega)]
  have e2 : (j - i).toNat = n := by omega
  rw [e2]; rfl
theorem sSeq_nx {s t : SE} {ρ ρ1 : Env} (h : s ρ = .ok (.nx ρ1)) : sSeq s t ρ = t ρ1 := by rw [ev_sSeq, h]; rfl
theorem sSeq_rt {s t : SE} {ρ ρ1 : Env} {d : D} {k : Kd} (h : s ρ = .ok (.rt d k ρ1)) : sSeq s t ρ = .ok (.rt d k ρ1) := by rw [ev_sSeq, h]; rfl
theorem xLc_ok {vs : List Nat} {it : IE} {g : GE} {t : BE} {e : EE} {ρ ρ1 : Env} {ds l : List D} {br : Bool} (h : it ρ = .ok (ds, br, ρ1)) (hw : wipable ρ1 vs = true) (hz : ds.length ≤ sizeLine) (hl : lcS g t e (wipeR ρ1 vs) ds = .ok l) : xLc vs it g t e ρ = .ok (.lst l, .ow, ρ1) := by
  rw [ev_xLc, h]
  simp only [Res.bind_ok, hw, hz, and_self, if_true, hl]
theorem iRng_1 {f : AE} {ρ ρ1 ρ2 : Env} {l : List (D × Kd)} {ds : List D} (h : f ρ = .ok (l, ρ1)) (rk : rngK1 l ρ1 = .ok (ds, false, ρ2)) : iRng1D f ρ = .ok (ds, false, ρ2) := by
  rw [ev_iRng1D, h]; exact rk
theorem iRng_2 {f : AE} {ρ ρ1 ρ2 : Env} {l : List (D × Kd)} {ds : List D} (h : f ρ = .ok (l, ρ1)) (rk : rngK2 l ρ1 = .ok (ds, false, ρ2)) : iRng2D f ρ = .ok (ds, false, ρ2) := by
  rw [ev_iRng2D, h]; exact rk
theorem sSet_ok {fl : Fl} {i : Nat} {f : EE} {ρ ρ1 ρ2 : Env} {d : D} {k : Kd} (h : f ρ = .ok (d, k, ρ1)) (hs : setSlot fl i d k ρ1 = .ok ρ2) : sSet fl i f ρ = .ok (.nx ρ2) := by
  rw [ev_sSet, h]
  simp only [Res.bind_ok, hs, Res.pure_ok]
theorem sEx_ok {f : EE} {ρ ρ1 : Env} {d : D} {k : Kd} (h : f ρ = .ok (d, k, ρ1)) : sEx f ρ = .ok (.nx ρ1) := by
  rw [ev_sEx, h]; rfl
theorem sIf_ok {c : BE} {s t : SE} {ρ ρ1 : Env} {b : Bool} {r : Res Flo} (h : c ρ = .ok (b, ρ1)) (h1 : b = true → s ρ1 = r) (h2 : b = false → t ρ1 = r) : sIf c s t ρ = r := by
  rw [ev_sIf, h]
  cases b with
  | true => exact h1 rfl
  | false => exact h2 rfl
theorem sFor_1 {f : AE} {g : GE} {b : SE} {ρ ρ1 ρ2 : Env} {l : List (D × Kd)} {ds : List D} (h : f ρ = .ok (l, ρ1)) (rk : rngK1 l ρ1 = .ok (ds, false, ρ2)) : sFor (iRng1D f) g b ρ = forL g b ds ρ2 := by
  rw [ev_sFor, ev_iRng1D, h]
  simp only [Res.bind_ok, rk]
  rfl
theorem sFor_2 {f : AE} {g : GE} {b : SE} {ρ ρ1 ρ2 : Env} {l : List (D × Kd)} {ds : List D} (h : f ρ = .ok (l, ρ1)) (rk : rngK2 l ρ1 = .ok (ds, false, ρ2)) : sFor (iRng2D f) g b ρ = forL g b ds ρ2 := by
  rw [ev_sFor, ev_iRng2D, h]
  simp only [Res.bind_ok, rk]
  rfl
/-! data -/
@[simp] theorem ev_add (a b : Int) : dAdd (.int a) (.int b) = some (.int (a + b), .fz) := Eq.trans rfl rfl
@[simp] theorem ev_sub (a b : Int) : dSub (.int a) (.int b) = some (.int (a - b), .fz) := Eq.trans rfl rfl
@[simp] theorem ev_mul (a b : Int) : dMul (.int a) (.int b) = if CMul a b then some (.int (a * b), .fz) else none := Eq.trans rfl rfl
@[simp] theorem ev_fdiv (a b : Int) : dFdiv (.int a) (.int b) = if CDivN a b then some (.int (a.fdiv b), .fz) else none := Eq.trans rfl rfl
@[simp] theorem ev_mod (a b : Int) : dMod (.int a) (.int b) = if b ≠ 0 then some (.int (a.fmod b), .fz) else none := Eq.trans rfl rfl
@[simp] theorem ev_pow (a b : Int) : dPow (.int a) (.int b) = if CPow a b then some (.int (a ^ b.toNat), .fz) else none := Eq.trans rfl rfl
@[simp] theorem ev_lt (a b : Int) : dLt (.int a) (.int b) = some (.bl (decide (a < b)), .fz) := Eq.trans rfl rfl
@[simp] theorem ev_le (a b : Int) : dLe (.int a) (.int b) = some (.bl (decide (a ≤ b)), .fz) := Eq.trans rfl rfl
@[simp] theorem ev_gt (a b : Int) : dGt (.int a) (.int b) = some (.bl (decide (b < a)), .fz) := Eq.trans rfl rfl
@[simp] theorem ev_ge (a b : Int) : dGe (.int a) (.int b) = some (.bl (decide (b ≤ a)), .fz) := Eq.trans rfl rfl
@[simp] theorem ev_neg (a : Int) : dNeg (.int a) = some (.int (-a), .fz) := Eq.trans rfl rfl
@[simp] theorem ev_min (a b : Int) : dMin2 (.int a) (.int b) = some (.int (if b < a then b else a), .fz) := Eq.trans rfl rfl
@[simp] theorem ev_max (a b : Int) : dMax2 (.int a) (.int b) = some (.int (if b > a then b else a), .fz) := Eq.trans rfl rfl
@[simp] theorem ev_abs (a : Int) : dAbs (.int a) = some (.int (if a < 0 then -a else a), .fz) := Eq.trans rfl rfl
@[simp] theorem ev_int (a : Int) : dInt (.int a) = some (.int a, .fz) := Eq.trans rfl rfl
@[simp] theorem ev_intb (b : Bool) : dInt (.bl b) = some (.int (if b then 1 else 0), .fz) := Eq.trans rfl rfl
@[simp] theorem ev_is_non : dIs .non .non = some (.bl true, .fz) := Eq.trans rfl rfl
@[simp] theorem ev_is_int (a : Int) : dIs (.int a) .non = some (.bl false, .fz) := Eq.trans rfl rfl
@[simp] theorem ev_f1 (g : D → Option (D × Kd)) (d : D) : f1 g [d] = g d := Eq.trans rfl rfl
@[simp] theorem ev_f2 (g : D → D → Option (D × Kd)) (d e : D) : f2 g [d, e] = g d e := Eq.trans rfl rfl
@[simp] theorem ev_len_l (l : List D) : dLen (.lst l) = some (.int l.length, .fz) := Eq.trans rfl rfl
@[simp] theorem ev_len_t (l : List D) : dLen (.tup l) = some (.int l.length, .fz) := Eq.trans rfl rfl
@[simp] theorem ev_len_s (l : List Int) : dLen (.scr l) = some (.int l.length, .fz) := Eq.trans rfl rfl
@[simp] theorem ev_idx_l (l : List D) (i : Int) : dIdx (.lst l) (.int i) = (atI l i).map fun d => (d, .fz) := Eq.trans rfl rfl
@[simp] theorem ev_idx_t (l : List D) (i : Int) : dIdx (.tup l) (.int i) = (atI l i).map fun d => (d, .fz) := Eq.trans rfl rfl
@[simp] theorem ev_argS (d : D) (k : Kd) : argS (d, k) = some (d, if k = .br then .lk else .fz) := Eq.trans rfl rfl
@[simp] theorem ev_tuple_l (l : List D) : dTuple (.lst l) = some (.tup l, .fz) := Eq.trans rfl rfl
@[simp] theorem ev_tuple_t (l : List D) : dTuple (.tup l) = some (.tup l, .fz) := Eq.trans rfl rfl
@[simp] theorem ev_rbind_ok {α β : Type} (a : α) (f : α → Res β) : (Res.ok a).bind f = f a := Eq.trans rfl rfl
@[simp] theorem ev_int1 (j : Int) (k : Kd) : int1 [(.int j, k)] = some j := Eq.trans rfl rfl
@[simp] theorem ev_int2 (i j : Int) (k k' : Kd) : int2 [(.int i, k), (.int j, k')] = some (i, j) := Eq.trans rfl rfl
@[simp] theorem ev_dA (n : Nat) (b : SE) (ρ : Env) : dA n b ρ = match b (bodyEnv n ρ) with
  | .ok (.rt d k _) => if k = .br then .bad else .ok (d, k)
  | .ok (.nx _) => .ok (.non, .fz)
  | .err c d ρ' => .err c d ρ'
  | _ => .bad := Eq.trans rfl rfl
@[simp] theorem ev_dB (n : Nat) (b : SE) (d0 : D) (fl : Fl) (r : Env) : dB n b (some (d0, fl) :: r) = match b (bodyEnv n (some (d0, fl) :: r)) with
  | .ok (.rt d k ρ') => if k = .br then .bad else match pn0 d0 ρ' with
    | some d1 => .ok (d, k, d1)
    | none => .bad
  | .ok (.nx ρ') => match pn0 d0 ρ' with
    | some d1 => .ok (.non, .fz, d1)
    | none => .bad
  | .err c d ρ' => match pn0 d0 ρ' with
    | some d1 => .err c d [some (d1, .pn)]
    | none => .bad
  | _ => .bad := Eq.trans rfl rfl
theorem dA_rt {n : Nat} {b : SE} {ρ ρ1 : Env} {d : D} {k : Kd} (h : b (bodyEnv n ρ) = .ok (.rt d k ρ1)) (hk : k ≠ .br) : dA n b ρ = .ok (d, k) := by rw [ev_dA, h]; exact if_neg hk
theorem dEq_int (a b : Int) : dEq (.int a) (.int b) = some (.bl (decide (a = b)), .fz) := by
  have s : ∀ a : Int, SeqAt.shaped (.int a) = true := fun a => by
    unfold SeqAt.shaped; simp [PyData.canLay0, PyData.depth]
  have : dEqB (.int a) (.int b) = some (decide (a = b)) := by
    have e : dEqB (.int a) (.int b) = pyEq (.int a) (.int b) := rfl
    rw [e]
    unfold pyEq
    simp only [toPy, s, and_self, if_true, PyData.eqv]
    congr 1
  unfold dEq; rw [this]; rfl
@[simp] theorem ev_eq (a b : Int) : dEq (.int a) (.int b) = some (.bl (decide (a = b)), .fz) := dEq_int a b
@[simp] theorem ev_ne_s (a b : Str) : dNe (.str a) (.str b) = some (.bl (!decide (a = b)), .fz) := Eq.trans rfl rfl
end VL
/-! VL22: the mirrors reckoned; the draws' own functions. -/
namespace VL
open PySem PySem.Spec PyProof.Rows L2

theorem lcS_map {α : Type} {g : GE} {t : BE} {e : EE} {ρ : Env} (f : α → D) (b : α → Bool) (v : α → D) : ∀ xs : List α, (∀ x ∈ xs, ∃ ρ1, g (f x) ρ = .ok ρ1 ∧ ∃ ρ2, t ρ1 = .ok (b x, ρ2) ∧ (b x = true → ∃ k ρ3, e ρ1 = .ok (v x, k, ρ3) ∧ k ≠ .br ∧ (v x).fzOk = true)) →
    lcS g t e ρ (xs.map f) = .ok ((xs.filter b).map v)
  | [], _ => rfl
  | x :: xs, h => by
    have ih := lcS_map f b v xs fun y hy => h y (List.mem_cons_of_mem _ hy)
    obtain ⟨ρ1, h1, ρ2, h2, h3⟩ := h x List.mem_cons_self
    simp only [List.map_cons, lcS, h1, Res.bind_ok, h2]
    cases e : b x with
    | true =>
      obtain ⟨k, ρ3, h4, h5, h6⟩ := h3 e
      simp [h4, h5, h6, ih, e]
    | false => simp [ih, e]
theorem forL_map {α : Type} {g : GE} {body : SE} (f : α → D) (I : List α → Env → Prop) (R : Res Flo → Prop) (h : ∀ x xs ρ, I (x :: xs) ρ → ∃ ρ1, g (f x) ρ = .ok ρ1 ∧ ((∃ ρ2, (body ρ1 = .ok (.nx ρ2) ∨ body ρ1 = .ok (.ct ρ2)) ∧ I xs ρ2) ∨ (∃ ρ2, body ρ1 = .ok (.bk ρ2) ∧ R (.ok (.nx ρ2))) ∨ ∃ d k ρ2, body ρ1 = .ok (.rt d k ρ2) ∧ R (.ok (.rt d k ρ2))))
    (h0 : ∀ ρ, I [] ρ → R (.ok (.nx ρ))) : ∀ xs ρ, I xs ρ → R (forL g body (xs.map f) ρ)
  | [], ρ, hI => h0 ρ hI
  | x :: xs, ρ, hI => by
    obtain ⟨ρ1, h1, h2⟩ := h x xs ρ hI
    simp only [List.map_cons, forL, h1, Res.bind_ok]
    rcases h2 with ⟨ρ2, e, hI'⟩ | ⟨ρ2, e, r⟩ | ⟨d, k, ρ2, e, r⟩
    · rcases e with e | e
      · simp only [e, Res.bind_ok]; exact forL_map f I R h h0 xs ρ2 hI'
      · simp only [e, Res.bind_ok]; exact forL_map f I R h h0 xs ρ2 hI'
    · simp only [e, Res.bind_ok]; exact r
    · simp only [e, Res.bind_ok]; exact r
@[simp] theorem atI_zero {α : Type} {x : α} {l : List α} : atI (x :: l) 0 = some x := by
  simpa using atI_nat (xs := x :: l) (j := 0) rfl
/-! the draws -/
def m_law_begin : SE := (sSeq (sSet .ow 1 (xLc [2] (iSeq (xV 0)) (gNm 2) (xTst (xAp2 true dGe (xApp (f1 dAbs) (aC true (xV 2) aN)) (xAp2 true dPow (xC (.int 10)) (xC (.int 18))))) (xAp2 true dSub (xApp (f1 dAbs) (aC true (xV 2) aN)) (xAp2 true dPow (xC (.int 10)) (xC (.int 18))))))
  (sRetDrw 1 (xLc [2] (iSeq (xV 0)) (gNm 2) bYes (xApp (f1 dAbs) (aC true (xV 2) aN)))))
def D_law_begin : FA := dA 3 m_law_begin
def mb_law_blend_2 : SE := (sSet .fz 4 (xAp2 true dMod (xApp (f1 dInt) (aC true (xAp2 true dAdd (xAp2 true dMul (xV 4) (xC (.int 48271))) (xV 5)) aN)) (xV 3)))
def mb_law_blend_1 : SE := (sSeq (sSet .fz 4 (xAp2 true dMod (xApp (f1 dInt) (aC true (xAp2 true dAdd (xAp2 true dMul (xV 1) (xC (.int 69621))) (xAp2 true dFdiv (xV 3) (xC (.int 7)))) aN)) (xV 3)))
  (sSeq (sFor (iSeq (xDrwCells 0)) (gNm 5) mb_law_blend_2)
  (sSet .fz 2 (xAp2 true dAdd (xAp2 true dMul (xV 2) (xC (.int 2147483647))) (xAp2 true dMod (xApp (f1 dInt) (aC true (xAp2 true dPow (xV 4) (xC (.int 5))) aN)) (xV 3))))))
def m_law_blend : SE := (sSeq (sSet .fz 1 (xAp2 true dAdd (xDrwTurn 0) (xC (.int 1))))
  (sSeq (sDrwTurn 0 (xV 1))
  (sSeq (sSet .fz 2 (xC (.int 0)))
  (sSeq (sFor (iSeq (xLst (aC true (xC (.int 2147483629)) (aC true (xC (.int 2147483587)) (aC true (xC (.int 2147483579)) (aC true (xC (.int 2147483563)) aN)))))) (gNm 3) mb_law_blend_1)
  (sRetV 2)))))
def D_law_blend : FB := dB 6 m_law_blend
def m_law_take : SE := (sSeq (sIf (bAnd (xTst (xAp2 true dEq (xDrwRest 0) (xC (.int 0)))) (xTst (xDrwNe 0)))
  (sDrwRest 0 (xDrwPop 0))
  sNil)
  (sSeq (sIf (xTst (xAp2 true dEq (xDrwRest 0) (xC (.int 0))))
  (sDrwRest 0 (xCallM D_law_blend 0 aN))
  sNil)
  (sSeq (sSet .fz 2 (xAp2 true dMod (xApp (f1 dInt) (aC true (xDrwRest 0) aN)) (xV 1)))
  (sSeq (sDrwRest 0 (xAp2 true dFdiv (xDrwRest 0) (xV 1)))
  (sRetV 2)))))
def D_law_take : FB := dB 3 m_law_take
def m_law_pick : SE := (sRet (xAp2 false dIdx (xV 1) (xCallM D_law_take 0 (aC true (xApp (f1 dLen) (aC true (xV 1) aN)) aN))))
def D_law_pick : FB := dB 2 m_law_pick

/-- a slot that holds nothing or an int -/
def IsI (s : Slot) : Prop := s = none ∨ ∃ n, s = some (.int n, .fz)
theorem IsI.set {s : Slot} (h : IsI s) : (match (some s : Option Slot) with
  | some (some (_, .lk)) => false
  | some (some (_, .pn)) => false
  | some _ => true
  | none => false) = true := by
  rcases h with rfl | ⟨n, rfl⟩ <;> rfl
def blP (p : Int) : Prop := 0 < p ∧ p < 2147483648
theorem blend_in {a b c : Slot} {p : Int} (hp : blP p) : ∀ (ce : List Int) (ρ : Env), (∃ h s5, ρ = [a, b, c, some (.int p, .fz), some (.int h, .fz), s5] ∧ 0 ≤ h ∧ h < p ∧ IsI s5) →
    ∃ ρ', forL (gNm 5) mb_law_blend_2 (ce.map D.int) ρ = .ok (.nx ρ') ∧ ∃ h s5, ρ' = [a, b, c, some (.int p, .fz), some (.int h, .fz), s5] ∧ 0 ≤ h ∧ h < p ∧ IsI s5 := fun ce ρ hI => by
  refine forL_map D.int (fun _ ρ => ∃ h s5, ρ = [a, b, c, some (.int p, .fz), some (.int h, .fz), s5] ∧ 0 ≤ h ∧ h < p ∧ IsI s5) (fun r => ∃ ρ', r = .ok (.nx ρ') ∧ ∃ h s5, ρ' = [a, b, c, some (.int p, .fz), some (.int h, .fz), s5] ∧ 0 ≤ h ∧ h < p ∧ IsI s5) (fun x xs ρ hI => ?_) (fun ρ hI => ⟨ρ, rfl, hI⟩) ce ρ hI
  obtain ⟨h, s5, rfl, h1, h2, h5⟩ := hI
  have hp0 : p ≠ 0 := by have := hp.1; omega
  have hm : CMul h 48271 := .inr (by decide)
  have cs : canSet [a, b, c, some (.int p, .fz), some (.int h, .fz), s5] 5 = true := h5.set
  refine ⟨[a, b, c, some (.int p, .fz), some (.int h, .fz), some (.int x, .fz)], by simp [setSlot, cs], .inl ⟨[a, b, c, some (.int p, .fz), some (.int ((h * 48271 + x).fmod p), .fz), some (.int x, .fz)], .inl ?_, _, _, rfl, Int.fmod_nonneg_of_pos _ hp.1, Int.fmod_lt_of_pos _ hp.1, .inr ⟨x, rfl⟩⟩⟩
  simp [mb_law_blend_2, hp0, hm, setSlot, canSet]
theorem blend_out {gr ce : List Int} {r t u : Int} : ∀ (ps : List Int) (ρ : Env), ((∃ f s3 s4 s5, ρ = [some (.drw gr r ce t, .pn), some (.int u, .fz), some (.int f, .fz), s3, s4, s5] ∧ IsI s3 ∧ IsI s4 ∧ IsI s5) ∧ ∀ p ∈ ps, blP p) →
    ∃ ρ', forL (gNm 3) mb_law_blend_1 (ps.map D.int) ρ = .ok (.nx ρ') ∧ ∃ f s3 s4 s5, ρ' = [some (.drw gr r ce t, .pn), some (.int u, .fz), some (.int f, .fz), s3, s4, s5] ∧ IsI s3 ∧ IsI s4 ∧ IsI s5 := fun ps ρ hI => by
  refine forL_map D.int (fun ps ρ => (∃ f s3 s4 s5, ρ = [some (.drw gr r ce t, .pn), some (.int u, .fz), some (.int f, .fz), s3, s4, s5] ∧ IsI s3 ∧ IsI s4 ∧ IsI s5) ∧ ∀ p ∈ ps, blP p) (fun r' => ∃ ρ', r' = .ok (.nx ρ') ∧ ∃ f s3 s4 s5, ρ' = [some (.drw gr r ce t, .pn), some (.int u, .fz), some (.int f, .fz), s3, s4, s5] ∧ IsI s3 ∧ IsI s4 ∧ IsI s5) (fun p ps ρ hI => ?_) (fun ρ hI => ⟨ρ, rfl, hI.1⟩) ps ρ hI
  obtain ⟨⟨f, s3, s4, s5, rfl, h3, h4, h5⟩, hps⟩ := hI
  have hp : blP p := hps p List.mem_cons_self
  have hp0 : p ≠ 0 := by have := hp.1; omega
  have hm : CMul u 69621 := .inr (by decide)
  have hm2 : CMul f 2147483647 := .inr (by decide)
  have hd : CDivN p 7 := by constructor <;> decide
  have cs : canSet [some (.drw gr r ce t, .pn), some (.int u, .fz), some (.int f, .fz), s3, s4, s5] 3 = true := h3.set
  have cs4 : canSet [some (.drw gr r ce t, .pn), some (.int u, .fz), some (.int f, .fz), some (.int p, .fz), s4, s5] 4 = true := h4.set
  obtain ⟨ρ', e1, h, s5', rfl, k1, k2, k5⟩ := blend_in (a := some (.drw gr r ce t, .pn)) (b := some (.int u, .fz)) (c := some (.int f, .fz)) hp ce _ ⟨_, _, rfl, Int.fmod_nonneg_of_pos (u * 69621 + p.fdiv 7) hp.1, Int.fmod_lt_of_pos _ hp.1, h5⟩
  have hw : CPow h 5 := ⟨by decide, by decide, by have := hp.2; omega⟩
  refine ⟨[some (.drw gr r ce t, .pn), some (.int u, .fz), some (.int f, .fz), some (.int p, .fz), s4, s5], by simp [setSlot, cs], .inl ⟨[some (.drw gr r ce t, .pn), some (.int u, .fz), some (.int (f * 2147483647 + (h ^ 5).fmod p), .fz), some (.int p, .fz), some (.int h, .fz), s5'], .inl ?_, ⟨_, _, _, _, rfl, .inr ⟨_, rfl⟩, .inr ⟨_, rfl⟩, k5⟩, fun q hq => hps q (List.mem_cons_of_mem _ hq)⟩⟩
  simp [mb_law_blend_1, hp0, hm, hm2, hd, setSlot, cs4, drwAt, ownFl, e1, hw]
  simp [canSet]
theorem blend_eq (gr : List Int) (r : Int) (ce : List Int) (t : Int) : ∃ v, D_law_blend [some (.drw gr r ce t, .pn)] = .ok (.int v, .fz, .drw gr r ce (t + 1)) := by
  obtain ⟨ρ', e, f, s3, s4, s5, rfl, _⟩ := blend_out (gr := gr) (ce := ce) (r := r) (t := t + 1) (u := t + 1) [2147483629, 2147483587, 2147483579, 2147483563] [some (.drw gr r ce (t + 1), .pn), some (.int (t + 1), .fz), some (.int 0, .fz), none, none, none] ⟨⟨0, none, none, none, rfl, .inl rfl, .inl rfl, .inl rfl⟩, fun p hp => by
    simp only [List.mem_cons, List.not_mem_nil, or_false] at hp
    rcases hp with rfl | rfl | rfl | rfl <;> constructor <;> decide⟩
  simp only [List.map_cons, List.map_nil] at e
  have z : 4 ≤ sizeLine := by rw [sizeLine_eq]; decide
  refine ⟨f, ?_⟩
  simp [D_law_blend, m_law_blend, bodyEnv, drwAt, ownFl, setSlot, canSet, fzAll, D.fzOk, z, e, pn0, D.isDrw]
theorem take_eq {gr : List Int} {r : Int} {ce : List Int} {t n : Int} (h0 : 0 < n) (h1 : n < 1000000) :
    ∃ v gr' r' t', D_law_take [some (.drw gr r ce t, .pn), some (.int n, .fz)] = .ok (.int v, .fz, .drw gr' r' ce t') ∧ 0 ≤ v ∧ v < n := by
  have hd : n ≠ 0 := by omega
  have hc : ∀ v, CDivN v n := fun v => ⟨hd, by omega⟩
  have fin : ∀ v : Int, 0 ≤ v.fmod n ∧ v.fmod n < n := fun v => ⟨Int.fmod_nonneg_of_pos v h0, Int.fmod_lt_of_pos v h0⟩
  have dry : ∀ gr, r = 0 → gr = [] → ∃ v gr' r' t', D_law_take [some (.drw gr r ce t, .pn), some (.int n, .fz)] = .ok (.int v, .fz, .drw gr' r' ce t') ∧ 0 ≤ v ∧ v < n := fun gr hr hg => by
    subst hr hg
    obtain ⟨v, hv⟩ := blend_eq [] 0 ce t
    refine ⟨v.fmod n, [], v.fdiv n, t + 1, ?_, fin v⟩
    simp [D_law_take, m_law_take, bodyEnv, drwAt, ownFl, callMK, argsOk, hv, setSlot, canSet, D.isDrw, hd, hc, pn0]
  by_cases hr : r = 0
  · cases gr with
    | nil => exact dry [] hr rfl
    | cons m gr =>
      subst hr
      by_cases hm : m = 0
      · subst hm
        obtain ⟨v, hv⟩ := blend_eq gr 0 ce t
        refine ⟨v.fmod n, gr, v.fdiv n, t + 1, ?_, fin v⟩
        simp [D_law_take, m_law_take, bodyEnv, drwAt, ownFl, callMK, argsOk, hv, setSlot, canSet, D.isDrw, hd, hc, pn0]
      · refine ⟨m.fmod n, gr, m.fdiv n, t, ?_, fin m⟩
        simp [D_law_take, m_law_take, bodyEnv, drwAt, ownFl, setSlot, canSet, D.isDrw, hd, hc, pn0, hm]
  · refine ⟨r.fmod n, gr, r.fdiv n, t, ?_, fin r⟩
    simp [D_law_take, m_law_take, bodyEnv, drwAt, ownFl, setSlot, canSet, D.isDrw, hd, hc, pn0, hr]
theorem pick_eq {gr : List Int} {r : Int} {ce : List Int} {t : Int} {xs : List D} (h0 : xs ≠ []) (h1 : xs.length < 1000000) :
    ∃ x gr' r' t', D_law_pick [some (.drw gr r ce t, .pn), some (.lst xs, .fz)] = .ok (x, .fz, .drw gr' r' ce t') ∧ x ∈ xs := by
  have hl : 0 < xs.length := by cases xs with
    | nil => exact absurd rfl h0
    | cons _ _ => simp
  obtain ⟨v, gr', r', t', e, k1, k2⟩ := take_eq (gr := gr) (r := r) (ce := ce) (t := t) (n := xs.length) (by omega) (by omega)
  obtain ⟨j, rfl⟩ : ∃ j : Nat, v = j := ⟨v.toNat, by omega⟩
  have hj : j < xs.length := by omega
  have ea : atI xs (j : Int) = some xs[j] := atI_nat (List.getElem?_eq_getElem hj)
  refine ⟨xs[j], gr', r', t', ?_, List.getElem_mem _⟩
  simp [D_law_pick, m_law_pick, bodyEnv, ownFl, callMK, argsOk, e, D.isDrw, ea, pn0, D.fzOk]
theorem begin_eq {ns : List Int} (hn : ns.length ≤ 63) : ∃ gr ce, D_law_begin [some (.scr ns, .fz)] = .ok (.drw gr 0 ce 0, .ow) := by
  have hz : ns.length ≤ sizeLine := by rw [sizeLine_eq]; omega
  have hw : CPow 10 18 := by refine ⟨?_, ?_, ?_⟩ <;> decide
  refine ⟨(ns.filter fun n => decide ((10 : Int) ^ 18 ≤ if n < 0 then -n else n)).map fun n => (if n < 0 then -n else n) - 10 ^ 18, ns.map fun n => if n < 0 then -n else n, ?_⟩
  have i1 : ∀ ms : List Int, intsOf (ms.map fun n => D.int n) = some ms := fun ms => intsOf_map ms
  simp only [D_law_begin, m_law_begin, ev_dA, ev_sSeq, ev_sSet, ev_xLc, ev_iSeq, ev_xV, bodyEnv, List.length_cons, List.length_nil, List.replicate, List.cons_append, List.nil_append, List.getElem?_cons_zero, Res.bind_ok, Res.pure_ok, List.length_map, wipeR, List.set_cons_succ, List.set_cons_zero, wipable, slotFree, List.all_cons, List.all_nil, List.getElem?_cons_succ, Bool.and_self, true_and, hz, if_true]
  rw [lcS_map D.int (fun n => decide ((10 : Int) ^ 18 ≤ if n < 0 then -n else n)) (fun n => .int ((if n < 0 then -n else n) - 10 ^ 18)) ns (fun x _ => ?_)]
  · simp only [setSlot, canSet, List.getElem?_cons_succ, List.getElem?_cons_zero, if_true, Res.bind_ok, List.set_cons_succ, List.set_cons_zero, Res.pure_ok, ev_sRetDrw]
    rw [show ((ns.filter fun n => decide ((10 : Int) ^ 18 ≤ if n < 0 then -n else n)).map fun n => D.int ((if n < 0 then -n else n) - 10 ^ 18)) = (((ns.filter fun n => decide ((10 : Int) ^ 18 ≤ if n < 0 then -n else n)).map fun n => (if n < 0 then -n else n) - 10 ^ 18)).map D.int by rw [List.map_map]; rfl, intsOf_map]
    simp only [ev_xLc, ev_iSeq, ev_xV, List.getElem?_cons_zero, Res.bind_ok, Res.pure_ok, List.length_map, wipeR, List.set_cons_succ, List.set_cons_zero, wipable, slotFree, List.all_cons, List.all_nil, List.getElem?_cons_succ, Bool.and_self, true_and, hz, if_true]
    rw [lcS_map D.int (fun n => true) (fun n => .int (if n < 0 then -n else n)) ns (fun x _ => ?_)]
    · rw [show ((ns.filter fun _ => true).map fun n => D.int (if n < 0 then -n else n)) = (ns.map fun n => if n < 0 then -n else n).map D.int by rw [List.filter_eq_self.mpr (fun _ _ => rfl), List.map_map]; rfl]
      simp only [ev_rbind_ok, intsOf_map]
      simp
    · exact ⟨_, by simp [setSlot, canSet]; rfl, _, by simp; rfl, fun _ => ⟨.fz, _, by simp; rfl, by simp, rfl⟩⟩
  · refine ⟨[some (.scr ns, .fz), none, some (.int x, .fz)], by simp [setSlot, canSet], [some (.scr ns, .fz), none, some (.int x, .fz)], by simp [hw], fun _ => ⟨.fz, [some (.scr ns, .fz), none, some (.int x, .fz)], by simp [hw], by simp, rfl⟩⟩
end VL
/-! VL23: more of the mirrors reckoned. -/
namespace VL
open PySem PySem.Spec PyProof.Rows L2

def okRepr (p : PyData) : Bool := p.showable && (decide (p.depth ≤ 60) && decide (p.shown.length ≤ sizeLine))
theorem repr_ok {d : D} {p : PyData} (h : toPy d = some p) (ok : okRepr p = true) : dRepr d = some (.str p.shown, .fz) := by
  simp only [okRepr, Bool.and_eq_true, decide_eq_true_eq] at ok
  unfold dRepr
  rw [h]
  simp only
  rw [if_pos ok]
def oI : Option Nat → D
  | none => .non
  | some k => .int k
def oP : Option Nat → PyData
  | none => .none
  | some k => .int k
theorem oI_py (o : Option Nat) : toPy (oI o) = some (oP o) := by cases o <;> rfl
theorem okRepr_two : ∀ k : Nat, k < 128 → okRepr (.list [.int (k : Int), .int (k : Int)]) = true := by decide +kernel
theorem okRepr_non : okRepr (.list [.none, .none]) = true := by decide +kernel
theorem repr_two {o : Option Nat} (h : ∀ k, o = some k → k < 128) : ∃ s, dRepr (.lst [oI o, oI o]) = some (.str s, .fz) := by
  refine ⟨_, repr_ok (p := .list [oP o, oP o]) ?_ ?_⟩
  · simp [toPy, toPyL, oI_py]
  · cases o with
    | none => exact okRepr_non
    | some k => exact okRepr_two k (h k rfl)
abbrev TS : List String := ["int", "bool", "str", "NoneType", "list", "tuple", "dict"]
theorem tab_int : (tyTab ["int"] TS).lookup (.ty "int") = some true := by decide +kernel
theorem tab_bool : (tyTab ["bool"] TS).lookup (.ty "int") = some false := by decide +kernel
theorem tab_list : (tyTab ["list", "tuple"] TS).lookup (.ty "list") = some true := by decide +kernel
@[simp] theorem isi_int_int (n : Int) : dIsi (tyTab ["int"] TS) (.int n) = some (.bl true, .fz) := by simp [dIsi, D.tag, tab_int]
@[simp] theorem isi_int_bool (n : Int) : dIsi (tyTab ["bool"] TS) (.int n) = some (.bl false, .fz) := by simp [dIsi, D.tag, tab_bool]
@[simp] theorem isi_list (l : List D) : dIsi (tyTab ["list", "tuple"] TS) (.lst l) = some (.bl true, .fz) := by simp [dIsi, D.tag, tab_list]
theorem find_range {c : Nat → Bool} {n m : Nat} (h : n ≤ m) (hc : ∀ k, n ≤ k → k < m → c k = true → ∃ j, j < n ∧ c j = true) : (List.range m).find? c = (List.range n).find? c := by
  cases e : (List.range n).find? c with
  | some i =>
    rw [List.find?_range_eq_some] at e ⊢
    obtain ⟨h1, h2, h3⟩ := e
    exact ⟨h1, List.mem_range.mpr (Nat.lt_of_lt_of_le (List.mem_range.mp h2) h), h3⟩
  | none =>
    rw [List.find?_range_eq_none] at e ⊢
    intro k hk
    by_cases hn : k < n
    · exact e k hn
    · cases q : c k with
      | false => rfl
      | true =>
        obtain ⟨j, hj, hcj⟩ := hc k (by omega) hk q
        have := e j hj
        rw [hcj] at this; cases this
/-- a loop that returns at the first hit -/
theorem forL_find {α : Type} {g : GE} {body : SE} (f : α → D) (c : α → Bool) (v : α → D) (I : Env → Prop) (h : ∀ x ρ, I ρ → ∃ ρ1, g (f x) ρ = .ok ρ1 ∧ (c x = false → ∃ ρ2, body ρ1 = .ok (.nx ρ2) ∧ I ρ2) ∧ (c x = true → ∃ ρ2, body ρ1 = .ok (.rt (v x) .fz ρ2))) : ∀ (xs : List α) (ρ : Env), I ρ →
    (∀ x, xs.find? c = some x → ∃ ρ', forL g body (xs.map f) ρ = .ok (.rt (v x) .fz ρ')) ∧ (xs.find? c = none → ∃ ρ', forL g body (xs.map f) ρ = .ok (.nx ρ') ∧ I ρ')
  | [], ρ, hI => ⟨fun x e => (by simp at e), fun _ => ⟨ρ, rfl, hI⟩⟩
  | x :: xs, ρ, hI => by
    obtain ⟨ρ1, h1, h2, h3⟩ := h x ρ hI
    simp only [List.map_cons, forL, h1, Res.bind_ok, List.find?_cons]
    cases e : c x with
    | true =>
      obtain ⟨ρ2, h4⟩ := h3 e
      simp only [h4, Res.bind_ok]
      exact ⟨fun y q => by cases q; exact ⟨ρ2, rfl⟩, fun q => (by cases q)⟩
    | false =>
      obtain ⟨ρ2, h4, h5⟩ := h2 e
      simp only [h4, Res.bind_ok]
      exact forL_find f c v I h xs ρ2 h5
end VL
/-! VL24: comprehensions whose element may change what owned slots hold. -/
namespace VL
open PySem PySem.Spec PyProof.Rows L2

def lcM (vs : List Nat) (g : GE) (t : BE) (e : EE) : List D → Env → Res (List D × Env)
  | [], ρ => .ok ([], ρ)
  | d :: ds, ρ => (g d ρ).bind fun ρ1 => (t ρ1).bind fun bt =>
    if bt.1 = true then (e ρ1).bind fun r =>
      if (decide (r.2.1 ≠ .br) && (r.1.fzOk && wipable r.2.2 vs)) = true then (lcM vs g t e ds (wipeR r.2.2 vs)).bind fun q => .ok (r.1 :: q.1, q.2) else .bad
    else if wipable ρ1 vs = true then lcM vs g t e ds (wipeR ρ1 vs) else .bad
def xLcM (vs : List Nat) (it : IE) (g : GE) (t : BE) (e : EE) : EE := fun ρ => do
  let (ds, br, ρ1) ← it ρ
  if br = false ∧ wipable ρ1 vs = true ∧ ds.length ≤ sizeLine then
    match lcM vs g t e ds (wipeR ρ1 vs) with
    | .ok (l, ρ2) => .ok (.lst l, .ow, ρ2)
    | _ => .bad
  else .bad
/-- from y to u, all but the new list D0 -/
structure ExtD (D0 : Addr) (x y : Stt) : Prop where
  kp : Kept (D0 :: (x.o ++ x.p)) x.H y.H
  f1 : ∀ a, x.F a → y.F a
  f2 : ∀ a, y.F a → x.F a ∨ x.H a = none
  o1 : ∀ a ∈ y.o, a ∈ x.o ∨ x.H a = none
  p1 : y.p = x.p
  b1 : y.b = x.b
  dm : ∀ a, y.H a = none → x.H a = none
  lk : ∀ (j : Nat) (d : D) (fl : Fl), x.rho[j]? = some (some (d, fl)) → fl = Fl.lk ∨ fl = Fl.pn → ∃ d', y.rho[j]? = some (some (d', fl)) ∧ (fl = Fl.lk → d' = d)
theorem ExtD.of {D0 : Addr} {s : Bool} {x y : Stt} (e : Ext s x y) : ExtD D0 x y := ⟨e.kp.mono fun a h => List.mem_cons_of_mem _ h, e.f1, e.f2, e.o1, e.p1, e.b1, e.dm, e.lk⟩
theorem ExtD.trans {D0 : Addr} {x y z : Stt} (a : ExtD D0 x y) (b : ExtD D0 y z) : ExtD D0 x z where
  kp := a.kp.trans b.kp fun c hc => by
    rcases List.mem_cons.mp hc with q | q
    · exact .inl (by simp [q])
    · rcases List.mem_append.mp q with q | q
      · rcases a.o1 c q with q | q
        · exact .inl (by simp [q])
        · exact .inr q
      · rw [a.p1] at q; exact .inl (by simp [q])
  f1 := fun c h => b.f1 c (a.f1 c h)
  f2 := fun c h => by
    rcases b.f2 c h with q | q
    · exact a.f2 c q
    · exact .inr (a.dm c q)
  o1 := fun c h => by
    rcases b.o1 c h with q | q
    · exact a.o1 c q
    · exact .inr (a.dm c q)
  p1 := b.p1.trans a.p1
  b1 := b.b1.trans a.b1
  dm := fun c h => a.dm c (b.dm c h)
  lk := fun j d fl e hf => by
    obtain ⟨d1, e1, k1⟩ := a.lk j d fl e hf
    obtain ⟨d2, e2, k2⟩ := b.lk j d1 fl e1 hf
    exact ⟨d2, e2, fun h => (k2 h).trans (k1 h)⟩
theorem ExtD.tstep {G : Gm} {D0 : Addr} {is : List Nat} {x y : Stt} (t : TStep G is x y) : ExtD D0 x y := ⟨by rw [t.H]; exact .refl, fun a f => by rw [t.F]; exact f, fun a f => .inl (by rw [← t.F]; exact f), fun a h => .inl (t.o1 a h), t.p1, t.b1, fun a h => by rw [← t.H]; exact h, fun j d fl e hf => ⟨d, (t.lk j d fl e hf).1, fun _ => rfl⟩⟩
theorem Slots.refill {G : Gm} {F : Addr → Prop} {H : Hp} {ρ : Env} {σ : St} {o p b : List Addr} (h : Slots G F H ρ σ o p b) : ∀ {τ : St}, τ.length = σ.length → (∀ j : Nat, ρ[j]? ≠ some Option.none → τ[j]? = σ[j]?) → Slots G F H ρ τ o p b := by
  induction h with
  | nil => intro τ hl _; cases τ with
    | nil => exact .nil
    | cons _ _ => simp at hl
  | none _ ih =>
    intro τ hl hs
    cases τ with
    | nil => simp at hl
    | cons x τ => exact .none (ih (by simpa using hl) fun j hj => by simpa using hs (j + 1) (by simpa using hj))
  | fz r _ ih =>
    intro τ hl hs
    cases τ with
    | nil => simp at hl
    | cons x τ =>
      have e := hs 0 (by simp)
      simp at e; subst e
      exact .fz r (ih (by simpa using hl) fun j hj => by simpa using hs (j + 1) (by simpa using hj))
  | ow w n _ ih =>
    intro τ hl hs
    cases τ with
    | nil => simp at hl
    | cons x τ =>
      have e := hs 0 (by simp)
      simp at e; subst e
      exact .ow w n (ih (by simpa using hl) fun j hj => by simpa using hs (j + 1) (by simpa using hj))
  | pn w n _ ih =>
    intro τ hl hs
    cases τ with
    | nil => simp at hl
    | cons x τ =>
      have e := hs 0 (by simp)
      simp at e; subst e
      exact .pn w n (ih (by simpa using hl) fun j hj => by simpa using hs (j + 1) (by simpa using hj))
  | lk w _ ih =>
    intro τ hl hs
    cases τ with
    | nil => simp at hl
    | cons x τ =>
      have e := hs 0 (by simp)
      simp at e; subst e
      exact .lk w (ih (by simpa using hl) fun j hj => by simpa using hs (j + 1) (by simpa using hj))
theorem wipe_lk {ρ : Env} {vs : List Nat} (hw : wipable ρ vs = true) {j : Nat} {d : D} {fl : Fl} (e : ρ[j]? = some (some (d, fl))) (hf : fl = .lk ∨ fl = .pn) : (wipeR ρ vs)[j]? = some (some (d, fl)) := by
  rw [wipeR_get, if_neg]
  · exact e
  · rintro ⟨hj, _⟩
    simp only [wipable, List.all_eq_true] at hw
    have := hw j hj
    unfold slotFree at this
    rw [e] at this
    rcases hf with rfl | rfl <;> simp at this
theorem nextU {G : Gm} {D0 : Addr} {v : Stt} {vs : List Nat} (hv : SInv G v) (hw : wipable v.rho vs = true) : SInv G ⟨v.F, wipeR v.rho vs, wipe v.sg vs, v.H, v.o, v.p, v.b⟩ ∧ ExtD D0 v ⟨v.F, wipeR v.rho vs, wipe v.sg vs, v.H, v.o, v.p, v.b⟩ :=
  ⟨⟨hv.sl.wipe hw, hv.nd, hv.dom, hv.tb⟩, ⟨.refl, fun _ f => f, fun _ f => .inl f, fun _ h => .inl h, rfl, rfl, fun _ h => h, fun j d fl e hf => ⟨d, wipe_lk hw e hf, fun _ => rfl⟩⟩⟩
theorem wiped {ρ : Env} {vs : List Nat} {j : Nat} (hj : j ∈ vs) (hl : j < ρ.length) : (wipeR ρ vs)[j]? = some Option.none := by
  rw [wipeR_get, if_pos ⟨hj, hl⟩]
/-- the new list grows -/
theorem growU {G : Gm} {D0 : Addr} {v : Stt} {ws : List V} {acc : List D} {yv : V} (hv : SInv G v) (nF : ¬ v.F D0) (no : D0 ∉ v.o ∧ D0 ∉ v.p ∧ D0 ∉ v.b) (e : v.H D0 = some (.lst ws)) : SInv G { v with H := upd v.H D0 (.lst (ws ++ [yv])) } ∧ ExtD D0 v { v with H := upd v.H D0 (.lst (ws ++ [yv])) } := by
  have ou : ∀ a, a ∈ v.o ∨ a ∈ v.p ∨ a ∈ v.b → a ≠ D0 := fun a ha z => by
    subst z
    rcases ha with h | h | h
    · exact no.1 h
    · exact no.2.1 h
    · exact no.2.2 h
  refine ⟨⟨hv.sl.keep (fun _ h => h) (kf_upd nF) fun a ha => ⟨(hv.there ha).1, fun o e' _ => by show upd v.H D0 _ a = _; rw [upd_ne (ou a ha)]; exact e'⟩, hv.nd, fun a f => ?_, tabs_upd hv.tb e rfl (fun φ z => by cases z)⟩, ⟨fun a o e' n _ => ?_, fun _ f => f, fun _ f => .inl f, fun _ h => .inl h, rfl, rfl, fun a h => ?_, fun j d fl e' hf => ⟨d, e', fun _ => rfl⟩⟩⟩
  · have na : a ≠ D0 := fun z => nF (z ▸ f)
    obtain ⟨o, e', t⟩ := hv.dom a f
    exact ⟨o, by show upd v.H D0 _ a = _; rw [upd_ne na]; exact e', t⟩
  · show upd v.H D0 _ a = _
    rw [upd_ne (fun z => n (by simp [z]))]; exact e'
  · have h : upd v.H D0 (.lst (ws ++ [yv])) a = none := h
    by_cases ea : a = D0
    · subst ea; rw [upd_same] at h; cases h
    · rwa [upd_ne ea] at h
theorem freezeU {G : Gm} {D0 : Addr} {s : Bool} {u2 u3 : Stt} {yv : V} {vd : D} {k : Kd} {fv : List Addr} (P : EPost G s u2 u3 yv vd k fv) (hk : k ≠ .br) (hz : vd.fzOk = true) : SInv G { u3 with F := fun a => u3.F a ∨ a ∈ fv } ∧ ExtD D0 u2 { u3 with F := fun a => u3.F a ∨ a ∈ fv } ∧ Rep G (fun a => u3.F a ∨ a ∈ fv) u3.H [yv] [vd] ∧ ∀ a ∈ fv, u2.H a = none := by
  have fr : ∀ a ∈ fv, u2.H a = none := fun a ha => by
    cases k with
    | br => exact absurd rfl hk
    | fz => have : fv = [] := P.kd; rw [this] at ha; simp at ha
    | ow => exact (P.kd.2 a ha).1
  refine ⟨P.inv.freeze fun a ha => ⟨(P.own.there a ha).2, ?_⟩, ⟨P.ext.kp.mono fun a h => List.mem_cons_of_mem _ h, fun a f => .inl (P.ext.f1 a f), fun a f => ?_, P.ext.o1, P.ext.p1, P.ext.b1, P.ext.dm, P.ext.lk⟩, P.own.rep (fun a ha => .inr ha) (fun _ h => .inl h) hz, fr⟩
  · cases k with
    | br => exact absurd rfl hk
    | fz => have : fv = [] := P.kd; rw [this] at ha; simp at ha
    | ow => exact (P.kd.2 a ha).2
  · rcases f with f | f
    · exact P.ext.f2 a f
    · exact .inr (fr a f)
structure LcU (G : Gm) (y : Stt) (vs : List Nat) (D0 : Addr) (ws : List V) (acc : List D) (u : Stt) : Prop where
  inv : SInv G u
  sg : u.sg = wipe y.sg vs
  ext : ExtD D0 y u
  nF : ¬ u.F D0
  no : D0 ∉ u.o ∧ D0 ∉ u.p ∧ D0 ∉ u.b
  eD : u.H D0 = some (.lst ws)
  rep : Rep G u.F u.H ws acc
  hz : ∀ j ∈ vs, j < u.rho.length → u.rho[j]? = some Option.none
section
variable {X : Cx} {G : Gm} {W : WX} {z : Stt}
/-- behind a turn: the state that the next turn meets -/
theorem LcU.next {y v : Stt} {vs : List Nat} {D0 : Addr} {ws : List V} {acc : List D} (hv : SInv G v) (hw : wipable v.rho vs = true) (hs : wipe v.sg vs = wipe y.sg vs) (e : ExtD D0 y v) (nF : ¬ v.F D0) (no : D0 ∉ v.o ∧ D0 ∉ v.p ∧ D0 ∉ v.b) (eD : v.H D0 = some (.lst ws)) (r : Rep G v.F v.H ws acc) :
    LcU G y vs D0 ws acc ⟨v.F, wipeR v.rho vs, wipe v.sg vs, v.H, v.o, v.p, v.b⟩ := by
  obtain ⟨i1, e1⟩ := nextU (D0 := D0) hv hw
  exact ⟨i1, hs, e.trans e1, nF, no, eD, r, fun j hj hl => wiped hj (by rw [wipeR_length] at hl; exact hl)⟩
theorem tS_lcM {s : Bool} {vs is : List Nat} {it : IE} {g : GE} {t : BE} {e : EE} (his : ∀ j ∈ is, j ∈ vs) {σ H Q} (h : tS G W false (xLcM vs it g t e) σ H Q) : tLc (tI G W s it) (tG G is g) (tB G W0 true t) (tS G W0 false e) vs σ H Q := by
  obtain ⟨x, rfl, rfl, hx, q⟩ := h
  refine ⟨x, rfl, rfl, hx, ?_⟩
  unfold xLcM at q
  cases e1 : it x.rho with
  | bad => simp only [e1, Res.bind_bad] at q
  | err c d ρ' =>
    simp only [e1, Res.bind_err] at q
    exact fun y cls dx hρ iy ey hev => q y cls dx hρ iy (ey.weak fun z => by cases z) hev
  | ok r =>
    obtain ⟨ds, br, ρ1⟩ := r
    simp only [e1, Res.bind_ok] at q
    intro y J hρ iy ey wk D0 hD
    have hc : br = false ∧ wipable ρ1 vs = true ∧ ds.length ≤ sizeLine := by
      by_cases hc : br = false ∧ wipable ρ1 vs = true ∧ ds.length ≤ sizeLine
      · exact hc
      · rw [if_neg hc] at q; exact q.elim
    rw [if_pos hc] at q
    obtain ⟨rfl, hw, hz⟩ := hc
    rw [← hρ] at hw
    cases hl : lcM vs g t e ds (wipeR ρ1 vs) with
    | bad => simp only [hl] at q
    | err c d ρ' => simp only [hl] at q
    | ok lr =>
    obtain ⟨l, ρf⟩ := lr
    simp only [hl] at q
    rw [← hρ] at hl
    have nD : ∀ a, y.F a ∨ a ∈ y.o ∨ a ∈ y.p ∨ a ∈ y.b → a ≠ D0 := fun a ha z => by
      subst z
      rcases ha with f | h
      · obtain ⟨o, e, _⟩ := iy.dom a f; rw [hD] at e; cases e
      · obtain ⟨_, o, e, _⟩ := iy.sl.there a h; rw [hD] at e; cases e
    have kf0 : KeptF y.F y.H (upd y.H D0 (.lst [])) := fun a o f e _ => by rw [upd_ne (nD a (.inl f))]; exact e
    have i0 : SInv G ⟨y.F, y.rho, y.sg, upd y.H D0 (.lst []), y.o, y.p, y.b⟩ := by
      refine ⟨iy.sl.keep (fun _ h => h) kf0 fun a ha => ⟨(iy.sl.there a ha).1, fun o e _ => by show upd y.H D0 _ a = _; rw [upd_ne (nD a (.inr ha))]; exact e⟩, iy.nd, fun a f => ?_, iy.tb.ext fun b o e => by show upd y.H D0 _ b = _; rw [upd_ne (ne_of_none e hD)]; exact e⟩
      obtain ⟨o, e, tt⟩ := iy.dom a f
      exact ⟨o, by show upd y.H D0 _ a = _; rw [upd_ne (nD a (.inl f))]; exact e, tt⟩
    have e0 : ExtD D0 y ⟨y.F, y.rho, y.sg, upd y.H D0 (.lst []), y.o, y.p, y.b⟩ := ⟨fun a o e n _ => by show upd y.H D0 _ a = _; rw [upd_ne (fun z => n (by simp [z]))]; exact e, fun _ f => f, fun _ f => .inl f, fun _ h => .inl h, rfl, rfl, fun a h => by
      have h : upd y.H D0 (.lst []) a = none := h
      by_cases ea : a = D0
      · subst ea; exact hD
      · rwa [upd_ne ea] at h, fun j d fl e hf => ⟨d, e, fun _ => rfl⟩⟩
    have U0 : LcU G y vs D0 [] [] ⟨y.F, wipeR y.rho vs, wipe y.sg vs, upd y.H D0 (.lst []), y.o, y.p, y.b⟩ := LcU.next i0 hw rfl e0 (fun f => nD D0 (.inl f) rfl) ⟨fun h => nD D0 (.inr (.inl h)) rfl, fun h => nD D0 (.inr (.inr (.inl h))) rfl, fun h => nD D0 (.inr (.inr (.inr h))) rfl⟩ upd_same .nil
    have sgx : wipe x.sg vs = wipe y.sg vs := by rw [ey.sg]
    refine ⟨fun i m H => ∃ u ws acc, u.H = H ∧ LcU G y vs D0 ws acc u ∧ ws.length ≤ i ∧ m = ds.length - i ∧ i ≤ ds.length ∧ ∃ r, lcM vs g t e (ds.drop i) u.rho = .ok (r, ρf) ∧ l = acc ++ r, ⟨ds.length, _, [], [], rfl, U0, by simp, by simp, Nat.zero_le _, l, by simpa using hl, by simp⟩, ?_⟩
    rintro i m H1 ⟨u, ws, acc, rfl, U, hws, rfl, hi, r, hr, rfl⟩
    have kfu : KeptF y.F y.H u.H := fun a o f e tt => U.ext.kp a o e (fun z => by
      rcases List.mem_cons.mp z with z | z
      · exact nD a (.inl f) z
      · rcases List.mem_append.mp z with z | z
        · exact (iy.sl.there a (.inl z)).1 f
        · exact (iy.sl.there a (.inr (.inl z))).1 f) tt
    have wkw := wk u U.inv U.ext.f1 kfu (fun z => by cases z) i
    rcases Nat.lt_or_ge i ds.length with hlt | hge
    rotate_left
    · have ei : i = ds.length := by omega
      subst ei
      rw [List.drop_length] at hr
      simp only [lcM, Res.ok.injEq, Prod.mk.injEq] at hr
      obtain ⟨rfl, hr⟩ := hr
      refine .inl ⟨wkw.2 (Nat.le_refl _), ?_⟩
      have len : y.sg.length = u.sg.length := by rw [U.sg, wipe_length]
      have s1 : Slots G u.F u.H u.rho y.sg u.o u.p u.b := U.inv.sl.refill len fun j hj => by
        rw [U.sg, wipe_get]
        by_cases hjv : j ∈ vs ∧ j < y.sg.length
        · exact absurd (U.hz j hjv.1 (by rw [U.inv.sl.length, ← len]; exact hjv.2)) hj
        · rw [if_neg hjv]
      have E : ExtD D0 x u := (ExtD.of ey).trans U.ext
      rw [List.append_nil] at q
      refine q ⟨u.F, u.rho, y.sg, u.H, u.o, u.p, u.b⟩ (.ref D0) [D0] hr ⟨⟨s1, U.inv.nd, U.inv.dom, U.inv.tb⟩, ⟨ey.sg, fun a o e n tt => E.kp a o e (fun z => ?_) tt, E.f1, E.f2, E.o1, E.p1, E.b1, E.dm, E.lk, fun z => by cases z⟩, .ow U.nF ⟨ws, U.eD, by omega, U.rep⟩, ⟨by simp, fun a ha => ?_⟩, .ow⟩
      · rcases List.mem_cons.mp z with z | z
        · subst z; rw [ey.dm a hD] at e; cases e
        · exact n z
      · have : a = D0 := by simpa using ha
        subst this
        exact ⟨ey.dm a hD, U.no⟩
    · have ed : ds[i]? = some ds[i] := List.getElem?_eq_getElem hlt
      obtain ⟨hgo, hyld⟩ := wkw.1 _ ed
      rw [List.drop_eq_getElem_cons hlt] at hr
      simp only [lcM] at hr
      cases hg : g ds[i] u.rho with
      | bad => simp only [hg, Res.bind] at hr; cases hr
      | err c d ρ' => simp only [hg, Res.bind] at hr; cases hr
      | ok ρ2 =>
      simp only [hg, ev_rbind_ok] at hr
      cases ht : t ρ2 with
      | bad => simp only [ht, Res.bind] at hr; cases hr
      | err c d ρ' => simp only [ht, Res.bind] at hr; cases hr
      | ok r2 =>
      obtain ⟨b, ρ3⟩ := r2
      simp only [ht, ev_rbind_ok] at hr
      refine .inr ⟨hgo, fun H2 => ∃ u' ws acc', u'.H = H2 ∧ LcU G y vs D0 ws acc' u' ∧ ws.length ≤ i + 1 ∧ ∃ r', lcM vs g t e (ds.drop (i + 1)) u'.rho = .ok (r', ρf) ∧ acc ++ r = acc' ++ r', fun H2 ⟨u', ws, acc', h0, I2, h2, r', h3, h4⟩ => ⟨ds.length - (i + 1), by omega, u', ws, acc', h0, I2, h2, rfl, hlt, r', h3, h4⟩, fun v H2 yl => ?_⟩
      obtain ⟨F2, n⟩ := hyld v H2 yl
      have P := n.post U.inv
      have r1 : Rep G F2 H2 [v] [ds[i]] := n.own.fz_of
      refine ⟨{ u with F := F2, H := H2 }, ds[i], by show u.sg = _; rw [U.sg, sgx], rfl, P.inv, r1, ?_⟩
      show (match g ds[i] u.rho with | .ok ρ' => _ | _ => False)
      rw [hg]
      intro w hu tu
      have wsg : wipe w.sg vs = wipe y.sg vs := wipe_same (by rw [tu.len]; show u.sg.length = _; rw [U.sg, wipe_length]) (fun j hj => by rw [tu.out j hj]; show u.sg[j]? = _; rw [U.sg]) his
      refine ⟨by rw [wsg, sgx], w, rfl, rfl, tu.inv, ?_⟩
      rw [hu, ht]
      intro u2 hu2 iu2 eu2
      obtain ⟨ρu2, ku2, ou2⟩ := eu2.st rfl
      have E2 : ExtD D0 y u2 := ((U.ext.trans (ExtD.of P.ext)).trans (ExtD.tstep tu)).trans (ExtD.of eu2)
      have hH : w.H = H2 := tu.H
      have hF : w.F = F2 := tu.F
      have eD2 : u2.H D0 = some (.lst ws) := ku2 D0 _ (by rw [hH]; exact n.kp _ _ U.eD) (by simp) rfl
      have f12 : ∀ a, u.F a → u2.F a := fun a f => eu2.f1 a (by rw [hF]; exact n.f1 a f)
      have nF2 : ¬ u2.F D0 := fun f => by
        rcases eu2.f2 D0 f with q | q
        · rw [hF] at q
          rcases n.f2 D0 q with q | q
          · exact U.nF q
          · rw [U.eD] at q; cases q
        · rw [hH, n.kp _ _ U.eD] at q; cases q
      have no2 : D0 ∉ u2.o ∧ D0 ∉ u2.p ∧ D0 ∉ u2.b := by
        refine ⟨fun z => ?_, fun z => ?_, fun z => ?_⟩
        · rw [ou2] at z; exact U.no.1 (tu.o1 D0 z)
        · rw [eu2.p1, tu.p1] at z; exact U.no.2.1 z
        · rw [eu2.b1, tu.b1] at z; exact U.no.2.2 z
      have rep2 : Rep G u2.F u2.H ws acc := (U.rep.keep (fun a f => n.f1 a f) (fun a o _ e _ => n.kp a o e)).keep (fun a f => eu2.f1 a (by rw [hF]; exact f)) (fun a o _ e tt => ku2 a o (by rw [hH]; exact e) (by simp) tt)
      have ρ2e : u2.rho = ρ2 := by rw [ρu2, hu]
      have sg2 : wipe u2.sg vs = wipe y.sg vs := by rw [eu2.sg]; exact wsg
      cases b with
      | false =>
        rw [if_neg (by simp)] at hr ⊢
        by_cases hw2 : wipable ρ2 vs = true
        · rw [if_pos hw2] at hr
          have U2 := LcU.next iu2 (by rw [ρ2e]; exact hw2) sg2 E2 nF2 no2 eD2 rep2
          exact ⟨⟨u2.F, wipeR u2.rho vs, wipe u2.sg vs, u2.H, u2.o, u2.p, u2.b⟩, ws, acc, rfl, U2, by omega, r, by show lcM vs g t e _ (wipeR u2.rho vs) = _; rw [ρ2e]; exact hr, rfl⟩
        · rw [if_neg hw2] at hr; cases hr
      | true =>
        rw [if_pos rfl] at hr ⊢
        cases he : e ρ2 with
        | bad => simp only [he, Res.bind] at hr; cases hr
        | err c d ρ' => simp only [he, Res.bind] at hr; cases hr
        | ok r3 =>
        obtain ⟨vd, k, ρ4⟩ := r3
        simp only [he, ev_rbind_ok] at hr
        have hk : (decide (k ≠ .br) && (vd.fzOk && wipable ρ4 vs)) = true := by
          by_cases hk : (decide (k ≠ .br) && (vd.fzOk && wipable ρ4 vs)) = true
          · exact hk
          · rw [if_neg hk] at hr; cases hr
        rw [if_pos hk] at hr
        simp only [Bool.and_eq_true, decide_eq_true_eq] at hk
        obtain ⟨hk1, hk2, hk3⟩ := hk
        cases h5 : lcM vs g t e (ds.drop (i + 1)) (wipeR ρ4 vs) with
        | bad => simp only [h5, Res.bind] at hr; cases hr
        | err c d ρ' => simp only [h5, Res.bind] at hr; cases hr
        | ok rr =>
        obtain ⟨r', ρf'⟩ := rr
        simp only [h5, ev_rbind_ok, Res.ok.injEq, Prod.mk.injEq] at hr
        obtain ⟨rfl, rfl⟩ := hr
        refine ⟨u2, by rw [eu2.sg], rfl, iu2, ?_⟩
        rw [ρ2e, he]
        intro u3 yv fv hu3 P3
        have eD3 : u3.H D0 = some (.lst ws) := P3.ext.kp _ _ eD2 (fun z => by
          rcases List.mem_append.mp z with z | z
          · exact no2.1 z
          · exact no2.2.1 z) rfl
        have nF3 : ¬ u3.F D0 := fun f => by
          rcases P3.ext.f2 D0 f with q | q
          · exact nF2 q
          · rw [eD2] at q; cases q
        have no3 : D0 ∉ u3.o ∧ D0 ∉ u3.p ∧ D0 ∉ u3.b := by
          refine ⟨fun z => ?_, fun z => ?_, fun z => ?_⟩
          · rcases P3.ext.o1 D0 z with z | z
            · exact no2.1 z
            · rw [eD2] at z; cases z
          · rw [P3.ext.p1] at z; exact no2.2.1 z
          · rw [P3.ext.b1] at z; exact no2.2.2 z
        refine ⟨ws, eD3, by omega, ?_⟩
        obtain ⟨i3, x3, rv, fr⟩ := freezeU (D0 := D0) P3 hk1 hk2
        have nF3' : ¬ (u3.F D0 ∨ D0 ∈ fv) := fun f => by
          rcases f with f | f
          · exact nF3 f
          · have := fr D0 f; rw [eD2] at this; cases this
        obtain ⟨i4, x4⟩ := growU (ws := ws) (acc := acc) (yv := yv) i3 nF3' no3 eD3
        have rep3 : Rep G (fun a => u3.F a ∨ a ∈ fv) u3.H ws acc := rep2.keep (fun a f => .inl (P3.ext.f1 a f)) (P3.ext.keptF iu2)
        have rep4 : Rep G (fun a => u3.F a ∨ a ∈ fv) (upd u3.H D0 (.lst (ws ++ [yv]))) (ws ++ [yv]) (acc ++ [vd]) := (rep3.snoc rv).keep (fun _ h => h) (kf_upd nF3')
        have U4 := LcU.next i4 (by show wipable u3.rho vs = true; rw [hu3]; exact hk3) (by show wipe u3.sg vs = _; rw [P3.ext.sg]; exact sg2) ((E2.trans x3).trans x4) nF3' no3 upd_same rep4
        exact ⟨⟨fun a => u3.F a ∨ a ∈ fv, wipeR u3.rho vs, wipe u3.sg vs, upd u3.H D0 (.lst (ws ++ [yv])), u3.o, u3.p, u3.b⟩, ws ++ [yv], acc ++ [vd], rfl, U4, by simp; omega, r', by show lcM vs g t e _ (wipeR u3.rho vs) = _; rw [hu3]; exact h5, by simp⟩
theorem r_lcM {elt tg iter : Expr} {ifs : List Expr} {scope : Scope} {own : List (Str × Nat)} {pos : Pos} {s : Bool} {is : List Nat} {it : IE} {g : GE} {t : BE} {e : EE} (hc : X.calm = true) (hN : X.N.Nodup) (hi : PI X tg iter (tI G W s it)) (ok : BlkOk X.N X.env.scope scope own)
    (his : ∀ j ∈ is, j ∈ own.map (·.2))
    (hg : ∀ (s : Shared) (H : Hp) (C : Addr) (cl : List (Str × Addr)) (fp : List Addr), PG (X.blk s H scope (compEnvC scope cl C X.env) fp) tg (tG G is g)) (ht : ∀ (s : Shared) (H : Hp) (C : Addr) (cl : List (Str × Addr)) (fp : List Addr), PTs (X.blk s H scope (compEnvC scope cl C X.env) fp) ifs (tB G W0 true t))
    (he : ∀ (s : Shared) (H : Hp) (C : Addr) (cl : List (Str × Addr)) (fp : List Addr), PE (X.blk s H scope (compEnvC scope cl C X.env) fp) elt (tS G W0 false e)) (hs : ∀ x, foldedSetIterable iter X.env x = pure x := by intro _; rfl) :
    PE X (.ListComp elt [⟨tg, iter, ifs, 0⟩] scope pos) (tS G W false (xLcM (own.map (·.2)) it g t e)) :=
  PE.of (pe_lc hc hN hi ok hg ht he hs) fun σ H Q h => tS_lcM his h
end
end VL
/-! VL25: two names set at once, each frozen or owned. -/
namespace VL
open PySem PySem.Spec PyProof.Rows L2

def KdZ (z y : Stt) (k : Kd) (fv : List Addr) : Prop := match k with
  | .fz => fv = []
  | .ow => fv ≠ [] ∧ ∀ a ∈ fv, z.H a = none ∧ a ∉ y.o ∧ a ∉ y.p ∧ a ∉ y.b
  | .br => True
theorem set_core {G : Gm} {z y : Stt} {v : V} {d : D} {k : Kd} {fv : List Addr} {fl : Fl} {i : Nat} {ρ2 : Env} (hy : SInv G y) (hz : EInv z y) (ow : Own G y.F y.H v d fv) (kd : KdZ z y k fv) (h : setSlot fl i d k y.rho = .ok ρ2) :
    ∃ w : Stt, w.rho = ρ2 ∧ w.sg = y.sg.set i (some v) ∧ w.H = y.H ∧ SStep G z y w ∧ (∀ a ∈ w.o, a ∈ y.o ∨ a ∈ fv) ∧ w.p = y.p ∧ w.b = y.b ∧ (∀ a, w.F a → y.F a ∨ a ∈ fv) ∧ (∀ a, y.F a → w.F a) := by
  unfold setSlot at h
  by_cases hc : canSet y.rho i = true
  · rw [if_pos hc] at h
    obtain ⟨hi, hn⟩ := canSet_spec hc
    have dis : k = .ow → ∀ a ∈ fv, a ∉ y.o ∧ a ∉ y.p ∧ a ∉ y.b := fun e a ha => by subst e; exact (kd.2 a ha).2
    have lkk : ∀ {sl : Option (D × Fl)} (j : Nat) (d0 : D) (fl0 : Fl), y.rho[j]? = some (some (d0, fl0)) → fl0 = Fl.lk ∨ fl0 = Fl.pn → ∃ d', (y.rho.set i sl)[j]? = some (some (d', fl0)) ∧ (fl0 = Fl.lk → d' = d0) ∧ (y.sg.set i (some v))[j]? = y.sg[j]? := by
      intro sl j d0 fl0 e hf
      have ne : i ≠ j := by
        intro q; subst q
        rcases hn _ _ e with q | q <;> subst q <;> simp at hf
      exact ⟨d0, by rw [List.getElem?_set_ne ne]; exact e, fun _ => rfl, by rw [List.getElem?_set_ne ne]⟩
    have frz : (k = .fz ∨ k = .ow ∧ d.fzOk = true) → ρ2 = y.rho.set i (some (d, .fz)) → ∃ w : Stt, w.rho = ρ2 ∧ w.sg = y.sg.set i (some v) ∧ w.H = y.H ∧ SStep G z y w ∧ (∀ a ∈ w.o, a ∈ y.o ∨ a ∈ fv) ∧ w.p = y.p ∧ w.b = y.b ∧ (∀ a, w.F a → y.F a ∨ a ∈ fv) ∧ (∀ a, y.F a → w.F a) := by
      intro hk e
      have fvf : k = .fz → fv = [] := fun q => by subst q; exact kd
      have hF : SInv G { y with F := fun a => y.F a ∨ a ∈ fv } := hy.freeze fun a ha => by
        rcases hk with q | q
        · rw [fvf q] at ha; simp at ha
        · exact ⟨(ow.there a ha).2, dis q.1 a ha⟩
      have hr : Rep G (fun a => y.F a ∨ a ∈ fv) y.H [v] [d] := by
        rcases hk with q | q
        · have : fv = [] := fvf q
          subst this
          exact ow.fz_of.keep (fun _ h => .inl h) .refl
        · exact ow.rep (fun a ha => .inr ha) (fun _ h => .inl h) q.2
      obtain ⟨o1, old, o3, eo, sl⟩ := hF.sl.set (i := i) hi hn (.fz hr)
      have eo : y.o = o1 ++ (old ++ o3) := eo
      have sub : ∀ a, a ∈ o1 ++ ([] ++ o3) → a ∈ y.o := fun a ha => by
        rw [eo]; simp only [List.mem_append, List.nil_append] at ha ⊢
        rcases ha with q | q
        · exact .inl q
        · exact .inr (.inr q)
      refine ⟨⟨fun a => y.F a ∨ a ∈ fv, ρ2, y.sg.set i (some v), y.H, o1 ++ ([] ++ o3), y.p, y.b⟩, rfl, rfl, rfl, ⟨⟨by rw [e]; exact sl, ?_, hF.dom, hy.tb⟩, ⟨fun a f => ?_, hz.kp, hz.p1, fun a ha => hz.o1 a (sub a ha), hz.dm, fun a f => .inl (hz.f0 a f)⟩, by rw [e]; exact lkk, .refl, fun a f => .inl f⟩, fun a ha => .inl (sub a ha), rfl, rfl, fun a f => f, fun a f => .inl f⟩
      · have := hy.nd; rw [eo] at this
        exact nodup_mid this (by simp) (by simp)
      · rcases f with f | f
        · exact hz.f1 a f
        · rcases hk with q | q
          · rw [fvf q] at f; simp at f
          · obtain ⟨q, _⟩ := q; subst q; exact .inr (kd.2 a f).1
    cases k with
    | br => simp at h
    | fz => simp at h; exact frz (.inl rfl) h.symm
    | ow =>
      cases fl with
      | ow =>
        simp at h
        obtain ⟨o1, old, o3, eo, sl⟩ := hy.sl.set (i := i) hi hn (.ow ow kd.1)
        refine ⟨⟨y.F, ρ2, y.sg.set i (some v), y.H, o1 ++ (fv ++ o3), y.p, y.b⟩, rfl, rfl, rfl, ⟨⟨by rw [← h]; exact sl, ?_, hy.dom, hy.tb⟩, ⟨hz.f1, hz.kp, hz.p1, fun a ha => ?_, hz.dm, hz.f0⟩, by rw [← h]; exact lkk, .refl, fun _ f => f⟩, fun a ha => ?_, rfl, rfl, fun a f => .inl f, fun a f => f⟩
        · have := hy.nd; rw [eo] at this
          refine nodup_mid this ow.nodup fun a ha => ?_
          obtain ⟨n1, n2, n3⟩ := dis rfl a ha
          rw [eo] at n1
          simp only [List.mem_append, not_or] at n1 ⊢
          exact ⟨n1.1, n1.2.2, n2, n3⟩
        · simp only [List.mem_append] at ha
          rcases ha with q | q | q
          · exact hz.o1 a (by rw [eo]; simp [q])
          · exact (kd.2 a q).1
          · exact hz.o1 a (by rw [eo]; simp [q])
        · simp only [List.mem_append] at ha
          rcases ha with q | q | q
          · exact .inl (by rw [eo]; simp [q])
          · exact .inr q
          · exact .inl (by rw [eo]; simp [q])
      | fz => by_cases hd : d.fzOk = true
              · simp [hd] at h; exact frz (.inr ⟨rfl, hd⟩) h.symm
              · simp [hd] at h
      | pn => by_cases hd : d.fzOk = true
              · simp [hd] at h; exact frz (.inr ⟨rfl, hd⟩) h.symm
              · simp [hd] at h
      | lk => by_cases hd : d.fzOk = true
              · simp [hd] at h; exact frz (.inr ⟨rfl, hd⟩) h.symm
              · simp [hd] at h
  · rw [if_neg hc] at h; cases h
def sPar2 (fl1 fl2 : Fl) (i j : Nat) (f1 f2 : EE) : SE := fun ρ => (f1 ρ).bind fun r1 => if r1.2.1 = .br then .bad else (f2 r1.2.2).bind fun r2 => if r2.2.1 = .br then .bad else
  (setSlot fl1 i r1.1 r1.2.1 r2.2.2).bind fun ρ3 => (setSlot fl2 j r2.1 r2.2.1 ρ3).bind fun ρ4 => .ok (.nx ρ4)
theorem setSlot_ne {fl : Fl} {i : Nat} {d : D} {k : Kd} {ρ : Env} {c : Nat} {e : D} {ρ' : Env} : setSlot fl i d k ρ ≠ .err c e ρ' := fun h1 => by
  unfold setSlot at h1
  split at h1
  · split at h1 <;> first | cases h1 | (split at h1 <;> cases h1)
  · cases h1
section
variable {X : Cx} {G : Gm} {W : WX} {z : Stt}
theorem r_par2 {fl1 fl2 : Fl} {i j : Nat} {x y : Str} {a b : Expr} {s t : Bool} {f1 f2 : EE} {px py pt pos : Pos} {kt k2 pt2} (hc : X.calm = true) (hN : X.N.Nodup) (hi : X.N[i]? = some x) (hj : X.N[j]? = some y) (hij : i ≠ j)
    (lx : X.env.scope.names.lookup x = some .local) (ly : X.env.scope.names.lookup y = some .local) (ha : PE X a (tS G W s f1)) (hb : PE X b (tS G W t f2)) (hst : starEach [a, b] X.env = (false, eval a X.env) :: starEach [b] X.env := by rfl) (hst2 : starEach [b] X.env = (false, eval b X.env) :: starEach [] X.env := by rfl)
    (hw : swappedStores [.Tuple [.Name x px, .Name y py] kt pt] (.Tuple [a, b] k2 pt2) X.env = pure (some [x, y]) := by rfl)
    (hs : swapsWithSole [.Tuple [.Name x px, .Name y py] kt pt] (.Tuple [a, b] k2 pt2) pos.line X.env = pure false := by rfl) :
    PS X (.Assign [.Tuple [.Name x px, .Name y py] kt pt] (.Tuple [a, b] k2 pt2) pos) (tT G W z (sPar2 fl1 fl2 i j f1 f2)) := PS.of (ps_par hc hN hi hj hij lx ly (pa_cons ha (pa_cons hb pa_nil hst2) hst) hw hs) fun Dn σ H h => by
  obtain ⟨x, rfl, rfl, hx, hz, q⟩ := h
  refine ⟨x, rfl, rfl, hx, ?_⟩
  unfold sPar2 at q
  cases e1 : f1 x.rho with
  | bad => simp only [e1, Res.bind] at q; exact q.elim
  | err c d ρ' =>
    simp only [e1, Res.bind] at q
    intro y cls dx hρ iy ey hev
    have := q y cls dx hρ (SStep.ext hz hx iy ey) hev
    rw [ey.sg] at this; exact this
  | ok r1 =>
  obtain ⟨d1, k1, ρ1⟩ := r1
  simp only [e1, ev_rbind_ok] at q
  intro y1 v1 fv1 hρ1 P1
  by_cases hk1 : k1 = .br
  · rw [if_pos hk1] at q; exact q.elim
  rw [if_neg hk1] at q
  refine ⟨y1, P1.ext.sg, rfl, P1.inv, ?_⟩
  rw [hρ1]
  cases e2 : f2 ρ1 with
  | bad => simp only [e2, Res.bind] at q; exact q.elim
  | err c d ρ' =>
    simp only [e2, Res.bind] at q
    intro y cls dx hρ iy ey hev
    have E := P1.ext.trans hx P1.inv ey
    have := q y cls dx hρ (SStep.ext hz hx iy E) hev
    rw [E.sg] at this; exact this
  | ok r2 =>
  obtain ⟨d2, k2, ρ2⟩ := r2
  simp only [e2, ev_rbind_ok] at q
  intro y2 v2 fv2 hρ2 P2
  refine ⟨v1, v2, rfl, ?_⟩
  by_cases hk2 : k2 = .br
  · rw [if_pos hk2] at q; exact q.elim
  rw [if_neg hk2] at q
  have E2 := P1.ext.trans hx P1.inv P2.ext
  obtain ⟨w1, kd1, _⟩ := carry P1.inv P1.ext.dm P1.own P1.kd P2.ext P1.src (fun e => absurd e hk1)
  cases e3 : setSlot fl1 i d1 k1 ρ2 with
  | bad => simp only [e3, Res.bind] at q; exact q.elim
  | err c d ρ' => exact absurd e3 setSlot_ne
  | ok ρ3 =>
  simp only [e3, ev_rbind_ok] at q
  cases e4 : setSlot fl2 j d2 k2 ρ3 with
  | bad => simp only [e4, Res.bind] at q; exact q.elim
  | err c d ρ' => exact absurd e4 setSlot_ne
  | ok ρ4 =>
  simp only [e4, ev_rbind_ok] at q
  have ez2 : EInv z y2 := hz.ext hx E2
  have K1 : KdZ z y2 k1 fv1 := by
    cases k1 with
    | br => exact absurd rfl hk1
    | fz => exact kd1
    | ow => exact ⟨kd1.1, fun a ha => ⟨hz.dm a (kd1.2 a ha).1, (kd1.2 a ha).2⟩⟩
  obtain ⟨u, u1, u2, u3, u4, u5, u6, u7, u8, u9⟩ := set_core (i := i) P2.inv ez2 w1 K1 (by rw [hρ2]; exact e3)
  have dis : k2 = .ow → ∀ a ∈ fv2, a ∉ fv1 := fun e a ha z => by
    subst e
    have n := (P2.kd.2 a ha).1
    obtain ⟨_, o, h, _⟩ := P1.own.there a z
    rw [n] at h; cases h
  have fe : k2 = .fz → fv2 = [] := fun e => by subst e; exact P2.kd
  have w2 : Own G u.F u.H v2 d2 fv2 := P2.own.keep u9 (by rw [u3]; exact .refl) fun a ha => ⟨fun f => by
    rcases u8 a f with f | f
    · exact (P2.own.there a ha).1 f
    · cases k2 with
      | br => exact hk2 rfl
      | fz => rw [fe rfl] at ha; simp at ha
      | ow => exact dis rfl a ha f, fun o e _ => by rw [u3]; exact e⟩
  have K2 : KdZ z u k2 fv2 := by
    cases k2 with
    | br => exact absurd rfl hk2
    | fz => exact P2.kd
    | ow =>
      refine ⟨P2.kd.1, fun a ha => ⟨hz.dm a (P1.ext.dm a (P2.kd.2 a ha).1), fun h => ?_, ?_, ?_⟩⟩
      · rcases u5 a h with h | h
        · exact (P2.kd.2 a ha).2.1 h
        · exact dis rfl a ha h
      · rw [u6]; exact (P2.kd.2 a ha).2.2.1
      · rw [u7]; exact (P2.kd.2 a ha).2.2.2
  obtain ⟨o, o1, o2, o3, o4, _⟩ := set_core (i := j) u4.inv u4.ent w2 K2 (by rw [u1]; exact e4)
  have := q o o1 (((SStep.ext hz hx P2.inv E2).trans u4).trans o4)
  rw [o2, o3, u2, u3, E2.sg] at this
  exact this
end
end VL
/-! VL26: slices. -/
namespace VL
open PySem PySem.Spec PyProof.Rows L2

abbrev OE := Env → Res (Option Int × Env)
def tO (G : Gm) (W : WX) (f : OE) : TO := fun σ H Q => ∃ x : Stt, x.sg = σ ∧ x.H = H ∧ SInv G x ∧
  match f x.rho with
  | .ok (o, ρ') => ∀ y, y.rho = ρ' → SInv G y → Ext true x y → Q o y.H
  | .err c d ρ' => ∀ y cls dx, y.rho = ρ' → SInv G y → Ext true x y → ErrV G y cls dx c d → W cls dx σ y.H
  | .bad => False
def oN : OE := fun ρ => .ok (none, ρ)
def oS (f : EE) : OE := fun ρ => (f ρ).bind fun r => match r.1 with
  | .int i => .ok (some i, r.2.2)
  | _ => .bad
def cutD (xs : List D) (lo hi : Option Int) : List D := (xs.drop (HT.sIx xs.length 0 lo)).take (HT.sIx xs.length xs.length hi - HT.sIx xs.length 0 lo)
def dSl : D → Option Int → Option Int → Option (D × Kd)
  | .lst l, lo, hi => some (.lst (cutD l lo hi), .ow)
  | .tup l, lo, hi => some (.tup (cutD l lo hi), .fz)
  | .str x, lo, hi => if x.length ≤ sizeLine then some (.str (cutS x lo hi), .fz) else none
  | _, _, _ => none
def xSl (f : EE) (lo hi : OE) : EE := fun ρ => (f ρ).bind fun r => (lo r.2.2).bind fun a => (hi a.2).bind fun b => match dSl r.1 a.1 b.1 with
  | some (d, k) => .ok (d, k, b.2)
  | none => .bad
theorem Rep.cut {G : Gm} {F : Addr → Prop} {H : Hp} {vs : List V} {ds : List D} (h : Rep G F H vs ds) (lo hi : Option Int) : Rep G F H (cutV vs lo hi) (cutD ds lo hi) := by
  unfold cutV cutD
  rw [h.length]
  exact (h.drop _).take _
theorem PO.of {X : Cx} {e : Option Expr} {t u : TO} (h : PO X e t) (i : ∀ σ H Q, u σ H Q → t σ H Q) : PO X e u := ⟨fun pins s σ H Q I w => h.run pins s σ H Q I (i σ H Q w)⟩
section
variable {X : Cx} {G : Gm} {W : WX}
theorem r_poN : PO X none (tO G W oN) := PO.of po_none fun σ H Q ⟨x, e1, e2, hx, q⟩ => by
  subst e1 e2
  exact q x rfl hx .refl
theorem r_poS {e : Expr} {f : EE} (h : PE X e (tS G W true f)) : PO X (some e) (tO G W (oS f)) := PO.of (po_some h) fun σ H Q ⟨x, e1, e2, hx, q⟩ => by
  subst e1 e2
  refine ⟨x, rfl, rfl, hx, ?_⟩
  unfold oS at q
  cases h1 : f x.rho with
  | bad => simp only [h1, Res.bind] at q
  | err c d ρ' => simp only [h1, Res.bind] at q; exact q
  | ok r =>
    obtain ⟨d, k, ρ1⟩ := r
    simp only [h1, ev_rbind_ok] at q
    intro y v fv hρ P
    cases d <;> first | exact q.elim | skip
    case int i => exact ⟨i, P.own.int_of, q y hρ P.inv P.ext⟩
theorem fn_sl (hK : X.K = G.K) {F : Addr → Prop} {H : Hp} {v : V} {a : D} {fv : List Addr} {lo hi : Option Int} {d : D} {k : Kd} {Q : VK} (hd : DomF F H) (w : Own G F H v a fv) (hg : dSl a lo hi = some (d, k)) (q : ∀ F' H' u fu, NewV G F H F' H' u d k fu → Q u H') : (rSlL X.K v lo hi H Q ∨ rSlA X.K v lo hi H Q) ∨ rSlS v lo hi H Q := by
  have short : ∀ {n : Nat} {l : List V}, l.length ≤ sizeLine → (cutV l lo hi).length ≤ sizeLine := fun h => Nat.le_trans (cutV_length _ _ _) h
  cases a <;> simp only [dSl] at hg <;> first | cases hg | skip
  case lst l =>
    obtain ⟨a, ws, rfl, e1, z1, r1⟩ := w.lstM
    exact .inl (.inl ⟨a, ws, rfl, .inl (.inl e1), fun p hp => q _ _ _ _ (.lst hd hp (Nat.le_trans (cutV_length _ _ _) z1) (r1.cut lo hi))⟩)
  case tup l =>
    obtain ⟨a, ws, rfl, e1, z1, r1, _, _⟩ := w.tup_of hK
    refine .inl (.inr ⟨a, ws, rfl, e1, fun full => ?_, fun _ p hp => q _ _ _ _ (.tup hd hp (Nat.le_trans (cutV_length _ _ _) z1) (r1.cut lo hi))⟩)
    have e : cutD l lo hi = l := by
      unfold cutD
      rw [r1.length] at full
      rw [full.1, full.2]
      simp
    rw [e] at q
    exact q F H _ [] (.same hd w.fzT)
  case str x =>
    split at hg
    · rename_i hx
      cases hg
      rw [w.str_of]
      exact .inr ⟨x, rfl, hx, q F H _ [] (.atom hd rfl)⟩
    · cases hg
theorem r_slice {e : Expr} {lo hi : Option Expr} {pos p2 : Pos} {s : Bool} {f : EE} {l h : OE} (hK : X.K = G.K) (he : PE X e (tS G W s f)) (hl : PO X lo (tO G W l)) (hh : PO X hi (tO G W h)) : PE X (.Subscript e (.Slice lo hi none p2) pos) (tS G W s (xSl f l h)) :=
  PE.of (pe_slice ((sl_list.or sl_tupA).or sl_str) he hl hh) fun σ H Q ⟨x, r1, r2, hx, q⟩ => by
    subst r1 r2
    refine ⟨x, rfl, rfl, hx, ?_⟩
    unfold xSl at q
    cases h1 : f x.rho with
    | bad => simp only [h1, Res.bind] at q
    | err c d ρ' => simp only [h1, Res.bind] at q; exact q
    | ok r =>
    obtain ⟨a, k1, ρ1⟩ := r
    simp only [h1, ev_rbind_ok] at q
    intro y v fv hρ P
    refine ⟨y, P.ext.sg, rfl, P.inv, ?_⟩
    rw [hρ]
    cases h2 : l ρ1 with
    | bad => simp only [h2, Res.bind] at q
    | err c d ρ' =>
      simp only [h2, Res.bind] at q
      exact fun z cls dx hz iz ez hev => q z cls dx hz iz (by have := P.ext.trans hx P.inv ez; rwa [Bool.and_true] at this) hev
    | ok ra =>
    obtain ⟨lo', ρ2⟩ := ra
    simp only [h2, ev_rbind_ok] at q
    intro y2 hρ2 i2 e2
    have E2 : Ext s x y2 := by have := P.ext.trans hx P.inv e2; rwa [Bool.and_true] at this
    obtain ⟨w2, kd2, sr2⟩ := carry P.inv P.ext.dm P.own P.kd e2 P.src (fun _ => rfl)
    refine ⟨y2, E2.sg, rfl, i2, ?_⟩
    rw [hρ2]
    cases h3 : h ρ2 with
    | bad => simp only [h3, Res.bind] at q
    | err c d ρ' =>
      simp only [h3, Res.bind] at q
      exact fun z cls dx hz iz ez hev => q z cls dx hz iz (by have := E2.trans hx i2 ez; rwa [Bool.and_true] at this) hev
    | ok rb =>
    obtain ⟨hi', ρ3⟩ := rb
    simp only [h3, ev_rbind_ok] at q
    intro y3 hρ3 i3 e3
    have E3 : Ext s x y3 := by have := E2.trans hx i2 e3; rwa [Bool.and_true] at this
    obtain ⟨w3, _, _⟩ := carry i2 E2.dm w2 kd2 e3 sr2 (fun _ => rfl)
    cases h4 : dSl a lo' hi' with
    | none => simp only [h4] at q
    | some dk =>
      obtain ⟨d, k⟩ := dk
      simp only [h4] at q
      exact fn_sl hK i3.dom w3 h4 fun F' H' u fu n => q { y3 with F := F', H := H' } u fu hρ3 (EPost.after hx i3 E3 n)
end
end VL
/-! VL27: in and not in, over lists and tuples of plain data. -/
namespace VL
open PySem PySem.Spec PyProof.Rows L2

/-- whether the value u reads as a datum that is equal to d -/
noncomputable def eqP (h : Heap) (d : PyData) (u : Value) : Bool := @decide (∃ e as, PySem.Reads h u e as ∧ e.canLay0 = true ∧ PyData.eqv e d = true) (Classical.propDecidable _)
theorem eqP_of {h : Heap} {d e : PyData} {u : Value} {as : List Addr} (r : PySem.Reads h u e as) (hc : e.canLay0 = true) : eqP h d u = PyData.eqv e d := by
  unfold eqP
  cases q : PyData.eqv e d with
  | true => exact @decide_eq_true _ (Classical.propDecidable _) ⟨e, as, r, hc, q⟩
  | false =>
    refine @decide_eq_false _ (Classical.propDecidable _) fun ⟨e', as', r', hc', q'⟩ => ?_
    have := SeqAt.Reads.unique e e' u as as' hc r r'
    subst this
    rw [q] at q'; cases q'
theorem eqP_all {h : Heap} {d : PyData} : ∀ {es : List PyData} {us : List Value} {as : List Addr}, ReadsAll h us es as → (∀ e ∈ es, e.canLay0 = true) → us.any (eqP h d) = es.any fun e => PyData.eqv e d
  | [], us, as, r, hc => by cases r; rfl
  | e :: es, us, as, r, hc => by
    cases r with
    | cons r1 r2 =>
      rw [List.any_cons, List.any_cons, eqP_of r1 (hc e List.mem_cons_self), eqP_all r2 fun e he => hc e (List.mem_cons_of_mem _ he)]
theorem eqP_at {A : Around} {s : Shared} {d : PyData} {v : Value} {bs : List Addr} (rv : PySem.Reads s.heap v d bs) (hd : d.canLay0 = true) (hu : A.units + d.depth < cLine) : ∀ {es : List PyData} {us : List Value} {as : List Addr}, ReadsAll s.heap us es as → (∀ e ∈ es, e.canLay0 = true) → ∀ u ∈ us, SeqAt.EqAt A s u v (eqP s.heap d u)
  | [], us, as, r, hc => by cases r; exact fun u hu => by cases hu
  | e :: es, us, as, r, hc => by
    cases r with
    | cons r1 r2 =>
      intro u hm
      rcases List.mem_cons.mp hm with rfl | hm
      · rw [eqP_of r1 (hc e List.mem_cons_self)]
        exact SeqAt.eqAt_reads e d A s _ v _ bs r1 rv (hc e List.mem_cons_self) hd (by have := Nat.min_le_right e.depth d.depth; omega)
      · exact eqP_at rv hd hu r2 (fun e he => hc e (List.mem_cons_of_mem _ he)) u hm
def rInD (K : PySem.W.Frag) (neg : Bool) : R2 := fun x y H Q => ∃ p xs d es, y = .ref p ∧ (SqL K H p xs ∨ SqT K H p xs) ∧ Dp K H x d ∧ DpAll K H xs es ∧ d.canLay0 = true ∧ d.depth ≤ 60 ∧ (∀ e ∈ es, e.canLay0 = true) ∧ Q (.bl (if neg then !(es.any fun e => PyData.eqv e d) else es.any fun e => PyData.eqv e d)) H
section
variable {X : Cx} {G : Gm} {W : WX}
theorem op_inD (hu : X.A.units + 64 < cLine) : OpR X (compareOp .In) (rInD X.K false) := by
  intro pins s σ H x y v u Q I rx ry h
  obtain ⟨p, xs, d, es, rfl, hq, hd, he, c1, c2, c3, q⟩ := h
  cases ry
  obtain ⟨bs, rv⟩ := Dp.reads I d x v hd rx
  have hu' : X.A.in1.units + d.depth < cLine := by
    show X.A.units + 1 + d.depth < cLine
    omega
  rcases hq with hq | hq
  · obtain ⟨its, r, pl, hz⟩ := I.list hq
    obtain ⟨as, ra⟩ := Dp.readsAll I es xs its he r
    refine SeqAt.in_listAt (eqP s.heap d) pl.isList (fun w hw => eqP_at rv c1 hu' ra c3 w (by simpa using hw)) ⟨.bl _, H, I, rfl, ?_⟩
    rw [show its.toArray.any (eqP s.heap d) = its.any (eqP s.heap d) by simp, eqP_all ra c3]
    exact q
  · obtain ⟨its, r, pl, hz⟩ := I.tuple hq
    obtain ⟨as, ra⟩ := Dp.readsAll I es xs its he r
    refine SeqAt.in_tupleAt (eqP s.heap d) pl (fun w hw => eqP_at rv c1 hu' ra c3 w (by simpa using hw)) ⟨.bl _, H, I, rfl, ?_⟩
    rw [show its.toArray.any (eqP s.heap d) = its.any (eqP s.heap d) by simp, eqP_all ra c3]
    exact q
theorem op_notInD (hu : X.A.units + 64 < cLine) : OpR X (compareOp .NotIn) (rInD X.K true) := by
  intro pins s σ H x y v u Q I rx ry h
  obtain ⟨p, xs, d, es, rfl, hq, hd, he, c1, c2, c3, q⟩ := h
  cases ry
  obtain ⟨bs, rv⟩ := Dp.reads I d x v hd rx
  have hu' : X.A.in1.units + d.depth < cLine := by
    show X.A.units + 1 + d.depth < cLine
    omega
  rcases hq with hq | hq
  · obtain ⟨its, r, pl, hz⟩ := I.list hq
    obtain ⟨as, ra⟩ := Dp.readsAll I es xs its he r
    refine SeqAt.notIn_listAt (eqP s.heap d) pl.isList (fun w hw => eqP_at rv c1 hu' ra c3 w (by simpa using hw)) ⟨.bl _, H, I, rfl, ?_⟩
    rw [show its.toArray.any (eqP s.heap d) = its.any (eqP s.heap d) by simp, eqP_all ra c3]
    exact q
  · obtain ⟨its, r, pl, hz⟩ := I.tuple hq
    obtain ⟨as, ra⟩ := Dp.readsAll I es xs its he r
    refine SeqAt.notIn_tupleAt (eqP s.heap d) pl (fun w hw => eqP_at rv c1 hu' ra c3 w (by simpa using hw)) ⟨.bl _, H, I, rfl, ?_⟩
    rw [show its.toArray.any (eqP s.heap d) = its.any (eqP s.heap d) by simp, eqP_all ra c3]
    exact q
end
end VL
/-! VL28: in and not in on data. -/
namespace VL
open PySem PySem.Spec PyProof.Rows L2

def inL (a : D) (l : List D) : Option Bool := match toPy a, toPyL l with
  | some d, some es => if d.canLay0 = true ∧ d.depth ≤ 60 ∧ (es.all fun e => e.canLay0) = true then some (es.any fun e => PyData.eqv e d) else none
  | _, _ => none
def signOf (x : Str) : Option Nat := match x.cps.toList with
  | [c] => some c
  | _ => none
theorem signOf_eq {x : Str} {c : Nat} (h : signOf x = some c) : x = ⟨#[c]⟩ := by
  unfold signOf at h
  split at h
  · rename_i c' e
    cases h
    cases x with
    | mk cps =>
      congr 1
      exact Array.toList_inj.mp e
  · cases h
def dInB (a b : D) : Option Bool := match b with
  | .lst l => inL a l
  | .tup l => inL a l
  | .str y => match a with
    | .str x => (signOf x).map fun c => decide (c ∈ y.cps.toList)
    | _ => none
  | _ => none
def dIn (a b : D) : Option (D × Kd) := (dInB a b).map fun c => (.bl c, .fz)
def dNotIn (a b : D) : Option (D × Kd) := (dInB a b).map fun c => (.bl (!c), .fz)
section
variable {X : Cx} {G : Gm} {W : WX}
theorem fn_in (hK : X.K = G.K) : FnD2 G (fun x y H Q => rInD X.K false x y H Q ∨ ∃ (c : Nat) (z : Str), x = .str ⟨#[c]⟩ ∧ y = .str z ∧ Q (.bl (decide (c ∈ z.cps.toList))) H) dIn := by
  intro F H v w a b fv fw d k Q hd ha hb hg q
  simp only [dIn, Option.map_eq_some_iff, Prod.mk.injEq] at hg
  obtain ⟨c, hc, rfl, rfl⟩ := hg
  have seq : ∀ (l : List D) (p : Addr) (xs : List V), inL a l = some c → w = .ref p → (SqL X.K H p xs ∨ SqT X.K H p xs) → Rep G F H xs l → rInD X.K false v w H Q := fun l p xs h e1 e2 r => by
    unfold inL at h
    split at h
    · rename_i pd es e3 e4
      split at h
      · rename_i cc
        cases h
        exact ⟨p, xs, pd, es, e1, e2, ha.dp hK e3, r.dp hK e4, cc.1, cc.2.1, fun e he => by have := cc.2.2; rw [List.all_eq_true] at this; exact this e he, q F H _ [] (.atom hd rfl)⟩
      · cases h
    · cases h
  cases b <;> simp only [dInB] at hc <;> first | cases hc | skip
  case lst l =>
    obtain ⟨p, xs, rfl, e1, _, r1⟩ := hb.lstM
    exact .inl (seq l p xs hc rfl (.inl (.inl (.inl e1))) r1)
  case tup l =>
    obtain ⟨p, xs, rfl, e1, _, r1, _, _⟩ := hb.tup_of hK
    exact .inl (seq l p xs hc rfl (.inr e1) r1)
  case str y =>
    cases a <;> simp only at hc <;> first | cases hc | skip
    rename_i x
    simp only [Option.map_eq_some_iff] at hc
    obtain ⟨n, e, rfl⟩ := hc
    rw [ha.str_of, hb.str_of, signOf_eq e]
    exact .inr ⟨n, y, rfl, rfl, q F H _ [] (.atom hd rfl)⟩
theorem o_in {kk : Nat} (hr : RoomG kk X.A) (hK : X.K = G.K) : OpR X (compareOp .In) (fun x y H Q => rInD X.K false x y H Q ∨ ∃ (c : Nat) (z : Str), x = .str ⟨#[c]⟩ ∧ y = .str z ∧ Q (.bl (decide (c ∈ z.cps.toList))) H) ∧ FnD2 G (fun x y H Q => rInD X.K false x y H Q ∨ ∃ (c : Nat) (z : Str), x = .str ⟨#[c]⟩ ∧ y = .str z ∧ Q (.bl (decide (c ∈ z.cps.toList))) H) dIn := ⟨OpR.or (op_inD hr.room.units) op_in_sign, fn_in hK⟩
theorem fn_notin (hK : X.K = G.K) : FnD2 G (fun x y H Q => rInD X.K true x y H Q ∨ ∃ (c : Nat) (z : Str), x = .str ⟨#[c]⟩ ∧ y = .str z ∧ Q (.bl (!decide (c ∈ z.cps.toList))) H) dNotIn := by
  intro F H v w a b fv fw d k Q hd ha hb hg q
  simp only [dNotIn, Option.map_eq_some_iff, Prod.mk.injEq] at hg
  obtain ⟨c, hc, rfl, rfl⟩ := hg
  have seq : ∀ (l : List D) (p : Addr) (xs : List V), inL a l = some c → w = .ref p → (SqL X.K H p xs ∨ SqT X.K H p xs) → Rep G F H xs l → rInD X.K true v w H Q := fun l p xs h e1 e2 r => by
    unfold inL at h
    split at h
    · rename_i pd es e3 e4
      split at h
      · rename_i cc
        cases h
        exact ⟨p, xs, pd, es, e1, e2, ha.dp hK e3, r.dp hK e4, cc.1, cc.2.1, fun e he => by have := cc.2.2; rw [List.all_eq_true] at this; exact this e he, q F H _ [] (.atom hd rfl)⟩
      · cases h
    · cases h
  cases b <;> simp only [dInB] at hc <;> first | cases hc | skip
  case lst l =>
    obtain ⟨p, xs, rfl, e1, _, r1⟩ := hb.lstM
    exact .inl (seq l p xs hc rfl (.inl (.inl (.inl e1))) r1)
  case tup l =>
    obtain ⟨p, xs, rfl, e1, _, r1, _, _⟩ := hb.tup_of hK
    exact .inl (seq l p xs hc rfl (.inr e1) r1)
  case str y =>
    cases a <;> simp only at hc <;> first | cases hc | skip
    rename_i x
    simp only [Option.map_eq_some_iff] at hc
    obtain ⟨n, e, rfl⟩ := hc
    rw [ha.str_of, hb.str_of, signOf_eq e]
    exact .inr ⟨n, y, rfl, rfl, q F H _ [] (.atom hd rfl)⟩
theorem o_notin {kk : Nat} (hr : RoomG kk X.A) (hK : X.K = G.K) : OpR X (compareOp .NotIn) (fun x y H Q => rInD X.K true x y H Q ∨ ∃ (c : Nat) (z : Str), x = .str ⟨#[c]⟩ ∧ y = .str z ∧ Q (.bl (!decide (c ∈ z.cps.toList))) H) ∧ FnD2 G (fun x y H Q => rInD X.K true x y H Q ∨ ∃ (c : Nat) (z : Str), x = .str ⟨#[c]⟩ ∧ y = .str z ∧ Q (.bl (!decide (c ∈ z.cps.toList))) H) dNotIn := ⟨OpR.or (op_notInD hr.room.units) op_notIn_sign, fn_notin hK⟩
end
end VL
/-! VL29: a text's method with one argument; join. -/
namespace VL
open PySem PySem.Spec PyProof.Rows L2

def D.isStr : D → Bool
  | .str _ => true
  | _ => false
def xM1 (t : Bool) (g : D → D → Option (D × Kd)) (f1 f2 : EE) : EE := fun ρ => (f1 ρ).bind fun r => if r.1.isStr = true then (f2 r.2.2).bind fun q => match g r.1 q.1 with
    | some (d, k) => .ok (d, k, q.2.2)
    | none => .bad
  else .bad
def strsOf : List D → Option (List Str)
  | [] => some []
  | .str x :: r => (strsOf r).map (x :: ·)
  | _ :: _ => none
theorem strsOf_eq : ∀ {l : List D} {ns : List Str}, strsOf l = some ns → l = ns.map D.str
  | [], ns, h => by cases h; rfl
  | d :: r, ns, h => by
    cases d <;> first | cases h | skip
    simp only [strsOf, Option.map_eq_some_iff] at h
    obtain ⟨ms, h1, rfl⟩ := h
    rw [List.map_cons, strsOf_eq h1]
theorem Rep.strs_of {G : Gm} {F : Addr → Prop} {H : Hp} : ∀ {ns : List Str} {vs : List V}, Rep G F H vs (ns.map D.str) → vs = ns.map V.str
  | [], vs, h => h.nil_of
  | n :: ns, vs, h => by
    obtain ⟨v, ws, rfl, r1, r2⟩ := h.cons_of
    rw [r1.str_of, Rep.strs_of r2]; rfl
section
variable {X : Cx} {G : Gm} {W : WX}
theorem tS_m1 {r : V → List V → Hp → VK → Prop} {s t : Bool} {f1 f2 : EE} {g : D → D → Option (D × Kd)} (hg : FnD2 G (fun x y H Q => r x [y] H Q) g) {σ H Q} (h : tS G W (s && t) (xM1 t g f1 f2) σ H Q) : tM1 r (tS G W s f1) (tS G W t f2) σ H Q := by
  obtain ⟨x, rfl, rfl, hi, q⟩ := h
  refine ⟨x, rfl, rfl, hi, ?_⟩
  unfold xM1 at q
  cases h1 : f1 x.rho with
  | bad => simp only [h1, Res.bind] at q
  | err c d ρ' =>
    simp only [h1, Res.bind] at q
    exact fun y cls dx hρ iy ey hev => q y cls dx hρ iy (ey.weak fun z => by simp only [Bool.and_eq_true] at z; exact z.1) hev
  | ok r1 =>
    obtain ⟨a, k1, ρ1⟩ := r1
    simp only [h1, ev_rbind_ok] at q
    intro y v fv hρ P
    by_cases hs : a.isStr = true
    · rw [if_pos hs] at q
      cases a <;> first | cases hs | skip
      rename_i z0
      have ev := P.own.str_of
      subst ev
      refine ⟨⟨z0, rfl⟩, y, P.ext.sg, rfl, P.inv, ?_⟩
      rw [hρ]
      cases h2 : f2 ρ1 with
      | bad => simp only [h2, Res.bind] at q
      | err c d' ρ' =>
        simp only [h2, Res.bind] at q
        exact fun z cls dx hz iz ez hev => q z cls dx hz iz (P.ext.trans hi P.inv ez) hev
      | ok r2 =>
        obtain ⟨b, k2, ρ2⟩ := r2
        simp only [h2, ev_rbind_ok] at q
        intro z w fw hz P2
        cases h3 : g (.str z0) b with
        | none => simp only [h3] at q
        | some dk =>
          obtain ⟨d, k⟩ := dk
          simp only [h3] at q
          refine hg z.F z.H (.str z0) w (.str z0) b [] _ d k Q P2.inv.dom (.fz (.atom rfl .nil)) P2.own h3 fun F' H' u fu n => ?_
          exact q { z with F := F', H := H' } u fu hz (EPost.after hi P2.inv (P.ext.trans hi P.inv P2.ext) n)
    · rw [if_neg hs] at q; exact q.elim
def rJoin (K : PySem.W.Frag) : V → List V → Hp → VK → Prop := fun x xs H Q => ∃ a p, ∃ ys : List Str, x = .str a ∧ xs = [.ref p] ∧ (SqL K H p (ys.map V.str) ∨ SqT K H p (ys.map V.str)) ∧ (ys.map (·.length)).sum + ys.length * a.length ≤ 16777216 ∧ Q (.str (Txt.join a ys)) H
def joinL (a : Str) (l : List D) : Option (D × Kd) := (strsOf l).bind fun ys => if (ys.map (·.length)).sum + ys.length * a.length ≤ 16777216 then some (.str (Txt.join a ys), .fz) else none
def dJoin : D → D → Option (D × Kd)
  | .str a, .lst l => joinL a l
  | .str a, .tup l => joinL a l
  | _, _ => none
theorem fn_join (hK : X.K = G.K) : FnD2 G (fun x y H Q => rJoin X.K x [y] H Q) dJoin := by
  intro F H v w a b fv fw d k Q hd ha hb hg q
  have go : ∀ (z : Str) (l : List D) (p : Addr) (xs : List V), joinL z l = some (d, k) → v = .str z → w = .ref p → (SqL X.K H p xs ∨ SqT X.K H p xs) → Rep G F H xs l → rJoin X.K v [w] H Q := fun z l p xs h e0 e1 e2 r => by
    simp only [joinL, Option.bind_eq_some_iff] at h
    obtain ⟨ys, h1, h2⟩ := h
    split at h2
    · rename_i hz
      cases h2
      obtain rfl := strsOf_eq h1
      obtain rfl := r.strs_of
      exact ⟨z, p, ys, e0, by rw [e1], e2, hz, q F H _ [] (.atom hd rfl)⟩
    · cases h2
  cases a <;> simp only [dJoin] at hg <;> first | cases hg | skip
  rename_i z
  cases b <;> simp only at hg <;> first | cases hg | skip
  case lst l =>
    obtain ⟨p, xs, rfl, e1, _, r1⟩ := hb.lstM
    exact go z l p xs hg ha.str_of rfl (.inl (.inl (.inl e1))) r1
  case tup l =>
    obtain ⟨p, xs, rfl, e1, _, r1, _, _⟩ := hb.tup_of hK
    exact go z l p xs hg ha.str_of rfl (.inr e1) r1
theorem r_join {o e : Expr} {apos pos : Pos} {s t : Bool} {f1 f2 : EE} (hK : X.K = G.K) (h : PE X (.Call (.Attribute o "join" apos) [e] [] pos) (tM1 (rJoin X.K) (tS G W s f1) (tS G W t f2))) : PE X (.Call (.Attribute o "join" apos) [e] [] pos) (tS G W (s && t) (xM1 t dJoin f1 f2)) :=
  PE.of h fun σ H Q q => tS_m1 (fn_join hK) q
theorem r_mut0 {i : Nat} {e : Expr} {T : String} {r : V → List V → Hp → VK → Prop} {p : D → Bool} {g : D → List D → Option (D × D)} (hg : MutR G r g) (hp : ∀ d, p d = true → d.isDrw = false) (hty : ∀ {F H a d0}, Objs G F H a d0 → p d0 = true → tyV X.K T (.ref a) H) (h : PE X e (tBM0 X.K T r (tVar i))) : PE X e (tS G W false (xMut p i g aN)) :=
  PE.of h fun σ H Q q => by
    obtain ⟨v, e1, ty, q⟩ := tS_mut (X := X) (T := T) (r := r) (s := true) hg hp hty q
    refine ⟨v, e1, ty, ?_⟩
    obtain ⟨x, rfl, rfl, hx, q⟩ := q
    exact q x [] rfl hx .refl .nil
end
end VL
/-! VL30: dicts with text keys, read and shown. -/
namespace VL
open PySem PySem.Spec PyProof.Rows L2

def valD : List (Key × D) → Key → Option D
  | [], _ => none
  | (k', d) :: r, k => if k' = k then some d else valD r k
theorem Rep.valK {G : Gm} {F : Addr → Prop} {H : Hp} {k : Key} {d : D} : ∀ {ws : List (Key × V)} {es : List (Key × D)}, ws.map (·.1) = es.map (·.1) → Rep G F H (ws.map (·.2)) (es.map (·.2)) → valD es k = some d → ∃ v, valV ws k = some v ∧ Rep G F H [v] [d]
  | [], [], _, _, h => by cases h
  | [], _ :: _, e, _, _ => by simp at e
  | _ :: _, [], e, _, _ => by simp at e
  | (n, w) :: ws, (m, e) :: es, hn, hr, h => by
    simp only [List.map_cons, List.cons.injEq] at hn
    obtain ⟨rfl, hn⟩ := hn
    obtain ⟨r1, r2⟩ := Rep.cons_iff.mp (by simpa using hr)
    simp only [valD] at h
    by_cases hk : n = k
    · rw [if_pos hk] at h
      cases h
      exact ⟨w, valV_pos hk, r1⟩
    · rw [if_neg hk] at h
      obtain ⟨v, e1, r3⟩ := Rep.valK hn r2 h
      refine ⟨v, ?_, r3⟩
      unfold valV at e1 ⊢
      rw [List.find?_cons]
      simp only [hk, decide_false]
      exact e1
theorem Own.dK_of {G : Gm} {F : Addr → Prop} {H : Hp} {v : V} {es : List (Key × D)} {fp : List Addr} (h : Own G F H v (.dK es) fp) : ∃ (a : Addr) (ws : List (Key × V)), v = .ref a ∧ H a = some (.dK ws) ∧ ws.length ≤ sizeLine ∧ ws.map (·.1) = es.map (·.1) ∧ Rep G F H (ws.map (·.2)) (es.map (·.2)) := by
  cases h with
  | fz r =>
    cases r with
    | atom e _ => cases v <;> simp [atomD] at e
    | dK f e z k r1 _ => exact ⟨_, _, rfl, e, z, k, r1⟩
  | ow f ob =>
    obtain ⟨ws, e, z, k, r⟩ := ob
    exact ⟨_, ws, rfl, e, z, k, r⟩
def xGet (key : Str) (f : EE) : EE := fun ρ => (f ρ).bind fun r => match r.1 with
  | .dK es => match valD es (kw key) with
    | some d => .ok (d, .fz, r.2.2)
    | none => .bad
  | _ => .bad
section
variable {X : Cx} {G : Gm} {W : WX} {kk : Nat}
theorem r_dget {o k : Expr} {pos : Pos} {key : Str} {s : Bool} {f : EE} (hr : RoomG kk X.A) (ho : PE X o (tS G W s f)) (hk : PE X k (tC (.str key))) (hs : NoSl k) : PE X (.Subscript o k pos) (tS G W s (xGet key f)) := PE.of (pe_dget (Nat.lt_of_le_of_lt (Nat.add_le_add_left (by decide) _) hr.room.units) ho hk hs) fun σ H Q h => by
  obtain ⟨x, rfl, rfl, hx, q⟩ := h
  refine ⟨x, rfl, rfl, hx, ?_⟩
  unfold xGet at q
  cases h1 : f x.rho with
  | bad => simp only [h1, Res.bind] at q
  | err c d ρ' => simp only [h1, Res.bind] at q; exact q
  | ok r =>
    obtain ⟨d0, k0, ρ1⟩ := r
    simp only [h1, ev_rbind_ok] at q
    intro y v fv hρ P
    cases d0 <;> first | exact q.elim | skip
    rename_i es
    simp only at q
    cases h2 : valD es (kw key) with
    | none => simp only [h2] at q
    | some d =>
      simp only [h2] at q
      obtain ⟨a, ws, rfl, e1, z1, k1, r1⟩ := P.own.dK_of
      obtain ⟨u, e2, ru⟩ := r1.valK k1 h2
      have g := DGet.k (k := kw key) e1
      rw [e2] at g
      refine ⟨a, u, rfl, g, q y u [] hρ ⟨P.inv, P.ext, .fz ru, rfl, .fz⟩⟩
end
end VL
/-! VL31: displays of dicts with text keys. -/
namespace VL
open PySem PySem.Spec PyProof.Rows L2

theorem tS_imp {G : Gm} {W : WX} {s : Bool} {f : EE} {σ H} {Q Q' : VK} (h : tS G W s f σ H Q) (i : ∀ v H', Q v H' → Q' v H') : tS G W s f σ H Q' := by
  obtain ⟨x, e1, e2, hi, q⟩ := h
  refine ⟨x, e1, e2, hi, ?_⟩
  revert q
  cases f x.rho with
  | bad => exact id
  | err c d ρ' => exact id
  | ok r1 => exact fun q y v fv hρ P => i _ _ (q y v fv hρ P)
inductive TP (G : Gm) (W : WX) : List (TE × TE) → List Str → AE → Bool → Prop
  | nil : TP G W [] [] aN true
  | cons {trs ks f t k g s} : TP G W trs ks f t → TP G W ((tC (.str k), tS G W s g) :: trs) (k :: ks) (aC t g f) (s && t)
def prs (ks : List Str) (vs : List V) : List (V × V) := (ks.zip vs).map fun kv => (V.str kv.1, kv.2)
theorem TP.pairs {G : Gm} {W : WX} {trs ks f s} (h : TP G W trs ks f s) : ∀ {σ H} {Q : List (V × V) → Hp → Prop}, tA G W s f σ H (fun vs H' => Q (prs ks vs) H') → tPairs trs σ H Q := by
  induction h with
  | nil =>
    intro σ H Q ⟨x, e1, e2, hx, q⟩
    subst e1 e2
    exact q x [] rfl hx .refl .nil
  | @cons trs ks f t k g s h ih =>
    intro σ H Q q
    have q1 := tA_cons q
    show tS G W s g σ H fun y H2 => tPairs trs σ H2 fun ps H3 => Q ((V.str k, y) :: ps) H3
    exact tS_imp q1 fun v H1 q2 => ih q2
theorem putK_new {kvs : List (Key × V)} {k : Key} {v : V} (h : k ∉ kvs.map (·.1)) : putK kvs k v = kvs ++ [(k, v)] := by
  unfold putK
  rw [if_neg]
  simp only [List.any_eq_true, decide_eq_true_eq, not_exists, not_and]
  intro p hp e
  exact h (List.mem_map.mpr ⟨p, hp, e⟩)
theorem merge_new : ∀ (more kvs : List (Key × V)), (kvs.map (·.1) ++ more.map (·.1)).Nodup → mergeK kvs more = kvs ++ more
  | [], kvs, _ => by simp [mergeK]
  | (k, v) :: r, kvs, h => by
    have hk : k ∉ kvs.map (·.1) := fun hm => by
      have := List.nodup_append.mp h
      exact this.2.2 k hm k (by simp) rfl
    have e : mergeK kvs ((k, v) :: r) = mergeK (putK kvs k v) r := rfl
    rw [e, putK_new hk, merge_new r (kvs ++ [(k, v)]) (by simpa using h)]
    simp
def xDisp (ks : List Str) (f : AE) : EE := fun ρ => (f ρ).bind fun r => if fzAll r.1 = true ∧ ks.length = r.1.length ∧ r.1.length ≤ 15 ∧ (ks.map kw).Nodup then .ok (.dK ((ks.map kw).zip (r.1.map (·.1))), .ow, r.2) else .bad
theorem AOk.vlen {G : Gm} {x y : Stt} {vs : List V} {l : List (D × Kd)} (h : AOk G x y vs l) : vs.length = l.length := by
  induction h with
  | nil => rfl
  | cons _ _ _ _ ih => simp [ih]
section
variable {X : Cx} {G : Gm} {W : WX}
theorem r_disp {pos : Pos} {keys : List (Option Expr)} {values : List Expr} {trs : List (TE × TE)} {ks : List Str} {s : Bool} {f : AE} (tp : TP G W trs ks f s) (h : PPs X pos keys values trs) (hall : keys.all (·.isSome) = true := by rfl) (hl : keys.length = values.length := by rfl) (h0 : keys ≠ [] := by simp) (h15 : keys.length ≤ 15 := by simp) :
    PE X (.Dict keys values pos) (tS G W s (xDisp ks f)) := PE.of (pe_disp h hall hl h0 h15) fun σ H Q hh => by
  obtain ⟨x, rfl, rfl, hx, q⟩ := hh
  intro p hp
  have N := NewV.objs (G := G) (F := x.F) (ob := .dK []) (d := .dK []) hx.dom hp ⟨[], upd_same, by simp, rfl, .nil⟩
  have P1 := N.post hx
  refine tp.pairs ⟨{ x with H := upd x.H p (.dK []) }, rfl, rfl, P1.inv, ?_⟩
  show match f x.rho with | .ok (l, ρ') => _ | .err c d ρ' => _ | .bad => _
  unfold xDisp at q
  have e1 : Ext true x { x with H := upd x.H p (.dK []) } := P1.ext
  cases e2 : f x.rho with
  | bad => simp only [e2, Res.bind] at q
  | err c d ρ' =>
    simp only [e2, Res.bind] at q
    exact fun y cls dx hρ iy ey hev => q y cls dx hρ iy (by have := e1.trans hx P1.inv ey; rwa [Bool.true_and] at this) hev
  | ok r =>
  obtain ⟨l, ρ1⟩ := r
  simp only [e2, ev_rbind_ok] at q
  intro y vs hρ iy ey ay
  by_cases hc : fzAll l = true ∧ ks.length = l.length ∧ l.length ≤ 15 ∧ (ks.map kw).Nodup
  · rw [if_pos hc] at q
    obtain ⟨c1, c2, c3, c4⟩ := hc
    have vl := ay.vlen
    obtain ⟨F', i', e', rp⟩ := ay.frozen P1.inv iy ey c1
    have po : p ∉ x.o ∧ p ∉ x.p ∧ p ∉ x.b := by
      refine ⟨fun z => ?_, fun z => ?_, fun z => ?_⟩
      · obtain ⟨_, o, e, _⟩ := hx.there (.inl z); rw [hp] at e; cases e
      · obtain ⟨_, o, e, _⟩ := hx.there (.inr (.inl z)); rw [hp] at e; cases e
      · obtain ⟨_, o, e, _⟩ := hx.there (.inr (.inr z)); rw [hp] at e; cases e
    have hpy : y.H p = some (.dK []) := ey.kp p _ upd_same (fun z => by
      rcases List.mem_append.mp z with z | z
      · exact po.1 z
      · exact po.2.1 z) rfl
    have xp : ({ x with H := upd x.H p (.dK []) } : Stt).H p = some (.dK []) := upd_same
    have nF : ¬ F' p := fun fp => by
      rcases e'.f2 p fp with z | z
      · obtain ⟨o, e, _⟩ := hx.dom p z; rw [hp] at e; cases e
      · rw [xp] at z; cases z
    have npo : p ∉ y.o ∧ p ∉ y.p ∧ p ∉ y.b := by
      refine ⟨fun z => ?_, fun z => ?_, fun z => ?_⟩
      · rcases ey.o1 p z with z | z
        · exact po.1 z
        · rw [xp] at z; cases z
      · rw [ey.p1] at z; exact po.2.1 z
      · rw [ey.b1] at z; exact po.2.2 z
    have kl : ((ks.map kw).zip vs).map (·.1) = ks.map kw := by
      rw [List.map_fst_zip]; simp; omega
    have kr : ((ks.map kw).zip vs).map (·.2) = vs := by
      rw [List.map_snd_zip]; simp; omega
    refine ⟨hpy, (ks.map kw).zip vs, ?_, by rw [List.length_zip, List.length_map]; omega, ?_⟩
    · unfold prs
      rw [List.zip_map_left, List.map_map]
      rfl
    rw [merge_new _ [] (by rw [List.map_nil, List.nil_append, kl]; exact c4), List.nil_append]
    have out : ∀ a, a ∈ y.o ∨ a ∈ y.p ∨ a ∈ y.b → a ≠ p := fun a ha z => by
      subst z
      rcases ha with h | h | h
      · exact npo.1 h
      · exact npo.2.1 h
      · exact npo.2.2 h
    generalize ho : (HO.dK ((ks.map kw).zip vs)) = o'
    have dmu : ∀ b, upd y.H p o' b = none → y.H b = none := fun b hb => by
      by_cases eb : b = p
      · subst eb; rw [upd_same] at hb; cases hb
      · rwa [upd_ne eb] at hb
    have inv : SInv G { y with F := F', H := upd y.H p o' } := by
      refine ⟨i'.sl.keep (fun _ h => h) (kf_upd nF) fun a ha => ⟨(i'.there ha).1, fun o e _ => by show upd y.H p o' a = _; rw [upd_ne (out a ha)]; exact e⟩, i'.nd, fun b f => ?_, tabs_upd iy.tb hpy rfl (fun φ z => by cases z)⟩
      obtain ⟨o, h, t⟩ := i'.dom b f
      have nb : b ≠ p := fun z => nF (z ▸ f)
      exact ⟨o, by show upd y.H p o' b = some o; rw [upd_ne nb]; exact h, t⟩
    have E : Ext s x { y with F := F' } := by have := e1.trans hx P1.inv e'; rwa [Bool.true_and] at this
    have kx : ∀ m, Kept m x.H y.H → Kept m x.H (upd y.H p o') := fun m k a o e n t => by
      have na : a ≠ p := fun z => by rw [z, hp] at e; cases e
      rw [upd_ne na]; exact k a o e n t
    have E3 : Ext s x { y with F := F', H := upd y.H p o' } := ⟨E.sg, kx _ E.kp, E.f1, E.f2, E.o1, E.p1, E.b1, fun a h => E.dm a (dmu a h), E.lk, fun z => by
      obtain ⟨r1, k1, o1⟩ := E.st z
      exact ⟨r1, kx _ k1, o1⟩⟩
    refine q { y with F := F', H := upd y.H p o' } (.ref p) [p] hρ ⟨inv, E3, .ow nF ⟨(ks.map kw).zip vs, ?_, ?_, ?_, ?_⟩, ⟨by simp, fun a ha => ?_⟩, .ow⟩
    · rw [ho]; exact upd_same
    · rw [List.length_zip, List.length_map, sizeLine_eq]; omega
    · rw [kl, List.map_fst_zip]; simp; omega
    · rw [kr, List.map_snd_zip (by simp; omega)]
      exact rp.keep (fun _ h => h) (kf_upd nF)
    · have : a = p := by simpa using ha
      subst this
      exact ⟨hp, npo⟩
  · rw [if_neg hc] at q; exact q.elim
end
end VL
/-! VL32: x[::-1]. -/
namespace VL
open PySem PySem.Spec PyProof.Rows L2

theorem Rep.reverse {G : Gm} {F : Addr → Prop} {H : Hp} : ∀ {ds : List D} {vs : List V}, Rep G F H vs ds → Rep G F H vs.reverse ds.reverse
  | [], vs, h => by rw [h.nil_of]; exact .nil
  | d :: ds, vs, h => by
    obtain ⟨v, ws, rfl, r1, r2⟩ := h.cons_of
    rw [List.reverse_cons, List.reverse_cons]
    exact (Rep.reverse r2).append r1
def dRev : D → Option (D × Kd)
  | .lst l => some (.lst l.reverse, .ow)
  | _ => none
section
variable {X : Cx} {G : Gm} {W : WX}
theorem r_rev {e : Expr} {k : Nat} {p1 p2 p3 pos : Pos} {s : Bool} {f : EE} (he : PE X e (tS G W s f)) (h : ∀ te, PE X e te → PE X (.Subscript e (.Slice none none (some (.UnaryOp .USub (.Constant (.int 1) k p1) p2)) p3) pos) (tRevL X.K te)) : PE X (.Subscript e (.Slice none none (some (.UnaryOp .USub (.Constant (.int 1) k p1) p2)) p3) pos) (tS G W s (xAp1 dRev f)) :=
  PE.of (h _ he) fun σ H Q q => tS_ap1 (r := fun x H1 Q => ∃ a xs, x = .ref a ∧ SqL X.K H1 a xs ∧ ∀ p, H1 p = none → Q (.ref p) (upd H1 p (.lst xs.reverse))) (fun F H v d fv d' k' Q hd w hg q => by
    cases d <;> simp only [dRev] at hg <;> first | cases hg | skip
    obtain ⟨a, ws, rfl, e1, z1, r1⟩ := w.lstM
    exact ⟨a, ws, rfl, .inl (.inl e1), fun p hp => q _ _ _ _ (.lst hd hp (by simpa using z1) r1.reverse)⟩) q
end
end VL
set_option maxHeartbeats 2000000
/-! EX1: an own exception's def __init__ that hands its argument on by super() and keeps it in a field: what it does to the memory. -/
namespace VL
open PySem PySem.W PySem.Calls PyProof.Rows
abbrev bodyX (x fl : Str) (p0 p1 p2 p3 p4 p5 p6 p7 p8 p9 : Pos) : List Stmt := [.Expr (.Call (.Attribute (.Call (.Name "super" p0) [] [] p1) "__init__" p2) [.Name x p3] [] p4) p5,
  .Assign [.Attribute (.Name "self" p6) fl p7] (.Name x p8) p9]
section
variable {prog : Program} {w : World} {A : Around} {s : Shared} {R : Result → Shared → Prop} {K : Frag} {mg : Str → Option Value} {name qual : Str} {params : Arguments} {scope : Scope} {dV kV doc pm ct oc : Value} {an od cdd cld : Option Addr} {osl ccs csl : Array (Option Value)} {f cda cc C e t0 : Addr} {args : Args} {v : Value} {x fl : Str} {p0 p1 p2 p3 p4 p5 p6 p7 p8 p9 : Pos} {ar : Arg} {vs : Array Value} {file : Str} {tf : Tok} {ccl cl : Value} {bm : List Value} {cd : ClassData} {pl : Sem Bool}
theorem sup_code (hroom : A.depth < recursionLimit) (X : K.In s.heap) (lim : s.heap.NoLimit) (gl : s.heap.Ns mainGlobals mg) (bl : ∃ mb, s.heap.Ns builtinsNs mb ∧ ∀ x : Str, x ≠ "__name__" → mb x = bootBuiltins x)
    (ho : K.lookup f = some ⟨oc, od, .func (ksFn name qual params (bodyX x fl p0 p1 p2 p3 p4 p5 p6 p7 p8 p9) scope dV kV doc pm an (.ref cda) ct cc), osl⟩) (hcd : codeIn K (.ref cda) qual = true)
    (hbind : BindsTo s (ksFn name qual params (bodyX x fl p0 p1 p2 p3 p4 p5 p6 p7 p8 p9) scope dV kV doc pm an (.ref cda) ct cc) args [("self", .ref e), (x, v)])
    (hpar : (params.posonlyargs ++ params.args).head? = some ar) (har : ar.arg = "self") (hcode : K.lookup cda = some ⟨ccl, cdd, .fields vs, ccs⟩) (hvs : vs[2]? = some (.str file tf)) (hfile : ((prog.main.file : Str) == file) = true)
    (hcell : K.lookup cc = some ⟨cl, cld, .cell (some (.ref C)), csl⟩) (hC : clsIn K C = some cd) (hmro : HandSPX.refsVE cd.mro = true) (hhd : cd.hasDict = true) (hsub : mroIn K C (.ref C) = some true) (hsuper : mg "super" = none) (htop : (prog.main.scope.names.lookup ("super" : Str)).isSome = false)
    (hopq : nsIn K cStatics "thirdparty.any" = some none) (hm : ks_superIn K C C "__init__" = some (some (.builtin "ValueError.__init__"))) (hB : subIn K (.ref C) (.type "ValueError") = some true)
    (hini : excInitIn K C bm "ValueError.__new__" = true) (FB : ExcBaseFacts "ValueError" "ValueError.__new__" "ValueError.__init__" bm)
    (hsa : findIn K (.ref C) "__setattr__" = some (some (.builtin "object.__setattr__"))) (hfl : findIn K (.ref C) fl = some none)
    (n1 : scope.names.lookup ("super" : Str) = some .globalImplicit) (n2 : scope.names.lookup ("__class__" : Str) = some .free) (n3 : scope.names.lookup ("self" : Str) = some .local) (n4 : scope.names.lookup x = some .local) (hne : x ≠ "self") (hdb : (x == ("__debug__" : Str)) = false)
    (hnc : ∀ x ∈ scope.names, x.2 ≠ .cell) (hco : scope.isCoroutine = false) (hgen : scope.isGenerator = false) (hk : scope.kind = .function)
    (hE : ∀ L, eval (.Call (.Attribute (.Call (.Name "super" p0) [] [] p1) "__init__" p2) [.Name x p3] [] p4) (ksEnv qual scope L f (.ref cda) cc) = (do
      let ov ← attributeBase (.Call (.Name "super" p0) [] [] p1) "__init__" (ksEnv qual scope L f (.ref cda) cc) (eval (.Call (.Name "super" p0) [] [] p1) (ksEnv qual scope L f (.ref cda) cc))
      standAt p2.atName
      let (fn, first) ← holding [ov] (getMethod ov "__init__" pl)
      callWith p4 fn first (backTo p4 (starEach [.Name x p3] (ksEnv qual scope L f (.ref cda) cc))) []))
    (he : s.heap.get? e = some (HandSPX.excO C t0)) (hKe : ∀ b o, K.lookup b = some o → b ≠ e)
    (hq : ∀ h' tk' dx t1, (∀ b o, b ≠ e → s.heap.get? b = some o → h'.get? b = some o) → s.heap.objs.size ≤ dx → s.heap.objs.size ≤ t1 → dx ≠ t1 → h'.get? e = some ({ cls := .ref C, dict := some dx, data := .fields #[.ref t1, .none, .none, .none, .bool false, .none] } : Obj) →
      h'.Ns1 dx (fun y => if y = fl then some v else none) → h'.get? t1 = some (excTup [v]) → R (.ok (.ret .none)) { s with heap := h', toks := tk' }) :
    codeAny (model prog w) A (.call (.ref f) args) R s := by
  obtain ⟨mb, b1, b2⟩ := bl
  have lt : e < s.heap.objs.size := Heap.lt_size he
  refine ks_codeAny_call_defAt (binds := [("self", .ref e), (x, v)]) (body := bodyX x fl p0 p1 p2 p3 p4 p5 p6 p7 p8 p9) hroom (X _ _ ho) rfl lim (codeRec_of X hcd) rfl hbind hnc (fun y hy => ?_) (fun h₀ hns k => ?_) hco hgen hk
  · rcases List.mem_cons.mp hy with rfl | hy
    · exact n3
    · rcases List.mem_cons.mp hy with rfl | hy
      · exact n4
      · cases hy
  have X₀ : K.In h₀ := X.keeps k
  have he₀ := k _ _ he
  have lx : ([("self", (.ref e : Value)), (x, v)] : List (Str × Value)).reverse.lookup x = some v := by simp [List.lookup]
  have ls : ([("self", (.ref e : Value)), (x, v)] : List (Str × Value)).reverse.lookup ("self" : Str) = some (.ref e) := by
    have : (("self" : Str) == x) = false := by simpa using fun z => hne z.symm
    simp [List.lookup, this]
  obtain ⟨oD, hD1, hD2⟩ : ∃ oD, h₀.get? C = some oD ∧ oD.data = .cls cd := by
    unfold clsIn at hC
    split at hC
    · rename_i c d cd' sl ho
      cases hC
      exact ⟨_, X₀ _ _ ho, rfl⟩
    · cases hC
  obtain ⟨hp, g, d, t, os⟩ := s
  refine ks_wpAt_execs_cons ?_
  refine ks_wpAt_Expr_any ?_ (by show (scope.kind == _ && _) = false; rw [hk]; rfl) rfl
  refine ks_wpAt_MethodCall (pl := pl) ?_ (hE _)
  refine ks_wpAt_super_base (env := ksEnv qual scope hp.objs.size f (.ref cda) cc) n1 n2 rfl rfl (X₀ _ _ ho) rfl hpar rfl (X₀ _ _ hcode) rfl hvs hfile htop ?_
  refine ks_loadName_global hk n1 (Calls.loadGlobal_builtin (env := ksEnv qual scope hp.objs.size f (.ref cda) cc) (gl.keeps k) hsuper (b1.keeps k) ((b2 _ (by decide)).trans (by first | boot_by_name | rfl | kernel_rfl)) ⟨rfl, ?_⟩)
  refine wpAny_loadName_free hk n2 rfl ⟨_, X₀ _ _ hcell, rfl⟩ ?_
  refine wpAny_loadName_local hk (by rw [har]; exact n3) hns (by rw [har]; exact ls) ?_
  refine ks_wpAny_isType_cls hD1 hD2 ⟨rfl, ?_⟩
  refine ks_wpAny_call_super hD1 hD2 he₀ rfl (fun c z => nomatch z) (looks_mroIn X₀ hsub) (fun h1 so k1 => ?_)
  have X1 : K.In h1 := X₀.keeps k1
  have he1 := k1 _ _ he₀
  have I1 : InstAt h1 e (HandSPX.excO C t0) C none := ⟨he1, rfl, rfl, trivial⟩
  have nCe : e ≠ C := ks_ne X1 I1 hC
  refine kxs_getMethod kxs_ValueError so (looks_opaque X1 hopq) (l₀ := cd.mro) (fun A Q E s k q => wpAny_bind ((looks_clsIn X1 hC) A _ E s k (wpAny_pure q))) rfl X1 (by unfold ks_superIn at hm; rw [hC] at hm; exact hm) (I1.type.andThen (looks_subIn X1 hB)) nCe rfl ?_
  have hns1 : (h1.push (kxs_mw "ValueError.__init__" e)).Ns hp.objs.size (fun y => ([("self", (.ref e : Value)), (x, v)] : List (Str × Value)).reverse.lookup y) := by
    obtain ⟨oL, es, ep, hL, r⟩ := hns
    exact ⟨oL, es, ep, Heap.get?_push_of_some _ (k1 _ _ hL), r⟩
  refine kxs_callWith (i := "ValueError.__init__") (x := e) (by rfl) (evalArgs_plain (Calls.spliced_cons (wpAny_Name (wpAny_loadName_local hk n4 hns1 lx ?_) hdb)))
  refine Calls.spliced_nil ⟨Heap.get?_push_at rfl rfl, ?_⟩
  obtain ⟨nm, N', qn, bs, bm', hdct, sn, sub, ab, col, dd, k0, k1', k2, k3, k5, hCo, hT⟩ := excInit_of (X1.keeps (h' := h1.push (kxs_mw "ValueError.__init__" e)) fun b o z => Heap.get?_push_of_some _ z) hini
  have he2 : (h1.push (kxs_mw "ValueError.__init__" e)).get? e = some (excObj C t0 none .none) := Heap.get?_push_of_some _ he1
  refine wpAny_call (codeAny_of_tree ?_)
  show wpAny _ _ (callAny (.ref h1.objs.size) ⟨[v], []⟩) _ _ _
  simp only [callAny]
  refine wpAny_bind (wpAny_load (Heap.get?_push_at rfl rfl) ?_)
  simp only [kxs_mw, show (Value.type "method-wrapper" == Value.type "method" || Value.type "method-wrapper" == Value.type "builtin_function_or_method" || Value.type "method-wrapper" == Value.type "method-wrapper") = true by decide, if_true]
  refine KFB.if_so (by decide) ?_
  refine wpAny_bind (check_bound_init FB.toExcCallFacts hCo he2 rfl ?_)
  refine wpAny_bind (wpAny_pure (wpAny_pure ?_))
  refine ⟨plainId_quiet FB.init.plain _, codeAny_builtin FB.initEntry ?_⟩
  refine exc_init_tree (cls := .ref C) (t0 := t0) (dv := none) (c2 := .none) (c3 := .none) (b4 := .bool false) he2 (by show 1 ≤ sizeLine; rw [sizeLine_eq]; omega) (fun h3 k3 e3 t3 => ?_)
  have X3 : K.In h3 := fun b o z => k3 b o (hKe b o z) (Heap.get?_push_of_some _ (X1 b o z))
  have Le : hp.objs.size ≠ e := Nat.ne_of_gt lt
  have hns3 : h3.Ns hp.objs.size (fun y => ([("self", (.ref e : Value)), (x, v)] : List (Str × Value)).reverse.lookup y) := by
    obtain ⟨oL, es, ep, hL, r⟩ := hns1
    exact ⟨oL, es, ep, k3 _ _ Le hL, r⟩
  refine ks_wpAt_execs_cons ?_
  refine ks_wpAt_Assign_Attr (wpAt_of_wpAny (wpAny_Name (wpAny_loadName_local hk n4 hns3 lx (wpAny_Name (wpAny_loadName_local hk n3 hns3 ls ?_) rfl)) hdb)) rfl
  refine set_plain X3 (ox := { cls := .ref C, dict := none, data := .fields #[.ref (h1.push (kxs_mw "ValueError.__init__" e)).objs.size, .none, .none, .none, .bool false, .none] }) (od := none) ⟨e3, rfl, rfl, trivial⟩ hsa ?_
  refine HandSPX.exc_osa X3 e3 hC hmro hhd hfl (fun h' tk' dx k4 dn dne hx hn => ?_)
  refine wpAt_of_wpAny (wpAny_execs_nil ?_)
  have z0 : hp.objs.size < h₀.objs.size := by
    obtain ⟨oL, es, ep, hL, r⟩ := hns
    exact Heap.lt_size hL
  have z1 : h₀.objs.size < h1.objs.size := Heap.lt_size so
  have lt' : e < hp.objs.size := lt
  have dn' : h3.objs.size ≤ dx := dn
  have s1 : h1.objs.size < (h1.push (kxs_mw "ValueError.__init__" e)).objs.size := by rw [Heap.size_push]; omega
  have s3 : (h1.push (kxs_mw "ValueError.__init__" e)).objs.size < h3.objs.size := Heap.lt_size t3
  have nt : (h1.push (kxs_mw "ValueError.__init__" e)).objs.size ≠ e := Nat.ne_of_gt (Nat.lt_trans (show e < hp.objs.size from lt') (by omega))
  exact hq h' _ dx (h1.push (kxs_mw "ValueError.__init__" e)).objs.size (fun b o hb z => k4 b o hb (k3 b o hb (Heap.get?_push_of_some _ (k1 _ _ (k _ _ z))))) (show hp.objs.size ≤ dx from Nat.le_trans (by omega) dn') (show hp.objs.size ≤ (h1.push (kxs_mw "ValueError.__init__" e)).objs.size by omega) (Nat.ne_of_gt (Nat.lt_of_lt_of_le s3 dn')) hx hn (k4 _ _ nt t3)
end
end VL
set_option maxHeartbeats 2000000
/-! EX2: .. as a promise of the def; C(e) and C(x=e) as values. -/
namespace VL
open PySem PySem.Spec PyProof.Rows L2
/-- what the written part says of such a class C, whose __init__ is the def at f -/
structure SupI (P : Program) (K : PySem.W.Frag) (mg : Str → Option Value) (C f : Addr) (fd : FuncData) (st : Stmt) (qual x fl : Str) : Prop where
  fn : ∃ (oc : Value) (od : Option Addr) (kV doc pm : Value) (an : Option Addr) (cda : Addr) (ct : Value) (cc : Addr) (osl : Array (Option Value)) (ccl : Value) (cdd : Option Addr) (vs : Array Value) (ccs : Array (Option Value)) (file : Str) (tf : Tok) (cl : Value) (cld : Option Addr) (csl : Array (Option Value)) (p0 p1 p2 p3 p4 p5 p6 p7 p8 p9 : Pos) (pl : Sem Bool) (ar : Arg),
    fd = PySem.W.ksFn "__init__" qual (defArgs st) (bodyX x fl p0 p1 p2 p3 p4 p5 p6 p7 p8 p9) (defScope st) .none kV doc pm an (.ref cda) ct cc ∧ K.lookup f = some ⟨oc, od, .func fd, osl⟩ ∧ PySem.W.codeIn K (.ref cda) qual = true ∧
    K.lookup cda = some ⟨ccl, cdd, .fields vs, ccs⟩ ∧ vs[2]? = some (.str file tf) ∧ ((P.main.file : Str) == file) = true ∧ K.lookup cc = some ⟨cl, cld, .cell (some (.ref C)), csl⟩ ∧
    (((defArgs st).posonlyargs ++ (defArgs st).args).head? = some ar ∧ ar.arg = "self") ∧
    ∀ L, eval (.Call (.Attribute (.Call (.Name "super" p0) [] [] p1) "__init__" p2) [.Name x p3] [] p4) (PySem.W.ksEnv qual (defScope st) L f (.ref cda) cc) = (do
      let ov ← attributeBase (.Call (.Name "super" p0) [] [] p1) "__init__" (PySem.W.ksEnv qual (defScope st) L f (.ref cda) cc) (eval (.Call (.Name "super" p0) [] [] p1) (PySem.W.ksEnv qual (defScope st) L f (.ref cda) cc))
      standAt p2.atName
      let (fn, first) ← holding [ov] (getMethod ov "__init__" pl)
      callWith p4 fn first (backTo p4 (starEach [.Name x p3] (PySem.W.ksEnv qual (defScope st) L f (.ref cda) cc))) [])
  cls : ∃ cd bm, PySem.W.clsIn K C = some cd ∧ PySem.HandSPX.refsVE cd.mro = true ∧ cd.hasDict = true ∧ PySem.W.excInitIn K C bm "ValueError.__new__" = true ∧ ExcBaseFacts "ValueError" "ValueError.__new__" "ValueError.__init__" bm
  sub : PySem.W.mroIn K C (.ref C) = some true
  sup : mg "super" = none
  top : (P.main.scope.names.lookup ("super" : Str)).isSome = false
  opq : PySem.W.nsIn K cStatics "thirdparty.any" = some none
  sm : PySem.W.ks_superIn K C C "__init__" = some (some (.builtin "ValueError.__init__"))
  sB : PySem.W.subIn K (.ref C) (.type "ValueError") = some true
  sa : PySem.W.findIn K (.ref C) "__setattr__" = some (some (.builtin "object.__setattr__"))
  fno : PySem.W.findIn K (.ref C) fl = some none
structure SupS (sc : Scope) (x : Str) : Prop where
  n1 : sc.names.lookup ("super" : Str) = some .globalImplicit
  n2 : sc.names.lookup ("__class__" : Str) = some .free
  n3 : sc.names.lookup ("self" : Str) = some .local
  n4 : sc.names.lookup x = some .local
  hne : x ≠ "self"
  hdb : (x == ("__debug__" : Str)) = false
  hnc : ∀ x ∈ sc.names, x.2 ≠ .cell
  hco : sc.isCoroutine = false
  hgen : sc.isGenerator = false
  hk : sc.kind = .function
def spX (C : Addr) (fl : Str) : Sp := fun vs H Q _ => ∃ a v, vs = [.ref a, v] ∧ H a = some (exo a C none) ∧ ∀ dx, H dx = none → dx ≠ a → Q .non (upd (upd H dx (exd dx [(fl, v)])) a (exo a C (some dx)))
theorem fnG_sup {P : Program} {w : World} {K : PySem.W.Frag} {mg : Str → Option Value} {base : Heap} {C f : Addr} {fd : FuncData} {st : Stmt} {qual x fl : Str} (T : SupI P K mg C f fd st qual x fl) (S : SupS (defScope st) x) :
    FnG P w K mg base 1 f fd ["self", x] (spX C fl) := by
  refine ⟨fun vs H Q E h => ?_, ?_⟩
  · obtain ⟨a, v, rfl, _⟩ := h; rfl
  intro B below t J as us vs R E rg e0 hb rv hsp
  obtain ⟨a, v, rfl, ea, q⟩ := hsp
  obtain ⟨oc, od, kV, doc, pm, an, cda, ct, cc, osl, ccl, cdd, vs, ccs, file, tf, cl, cld, csl, p0, p1, p2, p3, p4, p5, p6, p7, p8, p9, pl, ar, rfl, lk, cd, lcd, hvs, hfile, lcc, ⟨hpar, har⟩, hE⟩ := T.fn
  obtain ⟨cdt, bm, hC, hmro, hhd, hini, FB⟩ := T.cls
  have KX : K.In t.heap := e0.mod.kin.keeps fun b o q => (e0.bs b o q).1
  have bk : ∀ b o, base.get? b = some o → t.heap.get? b = some o := fun b o q => (e0.bs b o q).1
  have lim : t.heap.NoLimit := e0.mod.nolimit.keeps bk
  obtain ⟨mb, b1, b2⟩ := e0.mod.blt
  obtain ⟨t1, ho⟩ := exo_at e0.hok ea
  cases rv with
  | @cons _ u0 _ ur ra rw' =>
    obtain rfl : u0 = Value.ref a := ra
    cases rw' with
    | @cons _ u1 _ _ r1 rn =>
      cases rn
      refine sup_code (mg := mg) (t0 := t1) (e := a) (v := u1) rg.room.depth KX lim (e0.mod.glob.keeps bk) ⟨mb, b1.keeps bk, b2⟩ lk cd hb hpar har lcd hvs hfile lcc hC hmro hhd T.sub T.sup T.top T.opq T.sm T.sB hini FB T.sa T.fno S.n1 S.n2 S.n3 S.n4 S.hne S.hdb S.hnc S.hco S.hgen S.hk hE ho (fun b o e z => ?_) (fun h' tk' dx t2 k dn _ _ hx hn _ => ?_)
      · subst z
        have := (e0.bs _ _ (e0.mod.kin _ _ e)).2
        rw [ea] at this; cases this
      have hnd : J dx = none := e0.hok.fresh dn
      have nd : ∀ {b : Addr} {o : Obj}, t.heap.get? b = some o → b ≠ dx := fun {b o} q => Nat.ne_of_lt (Nat.lt_of_lt_of_le (Heap.lt_size q) dn)
      have na : ∀ {b : Addr}, J b = none → b ≠ a := fun {b} n z => by
        rw [z, ea] at n
        cases n
      have dne : dx ≠ a := na hnd
      have Un1 : Un (frs below) [] J (upd (upd J dx (exd dx [(fl, v)])) a (exo a C (some dx))) t.heap h' := {
        keep := fun b o q n _ _ => k b o (na n) q
        slot := fun b o q n _ _ => ⟨o.slots, k b o (na n) q⟩
        free := fun b o q n _ => by rw [upd_ne (na n), upd_ne (nd q)]; exact n
        there := fun b o q _ => by
          by_cases hb : b = a
          · exact ⟨_, by rw [hb]; exact hx⟩
          · exact ⟨o, k b o hb q⟩
        tups := fun b xs q => by rw [upd_ne (at_ne ea q exo_tup), upd_ne (ne_of_none q hnd)]; exact q
        frzs := fun b o v q => by rw [upd_ne (at_ne ea q exo_frz), upd_ne (ne_of_none q hnd)]; exact q
        tbls := fun b ps q => ⟨#[], by rw [upd_ne (at_ne ea q exo_tbl), upd_ne (ne_of_none q hnd), q]; simp⟩ }
      refine ⟨.non, _, rfl, e0.bare, Un1, fun b o q' => ?_, rfl, q dx hnd dne⟩
      by_cases hb : b = a
      · subst hb
        rw [upd_same] at q'
        cases q'
        exact exo_ok hx
      · rw [upd_ne hb] at q'
        by_cases hd : b = dx
        · subst hd
          rw [upd_same] at q'
          cases q'
          exact exd_ok hn (relO_put (fs := []) r1 fun g => True.intro)
        · rw [upd_ne hd] at q'
          exact (e0.hok b o q').stay (fun c v hc z => k c v (by
              rcases hc with hc | hc
              · rw [hc]
                exact hb
              · exact at_ne ea hc exo_own) z)
            (fun c hc => by rw [upd_ne (at_ne ea hc exo_own), upd_ne (ne_of_none hc hnd)]; exact hc) (fun c xs hc => by rw [upd_ne (at_ne ea hc exo_tup), upd_ne (ne_of_none hc hnd)]; exact hc)
end VL
set_option maxHeartbeats 2000000
/-! EX3: C(x=u) of an own exception class: made without arguments, then the own __init__ by keyword. -/
namespace VL
open PySem PySem.HandSPX
open Builtin Builtin.ObjectAttr
section
variable {M : Model} {A : Around} {E : Value → Shared → Prop} {h : Heap} {g : Array GenState} {d : Drawn} {t : Nat} {os : OsState}
variable {nm q : Str} {C N : Addr} {bs bm bmB : List Value} {hdct : Bool} {sn : List Str} {sub : List Value} {ab : Bool} {col : Option Bool} {dd : Option Addr} {k0 k1 k2 k3 k5 : Option Value} {B newId initId : String} {kn : Str} {kv : Value}
theorem check_new_kw (F : ExcBaseFacts B newId initId bmB) (hT : ∀ X : String, bm.contains (.type X) = bmB.contains (.type X)) {Q : Unit → Shared → Prop}
    (hC : h.get? C = some (excClassObj nm q C N bs bm hdct sn sub ab col dd k0 k1 k2 k3 k5 newId)) (hq : Q () ⟨h, g, d, t, os⟩) : wpAny M A (checkBuiltinCall newId ⟨[.ref C], [(kn, kv)]⟩) Q E ⟨h, g, d, t, os⟩ := by
  have hcont : (Value.ref C :: bm).contains (.type B) = true := by rw [List.contains_cons, hT, F.hasB, Bool.or_true]
  have hstar := F.noStar
  simp only [checkBuiltinCall, F.newKind, F.newSplit, F.newRow]
  repeat (first | refine wpAny_loadPart_at hC ?_ | (refine wpAny_isSubtype_exc hC ?_; rw [hcont]) | refine wpAny_staticBase_exc hC ?_ | refine wpAny_madeBy_exc hC ?_ | simp only [bne_self_eq_false, Bool.false_eq_true, if_false] | wp_step)
  exact hq
end
section
variable {prog : Program} {w : World} {A : Around} {E : Value → Shared → Prop} {R : Result → Shared → Prop} {h : Heap} {g : Array GenState} {d : Drawn} {t : Nat} {os : OsState}
variable {nm q : Str} {C N : Addr} {bs bm bmB : List Value} {hdct : Bool} {sn : List Str} {sub : List Value} {ab : Bool} {col : Option Bool} {dd : Option Addr} {k0 k1 k2 k3 k5 : Option Value} {B newId initId : String} {kn : Str} {kv : Value}
theorem new_kw (F : ExcBaseFacts B newId initId bmB) (hT : ∀ X : String, bm.contains (.type X) = bmB.contains (.type X))
    (hC : h.get? C = some (excClassObj nm q C N bs bm hdct sn sub ab col dd k0 k1 k2 k3 k5 newId))
    (hq : R (.ok (.ret (.ref (h.objs.size + 1)))) ⟨(h.push { cls := .type "tuple", data := .seq ([] : List Value).toArray }).push
      { cls := .ref C, data := .fields #[.ref h.objs.size, .none, .none, .none, .bool false, .none] }, g, d, t, os⟩) :
    codeAny (model prog w) A (.builtin newId ⟨[.ref C], [(kn, kv)]⟩) R ⟨h, g, d, t, os⟩ := by
  have hends := F.ends
  have hcB : (Value.ref C :: bm).contains (.type B) = true := by rw [List.contains_cons, hT, F.hasB, Bool.or_true]
  have hcA : (Value.ref C :: bm).contains (.type "AttributeError") = false := by rw [List.contains_cons, hT, F.noAttr]; rfl
  have hcN : (Value.ref C :: bm).contains (.type "NameError") = false := by rw [List.contains_cons, hT, F.noName]; rfl
  refine codeAny_builtinAt F.entry ?_
  unfold Builtin.«BaseException.__new__»
  refine wpAt_bind ?_
  show wpAt _ _ _ (stack >>= _) _ _ _
  refine wpAt_bind (wpAt_stack fun p below => wpAt_of_wpAny ?_)
  wp_walk
  refine wpAt_of_wpAny ?_
  rw [F.owner]
  have hz : ([] : List Value).length ≤ sizeLine := by rw [sizeLine_eq]; exact Nat.zero_le _
  repeat (first | with_reducible refine wpAny_madeHere_exc F.canon hC ?_ | with_reducible refine wpAny_loadPart_at hC ?_ | (with_reducible refine wpAny_isSubtype_exc hC ?_; first | rw [hcB] | rw [hcA] | rw [hcN]) | wp_step)
  show R _ _
  rw [Heap.size_push]
  exact hq
theorem type_call_kw (F : ExcBaseFacts B newId initId bmB) (hT : ∀ X : String, bm.contains (.type X) = bmB.contains (.type X)) {fI : Addr} {Q : Fin → Shared → Prop}
    (hC : h.get? C = some (excClassObj nm q C N bs bm hdct sn sub ab col dd k0 k1 k2 k3 k5 newId))
    (hi : W.Looks (model prog w) h (typeLookup (.ref C) "__init__") (some (.ref fI))) (hb : ∀ self, W.Looks (model prog w) h (bindSpecial (.ref fI) self) (.ref fI, [self]))
    (hq : codeAny (model prog w) A (.call (.ref fI) ⟨[.ref (h.objs.size + 1)], [(kn, kv)]⟩)
      (fun r s' => match r with | .ok (.ret v) => v = .none ∧ Q (.done (.ret (.ref (h.objs.size + 1)))) s' | .ok _ => False | .error e => E e s')
      ⟨(h.push (W.kdv_tup [])).push (excO C h.objs.size), g, d, t, os⟩) :
    wpAny (model prog w) A (Builtin.«type.__call__» ⟨[.ref C], [(kn, kv)]⟩) Q E ⟨h, g, d, t, os⟩ := by
  repeat (first | with_reducible refine wpAny_loadPart_at hC ?_ | with_reducible refine wpAny_madeBy_exc hC ?_ | wp_step)
  refine codeAny_call_builtin_code (Code.quiet_builtin _ F.quiet) (check_new_kw F hT hC ?_)
  refine new_kw F hT hC ?_
  show wpAny _ _ _ _ _ _
  have k : ∀ b o, h.get? b = some o → ((h.push (W.kdv_tup [])).push (excO C h.objs.size)).get? b = some o := fun b o e => Heap.get?_push_of_some _ (Heap.get?_push_of_some _ e)
  have hC₁ := k _ _ hC
  have hget : ((h.push (W.kdv_tup [])).push (excO C h.objs.size)).get? (h.objs.size + 1) = some (excO C h.objs.size) := by heap_get
  have hcC : (Value.ref C :: bm).contains (.ref C) = true := by simp
  have i1 := hi.keeps k
  have b1 := (hb (.ref (h.objs.size + 1))).keeps k
  unfold isInstance
  repeat (first | with_reducible refine wpAny_loadPart_at hget ?_ | (with_reducible refine wpAny_isSubtype_exc hC₁ ?_; rw [hcC]) | wp_step)
  show wpAny _ _ (typeLookup (.ref C) _) _ _ _
  refine i1.at ?_
  refine wpAny_holding (wpAny_bind (b1.at ?_))
  refine wpAny_bind (wpAny_call (codeAny_mono hq fun r s' z => ?_))
  rcases r with e | (v | _ | _ | _) <;> first | exact z | exact z.elim | skip
  obtain ⟨rfl, z⟩ := z
  first
    | exact wpAny_pure (wpAny_pure z)
    | (wp_walk; exact z)
theorem call_kw (F : ExcBaseFacts B newId initId bmB) (hT : ∀ X : String, bm.contains (.type X) = bmB.contains (.type X)) {fI : Addr}
    (hC : h.get? C = some (excClassObj nm q C N bs bm hdct sn sub ab col dd k0 k1 k2 k3 k5 newId))
    (hi : W.Looks (model prog w) h (typeLookup (.ref C) "__init__") (some (.ref fI))) (hb : ∀ self, W.Looks (model prog w) h (bindSpecial (.ref fI) self) (.ref fI, [self]))
    (hq : codeAny (model prog w) (A.under (.builtin "type.__call__" ⟨[.ref C], [(kn, kv)]⟩)) (.call (.ref fI) ⟨[.ref (h.objs.size + 1)], [(kn, kv)]⟩) (W.InitBack (h.objs.size + 1) R)
      ⟨(h.push (W.kdv_tup [])).push (excO C h.objs.size), g, d, t, os⟩) :
    codeAny (model prog w) A (.call (.ref C) ⟨[], [(kn, kv)]⟩) R ⟨h, g, d, t, os⟩ := by
  have f1 := tc_lookup
  have f2 := tc_bind (.ref C)
  have hTy : (⟨h, g, d, t, os⟩ : Shared).TypeIs (.ref C) "type" := ⟨_, hC, rfl⟩
  refine codeAny_of_tree ?_
  show wpAny _ _ (callAny (.ref C) _) _ _ _
  repeat (any_goals (first | assumption | with_reducible refine wpAny_loadPart_at hC ?_ | wp_step))
  refine ⟨rfl, ?_⟩
  refine codeAny_call_builtin_at (Code.quiet_builtin _ (by decide +kernel)) entry_typeCall (wpAny_check_type_call_sub hC (type_call_kw F hT hC hi hb ?_))
  refine codeAny_mono hq fun r s' z => ?_
  rcases r with e | (v | _ | _ | _) <;> exact z
end
end VL
set_option maxHeartbeats 1000000
/-! VL33: exceptions as values: made, their fields, their class, their text. -/
namespace VL
open PySem PySem.Spec PyProof.Rows L2
theorem exv_ok {P : Program} {w : World} {H : Hp} {h : Heap} {a C dx : Addr} {oe : Obj} {vs : Array Value} (e : h.get? a = some oe) (z : Zc (.ref C) (some dx) oe) (d : oe.data = .fields vs) : ObjOk P w H h a (exv a C dx) :=
  ⟨⟨oe, vs, e, z, d⟩, ⟨oe, e⟩, fun _ _ ⟨o, v, q, r⟩ k => ⟨o, v, k o q, r⟩⟩
theorem exw_ok {P : Program} {w : World} {H : Hp} {h : Heap} {a C ta : Addr} {oe : Obj} {vs : Array Value} (e : h.get? a = some oe) (z : Zc (.ref C) none oe) (d : oe.data = .fields vs) (d0 : vs[0]? = some (.ref ta)) : ObjOk P w H h a (exw a C ta) :=
  ⟨⟨oe, vs, e, z, d, d0⟩, ⟨oe, e⟩, fun _ _ ⟨o, v, q, r⟩ k => ⟨o, v, k o q, r⟩⟩
/-- an exception class with such an __init__ -/
structure MkX (P : Program) (K : PySem.W.Frag) (mg : Str → Option Value) (C f : Addr) (fd : FuncData) (st : Stmt) (qual x fl : Str) : Prop where
  T : SupI P K mg C f fd st qual x fl
  S : SupS (defScope st) x
  iC : PySem.W.findIn K (.ref C) "__init__" = some (some (.ref f))
  tI : PySem.W.typeIn K (.ref f) = some (.type "function")
  kC : PySem.W.keepIn K (.ref C) = true
  b0 : Binds K fd ["self", x] []
  b1 : KB K fd ["self", x] [x] 1 [0, 1]
section
variable {X : Cx} {C f : Addr} {fd : FuncData} {st : Stmt} {qual x fl : Str}
theorem runX {pins : List (Addr × Obj)} {σ : St} {J : Hp} {t : Shared} {R : VK} {u : Value} {v : V} (M : MkX X.prog X.K X.mg C f fd st qual x fl) (rg : RoomG 2 X.A) (kw : Bool)
    (I : Inv X pins σ J t) (ru : RelV v u) (q : ∀ a dx, J a = none → J dx = none → dx ≠ a → R (.ref a) (upd (upd J dx (.xd [(fl, v)])) a (exv a C dx))) :
    wpAny (model X.prog X.w) X.A (PySem.call (.ref C) (if kw then [] else [u]) (if kw then [(x, u)] else [])) (EP X pins σ R) X.xe t := by
  obtain ⟨cd, bm, hC, hmro, hhd, hini, FB⟩ := M.T.cls
  obtain ⟨nm, N', qn, bs, bm', hdct, sn, sub, ab, col, dd, k0, k1, k2, k3, k5, hCo, hT⟩ := PySem.W.excInit_of I.kIn hini
  obtain ⟨hp, g, dr, tk, os⟩ := t
  have F := fnG_sup (w := X.w) (base := X.base) M.T M.S
  have hsz : hp.objs.size ≤ hp.objs.size + 1 := Nat.le_succ _
  have hn : J (hp.objs.size + 1) = none := I.hok.fresh hsz
  have kk : ∀ (us : List Value) b o, hp.get? b = some o → ((hp.push (PySem.W.kdv_tup us)).push (PySem.HandSPX.excO C hp.objs.size)).get? b = some o := fun us b o e => Heap.get?_push_of_some _ (Heap.get?_push_of_some _ e)
  have hget : ∀ us : List Value, ((hp.push (PySem.W.kdv_tup us)).push (PySem.HandSPX.excO C hp.objs.size)).get? (hp.objs.size + 1) = some (PySem.HandSPX.excO C hp.objs.size) := fun us => by heap_get
  have I2 : ∀ us : List Value, Inv X pins σ (upd J (hp.objs.size + 1) (exo (hp.objs.size + 1) C none)) ⟨(hp.push (PySem.W.kdv_tup us)).push (PySem.HandSPX.excO C hp.objs.size), g, dr, tk, os⟩ := fun us =>
    I.laid (t' := tk) (a := hp.objs.size + 1) (o := exo (hp.objs.size + 1) C none) (h' := (hp.push (PySem.W.kdv_tup us)).push (PySem.HandSPX.excO C hp.objs.size)) (kk us) hsz (exo_ok (hget us))
  have rv : Vals [V.ref (hp.objs.size + 1), v] [Value.ref (hp.objs.size + 1), u] := .cons rfl (.cons ru .nil)
  let Rx : VK := fun v' H2 => v' = .non ∧ ∃ dx, J dx = none ∧ dx ≠ hp.objs.size + 1 ∧ H2 = upd (upd (upd J (hp.objs.size + 1) (exo (hp.objs.size + 1) C none)) dx (exd dx [(fl, v)])) (hp.objs.size + 1) (exo (hp.objs.size + 1) C (some dx))
  have hsp : spX C fl [.ref (hp.objs.size + 1), v] (upd J (hp.objs.size + 1) (exo (hp.objs.size + 1) C none)) Rx (fun _ _ _ => False) := by
    refine ⟨_, _, rfl, upd_same, fun dx n ne => ⟨rfl, dx, ?_, ne, rfl⟩⟩
    rwa [upd_ne ne] at n
  have fin : ∀ (us : List Value) (r : Result) (t' : Shared), CR (L2.CX X.prog X.w) X.stack X.prog X.w (upd J (hp.objs.size + 1) (exo (hp.objs.size + 1) C none)) ⟨(hp.push (PySem.W.kdv_tup us)).push (PySem.HandSPX.excO C hp.objs.size), g, dr, tk, os⟩ Rx (fun _ _ _ => False) r t' →
      PySem.W.InitBack (hp.objs.size + 1) (fun r s' => match r with | .ok (.ret v) => EP X pins σ R v s' | .ok _ => False | .error e => X.xe e s') r t' := by
    intro us r t' hq
    match r, hq with
    | .error e, hq => obtain ⟨_, _, _, _, _, _, _, _, _, _, _, _, q⟩ := hq; exact False.elim q
    | .ok .next, hq => exact False.elim hq
    | .ok .brk, hq => exact False.elim hq
    | .ok .cont, hq => exact False.elim hq
    | .ok (.ret ur), hq =>
      obtain ⟨v', J', I3, rr, ev, dx, nd, ne, eJ⟩ := (I2 us).after hq
      subst ev
      subst eJ
      obtain ⟨t1, ho⟩ := exo_at I3.hok upd_same
      obtain ⟨mA, hns, rel⟩ := exd_at I3.hok (show _ = some (exd dx [(fl, v)]) by rw [upd_ne ne]; exact upd_same)
      have I4 := I3.write (t' := t'.toks) (h' := t'.heap) (x := dx) (e := dx) (o := .xd [(fl, v)]) (by rw [upd_ne ne, upd_same]; exact True.intro) (.inl rfl) (fun _ _ _ z => z) (by obtain ⟨o, _, _, z, _⟩ := hns; exact ⟨o, z⟩) ⟨mA, hns, rel⟩
      have I5 := I4.write (t' := t'.toks) (h' := t'.heap) (x := hp.objs.size + 1) (e := hp.objs.size + 1) (o := exv (hp.objs.size + 1) C dx) (by rw [upd_ne (Ne.symm ne), upd_same]; exact True.intro) (.inl rfl) (fun _ _ _ z => z) ⟨_, ho⟩ (exv_ok ho ⟨rfl, rfl⟩ rfl)
      refine ⟨rr, ⟨V.ref (hp.objs.size + 1), _, I5, rfl, ?_⟩⟩
      have := q (hp.objs.size + 1) dx hn nd ne
      refine cast (congrArg (R _) ?_) this
      funext b
      by_cases h1 : b = hp.objs.size + 1
      · subst h1; rw [upd_same, upd_same]
      · rw [upd_ne h1, upd_ne h1]
        by_cases h2 : b = dx
        · subst h2; rw [upd_same, upd_same]
        · rw [upd_ne h2, upd_ne h2, upd_ne h1, upd_ne h2, upd_ne h1]
  cases kw with
  | false =>
    have bd := M.b0 _ [Value.ref (hp.objs.size + 1), u] (I2 [u]).kIn rfl
    rw [List.append_nil] at bd
    refine wpAny_call (PySem.HandSPX.call_own FB hT hCo (PySem.W.looks_findIn I.kIn M.iC) (fun self => PySem.W.bind_fn I.kIn self M.tI) (by show 1 ≤ sizeLine; rw [sizeLine_eq]; omega) (codeAny_mono (F.go _ X.stack _ _ ⟨_, []⟩ _ _ _ (fun _ _ _ => False) ((rg.make C [u] [])) ((I2 [u]).env0.make C [u] []) bd rv hsp) (fin [u])))
  | true =>
    have bd := M.b1 _ [Value.ref (hp.objs.size + 1)] [u] (I2 []).kIn rfl rfl
    refine wpAny_call (VL.call_kw FB hT hCo (PySem.W.looks_findIn I.kIn M.iC) (fun self => PySem.W.bind_fn I.kIn self M.tI) (codeAny_mono (F.go _ X.stack _ _ ⟨_, _⟩ _ _ _ (fun _ _ _ => False) ((rg.make C [] [(x, u)])) ((I2 []).env0.make C [] [(x, u)]) bd rv hsp) (fin [])))
end

def tMkX (C : Addr) (fl : Str) (t : TA) : TE := fun σ H Q => t σ H fun vs H1 => ∃ v, vs = [v] ∧ ∀ a dx, H1 a = none → H1 dx = none → dx ≠ a → Q (.ref a) (upd (upd H1 dx (.xd [(fl, v)])) a (exv a C dx))
section
variable {X : Cx} {C f : Addr} {fd : FuncData} {st : Stmt} {qual x fl : Str}
/-- C(e) -/
theorem pe_mkX {n : Str} {p pos : Pos} {e : Expr} {t : TA} (M : MkX X.prog X.K X.mg C f fd st qual x fl) (rg : RoomG 2 X.A) (hg : Gl X n) (hm : X.mg n = some (.ref C)) (ha : PA X [e] t)
    (hdb : (n == ("__debug__" : Str)) = false := by decide) (he : starEach [e] X.env = (false, eval e X.env) :: starEach [] X.env := by rfl) (hpl : (backTo pos (starEach [] X.env)).any (·.1) = false := by rfl) :
    PE X (.Call (.Name n p) [e] [] pos) (tMkX C fl t) := by
  constructor
  intro pins t0 σ J R I h
  refine wpAny_Call_Name_kw (ld_glob I hg hm ?_ hdb)
  refine PySem.W.callWith_K (h₀ := X.base) I.ok.mod.kin M.kC (thn (ha.run pos pins t0 σ J _ I h) ?_) he hpl
  rintro us t1 ⟨vs, J1, I1, rv, v, rfl, q⟩
  cases rv with
  | cons ru rn =>
    cases rn
    exact ⟨I1.kIn, runX M rg false I1 ru q⟩
/-- C(x=e) -/
theorem pe_mkXK {n : Str} {p pos kp : Pos} {e : Expr} {t : TA} (M : MkX X.prog X.K X.mg C f fd st qual x fl) (rg : RoomG 2 X.A) (hg : Gl X n) (hm : X.mg n = some (.ref C)) (hkw : PK X [⟨some x, e, kp⟩] t)
    (hall : (backToKw pos (keywordEach [⟨some x, e, kp⟩] X.env)).all (·.1.isSome) = true := by rfl) (hks : (backToKw pos (keywordEach [⟨some x, e, kp⟩] X.env)).filterMap (·.1) = [x] := by rfl) (hdb : (n == ("__debug__" : Str)) = false := by decide)
    (hpl : ((backTo pos (starEach [] X.env)).any (·.1) || (backToKw pos (keywordEach [⟨some x, e, kp⟩] X.env)).any (·.1.isNone)) = false := by rfl) :
    PE X (.Call (.Name n p) [] [⟨some x, e, kp⟩] pos) (tMkX C fl t) := by
  constructor
  intro pins t0 σ J R I h
  refine wpAny_Call_Name_kw (ld_glob I hg hm ?_ hdb)
  refine PySem.W.callWith_KW0 (h₀ := X.base) I.ok.mod.kin M.kC hall (thn (hkw.run pos pins t0 σ J _ I h) ?_) hpl
  rintro ws t1 ⟨zs, J1, I1, rz, v, rfl, q⟩
  cases rz with
  | cons ru rn =>
    cases rn
    refine ⟨I1.kIn, ?_⟩
    rw [hks]
    exact runX M rg true I1 ru q
end
def xMkX (cn : Nat) (fl : Str) (f : AE) : EE := fun ρ => do
  let (l, ρ1) ← f ρ
  match l with
  | [(d, k)] => if fzAll [(d, k)] = true then .ok (.exc cn [(fl, d)], .fz, ρ1) else .bad
  | _ => .bad
theorem NewV.exc {G : Gm} {F : Addr → Prop} {H : Hp} {a dx C : Addr} {c : Nat} {fl : Str} {v : V} {d : D} (hd : DomF F H) (ha : H a = none) (hx : H dx = none) (ne : dx ≠ a) (hC : G.cm c = some C) (r : Rep G F H [v] [d]) :
    NewV G F H (fun b => F b ∨ b = a ∨ b = dx) (upd (upd H dx (.xd [(fl, v)])) a (exv a C dx)) (.ref a) (.exc c [(fl, d)]) .fz [] := by
  have kp : ∀ b o, H b = some o → upd (upd H dx (.xd [(fl, v)])) a (exv a C dx) b = some o := fun b o e => by rw [upd_ne (ne_of_none e ha), upd_ne (ne_of_none e hx)]; exact e
  have e1 : upd (upd H dx (.xd [(fl, v)])) a (exv a C dx) a = some (exv a C dx) := upd_same
  have e2 : upd (upd H dx (.xd [(fl, v)])) a (exv a C dx) dx = some (.xd [(fl, v)]) := by rw [upd_ne ne]; exact upd_same
  refine ⟨fun b f => ?_, fun _ h => .inl h, fun b h => ?_, kp, .fz (.exc (.inr (.inl rfl)) e1 (.inr (.inr rfl)) e2 hC rfl (r.keep (fun _ h => .inl h) fun b o _ e _ => kp b o e) .nil), rfl⟩
  · rcases f with f | rfl | rfl
    · obtain ⟨o, e, t⟩ := hd b f; exact ⟨o, kp b o e, t⟩
    · exact ⟨_, e1, rfl⟩
    · exact ⟨_, e2, rfl⟩
  · rcases h with h | rfl | rfl
    · exact .inl h
    · exact .inr ha
    · exact .inr hx
section
variable {X : Cx} {G : Gm} {W : WX} {C fa : Addr} {fd : FuncData} {st : Stmt} {qual x fl : Str} {cn : Nat}
theorem tS_mkX {s : Bool} {f : AE} (hC : G.cm cn = some C) {σ H Q} (h : tS G W s (xMkX cn fl f) σ H Q) : tMkX C fl (tA G W s f) σ H Q := by
  obtain ⟨x, rfl, rfl, hi, q⟩ := h
  refine ⟨x, rfl, rfl, hi, ?_⟩
  unfold xMkX at q
  cases h1 : f x.rho with
  | bad => simp only [h1, Res.bind_bad] at q
  | err c d ρ' => simp only [h1, Res.bind_err] at q; exact q
  | ok r1 =>
    obtain ⟨l, ρ1⟩ := r1
    simp only [h1, Res.bind_ok] at q
    intro y vs hρ iy ey ay
    cases l with
    | nil => exact q.elim
    | cons dk l =>
      obtain ⟨d, k⟩ := dk
      cases l with
      | cons _ _ => exact q.elim
      | nil =>
        by_cases hc : fzAll [(d, k)] = true
        · simp only [if_pos hc] at q
          obtain ⟨F', i', e', r⟩ := ay.frozen hi iy ey hc
          obtain ⟨v, ws, rfl, r1, r2⟩ := r.cons_of
          have := r2.nil_of
          subst this
          refine ⟨v, rfl, fun a dx ha hx ne => ?_⟩
          have P := EPost.after (y := { y with F := F' }) hi i' e' (NewV.exc (fl := fl) i'.dom ha hx ne hC r1)
          exact q { F := _, rho := y.rho, sg := y.sg, H := _, o := y.o, p := y.p, b := y.b } _ [] hρ P
        · simp only [if_neg hc] at q
theorem r_mkX {n : Str} {p pos : Pos} {e : Expr} {s : Bool} {f : AE} (M : MkX X.prog X.K X.mg C fa fd st qual x fl) (rg : RoomG 2 X.A) (hC : G.cm cn = some C) (hg : Gl X n) (hm : X.mg n = some (.ref C)) (ha : PA X [e] (tA G W s f))
    (hdb : (n == ("__debug__" : Str)) = false := by decide) (he : starEach [e] X.env = (false, eval e X.env) :: starEach [] X.env := by rfl) (hpl : (backTo pos (starEach [] X.env)).any (·.1) = false := by rfl) :
    PE X (.Call (.Name n p) [e] [] pos) (tS G W s (xMkX cn fl f)) := PE.of (pe_mkX M rg hg hm ha hdb he hpl) fun σ H Q h => tS_mkX hC h
theorem r_mkXK {n : Str} {p pos kp : Pos} {e : Expr} {s : Bool} {f : AE} (M : MkX X.prog X.K X.mg C fa fd st qual x fl) (rg : RoomG 2 X.A) (hC : G.cm cn = some C) (hg : Gl X n) (hm : X.mg n = some (.ref C)) (hkw : PK X [⟨some x, e, kp⟩] (tA G W s f))
    (hall : (backToKw pos (keywordEach [⟨some x, e, kp⟩] X.env)).all (·.1.isSome) = true := by rfl) (hks : (backToKw pos (keywordEach [⟨some x, e, kp⟩] X.env)).filterMap (·.1) = [x] := by rfl) (hdb : (n == ("__debug__" : Str)) = false := by decide)
    (hpl : ((backTo pos (starEach [] X.env)).any (·.1) || (backToKw pos (keywordEach [⟨some x, e, kp⟩] X.env)).any (·.1.isNone)) = false := by rfl) :
    PE X (.Call (.Name n p) [] [⟨some x, e, kp⟩] pos) (tS G W s (xMkX cn fl f)) := PE.of (pe_mkXK M rg hg hm hkw hall hks hdb hpl) fun σ H Q h => tS_mkX hC h
end
/-! ### e.f -/
def FldXOk (G : Gm) (cs : List Nat) (f : Str) : Prop := ∀ c ∈ cs, ∀ C, G.cm c = some C → ExcI G.K C ∧ PySem.W.findIn G.K (.ref C) f = some none
def dFldX (cs : List Nat) (f : Str) : D → Option (D × Kd)
  | .exc c es => if cs.contains c = true then (es.lookup f).map fun d => (d, .fz) else none
  | _ => none
theorem pe_fldX {X : Cx} {e : Expr} {te : TE} {pos : Pos} {n : Str} (he : PE X e te) (hb : attributeBase e n X.env (eval e X.env) = eval e X.env := by rfl) :
    PE X (.Attribute e n pos) (fun σ H Q => te σ H fun x H1 => ∃ a C dx ws v, x = .ref a ∧ H1 a = some (exv a C dx) ∧ H1 dx = some (.xd ws) ∧ ExcI X.K C ∧ PySem.W.findIn X.K (.ref C) n = some none ∧ ws.lookup n = some v ∧ Q v H1) := by
  refine ⟨fun pins s σ H Q I h => ?_⟩
  refine attr_of hb (thn (he.run pins s σ H _ I h) fun u s1 hh => ?_)
  obtain ⟨x, H1, I1, rx, a, C, dx, ws, v, ex, e1, e2, T, hno, l, q⟩ := hh
  subst ex
  obtain rfl : u = Value.ref a := rx
  obtain ⟨oe, od, mA, J, hns, hr, hl⟩ := exv_inst I1 e1 e2
  obtain ⟨u, hu, ru⟩ := RelO.some_of (v := v) (o := mA n) (by rw [← l]; exact hr n)
  exact HandSPX.exc_get I1.kIn J T.ga T.gg T.sb (PySem.W.findObj_own T.hd hno rfl (by rw [hl, hu])) (handed_of ru) ⟨v, H1, I1.tok _, ru, q⟩
section
variable {X : Cx} {G : Gm} {W : WX}
theorem r_fldX {e : Expr} {f : Str} {pos : Pos} {s : Bool} {g : EE} {cs : List Nat} (hK : X.K = G.K) (hf : FldXOk G cs f) (h : PE X e (tS G W s g)) (hb : attributeBase e f X.env (eval e X.env) = eval e X.env := by rfl) : PE X (.Attribute e f pos) (tS G W s (xAp1 (dFldX cs f) g)) :=
  PE.of (pe_fldX h hb) fun σ H Q q => tS_ap1 (r := fun x H1 Q => ∃ a C dx ws v, x = .ref a ∧ H1 a = some (exv a C dx) ∧ H1 dx = some (.xd ws) ∧ ExcI X.K C ∧ PySem.W.findIn X.K (.ref C) f = some none ∧ ws.lookup f = some v ∧ Q v H1) (fun F H v d fv d' k Q hd ha hg q => by
    cases d <;> simp only [dFldX] at hg <;> first | cases hg | skip
    case exc c es =>
      split at hg
      · rename_i hc
        simp only [Option.map_eq_some_iff, Prod.mk.injEq] at hg
        obtain ⟨d', e1, rfl, rfl⟩ := hg
        obtain ⟨a, C, dx, ws, rfl, h1, h1', h2, h3, h4⟩ := ha.exc_of
        obtain ⟨v, l, r⟩ := h4.lookup h3 e1
        obtain ⟨q1, q2⟩ := hf c (by simpa using hc) C h2
        rw [hK]
        exact ⟨a, C, dx, ws, v, rfl, h1, h1', q1, q2, l, q F H _ [] (.same hd r)⟩
      · cases hg) q
end
end VL
set_option maxHeartbeats 1000000
/-! VL34: exceptions without a field, made of a text; str; enumerate; isinstance facts. -/
namespace VL
open PySem PySem.Spec PyProof.Rows L2
section
variable {X : Cx} {pins : List (Addr × Obj)} {σ : St} {H : Hp} {s : Shared}
/-- two new objects laid and tracked -/
theorem Inv.laid2 {h' : Heap} {a b : Addr} {o u : HO} {t' : Nat} (I : Inv X pins σ H s) (k : ∀ c w, s.heap.get? c = some w → h'.get? c = some w) (ha : s.heap.get? a = none) (hb : s.heap.get? b = none) (na : H a = none) (nb : H b = none)
    (n1 : ObjOk X.prog X.w (upd (upd H b u) a o) h' a o) (n2 : ObjOk X.prog X.w (upd (upd H b u) a o) h' b u) : Inv X pins σ (upd (upd H b u) a o) { s with heap := h', toks := t' } := by
  have ne : ∀ {c w}, s.heap.get? c = some w → c ≠ a ∧ c ≠ b := fun {c w} q => ⟨fun z => (by rw [z, ha] at q; cases q), fun z => (by rw [z, hb] at q; cases q)⟩
  have ne' : ∀ {c w}, H c = some w → c ≠ a ∧ c ≠ b := fun {c w} q => ⟨ne_of_none q na, ne_of_none q nb⟩
  have up : ∀ {c w}, H c = some w → upd (upd H b u) a o c = some w := fun {c w} q => by rw [upd_ne (ne' q).1, upd_ne (ne' q).2]; exact q
  refine I.un ⟨fun c w q _ _ _ => k c w q, fun c w q _ _ _ => ⟨w.slots, k c w q⟩, fun c w q n _ => by rw [upd_ne (ne q).1, upd_ne (ne q).2]; exact n, fun c w q _ => ⟨w, k c w q⟩, fun c xs q => up q, fun c w xs q => up q, fun c ps q => ⟨#[], by rw [up q]; simp⟩⟩ fun c w e => ?_
  by_cases hc : c = a
  · subst hc; rw [upd_same] at e; cases e; exact n1
  · rw [upd_ne hc] at e
    by_cases hd : c = b
    · subst hd; rw [upd_same] at e; cases e; exact n2
    · rw [upd_ne hd] at e
      exact (I.hok c w e).stay (fun x v _ q => k x v q) (fun x q => up q) fun x xs q => up q
end
/-- an exception class without an own __init__ -/
structure MkS (K : PySem.W.Frag) (C : Addr) : Prop where
  q : ∃ bm newId initId, ExcBaseFacts "ValueError" newId initId bm ∧ PySem.W.excIn K C bm newId = true
  kC : PySem.W.keepIn K (.ref C) = true
def tMkS (C : Addr) (t : TE) : TE := fun σ H Q => t σ H fun v H1 => ∀ a ta, H1 a = none → H1 ta = none → ta ≠ a → Q (.ref a) (upd (upd H1 ta (.tup [v])) a (exw a C ta))
section
variable {X : Cx} {C : Addr}
theorem pe_mkS {n : Str} {p pos : Pos} {e : Expr} {t : TE} (M : MkS X.K C) (gC : X.mg n = some (.ref C)) (hg : Gl X n) (he : PE X e t)
    (hs : starEach [e] X.env = (false, eval e X.env) :: starEach [] X.env := by rfl) (hdb : (n == ("__debug__" : Str)) = false := by decide) :
    PE X (.Call (.Name n p) [e] [] pos) (tMkS C t) := by
  obtain ⟨bmB, newId, initId, F, q⟩ := M.q
  refine ⟨fun pins s σ H Q I h => ?_⟩
  refine wpAny_Call_Name_kw (ld_glob I hg gC ?_ hdb)
  refine PySem.W.callWith_K (h₀ := X.base) I.ok.mod.kin M.kC ?_ hs (by rfl)
  rw [hs]
  show wpAny _ _ (spliced ((false, eval e X.env) :: backTo pos (starEach [] X.env))) _ _ s
  refine Calls.spliced_cons (thn (he.run pins s σ H _ I h) fun u s1 ⟨v, H1, I1, r1, q1⟩ => ?_)
  refine Calls.spliced_nil ⟨I1.kIn, ?_⟩
  show wpAny _ _ (PySem.call (.ref C) [u]) _ _ _
  obtain ⟨bm, N, nm, qn, bs, hdct, sn, sub, ab, col, dd, k0, k1, k2, k3, k5, mN, hC, hN, hni, T⟩ := exc_obj I1.kIn q
  refine wpAny_call_exc_subT F T hC hN hni (fun h' a hm => ?_) (by show 1 ≤ sizeLine; rw [sizeLine_eq]; omega)
  obtain ⟨t, ht, tn, tt⟩ := hm.there
  have hn : H1 a = none := I1.hok.gone hm.new
  have hn2 : H1 t = none := I1.hok.gone tn
  have ne : t ≠ a := fun z => by
    rw [z, ht] at tt
    cases tt
  refine ⟨.ref a, upd (upd H1 t (.tup [v])) a (exw a C t), Inv.laid2 (t' := s1.toks) I1 hm.keeps hm.new tn hn hn2 (exw_ok ht ⟨rfl, rfl⟩ rfl rfl) ⟨by show 1 ≤ sizeLine; rw [sizeLine_eq]; omega, [u], .cons r1 .nil, _, tt, rfl, _, rfl⟩, rfl, q1 a t hn hn2 ne⟩
end
def xMkS (cn : Nat) (f : EE) : EE := fun ρ => do
  let (d, _, ρ1) ← f ρ
  match d with
  | .str x => .ok (.exs cn x, .fz, ρ1)
  | _ => .bad
theorem NewV.exs {G : Gm} {F : Addr → Prop} {H : Hp} {a ta C : Addr} {c : Nat} {x : Str} (hd : DomF F H) (ha : H a = none) (hx : H ta = none) (ne : ta ≠ a) (hC : G.cm c = some C) :
    NewV G F H (fun b => F b ∨ b = a ∨ b = ta) (upd (upd H ta (.tup [.str x])) a (exw a C ta)) (.ref a) (.exs c x) .fz [] := by
  have kp : ∀ b o, H b = some o → upd (upd H ta (.tup [.str x])) a (exw a C ta) b = some o := fun b o e => by rw [upd_ne (ne_of_none e ha), upd_ne (ne_of_none e hx)]; exact e
  have e1 : upd (upd H ta (.tup [.str x])) a (exw a C ta) a = some (exw a C ta) := upd_same
  have e2 : upd (upd H ta (.tup [.str x])) a (exw a C ta) ta = some (.tup [.str x]) := by rw [upd_ne ne]; exact upd_same
  refine ⟨fun b f => ?_, fun _ h => .inl h, fun b h => ?_, kp, .fz (.exs (.inr (.inl rfl)) e1 (.inr (.inr rfl)) e2 hC .nil), rfl⟩
  · rcases f with f | rfl | rfl
    · obtain ⟨o, e, t⟩ := hd b f; exact ⟨o, kp b o e, t⟩
    · exact ⟨_, e1, rfl⟩
    · exact ⟨_, e2, rfl⟩
  · rcases h with h | rfl | rfl
    · exact .inl h
    · exact .inr ha
    · exact .inr hx
section
variable {X : Cx} {G : Gm} {W : WX} {C : Addr} {cn : Nat}
theorem r_mkS {n : Str} {p pos : Pos} {e : Expr} {s : Bool} {f : EE} (M : MkS X.K C) (hC : G.cm cn = some C) (hg : Gl X n) (hm : X.mg n = some (.ref C)) (he : PE X e (tS G W s f))
    (hs : starEach [e] X.env = (false, eval e X.env) :: starEach [] X.env := by rfl) (hdb : (n == ("__debug__" : Str)) = false := by decide) :
    PE X (.Call (.Name n p) [e] [] pos) (tS G W s (xMkS cn f)) := PE.of (pe_mkS M hm hg he hs hdb) fun σ H Q h => by
  obtain ⟨x, rfl, rfl, hi, q⟩ := h
  refine ⟨x, rfl, rfl, hi, ?_⟩
  unfold xMkS at q
  cases h1 : f x.rho with
  | bad => simp only [h1, Res.bind_bad] at q
  | err c d ρ' => simp only [h1, Res.bind_err] at q; exact q
  | ok r1 =>
    obtain ⟨d, k, ρ1⟩ := r1
    simp only [h1, Res.bind_ok] at q
    intro y v fv hρ P a ta ha hx ne
    cases d <;> first | exact q.elim | skip
    case str t =>
      have := P.own.str_of
      subst this
      exact q { y with F := _, H := _ } _ [] hρ (EPost.after hi P.inv P.ext (NewV.exs P.inv.dom ha hx ne hC))
/-! ### str(x) -/
def StrXOk (G : Gm) (cs : List Nat) : Prop := ∀ c ∈ cs, ∀ C, G.cm c = some C → PySem.W.findIn G.K (.ref C) "__str__" = some (some (.builtin "BaseException.__str__")) ∧ PySem.W.subIn G.K (.ref C) (.type "BaseException") = some true
def dStr (cs : List Nat) : D → Option (D × Kd)
  | .str x => some (.str x, .fz)
  | .exs c x => if cs.contains c = true then some (.str x, .fz) else none
  | _ => none
def rStrX (K : PySem.W.Frag) : List V → Hp → VK → Prop := fun xs H Q => (∃ x, xs = [.str x] ∧ Q (.str x) H) ∨ ∃ a C ta x, xs = [.ref a] ∧ H a = some (exw a C ta) ∧ H ta = some (.tup [.str x]) ∧
  PySem.W.findIn K (.ref C) "__str__" = some (some (.builtin "BaseException.__str__")) ∧ PySem.W.subIn K (.ref C) (.type "BaseException") = some true ∧ Q (.str x) H
theorem call_strX (hu : X.A.units + 2 < cLine) : CallR X (.type "str") (rStrX X.K) := by
  intro pins s σ H xs us Q I r h
  rcases h with ⟨a, rfl, q⟩ | ⟨a, C, ta, x, rfl, e1, e2, hs, hB, q⟩
  · obtain ⟨u, rfl, t, rfl⟩ := vals1 r
    exact PySem.P.str_of_str ⟨.str a, H, I, ⟨t, rfl⟩, q⟩
  · obtain ⟨u, rfl, ru⟩ := vals1 r
    obtain rfl : u = Value.ref a := ru
    obtain ⟨oe, vs, h1, hz, hd, h0⟩ := exw_at I.hok e1
    obtain ⟨_, its, rv, o, g1, g2, n, g3⟩ := (show ObjOk X.prog X.w H s.heap ta (.tup [.str x]) from I.hok ta _ e2)
    cases rv with
    | cons r1 rn =>
      cases rn
      obtain ⟨t, rfl⟩ := r1
      exact PySem.P.str_of_C_one hu ⟨I.kIn, oe, vs, h1, hz.1, hd, h0⟩ ⟨o, n, g1, g2, g3⟩ hs hB ⟨.str x, H, I, ⟨t, rfl⟩, q⟩
theorem o_str {k : Nat} {cs : List Nat} (hr : RoomG k X.A) (hK : X.K = G.K) (ho : StrXOk G cs) : CallR X (.type "str") (rStrX X.K) ∧ FnD G (rStrX X.K) (f1 (dStr cs)) := ⟨call_strX (by have := hr.room.units; omega), by
  intro F H vs ds d k Q hd hr hg q
  obtain ⟨a, ea, hg'⟩ := f1_of hg
  clear hg
  subst ea
  have hg := hg'
  clear hg'
  obtain ⟨v, fp, rfl, w⟩ := hr.one
  unfold dStr at hg
  cases a <;> first | cases hg | skip
  case str x =>
    have := w.str_of
    subst this
    exact .inl ⟨_, rfl, q F H _ [] (.atom hd rfl)⟩
  case exs c x =>
    simp only at hg
    split at hg
    · rename_i hc
      cases hg
      obtain ⟨a, C, ta, rfl, h1, h2, h3⟩ := w.exs_of
      obtain ⟨q1, q2⟩ := ho c (by simpa using hc) C h3
      rw [hK]
      exact .inr ⟨a, C, ta, x, rfl, h1, h2, q1, q2, q F H _ [] (.atom hd rfl)⟩
    · cases hg⟩
end
end VL
set_option maxHeartbeats 1000000
/-! VL35: enumerate. -/
namespace VL
open PySem PySem.Spec PyProof.Rows L2
def enumFrom (i : Nat) : List D → List D
  | [] => []
  | d :: ds => .tup [.int (i : Int), d] :: enumFrom (i + 1) ds
theorem enumFrom_get : ∀ (ds : List D) (k i : Nat) (d : D), (enumFrom k ds)[i]? = some d → ∃ d0, ds[i]? = some d0 ∧ d = .tup [.int ((k + i : Nat) : Int), d0]
  | [], k, i, d, h => by simp [enumFrom] at h
  | x :: ds, k, 0, d, h => by simp [enumFrom] at h; exact ⟨x, rfl, h.symm⟩
  | x :: ds, k, i + 1, d, h => by
    simp only [enumFrom, List.getElem?_cons_succ] at h
    obtain ⟨d0, h1, h2⟩ := enumFrom_get ds (k + 1) i d h
    refine ⟨d0, by simpa using h1, ?_⟩
    rw [h2]; congr 4; omega
theorem enumFrom_len : ∀ (ds : List D) (k : Nat), (enumFrom k ds).length = ds.length
  | [], _ => rfl
  | _ :: ds, k => by simp [enumFrom, enumFrom_len ds (k + 1)]
def iEnumD (f : AE) : IE := fun ρ => do
  let (l, ρ1) ← f ρ
  match l with
  | [(.lst ds, k)] => pure (enumFrom 0 ds, decide (k = .br), ρ1)
  | _ => .bad
section
variable {X : Cx} {G : Gm} {W : WX}
theorem r_ienum {elts : List Expr} {kk : Nat} {tpos p pos : Pos} {e : Expr} {s : Bool} {f : AE} (hK : X.K = G.K) (hg : Gl X "enumerate") (hm : X.mg "enumerate" = none) (ha : PA X [e] (tA G W s f)) (hs : starEach [e] X.env = [(false, eval e X.env)] := by rfl) :
    PI X (.Tuple elts kk tpos) (.Call (.Name "enumerate" p) [e] [] pos) (tI G W s (iEnumD f)) := PI.of (pi_enum hg hm ha hs) fun σ H R ⟨x, e1, e2, hx, q⟩ => by
  subst e1 e2
  refine ⟨x, rfl, rfl, hx, ?_⟩
  unfold iEnumD at q
  cases h1 : f x.rho with
  | bad => simp only [h1, Res.bind_bad] at q
  | err c d ρ' => simp only [h1, Res.bind_err] at q; exact q
  | ok r =>
    obtain ⟨l, ρ1⟩ := r
    simp only [h1, Res.bind_ok] at q
    intro y vs hρ iy ey ay
    cases l with
    | nil => exact q.elim
    | cons dk l =>
      obtain ⟨d, k⟩ := dk
      cases l with
      | cons _ _ => cases d <;> exact q.elim
      | nil =>
        cases d <;> first | exact q.elim | skip
        case lst ds =>
          cases ay with
          | @cons v _ _ fv ws _ own kd src rest =>
            cases rest
            obtain ⟨a, zs, rfl, sq, hz, r, stay⟩ := own.lst_of X.K
            have av : fv = [] ∨ fv = [a] := by
              cases own with
              | fz _ => exact .inl rfl
              | ow _ _ => exact .inr rfl
            refine ⟨a, zs, rfl, sq, ?_⟩
            have wk : ∀ (y' : Stt), y'.H = y.H → (∀ b, y.F b → y'.F b) → ∀ br, (∀ w : Stt, SInv G w → (∀ b, y'.F b → w.F b) → KeptF y'.F y'.H w.H → (br = true → Kept [] y'.H w.H) → SqL X.K w.H a zs) → Walks G y' (Ite X.K a) (enumFrom 0 ds) br := by
              intro y' eH f0 br st w iw f1 kf kb i
              have sw := st w iw f1 kf kb
              have rw' : Rep G w.F w.H zs ds := r.keep (fun b h => f1 b (f0 b h)) (by rw [← eH]; exact fun b o hb e t => kf b o (f0 b hb) e t)
              refine ⟨fun d hd => ?_, fun hl => ⟨zs, sw, by rw [r.length, ← enumFrom_len ds 0]; exact hl⟩⟩
              obtain ⟨d0, hd0, rfl⟩ := enumFrom_get _ _ _ _ hd
              obtain ⟨u, hu, ru⟩ := rw'.get hd0
              refine ⟨⟨zs, u, sw, hu⟩, fun v H' yl => ?_⟩
              obtain ⟨T, x0, rfl, hT, rfl, yl⟩ := yl
              have := yl zs sw
              rw [hu] at this; cases this
              rw [Nat.zero_add]
              exact ⟨_, NewV.tup iw.dom hT (by show 2 ≤ sizeLine; rw [sizeLine_eq]; omega) (.atom rfl ru)⟩
            simp only [Res.pure_ok] at q
            cases k with
            | fz =>
              have hf : fv = [] := kd
              refine q y _ hρ iy ey (wk y rfl (fun _ h => h) _ fun w iw f1 kf kb => stay _ _ f1 kf (.inr (.inl hf)) fun _ n => absurd hf n)
            | br =>
              refine q y _ hρ iy ey (wk y rfl (fun _ h => h) _ fun w iw f1 kf kb => stay _ _ f1 kf (.inr (.inr (kb (by simp)))) fun fa n => ?_)
              have ha : a ∈ fv := by rcases av with z | z <;> simp_all
              obtain ⟨_, o, ho, ht⟩ := own.there a ha
              rw [ho]; exact kb (by simp) a o ho (by simp) ht
            | ow =>
              have hF := iy.freeze (fv := fv) fun b hb => ⟨(own.there b hb).2, (kd.2 b hb).2⟩
              have hE : Ext s x { y with F := fun b => y.F b ∨ b ∈ fv } := { ey with f1 := fun b h => .inl (ey.f1 b h), f2 := fun b h => h.elim (ey.f2 b) fun h => .inr (kd.2 b h).1 }
              refine q { y with F := fun b => y.F b ∨ b ∈ fv } _ hρ hF hE (wk { y with F := fun b => y.F b ∨ b ∈ fv } rfl (fun _ h => .inl h) _ fun w iw f1 kf kb => ?_)
              have ha : a ∈ fv := by
                have n := kd.1
                rcases av with z | z
                · exact absurd z n
                · simp [z]
              obtain ⟨_, o, ho, ht⟩ := own.there a ha
              have h' := kf a o (.inr ha) ho ht
              exact stay _ _ (fun b h => f1 b (.inl h)) (fun b o hb e t => kf b o (.inl hb) e t) (.inl (f1 a (.inr ha))) fun _ _ => by rw [h', ho]
end
def excI_mk {K : PySem.W.Frag} {C : Addr} (cl : PySem.W.hasDictIn K C = true) (ga : PySem.W.findIn K (.ref C) "__getattribute__" = some (some (.builtin "BaseException.__getattribute__"))) (gg : PySem.W.findIn K (.ref C) "__getattr__" = some none) (sb : PySem.W.subIn K (.ref C) (.type "BaseException") = some true)
    (ha : PySem.W.findIn K (.ref C) "__class__" = some (some (.builtin "object.__class__"))) (hn : PySem.W.specialIn K (.builtin "object.__class__") "__get__" = some (some (.builtin "getset_descriptor.__get__"))) (ht : PySem.W.takesIn K (.builtin "object.__class__") = some true) (hm : PySem.W.mroIn K C (.type "object") = some true) : ExcI K C :=
  ⟨by obtain ⟨cd, hc, _⟩ := PySem.W.any_some cl; rw [hc]; rfl, ga, gg, sb, cl, ha, hn, ht, hm⟩
theorem fldX_nil {G : Gm} {f : Str} : FldXOk G [] f := fun c hc => by simp at hc
theorem fldX_cons {G : Gm} {c : Nat} {C : Addr} {cs : List Nat} {f : Str} (hc : G.cm c = some C) (cl : ExcI G.K C) (na : PySem.W.findIn G.K (.ref C) f = some none) (h : FldXOk G cs f) : FldXOk G (c :: cs) f := fun c' hp C' hC => by
  rcases List.mem_cons.mp hp with e | hp
  · subst e
    rw [hc] at hC; cases hC; exact ⟨cl, na⟩
  · exact h c' hp C' hC
theorem strX_nil {G : Gm} : StrXOk G [] := fun c hc => by simp at hc
theorem strX_cons {G : Gm} {c : Nat} {C : Addr} {cs : List Nat} (hc : G.cm c = some C) (h1 : PySem.W.findIn G.K (.ref C) "__str__" = some (some (.builtin "BaseException.__str__"))) (h2 : PySem.W.subIn G.K (.ref C) (.type "BaseException") = some true) (h : StrXOk G cs) : StrXOk G (c :: cs) := fun c' hp C' hC => by
  rcases List.mem_cons.mp hp with e | hp
  · subst e
    rw [hc] at hC; cases hC; exact ⟨h1, h2⟩
  · exact h c' hp C' hC
end VL
set_option maxHeartbeats 1000000
/-! VL36: how the facts of exception classes are told. -/
namespace VL
open PySem PySem.Spec PyProof.Rows L2
def SupB (st : Stmt) (x fl : Str) : Prop := ∃ (p0 p1 p2 p3 p4 p5 p6 p7 p8 p9 : Pos) (pl : Sem Bool), defBody st = bodyX x fl p0 p1 p2 p3 p4 p5 p6 p7 p8 p9 ∧
  ∀ (qual : Str) (L f cda cc : Addr), eval (.Call (.Attribute (.Call (.Name "super" p0) [] [] p1) "__init__" p2) [.Name x p3] [] p4) (PySem.W.ksEnv qual (defScope st) L f (.ref cda) cc) = (do
      let ov ← attributeBase (.Call (.Name "super" p0) [] [] p1) "__init__" (PySem.W.ksEnv qual (defScope st) L f (.ref cda) cc) (eval (.Call (.Name "super" p0) [] [] p1) (PySem.W.ksEnv qual (defScope st) L f (.ref cda) cc))
      standAt p2.atName
      let (fn, first) ← holding [ov] (getMethod ov "__init__" pl)
      callWith p4 fn first (backTo p4 (starEach [.Name x p3] (PySem.W.ksEnv qual (defScope st) L f (.ref cda) cc))) [])
abbrev veBm : List Value := [.type "ValueError", .type "Exception", .type "BaseException", .type "object"]
theorem supI_mk {P : Program} {K : PySem.W.Frag} {mg : Str → Option Value} {C f : Addr} {st : Stmt} {qual x fl : Str} {oc : Value} {od : Option Addr} {kV doc pm : Value} {an : Option Addr} {cda : Addr} {ct : Value} {cc : Addr} {osl : Array (Option Value)} {ccl : Value} {cdd : Option Addr} {vs : Array Value} {ccs : Array (Option Value)} {file : Str} {tf : Tok} {cl : Value} {cld : Option Addr} {csl : Array (Option Value)} {ar : Arg} {cd : ClassData}
    (B : SupB st x fl) (l : K.lookup f = some ⟨oc, od, .func (PySem.W.ksFn "__init__" qual (defArgs st) (defBody st) (defScope st) .none kV doc pm an (.ref cda) ct cc), osl⟩) (c : PySem.W.codeIn K (.ref cda) qual = true) (lc : K.lookup cda = some ⟨ccl, cdd, .fields vs, ccs⟩) (hv : vs[2]? = some (.str file tf)) (hf : ((P.main.file : Str) == file) = true)
    (lcc : K.lookup cc = some ⟨cl, cld, .cell (some (.ref C)), csl⟩) (hp : ((defArgs st).posonlyargs ++ (defArgs st).args).head? = some ar) (hs : ar.arg = "self") (hC : PySem.W.clsIn K C = some cd) (hm : PySem.HandSPX.refsVE cd.mro = true) (hd : cd.hasDict = true) (hi : PySem.W.excInitIn K C veBm "ValueError.__new__" = true)
    (sub : PySem.W.mroIn K C (.ref C) = some true) (sup : mg "super" = none) (top : (P.main.scope.names.lookup ("super" : Str)).isSome = false) (opq : PySem.W.nsIn K cStatics "thirdparty.any" = some none) (sm : PySem.W.ks_superIn K C C "__init__" = some (some (.builtin "ValueError.__init__")))
    (sB : PySem.W.subIn K (.ref C) (.type "ValueError") = some true) (sa : PySem.W.findIn K (.ref C) "__setattr__" = some (some (.builtin "object.__setattr__"))) (fno : PySem.W.findIn K (.ref C) fl = some none) :
    SupI P K mg C f (PySem.W.ksFn "__init__" qual (defArgs st) (defBody st) (defScope st) .none kV doc pm an (.ref cda) ct cc) st qual x fl := by
  obtain ⟨p0, p1, p2, p3, p4, p5, p6, p7, p8, p9, pl, e, hE⟩ := B
  exact ⟨⟨oc, od, kV, doc, pm, an, cda, ct, cc, osl, ccl, cdd, vs, ccs, file, tf, cl, cld, csl, p0, p1, p2, p3, p4, p5, p6, p7, p8, p9, pl, ar, by rw [e], l, c, lc, hv, hf, lcc, ⟨hp, hs⟩, fun L => hE qual L f cda cc⟩, ⟨cd, veBm, hC, hm, hd, hi, PySem.F.excBase_ValueError⟩, sub, sup, top, opq, sm, sB, sa, fno⟩
theorem mkS_mk {K : PySem.W.Frag} {C : Addr} (q : PySem.W.excIn K C veBm "ValueError.__new__" = true) (k : PySem.W.keepIn K (.ref C) = true) : MkS K C := ⟨⟨veBm, _, _, PySem.F.excBase_ValueError, q⟩, k⟩
theorem kb_all {K : PySem.W.Frag} {fd : FuncData} {ps ks : List Str} {n : Nat} {perm : List Nat} (h : ∀ us ws : List Value, us.length = n → ws.length = ks.length → bindArgs fd ⟨us, ks.zip ws⟩ = pure (ps.zip (pick perm (us ++ ws)))) : KB K fd ps ks n perm := fun s us ws _ h1 h2 => .of_eq (h us ws h1 h2)
end VL
set_option maxHeartbeats 1000000
/-! EX4: sorted of a tuple of data. -/
namespace VL
open PySem PySem.W PySem.Calls PyProof.Rows
section
variable {prog : Program} {w : World} {A : Around} {E : Value → Shared → Prop} {s : Shared}
theorem collect_tup {l : Addr} {vs : List Value} {o : Obj} {n : Nat} {Q : List Value → Shared → Prop} (ho : s.heap.get? l = some o) (hc : o.cls = .type "tuple") (hd : o.data = .seq vs.toArray n)
    (h : Q vs { s with heap := (s.heap.push (seqObj "list" #[] 0)).update s.heap.objs.size (Obj.mapSeq (· ++ vs.toArray)) }) (hsz : vs.length ≤ sizeLine) :
    wpAny (model prog w) A (collect (.ref l)) Q E s := by
  unfold collect
  refine wpAny_bind (wpAny_runValue (codeAny_builtin entry_proto_collect' ?_))
  show wpAny _ _ (do again (.builtin "list.__iadd__" ⟨[← newList [], .ref l], []⟩)) _ _ s
  refine wpAny_bind (wpAny_newList (wpAny_pure ⟨Code.quiet_builtin _ (by decide +kernel), codeAny_builtin entry_list_iadd' ?_⟩))
  show wpAny _ _ (Builtin.List.listExtendWith (.ref s.heap.objs.size) (.ref l) (.ref s.heap.objs.size)) _ _ { s with heap := s.heap.push (seqObj "list" #[] 0) }
  unfold Builtin.List.listExtendWith
  have ho' : (s.heap.push (seqObj "list" #[] 0)).get? l = some o := Heap.get?_push_of_some _ ho
  refine wpAny_bind (wpAny_typeOf (T := "tuple") ⟨o, ho', hc⟩ ?_)
  have ht : (Value.type "tuple" == Value.type "tuple") = true := by rfl
  rw [if_pos (by rw [ht]; simp)]
  refine wpAny_bind (listItems_at ho' hd ?_)
  refine wpAny_bind (listItems_at (xs := #[]) (n := 0) (Heap.get?_push_size _ rfl) rfl ?_)
  rw [if_neg (by simp)]
  refine wpAny_bind (listUpdate_at (xs := #[]) (n := 0) (Heap.get?_push_size _ rfl) rfl ?_ (Nat.zero_le _) (by show (#[] ++ vs.toArray).size ≤ sizeLine + 1; simp only [Array.size_append, List.size_toArray, List.length_nil]; omega))
  refine wpAny_pure ?_
  show wpAny (model prog w) A (do
      let o ← load s.heap.objs.size
      match o.data with
      | .seq xs _ => pure xs.toList
      | _ => unsupported "internal:collect") Q E { s with heap := (s.heap.push (seqObj "list" #[] 0)).update s.heap.objs.size (Obj.mapSeq (· ++ vs.toArray)) }
  refine wpAny_bind (wpAny_load (get?_update_seq (Heap.get?_push_size _ rfl) _) ?_)
  show wpAny _ _ (pure ((#[] : Array Value) ++ vs.toArray).toList) Q E _
  rw [show ((#[] : Array Value) ++ vs.toArray).toList = vs by simp]
  exact wpAny_pure h
/-- what is walked by sorted -/
def SrcAt (h : Heap) (l : Addr) (vs : List Value) : Prop := h.IsList l vs.toArray ∨ ∃ o n, h.get? l = some o ∧ o.cls = .type "tuple" ∧ o.data = .seq vs.toArray n
theorem collect_src {l : Addr} {vs : List Value} {Q : List Value → Shared → Prop} (hl : SrcAt s.heap l vs)
    (h : Q vs { s with heap := (s.heap.push (seqObj "list" #[] 0)).update s.heap.objs.size (Obj.mapSeq (· ++ vs.toArray)) }) (hsz : vs.length ≤ sizeLine) :
    wpAny (model prog w) A (collect (.ref l)) Q E s := by
  rcases hl with hl | ⟨o, n, h1, h2, h3⟩
  · exact collect_list hl h hsz
  · exact collect_tup h1 h2 h3 h hsz
variable {β : Type} {vs : List Value} {bs : List β} {enc : β → PyData} {R : Value → β → Prop}
theorem sorted_src {l : Addr} {Q : Value → Shared → Prop} (hl : SrcAt s.heap l vs) (e : EachIs R vs bs) (er : EachIs (fun v b => ∃ as, PySem.Reads s.heap v (enc b) as) vs bs) (hal : AllAlike (bs.map enc)) (hk : Sortable (bs.map enc)) (hL : bs.length ≤ sizeLine)
    (hu : ∀ b, b ∈ bs → A.units + 2 + (enc b).depth < cLine) (h : ∀ out, out.length = bs.length → EachIs R out (bs.mergeSort (dataLe false enc)) → Q (.ref (s.heap.objs.size + 1)) { s with heap := sortedAll s.heap vs (List.toArray out) }) :
    wpAny (model prog w) A (call (.builtin "sorted") [.ref l]) Q E s := by
  have er' : EachIs (fun v b => ∃ as, PySem.Reads (sortingHeap (copyHeap s.heap vs) (s.heap.objs.size + 1) vs) v (enc b) as) vs bs := er.mono fun _ _ ⟨as, r⟩ => ⟨as, PyProof.Rows.Reads.keeps (fun _ _ => sorting_copy_old) r⟩
  have S := SortsAt.data (prog := prog) (w := w) (A := A.in1.in1) (s := { s with heap := sortingHeap (copyHeap s.heap vs) (s.heap.objs.size + 1) vs }) (each_map (R := fun v d => ∃ as, PySem.Reads (sortingHeap (copyHeap s.heap vs) (s.heap.objs.size + 1) vs) v d as) enc er') hal hk (bound_map hu)
  have hz : vs.length ≤ sizeLine := by rw [e.length]; exact hL
  refine call_function_entry_kw kind_sorted plain_sorted entry_sorted (args_sorted1 _) ?_
  unfold Builtin.«sorted»
  refine wpAny_bind (m := checkCount "sorted" 1 1 _) (wpAny_pure ?_)
  refine wpAny_bind (collect_src hl ?_ hz)
  refine wpAny_bind (wpAny_newList ?_ hz)
  have hsz : ((s.heap.push (seqObj "list" #[] 0)).update s.heap.objs.size (Obj.mapSeq (· ++ vs.toArray))).objs.size = s.heap.objs.size + 1 := by
    rw [Heap.size_update, size_push']
  show wpAny _ _ _ _ _ { s with heap := copyHeap s.heap vs }
  rw [hsz]
  refine wpAny_bind (wpAny_holding (wpAny_call_entry_kw slot_list_sort ⟨_, copyHeap_at s.heap vs, rfl⟩ entry_list_sort ?body (args_list_sort _)))
  case body =>
    show wpAny (model prog w) A.in1.in1 (Builtin.«list.sort» ⟨[.ref (s.heap.objs.size + 1)], []⟩) _ _ _
    refine wpAny_mono (list_sort_vals (s := { s with heap := copyHeap s.heap vs }) (P := fun f s' => f = .done (.ret .none) ∧ Q (.ref (s.heap.objs.size + 1)) s') (copyHeap_at s.heap vs) S hz ⟨rfl, h _ (by rw [sortVals_length false rfl]; exact e.length) (sortVals_data false e er' hal)⟩) (fun f s' hf => ?_) fun _ _ e => e
    obtain ⟨rfl, hq⟩ := hf
    exact ⟨_, rfl, wpAny_pure ⟨_, rfl, hq⟩⟩
end
end VL
set_option maxHeartbeats 1000000
/-! VL37: sorted of data. -/
namespace VL
open PySem PySem.Spec PyProof.Rows L2
def encD (d : D) : PyData := (toPy d).getD .none
/-- the list in order -/
def sortD (ds : List D) : List D := ds.mergeSort (PySem.W.dataLe false encD)
def isTupC : PyData → Bool
  | .tuple (_ :: _) => true
  | _ => false
def isOth : PyData → Bool
  | .none => false
  | .tuple _ => false
  | _ => true
def sortOk (ds : List D) : Bool := (ds.all fun d => (toPy d).isSome && decide ((encD d).depth ≤ 60)) && (ds.all fun a => ds.all fun b => PySem.W.alike (encD a) (encD b)) && ((ds.all fun d => isTupC (encD d)) || ds.all fun d => isOth (encD d)) && decide (ds.length ≤ 1000000)
theorem sortOk_of {ds : List D} (h : sortOk ds = true) : (∀ d ∈ ds, (∃ p, toPy d = some p) ∧ (encD d).depth ≤ 60) ∧ PySem.W.AllAlike (ds.map encD) ∧ PySem.W.Sortable (ds.map encD) ∧ ds.length ≤ 1000000 := by
  unfold sortOk at h
  simp only [Bool.and_eq_true, Bool.or_eq_true, List.all_eq_true, decide_eq_true_eq] at h
  obtain ⟨⟨⟨h1, h2⟩, h3⟩, h4⟩ := h
  refine ⟨fun d hd => ⟨Option.isSome_iff_exists.mp (h1 d hd).1, (h1 d hd).2⟩, fun p hp q hq => ?_, ?_, h4⟩
  · obtain ⟨a, ha, rfl⟩ := List.mem_map.mp hp
    obtain ⟨b, hb, rfl⟩ := List.mem_map.mp hq
    exact h2 a ha b hb
  · rcases h3 with h3 | h3
    · refine .inl fun p hp => ?_
      obtain ⟨a, ha, rfl⟩ := List.mem_map.mp hp
      have := h3 a ha
      unfold isTupC at this
      split at this
      · rename_i x r e; exact ⟨x, r, e⟩
      · cases this
    · refine .inr fun p hp => ?_
      obtain ⟨a, ha, rfl⟩ := List.mem_map.mp hp
      have := h3 a ha
      unfold isOth at this
      split at this
      · cases this
      · cases this
      · rename_i n1 n2; exact ⟨n1, n2⟩
def dSorted : D → Option (D × Kd)
  | .lst ds => if sortOk ds = true then some (.lst (sortD ds), .ow) else none
  | .tup ds => if sortOk ds = true then some (.lst (sortD ds), .ow) else none
  | _ => none
def rSortD (G : Gm) : List V → Hp → VK → Prop := fun xs H Q => ∃ (F : Addr → Prop) (a : Addr) (vs : List V) (ds : List D), xs = [.ref a] ∧ (SqL G.K H a vs ∨ SqT G.K H a vs) ∧ Rep G F H vs ds ∧ sortOk ds = true ∧
  ∀ p ws, H p = none → Rep G F H ws (sortD ds) → Q (.ref p) (upd H p (.lst ws))
theorem len_sortD (ds : List D) : (sortD ds).length = ds.length := List.length_mergeSort _
theorem each_in {G : Gm} {F : Addr → Prop} {H : Hp} : ∀ {ds : List D} {vs : List V} {us : List Value}, Rep G F H vs ds → Vals vs us → PySem.W.EachIs (fun (u : Value) (d : D) => ∃ v, RelV v u ∧ Rep G F H [v] [d]) us ds
  | [], vs, us, h, r => by
    have := h.nil_of; subst this
    cases r; exact .nil
  | d :: ds, vs, us, h, r => by
    obtain ⟨v, ws, rfl, r1, r2⟩ := h.cons_of
    cases r with
    | cons ru rr => exact .cons ⟨v, ru, r1⟩ (each_in r2 rr)
theorem each_out {G : Gm} {F : Addr → Prop} {H : Hp} : ∀ {us : List Value} {ds : List D}, PySem.W.EachIs (fun (u : Value) (d : D) => ∃ v, RelV v u ∧ Rep G F H [v] [d]) us ds → ∃ vs, Vals vs us ∧ Rep G F H vs ds
  | _, _, .nil => ⟨[], .nil, .nil⟩
  | _, _, .cons ⟨v, ru, r1⟩ t => by
    obtain ⟨vs, rv, r2⟩ := each_out t
    exact ⟨v :: vs, .cons ru rv, Rep.cons_iff.mpr ⟨r1, r2⟩⟩
theorem each_reads {X : Cx} {G : Gm} {F : Addr → Prop} {pins : List (Addr × Obj)} {σ : L2.St} {H : Hp} {s : Shared} (hK : X.K = G.K) (I : Inv X pins σ H s) : ∀ {us : List Value} {ds : List D}, (∀ d ∈ ds, ∃ p, toPy d = some p) → PySem.W.EachIs (fun (u : Value) (d : D) => ∃ v, RelV v u ∧ Rep G F H [v] [d]) us ds →
    PySem.W.EachIs (fun (u : Value) (d : D) => ∃ as, PySem.Reads s.heap u (encD d) as) us ds
  | [], [], _, .nil => .nil
  | u :: _, d :: _, hp, .cons ⟨v, ru, r1⟩ t => by
    refine .cons ?_ (each_reads hK I (fun d hd => hp d (List.mem_cons_of_mem _ hd)) t)
    obtain ⟨p, e⟩ := hp d List.mem_cons_self
    have dp : Dp X.K H v p := (Own.fz r1).dp hK e
    have : encD d = p := by unfold encD; rw [e]; rfl
    rw [this]
    exact Dp.reads I p v u dp ru
section
variable {X : Cx} {G : Gm}
theorem call_sortD (hK : X.K = G.K) (hu : X.A.units + 64 < cLine) : CallR X (.builtin "sorted") (rSortD G) := by
  intro pins s σ H xs us Q I r h
  obtain ⟨F, a, vs, ds, rfl, sq, rp, ok, q⟩ := h
  obtain ⟨u, rfl, ru⟩ := vals1 r
  obtain rfl : u = Value.ref a := ru
  obtain ⟨h1, h2, h3, h4⟩ := sortOk_of ok
  obtain ⟨its, rv, src⟩ : ∃ its : List Value, Vals vs its ∧ SrcAt s.heap a its := by
    rcases sq with sq | sq
    · rw [← hK] at sq
      obtain ⟨its, rv, hl, _⟩ := I.list sq
      exact ⟨its, rv, .inl hl.isList⟩
    · rw [← hK] at sq
      obtain ⟨its, rv, ⟨o, e1, e2, n, e3⟩, _⟩ := I.tuple sq
      exact ⟨its, rv, .inr ⟨o, n, e1, e2, e3⟩⟩
  have e := each_in rp rv
  have er := each_reads hK I (fun d hd => (h1 d hd).1) e
  have hL : ds.length ≤ sizeLine := by rw [sizeLine_eq]; omega
  refine sorted_src src e er h2 h3 hL (fun d hd => by have := (h1 d hd).2; omega) fun out hl eo => ?_
  obtain ⟨ws, rw', rp'⟩ := each_out eo
  obtain ⟨ep, he'⟩ := PyProof.Rows.sortedAll_at s.heap its out.toArray
  have hlen : ws.length ≤ sizeLine := by rw [rw'.length, hl]; exact hL
  exact ⟨.ref _, upd H (s.heap.objs.size + 1) (.lst ws), I.laid (t' := s.toks) (fun _ _ => PyProof.Rows.sortedAll_old) (Nat.le_succ _) ⟨hlen, out, ep, rw', he'⟩, rfl, q _ ws (I.hok.fresh (Nat.le_succ _)) rp'⟩
theorem o_sorted {k : Nat} (hr : RoomG k X.A) (hK : X.K = G.K) : CallR X (.builtin "sorted") (rSortD G) ∧ FnD G (rSortD G) (f1 dSorted) := ⟨call_sortD hK hr.room.units, by
  intro F H vs ds d k Q hd hr hg q
  obtain ⟨a, ea, hg'⟩ := f1_of hg
  clear hg
  subst ea
  have hg := hg'
  clear hg'
  obtain ⟨v, fp, rfl, w⟩ := hr.one
  cases a <;> simp only [dSorted] at hg <;> first | cases hg | skip
  case lst l =>
    split at hg
    · rename_i ok
      cases hg
      obtain ⟨a, ws, rfl, sq, hz, r, _⟩ := w.lst_of G.K
      have hz' : (sortD l).length ≤ sizeLine := by rw [len_sortD]; have := (sortOk_of ok).2.2.2; rw [sizeLine_eq]; omega
      exact ⟨F, a, ws, l, rfl, .inl sq, r, ok, fun p us hp r' => q F _ _ _ (.lst hd hp (by rw [r'.length]; exact hz') r')⟩
    · cases hg
  case tup l =>
    split at hg
    · rename_i ok
      cases hg
      obtain ⟨a, ws, rfl, e1, z1, r1, _⟩ := w.tup_of rfl
      have hz' : (sortD l).length ≤ sizeLine := by rw [len_sortD]; have := (sortOk_of ok).2.2.2; rw [sizeLine_eq]; omega
      exact ⟨F, a, ws, l, rfl, .inr e1, r1, ok, fun p us hp r' => q F _ _ _ (.lst hd hp (by rw [r'.length]; exact hz') r')⟩
    · cases hg⟩
end
end VL
set_option maxHeartbeats 2000000
/-! EX5: a dict comprehension whose keys may be tuples, too. -/
namespace VL
open PySem PySem.Spec PyProof.Rows L2
theorem d_dictSet2 {X : Cx} {A : Around} {pins : List (Addr × Obj)} {σ : L2.St} {H H' : Hp} {s : Shared} {E : Value → Shared → Prop} {D : Addr} {y v : V} {u r : Value} {Q : Unit → Shared → Prop} (hu : A.units < cLine) (I : Inv X pins σ H s) (g : DPut H D y v H')
    (ry : RelV y u) (rv : RelV v r) (h : ∀ s', Inv X pins σ H' s' → Q () s') : wpAny (model X.prog X.w) A (dictSet D u r) Q E s := by
  rcases g with ⟨kvs, k, e, ey, l, eH⟩ | ⟨kvs, k, b, e, ey, eb, l, eH⟩
  · subst ey eH
    obtain ⟨z, hd, vs, rel, dd⟩ := dk_of I.hok e
    have hz : vs.length ≤ sizeLine := by rw [← rel.length]; exact z
    have hl : (putK kvs k v).length ≤ sizeLine := by have := length_putK kvs k v; omega
    refine wpAny_dictSet_pairs (hsz := hz) (kV_is ry) dd fun h' dd' hs => h _ ?_
    have he : ∃ q, h'.get? D = some q := let ⟨q, _, _, hq, _⟩ := dd'; ⟨q, hq⟩
    exact d_write I (by rw [e]; exact True.intro) hs he (dk_new hl hd (rel.put k rv) dd')
  · subst ey eH
    cases (show u = Value.ref b from ry)
    obtain ⟨z, hd, xs, rel, dd⟩ := dt_of I.hok e
    have hz : xs.length ≤ sizeLine := by rw [← Paired.length rel]; exact z
    have hl : (putK kvs k v).length ≤ sizeLine := by have := length_putK kvs k v; omega
    refine wpAny_dictSet_heap (hsz := hz) (knd := tupleKind (mixKind X.prog X.w)) hu (key_of I.hok eb) dd fun h' dd' hs => h _ ?_
    obtain ⟨q, es, ep, hq, h2, h3, h4, _, h5⟩ := dd'
    refine d_write I (by rw [e]; exact True.intro) hs ⟨q, hq⟩ ⟨hl, hd, _, (rel.put k eb rv).keeps fun c ys ec => ?_, q, es, ep, hq, h2, h3, h4, h5⟩
    rw [upd_ne (ne_of ec e (fun z => nomatch z))]
    exact ec
section
variable {X : Cx}
def tDc2 (wi : TI) (g : TG) (tt : TT) (tk tv : TE) (vs : List Nat) : TE := fun σ H Q => wi σ H fun J H1 => ∀ D, H1 D = none → ∃ o0 : HO, (o0 = .dK [] ∨ o0 = .dT []) ∧ ∃ W : Nat → Nat → Hp → Prop, (∃ m, W 0 m (upd H1 D o0)) ∧ ∀ i m H, W i m H →
  (J.stop i H ∧ Q (.ref D) H) ∨ (J.go i H ∧ ∃ Nx : Hp → Prop, (∀ H', Nx H' → ∃ m', m' < m ∧ W (i + 1) m' H') ∧ ∀ x H', J.yld i H x H' → g x (wipe σ vs) H' fun σ2 H2 => wipe σ2 vs = wipe σ vs ∧ tt σ2 H2 fun b H3 =>
    if b = true then tk σ2 H3 fun y H4 => tv σ2 H4 fun z H5 => ∃ H6, DPut H5 D y z H6 ∧ Nx H6 else Nx H3)
theorem dc_core2 {pins : List (Addr × Obj)} {s : Shared} {σ : L2.St} {H : Hp} {Q : VK} {kx vx tg iter : Expr} {ifs : List Expr} {scope : Scope} {own : List (Str × Nat)} {pos pos' : Pos} {wi : TI} {g : TG} {tt : TT} {tk tv : TE} {use : Option (Value → Sem Unit)} {Qf : Value → Shared → Prop}
    (hu : X.A.units < cLine) (hc : X.calm = true) (hN : X.N.Nodup) (I : Inv X pins σ H s) (hi : PI X tg iter wi) (ok : BlkOk X.N X.env.scope scope own)
    (hg : ∀ (s : Shared) (H : Hp) (C : Addr) (cl : List (Str × Addr)) (fp : List Addr), PG (X.blk s H scope (compEnvC scope cl C X.env) fp) tg g) (ht : ∀ (s : Shared) (H : Hp) (C : Addr) (cl : List (Str × Addr)) (fp : List Addr), PTs (X.blk s H scope (compEnvC scope cl C X.env) fp) ifs tt)
    (hk : ∀ (s : Shared) (H : Hp) (C : Addr) (cl : List (Str × Addr)) (fp : List Addr), PE (X.blk s H scope (compEnvC scope cl C X.env) fp) kx tk)
    (he : ∀ (s : Shared) (H : Hp) (C : Addr) (cl : List (Str × Addr)) (fp : List Addr), PE (X.blk s H scope (compEnvC scope cl C X.env) fp) vx tv) (hs : ∀ x, foldedSetIterable iter X.env x = pure x)
    (h : tDc2 wi g tt tk tv (own.map (·.2)) σ H Q)
    (hRR : ∀ D C s' m H', Inv X pins σ H' s' → Q (.ref D) H' → s'.heap.Ns C m → FpOk X pins H' C → compPost (model X.prog X.w) X.A X.xe use Qf (.ref D) C (.ok .next) s') :
    wpAny (model X.prog X.w) X.A (comprehension (.DictComp kx vx [⟨tg, iter, ifs, 0⟩] scope pos) scope X.env pos' newDict false (eval iter X.env) use) Qf X.xe s := by
  have hfree : ∀ y ∈ scope.names, y.2 = .free → ∃ c, X.env.cells.lookup y.1 = some c := fun y hy e => by
    rcases ok.free y hy e with k | k
    · exact I.ok.has _ (.inl k)
    · exact I.ok.has _ (.inr k)
  refine wpAny_comprehension_free (use := use) rfl hs (closure_ok hfree) ok.kind (fun y hy e => by rw [ok.uniq y hy, e])
    (thn (hi.run pins s σ H _ I h) fun xv s1 hx => thn hx fun itv s2 h2 => ?_)
  obtain ⟨it, fp, tn, J, H2, e, I2, T, st2, f2, q⟩ := h2
  subst e
  refine wpAny_newObj_type (newEnv_comp ?_)
  generalize hD : s2.heap.objs.size = D
  have hDn : H2 D = none := I2.hok.fresh (Nat.le_of_eq hD)
  obtain ⟨o0, ho0, W, ⟨m0, w0⟩, turn⟩ := q D hDn
  generalize hs3 : ({ s2 with heap := s2.heap.push { cls := .type "dict", data := .dict #[] } } : Shared) = s3
  have I3 : Inv X pins σ (upd H2 D o0) s3 := by
    rw [← hs3]
    refine I2.laid (t' := s2.toks) (fun b o e => Heap.get?_push_of_some _ e) (Nat.le_of_eq hD) ?_
    rw [← hD]
    rcases ho0 with rfl | rfl
    · exact dk_empty s2.heap I2.big
    · exact dt_empty s2.heap I2.big
  have h3 : s3.heap = s2.heap.push { cls := .type "dict", data := .dict #[] } := by rw [← hs3]
  have sz : ∀ b ∈ fp, b < s2.heap.objs.size := fun b hb => by
    obtain ⟨o, e, _⟩ := T.obj _ _ st2 b hb
    exact Heap.lt_size e
  have f3 : ∀ b ∈ fp, FpOk X pins (upd H2 D o0) b ∧ b < s3.heap.objs.size := fun b hb => by
    have hlt := sz b hb
    refine ⟨⟨?_, (f2 b hb).2⟩, by rw [h3, Heap.size_push]; exact Nat.lt_succ_of_lt hlt⟩
    rw [upd_ne (by rw [← hD]; exact Nat.ne_of_lt hlt)]
    exact (f2 b hb).1
  have st3 : tn 0 s3.heap := T.keep _ _ _ st2 fun b _ o e => by rw [h3]; exact Heap.get?_push_of_some _ e
  have I4 := block_start I3 ok hN f3
  have pg := hg s3 (upd H2 D o0) s3.heap.objs.size (cellsFrom (s3.heap.objs.size + 1) scope.names (cloFrom X.env.cells scope.names [])) fp
  have pt := ht s3 (upd H2 D o0) s3.heap.objs.size (cellsFrom (s3.heap.objs.size + 1) scope.names (cloFrom X.env.cells scope.names [])) fp
  have pk := hk s3 (upd H2 D o0) s3.heap.objs.size (cellsFrom (s3.heap.objs.size + 1) scope.names (cloFrom X.env.cells scope.names [])) fp
  have pe := he s3 (upd H2 D o0) s3.heap.objs.size (cellsFrom (s3.heap.objs.size + 1) scope.names (cloFrom X.env.cells scope.names [])) fp
  show codeAny _ _ (.compStart (.DictComp kx vx [⟨tg, iter, ifs, 0⟩] scope pos) 0 (.ref it) (.ref D) (compEnvC scope (cellsFrom (s3.heap.objs.size + 1) scope.names (cloFrom X.env.cells scope.names [])) s3.heap.objs.size X.env)) (compPost (model X.prog X.w) X.A X.xe use Qf (.ref D) s3.heap.objs.size) { s3 with heap := pushCells (s3.heap.push { cls := .type "dict", data := .dict #[] }) scope.names }
  have nfp : ∀ b ∈ fp, (upd H2 D o0) b = none := fun b hb => (f3 b hb).1.1
  generalize hce : compEnvC scope (cellsFrom (s3.heap.objs.size + 1) scope.names (cloFrom X.env.cells scope.names [])) s3.heap.objs.size X.env = ce at I4 pg pt pk pe ⊢
  have cL : ce.locals = s3.heap.objs.size := by subst hce; rfl
  generalize hH3 : upd H2 D o0 = H3 at I3 I4 pg pt pk pe w0 nfp f3
  generalize hs4 : ({ s3 with heap := pushCells (s3.heap.push { cls := .type "dict", data := .dict #[] }) scope.names } : Shared) = s4 at I4 ⊢
  have st4 : tn 0 s4.heap := T.keep _ _ _ st3 fun b _ o e => by rw [← hs4]; exact pushCells_keeps _ _ _ _ (Heap.get?_push_of_some _ e)
  have stat : ∀ {σ' : L2.St} {H' : Hp} {s' : Shared}, Inv (X.blk s3 H3 scope ce fp) [] σ' H' s' → (∀ b ∈ fp, H' b = none) → ∀ b ∈ fp, FpOk (X.blk s3 H3 scope ce fp) [] H' b := fun {σ' H' s'} I' hn b hb =>
    ⟨hn b hb, (I'.ok.exf b hb).1, I'.ok.exfs b hb, .inl hb, fun x c e => (I'.ok.exf b hb).2 x c e, fun p hp => absurd (show p ∈ ([] : List (Addr × Obj)) ++ [] from hp) (by simp)⟩
  have loop : codeAny (model X.prog X.w) X.A (.compLoop (.DictComp kx vx [⟨tg, iter, ifs, 0⟩] scope pos) 0 (.ref it) (.ref D) ce) (compPost (model X.prog X.w) X.A X.xe use Qf (.ref D) s3.heap.objs.size) s4 := by
    refine compLoop_anyD (fun n s' => ∃ i H', Inv (X.blk s3 H3 scope ce fp) [] (wipe σ (own.map (·.2))) H' s' ∧ tn i s'.heap ∧ (∀ b ∈ fp, H' b = none) ∧ W i n H') ?_ m0 ⟨0, H3, I4, st4, nfp, w0⟩
    rintro n s5 ⟨i, H5, I5, st5, n5, w5⟩
    rcases turn i n H5 w5 with ⟨stop, qq⟩ | ⟨go, Nx, hNx, step⟩
    · have td := T.done (X.blk s3 H3 scope ce fp) rfl rfl rfl hc i [] s5 _ H5 (fun _ _ => False) I5 (stat I5 n5) st5 stop
      refine thnF td fun r s6 ⟨hr, I6⟩ => ?_
      subst hr
      have I7 : Inv X pins σ H5 s6 := I3.call' (ch := fp) I6.os I6.base I6.hok I6.bare fun b hb => ⟨(f3 b hb).1.2.2.2.1, (f3 b hb).1.2.1, (f3 b hb).1.2.2.2.2.1, (f3 b hb).1.2.2.2.2.2⟩
      have nC : H5 s3.heap.objs.size = none := by
        have z : H5 ce.locals = none := I6.free
        rw [cL] at z
        exact z
      obtain ⟨m, hn, _⟩ := I6.loc
      have hn : s6.heap.Ns ce.locals m := hn
      rw [cL] at hn
      exact hRR D s3.heap.objs.size s6 m H5 I7 qq hn (I3.fpOk (Nat.le_refl _) nC)
    · have ti := T.item (X.blk s3 H3 scope ce fp) rfl rfl rfl hc i [] s5 _ H5 (fun _ _ => False) I5 (stat I5 n5) st5 go
      refine thnF ti fun r s6 ⟨u, hr, h6⟩ => ?_
      subst hr
      refine thnF h6 fun _ s7 ⟨x, H7, I7, r7, y7, st7, n7⟩ => ?_
      have I7' := I7.pinned (stat I7 n7) (T.obj _ _ st7)
      refine thnF (pg.run _ s7 _ H7 x u _ I7' r7 (step x H7 y7)) fun _ s8 ⟨σ8, H8, I8, hw8, q8⟩ => ?_
      refine thnF (pt.run _ s8 σ8 H8 _ I8 q8) fun b s9 ⟨H9, I9, q9⟩ => ?_
      have fin : ∀ {s' : Shared} {H' : Hp}, Inv (X.blk s3 H3 scope ce fp) ([] ++ pinsAt fp s7.heap) σ8 H' s' → Nx H' → ∃ m, m < n ∧ ∃ i H', Inv (X.blk s3 H3 scope ce fp) [] (wipe σ (own.map (·.2))) H' s' ∧ tn i s'.heap ∧ (∀ b ∈ fp, H' b = none) ∧ W i m H' := fun {s' H'} I' nx => by
        obtain ⟨m', hm, w'⟩ := hNx H' nx
        have pin' : ∀ b ∈ fp, ∀ o, s7.heap.get? b = some o → s'.heap.get? b = some o ∧ H' b = none := fun b hb o e =>
          let z := I'.pin (b, o) (List.mem_append_right _ (List.mem_append_right _ (mem_pinsAt hb e)))
          ⟨z.1, z.2.1⟩
        have hl : (wipe σ (own.map (·.2))).length = σ8.length := by rw [← hw8, wipe_length]
        refine ⟨m', hm, i + 1, H', (I'.unpinned (pins := [])).weak hl (fun j v e => ?_), T.keep _ _ _ st7 fun b hb o e => (pin' b hb o e).1, fun b hb => ?_, w'⟩
        · rw [← hw8] at e
          exact (wipe_some e).1
        · obtain ⟨o, e, _⟩ := T.obj _ _ st7 b hb
          exact (pin' b hb o e).2
      cases b with
      | false =>
        simp only [Bool.false_eq_true, if_false] at q9 ⊢
        exact fin I9 q9
      | true =>
        simp only [if_true] at q9 ⊢
        refine thnF (pk.run _ s9 σ8 H9 _ I9 q9) fun z s10 ⟨yk, H10, I10, r10, q10⟩ => ?_
        refine thnF (pe.run _ s10 σ8 H10 _ I10 q10) fun z2 s11 ⟨yv, H11, I11, r11, H12, dp, nx⟩ => ?_
        exact d_dictSet2 (X := X.blk s3 H3 scope ce fp) hu I11 dp r10 r11 fun s12 I12 => fin I12 nx
  exact codeAny_compStart_dict loop (T.self X.A 0 _ _ _ st4 loop)
theorem pe_dc2 {kx vx tg iter : Expr} {ifs : List Expr} {scope : Scope} {own : List (Str × Nat)} {pos : Pos} {wi : TI} {g : TG} {tt : TT} {tk tv : TE} (hu : X.A.units < cLine) (hc : X.calm = true) (hN : X.N.Nodup) (hi : PI X tg iter wi) (ok : BlkOk X.N X.env.scope scope own)
    (hg : ∀ (s : Shared) (H : Hp) (C : Addr) (cl : List (Str × Addr)) (fp : List Addr), PG (X.blk s H scope (compEnvC scope cl C X.env) fp) tg g) (ht : ∀ (s : Shared) (H : Hp) (C : Addr) (cl : List (Str × Addr)) (fp : List Addr), PTs (X.blk s H scope (compEnvC scope cl C X.env) fp) ifs tt)
    (hk : ∀ (s : Shared) (H : Hp) (C : Addr) (cl : List (Str × Addr)) (fp : List Addr), PE (X.blk s H scope (compEnvC scope cl C X.env) fp) kx tk)
    (he : ∀ (s : Shared) (H : Hp) (C : Addr) (cl : List (Str × Addr)) (fp : List Addr), PE (X.blk s H scope (compEnvC scope cl C X.env) fp) vx tv) (hs : ∀ x, foldedSetIterable iter X.env x = pure x := by intro _; rfl) :
    PE X (.DictComp kx vx [⟨tg, iter, ifs, 0⟩] scope pos) (tDc2 wi g tt tk tv (own.map (·.2))) := by
  refine ⟨fun pins s σ H Q I h => ?_⟩
  rw [arm_eval_DictComp]
  refine dc_core2 hu hc hN I hi ok hg ht hk he hs h fun D C s' m H' I' q hn f => ⟨m, hn, fun h'' sb => ?_⟩
  obtain ⟨f0, f1, f2, f3, f4, f5⟩ := f
  exact ⟨.ref D, H', I'.turned (t' := s'.toks) (fun b o hb e => (sb.2 b hb).trans e) f0 f1 f3 f4 f5, rfl, q⟩
end
end VL
set_option maxHeartbeats 1000000
/-! VL38: dict comprehensions; len of dicts. -/
namespace VL
open PySem PySem.Spec PyProof.Rows L2
def keyOf : D → Option Key
  | .int i => some (Sum.inl i)
  | .str x => some (Sum.inr x)
  | _ => none
def keysL : List D → Option (List Key)
  | [] => some []
  | d :: ds => match keyOf d, keysL ds with
    | some k, some ks => some (k :: ks)
    | _, _ => none
def keyT : D → Option (List Key)
  | .tup l => keysL l
  | _ => none
def putA {κ α : Type} [DecidableEq κ] (kvs : List (κ × α)) (k : κ) (v : α) : List (κ × α) :=
  if (kvs.any fun kv => decide (kv.1 = k)) = true then kvs.map (fun kv => if kv.1 = k then (kv.1, v) else kv) else kvs ++ [(k, v)]
theorem putK_eq {κ : Type} [DecidableEq κ] (kvs : List (κ × V)) (k : κ) (v : V) : putK kvs k v = putA kvs k v := rfl
def putD1 : D → D → D → Option D
  | .dK kvs, kd, vd => match keyOf kd with
    | some k => if kvs.length < 1000000 then some (.dK (putA kvs k vd)) else none
    | none => none
  | .dT kvs, kd, vd => match keyT kd with
    | some k => if kvs.length < 1000000 then some (.dT (putA kvs k vd)) else none
    | none => none
  | _, _, _ => none
def dcS (g : GE) (t : BE) (kx vx : EE) (ρ : Env) : List D → D → Res D
  | [], acc => .ok acc
  | d :: ds, acc => do
    let ρ1 ← g d ρ
    let (b, _) ← t ρ1
    if b = true then do
      let (kd, k1, _) ← kx ρ1
      let (vd, k2, _) ← vx ρ1
      if decide (k1 = .fz) && (decide (k2 ≠ .br) && vd.fzOk) then
        match putD1 acc kd vd with
        | some acc' => dcS g t kx vx ρ ds acc'
        | none => .bad
      else .bad
    else dcS g t kx vx ρ ds acc
def xDc (vs : List Nat) (it : IE) (g : GE) (t : BE) (kx vx : EE) : EE := fun ρ => do
  let (ds, _, ρ1) ← it ρ
  if wipable ρ1 vs = true then
    match dcS g t kx vx (wipeR ρ1 vs) ds (.dK []) with
    | .ok r => .ok (r, .ow, ρ1)
    | _ => match dcS g t kx vx (wipeR ρ1 vs) ds (.dT []) with
      | .ok r => .ok (r, .ow, ρ1)
      | _ => .bad
  else .bad
theorem Rep.keyOf {G : Gm} {F : Addr → Prop} {H : Hp} {v : V} {d : D} {k : Key} (r : Rep G F H [v] [d]) (h : VL.keyOf d = some k) : v = kV k := by
  cases d <;> simp [VL.keyOf] at h
  · subst h; exact r.int_of
  · subst h; exact r.str_of
theorem Rep.keysL {G : Gm} {F : Addr → Prop} {H : Hp} : ∀ {ds : List D} {vs : List V} {ks : List Key}, Rep G F H vs ds → VL.keysL ds = some ks → vs = ks.map kV
  | [], vs, ks, r, h => by
    simp [VL.keysL] at h; subst h
    rw [r.nil_of]; rfl
  | d :: ds, vs, ks, r, h => by
    obtain ⟨v, ws, rfl, r1, r2⟩ := r.cons_of
    simp only [VL.keysL] at h
    cases e1 : VL.keyOf d with
    | none => rw [e1] at h; cases h
    | some k =>
      rw [e1] at h
      cases e2 : VL.keysL ds with
      | none => rw [e2] at h; cases h
      | some ks' =>
        rw [e2] at h; cases h
        rw [List.map_cons, ← r1.keyOf e1, ← r2.keysL e2]
theorem Rep.keyT {G : Gm} {F : Addr → Prop} {H : Hp} {v : V} {d : D} {ks : List Key} (r : Rep G F H [v] [d]) (h : VL.keyT d = some ks) : ∃ b, v = .ref b ∧ H b = some (.tup (ks.map kV)) := by
  cases d <;> simp [VL.keyT] at h
  cases r with
  | atom e _ => cases v <;> simp [atomD] at e
  | tup f e z r1 _ => exact ⟨_, rfl, by rw [e, r1.keysL h]⟩
theorem any_keys {κ α : Type} [DecidableEq κ] (kvs : List (κ × α)) (k : κ) : (kvs.any fun kv => decide (kv.1 = k)) = ((kvs.map (·.1)).any fun x => decide (x = k)) := by
  rw [List.any_map]; rfl
theorem map_repl {κ α : Type} [DecidableEq κ] (k : κ) (v : α) : ∀ kvs : List (κ × α), (kvs.map fun kv => if kv.1 = k then (kv.1, v) else kv).map (·.1) = kvs.map (·.1)
  | [] => rfl
  | p :: kvs => by
    simp only [List.map_cons]
    rw [map_repl k v kvs]
    congr 1
    split <;> rfl
/-- putting keeps what stands for what -/
theorem map_putA {κ α β : Type} [DecidableEq κ] {kvs : List (κ × α)} {es : List (κ × β)} (k : κ) (v : α) (d : β) (h : kvs.map (·.1) = es.map (·.1)) : (putA kvs k v).map (·.1) = (putA es k d).map (·.1) := by
  unfold putA
  rw [any_keys, any_keys, h]
  split
  · rw [map_repl, map_repl, h]
  · simp [h]
theorem Rep.repl {G : Gm} {F : Addr → Prop} {H : Hp} {κ : Type} [DecidableEq κ] {k : κ} {v : V} {d : D} (rv : Rep G F H [v] [d]) : ∀ {ws : List (κ × V)} {es : List (κ × D)}, ws.map (·.1) = es.map (·.1) → Rep G F H (ws.map (·.2)) (es.map (·.2)) →
    Rep G F H ((ws.map fun kv => if kv.1 = k then (kv.1, v) else kv).map (·.2)) ((es.map fun kv => if kv.1 = k then (kv.1, d) else kv).map (·.2))
  | [], [], _, r => r
  | [], _ :: _, h, _ => by simp at h
  | _ :: _, [], h, _ => by simp at h
  | (x, w) :: ws, (y, e) :: es, h, r => by
    simp only [List.map_cons, List.cons.injEq] at h
    obtain ⟨rfl, h⟩ := h
    simp only [List.map_cons] at r ⊢
    obtain ⟨r1, r2⟩ := Rep.cons_iff.mp r
    refine Rep.cons_iff.mpr ⟨?_, Rep.repl rv h r2⟩
    by_cases c : x = k
    · simp only [if_pos c]; exact rv
    · simp only [if_neg c]; exact r1
theorem Rep.putA {G : Gm} {F : Addr → Prop} {H : Hp} {κ : Type} [DecidableEq κ] {k : κ} {v : V} {d : D} {ws : List (κ × V)} {es : List (κ × D)} (h : ws.map (·.1) = es.map (·.1)) (r : Rep G F H (ws.map (·.2)) (es.map (·.2))) (rv : Rep G F H [v] [d]) :
    Rep G F H ((VL.putA ws k v).map (·.2)) ((VL.putA es k d).map (·.2)) := by
  unfold VL.putA
  rw [any_keys, any_keys, h]
  split
  · exact Rep.repl rv h r
  · simp only [List.map_append, List.map_cons, List.map_nil]
    exact r.snoc rv
theorem len_putA {κ α : Type} [DecidableEq κ] (kvs : List (κ × α)) (k : κ) (v : α) : (VL.putA kvs k v).length ≤ kvs.length + 1 := by
  unfold VL.putA
  split <;> simp
def isDic : D → Bool
  | .dK _ => true
  | .dT _ => true
  | _ => false
/-- a put into the dict at D0 -/
theorem Objs.put {G : Gm} {F : Addr → Prop} {H : Hp} {D0 : Addr} {acc acc' kd vd : D} {y z : V} (o : Objs G F H D0 acc) (hD : isDic acc = true) (hp : putD1 acc kd vd = some acc') (rk : Rep G F H [y] [kd]) (rv : Rep G F H [z] [vd]) (nF : ¬ F D0) :
    ∃ o' : HO, isTbl o' = false ∧ (∀ φ, o' ≠ .ext φ) ∧ DPut H D0 y z (upd H D0 o') ∧ Objs G F (upd H D0 o') D0 acc' ∧ isDic acc' = true := by
  have hz : ∀ {n : Nat}, n < 1000000 → n + 1 ≤ sizeLine := fun h => by rw [sizeLine_eq]; omega
  have kf : ∀ o', KeptF F H (upd H D0 o') := fun o' b ob f e _ => by rw [upd_ne (show b ≠ D0 from fun q => nF (by rw [← q]; exact f))]; exact e
  cases acc <;> simp only [isDic] at hD <;> first | cases hD | skip
  case dK es =>
    obtain ⟨ws, e, zl, k, r⟩ := o
    simp only [putD1] at hp
    cases e1 : VL.keyOf kd with
    | none => rw [e1] at hp; cases hp
    | some kk =>
      rw [e1] at hp
      simp only at hp
      split at hp
      · rename_i hl
        cases hp
        have hw : ws.length = es.length := by have := congrArg List.length k; simpa using this
        refine ⟨.dK (putK ws kk z), rfl, fun φ q => (by cases q), ?_, ⟨_, upd_same, ?_, ?_, ?_⟩, rfl⟩
        · rw [rk.keyOf e1]; exact DPut.k e (by rw [sizeLine_eq]; omega)
        · rw [putK_eq]; exact Nat.le_trans (len_putA ws kk z) (hz (by omega))
        · rw [putK_eq]; exact map_putA kk z vd k
        · rw [putK_eq]; exact (Rep.putA k r rv).keep (fun _ h => h) (kf _)
      · cases hp
  case dT es =>
    obtain ⟨ws, e, zl, k, r⟩ := o
    simp only [putD1] at hp
    cases e1 : VL.keyT kd with
    | none => rw [e1] at hp; cases hp
    | some kk =>
      rw [e1] at hp
      simp only at hp
      split at hp
      · rename_i hl
        cases hp
        have hw : ws.length = es.length := by have := congrArg List.length k; simpa using this
        obtain ⟨b, rfl, eb⟩ := rk.keyT e1
        refine ⟨.dT (putK ws kk z), rfl, fun φ q => (by cases q), DPut.t e eb (by rw [sizeLine_eq]; omega), ⟨_, upd_same, ?_, ?_, ?_⟩, rfl⟩
        · rw [putK_eq]; exact Nat.le_trans (len_putA ws kk z) (hz (by omega))
        · rw [putK_eq]; exact map_putA kk z vd k
        · rw [putK_eq]; exact (Rep.putA k r rv).keep (fun _ h => h) (kf _)
      · cases hp
end VL
set_option maxHeartbeats 2000000
/-! VL39: dict comprehensions: the rule. -/
namespace VL
open PySem PySem.Spec PyProof.Rows L2
structure DcI (G : Gm) (y : Stt) (D0 : Addr) (acc : D) (F : Addr → Prop) (H : Hp) : Prop where
  f1 : ∀ a, y.F a → F a
  f2 : ∀ a, F a → y.F a ∨ y.H a = none
  kp : Kept [] y.H H
  dm : ∀ a, H a = none → y.H a = none
  dom : DomF F H
  tb : LamX.Tabs G.T H
  nD : ¬ F D0
  ob : Objs G F H D0 acc
  dic : isDic acc = true
theorem DcI.slots {G y D0 acc F H} (hy : SInv G y) (I : DcI G y D0 acc F H) : Slots G F H y.rho y.sg y.o y.p y.b :=
  hy.sl.keep I.f1 (fun a o _ e t => I.kp a o e (by simp) t) fun a ha => ⟨fun f => by
    obtain ⟨nf, o, e, _⟩ := hy.sl.there a ha
    rcases I.f2 a f with q | q
    · exact nf q
    · (rw [e] at q; cases q), fun o e t => I.kp a o e (by simp) t⟩
theorem DcI.inv {G y D0 acc F H vs} (hy : SInv G y) (I : DcI G y D0 acc F H) (hw : wipable y.rho vs = true) : SInv G ⟨F, wipeR y.rho vs, wipe y.sg vs, H, y.o, y.p, y.b⟩ :=
  ⟨(I.slots hy).wipe hw, hy.nd, I.dom, I.tb⟩
section
variable {X : Cx} {G : Gm} {W : WX}
theorem tS_dc {s : Bool} {vs is : List Nat} {it : IE} {g : GE} {t : BE} {kx vx : EE} (his : ∀ j ∈ is, j ∈ vs) {σ H Q} (h : tS G W s (xDc vs it g t kx vx) σ H Q) : tDc2 (tI G W s it) (tG G is g) (tB G W0 true t) (tS G W0 true kx) (tS G W0 true vx) vs σ H Q := by
  obtain ⟨x, rfl, rfl, hx, q⟩ := h
  refine ⟨x, rfl, rfl, hx, ?_⟩
  unfold xDc at q
  cases e1 : it x.rho with
  | bad => simp only [e1, Res.bind_bad] at q
  | err c d ρ' => simp only [e1, Res.bind_err] at q; exact q
  | ok r =>
    obtain ⟨ds, br, ρ1⟩ := r
    simp only [e1, Res.bind_ok] at q
    intro y J hρ iy ey wk D0 hD
    have hw : wipable ρ1 vs = true := by
      by_cases hw : wipable ρ1 vs = true
      · exact hw
      · rw [if_neg hw] at q; exact q.elim
    rw [if_pos hw] at q
    rw [← hρ] at hw
    obtain ⟨acc0, o0, ho0, hacc, rr, hl, q⟩ : ∃ (acc0 : D) (o0 : HO), (o0 = .dK [] ∨ o0 = .dT []) ∧ ((acc0 = .dK [] ∧ o0 = .dK []) ∨ (acc0 = .dT [] ∧ o0 = .dT [])) ∧ ∃ rr, dcS g t kx vx (wipeR y.rho vs) ds acc0 = .ok rr ∧
        ∀ (y : Stt) (v : V) (fv : List Addr), y.rho = ρ1 → EPost G s x y v rr .ow fv → Q v y.H := by
      rw [hρ]
      cases hl : dcS g t kx vx (wipeR ρ1 vs) ds (.dK []) with
      | ok rr => simp only [hl] at q; exact ⟨.dK [], .dK [], .inl rfl, .inl ⟨rfl, rfl⟩, rr, hl, q⟩
      | bad =>
        simp only [hl] at q
        cases hl2 : dcS g t kx vx (wipeR ρ1 vs) ds (.dT []) with
        | ok rr => simp only [hl2] at q; exact ⟨.dT [], .dT [], .inr rfl, .inr ⟨rfl, rfl⟩, rr, hl2, q⟩
        | bad => simp only [hl2] at q
        | err c d ρ' => simp only [hl2] at q
      | err c d ρ' =>
        simp only [hl] at q
        cases hl2 : dcS g t kx vx (wipeR ρ1 vs) ds (.dT []) with
        | ok rr => simp only [hl2] at q; exact ⟨.dT [], .dT [], .inr rfl, .inr ⟨rfl, rfl⟩, rr, hl2, q⟩
        | bad => simp only [hl2] at q
        | err c d ρ' => simp only [hl2] at q
    have apart : ∀ a, y.H a ≠ none → a ≠ D0 := fun a h z => h (by rw [z]; exact hD)
    have ob0 : Objs G y.F (upd y.H D0 o0) D0 acc0 ∧ isDic acc0 = true := by
      rcases hacc with ⟨rfl, rfl⟩ | ⟨rfl, rfl⟩
      · exact ⟨⟨[], upd_same, Nat.zero_le _, rfl, .nil⟩, rfl⟩
      · exact ⟨⟨[], upd_same, Nat.zero_le _, rfl, .nil⟩, rfl⟩
    refine ⟨o0, ho0, fun i m H => ∃ F acc, DcI G y D0 acc F H ∧ m = ds.length - i ∧ i ≤ ds.length ∧ dcS g t kx vx (wipeR y.rho vs) (ds.drop i) acc = .ok rr, ⟨ds.length, y.F, acc0, ⟨fun _ h => h, fun _ h => .inl h, fun a o e _ _ => by rw [upd_ne (ne_of_none e hD)]; exact e, fun a h => ?_, fun a f => ?_, ?_, fun f => ?_, ob0.1, ob0.2⟩, by simp, Nat.zero_le _, by simpa using hl⟩, ?_⟩
    · by_cases ea : a = D0
      · rw [ea]; exact hD
      · rwa [upd_ne ea] at h
    · obtain ⟨o, e, tt⟩ := iy.dom a f
      exact ⟨o, by rw [upd_ne (ne_of_none e hD)]; exact e, tt⟩
    · exact iy.tb.ext fun b o e => by rw [upd_ne (ne_of_none e hD)]; exact e
    · obtain ⟨o, e, _⟩ := iy.dom D0 f
      rw [hD] at e; cases e
    rintro i m H1 ⟨F, acc, I, rfl, hi, hr⟩
    have iw := I.inv iy hw
    have wkw := wk ⟨F, wipeR y.rho vs, wipe y.sg vs, H1, y.o, y.p, y.b⟩ iw I.f1 (fun a o _ e tt => I.kp a o e (by simp) tt) (fun _ => I.kp) i
    rcases Nat.lt_or_ge i ds.length with hlt | hge
    rotate_left
    · have ei : i = ds.length := by omega
      subst ei
      rw [List.drop_length] at hr
      simp only [dcS, Res.ok.injEq] at hr
      subst hr
      refine .inl ⟨wkw.2 (Nat.le_refl _), ?_⟩
      have s1 := I.slots iy
      have E2 : Ext true y { y with F := F, H := H1 } := ⟨rfl, I.kp.mono (by simp), I.f1, I.f2, fun a h => .inl h, rfl, rfl, I.dm, fun _ d _ e _ => ⟨d, e, fun _ => rfl⟩, fun _ => ⟨rfl, I.kp, rfl⟩⟩
      have hE := ey.trans hx iy E2
      rw [Bool.and_true] at hE
      refine q { y with F := F, H := H1 } (.ref D0) [D0] hρ ⟨⟨s1, iy.nd, I.dom, I.tb⟩, hE, .ow I.nD I.ob, ⟨by simp, fun a ha => ?_⟩, .ow⟩
      have : a = D0 := by simpa using ha
      subst this
      refine ⟨ey.dm a hD, fun z => ?_, fun z => ?_, fun z => ?_⟩
      · obtain ⟨_, o, e, _⟩ := iy.sl.there a (.inl z); rw [hD] at e; cases e
      · obtain ⟨_, o, e, _⟩ := iy.sl.there a (.inr (.inl z)); rw [hD] at e; cases e
      · obtain ⟨_, o, e, _⟩ := iy.sl.there a (.inr (.inr z)); rw [hD] at e; cases e
    · have ed : ds[i]? = some ds[i] := List.getElem?_eq_getElem hlt
      obtain ⟨hgo, hyld⟩ := wkw.1 _ ed
      rw [List.drop_eq_getElem_cons hlt] at hr
      simp only [dcS] at hr
      cases hg : g ds[i] (wipeR y.rho vs) with
      | bad => simp only [hg, Res.bind_bad] at hr; cases hr
      | err c d ρ' => simp only [hg, Res.bind_err] at hr; cases hr
      | ok ρ2 =>
      simp only [hg, Res.bind_ok] at hr
      cases ht : t ρ2 with
      | bad => simp only [ht, Res.bind_bad] at hr; cases hr
      | err c d ρ' => simp only [ht, Res.bind_err] at hr; cases hr
      | ok r2 =>
      obtain ⟨b, ρ3⟩ := r2
      simp only [ht, Res.bind_ok] at hr
      refine .inr ⟨hgo, fun H2 => ∃ F acc', DcI G y D0 acc' F H2 ∧ dcS g t kx vx (wipeR y.rho vs) (ds.drop (i + 1)) acc' = .ok rr, fun H2 ⟨F, acc', I2, h3⟩ => ⟨ds.length - (i + 1), by omega, F, acc', I2, rfl, hlt, h3⟩, fun v H2 yl => ?_⟩
      obtain ⟨F2, n⟩ := hyld v H2 yl
      have P := n.post iw
      have r1 : Rep G F2 H2 [v] [ds[i]] := n.own.fz_of
      rw [ey.sg] at P
      refine ⟨⟨F2, wipeR y.rho vs, wipe x.sg vs, H2, y.o, y.p, y.b⟩, ds[i], rfl, rfl, P.inv, r1, ?_⟩
      show (match g ds[i] (wipeR y.rho vs) with | .ok ρ' => _ | _ => False)
      rw [hg]
      intro u hu tu
      refine ⟨wipe_same (tu.len.trans (wipe_length x.sg vs)) (fun j hj => tu.out j hj) his, u, rfl, rfl, tu.inv, ?_⟩
      rw [hu, ht]
      intro u2 hu2 iu2 eu2
      obtain ⟨ρu2, ku2, ou2⟩ := eu2.st rfl
      have I2 : DcI G y D0 acc u2.F u2.H := by
        have hF : u.F = F2 := tu.F
        have hH : u.H = H2 := tu.H
        have kp2 : Kept [] H1 u2.H := by
          refine Kept.trans (m' := []) (fun a o e _ _ => n.kp a o e) (by rw [← hH]; exact ku2) (by simp)
        have f12 : ∀ a, F a → u2.F a := fun a f => eu2.f1 a (by rw [hF]; exact n.f1 a f)
        refine ⟨fun a f => f12 a (I.f1 a f), fun a f => ?_, I.kp.trans kp2 (by simp), fun a h => ?_, iu2.dom, iu2.tb, fun f => ?_, I.ob.keep f12 (fun a o _ e tt => kp2 a o e (by simp) tt) (fun o e tt => kp2 D0 o e (by simp) tt), I.dic⟩
        · rcases eu2.f2 a f with q | q
          · rw [hF] at q
            rcases n.f2 a q with q | q
            · exact I.f2 a q
            · exact .inr (I.dm a q)
          · rw [hH] at q; exact .inr (I.dm a (n.dm a q))
        · have h1 := eu2.dm a h
          rw [hH] at h1
          exact I.dm a (n.dm a h1)
        · obtain ⟨oo, eo, to⟩ := I.ob.there
          rcases eu2.f2 D0 f with q | q
          · rw [hF] at q
            rcases n.f2 D0 q with q | q
            · exact I.nD q
            · have q' : H1 D0 = none := q
              rw [eo] at q'; cases q'
          · rw [hH, n.kp _ _ eo] at q; cases q
      cases b with
      | false =>
        rw [if_neg (by simp)] at hr ⊢
        exact ⟨u2.F, acc, I2, hr⟩
      | true =>
        rw [if_pos rfl] at hr ⊢
        cases he : kx ρ2 with
        | bad => simp only [he, Res.bind_bad] at hr; cases hr
        | err c d ρ' => simp only [he, Res.bind_err] at hr; cases hr
        | ok r3 =>
        obtain ⟨kd, k1, ρ4⟩ := r3
        simp only [he, Res.bind_ok] at hr
        cases hv : vx ρ2 with
        | bad => simp only [hv, Res.bind_bad] at hr; cases hr
        | err c d ρ' => simp only [hv, Res.bind_err] at hr; cases hr
        | ok r4 =>
        obtain ⟨vd, k2, ρ5⟩ := r4
        simp only [hv, Res.bind_ok] at hr
        have hk : (decide (k1 = .fz) && (decide (k2 ≠ .br) && vd.fzOk)) = true := by
          by_cases hk : (decide (k1 = .fz) && (decide (k2 ≠ .br) && vd.fzOk)) = true
          · exact hk
          · rw [if_neg hk] at hr; cases hr
        rw [if_pos hk] at hr
        simp only [Bool.and_eq_true, decide_eq_true_eq] at hk
        obtain ⟨hk1, hk2⟩ := hk
        subst hk1
        cases hp : putD1 acc kd vd with
        | none => simp only [hp] at hr; cases hr
        | some acc' =>
        simp only [hp] at hr
        refine ⟨u2, eu2.sg, rfl, iu2, ?_⟩
        rw [ρu2, hu, he]
        intro u3 yv fk hu3 P3
        obtain ⟨ρu3, ku3, ou3⟩ := P3.ext.st rfl
        have fk0 : fk = [] := P3.kd
        subst fk0
        have rk3 : Rep G u3.F u3.H [yv] [kd] := P3.own.fz_of
        refine ⟨u3, P3.ext.sg.trans eu2.sg, rfl, P3.inv, ?_⟩
        rw [ρu3, ρu2, hu, hv]
        intro u4 zv fv hu4 P4
        obtain ⟨ρu4, ku4, ou4⟩ := P4.ext.st rfl
        obtain ⟨o2, eo2, to2⟩ := I2.ob.there
        have e3 : u3.H D0 = some o2 := ku3 _ _ eo2 (by simp) to2
        have e4 : u4.H D0 = some o2 := ku4 _ _ e3 (by simp) to2
        have nD3 : ¬ u3.F D0 := fun f => by
          rcases P3.ext.f2 D0 f with q | q
          · exact I2.nD q
          · rw [eo2] at q; cases q
        have nD4 : ¬ u4.F D0 := fun f => by
          rcases P4.ext.f2 D0 f with q | q
          · exact nD3 q
          · rw [e3] at q; cases q
        have hvD : D0 ∉ fv := fun z => by
          cases k2 with
          | br => exact hk2.1 rfl
          | fz => have : fv = [] := P4.kd; rw [this] at z; simp at z
          | ow => have := (P4.kd.2 D0 z).1; rw [e3] at this; cases this
        have hF4 : SInv G { u4 with F := fun a => u4.F a ∨ a ∈ fv } := P4.inv.freeze fun a ha => ⟨(P4.own.there a ha).2, by
          cases k2 with
          | br => exact absurd rfl hk2.1
          | fz => have : fv = [] := P4.kd; rw [this] at ha; simp at ha
          | ow => exact (P4.kd.2 a ha).2⟩
        have fr : ∀ a ∈ fv, u3.H a = none := fun a ha => by
          cases k2 with
          | br => exact absurd rfl hk2.1
          | fz => have : fv = [] := P4.kd; rw [this] at ha; simp at ha
          | ow => exact (P4.kd.2 a ha).1
        have f34 : ∀ a, u3.F a → u4.F a ∨ a ∈ fv := fun a f => .inl (P4.ext.f1 a f)
        have rk4 : Rep G (fun a => u4.F a ∨ a ∈ fv) u4.H [yv] [kd] := rk3.keep f34 fun a o _ e tt => ku4 a o e (by simp) tt
        have rv4 : Rep G (fun a => u4.F a ∨ a ∈ fv) u4.H [zv] [vd] := P4.own.rep (fun a ha => .inr ha) (fun _ h => .inl h) hk2.2
        have nF4 : ¬ (u4.F D0 ∨ D0 ∈ fv) := fun f => f.elim nD4 hvD
        have ob4 : Objs G (fun a => u4.F a ∨ a ∈ fv) u4.H D0 acc := (I2.ob.keep P3.ext.f1 (fun a o _ e tt => ku3 a o e (by simp) tt) (fun o e tt => ku3 D0 o e (by simp) tt)).keep f34 (fun a o _ e tt => ku4 a o e (by simp) tt) (fun o e tt => ku4 D0 o e (by simp) tt)
        obtain ⟨o', to', no', dp, ob', dic'⟩ := ob4.put I2.dic hp rk4 rv4 nF4
        refine ⟨upd u4.H D0 o', dp, fun a => u4.F a ∨ a ∈ fv, acc', ⟨fun a f => f34 a (P3.ext.f1 a (I2.f1 a f)), fun a f => ?_, ?_, fun a h => ?_, fun a f => ?_, tabs_upd P4.inv.tb e4 to2 (fun φ z => ?_), nF4, ob', dic'⟩, hr⟩
        · rcases f with f | f
          · rcases P4.ext.f2 a f with q | q
            · rcases P3.ext.f2 a q with q | q
              · exact I2.f2 a q
              · exact .inr (I2.dm a q)
            · exact .inr (I2.dm a (P3.ext.dm a q))
          · exact .inr (I2.dm a (P3.ext.dm a (fr a f)))
        · intro a o e _ tt
          have h1 := ku4 a o (ku3 a o (I2.kp a o e (by simp) tt) (by simp) tt) (by simp) tt
          rw [upd_ne (apart a (by rw [e]; simp))]; exact h1
        · by_cases ea : a = D0
          · rw [ea]; exact hD
          · rw [upd_ne ea] at h
            exact I2.dm a (P3.ext.dm a (P4.ext.dm a h))
        · by_cases ea : a = D0
          · rw [ea]; exact ⟨_, upd_same, to'⟩
          · obtain ⟨o, e, tt⟩ := hF4.dom a f
            exact ⟨o, by rw [upd_ne ea]; exact e, tt⟩
        · subst z
          obtain ⟨o9, e9, _, n9⟩ := I2.ob.noExt
          rw [eo2] at e9; cases e9
          exact n9 _ rfl
theorem r_dc {kxe vxe tg iter : Expr} {ifs : List Expr} {scope : Scope} {own : List (Str × Nat)} {pos : Pos} {s : Bool} {is : List Nat} {it : IE} {g : GE} {t : BE} {kx vx : EE} {k : Nat} (hr : RoomG k X.A) (hc : X.calm = true) (hN : X.N.Nodup) (hi : PI X tg iter (tI G W s it)) (ok : BlkOk X.N X.env.scope scope own)
    (his : ∀ j ∈ is, j ∈ own.map (·.2))
    (hg : ∀ (s : Shared) (H : Hp) (C : Addr) (cl : List (Str × Addr)) (fp : List Addr), PG (X.blk s H scope (compEnvC scope cl C X.env) fp) tg (tG G is g)) (ht : ∀ (s : Shared) (H : Hp) (C : Addr) (cl : List (Str × Addr)) (fp : List Addr), PTs (X.blk s H scope (compEnvC scope cl C X.env) fp) ifs (tB G W0 true t))
    (hk : ∀ (s : Shared) (H : Hp) (C : Addr) (cl : List (Str × Addr)) (fp : List Addr), PE (X.blk s H scope (compEnvC scope cl C X.env) fp) kxe (tS G W0 true kx))
    (he : ∀ (s : Shared) (H : Hp) (C : Addr) (cl : List (Str × Addr)) (fp : List Addr), PE (X.blk s H scope (compEnvC scope cl C X.env) fp) vxe (tS G W0 true vx)) (hs : ∀ x, foldedSetIterable iter X.env x = pure x := by intro _; rfl) :
    PE X (.DictComp kxe vxe [⟨tg, iter, ifs, 0⟩] scope pos) (tS G W s (xDc (own.map (·.2)) it g t kx vx)) :=
  PE.of (pe_dc2 (by have := hr.room.units; omega) hc hN hi ok hg ht hk he hs) fun σ H Q h => tS_dc his h
end
end VL
set_option maxHeartbeats 2000000
/-! VL40: len of a dict. -/
namespace VL
open PySem PySem.Spec PyProof.Rows L2
def dLenD : D → Option (D × Kd)
  | .dK l => some (.int l.length, .fz)
  | .dT l => some (.int l.length, .fz)
  | _ => none
def rLenD (K : PySem.W.Frag) : List V → Hp → VK → Prop := fun xs H Q => (∃ p kvs, xs = [.ref p] ∧ H p = some (.dK kvs) ∧ Q (.int ((kvs.length : Nat) : Int)) H) ∨ rLenT xs H Q
section
variable {X : Cx} {G : Gm}
theorem Own.dic_of {F : Addr → Prop} {H : Hp} {v : V} {d : D} {fp : List Addr} (h : Own G F H v d fp) (hd : isDic d = true) : ∃ a, v = .ref a ∧ Objs G F H a d := by
  cases h with
  | fz r =>
    cases d <;> first | (simp [isDic] at hd; done) | skip
    case dK es =>
      cases r with
      | atom e _ => cases v <;> simp [atomD] at e
      | dK f e z k r1 _ => exact ⟨_, rfl, _, e, z, k, r1⟩
    case dT es =>
      cases r with
      | atom e _ => cases v <;> simp [atomD] at e
      | dT f e z k r1 _ => exact ⟨_, rfl, _, e, z, k, r1⟩
  | ow f ob => exact ⟨_, rfl, ob⟩
  | drw _ _ _ _ _ q => cases hd
theorem o_lenD (hK : X.K = G.K) : CallR X (.builtin "len") (rLenD X.K) ∧ FnD G (rLenD X.K) (f1 dLenD) := ⟨fun pins s σ H xs us Q I r h => h.elim (call_lenD pins s σ H xs us Q I r) (call_len_dT pins s σ H xs us Q I r), by
  intro F H vs ds d k Q hd hr hg q
  obtain ⟨a, ea, hg'⟩ := f1_of hg
  clear hg
  subst ea
  have hg := hg'
  clear hg'
  obtain ⟨v, fp, rfl, w⟩ := hr.one
  cases a <;> simp only [dLenD] at hg <;> first | cases hg | skip
  case dK es =>
    obtain ⟨a, rfl, ws, e, z, k, r⟩ := w.dic_of rfl
    have hw : ws.length = es.length := by have := congrArg List.length k; simpa using this
    have := q F H (.int (es.length : Nat)) [] (.atom hd rfl)
    exact .inl ⟨a, ws, rfl, e, by rw [hw]; exact this⟩
  case dT es =>
    obtain ⟨a, rfl, ws, e, z, k, r⟩ := w.dic_of rfl
    have hw : ws.length = es.length := by have := congrArg List.length k; simpa using this
    have := q F H (.int (es.length : Nat)) [] (.atom hd rfl)
    exact .inr ⟨a, ws, rfl, e, by rw [hw]; exact this⟩⟩
end
end VL
set_option maxHeartbeats 1000000
/-! VL41: (*way, party): starred tuples in displays. -/
namespace VL
open PySem PySem.Spec PyProof.Rows L2
def fzL (ds : List D) : List (D × Kd) := ds.map fun d => (d, .fz)
def aStar (f : EE) (g : AE) : AE := fun ρ => do
  let (d, _, ρ1) ← f ρ
  match d with
  | .tup ds => do
    let (l, ρ2) ← g ρ1
    pure (fzL ds ++ l, ρ2)
  | _ => .bad
theorem aok_rep {G : Gm} {x y : Stt} : ∀ {vs : List V} {ds : List D}, Rep G y.F y.H vs ds → AOk G x y vs (fzL ds)
  | vs, [], r => by rw [r.nil_of]; exact .nil
  | vs, d :: ds, r => by
    obtain ⟨v, ws, rfl, r1, r2⟩ := r.cons_of
    exact .cons (.fz r1) rfl .fz (aok_rep r2)
section
variable {X : Cx} {G : Gm} {W : WX}
theorem tA_star {s t : Bool} {f : EE} {g : AE} {σ H Q} (h : tA G W (s && t) (aStar f g) σ H Q) : StX.tStar G.K (tS G W s f) (tA G W t g) σ H Q := by
  obtain ⟨x, rfl, rfl, hi, q⟩ := h
  refine ⟨x, rfl, rfl, hi, ?_⟩
  unfold aStar at q
  cases h1 : f x.rho with
  | bad => simp only [h1, Res.bind_bad] at q
  | err c d ρ' =>
    simp only [h1, Res.bind_err] at q
    intro y cls dx hρ iy ey hev
    refine q y cls dx hρ iy { ey with st := fun z => ey.st (by simp only [Bool.and_eq_true] at z; exact z.1) } hev
  | ok r =>
    obtain ⟨d, k, ρ1⟩ := r
    simp only [h1, Res.bind_ok] at q
    intro y v fv hρ P
    cases d with
    | tup ds =>
      simp only at q
      obtain ⟨a, ws, rfl, sq, hz, r, _, _⟩ := P.own.tup_of rfl
      refine ⟨a, ws, rfl, .inl sq, y, P.ext.sg, rfl, P.inv, ?_⟩
      rw [hρ]
      cases h2 : g ρ1 with
      | bad => simp only [h2, Res.bind_bad] at q
      | err c d' ρ' =>
        simp only [h2, Res.bind_err] at q
        intro z cls dx hz iz ez hev
        exact q z cls dx hz iz (P.ext.trans hi P.inv ez) hev
      | ok r2 =>
        obtain ⟨l, ρ2⟩ := r2
        simp only [h2, Res.bind_ok] at q
        intro z vs hz iz ez az
        have r' : Rep G z.F z.H ws ds := r.keep ez.f1 (ez.keptF P.inv)
        exact q z (ws ++ vs) hz iz (P.ext.trans hi P.inv ez) ((aok_rep r').append (az.older P.ext.dm))
    | _ => exact q.elim
theorem r_astar {e : Expr} {p : Pos} {es : List Expr} {s t : Bool} {f : EE} {g : AE} (hK : X.K = G.K) (ha : PE X e (tS G W s f)) (hr : PA X es (tA G W t g)) (hs : starEach (.Starred e p :: es) X.env = (true, eval e X.env) :: starEach es X.env := by rfl) : PA X (.Starred e p :: es) (tA G W (s && t) (aStar f g)) :=
  PA.of (StX.pa_star ha hr hs) fun σ H Q h => by rw [hK]; exact tA_star h
end
end VL
set_option maxHeartbeats 1000000
/-! VL42: the least of three numbers. -/
namespace VL
open PySem PySem.Spec PyProof.Rows L2
def f3 (g : D → D → D → Option (D × Kd)) : List D → Option (D × Kd)
  | [d, e, f] => g d e f
  | _ => none
theorem f3_of {g : D → D → D → Option (D × Kd)} {ds : List D} {r : D × Kd} (h : f3 g ds = some r) : ∃ d e f, ds = [d, e, f] ∧ g d e f = some r := by
  unfold f3 at h; split at h
  · exact ⟨_, _, _, rfl, h⟩
  · cases h
def min3 (i j k : Int) : Int := if k < (if j < i then j else i) then k else (if j < i then j else i)
def dMin3 : D → D → D → Option (D × Kd)
  | .int i, .int j, .int k => some (.int (min3 i j k), .fz)
  | _, _, _ => none
theorem nuMin3_int (i j k : Int) : nuMin3 (.int i) (.int j) (.int k) = some (.int (min3 i j k)) := by
  have e2 : ∀ a b : Int, nuMin2 (.int a) (.int b) = some (.int (if b < a then b else a)) := fun a b => by
    have : nuLt (.int b) (.int a) = some (decide (b < a)) := rfl
    unfold nuMin2
    rw [this, Option.map_some]
    by_cases h : b < a <;> simp [h]
  unfold nuMin3 min3
  rw [e2, Option.bind_some, e2]
theorem Reads.three {G : Gm} {F : Addr → Prop} {H : Hp} {vs : List V} {d e f : D} (h : Reads G F H vs [d, e, f]) : ∃ v w z fv fw fz, vs = [v, w, z] ∧ Own G F H v d fv ∧ Own G F H w e fw ∧ Own G F H z f fz := by
  cases h with
  | cons w r => obtain ⟨u, x, fu, fx, rfl, w2, w3⟩ := r.two; exact ⟨_, _, _, _, _, _, rfl, w, w2, w3⟩
section
variable {X : Cx} {G : Gm}
theorem o_min3 (hc : X.calm = true) : CallR X (.builtin "min") (rNuC3 nuMin3) ∧ FnD G (rNuC3 nuMin3) (f3 dMin3) := ⟨call_min3Nu hc, by
  intro F H vs ds d k Q hd hr hg q
  obtain ⟨a, b, c, ea, hg'⟩ := f3_of hg
  clear hg
  subst ea
  have hg := hg'
  clear hg'
  obtain ⟨v, w, z, fv, fw, fz, rfl, h1, h2, h3⟩ := hr.three
  unfold dMin3 at hg
  split at hg
  · cases hg
    rw [h1.int_of, h2.int_of, h3.int_of]
    exact ⟨_, _, _, _, rfl, nuMin3_int _ _ _, q F H _ [] (.atom hd rfl)⟩
  · cases hg⟩
end
end VL
set_option maxHeartbeats 1000000
/-! VL43: o.m(..), o an instance that is not changed. -/
namespace VL
open PySem PySem.Spec PyProof.Rows L2
def insIs (c : Nat) (m : Str) : D → Bool
  | .ins c' es => decide (c' = c) && decide (m ∉ es.map (·.1))
  | _ => false
def aM (c : Nat) (m : Str) (t : Bool) (f : EE) (g : AE) : AE := fun ρ => do
  let (d, k, ρ1) ← f ρ
  if insIs c m d = false ∨ (k = .br ∧ t = false) then .bad else do
    let (l, ρ2) ← g ρ1
    pure ((d, k) :: l, ρ2)
theorem insIs_of {c : Nat} {m : Str} {d : D} (h : insIs c m d = true) : ∃ es, d = .ins c es ∧ m ∉ es.map (·.1) := by
  cases d <;> simp [insIs] at h
  case ins c' es =>
    obtain ⟨rfl, h2⟩ := h
    exact ⟨es, rfl, by simpa using h2⟩
theorem lookup_none {α β : Type} [BEq α] [LawfulBEq α] {l : List (α × β)} {a : α} (h : a ∉ l.map (·.1)) : l.lookup a = none := by
  induction l with
  | nil => rfl
  | cons p l ih =>
    rw [List.map_cons, List.mem_cons, not_or] at h
    obtain ⟨k, v⟩ := p
    rw [List.lookup_cons]
    have : (a == k) = false := by simpa using h.1
    rw [this]; exact ih h.2
def tMethG (C : Addr) (m : Str) (sp : Sp) (E : St → XK) (ta : TE) (t : TA) : TE := fun σ H Q => ta σ H fun x H1 => ∃ a dx fs, x = .ref a ∧ H1 a = some (.ins C dx fs) ∧ fs.lookup m = none ∧ t σ H1 fun vs H2 => sp (.ref a :: vs) H2 Q (E σ)
section
variable {X : Cx} {k : Nat} {f C : Addr} {fd : FuncData} {ps : List Str} {sp : Sp} {E : St → XK}
theorem methG {m : Str} {apos pos : Pos} {o e : Expr} {es : List Expr} {ta : TE} {t : TA} {pl : Sem Bool} (he : PE X o ta) (c : Cls X.K C) (hm : Meth X.K C m f) (F : FnG X.prog X.w X.K X.mg X.base k f fd ps sp) (rg : RoomG k X.A) (hb : Binds X.K fd ps []) (hx : ∀ σ, PassesAt (L2.CX X.prog X.w) X σ (E σ)) (ha : PA X (e :: es) t)
    (hst : starEach (e :: es) X.env = (false, eval e X.env) :: starEach es X.env := by rfl) (hpl : (backTo pos (starEach es X.env)).any (·.1) = false := by rfl)
    (ht : eval (.Call (.Attribute o m apos) (e :: es) [] pos) X.env = (do
      let ov ← eval o X.env
      standAt apos.atName
      let (f, first) ← holding [ov] (getMethod ov m pl)
      callWith pos f first (backTo pos (starEach (e :: es) X.env)) (backToKw pos (keywordEach [] X.env))) := by rfl) :
    PE X (.Call (.Attribute o m apos) (e :: es) [] pos) (tMethG C m sp E ta t) := by
  refine ⟨fun pins s σ H Q I h => ?_⟩
  refine PySem.W.methodCall_KW (pl := pl) (thn (he.run pins s σ H _ I h) fun u s1 ⟨x, H1, I1, rx, a, dx, fs, ex, ea, l, q⟩ => ?_) ht
  subst ex
  obtain rfl : u = Value.ref a := rx
  refine getmeth_ok I1 ea c hm l ?_
  refine PySem.W.callWith_K (first := [.ref a]) (h₀ := X.base) I.ok.mod.kin hm.kp (thn (ha.run pos pins s1 σ H1 _ I1 q) fun us s2 ⟨vs, H2, I2, r, q2⟩ => ⟨I2.kIn, ?_⟩) hst hpl
  exact runG (us := .ref a :: us) (vs := .ref a :: vs) F rg hb (hx σ) I2 (.cons rfl r) q2
end
section
variable {X : Cx} {G : Gm} {W : WX}
theorem tA_meth {cn : Nat} {C : Addr} {m : Str} {s t : Bool} {f : EE} {g : AE} {σ H Q} (hC : G.cm cn = some C) (h : tA G W (s && t) (aM cn m t f g) σ H Q) : tS G W s f σ H fun x H1 => ∃ a dx fs, x = .ref a ∧ H1 a = some (.ins C dx fs) ∧ fs.lookup m = none ∧ tA G W t g σ H1 fun vs H2 => Q (.ref a :: vs) H2 := by
  obtain ⟨x, rfl, rfl, hi, q⟩ := h
  refine ⟨x, rfl, rfl, hi, ?_⟩
  unfold aM at q
  cases h1 : f x.rho with
  | bad => simp only [h1, Res.bind_bad] at q
  | err c d ρ' =>
    simp only [h1, Res.bind_err] at q
    intro y cls dx hρ iy ey hev
    refine q y cls dx hρ iy { ey with st := fun z => ey.st (by simp only [Bool.and_eq_true] at z; exact z.1) } hev
  | ok r =>
    obtain ⟨d, k, ρ1⟩ := r
    simp only [h1, Res.bind_ok] at q
    intro y v fv hρ P
    by_cases hb : insIs cn m d = false ∨ (k = .br ∧ t = false)
    · rw [if_pos hb] at q; exact q.elim
    · rw [if_neg hb] at q
      rw [not_or] at hb
      obtain ⟨es, rfl, hn⟩ := insIs_of (by simpa using hb.1)
      obtain ⟨a, C', dx, ws, rfl, e1, e2, e3, _⟩ := P.own.ins_of
      rw [hC] at e2; cases e2
      refine ⟨a, dx, ws, rfl, e1, lookup_none (by rw [e3]; exact hn), y, P.ext.sg, rfl, P.inv, ?_⟩
      rw [hρ]
      cases h2 : g ρ1 with
      | bad => simp only [h2, Res.bind_bad] at q
      | err c d' ρ' =>
        simp only [h2, Res.bind_err] at q
        exact fun z cls dx hz iz ez hev => q z cls dx hz iz (P.ext.trans hi P.inv ez) hev
      | ok r2 =>
        obtain ⟨l, ρ2⟩ := r2
        simp only [h2, Res.bind_ok] at q
        intro z vs hz iz ez az
        have hk : k = .br → t = true := fun e => by
          cases t with
          | true => rfl
          | false => exact absurd ⟨e, rfl⟩ hb.2
        obtain ⟨w', kd', sr'⟩ := carry P.inv P.ext.dm P.own P.kd ez P.src hk
        exact q z (.ref a :: vs) hz iz (P.ext.trans hi P.inv ez) (.cons w' kd' sr' (az.older P.ext.dm))
theorem alen_meth {cn : Nat} {m : Str} {n : Nat} {s : Bool} {f : EE} {g : AE} (h : ALen n g) : ALen (n + 1) (aM cn m s f g) := fun ρ l ρ1 e => by
  unfold aM at e
  cases h1 : f ρ with
  | bad => simp [h1] at e
  | err c d ρ' => simp [h1] at e
  | ok r =>
    obtain ⟨d, k, ρ2⟩ := r
    simp only [h1, Res.bind_ok] at e
    split at e
    · cases e
    · cases h2 : g ρ2 with
      | bad => simp [h2] at e
      | err c d ρ' => simp [h2] at e
      | ok r2 =>
        obtain ⟨l2, ρ3⟩ := r2
        simp only [h2, Res.bind_ok, Res.pure_ok, Res.ok.injEq, Prod.mk.injEq] at e
        obtain ⟨rfl, _⟩ := e
        simp [h _ _ _ h2]
theorem r_meth {m : Str} {apos pos : Pos} {o e : Expr} {es : List Expr} {k cn : Nat} {C fa : Addr} {fd : FuncData} {ps : List Str} {mm : FA} {s t : Bool} {f : EE} {g : AE} {pl : Sem Bool} (tk : Takes X W) (hC : G.cm cn = some C) (c : Cls X.K C) (hm : Meth X.K C m fa) (F : FnG X.prog X.w X.K X.mg X.base k fa fd ps (spA G ps.length mm)) (hr : RoomG k X.A) (hb : Binds X.K fd ps [])
    (he : PE X o (tS G W s f)) (ha : PA X (e :: es) (tA G W t g)) (hn : ALen ps.length (aM cn m t f g)) 
    (hst : starEach (e :: es) X.env = (false, eval e X.env) :: starEach es X.env := by rfl) (hpl : (backTo pos (starEach es X.env)).any (·.1) = false := by rfl)
    (ht : eval (.Call (.Attribute o m apos) (e :: es) [] pos) X.env = (do
      let ov ← eval o X.env
      standAt apos.atName
      let (f, first) ← holding [ov] (getMethod ov m pl)
      callWith pos f first (backTo pos (starEach (e :: es) X.env)) (backToKw pos (keywordEach [] X.env))) := by rfl) :
    PE X (.Call (.Attribute o m apos) (e :: es) [] pos) (tS G W (s && t) (xCall mm (aM cn m t f g))) :=
  PE.of (methG he c hm F hr hb (fun σ => passAt tk σ) ha hst hpl ht) fun σ H Q h => tA_meth hC (tS_call h hn)
end
end VL
set_option maxHeartbeats 1000000
/-! VL44: a, b = x, y where a comprehension has one of the names (a cell): stored in the written order; the pair is not tracked. -/
namespace L2
open PySem PySem.Spec PyProof.Rows
section
variable {X : Cx} {pos : Pos}
theorem ps_parC {i j : Nat} {x y : Str} {a b : Expr} {ta : TA} {px py pt : Pos} {kt k2 pt2} (hc : X.calm = true) (hN : X.N.Nodup) (hi : X.N[i]? = some x) (hj : X.N[j]? = some y)
    (hx : PG X (.Name x px) (gName i)) (hy : PG X (.Name y py) (gName j)) (ha : PA X [a, b] ta)
    (hw : swappedStores [.Tuple [.Name x px, .Name y py] kt pt] (.Tuple [a, b] k2 pt2) X.env = pure none := by rfl)
    (hs : swapsWithSole [.Tuple [.Name x px, .Name y py] kt pt] (.Tuple [a, b] k2 pt2) pos.line X.env = pure false := by rfl)
    (h1 : (assignEach [.Tuple [.Name x px, .Name y py] kt pt] X.env).map (·.2) = [assign (.Tuple [.Name x px, .Name y py] kt pt) X.env] := by rfl)
    (h2 : (assignEach [.Name x px, .Name y py] X.env).map (·.2) = assign (.Name x px) X.env :: (assignEach [.Name y py] X.env).map (·.2) := by rfl)
    (h3 : (assignEach [.Name y py] X.env).map (·.2) = assign (.Name y py) X.env :: (assignEach [] X.env).map (·.2) := by rfl)
    (hn : (assignEach [.Name x px, .Name y py] X.env).length = 2 := by rfl) (hst : (assignEach [.Name x px, .Name y py] X.env).findIdx? (·.1) = none := by rfl) :
    PS X (.Assign [.Tuple [.Name x px, .Name y py] kt pt] (.Tuple [a, b] k2 pt2) pos) (tPar i j ta) := by
  refine ⟨fun pins s σ H D I h => ?_⟩
  refine wpAny_Assign_stores (wpAny_Tuple_spliced (thn (ha.run _ pins s σ H _ I h) fun us s1 ⟨vs, H1, I1, r1, v, w, e1, q1⟩ => ?_)) hs hw
  subst e1
  obtain ⟨u1, u2, rfl, rv, rw'⟩ : ∃ u1 u2, us = [u1, u2] ∧ RelV v u1 ∧ RelV w u2 := by
    cases r1 with
    | cons p q =>
      cases q with
      | cons p' q' =>
        cases q'
        exact ⟨_, _, rfl, p, p'⟩
  refine ⟨by rw [sizeLine_eq]; exact Nat.le_of_ble_eq_true rfl, ?_⟩
  have I2 : Inv X pins σ H1 { s1 with heap := s1.heap.push { cls := .type "tuple", data := .seq [u1, u2].toArray } } := I1.kept (t' := s1.toks) fun b o e => Heap.get?_push_of_some _ e
  rw [h1]
  have ht : (s1.heap.push { cls := .type "tuple", data := .seq #[u1, u2] }).IsTuple s1.heap.objs.size #[u1, u2] := ⟨_, Heap.get?_push_size _ rfl, rfl, _, rfl⟩
  refine assign_Tuple_tuple (I2.ok.hd hc) ht (by simp [hn]) hst fun h' hx' => ?_
  have I3 : Inv X pins σ H1 { s1 with heap := h' } := I2.kept (t' := s1.toks) fun b o e => hx' b o (Nat.ne_of_lt (Heap.lt_size e)) e
  refine thn ((pgs_cons hx (pgs_cons hy pgs_nil h3) h2).run pins _ σ H1 [v, w] [u1, u2] D.nx I3 (.cons rv (.cons rw' .nil)) ⟨v, [w], rfl, w, [], rfl, rfl, q1⟩) fun _ _ q => q
end
end L2

namespace VL
open PySem PySem.Spec PyProof.Rows L2
section
variable {X : Cx} {G : Gm} {W : WX} {z : Stt}
theorem r_parC {i j : Nat} {x y : Str} {a b : Expr} {s : Bool} {f : AE} {px py pt pos : Pos} {kt k2 pt2} (hc : X.calm = true) (hN : X.N.Nodup) (hi : X.N[i]? = some x) (hj : X.N[j]? = some y) (hij : i ≠ j)
    (ha : PA X [a, b] (tA G W s f)) (lx : Loc X.env.scope x := by first | exact Or.inl rfl | exact Or.inr rfl) (fx : X.fn x = true ∨ X.env.scope.names.lookup x = some .local := by first | exact Or.inl rfl | exact Or.inr rfl) (ly : Loc X.env.scope y := by first | exact Or.inl rfl | exact Or.inr rfl) (fy : X.fn y = true ∨ X.env.scope.names.lookup y = some .local := by first | exact Or.inl rfl | exact Or.inr rfl)
    (hw : swappedStores [.Tuple [.Name x px, .Name y py] kt pt] (.Tuple [a, b] k2 pt2) X.env = pure none := by rfl)
    (hs : swapsWithSole [.Tuple [.Name x px, .Name y py] kt pt] (.Tuple [a, b] k2 pt2) pos.line X.env = pure false := by rfl)
    (h1 : (assignEach [.Tuple [.Name x px, .Name y py] kt pt] X.env).map (·.2) = [assign (.Tuple [.Name x px, .Name y py] kt pt) X.env] := by rfl)
    (h2 : (assignEach [.Name x px, .Name y py] X.env).map (·.2) = assign (.Name x px) X.env :: (assignEach [.Name y py] X.env).map (·.2) := by rfl)
    (h3 : (assignEach [.Name y py] X.env).map (·.2) = assign (.Name y py) X.env :: (assignEach [] X.env).map (·.2) := by rfl)
    (hn : (assignEach [.Name x px, .Name y py] X.env).length = 2 := by rfl) (hst : (assignEach [.Name x px, .Name y py] X.env).findIdx? (·.1) = none := by rfl) :
    PS X (.Assign [.Tuple [.Name x px, .Name y py] kt pt] (.Tuple [a, b] k2 pt2) pos) (tT G W z (sPar i j f)) := PS.of (ps_parC hc hN hi hj (pg_name hN hi lx fx) (pg_name hN hj ly fy) ha hw hs h1 h2 h3 hn hst) fun Dn σ H h => by
  obtain ⟨x, rfl, rfl, hx, hz, q⟩ := h
  refine ⟨x, rfl, rfl, hx, ?_⟩
  unfold sPar at q
  cases e : f x.rho with
  | bad => simp only [e, Res.bind_bad] at q; exact q.elim
  | err c d ρ' =>
    simp only [e, Res.bind_err] at q
    intro y cls dx hρ iy ey hev
    have := q y cls dx hρ (SStep.ext hz hx iy ey) hev
    rw [ey.sg] at this; exact this
  | ok r =>
    obtain ⟨l, ρ1⟩ := r
    simp only [e, Res.bind_ok] at q
    intro y vs hρ iy ey ay
    match l, ay, q with
    | [(d1, k1), (d2, k2)], ay, q =>
      simp only [parK] at q
      by_cases hf : fzAll [(d1, k1), (d2, k2)] = true
      · rw [if_pos hf] at q
        obtain ⟨F', i', e', rp⟩ := ay.frozen hx iy ey hf
        obtain ⟨v, ws, rfl, r1, r2⟩ := rp.cons_of
        obtain ⟨w, ws, rfl, r2, r3⟩ := r2.cons_of
        rw [r3.nil_of]
        refine ⟨v, w, rfl, ?_⟩
        rw [← hρ] at q
        cases h1 : gNm i d1 y.rho with
        | bad => simp only [h1, Res.bind] at q; exact q.elim
        | err c d' ρ' => exact absurd h1 (ne_name _ _ _ _ _)
        | ok ρ2 =>
          simp only [h1, Res.bind] at q
          obtain ⟨y1, y2, y3, y4, y5⟩ := set_tstep (x := { y with F := F' }) i' r1 h1
          cases h2 : gNm j d2 ρ2 with
          | bad => simp only [h2] at q; exact q.elim
          | err c d' ρ' => exact absurd h2 (ne_name _ _ _ _ _)
          | ok ρ3 =>
            simp only [h2] at q
            obtain ⟨u1, u2, u3, u4, u5⟩ := set_tstep (v := w) y5.inv (by rw [y5.F, y5.H]; exact r2) (show setSlot .fz j d2 .fz y1.rho = .ok ρ3 by rw [y2]; exact h2)
            have st := (SStep.ext hz hx i' e').trans ((y5.step (hz.ext hx e')).trans (u5.step ((y5.step (hz.ext hx e')).ent)))
            have := q u1 u2 st
            rw [u3, y3, u4, y4] at this
            rw [← ey.sg]; exact this
      · rw [if_neg hf] at q; exact q.elim
    | [], _, q => exact q.elim
    | [_], _, q => exact q.elim
    | _ :: _ :: _ :: _, _, q => exact q.elim
theorem r_par2C {fl1 fl2 : Fl} {i j : Nat} {x y : Str} {a b : Expr} {s t : Bool} {f1 f2 : EE} {px py pt pos : Pos} {kt k2 pt2} (hc : X.calm = true) (hN : X.N.Nodup) (hi : X.N[i]? = some x) (hj : X.N[j]? = some y) (hij : i ≠ j)
    (ha : PE X a (tS G W s f1)) (hb : PE X b (tS G W t f2)) (lx : Loc X.env.scope x := by first | exact Or.inl rfl | exact Or.inr rfl) (fx : X.fn x = true ∨ X.env.scope.names.lookup x = some .local := by first | exact Or.inl rfl | exact Or.inr rfl) (ly : Loc X.env.scope y := by first | exact Or.inl rfl | exact Or.inr rfl) (fy : X.fn y = true ∨ X.env.scope.names.lookup y = some .local := by first | exact Or.inl rfl | exact Or.inr rfl) (hst0 : starEach [a, b] X.env = (false, eval a X.env) :: starEach [b] X.env := by rfl) (hst2 : starEach [b] X.env = (false, eval b X.env) :: starEach [] X.env := by rfl)
    (hw : swappedStores [.Tuple [.Name x px, .Name y py] kt pt] (.Tuple [a, b] k2 pt2) X.env = pure none := by rfl)
    (hs : swapsWithSole [.Tuple [.Name x px, .Name y py] kt pt] (.Tuple [a, b] k2 pt2) pos.line X.env = pure false := by rfl)
    (h1 : (assignEach [.Tuple [.Name x px, .Name y py] kt pt] X.env).map (·.2) = [assign (.Tuple [.Name x px, .Name y py] kt pt) X.env] := by rfl)
    (h2 : (assignEach [.Name x px, .Name y py] X.env).map (·.2) = assign (.Name x px) X.env :: (assignEach [.Name y py] X.env).map (·.2) := by rfl)
    (h3 : (assignEach [.Name y py] X.env).map (·.2) = assign (.Name y py) X.env :: (assignEach [] X.env).map (·.2) := by rfl)
    (hn : (assignEach [.Name x px, .Name y py] X.env).length = 2 := by rfl) (hst : (assignEach [.Name x px, .Name y py] X.env).findIdx? (·.1) = none := by rfl) :
    PS X (.Assign [.Tuple [.Name x px, .Name y py] kt pt] (.Tuple [a, b] k2 pt2) pos) (tT G W z (sPar2 fl1 fl2 i j f1 f2)) := PS.of (ps_parC hc hN hi hj (pg_name hN hi lx fx) (pg_name hN hj ly fy) (pa_cons ha (pa_cons hb pa_nil hst2) hst0) hw hs h1 h2 h3 hn hst) fun Dn σ H h => by
  obtain ⟨x, rfl, rfl, hx, hz, q⟩ := h
  refine ⟨x, rfl, rfl, hx, ?_⟩
  unfold sPar2 at q
  cases e1 : f1 x.rho with
  | bad => simp only [e1, Res.bind] at q; exact q.elim
  | err c d ρ' =>
    simp only [e1, Res.bind] at q
    intro y cls dx hρ iy ey hev
    have := q y cls dx hρ (SStep.ext hz hx iy ey) hev
    rw [ey.sg] at this; exact this
  | ok r1 =>
  obtain ⟨d1, k1, ρ1⟩ := r1
  simp only [e1, ev_rbind_ok] at q
  intro y1 v1 fv1 hρ1 P1
  by_cases hk1 : k1 = .br
  · rw [if_pos hk1] at q; exact q.elim
  rw [if_neg hk1] at q
  refine ⟨y1, P1.ext.sg, rfl, P1.inv, ?_⟩
  rw [hρ1]
  cases e2 : f2 ρ1 with
  | bad => simp only [e2, Res.bind] at q; exact q.elim
  | err c d ρ' =>
    simp only [e2, Res.bind] at q
    intro y cls dx hρ iy ey hev
    have E := P1.ext.trans hx P1.inv ey
    have := q y cls dx hρ (SStep.ext hz hx iy E) hev
    rw [E.sg] at this; exact this
  | ok r2 =>
  obtain ⟨d2, k2, ρ2⟩ := r2
  simp only [e2, ev_rbind_ok] at q
  intro y2 v2 fv2 hρ2 P2
  refine ⟨v1, v2, rfl, ?_⟩
  by_cases hk2 : k2 = .br
  · rw [if_pos hk2] at q; exact q.elim
  rw [if_neg hk2] at q
  have E2 := P1.ext.trans hx P1.inv P2.ext
  obtain ⟨w1, kd1, _⟩ := carry P1.inv P1.ext.dm P1.own P1.kd P2.ext P1.src (fun e => absurd e hk1)
  cases e3 : setSlot fl1 i d1 k1 ρ2 with
  | bad => simp only [e3, Res.bind] at q; exact q.elim
  | err c d ρ' => exact absurd e3 setSlot_ne
  | ok ρ3 =>
  simp only [e3, ev_rbind_ok] at q
  cases e4 : setSlot fl2 j d2 k2 ρ3 with
  | bad => simp only [e4, Res.bind] at q; exact q.elim
  | err c d ρ' => exact absurd e4 setSlot_ne
  | ok ρ4 =>
  simp only [e4, ev_rbind_ok] at q
  have ez2 : EInv z y2 := hz.ext hx E2
  have K1 : KdZ z y2 k1 fv1 := by
    cases k1 with
    | br => exact absurd rfl hk1
    | fz => exact kd1
    | ow => exact ⟨kd1.1, fun a ha => ⟨hz.dm a (kd1.2 a ha).1, (kd1.2 a ha).2⟩⟩
  obtain ⟨u, u1, u2, u3, u4, u5, u6, u7, u8, u9⟩ := set_core (i := i) P2.inv ez2 w1 K1 (by rw [hρ2]; exact e3)
  have dis : k2 = .ow → ∀ a ∈ fv2, a ∉ fv1 := fun e a ha z => by
    subst e
    have n := (P2.kd.2 a ha).1
    obtain ⟨_, o, h, _⟩ := P1.own.there a z
    rw [n] at h; cases h
  have fe : k2 = .fz → fv2 = [] := fun e => by subst e; exact P2.kd
  have w2 : Own G u.F u.H v2 d2 fv2 := P2.own.keep u9 (by rw [u3]; exact .refl) fun a ha => ⟨fun f => by
    rcases u8 a f with f | f
    · exact (P2.own.there a ha).1 f
    · cases k2 with
      | br => exact hk2 rfl
      | fz => rw [fe rfl] at ha; simp at ha
      | ow => exact dis rfl a ha f, fun o e _ => by rw [u3]; exact e⟩
  have K2 : KdZ z u k2 fv2 := by
    cases k2 with
    | br => exact absurd rfl hk2
    | fz => exact P2.kd
    | ow =>
      refine ⟨P2.kd.1, fun a ha => ⟨hz.dm a (P1.ext.dm a (P2.kd.2 a ha).1), fun h => ?_, ?_, ?_⟩⟩
      · rcases u5 a h with h | h
        · exact (P2.kd.2 a ha).2.1 h
        · exact dis rfl a ha h
      · rw [u6]; exact (P2.kd.2 a ha).2.2.1
      · rw [u7]; exact (P2.kd.2 a ha).2.2.2
  obtain ⟨o, o1, o2, o3, o4, _⟩ := set_core (i := j) u4.inv u4.ent w2 K2 (by rw [u1]; exact e4)
  have := q o o1 (((SStep.ext hz hx P2.inv E2).trans u4).trans o4)
  rw [o2, o3, u2, u3, E2.sg] at this
  exact this
end
end VL
set_option maxHeartbeats 1000000
/-! VL45: the signs of a text, one by one. -/
namespace VL
open PySem PySem.Spec PyProof.Rows L2
def signs (x : Str) : List D := x.cps.toList.map fun c => .str ⟨#[c]⟩
def iTxt (f : EE) : IE := fun ρ => do
  let (d, _, ρ1) ← f ρ
  match d with
  | .str x => pure (signs x, false, ρ1)
  | _ => .bad
section
variable {X : Cx} {G : Gm} {W : WX}
theorem r_itxt {tg e : Expr} {s : Bool} {f : EE} (h : PE X e (tS G W s f)) : PI X tg e (tI G W s (iTxt f)) := PI.of (pi_str h) fun σ H R ⟨x, e1, e2, hx, q⟩ => by
  subst e1 e2
  refine ⟨x, rfl, rfl, hx, ?_⟩
  unfold iTxt at q
  cases e : f x.rho with
  | bad => simp only [e, Res.bind_bad] at q
  | err c d ρ' => simp only [e, Res.bind_err] at q; exact q
  | ok r =>
    obtain ⟨d, k, ρ1⟩ := r
    simp only [e, Res.bind_ok] at q
    intro y v fv hρ P
    cases d <;> first | exact q.elim | skip
    case str t =>
      refine ⟨t, P.own.str_of, q y _ hρ P.inv P.ext fun w iw f1 kf _ i => ⟨fun d hd => ?_, fun hl => ?_⟩⟩
      · unfold signs at hd
        rw [List.getElem?_map, Option.map_eq_some_iff] at hd
        obtain ⟨c, hc, rfl⟩ := hd
        have hl : i < t.cps.size := by
          have := (List.getElem?_eq_some_iff.mp hc).1
          simpa using this
        refine ⟨hl, fun v H' yl => ?_⟩
        obtain ⟨rfl, c', hc', rfl⟩ := yl
        have : c' = c := by
          rw [← Array.getElem?_toList, hc] at hc'
          exact (Option.some.inj hc').symm
        subst this
        exact ⟨w.F, .atom iw.dom rfl⟩
      · unfold signs at hl
        rw [List.length_map] at hl
        show t.cps.size ≤ i
        simpa using hl
end
end VL
set_option maxHeartbeats 1000000
/-! VL46: the least of a tuple of texts; any. -/
namespace VL
open PySem PySem.Spec PyProof.Rows L2
def ltS (y a : Str) : Bool := decide (y.cps.toList < a.cps.toList)
def minS (x : Str) (r : List Str) : Str := r.foldl (fun a y => if ltS y a = true then y else a) x
theorem minD_str (x : Str) (r : List Str) : PySem.W.minD (.str x) (r.map .str) = .str (minS x r) := by
  unfold PySem.W.minD minS
  induction r generalizing x with
  | nil => rfl
  | cons y r ih =>
    rw [List.map_cons, List.foldl_cons, List.foldl_cons, ← ih]
    congr 1
    have : PySem.W.dataLt (.str y) (.str x) = ltS y x := PySem.W.dataLt_str y x
    rw [this]
    cases ltS y x <;> rfl
def dMinS : D → Option (D × Kd)
  | .tup ds => match strsOf ds with
    | some (x :: r) => some (.str (minS x r), .fz)
    | _ => none
  | _ => none
def rMinS (K : PySem.W.Frag) : List V → Hp → VK → Prop := fun xs H Q => ∃ a x r, xs = [.ref a] ∧ SqT K H a ((x :: r).map V.str) ∧ Q (.str (minS x r)) H
theorem strs_reads {h : Heap} : ∀ {ws : List Str} {its : List Value}, Vals (ws.map V.str) its → ReadsAll h its (ws.map PyData.str) []
  | [], _, .nil => .nil
  | _ :: _, _, .cons ⟨_, e⟩ t => by
    subst e
    exact .cons (as := []) (bs := []) (.str _ _) (strs_reads t)
theorem depth_strs0 : ∀ w : List Str, PyData.depthAll (w.map PyData.str) = 0
  | [] => by simp [PyData.depthAll]
  | x :: w => by simp [PyData.depthAll, depth_strs0 w, PyData.depth]
section
variable {X : Cx} {G : Gm}
theorem call_minS (hc : X.calm = true) (hu : X.A.units + 64 < cLine) : CallR X (.builtin "min") (rMinS X.K) := by
  intro pins s σ H xs us Q I r h
  obtain ⟨a, x, ws, rfl, sq, q⟩ := h
  obtain ⟨u, rfl, ru⟩ := vals1 r
  obtain rfl : u = Value.ref a := ru
  obtain ⟨its, rv, ht, _⟩ := I.tuple sq
  have hr : ReadsAll s.heap its.toArray.toList (PyData.str x :: ws.map PyData.str) [] := by
    have := strs_reads (h := s.heap) rv
    simpa using this
  refine PySem.W.min_tuple_data (I.ok.hd hc) ht hr ⟨fun p hp q hq => ?_, fun p hp => ?_⟩ ?_ fun i v h' tk bs hv rd k => ?_
  · have f : ∀ p ∈ PyData.str x :: ws.map PyData.str, ∃ z, p = .str z := fun p hp => by
      rcases List.mem_cons.mp hp with e | hp
      · exact ⟨_, e⟩
      · obtain ⟨z, _, e⟩ := List.mem_map.mp hp; exact ⟨z, e.symm⟩
    obtain ⟨z1, rfl⟩ := f p hp
    obtain ⟨z2, rfl⟩ := f q hq
    simp [PySem.W.alike]
  · rcases List.mem_cons.mp hp with e | hp
    · rw [e]; simp
    · obtain ⟨z, _, e⟩ := List.mem_map.mp hp; rw [← e]; simp
  · have := depth_strs0 (x :: ws)
    rw [List.map_cons] at this
    rw [this]; omega
  · rw [minD_str] at rd
    cases rd
    exact ⟨.str (minS x ws), H, I.kept k, ⟨_, rfl⟩, q⟩
theorem o_minS {k : Nat} (hc : X.calm = true) (hr : RoomG k X.A) (hK : X.K = G.K) : CallR X (.builtin "min") (rMinS X.K) ∧ FnD G (rMinS X.K) (f1 dMinS) := ⟨call_minS hc hr.room.units, by
  intro F H vs ds d k Q hd hr hg q
  obtain ⟨a, ea, hg'⟩ := f1_of hg
  clear hg
  subst ea
  have hg := hg'
  clear hg'
  obtain ⟨v, fp, rfl, w⟩ := hr.one
  unfold dMinS at hg
  split at hg
  · rename_i l
    split at hg
    · rename_i x r e
      cases hg
      obtain ⟨a, ws, rfl, sq, hz, rp, _, _⟩ := w.tup_of hK
      obtain rfl := strsOf_eq e
      obtain rfl := rp.strs_of
      exact ⟨a, x, r, rfl, sq, q F H _ [] (.atom hd rfl)⟩
    · cases hg
  · cases hg⟩
def dAny : D → Option (D × Kd)
  | .lst es => (blsOf es).map fun bs => (.bl (bs.any id), .fz)
  | _ => none
theorem o_any (hc : X.calm = true) : CallR X (.builtin "any") (rAny X.K) ∧ FnD G (rAny X.K) (f1 dAny) := ⟨cr_any hc, by
  intro F H vs ds d k Q hd hr hg q
  obtain ⟨a, ea, hg'⟩ := f1_of hg
  subst ea
  obtain ⟨v, fp, rfl, w⟩ := hr.one
  cases a <;> first | cases hg' | skip
  simp only [dAny, Option.map_eq_some_iff, Prod.mk.injEq] at hg'
  obtain ⟨bs, e, rfl, rfl⟩ := hg'
  obtain rfl := blsOf_eq e
  obtain ⟨a, ws, rfl, e1, z1, r1⟩ := w.lstM
  obtain rfl := Rep.bls_of r1
  exact ⟨a, bs, rfl, .inl (.inl e1), q F H _ [] (.atom hd rfl)⟩⟩
end
end VL
set_option maxHeartbeats 1000000
/-! VL47: x > y of texts. -/
namespace VL
open PySem PySem.Spec PyProof.Rows L2
def dGtS : D → D → Option (D × Kd)
  | .str i, .str j => some (.bl (ltS j i), .fz)
  | _, _ => none
section
variable {X : Cx} {G : Gm}
theorem o_gtS : OpR X (compareOp .Gt) (fun x y H Q => ∃ i j, x = .str i ∧ y = .str j ∧ Q (.bl (decide (j.cps.toList < i.cps.toList))) H) ∧ FnD2 G (fun x y H Q => ∃ i j, x = .str i ∧ y = .str j ∧ Q (.bl (decide (j.cps.toList < i.cps.toList))) H) dGtS := ⟨op_gt_str, by
  intro F H v w a b fv fw d k Q hd ha hb hg q
  unfold dGtS at hg
  split at hg
  · cases hg
    rw [ha.str_of, hb.str_of]
    exact ⟨_, _, rfl, rfl, q F H _ [] (.atom hd rfl)⟩
  · cases hg⟩
end
end VL
/-! VW0: mirrors that the laws on webs share (printed by gen.py). -/
namespace VL
open PySem PySem.Spec PyProof.Rows L2 VL
def tab_Web : List (Tag × Bool) := [(.cls 50, true)]
def mb_law_names_1 : SE := (sSeq (sSet .fz 5 (xCallM D_law_pick 0 (aC true (xLst (aC true (xC (.str "a")) (aC true (xC (.str "b")) (aC true (xC (.str "x")) (aC true (xC (.str "lay")) (aC true (xC (.str "tick")) (aC true (xC (.str "hand")) (aC true (xC (.str "wait")) (aC true (xC (.str "party")) (aC true (xC (.str "zzzzzz")) aN)))))))))) aN)))
  (sSeq (sIf (xTst (xAp2 true dEq (xCallM D_law_take 0 (aC true (xC (.int 2)) aN)) (xC (.int 0))))
  (sSet .fz 5 (xM1 false dJoin (xC (.str "")) (xLcM [6] (iRng1D (aC true (xAp2 false dAdd (xC (.int 1)) (xCallM D_law_take 0 (aC true (xC (.int 6)) aN))) aN)) (gNm 6) bYes (xCallM D_law_pick 0 (aC true (xV 2) aN)))))
  sNil)
  (sSeq (sSet .fz 7 (xAp2 true dAdd (xLst (aC true (xV 5) aN)) (xLc [8] (iTxt (xV 2)) (gNm 8) bYes (xAp2 true dAdd (xSl (xV 5) oN (oS (xC (.int 5)))) (xV 8)))))
  (sEx (xMut D.isLst 3 mAppend (aC true (xAp2 true dIdx (xLc [9] (iSeq (xV 7)) (gNm 9) (xTst (xAp2 true dNotIn (xV 9) (xV 3))) (xV 9)) (xC (.int 0))) aN))))))
def m_law_names : SE := (sSeq (sPar2 .fz .ow 2 3 (xC (.str "abcdefghijklmnopqrstuvwxyz")) (xLst aN))
  (sSeq (sFor (iRng1D (aC true (xV 1) aN)) (gNm 4) mb_law_names_1)
  (sRetV 3)))
def D_law_names : FB := dB 10 m_law_names
def mb_law_mixed_1 : SE := (sEx (xMut D.isLst 3 mAppend (aC true (xMut D.isLst 2 mPopAt (aC true (xCallM D_law_take 0 (aC true (xApp (f1 dLen) (aC true (xV 2) aN)) aN)) aN)) aN)))
def m_law_mixed : SE := (sSeq (sPar2 .ow .ow 2 3 (xApp (f1 dList) (aC true (xV 1) aN)) (xLst aN))
  (sSeq (sWhile 100000 (xTst (xAp2 true dNe (xV 2) (xLst aN))) mb_law_mixed_1)
  (sRetV 3)))
def D_law_mixed : FB := dB 4 m_law_mixed
def mb_law_pairs_1 : SE := (sSet .fz 1 (xAp2 true dAdd (xV 1) (xLc [3] (iSeq (xV 0)) (gNm 3) (xTst (xAp2 true dNe (xV 3) (xV 2))) (xTup (aC true (xV 2) (aC true (xV 3) aN))))))
def m_law_pairs : SE := (sSeq (sSet .fz 1 (xLst aN))
  (sSeq (sFor (iSeq (xV 0)) (gNm 2) mb_law_pairs_1)
  (sRetV 1)))
def D_law_pairs : FA := dA 4 m_law_pairs
def m_law_model : SE := (sSeq (sPar 3 4 (aC false (xCallM D_law_names 0 (aC true (xAp2 false dAdd (xC (.int 2)) (xCallM D_law_take 0 (aC true (xAp2 true dSub (xV 1) (xC (.int 1))) aN))) aN)) (aC true (xCallM D_law_take 0 (aC true (xC (.int 5)) aN)) aN)))
  (sSeq (sSet .fz 5 (xCallM D_law_mixed 0 (aC true (xV 3) aN)))
  (sSeq (sSet .fz 6 (xLc [7] (iRng2D (aC true (xC (.int 1)) (aC true (xApp (f1 dLen) (aC true (xV 5) aN)) aN))) (gNm 7) bYes (xTup (aC true (xAp2 true dIdx (xV 5) (xAp2 true dSub (xV 7) (xC (.int 1)))) (aC true (xAp2 true dIdx (xV 5) (xV 7)) aN)))))
  (sSeq (sIf (xTst (xAp2 true dLt (xV 4) (xC (.int 2))))
  (sSet .fz 6 (xAp2 true dAdd (xV 6) (xLst (aC true (xTup (aC true (xAp2 true dIdx (xV 5) (xAp1 dNeg (xC (.int 1)))) (aC true (xAp2 true dIdx (xV 5) (xC (.int 0))) aN))) aN))))
  (sIf (xTst (xAp2 true dEq (xV 4) (xC (.int 2))))
  (sSet .fz 6 (xAp2 true dAdd (xLc [8] (iSeq (xSl (xV 5) (oS (xC (.int 1))) oN)) (gNm 8) bYes (xTup (aC true (xAp2 true dIdx (xV 5) (xC (.int 0))) (aC true (xV 8) aN)))) (xLc [8] (iSeq (xSl (xV 5) (oS (xC (.int 1))) oN)) (gNm 8) bYes (xTup (aC true (xV 8) (aC true (xAp2 true dIdx (xV 5) (xC (.int 0))) aN))))))
  (sIf (xTst (xAp2 true dEq (xV 4) (xC (.int 3))))
  (sSet .fz 6 (xLst aN))
  sNil)))
  (sSeq (sSet .fz 9 (xLc [10] (iSeq (xCallM D_law_mixed 0 (aC true (xCall D_law_pairs (aC true (xV 3) aN)) aN))) (gNm 10) (xTst (xAp2 true dNotIn (xV 10) (xV 6))) (xV 10)))
  (sSeq (sSet .fz 11 (xApp (f2 dMax2) (aC true (xC (.int 0)) (aC true (xAp2 true dSub (xV 2) (xApp (f1 dLen) (aC true (xV 6) aN))) aN))))
  (sSeq (sSet .fz 12 (xCallM D_law_pick 0 (aC true (xLst (aC false (xCallM D_law_take 0 (aC true (xC (.int 3)) aN)) (aC false (xCallM D_law_take 0 (aC true (xAp2 true dAdd (xV 11) (xC (.int 1))) aN)) (aC true (xAp2 false dAdd (xC (.int 1)) (xCallM D_law_take 0 (aC true (xC (.int 4)) aN))) aN)))) aN)))
  (sSeq (sSet .fz 13 (xApp (f3 dMin3) (aC true (xApp (f1 dLen) (aC true (xV 9) aN)) (aC true (xV 11) (aC true (xV 12) aN)))))
  (sSeq (sSet .fz 6 (xSl (xAp2 true dAdd (xV 6) (xSl (xV 9) oN (oS (xV 13)))) oN (oS (xV 2))))
  (sRet (xDisp ["dots", "ties"] (aC true (xApp (f1 dSorted) (aC true (xV 3) aN)) (aC true (xApp (f1 dSorted) (aC true (xIfE (xTst (xAp2 true dNe (xV 6) (xLst aN))) (xV 6) (xSl (xV 9) oN (oS (xC (.int 1))))) aN)) aN)))))))))))))
def D_law_model : FB := dB 14 m_law_model
def m_is_list : SE := (sRet (xAp1 (dIsi (tyTab ["list", "tuple"] ["int", "bool", "str", "NoneType", "list", "tuple", "dict"])) (xV 0)))
def D_is_list : FA := dA 1 m_is_list
def m_is_name : SE := (sRet (xAnd (xAp1 (dIsi (tyTab ["str"] ["int", "bool", "str", "NoneType", "list", "tuple", "dict"])) (xV 0)) (xAnd (xChain dLe dLe (xC (.int 1)) (xApp (f1 dLen) (aC true (xV 0) aN)) (xC (.int 6))) (xApp (f1 dAll) (aC true (xLc [1] (iTxt (xV 0)) (gNm 1) bYes (xAp2 true dIn (xV 1) (xC (.str "abcdefghijklmnopqrstuvwxyz")))) aN)))))
def D_is_name : FA := dA 2 m_is_name
def m_are_unlike : SE := (sRet (xAp2 true dEq (xApp (f1 dLenD) (aC true (xDc [1] (iSeq (xV 0)) (gNm 1) bYes (xV 1) (xC (.bl true))) aN)) (xApp (f1 dLen) (aC true (xV 0) aN))))
def D_are_unlike : FA := dA 2 m_are_unlike
def m_are_parties : SE := (sSeq (sIf (bOr (bNot (xTst (xCall D_is_list (aC true (xV 0) aN)))) (bNot (xTst (xChain dLe dLe (xC (.int 2)) (xApp (f1 dLen) (aC true (xV 0) aN)) (xC (.int 6))))))
  (sRet (xC (.bl false)))
  sNil)
  (sRet (xAnd (xApp (f1 dAll) (aC true (xLc [1] (iSeq (xV 0)) (gNm 1) bYes (xCall D_is_name (aC true (xV 1) aN))) aN)) (xCall D_are_unlike (aC true (xV 0) aN)))))
def D_are_parties : FA := dA 2 m_are_parties
def m_is_handing : SE := (sSeq (sIf (bOr (bNot (xTst (xAp1 (dIsi (tyTab ["tuple"] ["int", "bool", "str", "NoneType", "list", "tuple", "dict"])) (xV 1)))) (bOr (xTst (xAp2 true dNe (xApp (f1 dLen) (aC true (xV 1) aN)) (xC (.int 2)))) (bNot (xTst (xApp (f1 dAll) (aC true (xLc [2] (iSeq (xV 1)) (gNm 2) bYes (xAp1 (dIsi (tyTab ["str"] ["int", "bool", "str", "NoneType", "list", "tuple", "dict"])) (xV 2))) aN))))))
  (sRet (xC (.bl false)))
  sNil)
  (sRet (xAnd (xAp2 true dNe (xAp2 true dIdx (xV 1) (xC (.int 0))) (xAp2 true dIdx (xV 1) (xC (.int 1)))) (xApp (f1 dAll) (aC true (xLc [2] (iSeq (xV 1)) (gNm 2) bYes (xAp2 true dIn (xV 2) (xV 0))) aN)))))
def D_is_handing : FA := dA 3 m_is_handing
def m_are_handings : SE := (sSeq (sIf (bOr (bNot (xTst (xCall D_is_list (aC true (xV 1) aN)))) (bNot (xTst (xChain dLe dLe (xC (.int 1)) (xApp (f1 dLen) (aC true (xV 1) aN)) (xC (.int 12))))))
  (sRet (xC (.bl false)))
  sNil)
  (sRet (xAnd (xApp (f1 dAll) (aC true (xLc [2] (iSeq (xV 1)) (gNm 2) bYes (xCall D_is_handing (aC true (xV 0) (aC true (xV 2) aN)))) aN)) (xCall D_are_unlike (aC true (xV 1) aN)))))
def D_are_handings : FA := dA 3 m_are_handings
def m_Web_init : SE := (sSeq (sIf (bNot (xTst (xCall D_are_parties (aC true (xV 1) aN))))
  sBad
  sNil)
  (sSeq (sIf (bNot (xTst (xCall D_are_handings (aC true (xV 1) (aC true (xV 2) aN)))))
  sBad
  sNil)
  (sSeq (sFldSet [50] 0 "own_parties" (xApp (f1 dTuple) (aC true (xApp (f1 dSorted) (aC true (xV 1) aN)) aN)))
  (sFldSet [50] 0 "own_handings" (xApp (f1 dTuple) (aC true (xApp (f1 dSorted) (aC true (xV 2) aN)) aN))))))
def D_Web_init : FB := dB 3 m_Web_init
def m_law_web : SE := (sRet (xMake 50 D_Web_init (aC true (xAp1 dRev (xApp (f1 dList) (aC true (xGet "dots" (xV 0)) aN))) (aC true (xAp1 dRev (xApp (f1 dList) (aC true (xGet "ties" (xV 0)) aN))) aN))))
def D_law_web : FA := dA 1 m_law_web
def m_law_next : SE := (sRet (xLc [2, 3] (iSeq (xGet "ties" (xV 0))) (gTp 2 (gsC (gNm 2) (gsC (gNm 3) gsN))) (xTst (xAp2 true dEq (xV 2) (xV 1))) (xV 3)))
def D_law_next : FA := dA 4 m_law_next
def m_law_shorter : SE := (sRet (xLc [1, 2] (iSeq (xApp (f1 dSorted) (aC true (xLc [2] (iSeq (xV 0)) (gNm 2) bYes (xTup (aC true (xApp (f1 dLen) (aC true (xV 2) aN)) (aC true (xV 2) aN)))) aN))) (gTp 2 (gsC (gNm 1) (gsC (gNm 2) gsN))) bYes (xV 2)))
def D_law_shorter : FA := dA 3 m_law_shorter
def mb_law_ways_2 : SE := (sIf (xTst (xAp2 true dEq (xAp2 true dIdx (xV 6) (xAp1 dNeg (xC (.int 1)))) (xV 2)))
  (sEx (xMut D.isLst 3 mAppend (aC true (xV 6) aN)))
  (sSet .fz 5 (xAp2 true dAdd (xV 5) (xLc [7] (iSeq (xCall D_law_next (aC true (xV 0) (aC true (xAp2 true dIdx (xV 6) (xAp1 dNeg (xC (.int 1)))) aN)))) (gNm 7) (xTst (xAp2 true dNotIn (xV 7) (xV 6))) (xAp2 true dAdd (xV 6) (xTup (aC true (xV 7) aN)))))))
def mb_law_ways_1 : SE := (sSeq (sSet .fz 5 (xLst aN))
  (sSeq (sFor (iSeq (xV 4)) (gNm 6) mb_law_ways_2)
  (sSet .fz 4 (xApp (f1 dList) (aC true (xV 5) aN)))))
def m_law_ways : SE := (sSeq (sPar2 .ow .fz 3 4 (xLst aN) (xLst (aC true (xTup (aC true (xV 1) aN)) aN)))
  (sSeq (sWhile 100000 (xTst (xAp2 true dNe (xV 4) (xLst aN))) mb_law_ways_1)
  (sRet (xCall D_law_shorter (aC true (xV 3) aN)))))
def D_law_ways : FA := dA 8 m_law_ways
def m_need_web : SE := (sIf (bNot (xTst (xAp1 (dIsi tab_Web) (xV 0))))
  sBad
  sNil)
def D_need_web : FA := dA 1 m_need_web
def m_takers_of : SE := (sRet (xLc [2, 3] (iSeq (xAp1 (dFld [50] "own_handings") (xV 0))) (gTp 2 (gsC (gNm 2) (gsC (gNm 3) gsN))) (xTst (xAp2 true dEq (xV 2) (xV 1))) (xV 3)))
def D_takers_of : FA := dA 4 m_takers_of
def m_shorter_first : SE := (sRet (xLc [1, 2] (iSeq (xApp (f1 dSorted) (aC true (xLc [2] (iSeq (xV 0)) (gNm 2) bYes (xTup (aC true (xApp (f1 dLen) (aC true (xV 2) aN)) (aC true (xV 2) aN)))) aN))) (gTp 2 (gsC (gNm 1) (gsC (gNm 2) gsN))) bYes (xV 2)))
def D_shorter_first : FA := dA 3 m_shorter_first
def m_Web_with_handing : SE := (sSeq (sIf (bOr (bNot (xTst (xCall D_is_handing (aC true (xAp1 (dFld [50] "own_parties") (xV 0)) (aC true (xV 1) aN))))) (xTst (xAp2 true dIn (xV 1) (xAp1 (dFld [50] "own_handings") (xV 0)))))
  sBad
  sNil)
  (sRet (xMake 50 D_Web_init (aC true (xAp1 (dFld [50] "own_parties") (xV 0)) (aC true (xTup (aStar (xAp1 (dFld [50] "own_handings") (xV 0)) (aC true (xV 1) aN))) aN)))))
def D_Web_with_handing : FA := dA 2 m_Web_with_handing
def m_need_handing : SE := (sIf (bOr (bNot (xTst (xCall D_is_handing (aC true (xAp1 (dFld [50] "own_parties") (xV 0)) (aC true (xV 1) aN))))) (xTst (xAp2 true dNotIn (xV 1) (xAp1 (dFld [50] "own_handings") (xV 0)))))
  sBad
  sNil)
def D_need_handing : FA := dA 2 m_need_handing
def m_Web_without : SE := (sSeq (sEx (xCall D_need_handing (aC true (xV 0) (aC true (xV 1) aN))))
  (sRet (xMake 50 D_Web_init (aC true (xAp1 (dFld [50] "own_parties") (xV 0)) (aC true (xLc [2] (iSeq (xAp1 (dFld [50] "own_handings") (xV 0))) (gNm 2) (xTst (xAp2 true dNe (xV 2) (xV 1))) (xV 2)) aN)))))
def D_Web_without : FA := dA 3 m_Web_without
def m_need_party : SE := (sIf (bOr (bNot (xTst (xAp1 (dIsi (tyTab ["str"] ["int", "bool", "str", "NoneType", "list", "tuple", "dict"])) (xV 1)))) (xTst (xAp2 true dNotIn (xV 1) (xAp1 (dFld [50] "own_parties") (xV 0)))))
  sBad
  sNil)
def D_need_party : FA := dA 2 m_need_party
def m_need_ends : SE := (sSeq (sEx (xCall D_need_web (aC true (xV 0) aN)))
  (sSeq (sEx (xCall D_need_party (aC true (xV 0) (aC true (xV 1) aN))))
  (sEx (xCall D_need_party (aC true (xV 0) (aC true (xV 2) aN))))))
def D_need_ends : FA := dA 3 m_need_ends
def mb_ways_of_1 : SE := (sSeq (sSet .fz 5 (xMut D.isLst 4 mPop aN))
  (sIf (xTst (xAp2 true dEq (xAp2 true dIdx (xV 5) (xAp1 dNeg (xC (.int 1)))) (xV 2)))
  (sEx (xMut D.isLst 3 mAppend (aC true (xV 5) aN)))
  (sEx (xMut D.isLst 4 mExtend (aC true (xLc [6] (iSeq (xCall D_takers_of (aC true (xV 0) (aC true (xAp2 true dIdx (xV 5) (xAp1 dNeg (xC (.int 1)))) aN)))) (gNm 6) (xTst (xAp2 true dNotIn (xV 6) (xV 5))) (xTup (aStar (xV 5) (aC true (xV 6) aN)))) aN)))))
def m_ways_of : SE := (sSeq (sPar2 .ow .ow 3 4 (xLst aN) (xLst (aC true (xTup (aC true (xV 1) aN)) aN)))
  (sSeq (sWhile 100000 (xTst (xAp2 true dNe (xV 4) (xLst aN))) mb_ways_of_1)
  (sRet (xCall D_shorter_first (aC true (xV 3) aN)))))
def D_ways_of : FA := dA 7 m_ways_of
def m_ways : SE := (sSeq (sEx (xCall D_need_ends (aC true (xV 0) (aC true (xV 1) (aC true (xV 2) aN)))))
  (sRet (xCall D_ways_of (aC true (xV 0) (aC true (xV 1) (aC true (xV 2) aN))))))
def D_ways : FA := dA 3 m_ways
def m_nearest : SE := (sSeq (sEx (xCall D_need_ends (aC true (xV 0) (aC true (xV 1) (aC true (xV 2) aN)))))
  (sSeq (sSet .fz 3 (xCall D_ways_of (aC true (xV 0) (aC true (xV 1) (aC true (xV 2) aN)))))
  (sRet (xIfE (xTst (xAp2 true dNe (xV 3) (xLst aN))) (xAp2 true dSub (xApp (f1 dLen) (aC true (xAp2 true dIdx (xV 3) (xC (.int 0))) aN)) (xC (.int 1))) (xC (.non))))))
def D_nearest : FA := dA 4 m_nearest
def m_farthest : SE := (sSeq (sEx (xCall D_need_ends (aC true (xV 0) (aC true (xV 1) (aC true (xV 2) aN)))))
  (sSeq (sSet .fz 3 (xCall D_ways_of (aC true (xV 0) (aC true (xV 1) (aC true (xV 2) aN)))))
  (sRet (xIfE (xTst (xAp2 true dNe (xV 3) (xLst aN))) (xAp2 true dSub (xApp (f1 dLen) (aC true (xAp2 true dIdx (xV 3) (xAp1 dNeg (xC (.int 1)))) aN)) (xC (.int 1))) (xC (.non))))))
def D_farthest : FA := dA 4 m_farthest
end VL
/-! VW1: names, pairs, ways as data; sorting. -/
namespace VL
open PySem PySem.Spec PyProof.Rows L2 PySem.W
/-! sorting -/
def tokD (d : D) : List (Int ⊕ List Nat) := keyToks (encD d)
theorem sortD_tot : TotalLe (dataLe false encD) := sortLe_total _ _ _
def leF {α : Type} (f : α → D) (a b : α) : Bool := dataLe false encD (f a) (f b)
theorem leF_tot {α : Type} (f : α → D) : TotalLe (leF f) := ⟨fun a b c => sortD_tot.trans _ _ _, fun a b => sortD_tot.total _ _⟩
def srt {α : Type} (f : α → D) (l : List α) : List α := l.mergeSort (leF f)
theorem srt_map {α : Type} (f : α → D) (l : List α) : sortD (l.map f) = (srt f l).map f := (sort_maps f (r := leF f) (s := dataLe false encD) (l := l) fun _ _ _ _ => rfl).symm
theorem srt_perm {α : Type} (f : α → D) (l : List α) : (srt f l).Perm l := List.mergeSort_perm _ _
theorem srt_sorted {α : Type} (f : α → D) (l : List α) : (srt f l).Pairwise (fun a b => leF f a b = true) := sort_pairwise (leF_tot f) l
theorem srt_fix {α : Type} {f : α → D} {l : List α} (h : l.Pairwise (fun a b => leF f a b = true)) : srt f l = l := List.mergeSort_of_pairwise h
theorem srt_congr {α : Type} {f : α → D} {l m : List α} (h : l.Perm m) (inj : ∀ a b, tokD (f a) = tokD (f b) → a = b) : srt f l = srt f m := by
  refine sort_one (leF_tot f) _ _ (srt_sorted f l) (srt_sorted f m) fun c => ?_
  have e1 : (srt f l).filter (sameRank (leF f) c) = l.filter (sameRank (leF f) c) := sort_stable (leF_tot f) l c
  have e2 : (srt f m).filter (sameRank (leF f) c) = m.filter (sameRank (leF f) c) := sort_stable (leF_tot f) m c
  rw [e1, e2]
  have hp := h.filter (sameRank (leF f) c)
  have key : ∀ a, sameRank (leF f) c a = true → a = c := fun a ha => by
    unfold sameRank at ha
    rw [Bool.and_eq_true] at ha
    refine inj a c ?_
    have h1 : (!(listOrd itemOrd).blt (tokD (f a)) (tokD (f c))) = true := ha.1
    have h2 : (!(listOrd itemOrd).blt (tokD (f c)) (tokD (f a))) = true := ha.2
    rw [Bool.not_eq_true'] at h1 h2
    exact (listOrd itemOrd).total _ _ h1 h2
  have rep : ∀ l : List α, l.filter (sameRank (leF f) c) = List.replicate (l.filter (sameRank (leF f) c)).length c := fun l => List.eq_replicate_iff.mpr ⟨rfl, fun b hb => key b (List.mem_filter.mp hb).2⟩
  rw [rep l, rep m, hp.length_eq]
theorem srt_len {α : Type} (f : α → D) (l : List α) : (srt f l).length = l.length := (srt_perm f l).length_eq
theorem srt_mem {α : Type} {f : α → D} {l : List α} {a : α} : a ∈ srt f l ↔ a ∈ l := (srt_perm f l).mem_iff
/-! names, pairs, ways -/
def sd (x : Str) : D := .str x
def pd (p : Str × Str) : D := .tup [.str p.1, .str p.2]
def wd (w : List Str) : D := .tup (w.map sd)
def kd (w : List Str) : D := .tup [.int w.length, wd w]
theorem toPyL_map {α : Type} {f : α → D} {g : α → PyData} (h : ∀ a, toPy (f a) = some (g a)) : ∀ l : List α, toPyL (l.map f) = some (l.map g)
  | [] => by simp [toPyL]
  | a :: l => by simp [toPyL, h, toPyL_map h l]
def ePr (p : Str × Str) : PyData := .tuple [.str p.1, .str p.2]
def eW (w : List Str) : PyData := .tuple (w.map .str)
def eK (w : List Str) : PyData := .tuple [.int w.length, eW w]
theorem sd_py (x : Str) : toPy (sd x) = some (.str x) := by simp [sd, toPy]
theorem pd_py (p : Str × Str) : toPy (pd p) = some (ePr p) := by simp [pd, toPy, toPyL, ePr]
theorem wd_py (w : List Str) : toPy (wd w) = some (eW w) := by simp [wd, toPy, toPyL_map sd_py, eW]
theorem kd_py (w : List Str) : toPy (kd w) = some (eK w) := by simp [kd, toPy, toPyL, wd_py, eK]
theorem enc_of {d : D} {p : PyData} (h : toPy d = some p) : encD d = p := by unfold encD; rw [h]; rfl
theorem tk_strs : ∀ {u w : List Str}, keyToksAll (u.map PyData.str) = keyToksAll (w.map PyData.str) → u = w
  | [], [], _ => rfl
  | [], _ :: _, h => by simp [keyToksAll] at h
  | _ :: _, [], h => by simp [keyToksAll] at h
  | x :: u, y :: w, h => by
    simp only [List.map_cons, keyToksAll, keyToks, List.cons_append, List.nil_append, List.cons.injEq, true_and, Sum.inr.injEq] at h
    rw [str_of_cps h.1, tk_strs h.2]
theorem sd_inj (a b : Str) (h : tokD (sd a) = tokD (sd b)) : a = b := by
  unfold tokD at h
  rw [enc_of (sd_py a), enc_of (sd_py b)] at h
  simp only [keyToks, List.cons.injEq, and_true, Sum.inr.injEq] at h
  exact str_of_cps h
theorem pd_inj (a b : Str × Str) (h : tokD (pd a) = tokD (pd b)) : a = b := by
  unfold tokD at h
  rw [enc_of (pd_py a), enc_of (pd_py b)] at h
  simp only [ePr, keyToks, keyToksAll, List.cons_append, List.nil_append, List.cons.injEq, true_and, Sum.inr.injEq, and_true] at h
  exact Prod.ext (str_of_cps h.1) (str_of_cps h.2)
theorem kd_inj (a b : List Str) (h : tokD (kd a) = tokD (kd b)) : a = b := by
  unfold tokD at h
  rw [enc_of (kd_py a), enc_of (kd_py b)] at h
  simp only [eK, eW, keyToks, keyToksAll, List.cons_append, List.nil_append, List.cons.injEq, true_and, Sum.inl.injEq] at h
  exact tk_strs (List.append_cancel_right h.2)
theorem depth_strs : ∀ w : List Str, PyData.depthAll (w.map PyData.str) = 0
  | [] => by simp [PyData.depthAll]
  | x :: w => by simp [PyData.depthAll, depth_strs w, PyData.depth]
theorem alike_strs : ∀ u w : List Str, alikeAll (u.map PyData.str) (w.map PyData.str) = true
  | [], _ => by simp [alikeAll]
  | _ :: _, [] => by simp [alikeAll]
  | x :: u, y :: w => by simp [alikeAll, alike_strs u w, alike]
theorem sortOk_sd {l : List Str} (h : l.length ≤ 1000000) : sortOk (l.map sd) = true := by
  unfold sortOk
  simp only [Bool.and_eq_true, Bool.or_eq_true, List.all_eq_true, decide_eq_true_eq, List.forall_mem_map, List.length_map, enc_of (sd_py _), sd_py]
  exact ⟨⟨⟨fun x _ => ⟨rfl, by simp [PyData.depth]⟩, fun a _ b _ => by simp [alike]⟩, .inr fun a _ => rfl⟩, h⟩
theorem sortOk_pd {l : List (Str × Str)} (h : l.length ≤ 1000000) : sortOk (l.map pd) = true := by
  unfold sortOk
  simp only [Bool.and_eq_true, Bool.or_eq_true, List.all_eq_true, decide_eq_true_eq, List.forall_mem_map, List.length_map, enc_of (pd_py _), pd_py]
  exact ⟨⟨⟨fun x _ => ⟨rfl, by simp [ePr, PyData.depth, PyData.depthAll]⟩, fun a _ b _ => by simp [ePr, alike, alikeAll]⟩, .inl fun a _ => rfl⟩, h⟩
theorem sortOk_kd {l : List (List Str)} (h : l.length ≤ 1000000) : sortOk (l.map kd) = true := by
  unfold sortOk
  simp only [Bool.and_eq_true, Bool.or_eq_true, List.all_eq_true, decide_eq_true_eq, List.forall_mem_map, List.length_map, enc_of (kd_py _), kd_py]
  exact ⟨⟨⟨fun x _ => ⟨rfl, by simp [eK, eW, PyData.depth, PyData.depthAll, depth_strs]⟩, fun a _ b _ => by simp [eK, eW, alike, alikeAll, alike_strs]⟩, .inl fun a _ => rfl⟩, h⟩
theorem sorted_l {α : Type} {f : α → D} {l : List α} (h : sortOk (l.map f) = true) : dSorted (.lst (l.map f)) = some (.lst ((srt f l).map f), .ow) := by
  show (if sortOk (l.map f) = true then some (D.lst (sortD (l.map f)), Kd.ow) else none) = _
  rw [if_pos h, srt_map]
theorem sorted_t {α : Type} {f : α → D} {l : List α} (h : sortOk (l.map f) = true) : dSorted (.tup (l.map f)) = some (.lst ((srt f l).map f), .ow) := by
  show (if sortOk (l.map f) = true then some (D.lst (sortD (l.map f)), Kd.ow) else none) = _
  rw [if_pos h, srt_map]
end VL
/-! VW2: comparing names, pairs and ways; texts for repr. -/
namespace VL
open PySem PySem.Spec PyProof.Rows L2 PySem.W
/-- a slot that may be set -/
def Fs (s : Slot) : Prop := s = none ∨ ∃ d, s = some (d, .fz)
theorem Fs.set {s : Slot} (h : Fs s) : (match (some s : Option Slot) with
  | some (some (_, .lk)) => false
  | some (some (_, .pn)) => false
  | some _ => true
  | none => false) = true := by
  rcases h with rfl | ⟨n, rfl⟩ <;> rfl
theorem Fs.free {s : Slot} (h : Fs s) : (match (some s : Option Slot) with
  | some none => true
  | some (some (_, .fz)) => true
  | _ => false) = true := by
  rcases h with rfl | ⟨n, rfl⟩ <;> rfl
theorem Fs.some (d : D) : Fs (some (d, .fz)) := .inr ⟨d, rfl⟩
theorem Fs.none : Fs none := .inl rfl
@[simp] theorem fzI (n : Int) : (D.int n).fzOk = true := Eq.trans rfl rfl
@[simp] theorem fzT (l : List D) : (D.tup l).fzOk = true := Eq.trans rfl rfl
@[simp] theorem fzLst (l : List D) : (D.lst l).fzOk = true := Eq.trans rfl rfl
@[simp] theorem fzS (x : Str) : (D.str x).fzOk = true := Eq.trans rfl rfl
@[simp] theorem fzB (b : Bool) : (D.bl b).fzOk = true := Eq.trans rfl rfl
@[simp] theorem fzN : D.non.fzOk = true := Eq.trans rfl rfl
@[simp] theorem fzDK (l : List (Key × D)) : (D.dK l).fzOk = true := Eq.trans rfl rfl
@[simp] theorem fzIns (c : Nat) (l : List (Str × D)) : (D.ins c l).fzOk = true := Eq.trans rfl rfl
@[simp] theorem fz_sd (x : Str) : (sd x).fzOk = true := Eq.trans rfl rfl
@[simp] theorem fz_pd (x : Str × Str) : (pd x).fzOk = true := Eq.trans rfl rfl
@[simp] theorem fz_wd (x : List Str) : (wd x).fzOk = true := Eq.trans rfl rfl
theorem zz {n : Nat} (h : n ≤ 1000000) : n ≤ sizeLine := by rw [sizeLine_eq]; omega
/-- a name -/
structure Nm (x : Str) : Prop where
  l1 : 1 ≤ x.length
  l6 : x.length ≤ 6
  ch : ∀ c ∈ x.cps.toList, 97 ≤ c ∧ c ≤ 122
theorem Nm.ok {x : Str} (h : Nm x) : PyData.strOk x = true := by
  unfold PyData.strOk
  rw [← Array.all_toList, List.all_eq_true]
  intro c hc
  have := h.ch c hc
  simp; omega
def NmP (p : Str × Str) : Prop := Nm p.1 ∧ Nm p.2
def NmW (w : List Str) : Prop := (∀ x ∈ w, Nm x) ∧ w.length ≤ 7
/-- data that can be compared -/
structure Enc {α : Type} (f : α → D) (g : α → PyData) (P : α → Prop) : Prop where
  py : ∀ a, toPy (f a) = some (g a)
  lay : ∀ a, P a → (g a).canLay0 = true
  dep : ∀ a, (g a).depth ≤ 5
  eqv : ∀ a b, PyData.eqv (g a) (g b) = true ↔ a = b
  shw : ∀ a, (g a).showable = true
theorem lay_strs : ∀ {w : List Str}, (∀ x ∈ w, Nm x) → PyData.canLayAll0 (w.map PyData.str) = true
  | [], _ => by simp [PyData.canLayAll0]
  | x :: w, h => by
    simp only [List.map_cons, PyData.canLayAll0, PyData.canLay0, Bool.and_eq_true]
    exact ⟨(h x List.mem_cons_self).ok, lay_strs fun y hy => h y (List.mem_cons_of_mem _ hy)⟩
theorem eqv_strs : ∀ u w : List Str, PyData.eqvAll (u.map PyData.str) (w.map PyData.str) = true ↔ u = w
  | [], [] => by simp [PyData.eqvAll]
  | [], _ :: _ => by simp [PyData.eqvAll]
  | _ :: _, [] => by simp [PyData.eqvAll]
  | x :: u, y :: w => by simp [PyData.eqvAll, PyData.eqv, eqv_strs u w]
theorem show_strs : ∀ w : List Str, PyData.showableAll (w.map PyData.str) = true
  | [] => by simp [PyData.showableAll]
  | x :: w => by simp [PyData.showableAll, PyData.showable, show_strs w]
theorem encS : Enc sd PyData.str Nm := ⟨sd_py, fun a h => by simp only [PyData.canLay0]; exact h.ok, fun a => by simp [PyData.depth], fun a b => by simp [PyData.eqv], fun a => by simp [PyData.showable]⟩
theorem encP : Enc pd ePr NmP := ⟨pd_py, fun a h => by simp only [ePr, PyData.canLay0, PyData.canLayAll0, h.1.ok, h.2.ok]; rfl, fun a => by simp [ePr, PyData.depth, PyData.depthAll], fun a b => by
  simp only [ePr, PyData.eqv, PyData.eqvAll, Bool.and_true, Bool.and_eq_true, beq_iff_eq]
  exact ⟨fun h => Prod.ext h.1 h.2, fun h => by rw [h]; exact ⟨rfl, rfl⟩⟩, fun a => by simp [ePr, PyData.showable, PyData.showableAll]⟩
theorem encW : Enc wd eW NmW := ⟨wd_py, fun a h => by simp only [eW, PyData.canLay0]; exact lay_strs h.1, fun a => by simp [eW, PyData.depth, depth_strs], fun a b => by simp only [eW, PyData.eqv]; exact eqv_strs a b, fun a => by simp [eW, PyData.showable, show_strs]⟩
section
variable {α : Type} {f : α → D} {g : α → PyData} {P : α → Prop}
theorem Enc.layL (E : Enc f g P) : ∀ {l : List α}, (∀ a ∈ l, P a) → PyData.canLayAll0 (l.map g) = true
  | [], _ => by simp [PyData.canLayAll0]
  | x :: l, h => by
    simp only [List.map_cons, PyData.canLayAll0, Bool.and_eq_true]
    exact ⟨E.lay x (h x List.mem_cons_self), E.layL fun y hy => h y (List.mem_cons_of_mem _ hy)⟩
theorem Enc.depL (E : Enc f g P) : ∀ l : List α, PyData.depthAll (l.map g) ≤ 5
  | [] => by simp [PyData.depthAll]
  | x :: l => by
    simp only [List.map_cons, PyData.depthAll]
    exact Nat.max_le.mpr ⟨E.dep x, E.depL l⟩
theorem Enc.inL (E : Enc f g P) {a : α} {l : List α} (ha : P a) (h : ∀ b ∈ l, P b) [DecidableEq α] : VL.inL (f a) (l.map f) = some (decide (a ∈ l)) := by
  unfold VL.inL
  rw [E.py, toPyL_map E.py]
  simp only
  have all : ((l.map g).all fun e => e.canLay0) = true := by
    rw [List.all_map, List.all_eq_true]
    exact fun b hb => E.lay b (h b hb)
  rw [if_pos ⟨E.lay a ha, by have := E.dep a; omega, all⟩]
  congr 1
  rw [Bool.eq_iff_iff, decide_eq_true_eq, List.any_map, List.any_eq_true]
  exact ⟨fun ⟨b, hb, e⟩ => by rw [← (E.eqv b a).mp e]; exact hb, fun hm => ⟨a, hm, (E.eqv a a).mpr rfl⟩⟩
theorem Enc.in_l (E : Enc f g P) {a : α} {l : List α} (ha : P a) (h : ∀ b ∈ l, P b) [DecidableEq α] : dIn (f a) (.lst (l.map f)) = some (.bl (decide (a ∈ l)), .fz) := by
  show (VL.inL (f a) (l.map f)).map _ = _
  rw [E.inL ha h]; rfl
theorem Enc.in_t (E : Enc f g P) {a : α} {l : List α} (ha : P a) (h : ∀ b ∈ l, P b) [DecidableEq α] : dIn (f a) (.tup (l.map f)) = some (.bl (decide (a ∈ l)), .fz) := by
  show (VL.inL (f a) (l.map f)).map _ = _
  rw [E.inL ha h]; rfl
theorem Enc.ni_l (E : Enc f g P) {a : α} {l : List α} (ha : P a) (h : ∀ b ∈ l, P b) [DecidableEq α] : dNotIn (f a) (.lst (l.map f)) = some (.bl (!decide (a ∈ l)), .fz) := by
  show (VL.inL (f a) (l.map f)).map _ = _
  rw [E.inL ha h]; rfl
theorem Enc.ni_t (E : Enc f g P) {a : α} {l : List α} (ha : P a) (h : ∀ b ∈ l, P b) [DecidableEq α] : dNotIn (f a) (.tup (l.map f)) = some (.bl (!decide (a ∈ l)), .fz) := by
  show (VL.inL (f a) (l.map f)).map _ = _
  rw [E.inL ha h]; rfl
theorem Enc.shp (E : Enc f g P) {l : List α} (h : ∀ b ∈ l, P b) : SeqAt.shaped (.list (l.map g)) = true := by
  unfold SeqAt.shaped
  have e1 : (PyData.list (l.map g)).canLay0 = true := by simp only [PyData.canLay0]; exact E.layL h
  have e2 : (PyData.list (l.map g)).depth = PyData.depthAll (l.map g) + 1 := by simp only [PyData.depth]
  rw [e1, Bool.true_and, decide_eq_true_eq, e2]
  have := E.depL l
  omega
theorem Enc.lpy (E : Enc f g P) (l : List α) : toPy (.lst (l.map f)) = some (.list (l.map g)) := by simp only [toPy, toPyL_map E.py]; rfl
theorem shp_nil : SeqAt.shaped (.list []) = true := by unfold SeqAt.shaped; simp [PyData.canLay0, PyData.canLayAll0, PyData.depth, PyData.depthAll]
theorem Enc.nn (E : Enc f g P) {l : List α} (h : ∀ b ∈ l, P b) : dNe (.lst (l.map f)) (.lst []) = some (.bl (!l.isEmpty), .fz) := by
  have : dEqB (.lst (l.map f)) (.lst []) = some l.isEmpty := by
    have e : dEqB (.lst (l.map f)) (.lst []) = pyEq (.lst (l.map f)) (.lst []) := rfl
    have e0 : toPy (.lst []) = some (.list []) := by simp [toPy, toPyL]
    rw [e]
    unfold pyEq
    rw [E.lpy, e0]
    simp only [E.shp h, shp_nil, and_self, if_true]
    cases l with
    | nil => simp [PyData.eqv, PyData.eqvAll]
    | cons a l => simp [PyData.eqv, PyData.eqvAll]
  show (dEqB (.lst (l.map f)) (.lst [])).map _ = _
  rw [this]; rfl
theorem Enc.shp1 (E : Enc f g P) {a : α} (h : P a) : SeqAt.shaped (g a) = true := by
  unfold SeqAt.shaped
  simp only [E.lay a h, Bool.true_and, decide_eq_true_eq]
  have := E.dep a; omega
end
theorem ne_pd {a b : Str × Str} (ha : NmP a) (hb : NmP b) : dNe (pd a) (pd b) = some (.bl (!decide (a = b)), .fz) := by
  have : dEqB (pd a) (pd b) = some (decide (a = b)) := by
    have e : dEqB (pd a) (pd b) = pyEq (pd a) (pd b) := rfl
    rw [e]
    unfold pyEq
    rw [pd_py, pd_py]
    simp only [encP.shp1 ha, encP.shp1 hb, and_self, if_true]
    congr 1
    rw [Bool.eq_iff_iff, decide_eq_true_eq]
    exact encP.eqv a b
  show (dEqB (pd a) (pd b)).map _ = _
  rw [this]; rfl
@[simp] theorem eq_sd (a b : Str) : dEq (sd a) (sd b) = some (.bl (decide (a = b)), .fz) := Eq.trans rfl rfl
@[simp] theorem ne_sd (a b : Str) : dNe (sd a) (sd b) = some (.bl (!decide (a = b)), .fz) := Eq.trans rfl rfl
@[simp] theorem eq_str (a b : Str) : dEq (.str a) (.str b) = some (.bl (decide (a = b)), .fz) := Eq.trans rfl rfl
end VL
/-! VW3: more mirrors unfolded; drawn names. -/
namespace VL
open PySem PySem.Spec PyProof.Rows L2 PySem.W
@[simp] theorem ev_xSl (f : EE) (lo hi : OE) (ρ : Env) : xSl f lo hi ρ = ((f ρ).bind fun r => (lo r.2.2).bind fun a => (hi a.2).bind fun b => match dSl r.1 a.1 b.1 with
  | some (d, k) => .ok (d, k, b.2)
  | none => .bad) := Eq.trans rfl rfl
@[simp] theorem ev_oN (ρ : Env) : oN ρ = .ok (none, ρ) := Eq.trans rfl rfl
@[simp] theorem ev_xGet (key : Str) (f : EE) (ρ : Env) : xGet key f ρ = ((f ρ).bind fun r => match r.1 with
  | .dK es => match valD es (kw key) with
    | some d => .ok (d, .fz, r.2.2)
    | none => .bad
  | _ => .bad) := Eq.trans rfl rfl
@[simp] theorem ev_xDisp (ks : List Str) (f : AE) (ρ : Env) : xDisp ks f ρ = ((f ρ).bind fun r => if fzAll r.1 = true ∧ ks.length = r.1.length ∧ r.1.length ≤ 15 ∧ (ks.map kw).Nodup then .ok (.dK ((ks.map kw).zip (r.1.map (·.1))), .ow, r.2) else .bad) := Eq.trans rfl rfl
@[simp] theorem ev_iTxt (f : EE) (ρ : Env) : iTxt f ρ = (do
  let (d, _, ρ1) ← f ρ
  match d with
  | .str x => pure (signs x, false, ρ1)
  | _ => .bad) := Eq.trans rfl rfl
@[simp] theorem ev_aStar (f : EE) (g : AE) (ρ : Env) : aStar f g ρ = (do
  let (d, _, ρ1) ← f ρ
  match d with
  | .tup ds => do
    let (l, ρ2) ← g ρ1
    pure (fzL ds ++ l, ρ2)
  | _ => .bad) := Eq.trans rfl rfl
@[simp] theorem ev_aM (c : Nat) (m : Str) (t : Bool) (f : EE) (g : AE) (ρ : Env) : aM c m t f g ρ = (do
  let (d, k, ρ1) ← f ρ
  if insIs c m d = false ∨ (k = .br ∧ t = false) then .bad else do
    let (l, ρ2) ← g ρ1
    pure ((d, k) :: l, ρ2)) := Eq.trans rfl rfl
@[simp] theorem ev_sPar2 (fl1 fl2 : Fl) (i j : Nat) (f1 f2 : EE) (ρ : Env) : sPar2 fl1 fl2 i j f1 f2 ρ = ((f1 ρ).bind fun r1 => if r1.2.1 = .br then .bad else (f2 r1.2.2).bind fun r2 => if r2.2.1 = .br then .bad else
  (setSlot fl1 i r1.1 r1.2.1 r2.2.2).bind fun ρ3 => (setSlot fl2 j r2.1 r2.2.1 ρ3).bind fun ρ4 => .ok (.nx ρ4)) := Eq.trans rfl rfl
@[simp] theorem ev_xLcM (vs : List Nat) (it : IE) (g : GE) (t : BE) (e : EE) (ρ : Env) : xLcM vs it g t e ρ = (do
  let (ds, br, ρ1) ← it ρ
  if br = false ∧ wipable ρ1 vs = true ∧ ds.length ≤ sizeLine then
    match lcM vs g t e ds (wipeR ρ1 vs) with
    | .ok (l, ρ2) => .ok (.lst l, .ow, ρ2)
    | _ => .bad
  else .bad) := Eq.trans rfl rfl
@[simp] theorem ev_xDc (vs : List Nat) (it : IE) (g : GE) (t : BE) (kx vx : EE) (ρ : Env) : xDc vs it g t kx vx ρ = (do
  let (ds, _, ρ1) ← it ρ
  if wipable ρ1 vs = true then
    match dcS g t kx vx (wipeR ρ1 vs) ds (.dK []) with
    | .ok r => .ok (r, .ow, ρ1)
    | _ => match dcS g t kx vx (wipeR ρ1 vs) ds (.dT []) with
      | .ok r => .ok (r, .ow, ρ1)
      | _ => .bad
  else .bad) := Eq.trans rfl rfl
@[simp] theorem ev_sWhile (n : Nat) (c : BE) (body : SE) (ρ : Env) : sWhile n c body ρ = whileL c body n ρ := Eq.trans rfl rfl
@[simp] theorem ev_rev (l : List D) : dRev (.lst l) = some (.lst l.reverse, .ow) := Eq.trans rfl rfl
@[simp] theorem ev_list_l (l : List D) : dList (.lst l) = some (.lst l, .ow) := Eq.trans rfl rfl
@[simp] theorem ev_list_t (l : List D) : dList (.tup l) = some (.lst l, .ow) := Eq.trans rfl rfl
@[simp] theorem ev_sl_l (l : List D) (lo hi : Option Int) : dSl (.lst l) lo hi = some (.lst (cutD l lo hi), .ow) := Eq.trans rfl rfl
@[simp] theorem ev_f3 (g : D → D → D → Option (D × Kd)) (d e f : D) : f3 g [d, e, f] = g d e f := Eq.trans rfl rfl
@[simp] theorem ev_min3 (i j k : Int) : dMin3 (.int i) (.int j) (.int k) = some (.int (min3 i j k), .fz) := Eq.trans rfl rfl
theorem oS_int {f : EE} {ρ ρ1 : Env} {n : Int} {k : Kd} (h : f ρ = .ok (.int n, k, ρ1)) : oS f ρ = .ok (some n, ρ1) := by unfold oS; rw [h]; rfl
theorem cutD_to (l : List D) (k : Nat) : cutD l none (some (k : Int)) = l.take k := by
  unfold cutD
  rw [HT.sIx_none, HT.sIx_nat, List.drop_zero, Nat.sub_zero]
  by_cases h : k ≤ l.length
  · rw [Nat.min_eq_left h]
  · rw [Nat.min_eq_right (by omega), List.take_of_length_le (Nat.le_refl _), List.take_of_length_le (by omega)]
theorem cutD_from (l : List D) : cutD l (some 1) none = l.drop 1 := by
  unfold cutD
  rw [HT.sIx_none, show (1 : Int) = ((1 : Nat) : Int) from rfl, HT.sIx_nat]
  cases l with
  | nil => rfl
  | cons a l =>
    have : min 1 (a :: l).length = 1 := by simp
    rw [this, List.take_of_length_le (by simp)]
/-! adding lists -/
end VL
/-! VW4: drawn names. -/
namespace VL
open PySem PySem.Spec PyProof.Rows L2 PySem.W
def sg (c : Nat) : Str := ⟨#[c]⟩
def abc : Str := "abcdefghijklmnopqrstuvwxyz"
theorem abc_len : abc.length = 26 := by decide +kernel
theorem abc_ok : ∀ c ∈ abc.cps.toList, 97 ≤ c ∧ c ≤ 122 := by decide +kernel
theorem abc_nd : abc.cps.toList.Nodup := by decide +kernel
theorem app_cps (a b : Str) : (a ++ b).cps.toList = a.cps.toList ++ b.cps.toList := by
  show (a.cps ++ b.cps).toList = _
  simp
theorem len_cps (a : Str) : a.length = a.cps.toList.length := by show a.cps.size = _; simp
theorem str_ext {a b : Str} (h : a.cps.toList = b.cps.toList) : a = b := str_of_cps h
theorem join_sg : ∀ (cs : List Nat), (Str.join "" (cs.map sg)).cps.toList = cs
  | [] => rfl
  | [c] => rfl
  | c :: d :: r => by
    have ih := join_sg (d :: r)
    show ((sg c ++ ("" : Str)) ++ Str.join "" ((d :: r).map sg)).cps.toList = _
    rw [app_cps, app_cps, ih]
    rfl
theorem nodup_len {α : Type} [DecidableEq α] : ∀ (l m : List α), l.Nodup → (∀ a ∈ l, a ∈ m) → l.length ≤ m.length
  | [], m, _, _ => Nat.zero_le _
  | a :: l, m, hn, hs => by
    have hm := hs a List.mem_cons_self
    have ih := nodup_len l (m.erase a) (List.nodup_cons.mp hn).2 fun b hb => by
      have hb' := hs b (List.mem_cons_of_mem _ hb)
      have hne : b ≠ a := fun e => (List.nodup_cons.mp hn).1 (e ▸ hb)
      exact (List.mem_erase_of_ne hne).mpr hb'
    rw [List.length_erase_of_mem hm] at ih
    have : 0 < m.length := List.length_pos_of_mem hm
    simp only [List.length_cons]; omega
theorem pickS_eq {gr : List Int} {r : Int} {ce : List Int} {t : Int} {x : Str} (h0 : 0 < x.length) (h1 : x.length < 1000000) :
    ∃ c gr' r' t', D_law_pick [some (.drw gr r ce t, .pn), some (.str x, .fz)] = .ok (.str (sg c), .fz, .drw gr' r' ce t') ∧ c ∈ x.cps.toList := by
  obtain ⟨v, gr', r', t', e, k1, k2⟩ := take_eq (gr := gr) (r := r) (ce := ce) (t := t) (n := x.length) (by omega) (by omega)
  obtain ⟨j, rfl⟩ : ∃ j : Nat, v = j := ⟨v.toNat, by omega⟩
  have hj : j < x.cps.toList.length := by rw [← len_cps]; omega
  have ea : atI x.cps.toList (j : Int) = some x.cps.toList[j] := atI_nat (List.getElem?_eq_getElem hj)
  have hz : x.length ≤ sizeLine := zz (by omega)
  have el : dLen (.str x) = some (.int x.length, .fz) := by
    show (if x.length ≤ sizeLine then some (D.int x.length, Kd.fz) else none) = _
    rw [if_pos hz]
  have ei : dIdx (.str x) (.int j) = some (.str (sg x.cps.toList[j]), .fz) := by
    show (if x.length ≤ sizeLine then (atI x.cps.toList (j : Int)).map fun c => (D.str ⟨#[c]⟩, Kd.fz) else none) = _
    rw [if_pos hz, ea]; rfl
  refine ⟨x.cps.toList[j], gr', r', t', ?_, List.getElem_mem _⟩
  generalize x.cps.toList[j] = c at *
  generalize hn : ((x.length : Nat) : Int) = n at *
  simp [D_law_pick, m_law_pick, bodyEnv, ownFl, callMK, argsOk, e, D.isDrw, ei, el, pn0, D.fzOk]
/-- the state of _law_names -/
def nmE (gr : List Int) (r : Int) (ce : List Int) (t : Int) (n : Int) (found : List Str) (s4 s5 s7 : Slot) : VL.Env := [some (.drw gr r ce t, .pn), some (.int n, .fz), some (.str abc, .fz), some (.lst (found.map sd), .ow), s4, s5, none, s7, none, none]
theorem word_loop {ce : List Int} {n : Int} {found : List Str} {s4 s5 s7 : Slot} : ∀ (m : Nat) (ds : List D) (gr : List Int) (r t : Int), ds.length = m → ∃ (cs : List Nat) (gr' : List Int) (r' t' : Int), cs.length = m ∧ (∀ c ∈ cs, c ∈ abc.cps.toList) ∧
    lcM [6] (gNm 6) bYes (xCallM D_law_pick 0 (aC true (xV 2) aN)) ds (nmE gr r ce t n found s4 s5 s7) = .ok (cs.map fun c => .str (sg c), nmE gr' r' ce t' n found s4 s5 s7)
  | 0, [], gr, r, t, _ => ⟨[], gr, r, t, rfl, by simp, rfl⟩
  | 0, _ :: _, _, _, _, h => by simp at h
  | m + 1, [], _, _, _, h => by simp at h
  | m + 1, d :: ds, gr, r, t, h => by
    obtain ⟨c, gr1, r1, t1, e1, hc⟩ := pickS_eq (gr := gr) (r := r) (ce := ce) (t := t) (x := abc) (by rw [abc_len]; decide) (by rw [abc_len]; decide)
    obtain ⟨cs, gr2, r2, t2, h1, h2, h3⟩ := word_loop (ce := ce) (n := n) (found := found) (s4 := s4) (s5 := s5) (s7 := s7) m ds gr1 r1 t1 (by simpa using h)
    refine ⟨c :: cs, gr2, r2, t2, by simp [h1], fun x hx => ?_, ?_⟩
    · rcases List.mem_cons.mp hx with rfl | hx
      · exact hc
      · exact h2 x hx
    · unfold nmE at h3 ⊢
      generalize D_law_pick = DP at *
      generalize abc = AB at *
      generalize found.map sd = FD at *
      have ex : xCallM DP 0 (aC true (xV 2) aN) [some (.drw gr r ce t, .pn), some (.int n, .fz), some (.str AB, .fz), some (.lst FD, .ow), s4, s5, some (d, .fz), s7, none, none] = .ok (.str (sg c), .fz, [some (.drw gr1 r1 ce t1, .pn), some (.int n, .fz), some (.str AB, .fz), some (.lst FD, .ow), s4, s5, some (d, .fz), s7, none, none]) := by
        simp [ownFl, callMK, argsOk, e1, D.isDrw]
      simp only [lcM, ev_gNm, setSlot, canSet, List.getElem?_cons_succ, List.getElem?_cons_zero, if_true, ev_rbind_ok, List.set_cons_succ, List.set_cons_zero, ev_bYes, Res.pure_ok, ex]
      simp [wipable, slotFree, wipeR, h3]
end VL
/-! VW5: drawn names, the loop's body. -/
namespace VL
open PySem PySem.Spec PyProof.Rows L2 PySem.W
def nine : List Str := ["a", "b", "x", "lay", "tick", "hand", "wait", "party", "zzzzzz"]
theorem nine_ok : ∀ x ∈ nine, Nm x := by
  have : ∀ x ∈ nine, (1 ≤ x.length ∧ x.length ≤ 6) ∧ ∀ c ∈ x.cps.toList, 97 ≤ c ∧ c ≤ 122 := by decide +kernel
  exact fun x hx => ⟨(this x hx).1.1, (this x hx).1.2, (this x hx).2⟩
def near5 (w : Str) (c : Nat) : Str := cutS w none (some 5) ++ sg c
def nearL (w : Str) : List Str := w :: abc.cps.toList.map (near5 w)
theorem cut5 (w : Str) : (cutS w none (some 5)).cps.toList = w.cps.toList.take 5 := by
  show ((w.cps.toList.drop (HT.sIx w.length 0 none)).take (HT.sIx w.length w.length (some ((5 : Nat) : Int)) - HT.sIx w.length 0 none)).toArray.toList = _
  rw [HT.sIx_none, HT.sIx_nat, List.drop_zero, Nat.sub_zero, len_cps]
  simp only [List.toList_toArray]
  by_cases h : 5 ≤ w.cps.toList.length
  · rw [Nat.min_eq_left h]
  · rw [Nat.min_eq_right (by omega), List.take_of_length_le (Nat.le_refl _), List.take_of_length_le (by omega)]
theorem near_ok {w : Str} (h : Nm w) : ∀ x ∈ nearL w, Nm x := fun x hx => by
  rcases List.mem_cons.mp hx with rfl | hx
  · exact h
  · obtain ⟨c, hc, rfl⟩ := List.mem_map.mp hx
    have e : (near5 w c).cps.toList = w.cps.toList.take 5 ++ [c] := by unfold near5; rw [app_cps, cut5]; rfl
    have hl : (near5 w c).length = min 5 w.cps.toList.length + 1 := by rw [len_cps, e]; simp
    have h6 := h.l6
    rw [len_cps] at h6
    refine ⟨by omega, by omega, fun d hd => ?_⟩
    rw [e] at hd
    rcases List.mem_append.mp hd with hd | hd
    · exact h.ch d (List.mem_of_mem_take hd)
    · have : d = c := by simpa using hd
      rw [this]; exact abc_ok c hc
theorem near5_inj {w : Str} {c d : Nat} (h : near5 w c = near5 w d) : c = d := by
  have := congrArg (fun x : Str => x.cps.toList) h
  simp only [near5, app_cps] at this
  have := List.append_cancel_left this
  simpa [sg] using this
theorem near_new {w : Str} {found : List Str} (hl : found.length ≤ 20) : ∃ x l, (nearL w).filter (fun y => !decide (y ∈ found)) = x :: l := by
  cases e : (nearL w).filter (fun y => !decide (y ∈ found)) with
  | cons x l => exact ⟨x, l, rfl⟩
  | nil =>
    exfalso
    rw [List.filter_eq_nil_iff] at e
    have nd : (abc.cps.toList.map (near5 w)).Nodup := List.Pairwise.map _ (fun a b hab hc => hab (near5_inj hc)) abc_nd
    have := nodup_len (abc.cps.toList.map (near5 w)) found nd fun a ha => by
      have := e a (List.mem_cons_of_mem _ ha)
      simpa using this
    rw [List.length_map, ← len_cps, abc_len] at this
    omega
theorem near_lc {ρ : VL.Env} {w : Str} (hw : w.length ≤ 6) (h5 : ρ[5]? = some (some (.str w, .fz))) (hl : 8 < ρ.length) : lcS (gNm 8) bYes (xAp2 true dAdd (xSl (xV 5) oN (oS (xC (.int 5)))) (xV 8)) (ρ.set 8 none) (signs abc) = .ok ((abc.cps.toList.map (near5 w)).map sd) := by
  have := lcS_map (g := gNm 8) (t := bYes) (e := xAp2 true dAdd (xSl (xV 5) oN (oS (xC (.int 5)))) (xV 8)) (ρ := ρ.set 8 none) (fun c => D.str ⟨#[c]⟩) (fun _ => true) (fun c => sd (near5 w c)) abc.cps.toList (fun c hc => ?_)
  · rw [List.filter_eq_self.mpr (fun _ _ => rfl)] at this
    unfold signs
    rw [this, List.map_map]; rfl
  · have g5 : ((ρ.set 8 none).set 8 (some (.str (sg c), .fz)))[5]? = some (some (.str w, .fz)) := by rw [List.getElem?_set_ne (by decide), List.getElem?_set_ne (by decide)]; exact h5
    have g8 : ((ρ.set 8 none).set 8 (some (.str (sg c), .fz)))[8]? = some (some (.str (sg c), .fz)) := List.getElem?_set_self (by simpa using hl)
    have cs : canSet (ρ.set 8 none) 8 = true := by unfold canSet; rw [List.getElem?_set_self (by simpa using hl)]
    have e5 : dSl (.str w) none (some 5) = some (.str (cutS w none (some 5)), .fz) := by
      show (if w.length ≤ sizeLine then some (D.str (cutS w none (some 5)), Kd.fz) else none) = _
      rw [if_pos (zz (by omega))]
    have lc : (cutS w none (some 5)).length ≤ 5 := by rw [len_cps, cut5]; simp; omega
    have ea : dAdd (.str (cutS w none (some 5))) (.str (sg c)) = some (.str (near5 w c), .fz) := by
      show (if (cutS w none (some 5)).length + (sg c).length ≤ sizeLine then some (D.str (cutS w none (some 5) ++ sg c), Kd.fz) else none) = _
      have : (sg c).length = 1 := rfl
      rw [if_pos (zz (by omega))]; rfl
    generalize hρ : (ρ.set 8 none).set 8 (some (.str (sg c), .fz)) = ρ' at *
    refine ⟨ρ', ?_, ρ', rfl, fun _ => ⟨.fz, ρ', ?_, by simp, rfl⟩⟩
    · show setSlot .fz 8 (.str (sg c)) .fz (ρ.set 8 none) = _
      unfold setSlot; rw [if_pos cs, ← hρ]
    · simp [g5, g8, oS, e5, ea, sd]
theorem new_lc {ρ : VL.Env} {ns found : List Str} {fl : Fl} (hn : ∀ x ∈ ns, Nm x) (hf : ∀ x ∈ found, Nm x) (h3 : ρ[3]? = some (some (.lst (found.map sd), fl))) (hl : 9 < ρ.length) : lcS (gNm 9) (xTst (xAp2 true dNotIn (xV 9) (xV 3))) (xV 9) (ρ.set 9 none) (ns.map sd) = .ok ((ns.filter fun y => !decide (y ∈ found)).map sd) := by
  refine lcS_map sd (fun y => !decide (y ∈ found)) sd ns fun x hx => ?_
  have g3 : ((ρ.set 9 none).set 9 (some (sd x, .fz)))[3]? = some (some (.lst (found.map sd), fl)) := by rw [List.getElem?_set_ne (by decide), List.getElem?_set_ne (by decide)]; exact h3
  have g9 : ((ρ.set 9 none).set 9 (some (sd x, .fz)))[9]? = some (some (sd x, .fz)) := List.getElem?_set_self (by simpa using hl)
  have cs : canSet (ρ.set 9 none) 9 = true := by unfold canSet; rw [List.getElem?_set_self (by simpa using hl)]
  have en := encS.ni_l (hn x hx) hf
  generalize found.map sd = FD at *
  generalize hρ : (ρ.set 9 none).set 9 (some (sd x, .fz)) = ρ' at *
  have v9 : xV 9 ρ' = .ok (sd x, .fz, ρ') := by rw [ev_xV, g9]
  have v3 : ∃ k, xV 3 ρ' = .ok (.lst FD, k, ρ') := by rw [ev_xV, g3]; cases fl <;> exact ⟨_, rfl⟩
  obtain ⟨k, v3⟩ := v3
  refine ⟨ρ', ?_, ρ', ?_, fun _ => ⟨.fz, ρ', v9, by simp, rfl⟩⟩
  · show setSlot .fz 9 (sd x) .fz (ρ.set 9 none) = _
    unfold setSlot; rw [if_pos cs, ← hρ]
  · simp only [ev_xTst, ev_xAp2, v9, v3, Res.bind_ok, Bool.true_eq_false, and_false, if_false, en, Res.pure_ok]
end VL
/-! VW6: drawn names, the whole. -/
namespace VL
open PySem PySem.Spec PyProof.Rows L2 PySem.W
section
variable {ce : List Int} {n : Int} {found : List Str} {s4 : Slot}
theorem nm1 {gr : List Int} {r t : Int} {s5 s7 : Slot} (h5 : Fs s5) : ∃ w gr' r' t', Nm w ∧ sSet .fz 5 (xCallM D_law_pick 0 (aC true (xLst (aC true (xC (.str "a")) (aC true (xC (.str "b")) (aC true (xC (.str "x")) (aC true (xC (.str "lay")) (aC true (xC (.str "tick")) (aC true (xC (.str "hand")) (aC true (xC (.str "wait")) (aC true (xC (.str "party")) (aC true (xC (.str "zzzzzz")) aN)))))))))) aN)) (nmE gr r ce t n found s4 s5 s7) = .ok (.nx (nmE gr' r' ce t' n found s4 (some (sd w, .fz)) s7)) := by
  obtain ⟨x, gr1, r1, t1, e1, hx⟩ := pick_eq (gr := gr) (r := r) (ce := ce) (t := t) (xs := nine.map sd) (by simp [nine]) (by simp [nine])
  obtain ⟨w, hw, rfl⟩ := List.mem_map.mp hx
  refine ⟨w, gr1, r1, t1, nine_ok w hw, ?_⟩
  have e2 : nine.map sd = [.str "a", .str "b", .str "x", .str "lay", .str "tick", .str "hand", .str "wait", .str "party", .str "zzzzzz"] := rfl
  rw [e2] at e1
  have z9 : 9 ≤ sizeLine := zz (by decide)
  unfold nmE
  have c5 : canSet [some (.drw gr1 r1 ce t1, .pn), some (.int n, .fz), some (.str abc, .fz), some (.lst (found.map sd), .ow), s4, s5, none, s7, none, none] 5 = true := h5.set
  generalize D_law_pick = DP at *
  generalize abc = AB at *
  generalize found.map sd = FD at *
  generalize sd w = W at *
  simp [ownFl, callMK, argsOk, D.isDrw, e1, fzAll, z9, setSlot, c5]
theorem join_ok {cs : List Nat} (h : cs.length ≤ 100) : dJoin (.str "") (.lst (cs.map fun c => D.str (sg c))) = some (.str (Txt.join "" (cs.map sg)), .fz) := by
  show joinL "" (cs.map fun c => D.str (sg c)) = _
  unfold joinL
  have e : ∀ cs : List Nat, strsOf (cs.map fun c => D.str (sg c)) = some (cs.map sg) := fun cs => by
    induction cs with
    | nil => rfl
    | cons c cs ih => simp [strsOf, ih]
  rw [e, Option.bind_some]
  have h2 : ((cs.map sg).map (·.length)).sum = cs.length := by
    have : ∀ cs : List Nat, ((cs.map sg).map (·.length)).sum = cs.length := fun cs => by
      induction cs with
      | nil => rfl
      | cons c cs ih => rw [List.map_cons, List.map_cons, List.sum_cons, ih]; show 1 + _ = _; simp only [List.length_cons]; omega
    exact this cs
  have h3 : ("" : Str).length = 0 := rfl
  rw [if_pos (by rw [h2, h3]; omega)]
theorem join_nm {cs : List Nat} (h1 : 1 ≤ cs.length) (h6 : cs.length ≤ 6) (h : ∀ c ∈ cs, c ∈ abc.cps.toList) : Nm (Txt.join "" (cs.map sg)) := by
  have e : (Txt.join "" (cs.map sg)).cps.toList = cs := by
    show (Builtin.Str.glued "" (cs.map sg)).cps.toList = _
    rw [StrLaws.glued_eq_join]
    exact join_sg cs
  exact ⟨by rw [len_cps, e]; exact h1, by rw [len_cps, e]; exact h6, fun c hc => abc_ok c (h c (by rw [e] at hc; exact hc))⟩
theorem nm2 {gr : List Int} {r t : Int} {w : Str} {s7 : Slot} (hw : Nm w) : ∃ w' gr' r' t', Nm w' ∧ sIf (xTst (xAp2 true dEq (xCallM D_law_take 0 (aC true (xC (.int 2)) aN)) (xC (.int 0))))
  (sSet .fz 5 (xM1 false dJoin (xC (.str "")) (xLcM [6] (iRng1D (aC true (xAp2 false dAdd (xC (.int 1)) (xCallM D_law_take 0 (aC true (xC (.int 6)) aN))) aN)) (gNm 6) bYes (xCallM D_law_pick 0 (aC true (xV 2) aN)))))
  sNil (nmE gr r ce t n found s4 (some (sd w, .fz)) s7) = .ok (.nx (nmE gr' r' ce t' n found s4 (some (sd w', .fz)) s7)) := by
  obtain ⟨v, gr1, r1, t1, e1, v1, v2⟩ := take_eq (gr := gr) (r := r) (ce := ce) (t := t) (n := 2) (by decide) (by decide)
  have ec : xTst (xAp2 true dEq (xCallM D_law_take 0 (aC true (xC (.int 2)) aN)) (xC (.int 0))) (nmE gr r ce t n found s4 (some (sd w, .fz)) s7) = .ok (decide (v = 0), nmE gr1 r1 ce t1 n found s4 (some (sd w, .fz)) s7) := by
    unfold nmE
    generalize D_law_take = DP at *
    generalize abc = AB at *
    generalize found.map sd = FD at *
    generalize sd w = W at *
    simp [ownFl, callMK, argsOk, D.isDrw, e1]
  by_cases hv : v = 0
  · obtain ⟨u, gr2, r2, t2, e2, u1, u2⟩ := take_eq (gr := gr1) (r := r1) (ce := ce) (t := t1) (n := 6) (by decide) (by decide)
    obtain ⟨m, rfl⟩ : ∃ m : Nat, u = m := ⟨u.toNat, by omega⟩
    obtain ⟨cs, gr3, r3, t3, h1, h2, h3⟩ := word_loop (ce := ce) (n := n) (found := found) (s4 := s4) (s5 := some (sd w, .fz)) (s7 := s7) (1 + m) ((List.range (1 + m)).map fun (k : Nat) => D.int k) gr2 r2 t2 (by simp)
    refine ⟨_, gr3, r3, t3, join_nm (by omega) (by omega) h2, ?_⟩
    refine sIf_ok ec (fun _ => ?_) (fun h => by simp [hv] at h)
    have ej := join_ok (cs := cs) (by omega)
    have rk : rngK1 [(.int ((1 + m : Nat) : Int), .fz)] (nmE gr2 r2 ce t2 n found s4 (some (sd w, .fz)) s7) = _ := rngK1_len (by omega)
    have ei : iRng1D (aC true (xAp2 false dAdd (xC (.int 1)) (xCallM D_law_take 0 (aC true (xC (.int 6)) aN))) aN) (nmE gr1 r1 ce t1 n found s4 (some (sd w, .fz)) s7) = .ok ((List.range (1 + m)).map fun (k : Nat) => D.int k, false, nmE gr2 r2 ce t2 n found s4 (some (sd w, .fz)) s7) := by
      refine iRng_1 (ρ1 := nmE gr2 r2 ce t2 n found s4 (some (sd w, .fz)) s7) (l := [(.int ((1 + m : Nat) : Int), .fz)]) ?_ rk
      have ep : (1 : Int) + (m : Int) = ((1 + m : Nat) : Int) := by omega
      rw [← ep]
      unfold nmE
      generalize D_law_take = DP at *
      generalize abc = AB at *
      generalize found.map sd = FD at *
      generalize sd w = W at *
      simp [ownFl, callMK, argsOk, D.isDrw, e2]
    have wp : wipable (nmE gr2 r2 ce t2 n found s4 (some (sd w, .fz)) s7) [6] = true := rfl
    have wr : wipeR (nmE gr2 r2 ce t2 n found s4 (some (sd w, .fz)) s7) [6] = nmE gr2 r2 ce t2 n found s4 (some (sd w, .fz)) s7 := rfl
    have zl : ((List.range (1 + m)).map fun (k : Nat) => D.int k).length ≤ sizeLine := by rw [List.length_map, List.length_range]; exact zz (by omega)
    have exl : xLcM [6] (iRng1D (aC true (xAp2 false dAdd (xC (.int 1)) (xCallM D_law_take 0 (aC true (xC (.int 6)) aN))) aN)) (gNm 6) bYes (xCallM D_law_pick 0 (aC true (xV 2) aN)) (nmE gr1 r1 ce t1 n found s4 (some (sd w, .fz)) s7) = .ok (.lst (cs.map fun c => .str (sg c)), .ow, nmE gr3 r3 ce t3 n found s4 (some (sd w, .fz)) s7) := by
      rw [ev_xLcM, ei]
      simp only [Res.bind_ok]
      rw [if_pos ⟨trivial, wp, zl⟩, wr, h3]
    refine sSet_ok (ρ1 := nmE gr3 r3 ce t3 n found s4 (some (sd w, .fz)) s7) (d := .str (Txt.join "" (cs.map sg))) (k := .fz) ?_ rfl
    show (xC (.str "") _).bind _ = _
    rw [ev_xC]
    simp only [Res.bind, D.isStr, if_true, exl, ej]
  · refine ⟨w, gr1, r1, t1, hw, sIf_ok ec (fun h => by simp [hv] at h) fun _ => rfl⟩
theorem nm3 {gr : List Int} {r t : Int} {w : Str} {s7 : Slot} (hw : Nm w) (h7 : Fs s7) : sSet .fz 7 (xAp2 true dAdd (xLst (aC true (xV 5) aN)) (xLc [8] (iTxt (xV 2)) (gNm 8) bYes (xAp2 true dAdd (xSl (xV 5) oN (oS (xC (.int 5)))) (xV 8)))) (nmE gr r ce t n found s4 (some (sd w, .fz)) s7) = .ok (.nx (nmE gr r ce t n found s4 (some (sd w, .fz)) (some (.lst ((nearL w).map sd), .fz)))) := by
  have lc := near_lc (ρ := nmE gr r ce t n found s4 (some (sd w, .fz)) s7) (w := w) hw.l6 rfl (by simp [nmE])
  have it : iTxt (xV 2) (nmE gr r ce t n found s4 (some (sd w, .fz)) s7) = .ok (signs abc, false, nmE gr r ce t n found s4 (some (sd w, .fz)) s7) := rfl
  have zs : (signs abc).length ≤ sizeLine := by unfold signs; rw [List.length_map, ← len_cps, abc_len]; exact zz (by decide)
  have ex := xLc_ok (vs := [8]) (e := xAp2 true dAdd (xSl (xV 5) oN (oS (xC (.int 5)))) (xV 8)) it rfl zs lc
  have e1 : xLst (aC true (xV 5) aN) (nmE gr r ce t n found s4 (some (sd w, .fz)) s7) = .ok (.lst [sd w], .ow, nmE gr r ce t n found s4 (some (sd w, .fz)) s7) := by
    have z1 : 1 ≤ sizeLine := zz (by decide)
    unfold nmE
    generalize hW : sd w = W
    have fw : W.fzOk = true := by rw [← hW]; rfl
    generalize found.map sd = FD at *
    simp [fzAll, z1, fw]
  have ea : dAdd (.lst [sd w]) (.lst ((abc.cps.toList.map (near5 w)).map sd)) = some (.lst ((nearL w).map sd), .ow) := by
    have hl : [sd w].length + ((abc.cps.toList.map (near5 w)).map sd).length ≤ sizeLine := by
      rw [List.length_map, List.length_map, ← len_cps, abc_len]; exact zz (by simp)
    show (if [sd w].length + ((abc.cps.toList.map (near5 w)).map sd).length ≤ sizeLine then some (D.lst ([sd w] ++ (abc.cps.toList.map (near5 w)).map sd), Kd.ow) else none) = _
    rw [if_pos hl]; rfl
  have c7 : canSet (nmE gr r ce t n found s4 (some (sd w, .fz)) s7) 7 = true := h7.set
  refine sSet_ok (ρ1 := nmE gr r ce t n found s4 (some (sd w, .fz)) s7) (d := .lst ((nearL w).map sd)) (k := .ow) ?_ ?_
  · rw [ev_xAp2, e1]
    simp only [Res.bind_ok, Bool.true_eq_false, and_false, if_false, ex, ea, Res.pure_ok]
  · unfold setSlot
    rw [if_pos c7]
    rfl
theorem nm4 {gr : List Int} {r t : Int} {w : Str} {s5 : Slot} (hw : Nm w) (hf : ∀ x ∈ found, Nm x) (hl : found.length ≤ 20) : ∃ x, Nm x ∧ x ∉ found ∧ sEx (xMut D.isLst 3 mAppend (aC true (xAp2 true dIdx (xLc [9] (iSeq (xV 7)) (gNm 9) (xTst (xAp2 true dNotIn (xV 9) (xV 3))) (xV 9)) (xC (.int 0))) aN)) (nmE gr r ce t n found s4 s5 (some (.lst ((nearL w).map sd), .fz))) = .ok (.nx (nmE gr r ce t n (found ++ [x]) s4 s5 (some (.lst ((nearL w).map sd), .fz)))) := by
  obtain ⟨x, l, e⟩ := near_new (w := w) hl
  have hx : x ∈ (nearL w).filter (fun y => !decide (y ∈ found)) := by rw [e]; exact List.mem_cons_self
  obtain ⟨hx1, hx2⟩ := List.mem_filter.mp hx
  refine ⟨x, near_ok hw x hx1, by simpa using hx2, ?_⟩
  have lc := new_lc (ρ := nmE gr r ce t n found s4 s5 (some (.lst ((nearL w).map sd), .fz))) (ns := nearL w) (near_ok hw) hf rfl (by simp [nmE])
  rw [e] at lc
  have it : iSeq (xV 7) (nmE gr r ce t n found s4 s5 (some (.lst ((nearL w).map sd), .fz))) = .ok ((nearL w).map sd, false, nmE gr r ce t n found s4 s5 (some (.lst ((nearL w).map sd), .fz))) := rfl
  have zs : ((nearL w).map sd).length ≤ sizeLine := by unfold nearL; rw [List.length_map, List.length_cons, List.length_map, ← len_cps, abc_len]; exact zz (by decide)
  have ex := xLc_ok (vs := [9]) (e := xV 9) it rfl zs lc
  have e1 : aC true (xAp2 true dIdx (xLc [9] (iSeq (xV 7)) (gNm 9) (xTst (xAp2 true dNotIn (xV 9) (xV 3))) (xV 9)) (xC (.int 0))) aN (nmE gr r ce t n found s4 s5 (some (.lst ((nearL w).map sd), .fz))) = .ok ([(sd x, .fz)], nmE gr r ce t n found s4 s5 (some (.lst ((nearL w).map sd), .fz))) := by
    rw [ev_aC, ev_xAp2, ex]
    simp
  have hz : (found.map sd).length < sizeLine := by rw [List.length_map, sizeLine_eq]; omega
  refine sEx_ok (d := .non) (k := .fz) ?_
  rw [ev_xMut]
  show (if ownFl .ow = true ∧ (D.lst (found.map sd)).isLst = true then _ else _) = _
  rw [if_pos ⟨rfl, rfl⟩, e1]
  simp only [Res.bind_ok]
  unfold nmE
  rw [show (found ++ [x]).map sd = found.map sd ++ [sd x] by simp]
  generalize hF : found.map sd = FD at *
  generalize abc = AB at *
  generalize (nearL w).map sd = NL at *
  generalize hX : sd x = SX at *
  have fx : SX.fzOk = true := by rw [← hX]; rfl
  simp [mutK, fzAll, fx, hz, ownFl, D.isLst]
theorem nm_body {gr : List Int} {r t : Int} {s5 s7 : Slot} (h5 : Fs s5) (h7 : Fs s7) (hf : ∀ x ∈ found, Nm x) (hl : found.length ≤ 20) : ∃ x gr' r' t' s5' s7', Nm x ∧ x ∉ found ∧ Fs s5' ∧ Fs s7' ∧ mb_law_names_1 (nmE gr r ce t n found s4 s5 s7) = .ok (.nx (nmE gr' r' ce t' n (found ++ [x]) s4 s5' s7')) := by
  obtain ⟨w1, gr1, r1, t1, hw1, e1⟩ := nm1 (ce := ce) (n := n) (found := found) (s4 := s4) (gr := gr) (r := r) (t := t) (s7 := s7) h5
  obtain ⟨w2, gr2, r2, t2, hw2, e2⟩ := nm2 (ce := ce) (n := n) (found := found) (s4 := s4) (gr := gr1) (r := r1) (t := t1) (s7 := s7) hw1
  have e3 := nm3 (ce := ce) (n := n) (found := found) (s4 := s4) (gr := gr2) (r := r2) (t := t2) hw2 h7
  obtain ⟨x, hx1, hx2, e4⟩ := nm4 (ce := ce) (n := n) (s4 := s4) (gr := gr2) (r := r2) (t := t2) (s5 := some (sd w2, .fz)) hw2 hf hl
  refine ⟨x, gr2, r2, t2, some (sd w2, .fz), some (.lst ((nearL w2).map sd), .fz), hx1, hx2, .some _, .some _, ?_⟩
  unfold mb_law_names_1
  rw [sSeq_nx e1, sSeq_nx e2, sSeq_nx e3]
  exact e4
end
theorem names_eq {gr : List Int} {r : Int} {ce : List Int} {t : Int} {m : Nat} (hm : m ≤ 20) : ∃ (ns : List Str) (gr' : List Int) (r' t' : Int), D_law_names [some (.drw gr r ce t, .pn), some (.int m, .fz)] = .ok (.lst (ns.map sd), .ow, .drw gr' r' ce t') ∧ ns.length = m ∧ ns.Nodup ∧ ∀ x ∈ ns, Nm x := by
  have a1 : sPar2 .fz .ow 2 3 (xC (.str "abcdefghijklmnopqrstuvwxyz")) (xLst aN) (bodyEnv 10 [some (.drw gr r ce t, .pn), some (.int m, .fz)]) = .ok (.nx (nmE gr r ce t m [] none none none)) := by
    have z0 : 0 ≤ sizeLine := Nat.zero_le _
    simp [bodyEnv, fzAll, setSlot, canSet, nmE, abc]
  have rk : rngK1 [(.int m, .fz)] (nmE gr r ce t m [] none none none) = _ := rngK1_len (by omega)
  have ef : aC true (xV 1) aN (nmE gr r ce t m [] none none none) = .ok ([(.int m, .fz)], nmE gr r ce t m [] none none none) := rfl
  have loop : ∃ (ns : List Str) (gr' : List Int) (r' t' : Int) (s4 s5 s7 : Slot), forL (gNm 4) mb_law_names_1 ((List.range m).map fun (k : Nat) => D.int k) (nmE gr r ce t m [] none none none) = .ok (.nx (nmE gr' r' ce t' m ns s4 s5 s7)) ∧ ns.length = m ∧ ns.Nodup ∧ ∀ x ∈ ns, Nm x := by
    refine forL_map (fun (k : Nat) => D.int k) (fun xs ρ => ∃ (ns : List Str) (gr' : List Int) (r' t' : Int) (s4 s5 s7 : Slot), ρ = nmE gr' r' ce t' m ns s4 s5 s7 ∧ Fs s4 ∧ Fs s5 ∧ Fs s7 ∧ ns.length + xs.length = m ∧ ns.Nodup ∧ ∀ x ∈ ns, Nm x) (fun q => ∃ (ns : List Str) (gr' : List Int) (r' t' : Int) (s4 s5 s7 : Slot), q = .ok (.nx (nmE gr' r' ce t' m ns s4 s5 s7)) ∧ ns.length = m ∧ ns.Nodup ∧ ∀ x ∈ ns, Nm x) (fun k ys ρ hI => ?_) (fun ρ hI => ?_) (List.range m) _ ⟨[], gr, r, t, none, none, none, rfl, .none, .none, .none, by simp, List.nodup_nil, by simp⟩
    · obtain ⟨ns, gr1, r1, t1, s4, s5, s7, rfl, h4, h5, h7, hl, hn, hv⟩ := hI
      simp only [List.length_cons] at hl
      obtain ⟨x, gr2, r2, t2, s5', s7', hx1, hx2, h5', h7', e⟩ := nm_body (ce := ce) (n := (m : Int)) (s4 := some (.int k, .fz)) (gr := gr1) (r := r1) (t := t1) h5 h7 hv (by omega)
      refine ⟨nmE gr1 r1 ce t1 m ns (some (.int k, .fz)) s5 s7, ?_, .inl ⟨_, .inl e, ns ++ [x], gr2, r2, t2, _, _, _, rfl, .some _, h5', h7', by simp; omega, ?_, ?_⟩⟩
      · have c4 : canSet (nmE gr1 r1 ce t1 m ns s4 s5 s7) 4 = true := h4.set
        show setSlot .fz 4 _ .fz _ = _
        unfold setSlot; rw [if_pos c4]; rfl
      · rw [List.nodup_append]
        exact ⟨hn, by simp, fun a ha b hb => by have : b = x := by simpa using hb
                                                rw [this]; exact fun e => hx2 (e ▸ ha)⟩
      · intro y hy
        rcases List.mem_append.mp hy with hy | hy
        · exact hv y hy
        · have : y = x := by simpa using hy
          rw [this]; exact hx1
    · obtain ⟨ns, gr1, r1, t1, s4, s5, s7, rfl, h4, h5, h7, hl, hn, hv⟩ := hI
      exact ⟨ns, gr1, r1, t1, s4, s5, s7, rfl, by simpa using hl, hn, hv⟩
  obtain ⟨ns, gr', r', t', s4, s5, s7, e, hl, hn, hv⟩ := loop
  refine ⟨ns, gr', r', t', ?_, hl, hn, hv⟩
  have e2 : m_law_names (bodyEnv 10 [some (.drw gr r ce t, .pn), some (.int m, .fz)]) = .ok (.rt (.lst (ns.map sd)) .ow (nmE gr' r' ce t' m ns s4 s5 s7)) := by
    unfold m_law_names
    rw [sSeq_nx a1, sSeq_nx ((sFor_1 ef rk).trans e)]
    rfl
  unfold D_law_names
  rw [ev_dB, e2]
  rfl
end VL
/-! VW7: drawn order; all pairs. -/
namespace VL
open PySem PySem.Spec PyProof.Rows L2 PySem.W
theorem whileL_ok {c : BE} {body : SE} (I : Nat → VL.Env → Prop) (R : VL.Env → Prop) (h : ∀ k ρ, I k ρ → (∃ ρ1, c ρ = .ok (false, ρ1) ∧ R ρ1) ∨ (∃ ρ1 ρ2 k', c ρ = .ok (true, ρ1) ∧ body ρ1 = .ok (.nx ρ2) ∧ k' < k ∧ I k' ρ2)) :
    ∀ (n k : Nat) (ρ : VL.Env), k < n → I k ρ → ∃ ρ', whileL c body n ρ = .ok (.nx ρ') ∧ R ρ'
  | 0, k, ρ, hk, _ => absurd hk (Nat.not_lt_zero k)
  | n + 1, k, ρ, hk, hI => by
    rcases h k ρ hI with ⟨ρ1, e, hR⟩ | ⟨ρ1, ρ2, k', e1, e2, hk', hI'⟩
    · exact ⟨ρ1, by simp only [whileL, e, Res.bind_ok, Bool.false_eq_true, if_false], hR⟩
    · obtain ⟨ρ', e3, hR⟩ := whileL_ok I R h n k' ρ2 (by omega) hI'
      exact ⟨ρ', by simp only [whileL, e1, Res.bind_ok, if_true, e2, e3], hR⟩
theorem map_erase {α β : Type} (f : α → β) (l : List α) (j : Nat) : (l.map f).eraseIdx j = (l.eraseIdx j).map f := by
  rw [List.eraseIdx_eq_take_drop_succ, List.eraseIdx_eq_take_drop_succ, List.map_append, List.map_take, List.map_drop]
theorem erase_perm {α : Type} {l : List α} {j : Nat} (hj : j < l.length) : (l[j] :: l.eraseIdx j).Perm l := by
  have e : l = l.take j ++ l[j] :: l.drop (j + 1) := by rw [← List.drop_eq_getElem_cons hj, List.take_append_drop]
  rw [List.eraseIdx_eq_take_drop_succ]
  refine List.Perm.trans (List.perm_middle (a := l[j]) (l₁ := l.take j) (l₂ := l.drop (j + 1))).symm ?_
  rw [← e]
section
variable {α : Type} {f : α → D} {g : α → PyData} {P : α → Prop}
def mxE (gr : List Int) (r : Int) (ce : List Int) (t : Int) (L : Slot) (f : α → D) (left found : List α) : VL.Env := [some (.drw gr r ce t, .pn), L, some (.lst (left.map f), .ow), some (.lst (found.map f), .ow)]
theorem mx_body {gr : List Int} {r : Int} {ce : List Int} {t : Int} {L : Slot} {left found : List α} (hf : ∀ a, (f a).fzOk = true) (h0 : left ≠ []) (h1 : left.length < 50000) (h2 : found.length < 50000) : ∃ (gr' : List Int) (r' t' : Int) (j : Nat) (hj : j < left.length), mb_law_mixed_1 (mxE gr r ce t L f left found) = .ok (.nx (mxE gr' r' ce t' L f (left.eraseIdx j) (found ++ [left[j]]))) := by
  have hl : 0 < left.length := List.length_pos_iff.mpr h0
  obtain ⟨v, gr', r', t', e, v1, v2⟩ := take_eq (gr := gr) (r := r) (ce := ce) (t := t) (n := left.length) (by omega) (by omega)
  obtain ⟨j, rfl⟩ : ∃ j : Nat, v = j := ⟨v.toNat, by omega⟩
  have hj : j < left.length := by omega
  refine ⟨gr', r', t', j, hj, ?_⟩
  have z1 : left.length ≤ sizeLine := zz (by omega)
  have z2 : found.length < sizeLine := by rw [sizeLine_eq]; omega
  have hg : (left.map f)[j]? = some (f left[j]) := by rw [List.getElem?_map, List.getElem?_eq_getElem hj]; rfl
  have hp : mPopAt (.lst (left.map f)) [.int j] = some (.lst ((left.eraseIdx j).map f), f left[j]) := by
    show (if 0 ≤ (j : Int) ∧ (j : Int) < (left.map f).length ∧ (left.map f).length ≤ sizeLine then ((left.map f)[(j : Int).toNat]?).map fun d => (D.lst ((left.map f).eraseIdx (j : Int).toNat), d) else none) = _
    rw [if_pos ⟨by omega, by rw [List.length_map]; omega, by rw [List.length_map]; exact z1⟩, Int.toNat_natCast, hg, Option.map_some, map_erase]
  have ha : mAppend (.lst (found.map f)) [f left[j]] = some (.lst ((found ++ [left[j]]).map f), .non) := by
    show (if (found.map f).length < sizeLine then some (D.lst (found.map f ++ [f left[j]]), D.non) else none) = _
    rw [if_pos (by rw [List.length_map]; exact z2)]; simp
  have hl2 : dLen (.lst (left.map f)) = some (.int left.length, .fz) := by rw [ev_len_l, List.length_map]
  have fz := hf left[j]
  unfold mxE mb_law_mixed_1
  generalize D_law_take = DP at *
  generalize left.map f = A at *
  generalize found.map f = B at *
  generalize (left.eraseIdx j).map f = A' at *
  generalize (found ++ [left[j]]).map f = B' at *
  generalize f left[j] = X at *
  generalize ((left.length : Nat) : Int) = LN at *
  clear hg h0 h1 h2 hl z1 z2 hj v1 v2
  generalize hmp : mPopAt = MP at *
  generalize hma : mAppend = MA at *
  generalize hdl : dLen = DL at *
  simp [ownFl, D.isLst, mutK, fzAll, fz, callMK, argsOk, D.isDrw, e, hl2, hp, ha]
theorem mixed_eq (E : Enc f g P) (hf : ∀ a, (f a).fzOk = true) {gr : List Int} {r : Int} {ce : List Int} {t : Int} {l : List α} (hP : ∀ a ∈ l, P a) (hl : l.length < 50000) : ∃ (l' : List α) (gr' : List Int) (r' t' : Int), D_law_mixed [some (.drw gr r ce t, .pn), some (.lst (l.map f), .fz)] = .ok (.lst (l'.map f), .ow, .drw gr' r' ce t') ∧ l'.Perm l := by
  have a1 : sPar2 .ow .ow 2 3 (xApp (f1 dList) (aC true (xV 1) aN)) (xLst aN) (bodyEnv 4 [some (.drw gr r ce t, .pn), some (.lst (l.map f), .fz)]) = .ok (.nx (mxE gr r ce t (some (.lst (l.map f), .fz)) f l [])) := by
    unfold mxE
    rw [List.map_nil]
    generalize l.map f = A at *
    simp [bodyEnv, fzAll, setSlot, canSet]
  have cnd : ∀ (gr : List Int) (r t : Int) (left found : List α), (∀ a ∈ left, P a) → xTst (xAp2 true dNe (xV 2) (xLst aN)) (mxE gr r ce t (some (.lst (l.map f), .fz)) f left found) = .ok (!left.isEmpty, mxE gr r ce t (some (.lst (l.map f), .fz)) f left found) := fun gr r t left found h => by
    have e := E.nn h
    unfold mxE
    generalize left.map f = A at *
    generalize l.map f = A2 at *
    generalize found.map f = B at *
    simp [fzAll, e]
  obtain ⟨ρ', e, hR⟩ := whileL_ok (c := xTst (xAp2 true dNe (xV 2) (xLst aN))) (body := mb_law_mixed_1) (fun k ρ => ∃ (gr' : List Int) (r' t' : Int) (left found : List α), ρ = mxE gr' r' ce t' (some (.lst (l.map f), .fz)) f left found ∧ left.length = k ∧ (found ++ left).Perm l) (fun ρ => ∃ (l' : List α) (gr' : List Int) (r' t' : Int), ρ = mxE gr' r' ce t' (some (.lst (l.map f), .fz)) f [] l' ∧ l'.Perm l) (fun k ρ hI => by
    obtain ⟨gr1, r1, t1, left, found, rfl, hk, hp⟩ := hI
    have hlen := hp.length_eq
    rw [List.length_append] at hlen
    have hPl : ∀ a ∈ left, P a := fun a ha => hP a (hp.mem_iff.mp (List.mem_append_right _ ha))
    have ec := cnd gr1 r1 t1 left found hPl
    cases left with
    | nil => exact .inl ⟨_, ec, found, gr1, r1, t1, rfl, by simpa using hp⟩
    | cons a left =>
      obtain ⟨gr2, r2, t2, j, hj, e⟩ := mx_body (f := f) (gr := gr1) (r := r1) (ce := ce) (t := t1) (L := some (.lst (l.map f), .fz)) (left := a :: left) (found := found) hf (by simp) (by omega) (by omega)
      refine .inr ⟨_, _, k - 1, ec, e, by simp at hk; omega, gr2, r2, t2, _, _, rfl, by rw [List.length_eraseIdx_of_lt hj]; omega, ?_⟩
      refine List.Perm.trans ?_ hp
      rw [List.append_assoc]
      refine List.Perm.append_left _ ?_
      exact erase_perm hj) 100000 l.length _ (by omega) ⟨gr, r, t, l, [], rfl, rfl, by simp⟩
  obtain ⟨l', gr', r', t', rfl, hp⟩ := hR
  refine ⟨l', gr', r', t', ?_, hp⟩
  have e2 : m_law_mixed (bodyEnv 4 [some (.drw gr r ce t, .pn), some (.lst (l.map f), .fz)]) = .ok (.rt (.lst (l'.map f)) .ow (mxE gr' r' ce t' (some (.lst (l.map f), .fz)) f [] l')) := by
    unfold m_law_mixed
    rw [sSeq_nx a1, sSeq_nx (show sWhile 100000 _ _ _ = _ from e)]
    rfl
  unfold D_law_mixed
  rw [ev_dB, e2]
  rfl
end
end VL
/-! VW8: all pairs; ties as lists. -/
namespace VL
open PySem PySem.Spec PyProof.Rows L2 PySem.W
def prsL (dots : List Str) : List (Str × Str) := dots.flatMap fun a => (dots.filter fun b => !decide (b = a)).map fun b => (a, b)
theorem pairs_body {dots : List Str} {A : List (Str × Str)} {a : Str} (hl : dots.length ≤ 1000) (hA : A.length ≤ 500000) : mb_law_pairs_1 [some (.lst (dots.map sd), .fz), some (.lst (A.map pd), .fz), some (sd a, .fz), none] = .ok (.nx [some (.lst (dots.map sd), .fz), some (.lst ((A ++ (dots.filter fun b => !decide (b = a)).map fun b => (a, b)).map pd), .fz), some (sd a, .fz), none]) := by
  have lc := lcS_map (g := gNm 3) (t := xTst (xAp2 true dNe (xV 3) (xV 2))) (e := xTup (aC true (xV 2) (aC true (xV 3) aN))) (ρ := [some (.lst (dots.map sd), .fz), some (.lst (A.map pd), .fz), some (sd a, .fz), none]) sd (fun b => !decide (b = a)) (fun b => pd (a, b)) dots (fun b hb => by
    have z2 : 2 ≤ sizeLine := zz (by decide)
    have en := ne_sd b a
    have e2 : pd (a, b) = .tup [sd a, sd b] := rfl
    refine ⟨[some (.lst (dots.map sd), .fz), some (.lst (A.map pd), .fz), some (sd a, .fz), some (sd b, .fz)], rfl, [some (.lst (dots.map sd), .fz), some (.lst (A.map pd), .fz), some (sd a, .fz), some (sd b, .fz)], ?_, fun _ => ⟨.fz, [some (.lst (dots.map sd), .fz), some (.lst (A.map pd), .fz), some (sd a, .fz), some (sd b, .fz)], ?_, by simp, rfl⟩⟩
    · generalize dots.map sd = X at *
      generalize A.map pd = Y at *
      generalize sd a = U at *
      generalize sd b = W at *
      simp [en]
    · rw [e2]
      have fa := fz_sd a
      have fb := fz_sd b
      generalize dots.map sd = X at *
      generalize A.map pd = Y at *
      generalize sd a = U at *
      generalize sd b = W at *
      simp [fzAll, z2, fa, fb])
  have it : iSeq (xV 0) [some (.lst (dots.map sd), .fz), some (.lst (A.map pd), .fz), some (sd a, .fz), none] = .ok (dots.map sd, false, [some (.lst (dots.map sd), .fz), some (.lst (A.map pd), .fz), some (sd a, .fz), none]) := rfl
  have ex := xLc_ok (vs := [3]) (e := xTup (aC true (xV 2) (aC true (xV 3) aN))) it rfl (by rw [List.length_map]; exact zz (by omega)) lc
  have hm : ((dots.filter fun b => !decide (b = a)).map fun b => (a, b)).map pd = (dots.filter fun b => !decide (b = a)).map fun b => pd (a, b) := by rw [List.map_map]; rfl
  have ea : dAdd (.lst (A.map pd)) (.lst ((dots.filter fun b => !decide (b = a)).map fun b => pd (a, b))) = some (.lst ((A ++ (dots.filter fun b => !decide (b = a)).map fun b => (a, b)).map pd), .ow) := by
    have h1 : (dots.filter fun b => !decide (b = a)).length ≤ dots.length := List.length_filter_le _ _
    show (if (A.map pd).length + ((dots.filter fun b => !decide (b = a)).map fun b => pd (a, b)).length ≤ sizeLine then some (D.lst (A.map pd ++ (dots.filter fun b => !decide (b = a)).map fun b => pd (a, b)), Kd.ow) else none) = _
    rw [if_pos (zz (by rw [List.length_map, List.length_map]; omega)), List.map_append, hm]
  unfold mb_law_pairs_1
  refine sSet_ok (ρ1 := [some (.lst (dots.map sd), .fz), some (.lst (A.map pd), .fz), some (sd a, .fz), none]) (d := .lst ((A ++ (dots.filter fun b => !decide (b = a)).map fun b => (a, b)).map pd)) (k := .ow) ?_ rfl
  have v1 : xV 1 [some (.lst (dots.map sd), .fz), some (.lst (A.map pd), .fz), some (sd a, .fz), none] = .ok (.lst (A.map pd), .fz, [some (.lst (dots.map sd), .fz), some (.lst (A.map pd), .fz), some (sd a, .fz), none]) := rfl
  rw [ev_xAp2]
  simp only [v1, Res.bind_ok, ev_rbind_ok, Bool.true_eq_false, and_false, if_false, ex, Res.bind_ok, ea, Res.pure_ok]
theorem pairs_eq {dots : List Str} (hl : dots.length ≤ 100) : D_law_pairs [some (.lst (dots.map sd), .fz)] = .ok (.lst ((prsL dots).map pd), .fz) := by
  have loop : ∀ (xs : List Str) (A : List (Str × Str)) (s2 : Slot), Fs s2 → A.length + xs.length * 100 ≤ 10000 → ∃ s2', forL (gNm 2) mb_law_pairs_1 (xs.map sd) [some (.lst (dots.map sd), .fz), some (.lst (A.map pd), .fz), s2, none] = .ok (.nx [some (.lst (dots.map sd), .fz), some (.lst ((A ++ xs.flatMap fun a => (dots.filter fun b => !decide (b = a)).map fun b => (a, b)).map pd), .fz), s2', none]) := fun xs => by
    induction xs with
    | nil => intro A s2 _ _; exact ⟨s2, by simp [forL]⟩
    | cons a xs ih =>
      intro A s2 h2 hA
      simp only [List.length_cons] at hA
      have cs : canSet [some (.lst (dots.map sd), .fz), some (.lst (A.map pd), .fz), s2, none] 2 = true := h2.set
      have e1 : gNm 2 (sd a) [some (.lst (dots.map sd), .fz), some (.lst (A.map pd), .fz), s2, none] = .ok [some (.lst (dots.map sd), .fz), some (.lst (A.map pd), .fz), some (sd a, .fz), none] := by
        show setSlot .fz 2 _ .fz _ = _
        unfold setSlot; rw [if_pos cs]; rfl
      have e2 := pairs_body (dots := dots) (A := A) (a := a) (by omega) (by omega)
      have h1 : (dots.filter fun b => !decide (b = a)).length ≤ dots.length := List.length_filter_le _ _
      obtain ⟨s2', e3⟩ := ih (A ++ (dots.filter fun b => !decide (b = a)).map fun b => (a, b)) (some (sd a, .fz)) (.some _) (by rw [List.length_append, List.length_map]; omega)
      refine ⟨s2', ?_⟩
      rw [List.map_cons]
      simp only [forL, e1, Res.bind_ok, e2]
      rw [e3, List.flatMap_cons, List.append_assoc]
  obtain ⟨s2', e⟩ := loop dots [] none .none (by simp; omega)
  have a1 : sSet .fz 1 (xLst aN) (bodyEnv 4 [some (.lst (dots.map sd), .fz)]) = .ok (.nx [some (.lst (dots.map sd), .fz), some (.lst (([] : List (Str × Str)).map pd), .fz), none, none]) := by
    generalize dots.map sd = X at *
    simp [bodyEnv, fzAll, setSlot, canSet]
  have a2 : sFor (iSeq (xV 0)) (gNm 2) mb_law_pairs_1 [some (.lst (dots.map sd), .fz), some (.lst (([] : List (Str × Str)).map pd), .fz), none, none] = _ := e
  unfold D_law_pairs
  refine dA_rt (ρ1 := [some (.lst (dots.map sd), .fz), some (.lst ((prsL dots).map pd), .fz), s2', none]) ?_ (by simp)
  unfold m_law_pairs
  rw [sSeq_nx a1, sSeq_nx a2]
  rfl
/-! ties -/
structure TOk (dots : List Str) (ties : List (Str × Str)) : Prop where
  nd : ties.Nodup
  ok : ∀ p ∈ ties, p.1 ∈ dots ∧ p.2 ∈ dots ∧ p.1 ≠ p.2
theorem TOk.nil (dots) : TOk dots [] := ⟨List.nodup_nil, by simp⟩
theorem TOk.sub {dots : List Str} {l m : List (Str × Str)} (h : TOk dots m) (s : l.Sublist m) : TOk dots l := ⟨h.nd.sublist s, fun p hp => h.ok p (s.subset hp)⟩
theorem TOk.app {dots : List Str} {l m : List (Str × Str)} (h1 : TOk dots l) (h2 : TOk dots m) (h : ∀ p ∈ m, p ∉ l) : TOk dots (l ++ m) := ⟨List.nodup_append.mpr ⟨h1.nd, h2.nd, fun a ha b hb e => h b hb (e ▸ ha)⟩, fun p hp => (List.mem_append.mp hp).elim (h1.ok p) (h2.ok p)⟩
theorem TOk.perm {dots dots' : List Str} {l m : List (Str × Str)} (h : TOk dots l) (s : m.Perm l) (sd : dots'.Perm dots) : TOk dots' m := ⟨s.nodup_iff.mpr h.nd, fun p hp => by
  obtain ⟨h1, h2, h3⟩ := h.ok p (s.mem_iff.mp hp)
  exact ⟨sd.mem_iff.mpr h1, sd.mem_iff.mpr h2, h3⟩⟩
theorem mem_prs {dots : List Str} {p : Str × Str} : p ∈ prsL dots ↔ p.1 ∈ dots ∧ p.2 ∈ dots ∧ p.1 ≠ p.2 := by
  unfold prsL
  simp only [List.mem_flatMap, List.mem_map, List.mem_filter, Bool.not_eq_true', decide_eq_false_iff_not]
  constructor
  · rintro ⟨a, ha, b, ⟨hb, hne⟩, rfl⟩
    exact ⟨ha, hb, fun e => hne e.symm⟩
  · rintro ⟨h1, h2, h3⟩
    exact ⟨p.1, h1, p.2, ⟨h2, fun e => h3 e.symm⟩, rfl⟩
theorem prs_ok {dots : List Str} (h : dots.Nodup) : TOk dots (prsL dots) := by
  refine ⟨?_, fun p hp => mem_prs.mp hp⟩
  unfold prsL
  have : ∀ xs : List Str, xs.Nodup → (xs.flatMap fun a => (dots.filter fun b => !decide (b = a)).map fun b => (a, b)).Nodup := fun xs => by
    induction xs with
    | nil => intro _; exact List.nodup_nil
    | cons a xs ih =>
      intro hn
      rw [List.flatMap_cons, List.nodup_append]
      refine ⟨List.Pairwise.map _ (fun x y hxy e => hxy (Prod.mk.inj e).2) (h.sublist List.filter_sublist), ih (List.nodup_cons.mp hn).2, fun p hp q hq e => ?_⟩
      obtain ⟨b, _, rfl⟩ := List.mem_map.mp hp
      obtain ⟨c, hc, hq⟩ := List.mem_flatMap.mp hq
      obtain ⟨d, _, rfl⟩ := List.mem_map.mp hq
      have : a = c := (Prod.mk.inj e).1
      exact (List.nodup_cons.mp hn).1 (this ▸ hc)
  exact this dots h
theorem prs_len {dots : List Str} (h : dots.length ≤ 100) : (prsL dots).length ≤ 10000 := by
  have : ∀ xs : List Str, (xs.flatMap fun a => (dots.filter fun b => !decide (b = a)).map fun b => (a, b)).length ≤ xs.length * 100 := fun xs => by
    induction xs with
    | nil => simp
    | cons a xs ih =>
      have h1 : (dots.filter fun b => !decide (b = a)).length ≤ dots.length := List.length_filter_le _ _
      rw [List.flatMap_cons, List.length_append, List.length_map, List.length_cons]
      omega
  have := this dots
  unfold prsL
  omega
/-- (row[k - 1], row[k]) -/
def chn (row : List Str) : List (Str × Str) := (List.range (row.length - 1)).map fun k => (row.getD k "", row.getD (k + 1) "")
theorem getD_el {row : List Str} {i : Nat} (hi : i < row.length) : row.getD i "" = row[i] := by simp [List.getD, hi]
theorem getD_inj {row : List Str} (h : row.Nodup) {i j : Nat} (hi : i < row.length) (hj : j < row.length) (e : row.getD i "" = row.getD j "") : i = j := by
  rw [getD_el hi, getD_el hj] at e
  exact (List.getElem_inj h).mp e
theorem getD_mem {row : List Str} {i : Nat} (hi : i < row.length) : row.getD i "" ∈ row := by
  rw [getD_el hi]; exact List.getElem_mem hi
theorem chn_ok {row : List Str} (h : row.Nodup) : TOk row (chn row) := by
  refine ⟨?_, fun p hp => ?_⟩
  · unfold chn
    refine (List.pairwise_map).mpr (List.Pairwise.imp_of_mem (fun {a b} ha hb hab e => ?_) (List.pairwise_lt_range (n := row.length - 1)))
    rw [List.mem_range] at ha hb
    have := getD_inj h (by omega) (by omega) (Prod.mk.inj e).1
    omega
  · obtain ⟨k, hk, rfl⟩ := List.mem_map.mp hp
    rw [List.mem_range] at hk
    exact ⟨getD_mem (by omega), getD_mem (by omega), fun e => by have := getD_inj h (by omega) (by omega) e; omega⟩
theorem cyc_ok {row : List Str} (h : row.Nodup) (h2 : 2 ≤ row.length) : TOk row (chn row ++ [(row.getD (row.length - 1) "", row.getD 0 "")]) := by
  refine (chn_ok h).app ⟨by simp, fun p hp => ?_⟩ fun p hp => ?_
  · have : p = (row.getD (row.length - 1) "", row.getD 0 "") := by simpa using hp
    rw [this]
    exact ⟨getD_mem (by omega), getD_mem (by omega), fun e => by have := getD_inj h (by omega) (by omega) e; omega⟩
  · have : p = (row.getD (row.length - 1) "", row.getD 0 "") := by simpa using hp
    rw [this]
    intro hm
    obtain ⟨k, hk, e⟩ := List.mem_map.mp hm
    rw [List.mem_range] at hk
    have := getD_inj h (by omega) (by omega) (Prod.mk.inj e).1
    omega
def star (a : Str) (r : List Str) : List (Str × Str) := r.map (fun b => (a, b)) ++ r.map fun b => (b, a)
theorem star_ok {a : Str} {r : List Str} (h : (a :: r).Nodup) : TOk (a :: r) (star a r) := by
  have h1 : ∀ b ∈ r, b ≠ a := fun b hb e => (List.nodup_cons.mp h).1 (e ▸ hb)
  have hr := (List.nodup_cons.mp h).2
  refine TOk.app ⟨List.Pairwise.map _ (fun x y hxy e => hxy (Prod.mk.inj e).2) hr, fun p hp => ?_⟩ ⟨List.Pairwise.map _ (fun x y hxy e => hxy (Prod.mk.inj e).1) hr, fun p hp => ?_⟩ fun p hp hq => ?_
  · obtain ⟨b, hb, rfl⟩ := List.mem_map.mp hp
    exact ⟨List.mem_cons_self, List.mem_cons_of_mem _ hb, (h1 b hb).symm⟩
  · obtain ⟨b, hb, rfl⟩ := List.mem_map.mp hp
    exact ⟨List.mem_cons_of_mem _ hb, List.mem_cons_self, h1 b hb⟩
  · obtain ⟨b, hb, rfl⟩ := List.mem_map.mp hp
    obtain ⟨c, hc, e⟩ := List.mem_map.mp hq
    exact h1 b hb (Prod.mk.inj e).1.symm
end VL
/-! VW9: drawn models, first half. -/
namespace VL
open PySem PySem.Spec PyProof.Rows L2 PySem.W
theorem at_map {α : Type} {f : α → D} {l : List α} {k : Nat} (h : k < l.length) : atI (l.map f) (k : Int) = some (f l[k]) := atI_nat (by rw [List.getElem?_map, List.getElem?_eq_getElem h]; rfl)
theorem at_last {α : Type} {f : α → D} {l : List α} (h : l ≠ []) : atI (l.map f) (-1) = some (f (l.getLast h)) := by
  have e : l.map f = (l.dropLast).map f ++ [f (l.getLast h)] := by
    conv => lhs; rw [← List.dropLast_concat_getLast h]
    simp
  rw [e]; exact atI_last _ _
theorem idx_s {l : List Str} {k : Nat} (h : k < l.length) : dIdx (.lst (l.map sd)) (.int k) = some (sd (l.getD k ""), .fz) := by
  rw [ev_idx_l, at_map h, getD_el h]; rfl
theorem idx_sl {l : List Str} (h : 0 < l.length) : dIdx (.lst (l.map sd)) (.int (-1)) = some (sd (l.getD (l.length - 1) ""), .fz) := by
  have h0 : l ≠ [] := List.length_pos_iff.mp h
  rw [ev_idx_l, at_last h0, getD_el (by omega), List.getLast_eq_getElem]; rfl
theorem callM_ok {m : FB} {i : Nat} {f : AE} {ρ ρ1 : VL.Env} {l : List (D × Kd)} {x d0 d1 d : D} {fl0 fl : Fl} {k : Kd} (h0 : ρ[i]? = some (some (x, fl0))) (ho : ownFl fl0 = true) (hf : f ρ = .ok (l, ρ1)) (h1 : ρ1[i]? = some (some (d0, fl))) (hown : ownFl fl = true) (ha : argsOk l = true) (hd : (l.all fun dk => decide (dk.2 ≠ .br) || decide (dk.1.isDrw ≠ d0.isDrw)) = true) (hm : m (some (d0, .pn) :: l.map argS) = .ok (d, k, d1)) (hk : k ≠ .br) : xCallM m i f ρ = .ok (d, k, ρ1.set i (some (d1, fl))) := by
  rw [ev_xCallM, h0]
  simp only
  rw [if_pos ho, hf]
  simp only [Res.bind_ok]
  unfold callMK
  rw [h1]
  simp only
  rw [if_pos ⟨hown, ha, hd⟩, hm]
  simp only
  rw [if_neg hk]
def mdE (gr : List Int) (r : Int) (ce : List Int) (t : Int) (most many : Int) (s3 s4 s5 s6 s9 s11 s12 s13 : Slot) : VL.Env := [some (.drw gr r ce t, .pn), some (.int most, .fz), some (.int many, .fz), s3, s4, s5, s6, none, none, s9, none, s11, s12, s13]
section
variable {ce : List Int} {most many : Int}
theorem md1 {gr : List Int} {r t : Int} (h1 : 2 ≤ most) (h2 : most ≤ 20) : ∃ (ns : List Str) (so : Int) (gr' : List Int) (r' t' : Int), sPar 3 4 (aC false (xCallM D_law_names 0 (aC true (xAp2 false dAdd (xC (.int 2)) (xCallM D_law_take 0 (aC true (xAp2 true dSub (xV 1) (xC (.int 1))) aN))) aN)) (aC true (xCallM D_law_take 0 (aC true (xC (.int 5)) aN)) aN)) (mdE gr r ce t most many none none none none none none none none) =
    .ok (.nx (mdE gr' r' ce t' most many (some (.lst (ns.map sd), .fz)) (some (.int so, .fz)) none none none none none none)) ∧ 2 ≤ ns.length ∧ (ns.length : Int) ≤ most ∧ ns.Nodup ∧ (∀ x ∈ ns, Nm x) := by
  obtain ⟨v, gr1, r1, t1, e1, v1, v2⟩ := take_eq (gr := gr) (r := r) (ce := ce) (t := t) (n := most - 1) (by omega) (by omega)
  obtain ⟨m, rfl⟩ : ∃ m : Nat, v = m := ⟨v.toNat, by omega⟩
  obtain ⟨ns, gr2, r2, t2, e2, n1, n2, n3⟩ := names_eq (gr := gr1) (r := r1) (ce := ce) (t := t1) (m := 2 + m) (by omega)
  obtain ⟨so, gr3, r3, t3, e3, _, _⟩ := take_eq (gr := gr2) (r := r2) (ce := ce) (t := t2) (n := 5) (by decide) (by decide)
  refine ⟨ns, so, gr3, r3, t3, ?_, by omega, by omega, n2, n3⟩
  have ep : (2 : Int) + (m : Int) = ((2 + m : Nat) : Int) := by omega
  rw [← ep] at e2
  have eA0 : aC true (xAp2 false dAdd (xC (.int 2)) (xCallM D_law_take 0 (aC true (xAp2 true dSub (xV 1) (xC (.int 1))) aN))) aN (mdE gr r ce t most many none none none none none none none none) = .ok ([(.int (2 + (m : Int)), .fz)], mdE gr1 r1 ce t1 most many none none none none none none none none) := by
    unfold mdE
    generalize D_law_take = DT at *
    generalize (m : Int) = M at *
    simp [ownFl, callMK, argsOk, D.isDrw, e1]
  have eA : xCallM D_law_names 0 (aC true (xAp2 false dAdd (xC (.int 2)) (xCallM D_law_take 0 (aC true (xAp2 true dSub (xV 1) (xC (.int 1))) aN))) aN) (mdE gr r ce t most many none none none none none none none none) = .ok (.lst (ns.map sd), .ow, mdE gr2 r2 ce t2 most many none none none none none none none none) := by
    exact callM_ok rfl rfl eA0 rfl rfl rfl rfl e2 (by simp)
  have eB : xCallM D_law_take 0 (aC true (xC (.int 5)) aN) (mdE gr2 r2 ce t2 most many none none none none none none none none) = .ok (.int so, .fz, mdE gr3 r3 ce t3 most many none none none none none none none none) := by
    unfold mdE
    generalize D_law_take = DT at *
    simp [ownFl, callMK, argsOk, D.isDrw, e3]
  generalize xCallM D_law_names 0 (aC true (xAp2 false dAdd (xC (.int 2)) (xCallM D_law_take 0 (aC true (xAp2 true dSub (xV 1) (xC (.int 1))) aN))) aN) = EA at *
  generalize xCallM D_law_take 0 (aC true (xC (.int 5)) aN) = EB at *
  rw [ev_sPar]
  simp only [ev_aC, eA, eB, ev_aN, Res.bind_ok, Res.pure_ok]
  rfl
theorem md2 {gr : List Int} {r t : Int} {ns : List Str} {s4 : Slot} (hn : ∀ x ∈ ns, Nm x) (hl : ns.length ≤ 20) : ∃ (row : List Str) (gr' : List Int) (r' t' : Int), sSet .fz 5 (xCallM D_law_mixed 0 (aC true (xV 3) aN)) (mdE gr r ce t most many (some (.lst (ns.map sd), .fz)) s4 none none none none none none) =
    .ok (.nx (mdE gr' r' ce t' most many (some (.lst (ns.map sd), .fz)) s4 (some (.lst (row.map sd), .fz)) none none none none none)) ∧ row.Perm ns := by
  obtain ⟨row, gr1, r1, t1, e1, hp⟩ := mixed_eq encS fz_sd (gr := gr) (r := r) (ce := ce) (t := t) hn (by omega)
  refine ⟨row, gr1, r1, t1, ?_, hp⟩
  unfold mdE
  generalize D_law_mixed = DT at *
  generalize ns.map sd = NS at *
  generalize row.map sd = RW at *
  simp [ownFl, callMK, argsOk, D.isDrw, e1, setSlot, canSet]
theorem md3 {gr : List Int} {r t : Int} {s3 s4 : Slot} {row : List Str} (h2 : 1 ≤ row.length) (hl : row.length ≤ 20) : sSet .fz 6 (xLc [7] (iRng2D (aC true (xC (.int 1)) (aC true (xApp (f1 dLen) (aC true (xV 5) aN)) aN))) (gNm 7) bYes (xTup (aC true (xAp2 true dIdx (xV 5) (xAp2 true dSub (xV 7) (xC (.int 1)))) (aC true (xAp2 true dIdx (xV 5) (xV 7)) aN)))) (mdE gr r ce t most many s3 s4 (some (.lst (row.map sd), .fz)) none none none none none) =
    .ok (.nx (mdE gr r ce t most many s3 s4 (some (.lst (row.map sd), .fz)) (some (.lst ((chn row).map pd), .fz)) none none none none)) := by
  have lc := lcS_map (g := gNm 7) (t := bYes) (e := xTup (aC true (xAp2 true dIdx (xV 5) (xAp2 true dSub (xV 7) (xC (.int 1)))) (aC true (xAp2 true dIdx (xV 5) (xV 7)) aN))) (ρ := mdE gr r ce t most many s3 s4 (some (.lst (row.map sd), .fz)) none none none none none) (fun (k : Nat) => D.int (1 + k)) (fun _ => true) (fun k => pd (row.getD k "", row.getD (k + 1) "")) (List.range (row.length - 1)) (fun k hk => by
    rw [List.mem_range] at hk
    have i1 := idx_s (l := row) (k := k) (by omega)
    have i2 := idx_s (l := row) (k := k + 1) (by omega)
    have ek1 : (1 : Int) + (k : Int) - 1 = (k : Int) := by omega
    have ek2 : ((k + 1 : Nat) : Int) = (1 : Int) + (k : Int) := by omega
    rw [ek2] at i2
    have z2 : 2 ≤ sizeLine := zz (by decide)
    have e2 : pd (row.getD k "", row.getD (k + 1) "") = .tup [sd (row.getD k ""), sd (row.getD (k + 1) "")] := rfl
    refine ⟨[some (.drw gr r ce t, .pn), some (.int most, .fz), some (.int many, .fz), s3, s4, some (.lst (row.map sd), .fz), none, some (.int (1 + k), .fz), none, none, none, none, none, none], rfl, _, rfl, fun _ => ⟨.fz, [some (.drw gr r ce t, .pn), some (.int most, .fz), some (.int many, .fz), s3, s4, some (.lst (row.map sd), .fz), none, some (.int (1 + k), .fz), none, none, none, none, none, none], ?_, by simp, rfl⟩⟩
    rw [e2]
    have fa := fz_sd (row.getD k "")
    have fb := fz_sd (row.getD (k + 1) "")
    generalize sd (row.getD k "") = U at *
    generalize sd (row.getD (k + 1) "") = W at *
    generalize row.map sd = RW at *
    generalize hdx : dIdx = DX at *
    simp [ek1, i1, i2, fzAll, z2, fa, fb])
  have hm : ((List.range (row.length - 1)).filter fun _ => true).map (fun k => pd (row.getD k "", row.getD (k + 1) "")) = (chn row).map pd := by
    rw [List.filter_eq_self.mpr (fun _ _ => rfl)]; unfold chn; rw [List.map_map]; rfl
  rw [hm] at lc
  have rk : rngK2 [(.int 1, .fz), (.int row.length, .fz)] (mdE gr r ce t most many s3 s4 (some (.lst (row.map sd), .fz)) none none none none none) = _ := rngK2_len (n := row.length - 1) (by decide) (by omega) (by omega)
  have it : iRng2D (aC true (xC (.int 1)) (aC true (xApp (f1 dLen) (aC true (xV 5) aN)) aN)) (mdE gr r ce t most many s3 s4 (some (.lst (row.map sd), .fz)) none none none none none) = .ok ((List.range (row.length - 1)).map fun (k : Nat) => D.int (1 + k), false, mdE gr r ce t most many s3 s4 (some (.lst (row.map sd), .fz)) none none none none none) := by
    refine iRng_2 (ρ1 := mdE gr r ce t most many s3 s4 (some (.lst (row.map sd), .fz)) none none none none none) (l := [(.int 1, .fz), (.int row.length, .fz)]) ?_ rk
    have : dLen (.lst (row.map sd)) = some (.int row.length, .fz) := by rw [ev_len_l, List.length_map]
    unfold mdE
    generalize row.map sd = RW at *
    generalize ((row.length : Nat) : Int) = LN at *
    generalize hdl : dLen = DL at *
    simp [this]
  have ex := xLc_ok (vs := [7]) (e := xTup (aC true (xAp2 true dIdx (xV 5) (xAp2 true dSub (xV 7) (xC (.int 1)))) (aC true (xAp2 true dIdx (xV 5) (xV 7)) aN))) it rfl (by rw [List.length_map, List.length_range]; exact zz (by omega)) lc
  exact sSet_ok ex rfl
end
end VL
/-! VW10: drawn models, the ties. -/
namespace VL
open PySem PySem.Spec PyProof.Rows L2 PySem.W
section
variable {ce : List Int} {most many : Int}
def mdIf : SE := (sIf (xTst (xAp2 true dLt (xV 4) (xC (.int 2))))
  (sSet .fz 6 (xAp2 true dAdd (xV 6) (xLst (aC true (xTup (aC true (xAp2 true dIdx (xV 5) (xAp1 dNeg (xC (.int 1)))) (aC true (xAp2 true dIdx (xV 5) (xC (.int 0))) aN))) aN))))
  (sIf (xTst (xAp2 true dEq (xV 4) (xC (.int 2))))
  (sSet .fz 6 (xAp2 true dAdd (xLc [8] (iSeq (xSl (xV 5) (oS (xC (.int 1))) oN)) (gNm 8) bYes (xTup (aC true (xAp2 true dIdx (xV 5) (xC (.int 0))) (aC true (xV 8) aN)))) (xLc [8] (iSeq (xSl (xV 5) (oS (xC (.int 1))) oN)) (gNm 8) bYes (xTup (aC true (xV 8) (aC true (xAp2 true dIdx (xV 5) (xC (.int 0))) aN))))))
  (sIf (xTst (xAp2 true dEq (xV 4) (xC (.int 3))))
  (sSet .fz 6 (xLst aN))
  sNil)))
theorem addL {α : Type} {f : α → D} {A B : List α} (h : A.length + B.length ≤ 1000000) : dAdd (.lst (A.map f)) (.lst (B.map f)) = some (.lst ((A ++ B).map f), .ow) := by
  show (if (A.map f).length + (B.map f).length ≤ sizeLine then some (D.lst (A.map f ++ B.map f), Kd.ow) else none) = _
  rw [if_pos (by rw [List.length_map, List.length_map]; exact zz h), List.map_append]
theorem chn_len (row : List Str) : (chn row).length = row.length - 1 := by unfold chn; rw [List.length_map, List.length_range]
theorem md4 {gr : List Int} {r t so : Int} {s3 : Slot} {row : List Str} (h2 : 2 ≤ row.length) (hl : row.length ≤ 20) (hn : row.Nodup) : ∃ ties : List (Str × Str), mdIf (mdE gr r ce t most many s3 (some (.int so, .fz)) (some (.lst (row.map sd), .fz)) (some (.lst ((chn row).map pd), .fz)) none none none none) =
    .ok (.nx (mdE gr r ce t most many s3 (some (.int so, .fz)) (some (.lst (row.map sd), .fz)) (some (.lst (ties.map pd), .fz)) none none none none)) ∧ TOk row ties ∧ ties.length ≤ 100 := by
  have z1 : 1 ≤ sizeLine := zz (by decide)
  have z2 : 2 ≤ sizeLine := zz (by decide)
  have i0 : dIdx (.lst (row.map sd)) (.int 0) = some (sd (row.getD 0 ""), .fz) := idx_s (l := row) (k := 0) (by omega)
  have il := idx_sl (l := row) (by omega)
  by_cases c1 : so < 2
  · refine ⟨chn row ++ [(row.getD (row.length - 1) "", row.getD 0 "")], ?_, cyc_ok hn h2, by rw [List.length_append, chn_len]; simp; omega⟩
    have ad := addL (f := pd) (A := chn row) (B := [(row.getD (row.length - 1) "", row.getD 0 "")]) (by rw [chn_len]; simp; omega)
    rw [show [(row.getD (row.length - 1) "", row.getD 0 "")].map pd = [.tup [sd (row.getD (row.length - 1) ""), sd (row.getD 0 "")]] from rfl] at ad
    have fa := fz_sd (row.getD (row.length - 1) "")
    have fb := fz_sd (row.getD 0 "")
    unfold mdIf mdE
    generalize sd (row.getD (row.length - 1) "") = U at *
    generalize sd (row.getD 0 "") = W at *
    generalize row.map sd = RW at *
    generalize (chn row).map pd = CH at *
    generalize hr : (chn row ++ [(row.getD (row.length - 1) "", row.getD 0 "")]).map pd = RS at *
    generalize hdx : dIdx = DX at *
    generalize hda : dAdd = DA at *
    simp [c1, i0, il, ad, fzAll, fa, fb, z1, z2, setSlot, canSet]
  · by_cases c2 : so = 2
    · obtain ⟨a, rest, rfl⟩ : ∃ a rest, row = a :: rest := by
        cases row with
        | nil => simp at h2
        | cons a rest => exact ⟨a, rest, rfl⟩
      have hr : rest.length ≤ 20 := by simp at hl; omega
      refine ⟨star a rest, ?_, star_ok hn, by unfold star; simp; omega⟩
      have i0' : dIdx (.lst ((a :: rest).map sd)) (.int 0) = some (sd a, .fz) := i0
      have lcA := lcS_map (g := gNm 8) (t := bYes) (e := xTup (aC true (xAp2 true dIdx (xV 5) (xC (.int 0))) (aC true (xV 8) aN))) (ρ := mdE gr r ce t most many s3 (some (.int so, .fz)) (some (.lst ((a :: rest).map sd), .fz)) (some (.lst ((chn (a :: rest)).map pd), .fz)) none none none none) sd (fun _ => true) (fun b => pd (a, b)) rest (fun b hb => by
        refine ⟨[some (.drw gr r ce t, .pn), some (.int most, .fz), some (.int many, .fz), s3, some (.int so, .fz), some (.lst ((a :: rest).map sd), .fz), some (.lst ((chn (a :: rest)).map pd), .fz), none, some (sd b, .fz), none, none, none, none, none], rfl, _, rfl, fun _ => ⟨.fz, [some (.drw gr r ce t, .pn), some (.int most, .fz), some (.int many, .fz), s3, some (.int so, .fz), some (.lst ((a :: rest).map sd), .fz), some (.lst ((chn (a :: rest)).map pd), .fz), none, some (sd b, .fz), none, none, none, none, none], ?_, by simp, rfl⟩⟩
        rw [show pd (a, b) = .tup [sd a, sd b] from rfl]
        have fa := fz_sd a
        have fb := fz_sd b
        generalize (a :: rest).map sd = RW at *
        generalize (chn (a :: rest)).map pd = CH at *
        generalize sd a = U at *
        generalize sd b = W at *
        generalize hdx : dIdx = DX at *
        simp [i0', fzAll, fa, fb, z2])
      have lcB := lcS_map (g := gNm 8) (t := bYes) (e := xTup (aC true (xV 8) (aC true (xAp2 true dIdx (xV 5) (xC (.int 0))) aN))) (ρ := mdE gr r ce t most many s3 (some (.int so, .fz)) (some (.lst ((a :: rest).map sd), .fz)) (some (.lst ((chn (a :: rest)).map pd), .fz)) none none none none) sd (fun _ => true) (fun b => pd (b, a)) rest (fun b hb => by
        refine ⟨[some (.drw gr r ce t, .pn), some (.int most, .fz), some (.int many, .fz), s3, some (.int so, .fz), some (.lst ((a :: rest).map sd), .fz), some (.lst ((chn (a :: rest)).map pd), .fz), none, some (sd b, .fz), none, none, none, none, none], rfl, _, rfl, fun _ => ⟨.fz, [some (.drw gr r ce t, .pn), some (.int most, .fz), some (.int many, .fz), s3, some (.int so, .fz), some (.lst ((a :: rest).map sd), .fz), some (.lst ((chn (a :: rest)).map pd), .fz), none, some (sd b, .fz), none, none, none, none, none], ?_, by simp, rfl⟩⟩
        rw [show pd (b, a) = .tup [sd b, sd a] from rfl]
        have fa := fz_sd a
        have fb := fz_sd b
        generalize (a :: rest).map sd = RW at *
        generalize (chn (a :: rest)).map pd = CH at *
        generalize sd a = U at *
        generalize sd b = W at *
        generalize hdx : dIdx = DX at *
        simp [i0', fzAll, fa, fb, z2])
      rw [List.filter_eq_self.mpr (fun _ _ => rfl)] at lcA lcB
      have it : iSeq (xSl (xV 5) (oS (xC (.int 1))) oN) (mdE gr r ce t most many s3 (some (.int so, .fz)) (some (.lst ((a :: rest).map sd), .fz)) (some (.lst ((chn (a :: rest)).map pd), .fz)) none none none none) = .ok (rest.map sd, false, mdE gr r ce t most many s3 (some (.int so, .fz)) (some (.lst ((a :: rest).map sd), .fz)) (some (.lst ((chn (a :: rest)).map pd), .fz)) none none none none) := by
        have e1 : xSl (xV 5) (oS (xC (.int 1))) oN (mdE gr r ce t most many s3 (some (.int so, .fz)) (some (.lst ((a :: rest).map sd), .fz)) (some (.lst ((chn (a :: rest)).map pd), .fz)) none none none none) = .ok (.lst (rest.map sd), .ow, mdE gr r ce t most many s3 (some (.int so, .fz)) (some (.lst ((a :: rest).map sd), .fz)) (some (.lst ((chn (a :: rest)).map pd), .fz)) none none none none) := by
          have ec := cutD_from ((a :: rest).map sd)
          rw [show ((a :: rest).map sd).drop 1 = rest.map sd from rfl] at ec
          unfold mdE
          generalize (a :: rest).map sd = RW at *
          generalize (chn (a :: rest)).map pd = CH at *
          simp [oS, ec]
        rw [ev_iSeq, e1]; rfl
      have exA := xLc_ok (vs := [8]) (e := xTup (aC true (xAp2 true dIdx (xV 5) (xC (.int 0))) (aC true (xV 8) aN))) it rfl (by rw [List.length_map]; exact zz (by omega)) lcA
      have exB := xLc_ok (vs := [8]) (e := xTup (aC true (xV 8) (aC true (xAp2 true dIdx (xV 5) (xC (.int 0))) aN))) it rfl (by rw [List.length_map]; exact zz (by omega)) lcB
      have ad := addL (f := pd) (A := rest.map fun b => (a, b)) (B := rest.map fun b => (b, a)) (by simp; omega)
      rw [List.map_map, List.map_map] at ad
      have ex : xAp2 true dAdd (xLc [8] (iSeq (xSl (xV 5) (oS (xC (.int 1))) oN)) (gNm 8) bYes (xTup (aC true (xAp2 true dIdx (xV 5) (xC (.int 0))) (aC true (xV 8) aN)))) (xLc [8] (iSeq (xSl (xV 5) (oS (xC (.int 1))) oN)) (gNm 8) bYes (xTup (aC true (xV 8) (aC true (xAp2 true dIdx (xV 5) (xC (.int 0))) aN)))) (mdE gr r ce t most many s3 (some (.int so, .fz)) (some (.lst ((a :: rest).map sd), .fz)) (some (.lst ((chn (a :: rest)).map pd), .fz)) none none none none) = .ok (.lst ((star a rest).map pd), .ow, mdE gr r ce t most many s3 (some (.int so, .fz)) (some (.lst ((a :: rest).map sd), .fz)) (some (.lst ((chn (a :: rest)).map pd), .fz)) none none none none) := by
        rw [ev_xAp2, exA]
        simp only [Res.bind_ok, Bool.true_eq_false, and_false, if_false, exB]
        have ad' : dAdd (.lst (rest.map fun b => pd (a, b))) (.lst (rest.map fun b => pd (b, a))) = some (.lst ((star a rest).map pd), .ow) := ad
        rw [ad']; rfl
      refine sIf_ok (b := false) (ρ1 := mdE gr r ce t most many s3 (some (.int so, .fz)) (some (.lst ((a :: rest).map sd), .fz)) (some (.lst ((chn (a :: rest)).map pd), .fz)) none none none none) ?_ (fun h => by cases h) fun _ => ?_
      · unfold mdE
        generalize (a :: rest).map sd = RW at *
        generalize (chn (a :: rest)).map pd = CH at *
        simp [c2]
      · refine sIf_ok (b := true) (ρ1 := mdE gr r ce t most many s3 (some (.int so, .fz)) (some (.lst ((a :: rest).map sd), .fz)) (some (.lst ((chn (a :: rest)).map pd), .fz)) none none none none) ?_ (fun _ => sSet_ok ex rfl) fun h => by cases h
        unfold mdE
        generalize (a :: rest).map sd = RW at *
        generalize (chn (a :: rest)).map pd = CH at *
        simp [c2]
    · by_cases c3 : so = 3
      · refine ⟨[], ?_, TOk.nil _, by simp⟩
        rw [List.map_nil]
        unfold mdIf mdE
        generalize row.map sd = RW at *
        generalize (chn row).map pd = CH at *
        subst c3
        simp [fzAll, setSlot, canSet]
      · refine ⟨chn row, ?_, chn_ok hn, by rw [chn_len]; omega⟩
        unfold mdIf mdE
        generalize row.map sd = RW at *
        generalize (chn row).map pd = CH at *
        simp [c1, c2, c3]
end
end VL
/-! VW11: drawn models, the whole. -/
namespace VL
open PySem PySem.Spec PyProof.Rows L2 PySem.W
theorem callA_ok {m : FA} {f : AE} {ρ ρ1 : VL.Env} {l : List (D × Kd)} {d : D} {k : Kd} (hf : f ρ = .ok (l, ρ1)) (ha : argsOk l = true) (hm : m (l.map argS) = .ok (d, k)) (hk : k ≠ .br) : xCall m f ρ = .ok (d, k, ρ1) := by
  rw [ev_xCall, hf]
  simp only [Res.bind_ok]
  rw [if_pos ha, hm]
  simp only
  rw [if_neg hk]
theorem aC1_ok {s : Bool} {f : EE} {ρ ρ1 : VL.Env} {d : D} {k : Kd} (h : f ρ = .ok (d, k, ρ1)) (hk : k = .br → s = true) : aC s f aN ρ = .ok ([(d, k)], ρ1) := by
  rw [ev_aC, h]
  simp only [Res.bind_ok]
  rw [if_neg (fun e => by have := hk e.1; rw [this] at e; exact Bool.noConfusion e.2)]
  simp
theorem aC_ok {s : Bool} {f : EE} {g : AE} {ρ ρ1 ρ2 : VL.Env} {d : D} {k : Kd} {l : List (D × Kd)} (h : f ρ = .ok (d, k, ρ1)) (hk : k ≠ .br) (hg : g ρ1 = .ok (l, ρ2)) : aC s f g ρ = .ok ((d, k) :: l, ρ2) := by
  rw [ev_aC, h]
  simp only [Res.bind_ok]
  rw [if_neg (fun e => hk e.1), hg]
  simp
def mdD (dots : List Str) (ties : List (Str × Str)) : D := .dK [(kw "dots", .lst (dots.map sd)), (kw "ties", .lst (ties.map pd))]
section
variable {ce : List Int} {most many : Int}
theorem md5 {gr : List Int} {r t : Int} {ns : List Str} {s4 s5 : Slot} {ties : List (Str × Str)} (hv : ∀ x ∈ ns, Nm x) (hl : ns.length ≤ 20) (ht : ∀ p ∈ ties, NmP p) : ∃ (mx : List (Str × Str)) (gr' : List Int) (r' t' : Int), sSet .fz 9 (xLc [10] (iSeq (xCallM D_law_mixed 0 (aC true (xCall D_law_pairs (aC true (xV 3) aN)) aN))) (gNm 10) (xTst (xAp2 true dNotIn (xV 10) (xV 6))) (xV 10)) (mdE gr r ce t most many (some (.lst (ns.map sd), .fz)) s4 s5 (some (.lst (ties.map pd), .fz)) none none none none) =
    .ok (.nx (mdE gr' r' ce t' most many (some (.lst (ns.map sd), .fz)) s4 s5 (some (.lst (ties.map pd), .fz)) (some (.lst ((mx.filter fun p => !decide (p ∈ ties)).map pd), .fz)) none none none)) ∧ mx.Perm (prsL ns) := by
  have hpl := prs_len (dots := ns) (by omega)
  have hpv : ∀ p ∈ prsL ns, NmP p := fun p hp => ⟨hv _ (mem_prs.mp hp).1, hv _ (mem_prs.mp hp).2.1⟩
  obtain ⟨mx, gr1, r1, t1, e1, hp⟩ := mixed_eq encP fz_pd (gr := gr) (r := r) (ce := ce) (t := t) hpv (by omega)
  have ep := pairs_eq (dots := ns) (by omega)
  refine ⟨mx, gr1, r1, t1, ?_, hp⟩
  have hmv : ∀ p ∈ mx, NmP p := fun p h => hpv p (hp.mem_iff.mp h)
  have ecp : xCall D_law_pairs (aC true (xV 3) aN) (mdE gr r ce t most many (some (.lst (ns.map sd), .fz)) s4 s5 (some (.lst (ties.map pd), .fz)) none none none none) = .ok (.lst ((prsL ns).map pd), .fz, mdE gr r ce t most many (some (.lst (ns.map sd), .fz)) s4 s5 (some (.lst (ties.map pd), .fz)) none none none none) := callA_ok (aC1_ok (d := .lst (ns.map sd)) (k := .fz) rfl (by simp)) rfl ep (by simp)
  have ecm := callM_ok (m := D_law_mixed) (i := 0) (f := aC true (xCall D_law_pairs (aC true (xV 3) aN)) aN) (ρ := mdE gr r ce t most many (some (.lst (ns.map sd), .fz)) s4 s5 (some (.lst (ties.map pd), .fz)) none none none none) rfl rfl (aC1_ok ecp (by simp)) rfl rfl rfl rfl e1 (by simp)
  have it : iSeq (xCallM D_law_mixed 0 (aC true (xCall D_law_pairs (aC true (xV 3) aN)) aN)) (mdE gr r ce t most many (some (.lst (ns.map sd), .fz)) s4 s5 (some (.lst (ties.map pd), .fz)) none none none none) = .ok (mx.map pd, false, mdE gr1 r1 ce t1 most many (some (.lst (ns.map sd), .fz)) s4 s5 (some (.lst (ties.map pd), .fz)) none none none none) := by
    rw [ev_iSeq, ecm]; rfl
  have lc := lcS_map (g := gNm 10) (t := xTst (xAp2 true dNotIn (xV 10) (xV 6))) (e := xV 10) (ρ := mdE gr1 r1 ce t1 most many (some (.lst (ns.map sd), .fz)) s4 s5 (some (.lst (ties.map pd), .fz)) none none none none) pd (fun p => !decide (p ∈ ties)) pd mx (fun p hpm => by
    have en := encP.ni_l (hmv p hpm) ht
    refine ⟨[some (.drw gr1 r1 ce t1, .pn), some (.int most, .fz), some (.int many, .fz), some (.lst (ns.map sd), .fz), s4, s5, some (.lst (ties.map pd), .fz), none, none, none, some (pd p, .fz), none, none, none], rfl, [some (.drw gr1 r1 ce t1, .pn), some (.int most, .fz), some (.int many, .fz), some (.lst (ns.map sd), .fz), s4, s5, some (.lst (ties.map pd), .fz), none, none, none, some (pd p, .fz), none, none, none], ?_, fun _ => ⟨.fz, _, rfl, by simp, rfl⟩⟩
    generalize ns.map sd = NS at *
    generalize ties.map pd = TS at *
    generalize pd p = PP at *
    simp [en])
  have hml : mx.length ≤ 10000 := by rw [hp.length_eq]; exact hpl
  exact sSet_ok (xLc_ok (vs := [10]) (e := xV 10) it rfl (by rw [List.length_map]; exact zz (by omega)) lc) rfl
theorem md6 {gr : List Int} {r t : Int} {s3 s4 s5 s9 : Slot} {ties : List (Str × Str)} (hl : ties.length ≤ 100) (hm : 0 ≤ many ∧ many ≤ 1000) : ∃ room : Nat, room ≤ 1000 ∧ sSet .fz 11 (xApp (f2 dMax2) (aC true (xC (.int 0)) (aC true (xAp2 true dSub (xV 2) (xApp (f1 dLen) (aC true (xV 6) aN))) aN))) (mdE gr r ce t most many s3 s4 s5 (some (.lst (ties.map pd), .fz)) s9 none none none) =
    .ok (.nx (mdE gr r ce t most many s3 s4 s5 (some (.lst (ties.map pd), .fz)) s9 (some (.int room, .fz)) none none)) := by
  obtain ⟨room, hr⟩ : ∃ room : Nat, (if many - (ties.length : Int) > 0 then many - (ties.length : Int) else 0) = (room : Int) := ⟨(if many - (ties.length : Int) > 0 then many - (ties.length : Int) else 0).toNat, by split <;> omega⟩
  refine ⟨room, by split at hr <;> omega, ?_⟩
  have el : dLen (.lst (ties.map pd)) = some (.int ties.length, .fz) := by rw [ev_len_l, List.length_map]
  unfold mdE
  generalize ties.map pd = TS at *
  generalize ((ties.length : Nat) : Int) = TL at *
  generalize ((room : Nat) : Int) = RM at *
  generalize hdl : dLen = DL at *
  rw [← hr]
  simp [el, setSlot, canSet]
theorem md7 {gr : List Int} {r t : Int} {s3 s4 s5 s6 s9 : Slot} {room : Nat} (hr : room ≤ 1000) : ∃ (wish : Nat) (gr' : List Int) (r' t' : Int), sSet .fz 12 (xCallM D_law_pick 0 (aC true (xLst (aC false (xCallM D_law_take 0 (aC true (xC (.int 3)) aN)) (aC false (xCallM D_law_take 0 (aC true (xAp2 true dAdd (xV 11) (xC (.int 1))) aN)) (aC true (xAp2 false dAdd (xC (.int 1)) (xCallM D_law_take 0 (aC true (xC (.int 4)) aN))) aN)))) aN)) (mdE gr r ce t most many s3 s4 s5 s6 s9 (some (.int room, .fz)) none none) =
    .ok (.nx (mdE gr' r' ce t' most many s3 s4 s5 s6 s9 (some (.int room, .fz)) (some (.int wish, .fz)) none)) := by
  obtain ⟨a, gr1, r1, t1, e1, a1, a2⟩ := take_eq (gr := gr) (r := r) (ce := ce) (t := t) (n := 3) (by decide) (by decide)
  obtain ⟨b, gr2, r2, t2, e2, b1, b2⟩ := take_eq (gr := gr1) (r := r1) (ce := ce) (t := t1) (n := (room : Int) + 1) (by omega) (by omega)
  obtain ⟨c, gr3, r3, t3, e3, c1, c2⟩ := take_eq (gr := gr2) (r := r2) (ce := ce) (t := t2) (n := 4) (by decide) (by decide)
  obtain ⟨x, gr4, r4, t4, e4, hx⟩ := pick_eq (gr := gr3) (r := r3) (ce := ce) (t := t3) (xs := [.int a, .int b, .int (1 + c)]) (by simp) (by simp)
  obtain ⟨wish, rfl⟩ : ∃ wish : Nat, x = .int wish := by
    simp only [List.mem_cons, List.not_mem_nil, or_false] at hx
    rcases hx with rfl | rfl | rfl
    · exact ⟨a.toNat, by rw [show ((a.toNat : Nat) : Int) = a by omega]⟩
    · exact ⟨b.toNat, by rw [show ((b.toNat : Nat) : Int) = b by omega]⟩
    · exact ⟨(1 + c).toNat, by rw [show (((1 + c).toNat : Nat) : Int) = 1 + c by omega]⟩
  refine ⟨wish, gr4, r4, t4, ?_⟩
  have z3 : 3 ≤ sizeLine := zz (by decide)
  have k1 : xCallM D_law_take 0 (aC true (xC (.int 3)) aN) (mdE gr r ce t most many s3 s4 s5 s6 s9 (some (.int room, .fz)) none none) = .ok (.int a, .fz, mdE gr1 r1 ce t1 most many s3 s4 s5 s6 s9 (some (.int room, .fz)) none none) := callM_ok (ρ1 := mdE gr r ce t most many s3 s4 s5 s6 s9 (some (.int room, .fz)) none none) rfl rfl (aC1_ok (d := .int 3) (k := .fz) rfl (by simp)) rfl rfl rfl rfl e1 (by simp)
  have k2 : xCallM D_law_take 0 (aC true (xAp2 true dAdd (xV 11) (xC (.int 1))) aN) (mdE gr1 r1 ce t1 most many s3 s4 s5 s6 s9 (some (.int room, .fz)) none none) = .ok (.int b, .fz, mdE gr2 r2 ce t2 most many s3 s4 s5 s6 s9 (some (.int room, .fz)) none none) := callM_ok (ρ1 := mdE gr1 r1 ce t1 most many s3 s4 s5 s6 s9 (some (.int room, .fz)) none none) rfl rfl (aC1_ok (d := .int ((room : Int) + 1)) (k := .fz) (by
    rw [ev_xAp2, show xV 11 (mdE gr1 r1 ce t1 most many s3 s4 s5 s6 s9 (some (.int room, .fz)) none none) = .ok (.int room, .fz, mdE gr1 r1 ce t1 most many s3 s4 s5 s6 s9 (some (.int room, .fz)) none none) from rfl]
    simp) (by simp)) rfl rfl rfl rfl e2 (by simp)
  have k3 : xCallM D_law_take 0 (aC true (xC (.int 4)) aN) (mdE gr2 r2 ce t2 most many s3 s4 s5 s6 s9 (some (.int room, .fz)) none none) = .ok (.int c, .fz, mdE gr3 r3 ce t3 most many s3 s4 s5 s6 s9 (some (.int room, .fz)) none none) := callM_ok (ρ1 := mdE gr2 r2 ce t2 most many s3 s4 s5 s6 s9 (some (.int room, .fz)) none none) rfl rfl (aC1_ok (d := .int 4) (k := .fz) rfl (by simp)) rfl rfl rfl rfl e3 (by simp)
  have k3' : xAp2 false dAdd (xC (.int 1)) (xCallM D_law_take 0 (aC true (xC (.int 4)) aN)) (mdE gr2 r2 ce t2 most many s3 s4 s5 s6 s9 (some (.int room, .fz)) none none) = .ok (.int (1 + c), .fz, mdE gr3 r3 ce t3 most many s3 s4 s5 s6 s9 (some (.int room, .fz)) none none) := by
    rw [ev_xAp2, ev_xC]
    simp only [Res.bind_ok, reduceCtorEq, false_and, if_false, k3, ev_add, Res.pure_ok]
  have kl : xLst (aC false (xCallM D_law_take 0 (aC true (xC (.int 3)) aN)) (aC false (xCallM D_law_take 0 (aC true (xAp2 true dAdd (xV 11) (xC (.int 1))) aN)) (aC true (xAp2 false dAdd (xC (.int 1)) (xCallM D_law_take 0 (aC true (xC (.int 4)) aN))) aN))) (mdE gr r ce t most many s3 s4 s5 s6 s9 (some (.int room, .fz)) none none) = .ok (.lst [.int a, .int b, .int (1 + c)], .ow, mdE gr3 r3 ce t3 most many s3 s4 s5 s6 s9 (some (.int room, .fz)) none none) := by
    rw [ev_xLst, aC_ok k1 (by simp) (aC_ok k2 (by simp) (aC1_ok k3' (by simp)))]
    simp [fzAll, z3]
  exact sSet_ok (callM_ok rfl rfl (aC1_ok kl (by simp)) rfl rfl rfl rfl e4 (by simp)) rfl
theorem md8 {gr : List Int} {r t : Int} {s3 s4 s5 s6 : Slot} {more : List (Str × Str)} {room wish : Nat} : ∃ size : Nat, sSet .fz 13 (xApp (f3 dMin3) (aC true (xApp (f1 dLen) (aC true (xV 9) aN)) (aC true (xV 11) (aC true (xV 12) aN)))) (mdE gr r ce t most many s3 s4 s5 s6 (some (.lst (more.map pd), .fz)) (some (.int room, .fz)) (some (.int wish, .fz)) none) =
    .ok (.nx (mdE gr r ce t most many s3 s4 s5 s6 (some (.lst (more.map pd), .fz)) (some (.int room, .fz)) (some (.int wish, .fz)) (some (.int size, .fz)))) := by
  obtain ⟨size, hs⟩ : ∃ size : Nat, min3 more.length room wish = (size : Int) := ⟨(min3 more.length room wish).toNat, by unfold min3; split <;> split <;> omega⟩
  refine ⟨size, ?_⟩
  have el : dLen (.lst (more.map pd)) = some (.int more.length, .fz) := by rw [ev_len_l, List.length_map]
  unfold mdE
  generalize more.map pd = TS at *
  generalize ((more.length : Nat) : Int) = TL at *
  generalize ((room : Nat) : Int) = RM at *
  generalize ((wish : Nat) : Int) = WI at *
  generalize ((size : Nat) : Int) = SZ at *
  generalize hdl : dLen = DL at *
  rw [← hs]
  simp [el, setSlot, canSet]
theorem md9 {gr : List Int} {r t : Int} {s3 s4 s5 s11 s12 : Slot} {ties more : List (Str × Str)} {size mm : Nat} (h1 : ties.length ≤ 1000) (h2 : more.length ≤ 10000) : sSet .fz 6 (xSl (xAp2 true dAdd (xV 6) (xSl (xV 9) oN (oS (xV 13)))) oN (oS (xV 2))) (mdE gr r ce t most mm s3 s4 s5 (some (.lst (ties.map pd), .fz)) (some (.lst (more.map pd), .fz)) s11 s12 (some (.int size, .fz))) =
    .ok (.nx (mdE gr r ce t most mm s3 s4 s5 (some (.lst (((ties ++ more.take size).take mm).map pd), .fz)) (some (.lst (more.map pd), .fz)) s11 s12 (some (.int size, .fz)))) := by
  have c1 := cutD_to (more.map pd) size
  rw [← List.map_take] at c1
  have hl : (more.take size).length ≤ more.length := List.length_take_le' size more
  have ad := addL (f := pd) (A := ties) (B := more.take size) (by omega)
  have c2 := cutD_to ((ties ++ more.take size).map pd) mm
  rw [← List.map_take] at c2
  unfold mdE
  generalize ((ties ++ more.take size).take mm).map pd = RS at *
  generalize (ties ++ more.take size).map pd = A1 at *
  generalize (more.take size).map pd = A2 at *
  generalize more.map pd = A3 at *
  generalize ties.map pd = A4 at *
  generalize hdl : dAdd = DA at *
  simp [oS, c1, c2, ad, setSlot, canSet]
theorem md10 {gr : List Int} {r t : Int} {s4 s5 s11 s12 s13 : Slot} {ns : List Str} {ties more : List (Str × Str)} (hl : ns.length ≤ 1000) (h1 : ties.length ≤ 1000) (h2 : more.length ≤ 10000) (ht : ∀ p ∈ ties, NmP p) : sRet (xDisp ["dots", "ties"] (aC true (xApp (f1 dSorted) (aC true (xV 3) aN)) (aC true (xApp (f1 dSorted) (aC true (xIfE (xTst (xAp2 true dNe (xV 6) (xLst aN))) (xV 6) (xSl (xV 9) oN (oS (xC (.int 1))))) aN)) aN))) (mdE gr r ce t most many (some (.lst (ns.map sd), .fz)) s4 s5 (some (.lst (ties.map pd), .fz)) (some (.lst (more.map pd), .fz)) s11 s12 s13) =
    .ok (.rt (mdD (srt sd ns) (srt pd (if ties = [] then more.take 1 else ties))) .ow (mdE gr r ce t most many (some (.lst (ns.map sd), .fz)) s4 s5 (some (.lst (ties.map pd), .fz)) (some (.lst (more.map pd), .fz)) s11 s12 s13)) := by
  have o1 := sorted_l (sortOk_sd (l := ns) (by omega))
  have hlen : (if ties = [] then more.take 1 else ties).length ≤ 1000000 := by
    split
    · rw [List.length_take]; omega
    · omega
  have o2 := sorted_l (sortOk_pd (l := if ties = [] then more.take 1 else ties) hlen)
  have en := encP.nn ht
  have hi : ∃ k, xIfE (xTst (xAp2 true dNe (xV 6) (xLst aN))) (xV 6) (xSl (xV 9) oN (oS (xC (.int 1)))) (mdE gr r ce t most many (some (.lst (ns.map sd), .fz)) s4 s5 (some (.lst (ties.map pd), .fz)) (some (.lst (more.map pd), .fz)) s11 s12 s13) = .ok (.lst ((if ties = [] then more.take 1 else ties).map pd), k, mdE gr r ce t most many (some (.lst (ns.map sd), .fz)) s4 s5 (some (.lst (ties.map pd), .fz)) (some (.lst (more.map pd), .fz)) s11 s12 s13) ∧ k ≠ .br := by
    by_cases h : ties = []
    · rw [if_pos h]
      subst h
      refine ⟨.ow, ?_, by simp⟩
      have c1 := cutD_to (more.map pd) 1
      rw [← List.map_take] at c1
      have en' : dNe (.lst (([] : List (Str × Str)).map pd)) (.lst []) = some (.bl false, .fz) := en
      unfold mdE
      generalize (more.take 1).map pd = A2 at *
      generalize more.map pd = A3 at *
      generalize ns.map sd = NS at *
      generalize ([] : List (Str × Str)).map pd = A4 at *
      generalize hdl : dNe = DN at *
      have c1' : cutD A3 none (some 1) = A2 := c1
      simp [oS, c1', en', fzAll]
    · rw [if_neg h]
      refine ⟨.fz, ?_, by simp⟩
      have en' : dNe (.lst (ties.map pd)) (.lst []) = some (.bl true, .fz) := by
        rw [en]
        cases ties with
        | nil => exact absurd rfl h
        | cons a l => rfl
      unfold mdE
      generalize more.map pd = A3 at *
      generalize ns.map sd = NS at *
      generalize ties.map pd = A4 at *
      generalize hdl : dNe = DN at *
      simp [en', fzAll]
  obtain ⟨k, hi, hk⟩ := hi
  generalize xIfE (xTst (xAp2 true dNe (xV 6) (xLst aN))) (xV 6) (xSl (xV 9) oN (oS (xC (.int 1)))) = XI at *
  have x1 : xApp (f1 dSorted) (aC true XI aN) (mdE gr r ce t most many (some (.lst (ns.map sd), .fz)) s4 s5 (some (.lst (ties.map pd), .fz)) (some (.lst (more.map pd), .fz)) s11 s12 s13) = .ok (.lst ((srt pd (if ties = [] then more.take 1 else ties)).map pd), .ow, mdE gr r ce t most many (some (.lst (ns.map sd), .fz)) s4 s5 (some (.lst (ties.map pd), .fz)) (some (.lst (more.map pd), .fz)) s11 s12 s13) := by
    rw [ev_xApp, aC1_ok hi (fun e => absurd e hk)]
    simp only [Res.bind_ok, List.map_cons, List.map_nil, ev_f1, o2, Res.pure_ok]
  have x2 : xApp (f1 dSorted) (aC true (xV 3) aN) (mdE gr r ce t most many (some (.lst (ns.map sd), .fz)) s4 s5 (some (.lst (ties.map pd), .fz)) (some (.lst (more.map pd), .fz)) s11 s12 s13) = .ok (.lst ((srt sd ns).map sd), .ow, mdE gr r ce t most many (some (.lst (ns.map sd), .fz)) s4 s5 (some (.lst (ties.map pd), .fz)) (some (.lst (more.map pd), .fz)) s11 s12 s13) := by
    rw [ev_xApp, aC1_ok (d := .lst (ns.map sd)) (k := .fz) rfl (by simp)]
    simp only [Res.bind_ok, List.map_cons, List.map_nil, ev_f1, o1, Res.pure_ok]
  have x3 := aC_ok (s := true) x2 (by simp) (aC1_ok (s := true) x1 (by simp))
  rw [ev_sRet, ev_xDisp, x3]
  rfl
end
/-- a model: its parties, its ties -/
structure Mod (most many : Nat) (dots : List Str) (ties : List (Str × Str)) : Prop where
  l2 : 2 ≤ dots.length
  l6 : dots.length ≤ most
  nd : dots.Nodup
  nm : ∀ x ∈ dots, Nm x
  so : dots.Pairwise (fun a b => leF sd a b = true)
  t1 : 1 ≤ ties.length
  tm : ties.length ≤ many
  tk : TOk dots ties
  ts : ties.Pairwise (fun a b => leF pd a b = true)
theorem two_of {α : Type} {l : List α} (h : 2 ≤ l.length) : ∃ a b r, l = a :: b :: r := by
  cases l with
  | nil => simp at h
  | cons a l => cases l with
    | nil => simp at h
    | cons b r => exact ⟨a, b, r, rfl⟩
theorem model_eq {gr : List Int} {r : Int} {ce : List Int} {t : Int} {most many : Nat} (h1 : 2 ≤ most) (h2 : most ≤ 20) (h3 : 1 ≤ many) (h4 : many ≤ 1000) : ∃ (dots : List Str) (ties : List (Str × Str)) (gr' : List Int) (r' t' : Int), D_law_model [some (.drw gr r ce t, .pn), some (.int most, .fz), some (.int many, .fz)] = .ok (mdD dots ties, .ow, .drw gr' r' ce t') ∧ Mod most many dots ties := by
  obtain ⟨ns, so, gr1, r1, t1, e1, n1, n2, n3, n4⟩ := md1 (ce := ce) (most := most) (many := many) (gr := gr) (r := r) (t := t) (by omega) (by omega)
  obtain ⟨row, gr2, r2, t2, e2, hr⟩ := md2 (ce := ce) (most := most) (many := many) (gr := gr1) (r := r1) (t := t1) (s4 := some (.int so, .fz)) n4 (by omega)
  have hrl := hr.length_eq
  have hrn : row.Nodup := hr.nodup_iff.mpr n3
  have e3 := md3 (ce := ce) (most := most) (many := many) (gr := gr2) (r := r2) (t := t2) (s3 := some (.lst (ns.map sd), .fz)) (s4 := some (.int so, .fz)) (row := row) (by omega) (by omega)
  obtain ⟨ties, e4, k4, l4⟩ := md4 (ce := ce) (most := most) (many := many) (gr := gr2) (r := r2) (t := t2) (so := so) (s3 := some (.lst (ns.map sd), .fz)) (row := row) (by omega) (by omega) hrn
  have k4' : TOk ns ties := k4.perm (List.Perm.refl _) hr.symm
  have hv : ∀ {l : List (Str × Str)}, TOk ns l → ∀ p ∈ l, NmP p := fun h p hp => ⟨n4 _ (h.ok p hp).1, n4 _ (h.ok p hp).2.1⟩
  obtain ⟨mx, gr5, r5, t5, e5, hp⟩ := md5 (ce := ce) (most := most) (many := many) (gr := gr2) (r := r2) (t := t2) (s4 := some (.int so, .fz)) (s5 := some (.lst (row.map sd), .fz)) (ties := ties) n4 (by omega) (hv k4')
  have kp : TOk ns mx := (prs_ok n3).perm hp (List.Perm.refl _)
  have hml : mx.length ≤ 10000 := by rw [hp.length_eq]; exact prs_len (by omega)
  obtain ⟨more, hmore⟩ : ∃ more, more = mx.filter fun p => !decide (p ∈ ties) := ⟨_, rfl⟩
  rw [← hmore] at e5
  have hm1 : more.Sublist mx := by rw [hmore]; exact List.filter_sublist
  have hm2 : ∀ p ∈ more, p ∉ ties := fun p hp => by rw [hmore] at hp; simpa using (List.mem_filter.mp hp).2
  have hm3 : more.length ≤ 10000 := Nat.le_trans hm1.length_le hml
  obtain ⟨room, hroom, e6⟩ := md6 (ce := ce) (most := most) (many := many) (gr := gr5) (r := r5) (t := t5) (s3 := some (.lst (ns.map sd), .fz)) (s4 := some (.int so, .fz)) (s5 := some (.lst (row.map sd), .fz)) (s9 := some (.lst (more.map pd), .fz)) (ties := ties) l4 (by omega)
  obtain ⟨wish, gr7, r7, t7, e7⟩ := md7 (ce := ce) (most := most) (many := many) (gr := gr5) (r := r5) (t := t5) (s3 := some (.lst (ns.map sd), .fz)) (s4 := some (.int so, .fz)) (s5 := some (.lst (row.map sd), .fz)) (s6 := some (.lst (ties.map pd), .fz)) (s9 := some (.lst (more.map pd), .fz)) hroom
  obtain ⟨size, e8⟩ := md8 (ce := ce) (most := most) (many := many) (gr := gr7) (r := r7) (t := t7) (s3 := some (.lst (ns.map sd), .fz)) (s4 := some (.int so, .fz)) (s5 := some (.lst (row.map sd), .fz)) (s6 := some (.lst (ties.map pd), .fz)) (more := more) (room := room) (wish := wish)
  have e9 := md9 (ce := ce) (most := most) (gr := gr7) (r := r7) (t := t7) (s3 := some (.lst (ns.map sd), .fz)) (s4 := some (.int so, .fz)) (s5 := some (.lst (row.map sd), .fz)) (s11 := some (.int room, .fz)) (s12 := some (.int wish, .fz)) (ties := ties) (more := more) (size := size) (mm := many) (by omega) hm3
  obtain ⟨fin, hfin⟩ : ∃ fin, fin = (ties ++ more.take size).take many := ⟨_, rfl⟩
  rw [← hfin] at e9
  have kall : TOk ns (ties ++ more.take size) := k4'.app (kp.sub ((List.take_sublist _ _).trans hm1)) fun p hp => hm2 p (List.mem_of_mem_take hp)
  have kfin : TOk ns fin := by rw [hfin]; exact kall.sub (List.take_sublist _ _)
  have lfin : fin.length ≤ many := by rw [hfin]; exact List.length_take_le _ _
  have e10 := md10 (ce := ce) (most := most) (many := many) (gr := gr7) (r := r7) (t := t7) (s4 := some (.int so, .fz)) (s5 := some (.lst (row.map sd), .fz)) (s11 := some (.int room, .fz)) (s12 := some (.int wish, .fz)) (s13 := some (.int size, .fz)) (ns := ns) (ties := fin) (more := more) (by omega) (by omega) hm3 (hv kfin)
  have kend : TOk ns (if fin = [] then more.take 1 else fin) := by
    split
    · exact kp.sub ((List.take_sublist _ _).trans hm1)
    · exact kfin
  have lend : 1 ≤ (if fin = [] then more.take 1 else fin).length ∧ (if fin = [] then more.take 1 else fin).length ≤ many := by
    split
    · rename_i hf
      rw [hf] at hfin
      have ht : ties = [] := by
        cases ties with
        | nil => rfl
        | cons a l =>
          cases many with
          | zero => omega
          | succ k => rw [List.cons_append, List.take_succ_cons] at hfin; cases hfin
      have hmm : more = mx := by
        rw [hmore, ht]
        exact List.filter_eq_self.mpr fun _ _ => by simp
      have hne : 1 ≤ mx.length := by
        rw [hp.length_eq]
        obtain ⟨a, b, rest, hns⟩ : ∃ a b rest, ns = a :: b :: rest := two_of n1
        rw [hns] at n3 ⊢
        have : (a, b) ∈ prsL (a :: b :: rest) := mem_prs.mpr ⟨by simp, by simp, fun e => by simp at n3; exact n3.1.1 e⟩
        exact List.length_pos_of_mem this
      rw [List.length_take, hmm]
      omega
    · rename_i hf
      exact ⟨List.length_pos_iff.mpr hf, lfin⟩
  refine ⟨srt sd ns, srt pd (if fin = [] then more.take 1 else fin), gr7, r7, t7, ?_, ⟨by rw [srt_len]; exact n1, by rw [srt_len]; omega, (srt_perm sd ns).nodup_iff.mpr n3, fun x hx => n4 x (srt_mem.mp hx), srt_sorted sd ns, by rw [srt_len]; exact lend.1, by rw [srt_len]; exact lend.2, kend.perm (srt_perm pd _) (srt_perm sd ns), srt_sorted pd _⟩⟩
  unfold mdIf at e4
  have eb : bodyEnv 14 [some (.drw gr r ce t, .pn), some (.int (most : Int), .fz), some (.int (many : Int), .fz)] = mdE gr r ce t most many none none none none none none none none := rfl
  have e := e10
  unfold D_law_model
  rw [ev_dB, eb]
  have em : m_law_model (mdE gr r ce t most many none none none none none none none none) = .ok (.rt (mdD (srt sd ns) (srt pd (if fin = [] then more.take 1 else fin))) .ow (mdE gr7 r7 ce t7 most many (some (.lst (ns.map sd), .fz)) (some (.int so, .fz)) (some (.lst (row.map sd), .fz)) (some (.lst (fin.map pd), .fz)) (some (.lst (more.map pd), .fz)) (some (.int room, .fz)) (some (.int wish, .fz)) (some (.int size, .fz)))) := by
    unfold m_law_model
    rw [sSeq_nx e1, sSeq_nx e2, sSeq_nx e3, sSeq_nx (show _ = _ from e4), sSeq_nx e5, sSeq_nx e6, sSeq_nx e7, sSeq_nx e8, sSeq_nx e9]
    exact e10
  rw [em]
  rfl
end VL
/-! VW12: names, parties and handings judged. -/
namespace VL
open PySem PySem.Spec PyProof.Rows L2 PySem.W
/-- a list or a tuple -/
def sq (b : Bool) (l : List D) : D := if b = true then .tup l else .lst l
theorem sq_len (b : Bool) (l : List D) : dLen (sq b l) = some (.int l.length, .fz) := by cases b <;> rfl
theorem sq_isi (b : Bool) (l : List D) : dIsi (tyTab ["list", "tuple"] TS) (sq b l) = some (.bl true, .fz) := by
  have h2 : (tyTab ["list", "tuple"] TS).lookup (.ty "tuple") = some true := by decide +kernel
  cases b
  · exact isi_list l
  · show dIsi _ (.tup l) = _
    simp [dIsi, D.tag, h2]
theorem sq_fz (b : Bool) (l : List D) : (sq b l).fzOk = true := by cases b <;> rfl
theorem sq_it {i : Nat} {b : Bool} {l : List D} {ρ : VL.Env} (h : ρ[i]? = some (some (sq b l, .fz))) : iSeq (xV i) ρ = .ok (l, false, ρ) := by
  rw [ev_iSeq, ev_xV, h]
  cases b <;> rfl
theorem sq_sort {α : Type} {f : α → D} {l : List α} {b : Bool} (h : sortOk (l.map f) = true) : dSorted (sq b (l.map f)) = some (.lst ((srt f l).map f), .ow) := by
  cases b
  · exact sorted_l h
  · exact sorted_t h
theorem Enc.in_q {α : Type} {f : α → D} {g : α → PyData} {P : α → Prop} (E : Enc f g P) {a : α} {l : List α} {c : Bool} (ha : P a) (h : ∀ b ∈ l, P b) [DecidableEq α] : dIn (f a) (sq c (l.map f)) = some (.bl (decide (a ∈ l)), .fz) := by
  cases c
  · exact E.in_l ha h
  · exact E.in_t ha h
theorem Enc.ni_q {α : Type} {f : α → D} {g : α → PyData} {P : α → Prop} (E : Enc f g P) {a : α} {l : List α} {c : Bool} (ha : P a) (h : ∀ b ∈ l, P b) [DecidableEq α] : dNotIn (f a) (sq c (l.map f)) = some (.bl (!decide (a ∈ l)), .fz) := by
  cases c
  · exact E.ni_l ha h
  · exact E.ni_t ha h
theorem xV_fz {i : Nat} {d : D} {ρ : VL.Env} (h : ρ[i]? = some (some (d, .fz))) : xV i ρ = .ok (d, .fz, ρ) := by rw [ev_xV, h]
theorem xApp_ok {g : List D → Option (D × Kd)} {f : AE} {ρ ρ1 : VL.Env} {l : List (D × Kd)} {d : D} {k : Kd} (hf : f ρ = .ok (l, ρ1)) (hg : g (l.map (·.1)) = some (d, k)) : xApp g f ρ = .ok (d, k, ρ1) := by
  rw [ev_xApp, hf]
  simp only [Res.bind_ok, hg, Res.pure_ok]
theorem xAp2_ok {s : Bool} {g : D → D → Option (D × Kd)} {f1 f2 : EE} {ρ ρ1 ρ2 : VL.Env} {a b d : D} {k1 k2 k : Kd} (h1 : f1 ρ = .ok (a, k1, ρ1)) (hk : k1 = .br → s = true) (h2 : f2 ρ1 = .ok (b, k2, ρ2)) (hg : g a b = some (d, k)) : xAp2 s g f1 f2 ρ = .ok (d, k, ρ2) := by
  rw [ev_xAp2, h1]
  simp only [Res.bind_ok]
  rw [if_neg (fun e => by have := hk e.1; rw [this] at e; exact Bool.noConfusion e.2), h2]
  simp only [Res.bind_ok, hg, Res.pure_ok]
theorem xTst_ok {f : EE} {ρ ρ1 : VL.Env} {b : Bool} {k : Kd} (h : f ρ = .ok (.bl b, k, ρ1)) : xTst f ρ = .ok (b, ρ1) := by
  rw [ev_xTst, h]; rfl
theorem bNot_ok {f : BE} {ρ ρ1 : VL.Env} {b : Bool} (h : f ρ = .ok (b, ρ1)) : bNot f ρ = .ok (!b, ρ1) := by
  rw [ev_bNot, h]; rfl
theorem bOr_f {f g : BE} {ρ ρ1 : VL.Env} (h : f ρ = .ok (false, ρ1)) : bOr f g ρ = g ρ1 := by
  rw [ev_bOr, ev_bIf, h]; rfl
theorem xAnd_t {f g : EE} {ρ ρ1 : VL.Env} {k : Kd} (h : f ρ = .ok (.bl true, k, ρ1)) : xAnd f g ρ = g ρ1 := by
  rw [ev_xAnd, ev_xIfD, h]; rfl
theorem sRet_ok {f : EE} {ρ ρ1 : VL.Env} {d : D} {k : Kd} (h : f ρ = .ok (d, k, ρ1)) (hk : k ≠ .br) : sRet f ρ = .ok (.rt d k ρ1) := by
  rw [ev_sRet, h]
  cases k <;> first | rfl | exact absurd rfl hk
theorem sIf_f {c : BE} {s t : SE} {ρ ρ1 : VL.Env} (h : c ρ = .ok (false, ρ1)) : sIf c s t ρ = t ρ1 := by rw [ev_sIf, h]; rfl
theorem sIf_t {c : BE} {s t : SE} {ρ ρ1 : VL.Env} (h : c ρ = .ok (true, ρ1)) : sIf c s t ρ = s ρ1 := by rw [ev_sIf, h]; rfl
theorem sNil_ok (ρ : VL.Env) : sNil ρ = .ok (.nx ρ) := rfl
theorem xChain_ok {g g' : D → D → Option (D × Kd)} {f1 f2 f3 : EE} {ρ : VL.Env} {a b c : D} {k1 k2 k3 : Kd} {x : Bool} (h1 : f1 ρ = .ok (a, k1, ρ)) (hk1 : k1 ≠ .br) (h2 : f2 ρ = .ok (b, k2, ρ)) (hk2 : k2 ≠ .br) (h3 : f3 ρ = .ok (c, k3, ρ)) (e1 : g a b = some (.bl true, .fz)) (e2 : g' b c = some (.bl x, .fz)) : xChain g g' f1 f2 f3 ρ = .ok (.bl x, .fz, ρ) := by
  rw [ev_xChain, h1]
  simp only [Res.bind_ok]
  rw [if_neg hk1, h2]
  simp only [Res.bind_ok]
  rw [if_neg hk2]
  unfold chainM
  rw [e1]
  simp only
  unfold chainK
  simp [h3, e2]
theorem bls_true : ∀ n : Nat, blsOf (List.replicate n (.bl true)) = some (List.replicate n true)
  | 0 => rfl
  | n + 1 => by simp only [List.replicate_succ, blsOf, bls_true n]; rfl
theorem all_true {l : List D} (h : ∀ d ∈ l, d = .bl true) : dAll (.lst l) = some (.bl true, .fz) := by
  have : l = List.replicate l.length (.bl true) := List.eq_replicate_iff.mpr ⟨rfl, h⟩
  rw [this]
  show (blsOf _).map _ = _
  rw [bls_true]
  simp
/-- all([e for x in xs]), all of them true -/
theorem all_lc {α : Type} {f : α → D} {l : List α} {v : Nat} {it : IE} {e : EE} {ρ : VL.Env} (hi : it ρ = .ok (l.map f, false, ρ)) (hw : wipable ρ [v] = true) (hl : l.length ≤ 1000000) (he : ∀ x ∈ l, ∃ ρ1, gNm v (f x) (wipeR ρ [v]) = .ok ρ1 ∧ ∃ k ρ3, e ρ1 = .ok (.bl true, k, ρ3) ∧ k ≠ .br) : xApp (f1 dAll) (aC true (xLc [v] it (gNm v) bYes e) aN) ρ = .ok (.bl true, .fz, ρ) := by
  have lc := lcS_map (g := gNm v) (t := bYes) (e := e) (ρ := wipeR ρ [v]) f (fun _ => true) (fun _ => .bl true) l (fun x hx => by
    obtain ⟨ρ1, h1, k, ρ3, h2, h3⟩ := he x hx
    exact ⟨ρ1, h1, ρ1, rfl, fun _ => ⟨k, ρ3, h2, h3, rfl⟩⟩)
  rw [List.filter_eq_self.mpr (fun _ _ => rfl)] at lc
  have ex := xLc_ok (vs := [v]) (e := e) hi hw (by rw [List.length_map]; exact zz hl) lc
  refine xApp_ok (aC1_ok ex (by simp)) ?_
  exact all_true fun d hd => by obtain ⟨x, _, rfl⟩ := List.mem_map.mp hd; rfl
theorem is_list_eq (b : Bool) (l : List D) : D_is_list [some (sq b l, .fz)] = .ok (.bl true, .fz) := by
  have h := sq_isi b l
  unfold D_is_list m_is_list
  generalize sq b l = Q at *
  simp [bodyEnv, h]
theorem isi_str (x : Str) : dIsi (tyTab ["str"] TS) (.str x) = some (.bl true, .fz) := by
  have h2 : (tyTab ["str"] TS).lookup (.ty "str") = some true := by decide +kernel
  simp [dIsi, D.tag, h2]
theorem isi_tup (l : List D) : dIsi (tyTab ["tuple"] TS) (.tup l) = some (.bl true, .fz) := by
  have h2 : (tyTab ["tuple"] TS).lookup (.ty "tuple") = some true := by decide +kernel
  simp [dIsi, D.tag, h2]
theorem abc_mem : ∀ c : Nat, 97 ≤ c ∧ c ≤ 122 → c ∈ abc.cps.toList := by
  have : ∀ c : Fin 123, 97 ≤ c.val → c.val ∈ abc.cps.toList := by decide +kernel
  exact fun c h => this ⟨c, by omega⟩ h.1
theorem is_name_eq {x : Str} (h : Nm x) : D_is_name [some (sd x, .fz)] = .ok (.bl true, .fz) := by
  have h1 := h.l1
  have h6 := h.l6
  have e1 : xAp1 (dIsi (tyTab ["str"] TS)) (xV 0) [some (sd x, .fz), none] = .ok (.bl true, .fz, [some (sd x, .fz), none]) := by
    have h := isi_str x
    have e : sd x = .str x := rfl
    rw [← e] at h
    generalize sd x = X at *
    simp [h]
  have el : xApp (f1 dLen) (aC true (xV 0) aN) [some (sd x, .fz), none] = .ok (.int x.length, .fz, [some (sd x, .fz), none]) := by
    refine xApp_ok (aC1_ok (d := sd x) (k := .fz) rfl (by simp)) ?_
    show (if x.length ≤ sizeLine then some (D.int x.length, Kd.fz) else none) = _
    rw [if_pos (zz (by omega))]
  have e2 : xChain dLe dLe (xC (.int 1)) (xApp (f1 dLen) (aC true (xV 0) aN)) (xC (.int 6)) [some (sd x, .fz), none] = .ok (.bl true, .fz, [some (sd x, .fz), none]) :=
    xChain_ok rfl (by simp) el (by simp) rfl (by rw [ev_le]; simp; omega) (by rw [ev_le]; simp; omega)
  have e3 : xApp (f1 dAll) (aC true (xLc [1] (iTxt (xV 0)) (gNm 1) bYes (xAp2 true dIn (xV 1) (xC (.str "abcdefghijklmnopqrstuvwxyz")))) aN) [some (sd x, .fz), none] = .ok (.bl true, .fz, [some (sd x, .fz), none]) := by
    refine all_lc (f := fun c => D.str (sg c)) (l := x.cps.toList) rfl rfl (by rw [← len_cps]; omega) fun c hc => ⟨[some (sd x, .fz), some (.str (sg c), .fz)], rfl, .fz, [some (sd x, .fz), some (.str (sg c), .fz)], xAp2_ok rfl (by simp) rfl ?_, by simp⟩
    have hm := abc_mem c (h.ch c hc)
    show ((signOf (sg c)).map fun c => decide (c ∈ abc.cps.toList)).map _ = _
    have : signOf (sg c) = some c := rfl
    rw [this]
    simp only [Option.map_some, hm, decide_true]
  unfold D_is_name
  refine dA_rt (ρ1 := [some (sd x, .fz), none]) ?_ (by simp)
  show m_is_name [some (sd x, .fz), none] = _
  unfold m_is_name
  refine sRet_ok ?_ (by simp)
  rw [xAnd_t e1, xAnd_t e2]
  exact e3
end VL
/-! VW13: parties and handings judged; webs made. -/
namespace VL
open PySem PySem.Spec PyProof.Rows L2 PySem.W
theorem putA_new {κ α : Type} [DecidableEq κ] {kvs : List (κ × α)} {k : κ} {v : α} (h : k ∉ kvs.map (·.1)) : putA kvs k v = kvs ++ [(k, v)] := by
  unfold putA
  rw [if_neg]
  rw [any_keys]
  simpa using fun x hx => h (by simpa using ⟨x, hx⟩)
theorem dc_k {x : Bool} : ∀ {l : List Str} {acc : List (Key × D)}, l.Nodup → (∀ a ∈ l, kw a ∉ acc.map (·.1)) → acc.length + l.length ≤ 1000 → ∀ {s0 : Slot}, dcS (gNm 1) bYes (xV 1) (xC (.bl true)) [s0, none] (l.map sd) (.dK acc) = .ok (.dK (acc ++ l.map fun a => (kw a, .bl true)))
  | [], acc, _, _, _, s0 => by simp [dcS]
  | a :: l, acc, hn, hd, hz, s0 => by
    simp only [List.length_cons] at hz
    have hp : putD1 (.dK acc) (sd a) (.bl true) = some (.dK (acc ++ [(kw a, .bl true)])) := by
      show (if acc.length < 1000000 then some (D.dK (putA acc (kw a) (.bl true))) else none) = _
      rw [if_pos (by omega), putA_new (hd a List.mem_cons_self)]
    have ih := dc_k (x := x) (l := l) (acc := acc ++ [(kw a, .bl true)]) (List.nodup_cons.mp hn).2 (fun b hb => by
      rw [List.map_append, List.mem_append, not_or]
      refine ⟨hd b (List.mem_cons_of_mem _ hb), fun h => ?_⟩
      have : kw b = kw a := by simpa using h
      have : b = a := Sum.inr.inj this
      exact (List.nodup_cons.mp hn).1 (this ▸ hb)) (by simp; omega) (s0 := s0)
    rw [List.map_cons, dcS]
    have e1 : gNm 1 (sd a) [s0, none] = .ok [s0, some (sd a, .fz)] := rfl
    have e2 : xV 1 [s0, some (sd a, .fz)] = .ok (sd a, .fz, [s0, some (sd a, .fz)]) := rfl
    simp only [e1, Res.bind_ok, ev_bYes, Res.pure_ok, if_true, e2, ev_xC, fzB, ne_eq, reduceCtorEq, not_false_eq_true, decide_true, Bool.and_self, hp]
    rw [ih, List.append_assoc]; rfl
theorem dc_t : ∀ {l : List (Str × Str)} {acc : List (List Key × D)}, l.Nodup → (∀ a ∈ l, [kw a.1, kw a.2] ∉ acc.map (·.1)) → acc.length + l.length ≤ 1000 → ∀ {s0 : Slot}, dcS (gNm 1) bYes (xV 1) (xC (.bl true)) [s0, none] (l.map pd) (.dT acc) = .ok (.dT (acc ++ l.map fun a => ([kw a.1, kw a.2], .bl true)))
  | [], acc, _, _, _, s0 => by simp [dcS]
  | a :: l, acc, hn, hd, hz, s0 => by
    simp only [List.length_cons] at hz
    have hp : putD1 (.dT acc) (pd a) (.bl true) = some (.dT (acc ++ [([kw a.1, kw a.2], .bl true)])) := by
      show (if acc.length < 1000000 then some (D.dT (putA acc [kw a.1, kw a.2] (.bl true))) else none) = _
      rw [if_pos (by omega), putA_new (hd a List.mem_cons_self)]
    have ih := dc_t (l := l) (acc := acc ++ [([kw a.1, kw a.2], .bl true)]) (List.nodup_cons.mp hn).2 (fun b hb => by
      rw [List.map_append, List.mem_append, not_or]
      refine ⟨hd b (List.mem_cons_of_mem _ hb), fun h => ?_⟩
      have : [kw b.1, kw b.2] = [kw a.1, kw a.2] := by simpa using h
      rw [List.cons.injEq, List.cons.injEq] at this
      have : b = a := Prod.ext (Sum.inr.inj this.1) (Sum.inr.inj this.2.1)
      exact (List.nodup_cons.mp hn).1 (this ▸ hb)) (by simp; omega) (s0 := s0)
    rw [List.map_cons, dcS]
    have e1 : gNm 1 (pd a) [s0, none] = .ok [s0, some (pd a, .fz)] := rfl
    have e2 : xV 1 [s0, some (pd a, .fz)] = .ok (pd a, .fz, [s0, some (pd a, .fz)]) := rfl
    simp only [e1, Res.bind_ok, ev_bYes, Res.pure_ok, if_true, e2, ev_xC, fzB, ne_eq, reduceCtorEq, not_false_eq_true, decide_true, Bool.and_self, hp]
    rw [ih, List.append_assoc]; rfl
theorem unlike_of {Q : D} {n : Nat} {d : D} (hl : dLen Q = some (.int n, .fz)) (hx : xDc [1] (iSeq (xV 0)) (gNm 1) bYes (xV 1) (xC (.bl true)) [some (Q, .fz), none] = .ok (d, .ow, [some (Q, .fz), none])) (hd : dLenD d = some (.int n, .fz)) : D_are_unlike [some (Q, .fz)] = .ok (.bl true, .fz) := by
  unfold D_are_unlike
  refine dA_rt (ρ1 := [some (Q, .fz), none]) ?_ (by simp)
  show m_are_unlike [some (Q, .fz), none] = _
  unfold m_are_unlike
  refine sRet_ok (xAp2_ok (xApp_ok (aC1_ok hx (by simp)) hd) (by simp) (xApp_ok (aC1_ok (xV_fz rfl) (by simp)) hl) ?_) (by simp)
  rw [ev_eq]; simp
theorem unlike_s {l : List Str} {b : Bool} (hn : l.Nodup) (hl : l.length ≤ 100) : D_are_unlike [some (sq b (l.map sd), .fz)] = .ok (.bl true, .fz) := by
  have it := sq_it (i := 0) (b := b) (l := l.map sd) (ρ := [some (sq b (l.map sd), .fz), none]) rfl
  have dc := dc_k (x := true) (l := l) (acc := []) hn (by simp) (by simp; omega) (s0 := some (sq b (l.map sd), .fz))
  refine unlike_of (n := l.length) (d := .dK (l.map fun a => (kw a, .bl true))) (by rw [sq_len, List.length_map]) ?_ (by show some (D.int _, Kd.fz) = _; rw [List.length_map])
  rw [ev_xDc, it]
  simp only [Res.bind_ok]
  have hw : wipable [some (sq b (l.map sd), .fz), none] [1] = true := rfl
  have hr : wipeR [some (sq b (l.map sd), .fz), none] [1] = [some (sq b (l.map sd), .fz), none] := rfl
  rw [if_pos hw, hr, dc]
  rfl
theorem unlike_p {l : List (Str × Str)} {b : Bool} (hn : l.Nodup) (h1 : 1 ≤ l.length) (hl : l.length ≤ 100) : D_are_unlike [some (sq b (l.map pd), .fz)] = .ok (.bl true, .fz) := by
  have it := sq_it (i := 0) (b := b) (l := l.map pd) (ρ := [some (sq b (l.map pd), .fz), none]) rfl
  have dc := dc_t (l := l) (acc := []) hn (by simp) (by simp; omega) (s0 := some (sq b (l.map pd), .fz))
  have db : dcS (gNm 1) bYes (xV 1) (xC (.bl true)) [some (sq b (l.map pd), .fz), none] (l.map pd) (.dK []) = .bad := by
    cases l with
    | nil => simp at h1
    | cons a l =>
      generalize sq b ((a :: l).map pd) = Q
      rw [List.map_cons, dcS]
      have e1 : gNm 1 (pd a) [some (Q, .fz), none] = .ok [some (Q, .fz), some (pd a, .fz)] := rfl
      have e2 : xV 1 [some (Q, .fz), some (pd a, .fz)] = .ok (pd a, .fz, [some (Q, .fz), some (pd a, .fz)]) := rfl
      have hp : putD1 (.dK []) (pd a) (.bl true) = none := rfl
      simp only [e1, Res.bind_ok, ev_bYes, Res.pure_ok, if_true, e2, ev_xC, fzB, ne_eq, reduceCtorEq, not_false_eq_true, decide_true, Bool.and_self, hp]
  refine unlike_of (n := l.length) (d := .dT (l.map fun a => ([kw a.1, kw a.2], .bl true))) (by rw [sq_len, List.length_map]) ?_ (by show some (D.int _, Kd.fz) = _; rw [List.length_map])
  rw [ev_xDc, it]
  simp only [Res.bind_ok]
  have hw : wipable [some (sq b (l.map pd), .fz), none] [1] = true := rfl
  have hr : wipeR [some (sq b (l.map pd), .fz), none] [1] = [some (sq b (l.map pd), .fz), none] := rfl
  rw [if_pos hw, hr, db, dc]
  rfl
theorem call1 {m : FA} {i : Nat} {ρ : VL.Env} {d : D} {r : D} (h : ρ[i]? = some (some (d, .fz))) (hd : d.fzOk = true) (hm : m [some (d, .fz)] = .ok (r, .fz)) : xCall m (aC true (xV i) aN) ρ = .ok (r, .fz, ρ) :=
  callA_ok (aC1_ok (xV_fz h) (by simp)) (by simp [argsOk, hd]) hm (by simp)
theorem call2 {m : FA} {i j : Nat} {ρ : VL.Env} {d e : D} {r : D} (h : ρ[i]? = some (some (d, .fz))) (h2 : ρ[j]? = some (some (e, .fz))) (hd : d.fzOk = true) (he : e.fzOk = true) (hm : m [some (d, .fz), some (e, .fz)] = .ok (r, .fz)) : xCall m (aC true (xV i) (aC true (xV j) aN)) ρ = .ok (r, .fz, ρ) :=
  callA_ok (aC_ok (xV_fz h) (by simp) (aC1_ok (xV_fz h2) (by simp))) (by simp [argsOk, hd, he]) hm (by simp)
/-- both checks of a list's kind and length pass -/
theorem chk {i : Nat} {b : Bool} {l : List D} {lo hi : Int} {ρ : VL.Env} {A : SE} (h : ρ[i]? = some (some (sq b l, .fz))) (h1 : lo ≤ l.length) (h2 : (l.length : Int) ≤ hi) : sIf (bOr (bNot (xTst (xCall D_is_list (aC true (xV i) aN)))) (bNot (xTst (xChain dLe dLe (xC (.int lo)) (xApp (f1 dLen) (aC true (xV i) aN)) (xC (.int hi)))))) A sNil ρ = .ok (.nx ρ) := by
  have c1 := call1 (m := D_is_list) h (sq_fz b l) (is_list_eq b l)
  have e1 := bNot_ok (xTst_ok c1)
  have el : xApp (f1 dLen) (aC true (xV i) aN) ρ = .ok (.int l.length, .fz, ρ) := xApp_ok (aC1_ok (xV_fz h) (by simp)) (sq_len b l)
  have c2 := xChain_ok (ρ := ρ) (g := dLe) (g' := dLe) (f1 := xC (.int lo)) (f3 := xC (.int hi)) (x := true) (ev_xC _ _) (by simp) el (by simp) (ev_xC _ _) (by rw [ev_le]; simp; omega) (by rw [ev_le]; simp; omega)
  have e2 := bNot_ok (xTst_ok c2)
  exact (sIf_f ((bOr_f e1).trans e2)).trans (sNil_ok ρ)
theorem are_parties_eq {l : List Str} {b : Bool} (hn : l.Nodup) (h2 : 2 ≤ l.length) (h6 : l.length ≤ 6) (hv : ∀ x ∈ l, Nm x) : D_are_parties [some (sq b (l.map sd), .fz)] = .ok (.bl true, .fz) := by
  have e1 := chk (i := 0) (b := b) (l := l.map sd) (lo := 2) (hi := 6) (ρ := [some (sq b (l.map sd), .fz), none]) (A := sRet (xC (.bl false))) rfl (by rw [List.length_map]; omega) (by rw [List.length_map]; omega)
  have it := sq_it (i := 0) (b := b) (l := l.map sd) (ρ := [some (sq b (l.map sd), .fz), none]) rfl
  have e2 := all_lc (f := sd) (l := l) (v := 1) (e := xCall D_is_name (aC true (xV 1) aN)) it rfl (by omega) fun x hx => ⟨[some (sq b (l.map sd), .fz), some (sd x, .fz)], rfl, .fz, _, call1 rfl rfl (is_name_eq (hv x hx)), by simp⟩
  have e3 := call1 (m := D_are_unlike) (i := 0) (ρ := [some (sq b (l.map sd), .fz), none]) rfl (sq_fz _ _) (unlike_s (b := b) hn (by omega))
  unfold D_are_parties
  refine dA_rt (ρ1 := [some (sq b (l.map sd), .fz), none]) ?_ (by simp)
  show m_are_parties [some (sq b (l.map sd), .fz), none] = _
  unfold m_are_parties
  rw [sSeq_nx e1]
  exact sRet_ok ((xAnd_t e2).trans e3) (by simp)
theorem is_handing_eq {l : List Str} {b : Bool} {p : Str × Str} (hv : ∀ x ∈ l, Nm x) (h1 : p.1 ∈ l) (h2 : p.2 ∈ l) (hne : p.1 ≠ p.2) : D_is_handing [some (sq b (l.map sd), .fz), some (pd p, .fz)] = .ok (.bl true, .fz) := by
  have ep : pd p = .tup ([p.1, p.2].map sd) := rfl
  have c1 : bNot (xTst (xAp1 (dIsi (tyTab ["tuple"] TS)) (xV 1))) [some (sq b (l.map sd), .fz), some (pd p, .fz), none] = .ok (false, [some (sq b (l.map sd), .fz), some (pd p, .fz), none]) := by
    refine bNot_ok (b := true) (xTst_ok (k := .fz) ?_)
    have := isi_tup ([p.1, p.2].map sd)
    rw [← ep] at this
    generalize pd p = PP at *
    simp [this]
  have c2 : xTst (xAp2 true dNe (xApp (f1 dLen) (aC true (xV 1) aN)) (xC (.int 2))) [some (sq b (l.map sd), .fz), some (pd p, .fz), none] = .ok (false, [some (sq b (l.map sd), .fz), some (pd p, .fz), none]) := by
    refine xTst_ok (k := .fz) (xAp2_ok (xApp_ok (aC1_ok (xV_fz rfl) (by simp)) (d := .int 2) (k := .fz) rfl) (by simp) (ev_xC _ _) ?_)
    show (dEqB (.int 2) (.int 2)).map _ = _
    have : dEqB (.int 2) (.int 2) = some true := by decide +kernel
    rw [this]; rfl
  have it : iSeq (xV 1) [some (sq b (l.map sd), .fz), some (pd p, .fz), none] = .ok ([p.1, p.2].map sd, false, [some (sq b (l.map sd), .fz), some (pd p, .fz), none]) := rfl
  have c3 : bNot (xTst (xApp (f1 dAll) (aC true (xLc [2] (iSeq (xV 1)) (gNm 2) bYes (xAp1 (dIsi (tyTab ["str"] TS)) (xV 2))) aN))) [some (sq b (l.map sd), .fz), some (pd p, .fz), none] = .ok (false, [some (sq b (l.map sd), .fz), some (pd p, .fz), none]) := by
    refine bNot_ok (b := true) (xTst_ok (k := .fz) (all_lc (f := sd) it rfl (by simp) fun x hx => ⟨[some (sq b (l.map sd), .fz), some (pd p, .fz), some (sd x, .fz)], rfl, .fz, [some (sq b (l.map sd), .fz), some (pd p, .fz), some (sd x, .fz)], ?_, by simp⟩))
    have e := isi_str x
    rw [show D.str x = sd x from rfl] at e
    generalize sd x = X at *
    simp [e]
  have e4 : xAp2 true dNe (xAp2 true dIdx (xV 1) (xC (.int 0))) (xAp2 true dIdx (xV 1) (xC (.int 1))) [some (sq b (l.map sd), .fz), some (pd p, .fz), none] = .ok (.bl true, .fz, [some (sq b (l.map sd), .fz), some (pd p, .fz), none]) := by
    have i0 : dIdx (pd p) (.int 0) = some (sd p.1, .fz) := by
      rw [show pd p = .tup [sd p.1, sd p.2] from rfl, ev_idx_t, atI_zero]; rfl
    have i1 : dIdx (pd p) (.int 1) = some (sd p.2, .fz) := by
      rw [show pd p = .tup [sd p.1, sd p.2] from rfl, ev_idx_t, show (1 : Int) = ((1 : Nat) : Int) from rfl, atI_nat (xs := [sd p.1, sd p.2]) (j := 1) rfl]; rfl
    refine xAp2_ok (xAp2_ok (xV_fz rfl) (by simp) (ev_xC _ _) i0) (by simp) (xAp2_ok (xV_fz rfl) (by simp) (ev_xC _ _) i1) ?_
    rw [ne_sd]; simp [hne]
  have e5 : xApp (f1 dAll) (aC true (xLc [2] (iSeq (xV 1)) (gNm 2) bYes (xAp2 true dIn (xV 2) (xV 0))) aN) [some (sq b (l.map sd), .fz), some (pd p, .fz), none] = .ok (.bl true, .fz, [some (sq b (l.map sd), .fz), some (pd p, .fz), none]) := by
    refine all_lc (f := sd) it rfl (by simp) fun x hx => ⟨[some (sq b (l.map sd), .fz), some (pd p, .fz), some (sd x, .fz)], rfl, .fz, [some (sq b (l.map sd), .fz), some (pd p, .fz), some (sd x, .fz)], ?_, by simp⟩
    have hx' : x ∈ l := by
      simp only [List.mem_cons, List.not_mem_nil, or_false] at hx
      rcases hx with rfl | rfl
      · exact h1
      · exact h2
    have := encS.in_q (c := b) (hv x hx') hv
    rw [decide_eq_true hx'] at this
    exact xAp2_ok (xV_fz rfl) (by simp) (xV_fz rfl) this
  unfold D_is_handing
  refine dA_rt (ρ1 := [some (sq b (l.map sd), .fz), some (pd p, .fz), none]) ?_ (by simp)
  show m_is_handing [some (sq b (l.map sd), .fz), some (pd p, .fz), none] = _
  unfold m_is_handing
  rw [sSeq_nx ((sIf_f ((bOr_f c1).trans ((bOr_f c2).trans c3))).trans (sNil_ok _))]
  exact sRet_ok ((xAnd_t e4).trans e5) (by simp)
theorem are_handings_eq {l : List Str} {hs : List (Str × Str)} {b c : Bool} (hv : ∀ x ∈ l, Nm x) (hk : TOk l hs) (h1 : 1 ≤ hs.length) (h12 : hs.length ≤ 12) : D_are_handings [some (sq b (l.map sd), .fz), some (sq c (hs.map pd), .fz)] = .ok (.bl true, .fz) := by
  have e1 := chk (i := 1) (b := c) (l := hs.map pd) (lo := 1) (hi := 12) (ρ := [some (sq b (l.map sd), .fz), some (sq c (hs.map pd), .fz), none]) (A := sRet (xC (.bl false))) rfl (by rw [List.length_map]; omega) (by rw [List.length_map]; omega)
  have it := sq_it (i := 1) (b := c) (l := hs.map pd) (ρ := [some (sq b (l.map sd), .fz), some (sq c (hs.map pd), .fz), none]) rfl
  have e2 := all_lc (f := pd) (l := hs) (v := 2) (e := xCall D_is_handing (aC true (xV 0) (aC true (xV 2) aN))) it rfl (by omega) fun x hx => ⟨[some (sq b (l.map sd), .fz), some (sq c (hs.map pd), .fz), some (pd x, .fz)], rfl, .fz, _, call2 rfl rfl (sq_fz _ _) rfl (is_handing_eq hv (hk.ok x hx).1 (hk.ok x hx).2.1 (hk.ok x hx).2.2), by simp⟩
  have e3 := call1 (m := D_are_unlike) (i := 1) (ρ := [some (sq b (l.map sd), .fz), some (sq c (hs.map pd), .fz), none]) rfl (sq_fz _ _) (unlike_p (b := c) hk.nd h1 (by omega))
  unfold D_are_handings
  refine dA_rt (ρ1 := [some (sq b (l.map sd), .fz), some (sq c (hs.map pd), .fz), none]) ?_ (by simp)
  show m_are_handings [some (sq b (l.map sd), .fz), some (sq c (hs.map pd), .fz), none] = _
  unfold m_are_handings
  rw [sSeq_nx e1]
  exact sRet_ok ((xAnd_t e2).trans e3) (by simp)
/-! webs -/
def webD (ps : List Str) (hs : List (Str × Str)) : D := .ins 50 [("own_parties", .tup (ps.map sd)), ("own_handings", .tup (hs.map pd))]
theorem init_eq {l : List Str} {hs : List (Str × Str)} {b c : Bool} (hn : l.Nodup) (h2 : 2 ≤ l.length) (h6 : l.length ≤ 6) (hv : ∀ x ∈ l, Nm x) (hk : TOk l hs) (h1 : 1 ≤ hs.length) (h12 : hs.length ≤ 12) : D_Web_init [some (.ins 50 [], .pn), some (sq b (l.map sd), .fz), some (sq c (hs.map pd), .fz)] = .ok (.non, .fz, webD (srt sd l) (srt pd hs)) := by
  have c1 := call1 (m := D_are_parties) (i := 1) (ρ := [some (.ins 50 [], .pn), some (sq b (l.map sd), .fz), some (sq c (hs.map pd), .fz)]) rfl (sq_fz _ _) (are_parties_eq (b := b) hn h2 h6 hv)
  have c2 := call2 (m := D_are_handings) (i := 1) (j := 2) (ρ := [some (.ins 50 [], .pn), some (sq b (l.map sd), .fz), some (sq c (hs.map pd), .fz)]) rfl rfl (sq_fz _ _) (sq_fz _ _) (are_handings_eq (b := b) (c := c) hv hk h1 h12)
  have s1 := sq_sort (f := sd) (l := l) (b := b) (sortOk_sd (by omega))
  have s2 := sq_sort (f := pd) (l := hs) (b := c) (sortOk_pd (by omega))
  have x1 : sFldSet [50] 0 "own_parties" (xApp (f1 dTuple) (aC true (xApp (f1 dSorted) (aC true (xV 1) aN)) aN)) [some (.ins 50 [], .pn), some (sq b (l.map sd), .fz), some (sq c (hs.map pd), .fz)] = .ok (.nx [some (.ins 50 [("own_parties", .tup ((srt sd l).map sd))], .pn), some (sq b (l.map sd), .fz), some (sq c (hs.map pd), .fz)]) := by
    rw [ev_sFldSet, xApp_ok (aC1_ok (xApp_ok (aC1_ok (xV_fz (i := 1) rfl) (by simp)) s1) (by simp)) (ev_tuple_l _)]
    rfl
  have x2 : sFldSet [50] 0 "own_handings" (xApp (f1 dTuple) (aC true (xApp (f1 dSorted) (aC true (xV 2) aN)) aN)) [some (.ins 50 [("own_parties", .tup ((srt sd l).map sd))], .pn), some (sq b (l.map sd), .fz), some (sq c (hs.map pd), .fz)] = .ok (.nx [some (webD (srt sd l) (srt pd hs), .pn), some (sq b (l.map sd), .fz), some (sq c (hs.map pd), .fz)]) := by
    rw [ev_sFldSet, xApp_ok (aC1_ok (xApp_ok (aC1_ok (xV_fz (i := 2) rfl) (by simp)) s2) (by simp)) (ev_tuple_l _)]
    rfl
  have em : m_Web_init [some (.ins 50 [], .pn), some (sq b (l.map sd), .fz), some (sq c (hs.map pd), .fz)] = .ok (.nx [some (webD (srt sd l) (srt pd hs), .pn), some (sq b (l.map sd), .fz), some (sq c (hs.map pd), .fz)]) := by
    unfold m_Web_init
    rw [sSeq_nx ((sIf_f (bNot_ok (xTst_ok c1))).trans (sNil_ok _)), sSeq_nx ((sIf_f (bNot_ok (xTst_ok c2))).trans (sNil_ok _)), sSeq_nx x1]
    exact x2
  unfold D_Web_init
  rw [ev_dB, show bodyEnv 3 [some (.ins 50 [], .pn), some (sq b (l.map sd), .fz), some (sq c (hs.map pd), .fz)] = [some (.ins 50 [], .pn), some (sq b (l.map sd), .fz), some (sq c (hs.map pd), .fz)] from rfl, em]
  rfl
end VL
/-! VW14: webs of models; a handing more, a handing less; takers; shorter first. -/
namespace VL
open PySem PySem.Spec PyProof.Rows L2 PySem.W
/-- what a web is made of -/
structure Wb (ps : List Str) (hs : List (Str × Str)) : Prop where
  l2 : 2 ≤ ps.length
  l6 : ps.length ≤ 6
  nd : ps.Nodup
  nm : ∀ x ∈ ps, Nm x
  so : ps.Pairwise (fun a b => leF sd a b = true)
  h1 : 1 ≤ hs.length
  hm : hs.length ≤ 12
  tk : TOk ps hs
  hs : hs.Pairwise (fun a b => leF pd a b = true)
theorem Mod.wb {most many : Nat} {dots ties} (h : Mod most many dots ties) (h1 : most ≤ 6) (h2 : many ≤ 12) : Wb dots ties := ⟨h.l2, Nat.le_trans h.l6 h1, h.nd, h.nm, h.so, h.t1, Nat.le_trans h.tm h2, h.tk, h.ts⟩
theorem Wb.nmp {ps hs} (h : Wb ps hs) : ∀ p ∈ hs, NmP p := fun p hp => ⟨h.nm _ (h.tk.ok p hp).1, h.nm _ (h.tk.ok p hp).2.1⟩
theorem xMake_ok {cn : Nat} {m : FB} {f : AE} {ρ ρ1 : VL.Env} {l : List (D × Kd)} {d : D} (hf : f ρ = .ok (l, ρ1)) (ha : argsOk l = true) (hm : m (some (.ins cn [], .pn) :: l.map argS) = .ok (.non, .fz, d)) (hd : d.isDrw = false) : xMake cn m f ρ = .ok (d, .ow, ρ1) := by
  rw [ev_xMake, hf]
  simp only [Res.bind_ok]
  rw [if_pos ha, hm]
  simp only
  rw [if_neg (by rw [hd]; simp)]
theorem get_dots {f : EE} {ρ ρ1 : VL.Env} {k : Kd} {ds ts} (h : f ρ = .ok (mdD ds ts, k, ρ1)) : xGet "dots" f ρ = .ok (.lst (ds.map sd), .fz, ρ1) := by
  rw [ev_xGet, h]; rfl
theorem get_ties {f : EE} {ρ ρ1 : VL.Env} {k : Kd} {ds ts} (h : f ρ = .ok (mdD ds ts, k, ρ1)) : xGet "ties" f ρ = .ok (.lst (ts.map pd), .fz, ρ1) := by
  rw [ev_xGet, h]; rfl
theorem srt_rev {α : Type} {f : α → D} {l : List α} (h : l.Pairwise (fun a b => leF f a b = true)) (inj : ∀ a b, tokD (f a) = tokD (f b) → a = b) : srt f l.reverse = l := (srt_congr (List.reverse_perm l) inj).trans (srt_fix h)
theorem law_web_eq {ps hs} (h : Wb ps hs) : D_law_web [some (mdD ps hs, .fz)] = .ok (webD ps hs, .ow) := by
  have g1 : xAp1 dRev (xApp (f1 dList) (aC true (xGet "dots" (xV 0)) aN)) [some (mdD ps hs, .fz)] = .ok (sq false (ps.reverse.map sd), .ow, [some (mdD ps hs, .fz)]) := by
    rw [ev_xAp1, xApp_ok (aC1_ok (get_dots (xV_fz rfl)) (by simp)) (ev_list_l _)]
    simp only [Res.bind_ok, ev_rev, Res.pure_ok]
    rw [← List.map_reverse]; rfl
  have g2 : xAp1 dRev (xApp (f1 dList) (aC true (xGet "ties" (xV 0)) aN)) [some (mdD ps hs, .fz)] = .ok (sq false (hs.reverse.map pd), .ow, [some (mdD ps hs, .fz)]) := by
    rw [ev_xAp1, xApp_ok (aC1_ok (get_ties (xV_fz rfl)) (by simp)) (ev_list_l _)]
    simp only [Res.bind_ok, ev_rev, Res.pure_ok]
    rw [← List.map_reverse]; rfl
  have i := init_eq (l := ps.reverse) (hs := hs.reverse) (b := false) (c := false) ((List.reverse_perm ps).nodup_iff.mpr h.nd) (by simp; exact h.l2) (by simp; exact h.l6) (fun x hx => h.nm x (by simpa using hx)) (h.tk.perm (List.reverse_perm hs) (List.reverse_perm ps)) (by simp; exact h.h1) (by simp; exact h.hm)
  rw [srt_rev h.so sd_inj, srt_rev h.hs pd_inj] at i
  unfold D_law_web
  refine dA_rt (ρ1 := [some (mdD ps hs, .fz)]) (k := .ow) ?_ (by simp)
  show m_law_web [some (mdD ps hs, .fz)] = _
  unfold m_law_web
  exact sRet_ok (xMake_ok (aC_ok g1 (by simp) (aC1_ok g2 (by simp))) rfl i rfl) (by simp)
theorem fld_p {i : Nat} {ps hs} {ρ : VL.Env} (h : ρ[i]? = some (some (webD ps hs, .fz))) : xAp1 (dFld [50] "own_parties") (xV i) ρ = .ok (sq true (ps.map sd), .fz, ρ) := by
  rw [ev_xAp1, xV_fz h]; rfl
theorem fld_h {i : Nat} {ps hs} {ρ : VL.Env} (h : ρ[i]? = some (some (webD ps hs, .fz))) : xAp1 (dFld [50] "own_handings") (xV i) ρ = .ok (sq true (hs.map pd), .fz, ρ) := by
  rw [ev_xAp1, xV_fz h]; rfl
theorem more_eq {ps hs} {p : Str × Str} (h : Wb ps hs) (h1 : p.1 ∈ ps) (h2 : p.2 ∈ ps) (hne : p.1 ≠ p.2) (hp : p ∉ hs) (hl : hs.length < 12) : D_Web_with_handing [some (webD ps hs, .fz), some (pd p, .fz)] = .ok (webD ps (srt pd (hs ++ [p])), .ow) := by
  have c1 : bNot (xTst (xCall D_is_handing (aC true (xAp1 (dFld [50] "own_parties") (xV 0)) (aC true (xV 1) aN)))) [some (webD ps hs, .fz), some (pd p, .fz)] = .ok (false, [some (webD ps hs, .fz), some (pd p, .fz)]) :=
    bNot_ok (xTst_ok (callA_ok (aC_ok (fld_p rfl) (by simp) (aC1_ok (xV_fz rfl) (by simp))) rfl (is_handing_eq (b := true) h.nm h1 h2 hne) (by simp)))
  have hn : NmP p := ⟨h.nm _ h1, h.nm _ h2⟩
  have en : dIn (pd p) (sq true (hs.map pd)) = some (.bl false, .fz) := (encP.in_q (c := true) hn h.nmp).trans (by simp [hp])
  have c2 : xTst (xAp2 true dIn (xV 1) (xAp1 (dFld [50] "own_handings") (xV 0))) [some (webD ps hs, .fz), some (pd p, .fz)] = .ok (false, [some (webD ps hs, .fz), some (pd p, .fz)]) := xTst_ok (xAp2_ok (xV_fz rfl) (by simp) (fld_h rfl) en)
  have kt : TOk ps (hs ++ [p]) := h.tk.app ⟨by simp, fun q hq => by have : q = p := by simpa using hq
                                                                    rw [this]; exact ⟨h1, h2, hne⟩⟩ fun q hq => by have : q = p := by simpa using hq
                                                                                                                   rw [this]; exact hp
  have i := init_eq (l := ps) (hs := hs ++ [p]) (b := true) (c := true) h.nd h.l2 h.l6 h.nm kt (by simp) (by simp; omega)
  rw [srt_fix h.so] at i
  have zl : ((fzL (hs.map pd) ++ [(pd p, Kd.fz)])).length ≤ sizeLine := by
    unfold fzL; rw [List.length_append, List.length_map, List.length_map]; exact zz (by simp; omega)
  have fa : fzAll (fzL (hs.map pd) ++ [(pd p, Kd.fz)]) = true := by
    unfold fzAll fzL
    rw [List.all_append, List.all_map, List.all_map]
    simp [pd]
  have em : (fzL (hs.map pd) ++ [(pd p, Kd.fz)]).map (·.1) = (hs ++ [p]).map pd := by
    unfold fzL
    rw [List.map_append, List.map_append, List.map_map, List.map_map]; rfl
  have x1 : xTup (aStar (xAp1 (dFld [50] "own_handings") (xV 0)) (aC true (xV 1) aN)) [some (webD ps hs, .fz), some (pd p, .fz)] = .ok (sq true ((hs ++ [p]).map pd), .fz, [some (webD ps hs, .fz), some (pd p, .fz)]) := by
    have e1 : aStar (xAp1 (dFld [50] "own_handings") (xV 0)) (aC true (xV 1) aN) [some (webD ps hs, .fz), some (pd p, .fz)] = .ok (fzL (hs.map pd) ++ [(pd p, Kd.fz)], [some (webD ps hs, .fz), some (pd p, .fz)]) := by
      rw [ev_aStar, fld_h rfl, show sq true (hs.map pd) = .tup (hs.map pd) from rfl]
      simp only [Res.bind_ok]
      rw [aC1_ok (d := pd p) (k := .fz) (xV_fz rfl) (by simp)]; rfl
    rw [ev_xTup, e1]
    simp only [Res.bind_ok]
    rw [if_pos ⟨fa, zl⟩, em]; rfl
  unfold D_Web_with_handing
  refine dA_rt (ρ1 := [some (webD ps hs, .fz), some (pd p, .fz)]) (k := .ow) ?_ (by simp)
  show m_Web_with_handing [some (webD ps hs, .fz), some (pd p, .fz)] = _
  unfold m_Web_with_handing
  rw [sSeq_nx ((sIf_f ((bOr_f c1).trans c2)).trans (sNil_ok _))]
  exact sRet_ok (xMake_ok (aC_ok (fld_p rfl) (by simp) (aC1_ok x1 (by simp))) rfl i rfl) (by simp)
theorem less_eq {ps hs} {p : Str × Str} (h : Wb ps hs) (hp : p ∈ hs) (hl : 1 < hs.length) : D_Web_without [some (webD ps hs, .fz), some (pd p, .fz)] = .ok (webD ps (hs.filter fun q => !decide (q = p)), .ow) := by
  have hq := h.tk.ok p hp
  have hn : NmP p := h.nmp p hp
  have c1 : bNot (xTst (xCall D_is_handing (aC true (xAp1 (dFld [50] "own_parties") (xV 0)) (aC true (xV 1) aN)))) [some (webD ps hs, .fz), some (pd p, .fz)] = .ok (false, [some (webD ps hs, .fz), some (pd p, .fz)]) :=
    bNot_ok (xTst_ok (callA_ok (aC_ok (fld_p rfl) (by simp) (aC1_ok (xV_fz rfl) (by simp))) rfl (is_handing_eq (b := true) h.nm hq.1 hq.2.1 hq.2.2) (by simp)))
  have en : dNotIn (pd p) (sq true (hs.map pd)) = some (.bl false, .fz) := (encP.ni_q (c := true) hn h.nmp).trans (by simp [hp])
  have c2 : xTst (xAp2 true dNotIn (xV 1) (xAp1 (dFld [50] "own_handings") (xV 0))) [some (webD ps hs, .fz), some (pd p, .fz)] = .ok (false, [some (webD ps hs, .fz), some (pd p, .fz)]) := xTst_ok (xAp2_ok (xV_fz rfl) (by simp) (fld_h rfl) en)
  have need : D_need_handing [some (webD ps hs, .fz), some (pd p, .fz)] = .ok (.non, .fz) := by
    unfold D_need_handing
    rw [ev_dA, show bodyEnv 2 [some (webD ps hs, .fz), some (pd p, .fz)] = [some (webD ps hs, .fz), some (pd p, .fz)] from rfl]
    have : m_need_handing [some (webD ps hs, .fz), some (pd p, .fz)] = .ok (.nx [some (webD ps hs, .fz), some (pd p, .fz)]) := (sIf_f ((bOr_f c1).trans c2)).trans (sNil_ok _)
    rw [this]
  have a1 : sEx (xCall D_need_handing (aC true (xV 0) (aC true (xV 1) aN))) [some (webD ps hs, .fz), some (pd p, .fz), none] = .ok (.nx [some (webD ps hs, .fz), some (pd p, .fz), none]) := sEx_ok (call2 rfl rfl rfl rfl need)
  have it : iSeq (xAp1 (dFld [50] "own_handings") (xV 0)) [some (webD ps hs, .fz), some (pd p, .fz), none] = .ok (hs.map pd, false, [some (webD ps hs, .fz), some (pd p, .fz), none]) := by
    rw [ev_iSeq, fld_h rfl]; rfl
  have lc := lcS_map (g := gNm 2) (t := xTst (xAp2 true dNe (xV 2) (xV 1))) (e := xV 2) (ρ := [some (webD ps hs, .fz), some (pd p, .fz), none]) pd (fun q => !decide (q = p)) pd hs (fun q hqm =>
    ⟨[some (webD ps hs, .fz), some (pd p, .fz), some (pd q, .fz)], rfl, [some (webD ps hs, .fz), some (pd p, .fz), some (pd q, .fz)], xTst_ok (xAp2_ok (xV_fz rfl) (by simp) (xV_fz rfl) (ne_pd (h.nmp q hqm) hn)), fun _ => ⟨.fz, _, xV_fz rfl, by simp, rfl⟩⟩)
  have ex := xLc_ok (vs := [2]) (e := xV 2) it rfl (by rw [List.length_map]; exact zz (by have := h.hm; omega)) lc
  have sub : (hs.filter fun q => !decide (q = p)).Sublist hs := List.filter_sublist
  have l1 : 1 ≤ (hs.filter fun q => !decide (q = p)).length := by
    obtain ⟨a, b, r, e⟩ := two_of (l := hs) (by omega)
    have nd := h.tk.nd
    have hab : a ≠ b := by rw [e] at nd; simp at nd; exact nd.1.1
    by_cases ha : a = p
    · exact List.length_pos_of_mem (List.mem_filter.mpr ⟨(by rw [e]; simp : b ∈ hs), by have hb : b ≠ p := fun h => hab (ha.trans h.symm); simpa using hb⟩)
    · exact List.length_pos_of_mem (List.mem_filter.mpr ⟨(by rw [e]; simp : a ∈ hs), by simp [ha]⟩)
  have i := init_eq (l := ps) (hs := hs.filter fun q => !decide (q = p)) (b := true) (c := false) h.nd h.l2 h.l6 h.nm (h.tk.sub sub) l1 (Nat.le_trans sub.length_le h.hm)
  rw [srt_fix h.so, srt_fix (h.hs.sublist sub)] at i
  unfold D_Web_without
  refine dA_rt (ρ1 := [some (webD ps hs, .fz), some (pd p, .fz), none]) (k := .ow) ?_ (by simp)
  show m_Web_without [some (webD ps hs, .fz), some (pd p, .fz), none] = _
  unfold m_Web_without
  rw [sSeq_nx a1]
  exact sRet_ok (xMake_ok (aC_ok (fld_p rfl) (by simp) (aC1_ok ex (by simp))) rfl i rfl) (by simp)
/-! takers -/
def nx (hs : List (Str × Str)) (a : Str) : List Str := (hs.filter fun p => decide (p.1 = a)).map (·.2)
theorem tk_lc {X : D} {fl : Fl} {hs : List (Str × Str)} {a : Str} : lcS (gTp 2 (gsC (gNm 2) (gsC (gNm 3) gsN))) (xTst (xAp2 true dEq (xV 2) (xV 1))) (xV 3) [some (X, fl), some (sd a, .fz), none, none] (hs.map pd) = .ok ((nx hs a).map sd) := by
  have lc := lcS_map (g := gTp 2 (gsC (gNm 2) (gsC (gNm 3) gsN))) (t := xTst (xAp2 true dEq (xV 2) (xV 1))) (e := xV 3) (ρ := [some (X, fl), some (sd a, .fz), none, none]) pd (fun p => decide (p.1 = a)) (fun p => sd p.2) hs (fun p _ =>
    ⟨[some (X, fl), some (sd a, .fz), some (sd p.1, .fz), some (sd p.2, .fz)], rfl, [some (X, fl), some (sd a, .fz), some (sd p.1, .fz), some (sd p.2, .fz)], xTst_ok (xAp2_ok (xV_fz rfl) (by simp) (xV_fz rfl) (eq_sd _ _)), fun _ => ⟨.fz, _, xV_fz rfl, by simp, rfl⟩⟩)
  rw [lc]; unfold nx; rw [List.map_map]; rfl
theorem takers_eq {ps hs} {a : Str} (hl : hs.length ≤ 100) : D_takers_of [some (webD ps hs, .fz), some (sd a, .fz)] = .ok (.lst ((nx hs a).map sd), .ow) := by
  have it : iSeq (xAp1 (dFld [50] "own_handings") (xV 0)) [some (webD ps hs, .fz), some (sd a, .fz), none, none] = .ok (hs.map pd, false, [some (webD ps hs, .fz), some (sd a, .fz), none, none]) := by
    rw [ev_iSeq, fld_h rfl]; rfl
  have ex := xLc_ok (vs := [2, 3]) (e := xV 3) it rfl (by rw [List.length_map]; exact zz (by omega)) tk_lc
  unfold D_takers_of
  refine dA_rt (ρ1 := [some (webD ps hs, .fz), some (sd a, .fz), none, none]) (k := .ow) ?_ (by simp)
  show m_takers_of [some (webD ps hs, .fz), some (sd a, .fz), none, none] = _
  unfold m_takers_of
  exact sRet_ok ex (by simp)
theorem next_eq {ps hs} {a : Str} (hl : hs.length ≤ 100) : D_law_next [some (mdD ps hs, .fz), some (sd a, .fz)] = .ok (.lst ((nx hs a).map sd), .ow) := by
  have it : iSeq (xGet "ties" (xV 0)) [some (mdD ps hs, .fz), some (sd a, .fz), none, none] = .ok (hs.map pd, false, [some (mdD ps hs, .fz), some (sd a, .fz), none, none]) := by
    rw [ev_iSeq, get_ties (xV_fz rfl)]; rfl
  have ex := xLc_ok (vs := [2, 3]) (e := xV 3) it rfl (by rw [List.length_map]; exact zz (by omega)) tk_lc
  unfold D_law_next
  refine dA_rt (ρ1 := [some (mdD ps hs, .fz), some (sd a, .fz), none, none]) (k := .ow) ?_ (by simp)
  show m_law_next [some (mdD ps hs, .fz), some (sd a, .fz), none, none] = _
  unfold m_law_next
  exact sRet_ok ex (by simp)
/-! shorter first -/
theorem shorter_eq {fl : Fl} {ws : List (List Str)} (hfl : fl = .fz ∨ fl = .lk) (hl : ws.length ≤ 1000000) : D_law_shorter [some (.lst (ws.map wd), fl)] = .ok (.lst ((srt kd ws).map wd), .ow) := by
  have z2 : 2 ≤ sizeLine := zz (by decide)
  obtain ⟨br, it⟩ : ∃ br, iSeq (xV 0) [some (.lst (ws.map wd), fl), none, none] = .ok (ws.map wd, br, [some (.lst (ws.map wd), fl), none, none]) := by
    rcases hfl with rfl | rfl <;> exact ⟨_, rfl⟩
  have lc := lcS_map (g := gNm 2) (t := bYes) (e := xTup (aC true (xApp (f1 dLen) (aC true (xV 2) aN)) (aC true (xV 2) aN))) (ρ := [some (.lst (ws.map wd), fl), none, none]) wd (fun _ => true) kd ws (fun w _ =>
    ⟨[some (.lst (ws.map wd), fl), none, some (wd w, .fz)], rfl, [some (.lst (ws.map wd), fl), none, some (wd w, .fz)], rfl, fun _ => ⟨.fz, [some (.lst (ws.map wd), fl), none, some (wd w, .fz)], by
      rw [ev_xTup, aC_ok (d := .int w.length) (k := .fz) (xApp_ok (aC1_ok (xV_fz rfl) (by simp)) (by show some (D.int (w.map sd).length, Kd.fz) = _; rw [List.length_map])) (by simp) (aC1_ok (xV_fz rfl) (by simp))]
      simp only [Res.bind_ok]
      rw [if_pos ⟨rfl, z2⟩]; rfl, by simp, rfl⟩⟩)
  rw [List.filter_eq_self.mpr (fun _ _ => rfl)] at lc
  have ex := xLc_ok (vs := [2]) (e := xTup (aC true (xApp (f1 dLen) (aC true (xV 2) aN)) (aC true (xV 2) aN))) it rfl (by rw [List.length_map]; exact zz hl) lc
  have so := sorted_l (sortOk_kd (l := ws) hl)
  have it2 : iSeq (xApp (f1 dSorted) (aC true (xLc [2] (iSeq (xV 0)) (gNm 2) bYes (xTup (aC true (xApp (f1 dLen) (aC true (xV 2) aN)) (aC true (xV 2) aN)))) aN)) [some (.lst (ws.map wd), fl), none, none] = .ok ((srt kd ws).map kd, false, [some (.lst (ws.map wd), fl), none, none]) := by
    rw [ev_iSeq, xApp_ok (aC1_ok ex (by simp)) so]; rfl
  have lc2 := lcS_map (g := gTp 2 (gsC (gNm 1) (gsC (gNm 2) gsN))) (t := bYes) (e := xV 2) (ρ := [some (.lst (ws.map wd), fl), none, none]) kd (fun _ => true) wd (srt kd ws) (fun w _ =>
    ⟨[some (.lst (ws.map wd), fl), some (.int w.length, .fz), some (wd w, .fz)], rfl, [some (.lst (ws.map wd), fl), some (.int w.length, .fz), some (wd w, .fz)], rfl, fun _ => ⟨.fz, _, xV_fz rfl, by simp, rfl⟩⟩)
  rw [List.filter_eq_self.mpr (fun _ _ => rfl)] at lc2
  have ex2 := xLc_ok (vs := [1, 2]) (e := xV 2) it2 rfl (by rw [List.length_map, srt_len]; exact zz hl) lc2
  unfold D_law_shorter
  refine dA_rt (ρ1 := [some (.lst (ws.map wd), fl), none, none]) (k := .ow) ?_ (by simp)
  show m_law_shorter [some (.lst (ws.map wd), fl), none, none] = _
  unfold m_law_shorter
  exact sRet_ok ex2 (by simp)
theorem shorter_eq2 {fl : Fl} {ws : List (List Str)} (hfl : fl = .fz ∨ fl = .lk) (hl : ws.length ≤ 1000000) : D_shorter_first [some (.lst (ws.map wd), fl)] = .ok (.lst ((srt kd ws).map wd), .ow) := shorter_eq hfl hl
end VL
/-! VW15: ways as lists; the law's own search. -/
namespace VL
open PySem PySem.Spec PyProof.Rows L2 PySem.W
def lst (w : List Str) : Str := w.getLastD ""
def ext (hs : List (Str × Str)) (w : List Str) : List (List Str) := ((nx hs (lst w)).filter fun b => !decide (b ∈ w)).map fun b => w ++ [b]
/-- the ways that go on from w to g -/
def tr (hs : List (Str × Str)) (g : Str) : Nat → List Str → List (List Str)
  | 0, _ => []
  | n + 1, w => if lst w = g then [w] else (ext hs w).flatMap (tr hs g n)
structure Gd (ps : List Str) (w : List Str) : Prop where
  ne : w ≠ []
  nd : w.Nodup
  sub : ∀ x ∈ w, x ∈ ps
theorem Gd.len {ps w : List Str} (h : Gd ps w) : w.length ≤ ps.length := nodup_len w ps h.nd h.sub
theorem mem_nx {hs : List (Str × Str)} {a b : Str} : b ∈ nx hs a ↔ (a, b) ∈ hs := by
  unfold nx
  simp only [List.mem_map, List.mem_filter, decide_eq_true_eq]
  constructor
  · rintro ⟨p, ⟨h1, rfl⟩, rfl⟩; exact h1
  · intro h; exact ⟨(a, b), ⟨h, rfl⟩, rfl⟩
theorem nx_nd {hs : List (Str × Str)} (h : hs.Nodup) (a : Str) : (nx hs a).Nodup := by
  unfold nx
  have hf := h.sublist (List.filter_sublist (p := fun p : Str × Str => decide (p.1 = a)))
  refine (List.pairwise_map).mpr (List.Pairwise.imp_of_mem (fun {x y} hx hy hxy e => ?_) hf)
  have h1 := (List.mem_filter.mp hx).2
  have h2 := (List.mem_filter.mp hy).2
  simp only [decide_eq_true_eq] at h1 h2
  exact hxy (Prod.ext (h1.trans h2.symm) e)
theorem nx_len {ps hs} (h : Wb ps hs) (a : Str) : (nx hs a).length ≤ 6 := Nat.le_trans (nodup_len _ ps (nx_nd h.tk.nd a) fun b hb => (h.tk.ok _ (mem_nx.mp hb)).2.1) h.l6
theorem ext_len {ps hs} (h : Wb ps hs) (w : List Str) : (ext hs w).length ≤ 6 := by
  unfold ext
  rw [List.length_map]
  exact Nat.le_trans (List.length_filter_le _ _) (nx_len h _)
theorem ext_gd {ps hs} (h : Wb ps hs) {w : List Str} (hw : Gd ps w) : ∀ c ∈ ext hs w, Gd ps c ∧ c.length = w.length + 1 := fun c hc => by
  unfold ext at hc
  obtain ⟨b, hb, rfl⟩ := List.mem_map.mp hc
  obtain ⟨h1, h2⟩ := List.mem_filter.mp hb
  have hbw : b ∉ w := by simpa using h2
  refine ⟨⟨by simp, List.nodup_append.mpr ⟨hw.nd, by simp, fun x hx y hy e => ?_⟩, fun x hx => ?_⟩, by simp⟩
  · have : y = b := by simpa using hy
    exact hbw (this ▸ e ▸ hx)
  · rcases List.mem_append.mp hx with hx | hx
    · exact hw.sub x hx
    · have : x = b := by simpa using hx
      rw [this]; exact (h.tk.ok _ (mem_nx.mp h1)).2.1
theorem flat_len {α β : Type} (f : α → List β) (n : Nat) : ∀ l : List α, (∀ a ∈ l, (f a).length ≤ n) → (l.flatMap f).length ≤ l.length * n
  | [], _ => by simp
  | a :: l, h => by
    rw [List.flatMap_cons, List.length_append, List.length_cons]
    have h1 := h a List.mem_cons_self
    have h2 := flat_len f n l fun b hb => h b (List.mem_cons_of_mem _ hb)
    have : (l.length + 1) * n = l.length * n + n := by rw [Nat.add_mul, Nat.one_mul]
    omega
theorem tr_len {ps hs} (h : Wb ps hs) (g : Str) : ∀ (n : Nat) (w : List Str), (tr hs g n w).length ≤ 6 ^ n
  | 0, w => by simp [tr]
  | n + 1, w => by
    unfold tr
    split
    · have h6 : 0 < 6 ^ (n + 1) := Nat.pow_pos (by decide)
      exact h6
    · refine Nat.le_trans (flat_len (tr hs g n) (6 ^ n) _ fun a _ => tr_len h g n a) ?_
      rw [Nat.pow_succ, Nat.mul_comm]
      exact Nat.mul_le_mul_left _ (ext_len h w)
theorem tr_gd {ps hs} (h : Wb ps hs) (g : Str) : ∀ (n : Nat) (w : List Str), Gd ps w → ∀ c ∈ tr hs g n w, Gd ps c
  | 0, w, _, c, hc => by simp [tr] at hc
  | n + 1, w, hw, c, hc => by
    unfold tr at hc
    split at hc
    · have : c = w := by simpa using hc
      rw [this]; exact hw
    · obtain ⟨d, hd, hc⟩ := List.mem_flatMap.mp hc
      exact tr_gd h g n d (ext_gd h hw d hd).1 c hc
/-- one level of the law's search -/
theorem level_perm (hs : List (Str × Str)) (g : Str) (n : Nat) : ∀ line : List (List Str), (line.flatMap (tr hs g (n + 1))).Perm (line.filter (fun w => decide (lst w = g)) ++ ((line.filter fun w => !decide (lst w = g)).flatMap (ext hs)).flatMap (tr hs g n))
  | [] => by simp
  | w :: line => by
    have ih := level_perm hs g n line
    rw [List.flatMap_cons]
    by_cases e : lst w = g
    · have e1 : tr hs g (n + 1) w = [w] := by unfold tr; rw [if_pos e]
      rw [e1, List.filter_cons_of_pos (by simpa using e), List.filter_cons_of_neg (by simpa using e)]
      exact List.Perm.cons w ih
    · have e1 : tr hs g (n + 1) w = (ext hs w).flatMap (tr hs g n) := by rw [tr, if_neg e]
      rw [e1, List.filter_cons_of_neg (by simpa using e), List.filter_cons_of_pos (by simpa using e), List.flatMap_cons, List.flatMap_append]
      refine (List.Perm.append_left _ ih).trans ?_
      rw [← List.append_assoc, ← List.append_assoc]
      exact List.Perm.append_right _ List.perm_append_comm
theorem wd_idx {w : List Str} (h : w ≠ []) : dIdx (wd w) (.int (-1)) = some (sd (lst w), .fz) := by
  have e : lst w = w.getLast h := by unfold lst; rw [List.getLastD_eq_getLast?, List.getLast?_eq_getLast h]; rfl
  show (atI (w.map sd) (-1)).map (fun d => (d, Kd.fz)) = _
  rw [at_last h, e]; rfl
theorem wd_add {w : List Str} {b : Str} (h : w ≠ []) (hl : w.length ≤ 1000) : dAdd (wd w) (.tup [sd b]) = some (wd (w ++ [b]), .fz) := by
  show (if w.map sd ≠ [] ∧ [sd b] ≠ [] ∧ (w.map sd).length + [sd b].length ≤ sizeLine then some (D.tup (w.map sd ++ [sd b]), Kd.fz) else none) = _
  rw [if_pos ⟨by simpa using h, by simp, zz (by simp; omega)⟩]
  unfold wd; rw [List.map_append]; rfl
/-! the law's search, step by step -/
def wyE (ps : List Str) (hs : List (Str × Str)) (s g : Str) (found line longer : List (List Str)) (s6 : Slot) : VL.Env := [some (mdD ps hs, .fz), some (sd s, .fz), some (sd g, .fz), some (.lst (found.map wd), .ow), some (.lst (line.map wd), .fz), some (.lst (longer.map wd), .fz), s6, none]
section
variable {ps : List Str} {hs : List (Str × Str)} {s g : Str}
theorem wy_last {found line longer : List (List Str)} {w : List Str} (h : w ≠ []) : xAp2 true dIdx (xV 6) (xAp1 dNeg (xC (.int 1))) (wyE ps hs s g found line longer (some (wd w, .fz))) = .ok (sd (lst w), .fz, wyE ps hs s g found line longer (some (wd w, .fz))) := by
  refine xAp2_ok (xV_fz rfl) (by simp) (b := .int (-1)) (k2 := .fz) (ρ2 := wyE ps hs s g found line longer (some (wd w, .fz))) ?_ (wd_idx h)
  rw [ev_xAp1, ev_xC]; rfl
theorem wy_in (hb : Wb ps hs) {found line longer : List (List Str)} {w : List Str} (hw : Gd ps w) (h1 : found.length ≤ 100000) (h2 : longer.length ≤ 100000) : mb_law_ways_2 (wyE ps hs s g found line longer (some (wd w, .fz))) = .ok (.nx (if lst w = g then wyE ps hs s g (found ++ [w]) line longer (some (wd w, .fz)) else wyE ps hs s g found line (longer ++ ext hs w) (some (wd w, .fz)))) := by
  have el := wy_last (ps := ps) (hs := hs) (s := s) (g := g) (found := found) (line := line) (longer := longer) hw.ne
  have ec : xTst (xAp2 true dEq (xAp2 true dIdx (xV 6) (xAp1 dNeg (xC (.int 1)))) (xV 2)) (wyE ps hs s g found line longer (some (wd w, .fz))) = .ok (decide (lst w = g), wyE ps hs s g found line longer (some (wd w, .fz))) := xTst_ok (xAp2_ok el (by simp) (xV_fz rfl) (eq_sd _ _))
  have hwl : w.length ≤ 1000 := Nat.le_trans hw.len (Nat.le_trans hb.l6 (by decide))
  unfold mb_law_ways_2
  by_cases e : lst w = g
  · rw [if_pos e]
    rw [decide_eq_true e] at ec
    rw [sIf_t ec]
    refine sEx_ok (d := .non) (k := .fz) ?_
    have hz : (found.map wd).length < sizeLine := by rw [List.length_map, sizeLine_eq]; omega
    have ha : mAppend (.lst (found.map wd)) [wd w] = some (.lst ((found ++ [w]).map wd), .non) := by
      show (if (found.map wd).length < sizeLine then some (D.lst (found.map wd ++ [wd w]), D.non) else none) = _
      rw [if_pos hz]; simp
    rw [ev_xMut]
    show (if ownFl .ow = true ∧ (D.lst (found.map wd)).isLst = true then _ else _) = _
    rw [if_pos ⟨rfl, rfl⟩, aC1_ok (xV_fz rfl) (by simp)]
    simp only [Res.bind_ok]
    unfold mutK wyE
    simp only [List.getElem?_cons_succ, List.getElem?_cons_zero]
    rw [if_pos ⟨rfl, rfl, rfl⟩]
    simp only [List.map_cons, List.map_nil, ha]
    rfl
  · rw [if_neg e]
    rw [decide_eq_false e] at ec
    rw [sIf_f ec]
    have en := next_eq (ps := ps) (hs := hs) (a := lst w) (by have := hb.hm; omega)
    have cn : xCall D_law_next (aC true (xV 0) (aC true (xAp2 true dIdx (xV 6) (xAp1 dNeg (xC (.int 1)))) aN)) (wyE ps hs s g found line longer (some (wd w, .fz))) = .ok (.lst ((nx hs (lst w)).map sd), .ow, wyE ps hs s g found line longer (some (wd w, .fz))) := callA_ok (aC_ok (xV_fz rfl) (by simp) (aC1_ok el (by simp))) rfl en (by simp)
    have it : iSeq (xCall D_law_next (aC true (xV 0) (aC true (xAp2 true dIdx (xV 6) (xAp1 dNeg (xC (.int 1)))) aN))) (wyE ps hs s g found line longer (some (wd w, .fz))) = .ok ((nx hs (lst w)).map sd, false, wyE ps hs s g found line longer (some (wd w, .fz))) := by
      rw [ev_iSeq, cn]; rfl
    have lc := lcS_map (g := gNm 7) (t := xTst (xAp2 true dNotIn (xV 7) (xV 6))) (e := xAp2 true dAdd (xV 6) (xTup (aC true (xV 7) aN))) (ρ := wyE ps hs s g found line longer (some (wd w, .fz))) sd (fun b => !decide (b ∈ w)) (fun b => wd (w ++ [b])) (nx hs (lst w)) (fun b hbm => by
      have hbp : b ∈ ps := (hb.tk.ok _ (mem_nx.mp hbm)).2.1
      have z1 : 1 ≤ sizeLine := zz (by decide)
      refine ⟨[some (mdD ps hs, .fz), some (sd s, .fz), some (sd g, .fz), some (.lst (found.map wd), .ow), some (.lst (line.map wd), .fz), some (.lst (longer.map wd), .fz), some (wd w, .fz), some (sd b, .fz)], rfl, [some (mdD ps hs, .fz), some (sd s, .fz), some (sd g, .fz), some (.lst (found.map wd), .ow), some (.lst (line.map wd), .fz), some (.lst (longer.map wd), .fz), some (wd w, .fz), some (sd b, .fz)], xTst_ok (xAp2_ok (xV_fz rfl) (by simp) (xV_fz rfl) (encS.ni_t (hb.nm b hbp) fun x hx => hb.nm x (hw.sub x hx))), fun _ => ⟨.fz, [some (mdD ps hs, .fz), some (sd s, .fz), some (sd g, .fz), some (.lst (found.map wd), .ow), some (.lst (line.map wd), .fz), some (.lst (longer.map wd), .fz), some (wd w, .fz), some (sd b, .fz)], xAp2_ok (xV_fz rfl) (by simp) (b := .tup [sd b]) (k2 := .fz) ?_ (wd_add hw.ne hwl), by simp, rfl⟩⟩
      rw [ev_xTup, aC1_ok (d := sd b) (k := .fz) (xV_fz rfl) (by simp)]
      simp only [Res.bind_ok]
      rw [if_pos ⟨rfl, z1⟩]; rfl)
    have ex := xLc_ok (vs := [7]) (e := xAp2 true dAdd (xV 6) (xTup (aC true (xV 7) aN))) it rfl (by rw [List.length_map]; exact zz (by have := nx_len hb (lst w); omega)) lc
    have hm : ((nx hs (lst w)).filter fun b => !decide (b ∈ w)).map (fun b => wd (w ++ [b])) = (ext hs w).map wd := by unfold ext; rw [List.map_map]; rfl
    rw [hm] at ex
    have ad := addL (f := wd) (A := longer) (B := ext hs w) (by have := ext_len hb w; omega)
    exact sSet_ok (xAp2_ok (xV_fz rfl) (by simp) ex ad) rfl
end
end VL
/-! VW16: the law's own ways, the whole. -/
namespace VL
open PySem PySem.Spec PyProof.Rows L2 PySem.W
def waysL (hs : List (Str × Str)) (s g : Str) : List (List Str) := srt kd (tr hs g 6 [s])
section
variable {ps : List Str} {hs : List (Str × Str)} {s g : Str}
theorem wy_for (hb : Wb ps hs) {line : List (List Str)} : ∀ (xs found longer : List (List Str)) (s6 : Slot), Fs s6 → (∀ w ∈ xs, Gd ps w) → found.length + xs.length ≤ 100000 → longer.length + xs.length * 6 ≤ 100000 →
    ∃ s6', Fs s6' ∧ forL (gNm 6) mb_law_ways_2 (xs.map wd) (wyE ps hs s g found line longer s6) = .ok (.nx (wyE ps hs s g (found ++ xs.filter fun w => decide (lst w = g)) line (longer ++ (xs.filter fun w => !decide (lst w = g)).flatMap (ext hs)) s6'))
  | [], found, longer, s6, h6, _, _, _ => ⟨s6, h6, by simp [forL]⟩
  | w :: xs, found, longer, s6, h6, hx, h1, h2 => by
    simp only [List.length_cons] at h1 h2
    have c6 : canSet (wyE ps hs s g found line longer s6) 6 = true := h6.set
    have e1 : gNm 6 (wd w) (wyE ps hs s g found line longer s6) = .ok (wyE ps hs s g found line longer (some (wd w, .fz))) := by
      show setSlot .fz 6 _ .fz _ = _
      unfold setSlot; rw [if_pos c6]; rfl
    have e2 := wy_in hb (s := s) (g := g) (found := found) (line := line) (longer := longer) (hx w List.mem_cons_self) (by omega) (by omega)
    rw [List.map_cons]
    by_cases e : lst w = g
    · rw [if_pos e] at e2
      obtain ⟨s6', h6', e3⟩ := wy_for hb (line := line) xs (found ++ [w]) longer (some (wd w, .fz)) (.some _) (fun v hv => hx v (List.mem_cons_of_mem _ hv)) (by rw [List.length_append]; simp; omega) (by omega)
      refine ⟨s6', h6', ?_⟩
      simp only [forL, e1, Res.bind_ok, e2]
      rw [e3, List.filter_cons_of_pos (by simpa using e), List.filter_cons_of_neg (by simpa using e), List.append_assoc]; rfl
    · rw [if_neg e] at e2
      have hl := ext_len hb w
      obtain ⟨s6', h6', e3⟩ := wy_for hb (line := line) xs found (longer ++ ext hs w) (some (wd w, .fz)) (.some _) (fun v hv => hx v (List.mem_cons_of_mem _ hv)) (by omega) (by rw [List.length_append]; omega)
      refine ⟨s6', h6', ?_⟩
      simp only [forL, e1, Res.bind_ok, e2]
      rw [e3, List.filter_cons_of_neg (by simpa using e), List.filter_cons_of_pos (by simpa using e), List.flatMap_cons, List.append_assoc]
theorem wy_body (hb : Wb ps hs) {found line longer : List (List Str)} {s6 s5 : Slot} (h6 : Fs s6) (h5 : Fs s5) (hx : ∀ w ∈ line, Gd ps w) (h1 : found.length + line.length ≤ 100000) (h2 : line.length * 6 ≤ 100000) :
    ∃ s6', Fs s6' ∧ mb_law_ways_1 [some (mdD ps hs, .fz), some (sd s, .fz), some (sd g, .fz), some (.lst (found.map wd), .ow), some (.lst (line.map wd), .fz), s5, s6, none] = .ok (.nx (wyE ps hs s g (found ++ line.filter fun w => decide (lst w = g)) ((line.filter fun w => !decide (lst w = g)).flatMap (ext hs)) ((line.filter fun w => !decide (lst w = g)).flatMap (ext hs)) s6')) := by
  have c5 : canSet [some (mdD ps hs, .fz), some (sd s, .fz), some (sd g, .fz), some (.lst (found.map wd), .ow), some (.lst (line.map wd), .fz), s5, s6, none] 5 = true := h5.set
  have a1 : sSet .fz 5 (xLst aN) [some (mdD ps hs, .fz), some (sd s, .fz), some (sd g, .fz), some (.lst (found.map wd), .ow), some (.lst (line.map wd), .fz), s5, s6, none] = .ok (.nx (wyE ps hs s g found line [] s6)) := by
    refine sSet_ok (d := .lst []) (k := .ow) (ρ1 := [some (mdD ps hs, .fz), some (sd s, .fz), some (sd g, .fz), some (.lst (found.map wd), .ow), some (.lst (line.map wd), .fz), s5, s6, none]) ?_ ?_
    · rw [ev_xLst, ev_aN]
      simp only [Res.bind_ok]
      rw [if_pos ⟨rfl, Nat.zero_le _⟩]; rfl
    · unfold setSlot; rw [if_pos c5]; rfl
  obtain ⟨s6', h6', e⟩ := wy_for hb (s := s) (g := g) (line := line) line found [] s6 h6 hx h1 (by simpa using h2)
  refine ⟨s6', h6', ?_⟩
  have a2 : sFor (iSeq (xV 4)) (gNm 6) mb_law_ways_2 (wyE ps hs s g found line [] s6) = _ := e
  unfold mb_law_ways_1
  rw [sSeq_nx a1, sSeq_nx a2]
  exact sSet_ok (xApp_ok (aC1_ok (xV_fz (i := 5) (d := .lst (((line.filter fun w => !decide (lst w = g)).flatMap (ext hs)).map wd)) rfl) (by simp)) (ev_list_l _)) rfl
theorem gd_one (h : s ∈ ps) : Gd ps [s] := ⟨by simp, by simp, by simpa using h⟩
theorem gd_nmw (hb : Wb ps hs) {w : List Str} (h : Gd ps w) : NmW w := ⟨fun x hx => hb.nm x (h.sub x hx), Nat.le_trans h.len (Nat.le_trans hb.l6 (by decide))⟩
theorem pow_le {k : Nat} (h : k ≤ 6) : 6 ^ k ≤ 46656 := Nat.le_trans (Nat.pow_le_pow_right (by decide) h) (by decide)
theorem law_ways_eq (hb : Wb ps hs) (hs' : s ∈ ps) : D_law_ways [some (mdD ps hs, .fz), some (sd s, .fz), some (sd g, .fz)] = .ok (.lst ((waysL hs s g).map wd), .ow) := by
  have z1 : 1 ≤ sizeLine := zz (by decide)
  have a1 : sPar2 .ow .fz 3 4 (xLst aN) (xLst (aC true (xTup (aC true (xV 1) aN)) aN)) (bodyEnv 8 [some (mdD ps hs, .fz), some (sd s, .fz), some (sd g, .fz)]) = .ok (.nx [some (mdD ps hs, .fz), some (sd s, .fz), some (sd g, .fz), some (.lst (([] : List (List Str)).map wd), .ow), some (.lst ([[s]].map wd), .fz), none, none, none]) := by
    rw [show [[s]].map wd = [.tup [sd s]] from rfl, List.map_nil]
    have fs := fz_sd s
    generalize mdD ps hs = M at *
    generalize sd s = S at *
    generalize sd g = Gx at *
    simp [bodyEnv, fzAll, z1, fs, setSlot, canSet]
  have cnd : ∀ (found line : List (List Str)) (s5 s6 : Slot), (∀ w ∈ line, Gd ps w) → xTst (xAp2 true dNe (xV 4) (xLst aN)) [some (mdD ps hs, .fz), some (sd s, .fz), some (sd g, .fz), some (.lst (found.map wd), .ow), some (.lst (line.map wd), .fz), s5, s6, none] = .ok (!line.isEmpty, [some (mdD ps hs, .fz), some (sd s, .fz), some (sd g, .fz), some (.lst (found.map wd), .ow), some (.lst (line.map wd), .fz), s5, s6, none]) := fun found line s5 s6 h => by
    have en := encW.nn (l := line) fun w hw => gd_nmw hb (h w hw)
    refine xTst_ok (xAp2_ok (xV_fz rfl) (by simp) (b := .lst []) (k2 := .ow) (ρ2 := [some (mdD ps hs, .fz), some (sd s, .fz), some (sd g, .fz), some (.lst (found.map wd), .ow), some (.lst (line.map wd), .fz), s5, s6, none]) ?_ en)
    rw [ev_xLst, ev_aN]
    simp only [Res.bind_ok]
    rw [if_pos ⟨rfl, Nat.zero_le _⟩]; rfl
  have tl : (tr hs g 6 [s]).length ≤ 46656 := tr_len hb g 6 [s]
  obtain ⟨ρ', e, hR⟩ := whileL_ok (c := xTst (xAp2 true dNe (xV 4) (xLst aN))) (body := mb_law_ways_1) (fun m ρ => ∃ (k : Nat) (found line : List (List Str)) (s5 s6 : Slot), ρ = [some (mdD ps hs, .fz), some (sd s, .fz), some (sd g, .fz), some (.lst (found.map wd), .ow), some (.lst (line.map wd), .fz), s5, s6, none] ∧ Fs s5 ∧ Fs s6 ∧ m = 7 - k ∧ k ≤ 6 ∧ (∀ w ∈ line, Gd ps w ∧ w.length = k + 1) ∧ line.length ≤ 6 ^ k ∧ (found ++ line.flatMap (tr hs g (6 - k))).Perm (tr hs g 6 [s]))
    (fun ρ => ∃ (found : List (List Str)) (s5 s6 : Slot), ρ = [some (mdD ps hs, .fz), some (sd s, .fz), some (sd g, .fz), some (.lst (found.map wd), .ow), some (.lst (([] : List (List Str)).map wd), .fz), s5, s6, none] ∧ found.Perm (tr hs g 6 [s])) (fun m ρ hI => by
      obtain ⟨k, found, line, s5, s6, rfl, h5, h6, rfl, hk, hl, hlen, hp⟩ := hI
      have ec := cnd found line s5 s6 fun w hw => (hl w hw).1
      cases line with
      | nil => exact .inl ⟨_, ec, found, s5, s6, rfl, by simpa using hp⟩
      | cons a line =>
        have ha := hl a List.mem_cons_self
        have hk5 : k ≤ 5 := by
          have := ha.1.len
          have h6 := hb.l6
          omega
        have hfl : found.length ≤ 46656 := by
          have := hp.length_eq
          rw [List.length_append] at this
          omega
        have hll : (a :: line).length ≤ 7776 := Nat.le_trans hlen (Nat.le_trans (Nat.pow_le_pow_right (by decide) hk5) (by decide))
        obtain ⟨s6', h6', eb⟩ := wy_body hb (s := s) (g := g) (found := found) (line := a :: line) (longer := []) h6 h5 (fun w hw => (hl w hw).1) (by omega) (by omega)
        refine .inr ⟨_, _, 7 - (k + 1), ec, eb, by omega, k + 1, _, _, _, _, rfl, .some _, h6', rfl, by omega, fun c hc => ?_, ?_, ?_⟩
        · obtain ⟨w, hw, hc⟩ := List.mem_flatMap.mp hc
          have hw' := hl w (List.mem_filter.mp hw).1
          obtain ⟨q1, q2⟩ := ext_gd hb hw'.1 c hc
          exact ⟨q1, by rw [q2, hw'.2]⟩
        · refine Nat.le_trans (flat_len (ext hs) 6 _ fun w _ => ext_len hb w) ?_
          rw [Nat.pow_succ]
          exact Nat.mul_le_mul_right _ (Nat.le_trans (List.length_filter_le _ _) hlen)
        · have hn : 6 - k = (6 - (k + 1)) + 1 := by omega
          rw [hn] at hp
          rw [List.append_assoc]
          exact (List.Perm.append_left found (level_perm hs g (6 - (k + 1)) (a :: line)).symm).trans hp) 100000 7 _ (by decide) ⟨0, [], [[s]], none, none, rfl, .none, .none, rfl, by omega, fun w hw => by
        have : w = [s] := by simpa using hw
        rw [this]; exact ⟨gd_one hs', rfl⟩, by simp, by simp⟩
  obtain ⟨found, s5, s6, rfl, hp⟩ := hR
  have sh := shorter_eq (fl := .lk) (ws := found) (.inr rfl) (by rw [hp.length_eq]; omega)
  rw [srt_congr hp kd_inj] at sh
  unfold D_law_ways
  refine dA_rt (ρ1 := [some (mdD ps hs, .fz), some (sd s, .fz), some (sd g, .fz), some (.lst (found.map wd), .ow), some (.lst (([] : List (List Str)).map wd), .fz), s5, s6, none]) (k := .ow) ?_ (by simp)
  unfold m_law_ways
  rw [sSeq_nx a1, sSeq_nx (show sWhile 100000 _ _ _ = _ from e)]
  refine sRet_ok (callA_ok (l := [(.lst (found.map wd), .br)]) (aC1_ok (k := .br) rfl (by simp)) rfl sh (by simp)) (by simp)
end
end VL
/-! VW17: the program's ways. -/
namespace VL
open PySem PySem.Spec PyProof.Rows L2 PySem.W
def sz : Nat → Nat
  | 0 => 1
  | n + 1 => 1 + 6 * sz n
def psE (ps : List Str) (hs : List (Str × Str)) (s g : Str) (found stack : List (List Str)) (s5 : Slot) : VL.Env := [some (webD ps hs, .fz), some (sd s, .fz), some (sd g, .fz), some (.lst (found.map wd), .ow), some (.lst (stack.map wd), .ow), s5, none]
section
variable {ps : List Str} {hs : List (Str × Str)} {s g : Str}
theorem mut_ok {p : D → Bool} {i : Nat} {g : D → List D → Option (D × D)} {f : AE} {ρ ρ1 : VL.Env} {l : List (D × Kd)} {d0 d1 d2 dr : D} {fl0 fl : Fl} (h0 : ρ[i]? = some (some (d0, fl0))) (ho : ownFl fl0 = true) (hp : p d0 = true) (hf : f ρ = .ok (l, ρ1)) (h1 : ρ1[i]? = some (some (d1, fl))) (ho1 : ownFl fl = true) (hz : fzAll l = true) (hp1 : p d1 = true) (hg : g d1 (l.map (·.1)) = some (d2, dr)) : xMut p i g f ρ = .ok (dr, .fz, ρ1.set i (some (d2, fl))) := by
  rw [ev_xMut, h0]
  simp only
  rw [if_pos ⟨ho, hp⟩, hf]
  simp only [Res.bind_ok]
  unfold mutK
  rw [h1]
  simp only
  rw [if_pos ⟨ho1, hz, hp1⟩, hg]
theorem wo_body (hb : Wb ps hs) {found st : List (List Str)} {w : List Str} {s5 : Slot} (h5 : Fs s5) (hw : Gd ps w) (h1 : found.length ≤ 100000) (h2 : st.length ≤ 100000) : ∃ s5', Fs s5' ∧ mb_ways_of_1 (psE ps hs s g found (st ++ [w]) s5) = .ok (.nx (if lst w = g then psE ps hs s g (found ++ [w]) st s5' else psE ps hs s g found (st ++ ext hs w) s5')) := by
  have hwl : w.length ≤ 1000 := Nat.le_trans hw.len (Nat.le_trans hb.l6 (by decide))
  have c5 : canSet (psE ps hs s g found st s5) 5 = true := h5.set
  have hp : mPop (.lst ((st ++ [w]).map wd)) [] = some (.lst (st.map wd), wd w) := by
    show (((st ++ [w]).map wd)[((st ++ [w]).map wd).length - 1]?).map (fun d => (D.lst ((st ++ [w]).map wd).dropLast, d)) = _
    rw [List.map_append, List.map_cons, List.map_nil, List.dropLast_concat]
    have : (st.map wd ++ [wd w])[(st.map wd ++ [wd w]).length - 1]? = some (wd w) := by simp
    rw [this]; rfl
  have a1 : sSet .fz 5 (xMut D.isLst 4 mPop aN) (psE ps hs s g found (st ++ [w]) s5) = .ok (.nx (psE ps hs s g found st (some (wd w, .fz)))) := by
    refine sSet_ok (mut_ok (p := D.isLst) (i := 4) (g := mPop) (f := aN) (ρ1 := psE ps hs s g found (st ++ [w]) s5) rfl rfl rfl (ev_aN _) rfl rfl rfl rfl hp) ?_
    have e : (psE ps hs s g found (st ++ [w]) s5).set 4 (some (.lst (st.map wd), .ow)) = psE ps hs s g found st s5 := rfl
    rw [e]
    unfold setSlot
    rw [if_pos c5]; rfl
  refine ⟨some (wd w, .fz), .some _, ?_⟩
  have el : xAp2 true dIdx (xV 5) (xAp1 dNeg (xC (.int 1))) (psE ps hs s g found st (some (wd w, .fz))) = .ok (sd (lst w), .fz, psE ps hs s g found st (some (wd w, .fz))) := by
    refine xAp2_ok (xV_fz rfl) (by simp) (b := .int (-1)) (k2 := .fz) (ρ2 := psE ps hs s g found st (some (wd w, .fz))) ?_ (wd_idx hw.ne)
    rw [ev_xAp1, ev_xC]; rfl
  have ec : xTst (xAp2 true dEq (xAp2 true dIdx (xV 5) (xAp1 dNeg (xC (.int 1)))) (xV 2)) (psE ps hs s g found st (some (wd w, .fz))) = .ok (decide (lst w = g), psE ps hs s g found st (some (wd w, .fz))) := xTst_ok (xAp2_ok el (by simp) (xV_fz rfl) (eq_sd _ _))
  unfold mb_ways_of_1
  rw [sSeq_nx a1]
  by_cases e : lst w = g
  · rw [if_pos e]
    rw [decide_eq_true e] at ec
    rw [sIf_t ec]
    have ha : mAppend (.lst (found.map wd)) [wd w] = some (.lst ((found ++ [w]).map wd), .non) := by
      show (if (found.map wd).length < sizeLine then some (D.lst (found.map wd ++ [wd w]), D.non) else none) = _
      rw [if_pos (by rw [List.length_map, sizeLine_eq]; omega)]; simp
    exact sEx_ok (mut_ok (p := D.isLst) (i := 3) (g := mAppend) rfl rfl rfl (aC1_ok (xV_fz (i := 5) rfl) (by simp)) rfl rfl rfl rfl ha)
  · rw [if_neg e]
    rw [decide_eq_false e] at ec
    rw [sIf_f ec]
    have en := takers_eq (ps := ps) (hs := hs) (a := lst w) (by have := hb.hm; omega)
    have cn : xCall D_takers_of (aC true (xV 0) (aC true (xAp2 true dIdx (xV 5) (xAp1 dNeg (xC (.int 1)))) aN)) (psE ps hs s g found st (some (wd w, .fz))) = .ok (.lst ((nx hs (lst w)).map sd), .ow, psE ps hs s g found st (some (wd w, .fz))) := callA_ok (aC_ok (xV_fz rfl) (by simp) (aC1_ok el (by simp))) rfl en (by simp)
    have it : iSeq (xCall D_takers_of (aC true (xV 0) (aC true (xAp2 true dIdx (xV 5) (xAp1 dNeg (xC (.int 1)))) aN))) (psE ps hs s g found st (some (wd w, .fz))) = .ok ((nx hs (lst w)).map sd, false, psE ps hs s g found st (some (wd w, .fz))) := by
      rw [ev_iSeq, cn]; rfl
    have lc := lcS_map (g := gNm 6) (t := xTst (xAp2 true dNotIn (xV 6) (xV 5))) (e := xTup (aStar (xV 5) (aC true (xV 6) aN))) (ρ := psE ps hs s g found st (some (wd w, .fz))) sd (fun b => !decide (b ∈ w)) (fun b => wd (w ++ [b])) (nx hs (lst w)) (fun b hbm => by
      have hbp : b ∈ ps := (hb.tk.ok _ (mem_nx.mp hbm)).2.1
      refine ⟨[some (webD ps hs, .fz), some (sd s, .fz), some (sd g, .fz), some (.lst (found.map wd), .ow), some (.lst (st.map wd), .ow), some (wd w, .fz), some (sd b, .fz)], rfl, [some (webD ps hs, .fz), some (sd s, .fz), some (sd g, .fz), some (.lst (found.map wd), .ow), some (.lst (st.map wd), .ow), some (wd w, .fz), some (sd b, .fz)], xTst_ok (xAp2_ok (xV_fz rfl) (by simp) (xV_fz rfl) (encS.ni_t (hb.nm b hbp) fun x hx => hb.nm x (hw.sub x hx))), fun _ => ⟨.fz, [some (webD ps hs, .fz), some (sd s, .fz), some (sd g, .fz), some (.lst (found.map wd), .ow), some (.lst (st.map wd), .ow), some (wd w, .fz), some (sd b, .fz)], ?_, by simp, rfl⟩⟩
      have e1 : aStar (xV 5) (aC true (xV 6) aN) [some (webD ps hs, .fz), some (sd s, .fz), some (sd g, .fz), some (.lst (found.map wd), .ow), some (.lst (st.map wd), .ow), some (wd w, .fz), some (sd b, .fz)] = .ok (fzL (w.map sd) ++ [(sd b, .fz)], [some (webD ps hs, .fz), some (sd s, .fz), some (sd g, .fz), some (.lst (found.map wd), .ow), some (.lst (st.map wd), .ow), some (wd w, .fz), some (sd b, .fz)]) := by
        rw [ev_aStar, xV_fz (d := .tup (w.map sd)) rfl]
        simp only [Res.bind_ok]
        rw [aC1_ok (d := sd b) (k := .fz) (xV_fz rfl) (by simp)]; rfl
      have zl : (fzL (w.map sd) ++ [(sd b, Kd.fz)]).length ≤ sizeLine := by
        unfold fzL; rw [List.length_append, List.length_map, List.length_map]; exact zz (by simp; omega)
      have fa : fzAll (fzL (w.map sd) ++ [(sd b, Kd.fz)]) = true := by
        unfold fzAll fzL
        rw [List.all_append, List.all_map, List.all_map]
        simp [sd]
      have em : (fzL (w.map sd) ++ [(sd b, Kd.fz)]).map (·.1) = (w ++ [b]).map sd := by
        unfold fzL
        rw [List.map_append, List.map_append, List.map_map]
        simp
      rw [ev_xTup, e1]
      simp only [Res.bind_ok]
      rw [if_pos ⟨fa, zl⟩, em]; rfl)
    have ex := xLc_ok (vs := [6]) (e := xTup (aStar (xV 5) (aC true (xV 6) aN))) it rfl (by rw [List.length_map]; exact zz (by have := nx_len hb (lst w); omega)) lc
    have hm : ((nx hs (lst w)).filter fun b => !decide (b ∈ w)).map (fun b => wd (w ++ [b])) = (ext hs w).map wd := by unfold ext; rw [List.map_map]; rfl
    rw [hm] at ex
    have hx : mExtend (.lst (st.map wd)) [.lst ((ext hs w).map wd)] = some (.lst ((st ++ ext hs w).map wd), .non) := by
      show (if (st.map wd).length + ((ext hs w).map wd).length ≤ sizeLine then some (D.lst (st.map wd ++ (ext hs w).map wd), D.non) else none) = _
      rw [if_pos (zz (by rw [List.length_map, List.length_map]; have := ext_len hb w; omega)), List.map_append]
    exact sEx_ok (mut_ok (p := D.isLst) (i := 4) (g := mExtend) rfl rfl rfl (aC1_ok ex (by simp)) rfl rfl rfl rfl hx)
def mea (st : List (List Str)) : Nat := (st.map fun w => sz (7 - w.length)).sum
theorem sz_pos : ∀ n, 1 ≤ sz n
  | 0 => Nat.le_refl _
  | n + 1 => by unfold sz; omega
theorem mea_len : ∀ st : List (List Str), st.length ≤ mea st
  | [] => Nat.le_refl _
  | w :: st => by
    have := mea_len st
    have h := sz_pos (7 - w.length)
    unfold mea at *
    rw [List.map_cons, List.sum_cons, List.length_cons]; omega
theorem mea_app (a b : List (List Str)) : mea (a ++ b) = mea a + mea b := by unfold mea; rw [List.map_append, List.sum_append]
theorem mea_ext (hb : Wb ps hs) {w : List Str} (hw : Gd ps w) : mea (ext hs w) + 1 ≤ sz (7 - w.length) := by
  have hl := hw.len
  have h6 := hb.l6
  have e : 7 - w.length = (6 - w.length) + 1 := by omega
  have hall : ∀ c ∈ ext hs w, sz (7 - c.length) = sz (6 - w.length) := fun c hc => by rw [(ext_gd hb hw c hc).2]; congr 1; omega
  have : mea (ext hs w) = (ext hs w).length * sz (6 - w.length) := by
    unfold mea
    have : ∀ l : List (List Str), (∀ c ∈ l, sz (7 - c.length) = sz (6 - w.length)) → (l.map fun w => sz (7 - w.length)).sum = l.length * sz (6 - w.length) := fun l => by
      induction l with
      | nil => simp
      | cons c l ih =>
        intro h
        rw [List.map_cons, List.sum_cons, ih (fun d hd => h d (List.mem_cons_of_mem _ hd)), h c List.mem_cons_self, List.length_cons, Nat.add_mul, Nat.one_mul, Nat.add_comm]
    exact this _ hall
  rw [this, e]
  have hx := Nat.mul_le_mul_right (sz (6 - w.length)) (ext_len hb w)
  show _ ≤ 1 + 6 * sz (6 - w.length)
  omega
theorem ways_of_eq (hb : Wb ps hs) (hs' : s ∈ ps) : D_ways_of [some (webD ps hs, .fz), some (sd s, .fz), some (sd g, .fz)] = .ok (.lst ((waysL hs s g).map wd), .ow) := by
  have z1 : 1 ≤ sizeLine := zz (by decide)
  have a1 : sPar2 .ow .ow 3 4 (xLst aN) (xLst (aC true (xTup (aC true (xV 1) aN)) aN)) (bodyEnv 7 [some (webD ps hs, .fz), some (sd s, .fz), some (sd g, .fz)]) = .ok (.nx (psE ps hs s g [] [[s]] none)) := by
    unfold psE
    rw [show [[s]].map wd = [.tup [sd s]] from rfl, List.map_nil]
    have fs := fz_sd s
    generalize webD ps hs = M at *
    generalize sd s = S at *
    generalize sd g = Gx at *
    simp [bodyEnv, fzAll, z1, fs, setSlot, canSet]
  have cnd : ∀ (found st : List (List Str)) (s5 : Slot), (∀ w ∈ st, Gd ps w) → xTst (xAp2 true dNe (xV 4) (xLst aN)) (psE ps hs s g found st s5) = .ok (!st.isEmpty, psE ps hs s g found st s5) := fun found st s5 h => by
    have en := encW.nn (l := st) fun w hw => gd_nmw hb (h w hw)
    refine xTst_ok (xAp2_ok (a := .lst (st.map wd)) (k1 := .br) (ρ1 := psE ps hs s g found st s5) rfl (by simp) (b := .lst []) (k2 := .ow) (ρ2 := psE ps hs s g found st s5) ?_ en)
    rw [ev_xLst, ev_aN]
    simp only [Res.bind_ok]
    rw [if_pos ⟨rfl, Nat.zero_le _⟩]; rfl
  have tl : (tr hs g 6 [s]).length ≤ 46656 := tr_len hb g 6 [s]
  have hm0 : mea [[s]] = 55987 := (show mea [[s]] = sz 6 + 0 from rfl).trans (by decide)
  obtain ⟨ρ', e, hR⟩ := whileL_ok (c := xTst (xAp2 true dNe (xV 4) (xLst aN))) (body := mb_ways_of_1) (fun m ρ => ∃ (found st : List (List Str)) (s5 : Slot), ρ = psE ps hs s g found st s5 ∧ Fs s5 ∧ m = mea st ∧ mea st ≤ 56000 ∧ (∀ w ∈ st, Gd ps w) ∧ (found ++ st.flatMap fun w => tr hs g (7 - w.length) w).Perm (tr hs g 6 [s]))
    (fun ρ => ∃ (found : List (List Str)) (s5 : Slot), ρ = psE ps hs s g found [] s5 ∧ found.Perm (tr hs g 6 [s])) (fun m ρ hI => by
      obtain ⟨found, st, s5, rfl, h5, rfl, hm, hl, hp⟩ := hI
      have ec := cnd found st s5 hl
      rcases List.eq_nil_or_concat st with rfl | ⟨st, w, rfl⟩
      · exact .inl ⟨_, ec, found, s5, rfl, by simpa using hp⟩
      · rw [List.concat_eq_append] at *
        have hw := hl w (List.mem_append_right _ List.mem_cons_self)
        have hst : ∀ v ∈ st, Gd ps v := fun v hv => hl v (List.mem_append_left _ hv)
        have hwl := hw.len
        have h6 := hb.l6
        have hfl : found.length ≤ 46656 := by
          have := hp.length_eq
          rw [List.length_append] at this
          omega
        have ml := mea_len (st ++ [w])
        rw [List.length_append] at ml
        have m1 : mea (st ++ [w]) = mea st + sz (7 - w.length) := by rw [mea_app]; unfold mea; simp
        obtain ⟨s5', h5', eb⟩ := wo_body hb (s := s) (g := g) (found := found) (st := st) (w := w) h5 hw (by omega) (by omega)
        have hec : (!(st ++ [w]).isEmpty) = true := by simp
        rw [hec] at ec
        rw [List.flatMap_append, List.flatMap_cons, List.flatMap_nil, List.append_nil] at hp
        have e7 : 7 - w.length = (6 - w.length) + 1 := by omega
        by_cases e : lst w = g
        · rw [if_pos e] at eb
          have z1 := sz_pos (7 - w.length)
          refine .inr ⟨_, _, mea st, ec, eb, by omega, found ++ [w], st, s5', rfl, h5', rfl, by omega, hst, ?_⟩
          have et : tr hs g (7 - w.length) w = [w] := by rw [e7, tr, if_pos e]
          rw [et] at hp
          refine List.Perm.trans ?_ hp
          rw [List.append_assoc]
          exact List.Perm.append_left _ List.perm_append_comm
        · rw [if_neg e] at eb
          have me := mea_ext hb hw
          refine .inr ⟨_, _, mea (st ++ ext hs w), ec, eb, by rw [mea_app]; omega, found, st ++ ext hs w, s5', rfl, h5', rfl, by rw [mea_app]; omega, fun v hv => (List.mem_append.mp hv).elim (hst v) fun hv => (ext_gd hb hw v hv).1, ?_⟩
          have et : tr hs g (7 - w.length) w = (ext hs w).flatMap fun v => tr hs g (7 - v.length) v := by
            rw [e7, tr, if_neg e]
            have : ∀ l : List (List Str), (∀ c ∈ l, c.length = w.length + 1) → l.flatMap (tr hs g (6 - w.length)) = l.flatMap fun v => tr hs g (7 - v.length) v := fun l => by
              induction l with
              | nil => intro _; rfl
              | cons c l ih =>
                intro h
                rw [List.flatMap_cons, List.flatMap_cons, ih fun d hd => h d (List.mem_cons_of_mem _ hd), h c List.mem_cons_self, show 7 - (w.length + 1) = 6 - w.length by omega]
            exact this _ fun c hc => (ext_gd hb hw c hc).2
          rw [et, ← List.flatMap_append] at hp
          exact hp) 100000 (mea [[s]]) _ (by omega) ⟨[], [[s]], none, rfl, .none, rfl, by omega, fun w hw => by
        have : w = [s] := by simpa using hw
        rw [this]; exact gd_one hs', by simp⟩
  obtain ⟨found, s5, rfl, hp⟩ := hR
  have sh := shorter_eq2 (fl := .lk) (ws := found) (.inr rfl) (by rw [hp.length_eq]; omega)
  rw [srt_congr hp kd_inj] at sh
  unfold D_ways_of
  refine dA_rt (ρ1 := psE ps hs s g found [] s5) (k := .ow) ?_ (by simp)
  unfold m_ways_of
  rw [sSeq_nx a1, sSeq_nx (show sWhile 100000 _ _ _ = _ from e)]
  exact sRet_ok (callA_ok (l := [(.lst (found.map wd), .br)]) (aC1_ok (k := .br) rfl (by simp)) rfl sh (by simp)) (by simp)
end
end VL
/-! VW18: ways told, nearest, farthest; their texts. -/
namespace VL
open PySem PySem.Spec PyProof.Rows L2 PySem.W
section
variable {ps : List Str} {hs : List (Str × Str)} {s g : Str}
theorem need_party_eq (hb : Wb ps hs) (h : s ∈ ps) : D_need_party [some (webD ps hs, .fz), some (sd s, .fz)] = .ok (.non, .fz) := by
  have c1 : bNot (xTst (xAp1 (dIsi (tyTab ["str"] TS)) (xV 1))) [some (webD ps hs, .fz), some (sd s, .fz)] = .ok (false, [some (webD ps hs, .fz), some (sd s, .fz)]) := by
    refine bNot_ok (b := true) (xTst_ok (k := .fz) ?_)
    rw [ev_xAp1, xV_fz (d := .str s) rfl]
    simp only [Res.bind_ok, isi_str, Res.pure_ok]
  have en : dNotIn (sd s) (sq true (ps.map sd)) = some (.bl false, .fz) := (encS.ni_q (c := true) (hb.nm s h) hb.nm).trans (by simp [h])
  have c2 : xTst (xAp2 true dNotIn (xV 1) (xAp1 (dFld [50] "own_parties") (xV 0))) [some (webD ps hs, .fz), some (sd s, .fz)] = .ok (false, [some (webD ps hs, .fz), some (sd s, .fz)]) := xTst_ok (xAp2_ok (xV_fz rfl) (by simp) (fld_p rfl) en)
  unfold D_need_party
  rw [ev_dA, show bodyEnv 2 [some (webD ps hs, .fz), some (sd s, .fz)] = [some (webD ps hs, .fz), some (sd s, .fz)] from rfl]
  have : m_need_party [some (webD ps hs, .fz), some (sd s, .fz)] = .ok (.nx [some (webD ps hs, .fz), some (sd s, .fz)]) := (sIf_f ((bOr_f c1).trans c2)).trans (sNil_ok _)
  rw [this]
theorem need_web_eq : D_need_web [some (webD ps hs, .fz)] = .ok (.non, .fz) := by
  have c1 : bNot (xTst (xAp1 (dIsi tab_Web) (xV 0))) [some (webD ps hs, .fz)] = .ok (false, [some (webD ps hs, .fz)]) := by
    refine bNot_ok (b := true) (xTst_ok (k := .fz) ?_)
    rw [ev_xAp1, xV_fz (d := webD ps hs) rfl]
    rfl
  unfold D_need_web
  rw [ev_dA, show bodyEnv 1 [some (webD ps hs, .fz)] = [some (webD ps hs, .fz)] from rfl]
  have : m_need_web [some (webD ps hs, .fz)] = .ok (.nx [some (webD ps hs, .fz)]) := (sIf_f c1).trans (sNil_ok _)
  rw [this]
theorem call3 {m : FA} {i j k : Nat} {ρ : VL.Env} {d e f : D} {r : D} {kd : Kd} (h : ρ[i]? = some (some (d, .fz))) (h2 : ρ[j]? = some (some (e, .fz))) (h3 : ρ[k]? = some (some (f, .fz))) (hd : d.fzOk = true) (he : e.fzOk = true) (hf : f.fzOk = true) (hm : m [some (d, .fz), some (e, .fz), some (f, .fz)] = .ok (r, kd)) (hk : kd ≠ .br) : xCall m (aC true (xV i) (aC true (xV j) (aC true (xV k) aN))) ρ = .ok (r, kd, ρ) :=
  callA_ok (aC_ok (xV_fz h) (by simp) (aC_ok (xV_fz h2) (by simp) (aC1_ok (xV_fz h3) (by simp)))) (by simp [argsOk, hd, he, hf]) hm hk
theorem need_ends_eq (hb : Wb ps hs) (h : s ∈ ps) (h' : g ∈ ps) : D_need_ends [some (webD ps hs, .fz), some (sd s, .fz), some (sd g, .fz)] = .ok (.non, .fz) := by
  unfold D_need_ends
  rw [ev_dA, show bodyEnv 3 [some (webD ps hs, .fz), some (sd s, .fz), some (sd g, .fz)] = [some (webD ps hs, .fz), some (sd s, .fz), some (sd g, .fz)] from rfl]
  have : m_need_ends [some (webD ps hs, .fz), some (sd s, .fz), some (sd g, .fz)] = .ok (.nx [some (webD ps hs, .fz), some (sd s, .fz), some (sd g, .fz)]) := by
    unfold m_need_ends
    rw [sSeq_nx (sEx_ok (call1 rfl rfl need_web_eq)), sSeq_nx (sEx_ok (call2 rfl rfl rfl rfl (need_party_eq hb h)))]
    exact sEx_ok (call2 rfl rfl rfl rfl (need_party_eq hb h'))
  rw [this]
theorem ways_eq (hb : Wb ps hs) (h : s ∈ ps) (h' : g ∈ ps) : D_ways [some (webD ps hs, .fz), some (sd s, .fz), some (sd g, .fz)] = .ok (.lst ((waysL hs s g).map wd), .ow) := by
  unfold D_ways
  refine dA_rt (ρ1 := [some (webD ps hs, .fz), some (sd s, .fz), some (sd g, .fz)]) (k := .ow) ?_ (by simp)
  show m_ways [some (webD ps hs, .fz), some (sd s, .fz), some (sd g, .fz)] = _
  unfold m_ways
  rw [sSeq_nx (sEx_ok (call3 rfl rfl rfl rfl rfl rfl (need_ends_eq hb h h') (by simp)))]
  exact sRet_ok (call3 rfl rfl rfl rfl rfl rfl (ways_of_eq hb h) (by simp)) (by simp)
end
/-! least and greatest length -/
def lenD : Option (List Str) → D
  | none => .non
  | some w => .int ((w.length : Int) - 1)
theorem pick0 {W : List (List Str)} {i : Nat} {ρ : VL.Env} (h : ρ[i]? = some (some (.lst (W.map wd), .fz))) (hv : ∀ w ∈ W, NmW w) : xIfE (xTst (xAp2 true dNe (xV i) (xLst aN))) (xAp2 true dSub (xApp (f1 dLen) (aC true (xAp2 true dIdx (xV i) (xC (.int 0))) aN)) (xC (.int 1))) (xC (.non)) ρ = .ok (lenD W.head?, .fz, ρ) := by
  have ec : xTst (xAp2 true dNe (xV i) (xLst aN)) ρ = .ok (!W.isEmpty, ρ) := by
    refine xTst_ok (xAp2_ok (xV_fz h) (by simp) (b := .lst []) (k2 := .ow) (ρ2 := ρ) ?_ (encW.nn hv))
    rw [ev_xLst, ev_aN]
    simp only [Res.bind_ok]
    rw [if_pos ⟨rfl, Nat.zero_le _⟩]; rfl
  rw [ev_xIfE, ec]
  cases W with
  | nil => rfl
  | cons w W =>
    have e1 : dIdx (.lst ((w :: W).map wd)) (.int 0) = some (wd w, .fz) := by rw [ev_idx_l, List.map_cons, atI_zero]; rfl
    show xAp2 true dSub _ _ ρ = _
    refine xAp2_ok (xApp_ok (aC1_ok (xAp2_ok (xV_fz h) (by simp) (ev_xC _ _) e1) (by simp)) (d := .int w.length) (k := .fz) (by show some (D.int (w.map sd).length, Kd.fz) = _; rw [List.length_map])) (by simp) (ev_xC _ _) (ev_sub _ _)
theorem pickL {W : List (List Str)} {i : Nat} {ρ : VL.Env} (h : ρ[i]? = some (some (.lst (W.map wd), .fz))) (hv : ∀ w ∈ W, NmW w) : xIfE (xTst (xAp2 true dNe (xV i) (xLst aN))) (xAp2 true dSub (xApp (f1 dLen) (aC true (xAp2 true dIdx (xV i) (xAp1 dNeg (xC (.int 1)))) aN)) (xC (.int 1))) (xC (.non)) ρ = .ok (lenD W.getLast?, .fz, ρ) := by
  have ec : xTst (xAp2 true dNe (xV i) (xLst aN)) ρ = .ok (!W.isEmpty, ρ) := by
    refine xTst_ok (xAp2_ok (xV_fz h) (by simp) (b := .lst []) (k2 := .ow) (ρ2 := ρ) ?_ (encW.nn hv))
    rw [ev_xLst, ev_aN]
    simp only [Res.bind_ok]
    rw [if_pos ⟨rfl, Nat.zero_le _⟩]; rfl
  rw [ev_xIfE, ec]
  by_cases h0 : W = []
  · subst h0; rfl
  · have hne : (!W.isEmpty) = true := by cases W with
      | nil => exact absurd rfl h0
      | cons _ _ => rfl
    rw [hne, List.getLast?_eq_some_getLast h0]
    have e1 : dIdx (.lst (W.map wd)) (.int (-1)) = some (wd (W.getLast h0), .fz) := by rw [ev_idx_l, at_last h0]; rfl
    show xAp2 true dSub _ _ ρ = _
    have en : xAp1 dNeg (xC (.int 1)) ρ = .ok (.int (-1), .fz, ρ) := by rw [ev_xAp1, ev_xC]; rfl
    exact xAp2_ok (xApp_ok (aC1_ok (xAp2_ok (xV_fz h) (by simp) en e1) (by simp)) (d := .int (W.getLast h0).length) (k := .fz) (by show some (D.int ((W.getLast h0).map sd).length, Kd.fz) = _; rw [List.length_map])) (by simp) (ev_xC _ _) (ev_sub _ _)
section
variable {ps : List Str} {hs : List (Str × Str)} {s g : Str}
theorem waysL_gd (hb : Wb ps hs) (h : s ∈ ps) : ∀ w ∈ waysL hs s g, Gd ps w := fun w hw => tr_gd hb g 6 [s] (gd_one h) w (srt_mem.mp hw)
theorem waysL_nm (hb : Wb ps hs) (h : s ∈ ps) : ∀ w ∈ waysL hs s g, NmW w := fun w hw => gd_nmw hb (waysL_gd hb h w hw)
theorem tr_len1 (hb : Wb ps hs) (g : Str) : ∀ (n : Nat) (w : List Str), (tr hs g (n + 1) w).length ≤ 6 ^ n
  | 0, w => by
    unfold tr
    split
    · simp
    · have := flat_len (tr hs g 0) 0 (ext hs w) (fun a _ => by simp [tr])
      simp at this ⊢
      omega
  | n + 1, w => by
    rw [tr]
    split
    · have h6 : 0 < 6 ^ (n + 1) := Nat.pow_pos (by decide)
      exact h6
    · refine Nat.le_trans (flat_len (tr hs g (n + 1)) (6 ^ n) _ fun a _ => tr_len1 hb g n a) ?_
      rw [Nat.pow_succ, Nat.mul_comm]
      exact Nat.mul_le_mul_left _ (ext_len hb w)
theorem waysL_len (hb : Wb ps hs) : (waysL hs s g).length ≤ 7776 := by
  unfold waysL
  rw [srt_len]
  exact tr_len1 hb g 5 [s]
theorem nearest_eq (hb : Wb ps hs) (h : s ∈ ps) (h' : g ∈ ps) : D_nearest [some (webD ps hs, .fz), some (sd s, .fz), some (sd g, .fz)] = .ok (lenD (waysL hs s g).head?, .fz) := by
  unfold D_nearest
  refine dA_rt (ρ1 := [some (webD ps hs, .fz), some (sd s, .fz), some (sd g, .fz), some (.lst ((waysL hs s g).map wd), .fz)]) (k := .fz) ?_ (by simp)
  show m_nearest [some (webD ps hs, .fz), some (sd s, .fz), some (sd g, .fz), none] = _
  unfold m_nearest
  rw [sSeq_nx (sEx_ok (call3 rfl rfl rfl rfl rfl rfl (need_ends_eq hb h h') (by simp))), sSeq_nx (sSet_ok (ρ2 := [some (webD ps hs, .fz), some (sd s, .fz), some (sd g, .fz), some (.lst ((waysL hs s g).map wd), .fz)]) (call3 rfl rfl rfl rfl rfl rfl (ways_of_eq hb h) (by simp)) rfl)]
  exact sRet_ok (pick0 rfl (waysL_nm hb h)) (by simp)
theorem farthest_eq (hb : Wb ps hs) (h : s ∈ ps) (h' : g ∈ ps) : D_farthest [some (webD ps hs, .fz), some (sd s, .fz), some (sd g, .fz)] = .ok (lenD (waysL hs s g).getLast?, .fz) := by
  unfold D_farthest
  refine dA_rt (ρ1 := [some (webD ps hs, .fz), some (sd s, .fz), some (sd g, .fz), some (.lst ((waysL hs s g).map wd), .fz)]) (k := .fz) ?_ (by simp)
  show m_farthest [some (webD ps hs, .fz), some (sd s, .fz), some (sd g, .fz), none] = _
  unfold m_farthest
  rw [sSeq_nx (sEx_ok (call3 rfl rfl rfl rfl rfl rfl (need_ends_eq hb h h') (by simp))), sSeq_nx (sSet_ok (ρ2 := [some (webD ps hs, .fz), some (sd s, .fz), some (sd g, .fz), some (.lst ((waysL hs s g).map wd), .fz)]) (call3 rfl rfl rfl rfl rfl rfl (ways_of_eq hb h) (by simp)) rfl)]
  exact sRet_ok (pickL rfl (waysL_nm hb h)) (by simp)
end
/-! texts -/
theorem sum_le {α : Type} (f : α → Nat) (B : Nat) : ∀ l : List α, (∀ a ∈ l, f a ≤ B) → (l.map f).sum ≤ l.length * B
  | [], _ => by simp
  | a :: l, h => by
    have h1 := h a List.mem_cons_self
    have h2 := sum_le f B l fun b hb => h b (List.mem_cons_of_mem _ hb)
    have : (l.length + 1) * B = l.length * B + B := by rw [Nat.add_mul, Nat.one_mul]
    rw [List.map_cons, List.sum_cons, List.length_cons]; omega
theorem shownAll_map {α : Type} (g : α → PyData) : ∀ l : List α, PyData.shownAll (l.map g) = l.map fun a => (g a).shown
  | [] => by simp [PyData.shownAll]
  | a :: l => by simp [PyData.shownAll, shownAll_map g l]
theorem shown_str {x : Str} (h : Nm x) : (PyData.str x).shown.length ≤ 62 := by
  have := StrLaws.reprText_len x fun c hc => by have := h.ch c hc; omega
  have := h.l6
  simp only [PyData.shown]
  omega
theorem shown_w {w : List Str} (h : NmW w) : (eW w).shown.length ≤ 500 := by
  simp only [eW, PyData.shown]
  rw [shownAll_map]
  have h1 := tupleText_len_le (w.map fun a => (PyData.str a).shown)
  rw [List.map_map, List.length_map] at h1
  have h2 := sum_le (fun a => (PyData.str a).shown.length) 62 w fun a ha => shown_str (h.1 a ha)
  have h3 := h.2
  have h4 : w.length * 62 ≤ 7 * 62 := Nat.mul_le_mul_right _ h3
  have e : ((fun x : Str => x.length) ∘ fun a => (PyData.str a).shown) = fun a => (PyData.str a).shown.length := rfl
  rw [e] at h1
  omega
theorem shown_ws {W : List (List Str)} (h : ∀ w ∈ W, NmW w) (hl : W.length ≤ 8000) : (PyData.list (W.map eW)).shown.length ≤ 5000000 := by
  simp only [PyData.shown]
  rw [shownAll_map]
  have h1 := listText_len_le (W.map fun a => (eW a).shown)
  rw [List.map_map, List.length_map] at h1
  have h2 := sum_le (fun a => (eW a).shown.length) 500 W fun a ha => shown_w (h a ha)
  have h4 : W.length * 500 ≤ 8000 * 500 := Nat.mul_le_mul_right _ hl
  have e : ((fun x : Str => x.length) ∘ fun a => (eW a).shown) = fun a => (eW a).shown.length := rfl
  rw [e] at h1
  omega
theorem show_ws (W : List (List Str)) : PyData.showableAll (W.map eW) = true := by
  induction W with
  | nil => simp [PyData.showableAll]
  | cons w W ih => simp only [List.map_cons, PyData.showableAll, ih, Bool.and_true]; exact encW.shw w
theorem repr_ws {W : List (List Str)} (h : ∀ w ∈ W, NmW w) (hl : W.length ≤ 8000) : ∃ z, dRepr (.lst (W.map wd)) = some (.str z, .fz) := by
  refine ⟨_, repr_ok (encW.lpy W) ?_⟩
  have e1 : (PyData.list (W.map eW)).showable = true := by simp only [PyData.showable]; exact show_ws W
  have e2 : (PyData.list (W.map eW)).depth ≤ 60 := by
    have : (PyData.list (W.map eW)).depth = PyData.depthAll (W.map eW) + 1 := by simp only [PyData.depth]
    rw [this]; have := encW.depL W; omega
  have e3 : (PyData.list (W.map eW)).shown.length ≤ sizeLine := by rw [sizeLine_eq]; have := shown_ws h hl; omega
  unfold okRepr
  simp only [e1, decide_eq_true e2, decide_eq_true e3, Bool.and_self]
theorem repr_wws {W : List (List Str)} (h : ∀ w ∈ W, NmW w) (hl : W.length ≤ 8000) : ∃ z, dRepr (.lst [.lst (W.map wd)]) = some (.str z, .fz) := by
  have hp : toPy (.lst [.lst (W.map wd)]) = some (.list [.list (W.map eW)]) := by
    have := encW.lpy W
    simp only [toPy, toPyL] at this ⊢
    rw [this]; rfl
  refine ⟨_, repr_ok hp ?_⟩
  have e1 : (PyData.list [PyData.list (W.map eW)]).showable = true := by simp only [PyData.showable, PyData.showableAll, show_ws, Bool.and_self]
  have e2 : (PyData.list [PyData.list (W.map eW)]).depth ≤ 60 := by
    have : (PyData.list [PyData.list (W.map eW)]).depth = max (PyData.depthAll (W.map eW) + 1) 0 + 1 := by simp only [PyData.depth, PyData.depthAll]
    rw [this]; have := encW.depL W; omega
  have e3 : (PyData.list [PyData.list (W.map eW)]).shown.length ≤ sizeLine := by
    rw [sizeLine_eq]
    have h1 := listText_len_le [(PyData.list (W.map eW)).shown]
    have h2 := shown_ws h hl
    have e : (PyData.list [PyData.list (W.map eW)]).shown = listText [(PyData.list (W.map eW)).shown] := by simp only [PyData.shown, PyData.shownAll]
    rw [e]
    simp only [List.map_cons, List.map_nil, List.sum_cons, List.sum_nil, List.length_cons, List.length_nil] at h1
    omega
  unfold okRepr
  simp only [e1, decide_eq_true e2, decide_eq_true e3, Bool.and_self]
/-! lengths told -/
theorem okRepr_2 : ∀ a b : Fin 8, okRepr (.list [.int (a.val : Int), .int (b.val : Int)]) = true := by decide +kernel
theorem okRepr_4 : ∀ a b : Fin 8, okRepr (.list [.int (a.val : Int), .int (a.val : Int), .int (b.val : Int), .int (b.val : Int)]) = true := by decide +kernel
theorem ends_of {W : List (List Str)} (hv : ∀ w ∈ W, w ≠ [] ∧ w.length ≤ 7) : (lenD W.head? = .non ∧ lenD W.getLast? = .non) ∨ ∃ a b : Fin 8, lenD W.head? = .int (a.val : Int) ∧ lenD W.getLast? = .int (b.val : Int) := by
  by_cases h0 : W = []
  · subst h0; exact .inl ⟨rfl, rfl⟩
  · have len : ∀ w ∈ W, ∃ a : Fin 8, lenD (some w) = .int (a.val : Int) := fun w hw => by
      obtain ⟨h1, h2⟩ := hv w hw
      have : 0 < w.length := List.length_pos_iff.mpr h1
      refine ⟨⟨w.length - 1, by omega⟩, ?_⟩
      show D.int _ = D.int _
      congr 1
      show (w.length : Int) - 1 = ((w.length - 1 : Nat) : Int)
      omega
    obtain ⟨a, ha⟩ := len (W.head h0) (List.head_mem h0)
    obtain ⟨b, hb⟩ := len (W.getLast h0) (List.getLast_mem h0)
    exact .inr ⟨a, b, by rw [List.head?_eq_some_head h0]; exact ha, by rw [List.getLast?_eq_some_getLast h0]; exact hb⟩
theorem repr_2 {W : List (List Str)} (hv : ∀ w ∈ W, w ≠ [] ∧ w.length ≤ 7) : ∃ z, dRepr (.lst [lenD W.head?, lenD W.getLast?]) = some (.str z, .fz) := by
  rcases ends_of hv with ⟨h1, h2⟩ | ⟨a, b, h1, h2⟩
  · rw [h1, h2]; exact ⟨_, repr_ok (p := .list [.none, .none]) rfl (by decide +kernel)⟩
  · rw [h1, h2]; exact ⟨_, repr_ok (p := .list [.int (a.val : Int), .int (b.val : Int)]) rfl (okRepr_2 a b)⟩
theorem repr_4 {W : List (List Str)} (hv : ∀ w ∈ W, w ≠ [] ∧ w.length ≤ 7) : ∃ z, dRepr (.lst [lenD W.head?, lenD W.head?, lenD W.getLast?, lenD W.getLast?]) = some (.str z, .fz) := by
  rcases ends_of hv with ⟨h1, h2⟩ | ⟨a, b, h1, h2⟩
  · rw [h1, h2]; exact ⟨_, repr_ok (p := .list [.none, .none, .none, .none]) rfl (by decide +kernel)⟩
  · rw [h1, h2]; exact ⟨_, repr_ok (p := .list [.int (a.val : Int), .int (a.val : Int), .int (b.val : Int), .int (b.val : Int)]) rfl (okRepr_4 a b)⟩
end VL
/-! VWR: mirrors on rings (printed by gen.py). -/
namespace VL
open PySem PySem.Spec PyProof.Rows L2 VL
def m_law_before : SE := (sRet (xLc [2, 3] (iSeq (xGet "ties" (xV 0))) (gTp 2 (gsC (gNm 2) (gsC (gNm 3) gsN))) (xTst (xAp2 true dEq (xV 3) (xV 1))) (xV 2)))
def D_law_before : FA := dA 4 m_law_before
def mb_law_rings_2 : SE := (sSet .fz 1 (xAp2 true dAdd (xV 1) (xLc [4] (iSeq (xCall D_law_ways (aC true (xV 0) (aC true (xV 2) (aC true (xV 3) aN))))) (gNm 4) (xTst (xAp2 true dEq (xApp (f1 dMinS) (aC true (xV 4) aN)) (xV 2))) (xV 4))))
def mb_law_rings_1 : SE := (sFor (iSeq (xCall D_law_before (aC true (xV 0) (aC true (xV 2) aN)))) (gNm 3) mb_law_rings_2)
def m_law_rings : SE := (sSeq (sSet .fz 1 (xLst aN))
  (sSeq (sFor (iSeq (xGet "dots" (xV 0))) (gNm 2) mb_law_rings_1)
  (sRet (xCall D_law_shorter (aC true (xV 1) aN)))))
def D_law_rings : FA := dA 5 m_law_rings
def mb_rings_of_2 : SE := (sIf (xTst (xAp2 true dEq (xV 3) (xAp2 true dIdx (xV 4) (xC (.int 0)))))
  (sEx (xMut D.isLst 1 mAppend (aC true (xV 4) aN)))
  (sIf (bAnd (xTst (xAp2 true dGtS (xV 3) (xAp2 true dIdx (xV 4) (xC (.int 0))))) (xTst (xAp2 true dNotIn (xV 3) (xV 4))))
  (sEx (xMut D.isLst 2 mAppend (aC true (xTup (aStar (xV 4) (aC true (xV 3) aN))) aN)))
  sNil))
def mb_rings_of_1 : SE := (sSeq (sSet .fz 4 (xMut D.isLst 2 mPop aN))
  (sFor (iSeq (xCall D_takers_of (aC true (xV 0) (aC true (xAp2 true dIdx (xV 4) (xAp1 dNeg (xC (.int 1)))) aN)))) (gNm 3) mb_rings_of_2))
def m_rings_of : SE := (sSeq (sPar2 .ow .ow 1 2 (xLst aN) (xLc [3] (iSeq (xAp1 (dFld [50] "own_parties") (xV 0))) (gNm 3) bYes (xTup (aC true (xV 3) aN))))
  (sSeq (sWhile 1000000 (xTst (xAp2 true dNe (xV 2) (xLst aN))) mb_rings_of_1)
  (sRet (xCall D_shorter_first (aC true (xV 1) aN)))))
def D_rings_of : FA := dA 5 m_rings_of
def m_rings : SE := (sSeq (sEx (xCall D_need_web (aC true (xV 0) aN)))
  (sRet (xCall D_rings_of (aC true (xV 0) aN))))
def D_rings : FA := dA 1 m_rings
end VL
/-! VW19: rings as lists. -/
namespace VL
open PySem PySem.Spec PyProof.Rows L2 PySem.W
theorem ltS_irr (a : Str) : ltS a a = false := by unfold ltS; rw [decide_eq_false_iff_not]; exact List.lt_irrefl _
theorem ltS_trans {a b c : Str} (h1 : ltS a b = true) (h2 : ltS b c = true) : ltS a c = true := by
  unfold ltS at *
  rw [decide_eq_true_eq] at *
  exact List.lt_trans h1 h2
theorem ltS_total {a b : Str} (h1 : ltS a b = false) (h2 : ltS b a = false) : a = b := by
  unfold ltS at *
  rw [decide_eq_false_iff_not] at *
  exact str_ext (List.le_antisymm (List.not_lt.mp h2) (List.not_lt.mp h1))
theorem minS_spec : ∀ (r : List Str) (x : Str), minS x r ∈ x :: r ∧ ∀ y ∈ x :: r, ltS y (minS x r) = false
  | [], x => ⟨by simp [minS], fun y hy => (show y = x by simpa using hy) ▸ ltS_irr x⟩
  | z :: r, x => by
    obtain ⟨h1, h2⟩ := minS_spec r (if ltS z x = true then z else x)
    have e : minS x (z :: r) = minS (if ltS z x = true then z else x) r := rfl
    rw [e]
    refine ⟨?_, fun y hy => ?_⟩
    · rcases List.mem_cons.mp h1 with h1 | h1
      · rw [h1]; split <;> simp
      · exact List.mem_cons_of_mem _ (List.mem_cons_of_mem _ h1)
    · have hm := h2 _ List.mem_cons_self
      have key : ∀ u, (u = x ∨ u = z) → ltS u (minS (if ltS z x = true then z else x) r) = false := fun u hu => by
        cases hc : ltS u (minS (if ltS z x = true then z else x) r) with
        | false => rfl
        | true =>
          exfalso
          split at hm
          · rename_i hz
            rcases hu with rfl | rfl
            · rw [if_pos hz] at hc
              rw [ltS_trans hz hc] at hm; exact Bool.noConfusion hm
            · rw [if_pos hz] at hc
              rw [hc] at hm; exact Bool.noConfusion hm
          · rename_i hz
            rw [if_neg hz] at hc
            rcases hu with rfl | rfl
            · rw [hc] at hm; exact Bool.noConfusion hm
            · have hz' : ltS u x = false := by simpa using hz
              cases hx : ltS x u with
              | true => rw [ltS_trans hx hc] at hm; exact Bool.noConfusion hm
              | false =>
                have := ltS_total hz' hx
                subst this
                rw [hc] at hm; exact Bool.noConfusion hm
      rcases List.mem_cons.mp hy with rfl | hy
      · exact key _ (.inl rfl)
      · rcases List.mem_cons.mp hy with rfl | hy
        · exact key _ (.inr rfl)
        · exact h2 y (List.mem_cons_of_mem _ hy)
def mn : List Str → Str
  | [] => ""
  | x :: r => minS x r
theorem mn_iff {w : List Str} {a : Str} (hw : w ≠ []) : mn w = a ↔ a ∈ w ∧ ∀ y ∈ w, ltS y a = false := by
  cases w with
  | nil => exact absurd rfl hw
  | cons x r =>
    obtain ⟨h1, h2⟩ := minS_spec r x
    constructor
    · rintro rfl; exact ⟨h1, h2⟩
    · rintro ⟨h3, h4⟩; exact ltS_total (h4 _ h1) (h2 _ h3)
def bef (hs : List (Str × Str)) (a : Str) : List Str := (hs.filter fun p => decide (p.2 = a)).map (·.1)
theorem mem_bef {hs : List (Str × Str)} {a b : Str} : b ∈ bef hs a ↔ (b, a) ∈ hs := by
  unfold bef
  simp only [List.mem_map, List.mem_filter, decide_eq_true_eq]
  constructor
  · rintro ⟨p, ⟨h1, rfl⟩, rfl⟩; exact h1
  · intro h; exact ⟨(b, a), ⟨h, rfl⟩, rfl⟩
theorem bef_nd {hs : List (Str × Str)} (h : hs.Nodup) (a : Str) : (bef hs a).Nodup := by
  unfold bef
  have hf := h.sublist (List.filter_sublist (p := fun p : Str × Str => decide (p.2 = a)))
  refine (List.pairwise_map).mpr (List.Pairwise.imp_of_mem (fun {x y} hx hy hxy e => ?_) hf)
  have h1 := (List.mem_filter.mp hx).2
  have h2 := (List.mem_filter.mp hy).2
  simp only [decide_eq_true_eq] at h1 h2
  exact hxy (Prod.ext e (h1.trans h2.symm))
def fst (w : List Str) : Str := w.headD ""
def ext2 (hs : List (Str × Str)) (w : List Str) : List (List Str) := ((nx hs (lst w)).filter fun b => ltS (fst w) b && !decide (b ∈ w)).map fun b => w ++ [b]
/-- the rings that go on from w -/
def rt (hs : List (Str × Str)) : Nat → List Str → List (List Str)
  | 0, _ => []
  | n + 1, w => (if (lst w, fst w) ∈ hs then [w] else []) ++ (ext2 hs w).flatMap (rt hs n)
theorem lst_app (w : List Str) (b : Str) : lst (w ++ [b]) = b := by unfold lst; simp
theorem fst_app {w : List Str} (h : w ≠ []) (b : Str) : fst (w ++ [b]) = fst w := by
  cases w with
  | nil => exact absurd rfl h
  | cons x r => rfl
theorem tr_dead {hs : List (Str × Str)} {o : Str} : ∀ (n : Nat) (w : List Str), o ∈ w → o ≠ lst w → tr hs o n w = []
  | 0, w, _, _ => rfl
  | n + 1, w, h1, h2 => by
    rw [tr, if_neg (fun e => h2 e.symm), List.flatMap_eq_nil_iff]
    intro c hc
    unfold ext at hc
    obtain ⟨b, hb, rfl⟩ := List.mem_map.mp hc
    have hbw : b ∉ w := by simpa using (List.mem_filter.mp hb).2
    exact tr_dead n _ (List.mem_append_left _ h1) (by rw [lst_app]; exact fun e => hbw (e ▸ h1))
theorem tr_pre {hs : List (Str × Str)} {o : Str} : ∀ (n : Nat) (w v : List Str), v ∈ tr hs o n w → ∀ y ∈ w, y ∈ v
  | 0, w, v, h, y, hy => by simp [tr] at h
  | n + 1, w, v, h, y, hy => by
    rw [tr] at h
    split at h
    · have : v = w := by simpa using h
      rw [this]; exact hy
    · obtain ⟨c, hc, hv⟩ := List.mem_flatMap.mp h
      unfold ext at hc
      obtain ⟨b, hb, rfl⟩ := List.mem_map.mp hc
      exact tr_pre n _ v hv y (List.mem_append_left _ hy)
theorem min_dead {hs : List (Str × Str)} {o a y : Str} {n : Nat} {w : List Str} (hy : y ∈ w) (hl : ltS y a = true) : (tr hs o n w).filter (fun v => decide (mn v = a)) = [] := by
  rw [List.filter_eq_nil_iff]
  intro v hv
  have hyv := tr_pre n w v hv y hy
  have hne : v ≠ [] := fun e => by rw [e] at hyv; simp at hyv
  rw [decide_eq_true_eq]
  intro e
  have := ((mn_iff hne).mp e).2 y hyv
  rw [hl] at this; exact Bool.noConfusion this
theorem flat_app {α β : Type} (f g : α → List β) : ∀ m : List α, (m.flatMap fun b => f b ++ g b).Perm (m.flatMap f ++ m.flatMap g)
  | [] => by simp
  | b :: m => by
    rw [List.flatMap_cons, List.flatMap_cons, List.flatMap_cons]
    have ih := flat_app f g m
    refine (List.Perm.append_left _ ih).trans ?_
    rw [List.append_assoc, List.append_assoc]
    refine List.Perm.append_left _ ?_
    rw [← List.append_assoc, ← List.append_assoc]
    exact List.Perm.append_right _ List.perm_append_comm
theorem flat_swap {α β γ : Type} (f : α → β → List γ) : ∀ (l : List α) (m : List β), (l.flatMap fun a => m.flatMap fun b => f a b).Perm (m.flatMap fun b => l.flatMap fun a => f a b)
  | [], m => by simp
  | a :: l, m => by
    rw [List.flatMap_cons]
    have ih := flat_swap f l m
    refine (List.Perm.append_left _ ih).trans ?_
    refine (flat_app (fun b => f a b) (fun b => l.flatMap fun a => f a b) m).symm.trans ?_
    exact List.Perm.of_eq (by congr 1)
theorem flat_perm {α β : Type} {f g : α → List β} : ∀ l : List α, (∀ a ∈ l, (f a).Perm (g a)) → (l.flatMap f).Perm (l.flatMap g)
  | [], _ => List.Perm.refl _
  | a :: l, h => by
    rw [List.flatMap_cons, List.flatMap_cons]
    exact (h a List.mem_cons_self).append (flat_perm l fun b hb => h b (List.mem_cons_of_mem _ hb))
theorem flat_sel {α β γ : Type} {p q : α → Bool} {k : α → β} {G R : β → List γ} : ∀ l : List α, (∀ b ∈ l, p b = true → (q b = true → (G (k b)).Perm (R (k b))) ∧ (q b = false → G (k b) = [])) → (((l.filter p).map k).flatMap G).Perm (((l.filter fun b => q b && p b).map k).flatMap R)
  | [], _ => by simp
  | b :: l, h => by
    have ih := flat_sel (k := k) (G := G) (R := R) l fun c hc => h c (List.mem_cons_of_mem _ hc)
    cases hp : p b with
    | false => rw [List.filter_cons_of_neg (by simp [hp]), List.filter_cons_of_neg (by simp [hp])]; exact ih
    | true =>
      obtain ⟨h1, h2⟩ := h b List.mem_cons_self hp
      cases hq : q b with
      | false =>
        rw [List.filter_cons_of_pos hp, List.filter_cons_of_neg (by simp [hq]), List.map_cons, List.flatMap_cons, h2 hq]
        exact ih
      | true =>
        rw [List.filter_cons_of_pos hp, List.filter_cons_of_pos (by simp [hp, hq]), List.map_cons, List.map_cons, List.flatMap_cons, List.flatMap_cons]
        exact (h1 hq).append ih
theorem flat_one {w : List Str} : ∀ {l : List Str}, l.Nodup → ∀ z : Str, (l.flatMap fun o => if z = o then [w] else []) = if z ∈ l then [w] else []
  | [], _, z => by simp
  | o :: l, hn, z => by
    rw [List.flatMap_cons, flat_one (List.nodup_cons.mp hn).2 z]
    by_cases e : z = o
    · subst e
      rw [if_pos rfl, if_neg (List.nodup_cons.mp hn).1, if_pos List.mem_cons_self]; rfl
    · rw [if_neg e]
      by_cases h : z ∈ l
      · rw [if_pos h, if_pos (List.mem_cons_of_mem _ h)]; rfl
      · rw [if_neg h, if_neg (fun x => (List.mem_cons.mp x).elim e h)]; rfl
theorem ring_perm {ps : List Str} {hs : List (Str × Str)} (hb : Wb ps hs) {a : Str} : ∀ (n : Nat) (w : List Str), Gd ps w → fst w = a → (∀ y ∈ w, y = a ∨ ltS a y = true) → a ∈ w →
    (rt hs n w).Perm ((bef hs a).flatMap fun o => (tr hs o n w).filter fun v => decide (mn v = a))
  | 0, w, _, _, _, _ => by
    have : ((bef hs a).flatMap fun o => (tr hs o 0 w).filter fun v => decide (mn v = a)) = [] := by
      rw [List.flatMap_eq_nil_iff]; intro o _; rfl
    rw [this]; exact List.Perm.refl _
  | n + 1, w, hw, hf, hl, ha => by
    have hmw : mn w = a := (mn_iff hw.ne).mpr ⟨ha, fun y hy => by
      rcases hl y hy with rfl | h
      · exact ltS_irr _
      · cases hc : ltS y a with
        | false => rfl
        | true => have := ltS_trans h hc; rw [ltS_irr] at this; exact Bool.noConfusion this⟩
    have each : ∀ o ∈ bef hs a, ((tr hs o (n + 1) w).filter fun v => decide (mn v = a)) = (if lst w = o then [w] else []) ++ (ext hs w).flatMap fun c => (tr hs o n c).filter fun v => decide (mn v = a) := fun o _ => by
      rw [tr]
      by_cases e : lst w = o
      · rw [if_pos e, if_pos e, List.filter_cons_of_pos (by simpa using hmw), List.filter_nil]
        have : ((ext hs w).flatMap fun c => (tr hs o n c).filter fun v => decide (mn v = a)) = [] := by
          rw [List.flatMap_eq_nil_iff]
          intro c hc
          unfold ext at hc
          obtain ⟨b, hb', rfl⟩ := List.mem_map.mp hc
          have hbw : b ∉ w := by simpa using (List.mem_filter.mp hb').2
          have how : o ∈ w := by
            rw [← e]; unfold lst
            rw [List.getLastD_eq_getLast?, List.getLast?_eq_some_getLast hw.ne]
            exact List.getLast_mem hw.ne
          rw [tr_dead n _ (List.mem_append_left _ how) (by rw [lst_app]; exact fun e => hbw (e ▸ how))]; rfl
        rw [this]; rfl
      · rw [if_neg e, if_neg e, List.nil_append, List.filter_flatMap]
    have e1 : ((bef hs a).flatMap fun o => (tr hs o (n + 1) w).filter fun v => decide (mn v = a)) = (bef hs a).flatMap fun o => (if lst w = o then [w] else []) ++ (ext hs w).flatMap fun c => (tr hs o n c).filter fun v => decide (mn v = a) := by
      have : ∀ l : List Str, (∀ o ∈ l, o ∈ bef hs a) → (l.flatMap fun o => (tr hs o (n + 1) w).filter fun v => decide (mn v = a)) = l.flatMap fun o => (if lst w = o then [w] else []) ++ (ext hs w).flatMap fun c => (tr hs o n c).filter fun v => decide (mn v = a) := fun l => by
        induction l with
        | nil => intro _; rfl
        | cons o l ih => intro h; rw [List.flatMap_cons, List.flatMap_cons, each o (h o List.mem_cons_self), ih fun o' ho => h o' (List.mem_cons_of_mem _ ho)]
      exact this _ fun _ h => h
    rw [e1]
    refine List.Perm.trans ?_ (flat_app (fun o => if lst w = o then [w] else []) (fun o => (ext hs w).flatMap fun c => (tr hs o n c).filter fun v => decide (mn v = a)) (bef hs a)).symm
    rw [flat_one (bef_nd hb.tk.nd a) (lst w), rt, hf]
    have hif : (if (lst w, a) ∈ hs then [w] else []) = if lst w ∈ bef hs a then [w] else [] := by
      by_cases h : (lst w, a) ∈ hs
      · rw [if_pos h, if_pos (mem_bef.mpr h)]
      · rw [if_neg h, if_neg (fun x => h (mem_bef.mp x))]
    rw [hif]
    refine List.Perm.append_left _ ?_
    refine List.Perm.trans ?_ (flat_swap (fun o c => (tr hs o n c).filter fun v => decide (mn v = a)) (bef hs a) (ext hs w)).symm
    unfold ext ext2
    rw [hf]
    refine (flat_sel (p := fun b => !decide (b ∈ w)) (q := fun b => ltS a b) (k := fun b => w ++ [b]) (G := fun c => (bef hs a).flatMap fun o => (tr hs o n c).filter fun v => decide (mn v = a)) (R := rt hs n) (nx hs (lst w)) fun b hbm hp => ⟨fun hq => ?_, fun hq => ?_⟩).symm
    · have hc := ext_gd hb hw (w ++ [b]) (by unfold ext; exact List.mem_map.mpr ⟨b, List.mem_filter.mpr ⟨hbm, hp⟩, rfl⟩)
      refine (ring_perm hb n (w ++ [b]) hc.1 (by rw [fst_app hw.ne]; exact hf) (fun y hy => ?_) (List.mem_append_left _ ha)).symm
      rcases List.mem_append.mp hy with hy | hy
      · exact hl y hy
      · have : y = b := by simpa using hy
        rw [this]; exact .inr hq
    · have hbw : b ∉ w := by simpa using hp
      have hba : ltS b a = true := by
        cases hc : ltS b a with
        | true => rfl
        | false => exact absurd (ltS_total hc hq) fun e => hbw (e ▸ ha)
      rw [List.flatMap_eq_nil_iff]
      intro o _
      exact min_dead (List.mem_append_right _ List.mem_cons_self) hba
def ringsL (ps : List Str) (hs : List (Str × Str)) : List (List Str) := srt kd (ps.flatMap fun a => rt hs 6 [a])
theorem law_side {ps : List Str} {hs : List (Str × Str)} (hb : Wb ps hs) : srt kd (ps.flatMap fun a => (bef hs a).flatMap fun o => (waysL hs a o).filter fun v => decide (mn v = a)) = ringsL ps hs := by
  unfold ringsL
  refine srt_congr ?_ kd_inj
  refine flat_perm ps fun a ha => ?_
  refine (flat_perm (bef hs a) fun o _ => (srt_perm kd (tr hs o 6 [a])).filter _).trans ?_
  exact (ring_perm hb (a := a) 6 [a] (gd_one ha) rfl (fun y hy => .inl (by simpa using hy)) (by simp)).symm
end VL
/-! VW20: rings told, by the law and by the program. -/
namespace VL
open PySem PySem.Spec PyProof.Rows L2 PySem.W
section
variable {ps : List Str} {hs : List (Str × Str)}
theorem before_eq {a : Str} (hl : hs.length ≤ 100) : D_law_before [some (mdD ps hs, .fz), some (sd a, .fz)] = .ok (.lst ((bef hs a).map sd), .ow) := by
  have it : iSeq (xGet "ties" (xV 0)) [some (mdD ps hs, .fz), some (sd a, .fz), none, none] = .ok (hs.map pd, false, [some (mdD ps hs, .fz), some (sd a, .fz), none, none]) := by
    rw [ev_iSeq, get_ties (xV_fz rfl)]; rfl
  have lc := lcS_map (g := gTp 2 (gsC (gNm 2) (gsC (gNm 3) gsN))) (t := xTst (xAp2 true dEq (xV 3) (xV 1))) (e := xV 2) (ρ := [some (mdD ps hs, .fz), some (sd a, .fz), none, none]) pd (fun p => decide (p.2 = a)) (fun p => sd p.1) hs (fun p _ =>
    ⟨[some (mdD ps hs, .fz), some (sd a, .fz), some (sd p.1, .fz), some (sd p.2, .fz)], rfl, [some (mdD ps hs, .fz), some (sd a, .fz), some (sd p.1, .fz), some (sd p.2, .fz)], xTst_ok (xAp2_ok (xV_fz rfl) (by simp) (xV_fz rfl) (eq_sd _ _)), fun _ => ⟨.fz, _, xV_fz rfl, by simp, rfl⟩⟩)
  have hm : (hs.filter fun p => decide (p.2 = a)).map (fun p => sd p.1) = (bef hs a).map sd := by unfold bef; rw [List.map_map]; rfl
  rw [hm] at lc
  have ex := xLc_ok (vs := [2, 3]) (e := xV 2) it rfl (by rw [List.length_map]; exact zz (by omega)) lc
  unfold D_law_before
  refine dA_rt (ρ1 := [some (mdD ps hs, .fz), some (sd a, .fz), none, none]) (k := .ow) ?_ (by simp)
  show m_law_before [some (mdD ps hs, .fz), some (sd a, .fz), none, none] = _
  unfold m_law_before
  exact sRet_ok ex (by simp)
theorem min_wd {w : List Str} (h : w ≠ []) : dMinS (wd w) = some (.str (mn w), .fz) := by
  cases w with
  | nil => exact absurd rfl h
  | cons x r =>
    have e : strsOf ((x :: r).map sd) = some (x :: r) := by
      have : ∀ l : List Str, strsOf (l.map sd) = some l := fun l => by
        induction l with
        | nil => rfl
        | cons y l ih => show (strsOf (l.map sd)).map (y :: ·) = _; rw [ih]; rfl
      exact this _
    show (match strsOf ((x :: r).map sd) with | some (x :: r) => some (D.str (minS x r), Kd.fz) | _ => none) = _
    rw [e]; rfl
def lrE (ps : List Str) (hs : List (Str × Str)) (found : List (List Str)) (s2 s3 : Slot) : VL.Env := [some (mdD ps hs, .fz), some (.lst (found.map wd), .fz), s2, s3, none]
theorem lr_body (hb : Wb ps hs) {a o : Str} {found : List (List Str)} (ha : a ∈ ps) (hf : found.length ≤ 900000) : mb_law_rings_2 (lrE ps hs found (some (sd a, .fz)) (some (sd o, .fz))) = .ok (.nx (lrE ps hs (found ++ (waysL hs a o).filter fun v => decide (mn v = a)) (some (sd a, .fz)) (some (sd o, .fz)))) := by
  have lw := law_ways_eq (g := o) hb ha
  have gd := waysL_gd (g := o) hb ha
  have ll := waysL_len (s := a) (g := o) hb
  have c1 : xCall D_law_ways (aC true (xV 0) (aC true (xV 2) (aC true (xV 3) aN))) (lrE ps hs found (some (sd a, .fz)) (some (sd o, .fz))) = .ok (.lst ((waysL hs a o).map wd), .ow, lrE ps hs found (some (sd a, .fz)) (some (sd o, .fz))) := call3 rfl rfl rfl rfl rfl rfl lw (by simp)
  have it : iSeq (xCall D_law_ways (aC true (xV 0) (aC true (xV 2) (aC true (xV 3) aN)))) (lrE ps hs found (some (sd a, .fz)) (some (sd o, .fz))) = .ok ((waysL hs a o).map wd, false, lrE ps hs found (some (sd a, .fz)) (some (sd o, .fz))) := by rw [ev_iSeq, c1]; rfl
  have lc := lcS_map (g := gNm 4) (t := xTst (xAp2 true dEq (xApp (f1 dMinS) (aC true (xV 4) aN)) (xV 2))) (e := xV 4) (ρ := lrE ps hs found (some (sd a, .fz)) (some (sd o, .fz))) wd (fun v => decide (mn v = a)) wd (waysL hs a o) (fun v hv =>
    ⟨[some (mdD ps hs, .fz), some (.lst (found.map wd), .fz), some (sd a, .fz), some (sd o, .fz), some (wd v, .fz)], rfl, [some (mdD ps hs, .fz), some (.lst (found.map wd), .fz), some (sd a, .fz), some (sd o, .fz), some (wd v, .fz)], xTst_ok (xAp2_ok (xApp_ok (aC1_ok (xV_fz rfl) (by simp)) (min_wd (gd v hv).ne)) (by simp) (xV_fz rfl) (eq_sd _ _)), fun _ => ⟨.fz, _, xV_fz rfl, by simp, rfl⟩⟩)
  have ex := xLc_ok (vs := [4]) (e := xV 4) it rfl (by rw [List.length_map]; exact zz (by omega)) lc
  have hfl : ((waysL hs a o).filter fun v => decide (mn v = a)).length ≤ (waysL hs a o).length := List.length_filter_le _ _
  have ad := addL (f := wd) (A := found) (B := (waysL hs a o).filter fun v => decide (mn v = a)) (by omega)
  unfold mb_law_rings_2
  exact sSet_ok (xAp2_ok (xV_fz rfl) (by simp) ex ad) rfl
theorem lr_in (hb : Wb ps hs) {a : Str} (ha : a ∈ ps) : ∀ (os : List Str) (found : List (List Str)) (s3 : Slot), Fs s3 → found.length + os.length * 7776 ≤ 900000 →
    ∃ s3', Fs s3' ∧ forL (gNm 3) mb_law_rings_2 (os.map sd) (lrE ps hs found (some (sd a, .fz)) s3) = .ok (.nx (lrE ps hs (found ++ os.flatMap fun o => (waysL hs a o).filter fun v => decide (mn v = a)) (some (sd a, .fz)) s3'))
  | [], found, s3, h3, _ => ⟨s3, h3, by simp [forL]⟩
  | o :: os, found, s3, h3, hf => by
    simp only [List.length_cons] at hf
    have c3 : canSet (lrE ps hs found (some (sd a, .fz)) s3) 3 = true := h3.set
    have e0 : gNm 3 (sd o) (lrE ps hs found (some (sd a, .fz)) s3) = .ok (lrE ps hs found (some (sd a, .fz)) (some (sd o, .fz))) := by
      show setSlot .fz 3 _ .fz _ = _
      unfold setSlot; rw [if_pos c3]; rfl
    have e1 := lr_body hb (o := o) (found := found) ha (by omega)
    have ll := waysL_len (s := a) (g := o) hb
    have hfl : ((waysL hs a o).filter fun v => decide (mn v = a)).length ≤ (waysL hs a o).length := List.length_filter_le _ _
    obtain ⟨s3', h3', e2⟩ := lr_in hb ha os (found ++ (waysL hs a o).filter fun v => decide (mn v = a)) (some (sd o, .fz)) (.some _) (by rw [List.length_append]; omega)
    refine ⟨s3', h3', ?_⟩
    rw [List.map_cons]
    simp only [forL, e0, Res.bind_ok, e1]
    rw [e2, List.flatMap_cons, List.append_assoc]
theorem bef_len (hb : Wb ps hs) (a : Str) : (bef hs a).length ≤ 6 := Nat.le_trans (nodup_len _ ps (bef_nd hb.tk.nd a) fun b h => (hb.tk.ok _ (mem_bef.mp h)).1) hb.l6
theorem lr_out (hb : Wb ps hs) : ∀ (xs : List Str) (found : List (List Str)) (s2 s3 : Slot), (∀ x ∈ xs, x ∈ ps) → Fs s2 → Fs s3 → found.length + xs.length * 46656 ≤ 900000 →
    ∃ s2' s3', forL (gNm 2) mb_law_rings_1 (xs.map sd) (lrE ps hs found s2 s3) = .ok (.nx (lrE ps hs (found ++ xs.flatMap fun a => (bef hs a).flatMap fun o => (waysL hs a o).filter fun v => decide (mn v = a)) s2' s3'))
  | [], found, s2, s3, _, _, _, _ => ⟨s2, s3, by simp [forL]⟩
  | a :: xs, found, s2, s3, hx, h2, h3, hf => by
    simp only [List.length_cons] at hf
    have c2 : canSet (lrE ps hs found s2 s3) 2 = true := h2.set
    have e0 : gNm 2 (sd a) (lrE ps hs found s2 s3) = .ok (lrE ps hs found (some (sd a, .fz)) s3) := by
      show setSlot .fz 2 _ .fz _ = _
      unfold setSlot; rw [if_pos c2]; rfl
    have bl := bef_len hb a
    obtain ⟨s3', h3', e1⟩ := lr_in hb (hx a List.mem_cons_self) (bef hs a) found s3 h3 (by omega)
    have e1' : mb_law_rings_1 (lrE ps hs found (some (sd a, .fz)) s3) = .ok (.nx (lrE ps hs (found ++ (bef hs a).flatMap fun o => (waysL hs a o).filter fun v => decide (mn v = a)) (some (sd a, .fz)) s3')) := by
      have cb : xCall D_law_before (aC true (xV 0) (aC true (xV 2) aN)) (lrE ps hs found (some (sd a, .fz)) s3) = .ok (.lst ((bef hs a).map sd), .ow, lrE ps hs found (some (sd a, .fz)) s3) := callA_ok (aC_ok (xV_fz rfl) (by simp) (aC1_ok (xV_fz rfl) (by simp))) rfl (before_eq (by have := hb.hm; omega)) (by simp)
      have it : iSeq (xCall D_law_before (aC true (xV 0) (aC true (xV 2) aN))) (lrE ps hs found (some (sd a, .fz)) s3) = .ok ((bef hs a).map sd, false, lrE ps hs found (some (sd a, .fz)) s3) := by rw [ev_iSeq, cb]; rfl
      unfold mb_law_rings_1
      rw [ev_sFor, it]
      simp only [Res.bind_ok, Bool.false_eq_true, if_false]
      exact e1
    have hlen : ((bef hs a).flatMap fun o => (waysL hs a o).filter fun v => decide (mn v = a)).length ≤ 46656 := by
      refine Nat.le_trans (flat_len _ 7776 _ fun o _ => Nat.le_trans (List.length_filter_le _ _) (waysL_len hb)) ?_
      omega
    obtain ⟨s2'', s3'', e2⟩ := lr_out hb xs (found ++ (bef hs a).flatMap fun o => (waysL hs a o).filter fun v => decide (mn v = a)) (some (sd a, .fz)) s3' (fun x h => hx x (List.mem_cons_of_mem _ h)) (.some _) h3' (by rw [List.length_append]; omega)
    refine ⟨s2'', s3'', ?_⟩
    rw [List.map_cons]
    simp only [forL, e0, Res.bind_ok, e1']
    rw [e2, List.flatMap_cons, List.append_assoc]
theorem law_rings_eq (hb : Wb ps hs) : D_law_rings [some (mdD ps hs, .fz)] = .ok (.lst ((ringsL ps hs).map wd), .ow) := by
  have h6 := hb.l6
  obtain ⟨s2, s3, e⟩ := lr_out hb ps [] none none (fun _ h => h) .none .none (by simp; omega)
  have a1 : sSet .fz 1 (xLst aN) (bodyEnv 5 [some (mdD ps hs, .fz)]) = .ok (.nx (lrE ps hs [] none none)) := by
    refine sSet_ok (d := .lst []) (k := .ow) (ρ1 := bodyEnv 5 [some (mdD ps hs, .fz)]) ?_ rfl
    rw [ev_xLst, ev_aN]
    simp only [Res.bind_ok]
    rw [if_pos ⟨rfl, Nat.zero_le _⟩]; rfl
  rw [List.nil_append] at e
  have a2 : sFor (iSeq (xGet "dots" (xV 0))) (gNm 2) mb_law_rings_1 (lrE ps hs [] none none) = .ok (.nx (lrE ps hs (ps.flatMap fun a => (bef hs a).flatMap fun o => (waysL hs a o).filter fun v => decide (mn v = a)) s2 s3)) := by
    have it : iSeq (xGet "dots" (xV 0)) (lrE ps hs [] none none) = .ok (ps.map sd, false, lrE ps hs [] none none) := by rw [ev_iSeq, get_dots (ds := ps) (ts := hs) (k := .fz) (xV_fz (i := 0) rfl)]; rfl
    rw [ev_sFor, it]
    simp only [Res.bind_ok, Bool.false_eq_true, if_false]
    exact e
  have hlen : (ps.flatMap fun a => (bef hs a).flatMap fun o => (waysL hs a o).filter fun v => decide (mn v = a)).length ≤ 6 * 46656 := by
    refine Nat.le_trans (flat_len _ 46656 _ fun a _ => ?_) (Nat.mul_le_mul_right _ h6)
    have bl := bef_len hb a
    refine Nat.le_trans (flat_len _ 7776 _ fun o _ => Nat.le_trans (List.length_filter_le _ _) (waysL_len hb)) ?_
    omega
  have sh := shorter_eq (fl := .fz) (ws := ps.flatMap fun a => (bef hs a).flatMap fun o => (waysL hs a o).filter fun v => decide (mn v = a)) (.inl rfl) (by omega)
  rw [law_side hb] at sh
  unfold D_law_rings
  refine dA_rt (ρ1 := lrE ps hs (ps.flatMap fun a => (bef hs a).flatMap fun o => (waysL hs a o).filter fun v => decide (mn v = a)) s2 s3) (k := .ow) ?_ (by simp)
  unfold m_law_rings
  rw [sSeq_nx a1, sSeq_nx a2]
  exact sRet_ok (callA_ok (aC1_ok (k := .fz) (xV_fz rfl) (by simp)) rfl sh (by simp)) (by simp)
end
end VL
/-! VW21: the program's rings. -/
namespace VL
open PySem PySem.Spec PyProof.Rows L2 PySem.W
section
variable {ps : List Str} {hs : List (Str × Str)}
def rgE (ps : List Str) (hs : List (Str × Str)) (found stack : List (List Str)) (s3 s4 : Slot) : VL.Env := [some (webD ps hs, .fz), some (.lst (found.map wd), .ow), some (.lst (stack.map wd), .ow), s3, s4]
theorem wd_idx0 {w : List Str} (h : w ≠ []) : dIdx (wd w) (.int 0) = some (sd (fst w), .fz) := by
  cases w with
  | nil => exact absurd rfl h
  | cons x r => rw [show wd (x :: r) = .tup (sd x :: r.map sd) from rfl, ev_idx_t, atI_zero]; rfl
theorem gt_sd (a b : Str) : dGtS (sd a) (sd b) = some (.bl (ltS b a), .fz) := rfl
theorem rg_in (hb : Wb ps hs) {w : List Str} (hw : Gd ps w) : ∀ (xs : List Str) (found st : List (List Str)) (s3 : Slot), (∀ x ∈ xs, x ∈ ps) → Fs s3 → found.length + xs.length ≤ 900000 → st.length + xs.length ≤ 900000 →
    ∃ s3', Fs s3' ∧ forL (gNm 3) mb_rings_of_2 (xs.map sd) (rgE ps hs found st s3 (some (wd w, .fz))) = .ok (.nx (rgE ps hs (found ++ (xs.filter fun b => decide (b = fst w)).map fun _ => w) (st ++ (xs.filter fun b => ltS (fst w) b && !decide (b ∈ w)).map fun b => w ++ [b]) s3' (some (wd w, .fz))))
  | [], found, st, s3, _, h3, _, _ => ⟨s3, h3, by simp [forL]⟩
  | b :: xs, found, st, s3, hx, h3, h1, h2 => by
    simp only [List.length_cons] at h1 h2
    have hbp := hx b List.mem_cons_self
    have hwl : w.length ≤ 1000 := Nat.le_trans hw.len (Nat.le_trans hb.l6 (by decide))
    have c3 : canSet (rgE ps hs found st s3 (some (wd w, .fz))) 3 = true := h3.set
    have e0 : gNm 3 (sd b) (rgE ps hs found st s3 (some (wd w, .fz))) = .ok (rgE ps hs found st (some (sd b, .fz)) (some (wd w, .fz))) := by
      show setSlot .fz 3 _ .fz _ = _
      unfold setSlot; rw [if_pos c3]; rfl
    have i0 : xAp2 true dIdx (xV 4) (xC (.int 0)) (rgE ps hs found st (some (sd b, .fz)) (some (wd w, .fz))) = .ok (sd (fst w), .fz, rgE ps hs found st (some (sd b, .fz)) (some (wd w, .fz))) := xAp2_ok (xV_fz rfl) (by simp) (ev_xC _ _) (wd_idx0 hw.ne)
    have t1 : xTst (xAp2 true dEq (xV 3) (xAp2 true dIdx (xV 4) (xC (.int 0)))) (rgE ps hs found st (some (sd b, .fz)) (some (wd w, .fz))) = .ok (decide (b = fst w), rgE ps hs found st (some (sd b, .fz)) (some (wd w, .fz))) := xTst_ok (xAp2_ok (xV_fz rfl) (by simp) i0 (eq_sd _ _))
    have t2 : xTst (xAp2 true dGtS (xV 3) (xAp2 true dIdx (xV 4) (xC (.int 0)))) (rgE ps hs found st (some (sd b, .fz)) (some (wd w, .fz))) = .ok (ltS (fst w) b, rgE ps hs found st (some (sd b, .fz)) (some (wd w, .fz))) := xTst_ok (xAp2_ok (xV_fz rfl) (by simp) i0 (gt_sd _ _))
    have t3 : xTst (xAp2 true dNotIn (xV 3) (xV 4)) (rgE ps hs found st (some (sd b, .fz)) (some (wd w, .fz))) = .ok (!decide (b ∈ w), rgE ps hs found st (some (sd b, .fz)) (some (wd w, .fz))) := xTst_ok (xAp2_ok (xV_fz rfl) (by simp) (xV_fz rfl) (encS.ni_t (hb.nm b hbp) fun x hx => hb.nm x (hw.sub x hx)))
    rw [List.map_cons]
    by_cases e : b = fst w
    · have e1 : mb_rings_of_2 (rgE ps hs found st (some (sd b, .fz)) (some (wd w, .fz))) = .ok (.nx (rgE ps hs (found ++ [w]) st (some (sd b, .fz)) (some (wd w, .fz)))) := by
        rw [decide_eq_true e] at t1
        unfold mb_rings_of_2
        rw [sIf_t t1]
        have ha : mAppend (.lst (found.map wd)) [wd w] = some (.lst ((found ++ [w]).map wd), .non) := by
          show (if (found.map wd).length < sizeLine then some (D.lst (found.map wd ++ [wd w]), D.non) else none) = _
          rw [if_pos (by rw [List.length_map, sizeLine_eq]; omega)]; simp
        exact sEx_ok (mut_ok (p := D.isLst) (i := 1) (g := mAppend) rfl rfl rfl (aC1_ok (xV_fz (i := 4) rfl) (by simp)) rfl rfl rfl rfl ha)
      obtain ⟨s3', h3', e2⟩ := rg_in hb hw xs (found ++ [w]) st (some (sd b, .fz)) (fun x h => hx x (List.mem_cons_of_mem _ h)) (.some _) (by rw [List.length_append]; simp; omega) (by omega)
      refine ⟨s3', h3', ?_⟩
      simp only [forL, e0, Res.bind_ok, e1]
      have hn : (ltS (fst w) b && !decide (b ∈ w)) = false := by rw [e, ltS_irr]; rfl
      rw [e2, List.filter_cons_of_pos (by simpa using e), List.filter_cons_of_neg (by simp [hn]), List.map_cons, List.append_assoc]; rfl
    · rw [decide_eq_false e] at t1
      cases hq : (ltS (fst w) b && !decide (b ∈ w)) with
      | true =>
        rw [Bool.and_eq_true] at hq
        rw [hq.1] at t2
        rw [hq.2] at t3
        have e1 : mb_rings_of_2 (rgE ps hs found st (some (sd b, .fz)) (some (wd w, .fz))) = .ok (.nx (rgE ps hs found (st ++ [w ++ [b]]) (some (sd b, .fz)) (some (wd w, .fz)))) := by
          unfold mb_rings_of_2
          rw [sIf_f t1, sIf_t ((show bAnd _ _ _ = _ from by rw [ev_bAnd, ev_bIf, t2]; rfl : bAnd (xTst (xAp2 true dGtS (xV 3) (xAp2 true dIdx (xV 4) (xC (.int 0))))) (xTst (xAp2 true dNotIn (xV 3) (xV 4))) (rgE ps hs found st (some (sd b, .fz)) (some (wd w, .fz))) = xTst (xAp2 true dNotIn (xV 3) (xV 4)) (rgE ps hs found st (some (sd b, .fz)) (some (wd w, .fz)))).trans t3)]
          have x1 : aStar (xV 4) (aC true (xV 3) aN) (rgE ps hs found st (some (sd b, .fz)) (some (wd w, .fz))) = .ok (fzL (w.map sd) ++ [(sd b, .fz)], rgE ps hs found st (some (sd b, .fz)) (some (wd w, .fz))) := by
            rw [ev_aStar, xV_fz (d := .tup (w.map sd)) rfl]
            simp only [Res.bind_ok]
            rw [aC1_ok (d := sd b) (k := .fz) (xV_fz rfl) (by simp)]; rfl
          have zl : (fzL (w.map sd) ++ [(sd b, Kd.fz)]).length ≤ sizeLine := by
            unfold fzL; rw [List.length_append, List.length_map, List.length_map]; exact zz (by simp; omega)
          have fa : fzAll (fzL (w.map sd) ++ [(sd b, Kd.fz)]) = true := by
            unfold fzAll fzL
            rw [List.all_append, List.all_map, List.all_map]
            simp [sd]
          have em : (fzL (w.map sd) ++ [(sd b, Kd.fz)]).map (·.1) = (w ++ [b]).map sd := by
            unfold fzL
            rw [List.map_append, List.map_append, List.map_map]
            simp
          have x2 : xTup (aStar (xV 4) (aC true (xV 3) aN)) (rgE ps hs found st (some (sd b, .fz)) (some (wd w, .fz))) = .ok (wd (w ++ [b]), .fz, rgE ps hs found st (some (sd b, .fz)) (some (wd w, .fz))) := by
            rw [ev_xTup, x1]
            simp only [Res.bind_ok]
            rw [if_pos ⟨fa, zl⟩, em]; rfl
          have ha : mAppend (.lst (st.map wd)) [wd (w ++ [b])] = some (.lst ((st ++ [w ++ [b]]).map wd), .non) := by
            show (if (st.map wd).length < sizeLine then some (D.lst (st.map wd ++ [wd (w ++ [b])]), D.non) else none) = _
            rw [if_pos (by rw [List.length_map, sizeLine_eq]; omega)]; simp
          exact sEx_ok (mut_ok (p := D.isLst) (i := 2) (g := mAppend) rfl rfl rfl (aC1_ok x2 (by simp)) rfl rfl rfl rfl ha)
        obtain ⟨s3', h3', e2⟩ := rg_in hb hw xs found (st ++ [w ++ [b]]) (some (sd b, .fz)) (fun x h => hx x (List.mem_cons_of_mem _ h)) (.some _) (by omega) (by rw [List.length_append]; simp; omega)
        refine ⟨s3', h3', ?_⟩
        simp only [forL, e0, Res.bind_ok, e1]
        rw [e2, List.filter_cons_of_neg (by simpa using e), List.filter_cons_of_pos (by rw [hq.1, hq.2]; rfl), List.map_cons, List.append_assoc]; rfl
      | false =>
        have e1 : mb_rings_of_2 (rgE ps hs found st (some (sd b, .fz)) (some (wd w, .fz))) = .ok (.nx (rgE ps hs found st (some (sd b, .fz)) (some (wd w, .fz)))) := by
          unfold mb_rings_of_2
          rw [sIf_f t1]
          have : bAnd (xTst (xAp2 true dGtS (xV 3) (xAp2 true dIdx (xV 4) (xC (.int 0))))) (xTst (xAp2 true dNotIn (xV 3) (xV 4))) (rgE ps hs found st (some (sd b, .fz)) (some (wd w, .fz))) = .ok (false, rgE ps hs found st (some (sd b, .fz)) (some (wd w, .fz))) := by
            rw [ev_bAnd, ev_bIf, t2]
            cases hl : ltS (fst w) b with
            | false => rfl
            | true =>
              rw [hl, Bool.true_and] at hq
              rw [hq] at t3
              exact t3
          exact (sIf_f this).trans (sNil_ok _)
        obtain ⟨s3', h3', e2⟩ := rg_in hb hw xs found st (some (sd b, .fz)) (fun x h => hx x (List.mem_cons_of_mem _ h)) (.some _) (by omega) (by omega)
        refine ⟨s3', h3', ?_⟩
        simp only [forL, e0, Res.bind_ok, e1]
        rw [e2, List.filter_cons_of_neg (by simpa using e), List.filter_cons_of_neg (by simp [hq])]
theorem hit_one {w : List Str} : ∀ {l : List Str}, l.Nodup → ∀ z : Str, ((l.filter fun b => decide (b = z)).map fun _ => w) = if z ∈ l then [w] else []
  | [], _, z => by simp
  | o :: l, hn, z => by
    by_cases e : o = z
    · subst e
      have := hit_one (w := w) (List.nodup_cons.mp hn).2 o
      rw [if_neg (List.nodup_cons.mp hn).1] at this
      rw [List.filter_cons_of_pos (by simp), List.map_cons, this, if_pos List.mem_cons_self]
    · rw [List.filter_cons_of_neg (by simpa using e), hit_one (List.nodup_cons.mp hn).2 z]
      by_cases h : z ∈ l
      · rw [if_pos h, if_pos (List.mem_cons_of_mem _ h)]
      · rw [if_neg h, if_neg (fun x => (List.mem_cons.mp x).elim (fun x => e x.symm) h)]
theorem ext2_len (hb : Wb ps hs) (w : List Str) : (ext2 hs w).length ≤ 6 := by
  unfold ext2
  rw [List.length_map]
  exact Nat.le_trans (List.length_filter_le _ _) (nx_len hb _)
theorem ext2_gd (hb : Wb ps hs) {w : List Str} (hw : Gd ps w) : ∀ c ∈ ext2 hs w, Gd ps c ∧ c.length = w.length + 1 := fun c hc => by
  refine ext_gd hb hw c ?_
  unfold ext2 at hc
  obtain ⟨b, hb', rfl⟩ := List.mem_map.mp hc
  obtain ⟨h1, h2⟩ := List.mem_filter.mp hb'
  rw [Bool.and_eq_true] at h2
  unfold ext
  exact List.mem_map.mpr ⟨b, List.mem_filter.mpr ⟨h1, h2.2⟩, rfl⟩
theorem rg_body (hb : Wb ps hs) {found st : List (List Str)} {w : List Str} {s3 s4 : Slot} (h3 : Fs s3) (h4 : Fs s4) (hw : Gd ps w) (h1 : found.length ≤ 800000) (h2 : st.length ≤ 800000) : ∃ s3' s4', Fs s3' ∧ Fs s4' ∧ mb_rings_of_1 (rgE ps hs found (st ++ [w]) s3 s4) = .ok (.nx (rgE ps hs (found ++ if (lst w, fst w) ∈ hs then [w] else []) (st ++ ext2 hs w) s3' s4')) := by
  have c4 : canSet (rgE ps hs found st s3 s4) 4 = true := h4.set
  have hp : mPop (.lst ((st ++ [w]).map wd)) [] = some (.lst (st.map wd), wd w) := by
    show (((st ++ [w]).map wd)[((st ++ [w]).map wd).length - 1]?).map (fun d => (D.lst ((st ++ [w]).map wd).dropLast, d)) = _
    rw [List.map_append, List.map_cons, List.map_nil, List.dropLast_concat]
    have : (st.map wd ++ [wd w])[(st.map wd ++ [wd w]).length - 1]? = some (wd w) := by simp
    rw [this]; rfl
  have a1 : sSet .fz 4 (xMut D.isLst 2 mPop aN) (rgE ps hs found (st ++ [w]) s3 s4) = .ok (.nx (rgE ps hs found st s3 (some (wd w, .fz)))) := by
    refine sSet_ok (mut_ok (p := D.isLst) (i := 2) (g := mPop) (f := aN) (ρ1 := rgE ps hs found (st ++ [w]) s3 s4) rfl rfl rfl (ev_aN _) rfl rfl rfl rfl hp) ?_
    have e : (rgE ps hs found (st ++ [w]) s3 s4).set 2 (some (.lst (st.map wd), .ow)) = rgE ps hs found st s3 s4 := rfl
    rw [e]
    unfold setSlot
    rw [if_pos c4]; rfl
  have el : xAp2 true dIdx (xV 4) (xAp1 dNeg (xC (.int 1))) (rgE ps hs found st s3 (some (wd w, .fz))) = .ok (sd (lst w), .fz, rgE ps hs found st s3 (some (wd w, .fz))) := by
    refine xAp2_ok (xV_fz rfl) (by simp) (b := .int (-1)) (k2 := .fz) (ρ2 := rgE ps hs found st s3 (some (wd w, .fz))) ?_ (wd_idx hw.ne)
    rw [ev_xAp1, ev_xC]; rfl
  have en := takers_eq (ps := ps) (hs := hs) (a := lst w) (by have := hb.hm; omega)
  have cn : xCall D_takers_of (aC true (xV 0) (aC true (xAp2 true dIdx (xV 4) (xAp1 dNeg (xC (.int 1)))) aN)) (rgE ps hs found st s3 (some (wd w, .fz))) = .ok (.lst ((nx hs (lst w)).map sd), .ow, rgE ps hs found st s3 (some (wd w, .fz))) := callA_ok (aC_ok (xV_fz rfl) (by simp) (aC1_ok el (by simp))) rfl en (by simp)
  have it : iSeq (xCall D_takers_of (aC true (xV 0) (aC true (xAp2 true dIdx (xV 4) (xAp1 dNeg (xC (.int 1)))) aN))) (rgE ps hs found st s3 (some (wd w, .fz))) = .ok ((nx hs (lst w)).map sd, false, rgE ps hs found st s3 (some (wd w, .fz))) := by rw [ev_iSeq, cn]; rfl
  have nl := nx_len hb (lst w)
  obtain ⟨s3', h3', e⟩ := rg_in hb hw (nx hs (lst w)) found st s3 (fun x hx => (hb.tk.ok _ (mem_nx.mp hx)).2.1) h3 (by omega) (by omega)
  refine ⟨s3', some (wd w, .fz), h3', .some _, ?_⟩
  unfold mb_rings_of_1
  rw [sSeq_nx a1, ev_sFor, it]
  simp only [Res.bind_ok, Bool.false_eq_true, if_false]
  rw [e, hit_one (nx_nd hb.tk.nd _)]
  have hif : (if fst w ∈ nx hs (lst w) then [w] else []) = if (lst w, fst w) ∈ hs then [w] else [] := by
    by_cases h : (lst w, fst w) ∈ hs
    · rw [if_pos h, if_pos (mem_nx.mpr h)]
    · rw [if_neg h, if_neg (fun x => h (mem_nx.mp x))]
  rw [hif]; rfl
theorem mea_ext2 (hb : Wb ps hs) {w : List Str} (hw : Gd ps w) : mea (ext2 hs w) + 1 ≤ sz (7 - w.length) := by
  have hl := hw.len
  have h6 := hb.l6
  have e : 7 - w.length = (6 - w.length) + 1 := by omega
  have hall : ∀ c ∈ ext2 hs w, sz (7 - c.length) = sz (6 - w.length) := fun c hc => by rw [(ext2_gd hb hw c hc).2]; congr 1; omega
  have : mea (ext2 hs w) = (ext2 hs w).length * sz (6 - w.length) := by
    unfold mea
    have : ∀ l : List (List Str), (∀ c ∈ l, sz (7 - c.length) = sz (6 - w.length)) → (l.map fun w => sz (7 - w.length)).sum = l.length * sz (6 - w.length) := fun l => by
      induction l with
      | nil => simp
      | cons c l ih =>
        intro h
        rw [List.map_cons, List.sum_cons, ih (fun d hd => h d (List.mem_cons_of_mem _ hd)), h c List.mem_cons_self, List.length_cons, Nat.add_mul, Nat.one_mul, Nat.add_comm]
    exact this _ hall
  rw [this, e]
  have hx := Nat.mul_le_mul_right (sz (6 - w.length)) (ext2_len hb w)
  show _ ≤ 1 + 6 * sz (6 - w.length)
  omega
theorem rt_len (hb : Wb ps hs) : ∀ (n : Nat) (w : List Str), (rt hs n w).length ≤ sz n
  | 0, w => by simp [rt]
  | n + 1, w => by
    rw [rt, List.length_append]
    have h1 : (if (lst w, fst w) ∈ hs then [w] else []).length ≤ 1 := by split <;> simp
    have h2 := flat_len (rt hs n) (sz n) (ext2 hs w) fun a _ => rt_len hb n a
    have h3 := Nat.mul_le_mul_right (sz n) (ext2_len hb w)
    show _ ≤ 1 + 6 * sz n
    omega
theorem rings_of_eq (hb : Wb ps hs) : D_rings_of [some (webD ps hs, .fz)] = .ok (.lst ((ringsL ps hs).map wd), .ow) := by
  have z1 : 1 ≤ sizeLine := zz (by decide)
  have h6 := hb.l6
  have hsz : sz 6 = 55987 := by decide
  have a1 : sPar2 .ow .ow 1 2 (xLst aN) (xLc [3] (iSeq (xAp1 (dFld [50] "own_parties") (xV 0))) (gNm 3) bYes (xTup (aC true (xV 3) aN))) (bodyEnv 5 [some (webD ps hs, .fz)]) = .ok (.nx (rgE ps hs [] (ps.map fun p => [p]) none none)) := by
    have it : iSeq (xAp1 (dFld [50] "own_parties") (xV 0)) (bodyEnv 5 [some (webD ps hs, .fz)]) = .ok (ps.map sd, false, bodyEnv 5 [some (webD ps hs, .fz)]) := by rw [ev_iSeq, fld_p rfl]; rfl
    have lc := lcS_map (g := gNm 3) (t := bYes) (e := xTup (aC true (xV 3) aN)) (ρ := bodyEnv 5 [some (webD ps hs, .fz)]) sd (fun _ => true) (fun p => wd [p]) ps (fun p _ =>
      ⟨[some (webD ps hs, .fz), none, none, some (sd p, .fz), none], rfl, [some (webD ps hs, .fz), none, none, some (sd p, .fz), none], rfl, fun _ => ⟨.fz, [some (webD ps hs, .fz), none, none, some (sd p, .fz), none], by
        rw [ev_xTup, aC1_ok (d := sd p) (k := .fz) (xV_fz rfl) (by simp)]
        simp only [Res.bind_ok]
        rw [if_pos ⟨rfl, z1⟩]; rfl, by simp, rfl⟩⟩)
    rw [List.filter_eq_self.mpr (fun _ _ => rfl)] at lc
    have ex := xLc_ok (vs := [3]) (e := xTup (aC true (xV 3) aN)) it rfl (by rw [List.length_map]; exact zz (by omega)) lc
    have en : xLst aN (bodyEnv 5 [some (webD ps hs, .fz)]) = .ok (.lst [], .ow, bodyEnv 5 [some (webD ps hs, .fz)]) := by
      rw [ev_xLst, ev_aN]
      simp only [Res.bind_ok]
      rw [if_pos ⟨rfl, Nat.zero_le _⟩]; rfl
    rw [ev_sPar2, en]
    simp only [ev_rbind_ok, reduceCtorEq, if_false, ex]
    unfold rgE
    rw [List.map_map, List.map_nil]
    rfl
  have cnd : ∀ (found st : List (List Str)) (s3 s4 : Slot), (∀ w ∈ st, Gd ps w) → xTst (xAp2 true dNe (xV 2) (xLst aN)) (rgE ps hs found st s3 s4) = .ok (!st.isEmpty, rgE ps hs found st s3 s4) := fun found st s3 s4 h => by
    have en := encW.nn (l := st) fun w hw => gd_nmw hb (h w hw)
    refine xTst_ok (xAp2_ok (a := .lst (st.map wd)) (k1 := .br) (ρ1 := rgE ps hs found st s3 s4) rfl (by simp) (b := .lst []) (k2 := .ow) (ρ2 := rgE ps hs found st s3 s4) ?_ en)
    rw [ev_xLst, ev_aN]
    simp only [Res.bind_ok]
    rw [if_pos ⟨rfl, Nat.zero_le _⟩]; rfl
  have tl : (ps.flatMap fun a => rt hs 6 [a]).length ≤ 335922 := by
    have h1 := flat_len (fun a => rt hs 6 [a]) (sz 6) ps fun a _ => rt_len hb 6 [a]
    have h2 := Nat.mul_le_mul_right (sz 6) h6
    omega
  have hm0 : mea (ps.map fun p => [p]) ≤ 335922 := by
    have : mea (ps.map fun p => [p]) = ps.length * sz 6 := by
      unfold mea
      rw [List.map_map]
      have : ∀ l : List Str, (l.map ((fun w : List Str => sz (7 - w.length)) ∘ fun p => [p])).sum = l.length * sz 6 := fun l => by
        induction l with
        | nil => simp
        | cons p l ih => rw [List.map_cons, List.sum_cons, ih, List.length_cons, Nat.add_mul, Nat.one_mul, Nat.add_comm]; rfl
      exact this ps
    have h2 := Nat.mul_le_mul_right (sz 6) h6
    omega
  obtain ⟨ρ', e, hR⟩ := whileL_ok (c := xTst (xAp2 true dNe (xV 2) (xLst aN))) (body := mb_rings_of_1) (fun m ρ => ∃ (found st : List (List Str)) (s3 s4 : Slot), ρ = rgE ps hs found st s3 s4 ∧ Fs s3 ∧ Fs s4 ∧ m = mea st ∧ mea st ≤ 335922 ∧ (∀ w ∈ st, Gd ps w) ∧ (found ++ st.flatMap fun w => rt hs (7 - w.length) w).Perm (ps.flatMap fun a => rt hs 6 [a]))
    (fun ρ => ∃ (found : List (List Str)) (s3 s4 : Slot), ρ = rgE ps hs found [] s3 s4 ∧ found.Perm (ps.flatMap fun a => rt hs 6 [a])) (fun m ρ hI => by
      obtain ⟨found, st, s3, s4, rfl, h3, h4, rfl, hm, hl, hp⟩ := hI
      have ec := cnd found st s3 s4 hl
      rcases List.eq_nil_or_concat st with rfl | ⟨st, w, rfl⟩
      · exact .inl ⟨_, ec, found, s3, s4, rfl, by simpa using hp⟩
      · rw [List.concat_eq_append] at *
        have hw := hl w (List.mem_append_right _ List.mem_cons_self)
        have hst : ∀ v ∈ st, Gd ps v := fun v hv => hl v (List.mem_append_left _ hv)
        have hwl := hw.len
        have hfl : found.length ≤ 335922 := by
          have := hp.length_eq
          rw [List.length_append] at this
          omega
        have ml := mea_len (st ++ [w])
        rw [List.length_append] at ml
        have m1 : mea (st ++ [w]) = mea st + sz (7 - w.length) := by rw [mea_app]; unfold mea; simp
        obtain ⟨s3', s4', h3', h4', eb⟩ := rg_body hb (found := found) (st := st) (w := w) h3 h4 hw (by omega) (by omega)
        have hec : (!(st ++ [w]).isEmpty) = true := by simp
        rw [hec] at ec
        rw [List.flatMap_append, List.flatMap_cons, List.flatMap_nil, List.append_nil] at hp
        have e7 : 7 - w.length = (6 - w.length) + 1 := by omega
        have me := mea_ext2 hb hw
        refine .inr ⟨_, _, mea (st ++ ext2 hs w), ec, eb, by rw [mea_app]; omega, _, st ++ ext2 hs w, s3', s4', rfl, h3', h4', rfl, by rw [mea_app]; omega, fun v hv => (List.mem_append.mp hv).elim (hst v) fun hv => (ext2_gd hb hw v hv).1, ?_⟩
        have et : rt hs (7 - w.length) w = (if (lst w, fst w) ∈ hs then [w] else []) ++ (ext2 hs w).flatMap fun v => rt hs (7 - v.length) v := by
          rw [e7, rt]
          have : ∀ l : List (List Str), (∀ c ∈ l, c.length = w.length + 1) → l.flatMap (rt hs (6 - w.length)) = l.flatMap fun v => rt hs (7 - v.length) v := fun l => by
            induction l with
            | nil => intro _; rfl
            | cons c l ih =>
              intro h
              rw [List.flatMap_cons, List.flatMap_cons, ih fun d hd => h d (List.mem_cons_of_mem _ hd), h c List.mem_cons_self, show 7 - (w.length + 1) = 6 - w.length by omega]
          rw [this _ fun c hc => (ext2_gd hb hw c hc).2]
        rw [et] at hp
        refine List.Perm.trans ?_ hp
        rw [List.flatMap_append, List.append_assoc]
        refine List.Perm.append_left _ ?_
        rw [← List.append_assoc, ← List.append_assoc]
        exact List.Perm.append_right _ List.perm_append_comm) 1000000 (mea (ps.map fun p => [p])) _ (by omega) ⟨[], ps.map fun p => [p], none, none, rfl, .none, .none, rfl, hm0, fun w hw => by
        obtain ⟨p, hp, rfl⟩ := List.mem_map.mp hw
        exact gd_one hp, by rw [List.nil_append, List.flatMap_map]; exact List.Perm.refl _⟩
  obtain ⟨found, s3, s4, rfl, hp⟩ := hR
  have sh := shorter_eq2 (fl := .lk) (ws := found) (.inr rfl) (by rw [hp.length_eq]; omega)
  rw [srt_congr hp kd_inj] at sh
  unfold D_rings_of
  refine dA_rt (ρ1 := rgE ps hs found [] s3 s4) (k := .ow) ?_ (by simp)
  unfold m_rings_of
  rw [sSeq_nx a1, sSeq_nx (show sWhile 1000000 _ _ _ = _ from e)]
  exact sRet_ok (callA_ok (l := [(.lst (found.map wd), .br)]) (aC1_ok (k := .br) rfl (by simp)) rfl sh (by simp)) (by simp)
theorem rings_eq (hb : Wb ps hs) : D_rings [some (webD ps hs, .fz)] = .ok (.lst ((ringsL ps hs).map wd), .ow) := by
  unfold D_rings
  refine dA_rt (ρ1 := [some (webD ps hs, .fz)]) (k := .ow) ?_ (by simp)
  show m_rings [some (webD ps hs, .fz)] = _
  unfold m_rings
  rw [sSeq_nx (sEx_ok (call1 rfl rfl need_web_eq))]
  exact sRet_ok (callA_ok (aC1_ok (xV_fz rfl) (by simp)) rfl (rings_of_eq hb) (by simp)) (by simp)
end
end VL
/-! VW22: steps of laws; texts of rings. -/
namespace VL
open PySem PySem.Spec PyProof.Rows L2 PySem.W
theorem callK_ok {m : FA} {perm : List Nat} {s2 : Bool} {f fk : AE} {ρ ρ1 ρ2 : VL.Env} {l1 l2 : List (D × Kd)} {d : D} {k : Kd} (hf : f ρ = .ok (l1, ρ1)) (hb : (l1.any fun dk => decide (dk.2 = .br)) = false) (hk : fk ρ1 = .ok (l2, ρ2)) (ha : argsOk (pick perm (l1 ++ l2)) = true) (hm : m ((pick perm (l1 ++ l2)).map argS) = .ok (d, k)) (hkb : k ≠ .br) : xCallK m perm s2 f fk ρ = .ok (d, k, ρ2) := by
  rw [ev_xCallK, hf]
  simp only [Res.bind_ok]
  rw [if_neg (fun e => by rw [hb] at e; exact Bool.noConfusion e.1), hk]
  simp only [Res.bind_ok]
  rw [if_pos ha, hm]
  simp only
  rw [if_neg hkb]
theorem same_repr {F G : EE} {A : SE} {ρ : VL.Env} {d : D} {k1 k2 : Kd} {z : Str} (hF : F ρ = .ok (d, k1, ρ)) (hG : G ρ = .ok (d, k2, ρ)) (hz : dRepr d = some (.str z, .fz)) : sIf (xTst (xAp2 true dNe (xApp (f1 dRepr) (aC true F aN)) (xApp (f1 dRepr) (aC true G aN)))) A sNil ρ = .ok (.nx ρ) := by
  have e1 : xApp (f1 dRepr) (aC true F aN) ρ = .ok (.str z, .fz, ρ) := xApp_ok (aC1_ok hF (by simp)) hz
  have e2 : xApp (f1 dRepr) (aC true G aN) ρ = .ok (.str z, .fz, ρ) := xApp_ok (aC1_ok hG (by simp)) hz
  have c : xTst (xAp2 true dNe (xApp (f1 dRepr) (aC true F aN)) (xApp (f1 dRepr) (aC true G aN))) ρ = .ok (false, ρ) := xTst_ok (k := .fz) (xAp2_ok e1 (by simp) e2 (by rw [ev_ne_s]; simp))
  exact (sIf_f c).trans (sNil_ok ρ)
theorem xIfE_t {c : BE} {g g' : EE} {ρ ρ1 : VL.Env} (h : c ρ = .ok (true, ρ1)) : xIfE c g g' ρ = g ρ1 := by rw [ev_xIfE, h]; rfl
theorem xIfE_f {c : BE} {g g' : EE} {ρ ρ1 : VL.Env} (h : c ρ = .ok (false, ρ1)) : xIfE c g g' ρ = g' ρ1 := by rw [ev_xIfE, h]; rfl
theorem lst1 {F : EE} {ρ : VL.Env} {d : D} {k : Kd} (h : F ρ = .ok (d, k, ρ)) (hk : k ≠ .br) (hd : d.fzOk = true) : xLst (aC true F aN) ρ = .ok (.lst [d], .ow, ρ) := by
  have z1 : 1 ≤ sizeLine := zz (by decide)
  rw [ev_xLst, aC1_ok h (fun e => absurd e hk)]
  simp only [Res.bind_ok]
  rw [if_pos ⟨by simp [fzAll, hk, hd], z1⟩]; rfl
theorem lst2 {F G : EE} {ρ : VL.Env} {d e : D} {k j : Kd} (h : F ρ = .ok (d, k, ρ)) (hk : k ≠ .br) (hd : d.fzOk = true) (h' : G ρ = .ok (e, j, ρ)) (hj : j ≠ .br) (he : e.fzOk = true) : xLst (aC true F (aC true G aN)) ρ = .ok (.lst [d, e], .ow, ρ) := by
  have z1 : 2 ≤ sizeLine := zz (by decide)
  rw [ev_xLst, aC_ok h hk (aC1_ok h' (fun e => absurd e hj))]
  simp only [Res.bind_ok]
  rw [if_pos ⟨by simp [fzAll, hk, hd, hj, he], z1⟩]; rfl
theorem bAnd_t {f g : BE} {ρ ρ1 : VL.Env} (h : f ρ = .ok (true, ρ1)) : bAnd f g ρ = g ρ1 := by rw [ev_bAnd, ev_bIf, h]; rfl
theorem bAnd_f {f g : BE} {ρ ρ1 : VL.Env} (h : f ρ = .ok (false, ρ1)) : bAnd f g ρ = .ok (false, ρ1) := by rw [ev_bAnd, ev_bIf, h]; rfl
theorem aM_ok {c : Nat} {m : Str} {t : Bool} {f : EE} {g : AE} {ρ ρ1 ρ2 : VL.Env} {d : D} {k : Kd} {l : List (D × Kd)} (h : f ρ = .ok (d, k, ρ1)) (hi : insIs c m d = true) (hk : k ≠ .br) (hg : g ρ1 = .ok (l, ρ2)) : aM c m t f g ρ = .ok ((d, k) :: l, ρ2) := by
  rw [ev_aM, h]
  simp only [Res.bind_ok]
  rw [if_neg (fun e => e.elim (fun e => by rw [hi] at e; exact Bool.noConfusion e) fun e => hk e.1), hg]
  simp
theorem slT {α : Type} {f : α → D} {l : List α} {i k : Nat} {ρ : VL.Env} (h : ρ[i]? = some (some (.lst (l.map f), .fz))) : xSl (xV i) oN (oS (xC (.int k))) ρ = .ok (.lst ((l.take k).map f), .ow, ρ) := by
  have c := cutD_to (l.map f) k
  rw [← List.map_take] at c
  rw [ev_xSl, xV_fz h]
  simp only [ev_rbind_ok, ev_oN, oS_int (ev_xC _ _), ev_sl_l, c]
theorem nil_ok (ρ : VL.Env) : xLst aN ρ = .ok (.lst [], .ow, ρ) := by
  rw [ev_xLst, ev_aN]
  simp only [Res.bind_ok]
  rw [if_pos ⟨rfl, Nat.zero_le _⟩]; rfl
theorem wb_more {ps hs} {p : Str × Str} (h : Wb ps hs) (hp : p ∈ prsL ps) (hn : p ∉ hs) (hl : hs.length < 12) : Wb ps (srt pd (hs ++ [p])) := by
  have q := mem_prs.mp hp
  have one : ∀ r, r ∈ [p] → r = p := fun r hr => by simpa using hr
  have kt : TOk ps (hs ++ [p]) := h.tk.app ⟨by simp, fun r hr => (one r hr) ▸ q⟩ fun r hr => (one r hr) ▸ hn
  exact ⟨h.l2, h.l6, h.nd, h.nm, h.so, by rw [srt_len]; simp, by rw [srt_len]; simp; omega, kt.perm (srt_perm _ _) (List.Perm.refl _), srt_sorted _ _⟩
theorem wb_less {ps hs} {p : Str × Str} (h : Wb ps hs) (hl : 1 < hs.length) : Wb ps (hs.filter fun q => !decide (q = p)) := by
  have sub : (hs.filter fun q => !decide (q = p)).Sublist hs := List.filter_sublist
  have l1 : 1 ≤ (hs.filter fun q => !decide (q = p)).length := by
    obtain ⟨a, b, r, e⟩ := two_of (l := hs) (by omega)
    have nd := h.tk.nd
    have hab : a ≠ b := by rw [e] at nd; simp at nd; exact nd.1.1
    by_cases ha : a = p
    · exact List.length_pos_of_mem (List.mem_filter.mpr ⟨(by rw [e]; simp : b ∈ hs), by have hb : b ≠ p := fun h => hab (ha.trans h.symm); simpa using hb⟩)
    · exact List.length_pos_of_mem (List.mem_filter.mpr ⟨(by rw [e]; simp : a ∈ hs), by simp [ha]⟩)
  exact ⟨h.l2, h.l6, h.nd, h.nm, h.so, l1, Nat.le_trans sub.length_le h.hm, h.tk.sub sub, h.hs.sublist sub⟩
theorem disp_ok {F G : EE} {ρ : VL.Env} {ps hs} {k1 k2 : Kd} (h : F ρ = .ok (.lst (ps.map sd), k1, ρ)) (hk : k1 ≠ .br) (h' : G ρ = .ok (.lst (hs.map pd), k2, ρ)) (hk' : k2 ≠ .br) : xDisp ["dots", "ties"] (aC true F (aC true G aN)) ρ = .ok (mdD ps hs, .ow, ρ) := by
  rw [ev_xDisp, aC_ok h hk (aC1_ok h' (fun e => absurd e hk'))]
  have fa : fzAll [(D.lst (ps.map sd), k1), (D.lst (hs.map pd), k2)] = true := by simp [fzAll, hk, hk']
  simp only [ev_rbind_ok]
  rw [if_pos ⟨fa, rfl, by show 2 ≤ 15; decide, by decide +kernel⟩]; rfl
section
variable {ps : List Str} {hs : List (Str × Str)}
theorem insW : insIs 50 "with_handing" (webD ps hs) = true := by
  show (decide ((50 : Nat) = 50) && decide (("with_handing" : Str) ∉ (["own_parties", "own_handings"] : List Str))) = true
  decide +kernel
theorem insL : insIs 50 "without" (webD ps hs) = true := by
  show (decide ((50 : Nat) = 50) && decide (("without" : Str) ∉ (["own_parties", "own_handings"] : List Str))) = true
  decide +kernel
def cn : Nat → Nat
  | 0 => 1
  | k + 1 => 1 + (k + 1) * cn k
theorem ext2_few (hb : Wb ps hs) {w : List Str} (hw : Gd ps w) : (ext2 hs w).length ≤ 6 - w.length := by
  unfold ext2
  rw [List.length_map]
  have nd : (w ++ (nx hs (lst w)).filter fun b => ltS (fst w) b && !decide (b ∈ w)).Nodup := by
    rw [List.nodup_append]
    refine ⟨hw.nd, (nx_nd hb.tk.nd _).sublist List.filter_sublist, fun x hx y hy e => ?_⟩
    have := (List.mem_filter.mp hy).2
    rw [Bool.and_eq_true] at this
    have hn : y ∉ w := by simpa using this.2
    exact hn (e ▸ hx)
  have := nodup_len _ ps nd fun x hx => by
    rcases List.mem_append.mp hx with hx | hx
    · exact hw.sub x hx
    · exact (hb.tk.ok _ (mem_nx.mp (List.mem_filter.mp hx).1)).2.1
  rw [List.length_append] at this
  have := hb.l6
  omega
theorem rt_few (hb : Wb ps hs) : ∀ (n : Nat) (w : List Str), Gd ps w → (rt hs n w).length ≤ cn (6 - w.length)
  | 0, w, _ => by simp [rt]
  | n + 1, w, hw => by
    rw [rt, List.length_append]
    have h1 : (if (lst w, fst w) ∈ hs then [w] else []).length ≤ 1 := by split <;> simp
    have h2 := ext2_few hb hw
    cases hk : 6 - w.length with
    | zero =>
      rw [hk] at h2
      have : ext2 hs w = [] := List.length_eq_zero_iff.mp (by omega)
      rw [this]
      show _ ≤ 1
      simp only [List.flatMap_nil, List.length_nil]
      omega
    | succ k =>
      rw [hk] at h2
      have h3 := flat_len (rt hs n) (cn k) (ext2 hs w) fun c hc => by
        have := ext2_gd hb hw c hc
        have h4 := rt_few hb n c this.1
        rw [this.2, show 6 - (w.length + 1) = k by omega] at h4
        exact h4
      have h5 := Nat.mul_le_mul_right (cn k) h2
      show _ ≤ 1 + (k + 1) * cn k
      omega
theorem rt_gd (hb : Wb ps hs) : ∀ (n : Nat) (w : List Str), Gd ps w → ∀ c ∈ rt hs n w, Gd ps c
  | 0, w, _, c, hc => by simp [rt] at hc
  | n + 1, w, hw, c, hc => by
    rw [rt] at hc
    rcases List.mem_append.mp hc with hc | hc
    · split at hc
      · have : c = w := by simpa using hc
        rw [this]; exact hw
      · simp at hc
    · obtain ⟨d, hd, hc⟩ := List.mem_flatMap.mp hc
      exact rt_gd hb n d (ext2_gd hb hw d hd).1 c hc
theorem ringsL_gd (hb : Wb ps hs) : ∀ w ∈ ringsL ps hs, Gd ps w := fun w hw => by
  obtain ⟨a, ha, h⟩ := List.mem_flatMap.mp (srt_mem.mp hw)
  exact rt_gd hb 6 [a] (gd_one ha) w h
theorem ringsL_nm (hb : Wb ps hs) : ∀ w ∈ ringsL ps hs, NmW w := fun w hw => gd_nmw hb (ringsL_gd hb w hw)
theorem ringsL_len (hb : Wb ps hs) : (ringsL ps hs).length ≤ 1956 := by
  unfold ringsL
  rw [srt_len]
  have : ∀ l : List Str, (∀ a ∈ l, a ∈ ps) → (l.flatMap fun a => rt hs 6 [a]).length ≤ l.length * 326 := fun l h => flat_len (fun a => rt hs 6 [a]) 326 l fun a ha => rt_few hb 6 [a] (gd_one (h a ha))
  have h1 := this ps fun _ h => h
  have h2 := Nat.mul_le_mul_right 326 hb.l6
  omega
end
end VL
namespace Lk05
open PySem PySem.Spec PyProof.Rows L2 VL
def mb_law_1 : SE := (sSeq (sSet .fz 3 (xCallM D_law_model 1 (aC true (xC (.int 6)) (aC true (xC (.int 12)) aN))))
  (sSeq (sPar 4 5 (aC true (xCall D_law_web (aC true (xV 3) aN)) (aC true (xCall D_law_rings (aC true (xV 3) aN)) aN)))
  (sSeq (sSet .ow 6 (xCall D_rings (aC true (xV 4) aN)))
  (sSeq (sIf (xTst (xAp2 true dNe (xApp (f1 dRepr) (aC true (xV 6) aN)) (xApp (f1 dRepr) (aC true (xV 5) aN))))
  (sRet (xC (.bl false)))
  sNil)
  (sSeq (sEx (xMut D.isLst 6 mAppend (aC true (xC (.non)) aN)))
  (sSeq (sIf (xTst (xAp2 true dNe (xApp (f1 dRepr) (aC true (xCallK D_rings [0] true aN (aC true (xV 4) aN)) aN)) (xApp (f1 dRepr) (aC true (xV 5) aN))))
  (sRet (xC (.bl false)))
  sNil)
  (sSeq (sSet .fz 7 (xSl (xLc [8] (iSeq (xCallM D_law_mixed 1 (aC true (xCall D_law_pairs (aC true (xGet "dots" (xV 3)) aN)) aN))) (gNm 8) (xTst (xAp2 true dNotIn (xV 8) (xGet "ties" (xV 3)))) (xV 8)) oN (oS (xC (.int 1)))))
  (sSeq (sIf (bAnd (xTst (xAp2 true dNe (xV 7) (xLst aN))) (xTst (xAp2 true dLt (xApp (f1 dLen) (aC true (xGet "ties" (xV 3)) aN)) (xC (.int 12)))))
  (sSeq (sSet .fz 9 (xDisp ["dots", "ties"] (aC true (xGet "dots" (xV 3)) (aC true (xApp (f1 dSorted) (aC true (xAp2 true dAdd (xGet "ties" (xV 3)) (xV 7)) aN)) aN))))
  (sIf (xTst (xAp2 true dNe (xApp (f1 dRepr) (aC true (xCall D_rings (aC true (xCall D_Web_with_handing (aM 50 "with_handing" true (xV 4) (aC true (xAp2 true dIdx (xV 7) (xC (.int 0))) aN))) aN)) aN)) (xApp (f1 dRepr) (aC true (xCall D_law_rings (aC true (xV 9) aN)) aN))))
  (sRet (xC (.bl false)))
  sNil))
  sNil)
  (sSeq (sSet .fz 10 (xCallM D_law_pick 1 (aC true (xGet "ties" (xV 3)) aN)))
  (sIf (xTst (xAp2 true dGt (xApp (f1 dLen) (aC true (xGet "ties" (xV 3)) aN)) (xC (.int 1))))
  (sSeq (sSet .fz 9 (xDisp ["dots", "ties"] (aC true (xGet "dots" (xV 3)) (aC true (xLc [11] (iSeq (xGet "ties" (xV 3))) (gNm 11) (xTst (xAp2 true dNe (xV 11) (xV 10))) (xV 11)) aN))))
  (sIf (xTst (xAp2 true dNe (xApp (f1 dRepr) (aC true (xLst (aC true (xCall D_rings (aC true (xCall D_Web_without (aM 50 "without" true (xV 4) (aC true (xV 10) aN))) aN)) (aC true (xCall D_rings (aC true (xV 4) aN)) aN))) aN)) (xApp (f1 dRepr) (aC true (xLst (aC true (xCall D_law_rings (aC true (xV 9) aN)) (aC true (xV 5) aN))) aN))))
  (sRet (xC (.bl false)))
  sNil))
  sNil))))))))))
def m_law : SE := (sSeq (sSet .ow 1 (xCall D_law_begin (aC true (xV 0) aN)))
  (sSeq (sFor (iRng1D (aC true (xAp2 true dAdd (xC (.int 2)) (xApp (f2 dMin2) (aC true (xApp (f1 dLen) (aC true (xV 0) aN)) (aC true (xC (.int 3)) aN)))) aN)) (gNm 2) mb_law_1)
  (sRet (xC (.bl true)))))
def D_law : FA := dA 12 m_law
end Lk05
namespace Lk05
open PySem PySem.Spec PyProof.Rows L2 VL
def topS (i : Nat) : Stmt := PySem.Challenge.pw_handlocks_k05_rings_told.main.body.getD i (.Pass ⟨0, 0, 0, 0⟩)
def subS (s : Stmt) (j : Nat) : Stmt := match s with
  | .ClassDef _ _ _ b _ _ _ _ _ _ _ => b.getD j (.Pass ⟨0, 0, 0, 0⟩)
  | _ => .Pass ⟨0, 0, 0, 0⟩
abbrev s_law_begin : Stmt := (topS 25)
abbrev N_law_begin : List Str := ["_law_script", "_law_great", "_law_cell"]
theorem S_law_begin : FnScope N_law_begin ["_law_script"] (defScope s_law_begin) := ⟨rfl, rfl, rfl, by decide +kernel, rfl, by decide +kernel, by decide +kernel⟩
abbrev s_law_blend : Stmt := (topS 26)
abbrev N_law_blend : List Str := ["_law_draw", "_law_turn", "_law_found", "_law_prime", "_law_blend_here", "_law_cell"]
theorem S_law_blend : FnScope N_law_blend ["_law_draw"] (defScope s_law_blend) := ⟨rfl, rfl, rfl, by decide +kernel, rfl, by decide +kernel, by decide +kernel⟩
abbrev s_law_take : Stmt := (topS 29)
abbrev N_law_take : List Str := ["_law_draw", "_law_size", "_law_found"]
theorem S_law_take : FnScope N_law_take ["_law_draw", "_law_size"] (defScope s_law_take) := ⟨rfl, rfl, rfl, by decide +kernel, rfl, by decide +kernel, by decide +kernel⟩
abbrev s_law_pick : Stmt := (topS 27)
abbrev N_law_pick : List Str := ["_law_draw", "_law_some"]
theorem S_law_pick : FnScope N_law_pick ["_law_draw", "_law_some"] (defScope s_law_pick) := ⟨rfl, rfl, rfl, by decide +kernel, rfl, by decide +kernel, by decide +kernel⟩
abbrev s_law_names : Stmt := (topS 30)
abbrev N_law_names : List Str := ["_law_draw", "_law_size", "_law_letters", "_law_found", "_law_k", "_law_word", "_law_j", "_law_near", "_law_letter", "_law_one"]
theorem S_law_names : FnScope N_law_names ["_law_draw", "_law_size"] (defScope s_law_names) := ⟨rfl, rfl, rfl, by decide +kernel, rfl, by decide +kernel, by decide +kernel⟩
abbrev s_law_mixed : Stmt := (topS 28)
abbrev N_law_mixed : List Str := ["_law_draw", "_law_some", "_law_left", "_law_found"]
theorem S_law_mixed : FnScope N_law_mixed ["_law_draw", "_law_some"] (defScope s_law_mixed) := ⟨rfl, rfl, rfl, by decide +kernel, rfl, by decide +kernel, by decide +kernel⟩
abbrev s_law_pairs : Stmt := (topS 31)
abbrev N_law_pairs : List Str := ["_law_some", "_law_found", "_law_one", "_law_other"]
theorem S_law_pairs : FnScope N_law_pairs ["_law_some"] (defScope s_law_pairs) := ⟨rfl, rfl, rfl, by decide +kernel, rfl, by decide +kernel, by decide +kernel⟩
abbrev s_law_model : Stmt := (topS 32)
abbrev N_law_model : List Str := ["_law_draw", "_law_most", "_law_many", "_law_dots", "_law_sort", "_law_row", "_law_ties", "_law_k", "_law_other", "_law_more", "_law_pair", "_law_room", "_law_wish", "_law_size"]
theorem S_law_model : FnScope N_law_model ["_law_draw", "_law_most", "_law_many"] (defScope s_law_model) := ⟨rfl, rfl, rfl, by decide +kernel, rfl, by decide +kernel, by decide +kernel⟩
abbrev s_law_before : Stmt := (topS 35)
abbrev N_law_before : List Str := ["_law_model_here", "_law_dot", "_law_giver", "_law_taker"]
theorem S_law_before : FnScope N_law_before ["_law_model_here", "_law_dot"] (defScope s_law_before) := ⟨rfl, rfl, rfl, by decide +kernel, rfl, by decide +kernel, by decide +kernel⟩
abbrev s_law_next : Stmt := (topS 34)
abbrev N_law_next : List Str := ["_law_model_here", "_law_dot", "_law_giver", "_law_taker"]
theorem S_law_next : FnScope N_law_next ["_law_model_here", "_law_dot"] (defScope s_law_next) := ⟨rfl, rfl, rfl, by decide +kernel, rfl, by decide +kernel, by decide +kernel⟩
abbrev s_law_shorter : Stmt := (topS 36)
abbrev N_law_shorter : List Str := ["_law_some", "_law_size", "_law_one"]
theorem S_law_shorter : FnScope N_law_shorter ["_law_some"] (defScope s_law_shorter) := ⟨rfl, rfl, rfl, by decide +kernel, rfl, by decide +kernel, by decide +kernel⟩
abbrev s_law_ways : Stmt := (topS 37)
abbrev N_law_ways : List Str := ["_law_model_here", "_law_start", "_law_goal", "_law_found", "_law_line", "_law_longer", "_law_way", "_law_dot"]
theorem S_law_ways : FnScope N_law_ways ["_law_model_here", "_law_start", "_law_goal"] (defScope s_law_ways) := ⟨rfl, rfl, rfl, by decide +kernel, rfl, by decide +kernel, by decide +kernel⟩
abbrev s_law_rings : Stmt := (topS 38)
abbrev N_law_rings : List Str := ["_law_model_here", "_law_found", "_law_dot", "_law_other", "_law_way"]
theorem S_law_rings : FnScope N_law_rings ["_law_model_here"] (defScope s_law_rings) := ⟨rfl, rfl, rfl, by decide +kernel, rfl, by decide +kernel, by decide +kernel⟩
abbrev s_is_list : Stmt := (topS 11)
abbrev N_is_list : List Str := ["thing"]
theorem S_is_list : FnScope N_is_list ["thing"] (defScope s_is_list) := ⟨rfl, rfl, rfl, by decide +kernel, rfl, by decide +kernel, by decide +kernel⟩
abbrev s_is_name : Stmt := (topS 12)
abbrev N_is_name : List Str := ["thing", "sign"]
theorem S_is_name : FnScope N_is_name ["thing"] (defScope s_is_name) := ⟨rfl, rfl, rfl, by decide +kernel, rfl, by decide +kernel, by decide +kernel⟩
abbrev s_are_unlike : Stmt := (topS 13)
abbrev N_are_unlike : List Str := ["some", "one"]
theorem S_are_unlike : FnScope N_are_unlike ["some"] (defScope s_are_unlike) := ⟨rfl, rfl, rfl, by decide +kernel, rfl, by decide +kernel, by decide +kernel⟩
abbrev s_are_parties : Stmt := (topS 14)
abbrev N_are_parties : List Str := ["thing", "party"]
theorem S_are_parties : FnScope N_are_parties ["thing"] (defScope s_are_parties) := ⟨rfl, rfl, rfl, by decide +kernel, rfl, by decide +kernel, by decide +kernel⟩
abbrev s_is_handing : Stmt := (topS 15)
abbrev N_is_handing : List Str := ["parties", "thing", "party"]
theorem S_is_handing : FnScope N_is_handing ["parties", "thing"] (defScope s_is_handing) := ⟨rfl, rfl, rfl, by decide +kernel, rfl, by decide +kernel, by decide +kernel⟩
abbrev s_are_handings : Stmt := (topS 16)
abbrev N_are_handings : List Str := ["parties", "thing", "handing"]
theorem S_are_handings : FnScope N_are_handings ["parties", "thing"] (defScope s_are_handings) := ⟨rfl, rfl, rfl, by decide +kernel, rfl, by decide +kernel, by decide +kernel⟩
abbrev s_Web_init : Stmt := (subS (topS 17) 0)
abbrev N_Web_init : List Str := ["self", "parties", "handings"]
theorem S_Web_init : FnScope N_Web_init ["self", "parties", "handings"] (defScope s_Web_init) := ⟨rfl, rfl, rfl, by decide +kernel, rfl, by decide +kernel, by decide +kernel⟩
abbrev s_law_web : Stmt := (topS 33)
abbrev N_law_web : List Str := ["_law_model_here"]
theorem S_law_web : FnScope N_law_web ["_law_model_here"] (defScope s_law_web) := ⟨rfl, rfl, rfl, by decide +kernel, rfl, by decide +kernel, by decide +kernel⟩
abbrev s_need_web : Stmt := (topS 18)
abbrev N_need_web : List Str := ["web"]
theorem S_need_web : FnScope N_need_web ["web"] (defScope s_need_web) := ⟨rfl, rfl, rfl, by decide +kernel, rfl, by decide +kernel, by decide +kernel⟩
abbrev s_takers_of : Stmt := (topS 20)
abbrev N_takers_of : List Str := ["web", "party", "giver", "taker"]
theorem S_takers_of : FnScope N_takers_of ["web", "party"] (defScope s_takers_of) := ⟨rfl, rfl, rfl, by decide +kernel, rfl, by decide +kernel, by decide +kernel⟩
abbrev s_shorter_first : Stmt := (topS 21)
abbrev N_shorter_first : List Str := ["some", "many", "one"]
theorem S_shorter_first : FnScope N_shorter_first ["some"] (defScope s_shorter_first) := ⟨rfl, rfl, rfl, by decide +kernel, rfl, by decide +kernel, by decide +kernel⟩
abbrev s_rings_of : Stmt := (topS 22)
abbrev N_rings_of : List Str := ["web", "found", "line", "party", "way"]
theorem S_rings_of : FnScope N_rings_of ["web"] (defScope s_rings_of) := ⟨rfl, rfl, rfl, by decide +kernel, rfl, by decide +kernel, by decide +kernel⟩
abbrev s_rings : Stmt := (topS 23)
abbrev N_rings : List Str := ["web"]
theorem S_rings : FnScope N_rings ["web"] (defScope s_rings) := ⟨rfl, rfl, rfl, by decide +kernel, rfl, by decide +kernel, by decide +kernel⟩
abbrev s_Web_with_handing : Stmt := (subS (topS 17) 5)
abbrev N_Web_with_handing : List Str := ["self", "handing"]
theorem S_Web_with_handing : FnScope N_Web_with_handing ["self", "handing"] (defScope s_Web_with_handing) := ⟨rfl, rfl, rfl, by decide +kernel, rfl, by decide +kernel, by decide +kernel⟩
abbrev s_need_handing : Stmt := (topS 19)
abbrev N_need_handing : List Str := ["web", "handing"]
theorem S_need_handing : FnScope N_need_handing ["web", "handing"] (defScope s_need_handing) := ⟨rfl, rfl, rfl, by decide +kernel, rfl, by decide +kernel, by decide +kernel⟩
abbrev s_Web_without : Stmt := (subS (topS 17) 6)
abbrev N_Web_without : List Str := ["self", "handing", "other"]
theorem S_Web_without : FnScope N_Web_without ["self", "handing"] (defScope s_Web_without) := ⟨rfl, rfl, rfl, by decide +kernel, rfl, by decide +kernel, by decide +kernel⟩
abbrev s_law : Stmt := (topS 39)
abbrev N_law : List Str := ["_law_script", "_law_draw", "_law_turn", "_law_model_here", "_law_made", "_law_due", "_law_got", "_law_more", "_law_pair", "_law_near", "_law_tie", "_law_one"]
theorem S_law : FnScope N_law ["_law_script"] (defScope s_law) := ⟨rfl, rfl, rfl, by decide +kernel, rfl, by decide +kernel, by decide +kernel⟩
structure Tie (P : Program) (K : PySem.W.Frag) (mg : Str → Option Value) (G : Gm) where
  hK : K = G.K
  hT : G.T = []
  n_abs : mg "abs" = none
  n_all : mg "all" = none
  n_int : mg "int" = none
  n_isinstance : mg "isinstance" = none
  n_len : mg "len" = none
  n_list : mg "list" = none
  n_max : mg "max" = none
  n_min : mg "min" = none
  n_range : mg "range" = none
  n_repr : mg "repr" = none
  n_sorted : mg "sorted" = none
  n_str : mg "str" = none
  n_tuple : mg "tuple" = none
  c_LEAST_PARTIES : ∃ u, mg "LEAST_PARTIES" = some u ∧ RelV (.int 2) u
  c_LETTERS : ∃ u, mg "LETTERS" = some u ∧ RelV (.str "abcdefghijklmnopqrstuvwxyz") u
  c_LONGEST : ∃ u, mg "LONGEST" = some u ∧ RelV (.int 6) u
  c_MOST_HANDINGS : ∃ u, mg "MOST_HANDINGS" = some u ∧ RelV (.int 12) u
  c_MOST_PARTIES : ∃ u, mg "MOST_PARTIES" = some u ∧ RelV (.int 6) u
  f_law_begin : Addr
  fd_law_begin : FuncData
  F_law_begin : Fun K "_law_begin" "_law_begin" s_law_begin f_law_begin fd_law_begin
  b_law_begin : Binds K fd_law_begin ["_law_script"] []
  g_law_begin : mg "_law_begin" = some (.ref f_law_begin)
  f_law_blend : Addr
  fd_law_blend : FuncData
  F_law_blend : Fun K "_law_blend" "_law_blend" s_law_blend f_law_blend fd_law_blend
  b_law_blend : Binds K fd_law_blend ["_law_draw"] []
  g_law_blend : mg "_law_blend" = some (.ref f_law_blend)
  f_law_take : Addr
  fd_law_take : FuncData
  F_law_take : Fun K "_law_take" "_law_take" s_law_take f_law_take fd_law_take
  b_law_take : Binds K fd_law_take ["_law_draw", "_law_size"] []
  g_law_take : mg "_law_take" = some (.ref f_law_take)
  f_law_pick : Addr
  fd_law_pick : FuncData
  F_law_pick : Fun K "_law_pick" "_law_pick" s_law_pick f_law_pick fd_law_pick
  b_law_pick : Binds K fd_law_pick ["_law_draw", "_law_some"] []
  g_law_pick : mg "_law_pick" = some (.ref f_law_pick)
  f_law_names : Addr
  fd_law_names : FuncData
  F_law_names : Fun K "_law_names" "_law_names" s_law_names f_law_names fd_law_names
  b_law_names : Binds K fd_law_names ["_law_draw", "_law_size"] []
  g_law_names : mg "_law_names" = some (.ref f_law_names)
  f_law_mixed : Addr
  fd_law_mixed : FuncData
  F_law_mixed : Fun K "_law_mixed" "_law_mixed" s_law_mixed f_law_mixed fd_law_mixed
  b_law_mixed : Binds K fd_law_mixed ["_law_draw", "_law_some"] []
  g_law_mixed : mg "_law_mixed" = some (.ref f_law_mixed)
  f_law_pairs : Addr
  fd_law_pairs : FuncData
  F_law_pairs : Fun K "_law_pairs" "_law_pairs" s_law_pairs f_law_pairs fd_law_pairs
  b_law_pairs : Binds K fd_law_pairs ["_law_some"] []
  g_law_pairs : mg "_law_pairs" = some (.ref f_law_pairs)
  f_law_model : Addr
  fd_law_model : FuncData
  F_law_model : Fun K "_law_model" "_law_model" s_law_model f_law_model fd_law_model
  b_law_model : Binds K fd_law_model ["_law_draw", "_law_most", "_law_many"] []
  g_law_model : mg "_law_model" = some (.ref f_law_model)
  f_law_before : Addr
  fd_law_before : FuncData
  F_law_before : Fun K "_law_before" "_law_before" s_law_before f_law_before fd_law_before
  b_law_before : Binds K fd_law_before ["_law_model_here", "_law_dot"] []
  g_law_before : mg "_law_before" = some (.ref f_law_before)
  f_law_next : Addr
  fd_law_next : FuncData
  F_law_next : Fun K "_law_next" "_law_next" s_law_next f_law_next fd_law_next
  b_law_next : Binds K fd_law_next ["_law_model_here", "_law_dot"] []
  g_law_next : mg "_law_next" = some (.ref f_law_next)
  f_law_shorter : Addr
  fd_law_shorter : FuncData
  F_law_shorter : Fun K "_law_shorter" "_law_shorter" s_law_shorter f_law_shorter fd_law_shorter
  b_law_shorter : Binds K fd_law_shorter ["_law_some"] []
  g_law_shorter : mg "_law_shorter" = some (.ref f_law_shorter)
  f_law_ways : Addr
  fd_law_ways : FuncData
  F_law_ways : Fun K "_law_ways" "_law_ways" s_law_ways f_law_ways fd_law_ways
  b_law_ways : Binds K fd_law_ways ["_law_model_here", "_law_start", "_law_goal"] []
  g_law_ways : mg "_law_ways" = some (.ref f_law_ways)
  f_law_rings : Addr
  fd_law_rings : FuncData
  F_law_rings : Fun K "_law_rings" "_law_rings" s_law_rings f_law_rings fd_law_rings
  b_law_rings : Binds K fd_law_rings ["_law_model_here"] []
  g_law_rings : mg "_law_rings" = some (.ref f_law_rings)
  f_is_list : Addr
  fd_is_list : FuncData
  F_is_list : Fun K "is_list" "is_list" s_is_list f_is_list fd_is_list
  b_is_list : Binds K fd_is_list ["thing"] []
  g_is_list : mg "is_list" = some (.ref f_is_list)
  f_is_name : Addr
  fd_is_name : FuncData
  F_is_name : Fun K "is_name" "is_name" s_is_name f_is_name fd_is_name
  b_is_name : Binds K fd_is_name ["thing"] []
  g_is_name : mg "is_name" = some (.ref f_is_name)
  f_are_unlike : Addr
  fd_are_unlike : FuncData
  F_are_unlike : Fun K "are_unlike" "are_unlike" s_are_unlike f_are_unlike fd_are_unlike
  b_are_unlike : Binds K fd_are_unlike ["some"] []
  g_are_unlike : mg "are_unlike" = some (.ref f_are_unlike)
  f_are_parties : Addr
  fd_are_parties : FuncData
  F_are_parties : Fun K "are_parties" "are_parties" s_are_parties f_are_parties fd_are_parties
  b_are_parties : Binds K fd_are_parties ["thing"] []
  g_are_parties : mg "are_parties" = some (.ref f_are_parties)
  f_is_handing : Addr
  fd_is_handing : FuncData
  F_is_handing : Fun K "is_handing" "is_handing" s_is_handing f_is_handing fd_is_handing
  b_is_handing : Binds K fd_is_handing ["parties", "thing"] []
  g_is_handing : mg "is_handing" = some (.ref f_is_handing)
  f_are_handings : Addr
  fd_are_handings : FuncData
  F_are_handings : Fun K "are_handings" "are_handings" s_are_handings f_are_handings fd_are_handings
  b_are_handings : Binds K fd_are_handings ["parties", "thing"] []
  g_are_handings : mg "are_handings" = some (.ref f_are_handings)
  f_Web_init : Addr
  fd_Web_init : FuncData
  F_Web_init : Fun K "__init__" "Web.__init__" s_Web_init f_Web_init fd_Web_init
  b_Web_init : Binds K fd_Web_init ["self", "parties", "handings"] []
  f_law_web : Addr
  fd_law_web : FuncData
  F_law_web : Fun K "_law_web" "_law_web" s_law_web f_law_web fd_law_web
  b_law_web : Binds K fd_law_web ["_law_model_here"] []
  g_law_web : mg "_law_web" = some (.ref f_law_web)
  f_need_web : Addr
  fd_need_web : FuncData
  F_need_web : Fun K "need_web" "need_web" s_need_web f_need_web fd_need_web
  b_need_web : Binds K fd_need_web ["web"] []
  g_need_web : mg "need_web" = some (.ref f_need_web)
  f_takers_of : Addr
  fd_takers_of : FuncData
  F_takers_of : Fun K "takers_of" "takers_of" s_takers_of f_takers_of fd_takers_of
  b_takers_of : Binds K fd_takers_of ["web", "party"] []
  g_takers_of : mg "takers_of" = some (.ref f_takers_of)
  f_shorter_first : Addr
  fd_shorter_first : FuncData
  F_shorter_first : Fun K "shorter_first" "shorter_first" s_shorter_first f_shorter_first fd_shorter_first
  b_shorter_first : Binds K fd_shorter_first ["some"] []
  g_shorter_first : mg "shorter_first" = some (.ref f_shorter_first)
  f_rings_of : Addr
  fd_rings_of : FuncData
  F_rings_of : Fun K "rings_of" "rings_of" s_rings_of f_rings_of fd_rings_of
  b_rings_of : Binds K fd_rings_of ["web"] []
  g_rings_of : mg "rings_of" = some (.ref f_rings_of)
  f_rings : Addr
  fd_rings : FuncData
  F_rings : Fun K "rings" "rings" s_rings f_rings fd_rings
  b_rings : Binds K fd_rings ["web"] []
  g_rings : mg "rings" = some (.ref f_rings)
  f_Web_with_handing : Addr
  fd_Web_with_handing : FuncData
  F_Web_with_handing : Fun K "with_handing" "Web.with_handing" s_Web_with_handing f_Web_with_handing fd_Web_with_handing
  b_Web_with_handing : Binds K fd_Web_with_handing ["self", "handing"] []
  f_need_handing : Addr
  fd_need_handing : FuncData
  F_need_handing : Fun K "need_handing" "need_handing" s_need_handing f_need_handing fd_need_handing
  b_need_handing : Binds K fd_need_handing ["web", "handing"] []
  g_need_handing : mg "need_handing" = some (.ref f_need_handing)
  f_Web_without : Addr
  fd_Web_without : FuncData
  F_Web_without : Fun K "without" "Web.without" s_Web_without f_Web_without fd_Web_without
  b_Web_without : Binds K fd_Web_without ["self", "handing"] []
  f_law : Addr
  fd_law : FuncData
  F_law : Fun K "law" "law" s_law f_law fd_law
  b_law : Binds K fd_law ["_law_script"] []
  g_law : mg "law" = some (.ref f_law)
  kb_rings_0_web : KB K fd_rings ["web"] ["web"] 0 [0]
  A_Web : Addr
  gc_Web : mg "Web" = some (.ref A_Web)
  cm_Web : G.cm 50 = some A_Web
  cl_Web : Cls K A_Web
  me_Web_with_handing : Meth K A_Web "with_handing" f_Web_with_handing
  me_Web_without : Meth K A_Web "without" f_Web_without
  mk_Web : Mk K A_Web f_Web_init
  a_own_handings : FldOk G [50] "own_handings"
  a_own_parties : FldOk G [50] "own_parties"
  isi_Web : IsiOk G tab_Web [.ref A_Web]
section
variable {P : Program} {w : World} {K : PySem.W.Frag} {mg : Str → Option Value} {base : Heap} {G : Gm}
set_option maxHeartbeats 4000000
theorem ok_law_begin (t : Tie P K mg G) : FnG P w K mg base 1 t.f_law_begin t.fd_law_begin ["_law_script"] (spA G 1 D_law_begin) :=
  have S := S_law_begin
  def_okA t.F_law_begin S rfl fun cdv A outer s H E z hr =>
  (r_cons (r_setlc (fl := .ow) (i := 1) rfl S.nd rfl rfl rfl (own := [("_law_cell", 2)]) (r_iseq t.hK (r_var (pv 0))) (by show BlkOk N_law_begin (defScope s_law_begin) _ _; exact ⟨rfl, by decide +kernel, by decide +kernel, by decide +kernel, by decide +kernel⟩) (by decide) (fun _ _ _ _ _ => (g_at (i := 2) S.nd)) (fun _ _ _ _ _ => (pts_if (b_tcmp (o_ge) (b_cb (o_abs) t.n_abs (r_acons (r_var (pv 2)) r_anil)) (b_bin (o_pow) (r_const pe_int rfl) (r_const pe_int rfl))))) (fun _ _ _ _ _ => (b_bin (o_sub) (b_cb (o_abs) t.n_abs (r_acons (r_var (pv 2)) r_anil)) (b_bin (o_pow) (r_const pe_int rfl) (r_const pe_int rfl)))))
  (r_one (r_retDrw pe_str pe_str pe_str pe_str (pv 1) pe_int (r_lc rfl S.nd (own := [("_law_cell", 2)]) (r_iseq t.hK (r_var (pv 0))) (by show BlkOk N_law_begin (defScope s_law_begin) _ _; exact ⟨rfl, by decide +kernel, by decide +kernel, by decide +kernel, by decide +kernel⟩) (by decide) (fun _ _ _ _ _ => (g_at (i := 2) S.nd)) (fun _ _ _ _ _ => pts_no) (fun _ _ _ _ _ => (b_cb (o_abs) t.n_abs (r_acons (r_var (pv 2)) r_anil)))) pe_int)))
theorem ok_law_blend (t : Tie P K mg G) : FnG P w K mg base 1 t.f_law_blend t.fd_law_blend ["_law_draw"] (spB G 1 D_law_blend) :=
  have S := S_law_blend
  def_okB t.F_law_blend S rfl fun cdv A outer s H E z hr =>
  (r_cons (set_at (fl := .fz) (i := 1) S.nd (b_bin (o_add t.hK) (r_drwTurn hr (pv 0) pe_str (fun _ _ => rfl)) (r_const pe_int rfl)))
  (r_cons (r_drwSetTurn hr (pv 0) pe_str (r_var (pv 1)))
  (r_cons (set_at (fl := .fz) (i := 2) S.nd (r_const pe_int rfl))
  (r_cons (r_for paD rfl (r_iseq t.hK (r_lst (r_acons (r_const pe_int rfl) (r_acons (r_const pe_int rfl) (r_acons (r_const pe_int rfl) (r_acons (r_const pe_int rfl) r_anil)))))) (g_at (i := 3) S.nd) ne_name
  (r_cons (set_at (fl := .fz) (i := 4) S.nd (b_bin (o_mod) (b_ct (o_int) t.n_int (r_acons (b_bin (o_add t.hK) (b_bin (o_mul) (r_var (pv 1)) (r_const pe_int rfl)) (b_bin (o_fdiv) (r_var (pv 3)) (r_const pe_int rfl))) r_anil)) (r_var (pv 3))))
  (r_cons (r_for paD rfl (r_iseq t.hK (r_drwCells hr (pv 0) pe_str (fun _ _ => rfl))) (g_at (i := 5) S.nd) ne_name
  (r_one (set_at (fl := .fz) (i := 4) S.nd (b_bin (o_mod) (b_ct (o_int) t.n_int (r_acons (b_bin (o_add t.hK) (b_bin (o_mul) (r_var (pv 4)) (r_const pe_int rfl)) (r_var (pv 5))) r_anil)) (r_var (pv 3))))))
  (r_one (set_at (fl := .fz) (i := 2) S.nd (b_bin (o_add t.hK) (b_bin (o_mul) (r_var (pv 2)) (r_const pe_int rfl)) (b_bin (o_mod) (b_ct (o_int) t.n_int (r_acons (b_bin (o_pow) (r_var (pv 4)) (r_const pe_int rfl)) r_anil)) (r_var (pv 3)))))))))
  (r_one (r_retv (pv 2)))))))
theorem ok_law_take (t : Tie P K mg G) : FnG P w K mg base 2 t.f_law_take t.fd_law_take ["_law_draw", "_law_size"] (spB G 2 D_law_take) :=
  have S := S_law_take
  def_okB t.F_law_take S rfl fun cdv A outer s H E z hr =>
  (r_cons (r_if (r_and (b_tcmp (o_eq hr t.hK) (r_drwRest hr (pv 0) pe_str (fun _ _ => rfl)) (r_const pe_int rfl)) (r_and1 (r_tdrwNe hr t.hK (pv 0) pe_str (fun _ _ => rfl)))).pt
  (r_one (r_drwSetRest hr (pv 0) pe_str (r_drwPop hr (pv 0) pe_str (fun _ _ => rfl) pe_int rfl (fun _ _ a b => pe_bm PySem.F.plainAttrs_list PySem.F.slot_list_pop PySem.F.type_list_pop mt_popAt a b))))
  r_nil)
  (r_cons (r_if (b_tcmp (o_eq hr t.hK) (r_drwRest hr (pv 0) pe_str (fun _ _ => rfl)) (r_const pe_int rfl))
  (r_one (r_drwSetRest hr (pv 0) pe_str (r_callM tkD (ok_law_blend t) (hr.mono (by decide)) (by rfl) t.g_law_blend t.F_law_blend.kp t.b_law_blend (pv 0) r_anil (by exact alen_nil))))
  r_nil)
  (r_cons (set_at (fl := .fz) (i := 2) S.nd (b_bin (o_mod) (b_ct (o_int) t.n_int (r_acons (r_drwRest hr (pv 0) pe_str (fun _ _ => rfl)) r_anil)) (r_var (pv 1))))
  (r_cons (r_drwSetRest hr (pv 0) pe_str (b_bin (o_fdiv) (r_drwRest hr (pv 0) pe_str (fun _ _ => rfl)) (r_var (pv 1))))
  (r_one (r_retv (pv 2)))))))
theorem ok_law_pick (t : Tie P K mg G) : FnG P w K mg base 3 t.f_law_pick t.fd_law_pick ["_law_draw", "_law_some"] (spB G 2 D_law_pick) :=
  have S := S_law_pick
  def_okB t.F_law_pick S rfl fun cdv A outer s H E z hr =>
  (r_one (r_ret (b_ix (o_idx t.hK) (r_var (pv 1)) (r_callM tkD (ok_law_take t) (hr.mono (by decide)) (by rfl) t.g_law_take t.F_law_take.kp t.b_law_take (pv 0) (r_acons (b_cb (o_len t.hK) t.n_len (r_acons (r_var (pv 1)) r_anil)) r_anil) (by exact (alen_cons alen_nil))))))
theorem ok_law_names (t : Tie P K mg G) : FnG P w K mg base 4 t.f_law_names t.fd_law_names ["_law_draw", "_law_size"] (spB G 2 D_law_names) :=
  have S := S_law_names
  def_okB t.F_law_names S rfl fun cdv A outer s H E z hr =>
  (r_cons (r_par2C (fl1 := .fz) (fl2 := .ow) (i := 2) (j := 3) rfl S.nd rfl rfl (by decide) (r_const pe_str rfl) (r_lst r_anil))
  (r_cons (r_for paD rfl (r_irange1 rfl t.n_range (r_acons (r_var (pv 1)) r_anil)) (g_at (i := 4) S.nd) ne_name
  (r_cons (set_at (fl := .fz) (i := 5) S.nd (r_callM tkD (ok_law_pick t) (hr.mono (by decide)) (by rfl) t.g_law_pick t.F_law_pick.kp t.b_law_pick (pv 0) (r_acons (r_lst (r_acons (r_const pe_str rfl) (r_acons (r_const pe_str rfl) (r_acons (r_const pe_str rfl) (r_acons (r_const pe_str rfl) (r_acons (r_const pe_str rfl) (r_acons (r_const pe_str rfl) (r_acons (r_const pe_str rfl) (r_acons (r_const pe_str rfl) (r_acons (r_const pe_str rfl) r_anil)))))))))) r_anil) (by exact (alen_cons alen_nil))))
  (r_cons (r_if (b_tcmp (o_eq hr t.hK) (r_callM tkD (ok_law_take t) (hr.mono (by decide)) (by rfl) t.g_law_take t.F_law_take.kp t.b_law_take (pv 0) (r_acons (r_const pe_int rfl) r_anil) (by exact (alen_cons alen_nil))) (r_const pe_int rfl))
  (r_one (set_at (fl := .fz) (i := 5) S.nd (r_join t.hK (pe_join (r_const pe_str rfl) (r_lcM rfl S.nd (own := [("_law_j", 6)]) (r_irange1 rfl t.n_range (r_acons (b_bin (o_add t.hK) (r_const pe_int rfl) (r_callM tkD (ok_law_take t) (hr.mono (by decide)) (by rfl) t.g_law_take t.F_law_take.kp t.b_law_take (pv 0) (r_acons (r_const pe_int rfl) r_anil) (by exact (alen_cons alen_nil)))) r_anil)) (by show BlkOk N_law_names (defScope s_law_names) _ _; exact ⟨rfl, by decide +kernel, by decide +kernel, by decide +kernel, by decide +kernel⟩) (by decide) (fun _ _ _ _ _ => (g_at (i := 6) S.nd)) (fun _ _ _ _ _ => pts_no) (fun _ _ _ _ _ => (r_callM tk0 (ok_law_pick t) (hr.mono (by decide)) (by rfl) t.g_law_pick t.F_law_pick.kp t.b_law_pick (pv 0) (r_acons (r_var (pv 2)) r_anil) (by exact (alen_cons alen_nil)))))))))
  r_nil)
  (r_cons (set_at (fl := .fz) (i := 7) S.nd (b_bin (o_add t.hK) (r_lst (r_acons (r_var (pv 5)) r_anil)) (r_lc rfl S.nd (own := [("_law_letter", 8)]) (r_itxt (r_var (pv 2))) (by show BlkOk N_law_names (defScope s_law_names) _ _; exact ⟨rfl, by decide +kernel, by decide +kernel, by decide +kernel, by decide +kernel⟩) (by decide) (fun _ _ _ _ _ => (g_at (i := 8) S.nd)) (fun _ _ _ _ _ => pts_no) (fun _ _ _ _ _ => (b_bin (o_add t.hK) (r_slice t.hK (r_var (pv 5)) r_poN (r_poS (r_const pe_int rfl))) (r_var (pv 8)))))))
  (r_one (r_ex (r_append (pe_bm PySem.F.plainAttrs_list PySem.F.slot_list_append PySem.F.type_list_append mt_append (pv 3) (r_acons (b_ix (o_idx t.hK) (r_lc rfl S.nd (own := [("_law_one", 9)]) (r_iseq t.hK (r_var (pv 7))) (by show BlkOk N_law_names (defScope s_law_names) _ _; exact ⟨rfl, by decide +kernel, by decide +kernel, by decide +kernel, by decide +kernel⟩) (by decide) (fun _ _ _ _ _ => (g_at (i := 9) S.nd)) (fun _ _ _ _ _ => (pts_if (b_tcmp (o_notin hr t.hK) (r_var (pv 9)) (r_var (pv 3))))) (fun _ _ _ _ _ => (r_var (pv 9)))) (r_const pe_int rfl)) r_anil)))))))))
  (r_one (r_retv (pv 3)))))
theorem ok_law_mixed (t : Tie P K mg G) : FnG P w K mg base 3 t.f_law_mixed t.fd_law_mixed ["_law_draw", "_law_some"] (spB G 2 D_law_mixed) :=
  have S := S_law_mixed
  def_okB t.F_law_mixed S rfl fun cdv A outer s H E z hr =>
  (r_cons (r_par2 (fl1 := .ow) (fl2 := .ow) (i := 2) (j := 3) rfl S.nd rfl rfl (by decide) rfl rfl (b_ct (o_list t.hK) t.n_list (r_acons (r_var (pv 1)) r_anil)) (r_lst r_anil))
  (r_cons (r_while 100000 paD (b_tcmp (o_ne hr t.hK) (r_var (pv 2)) (r_lst r_anil))
  (r_one (r_ex (r_append (pe_bm PySem.F.plainAttrs_list PySem.F.slot_list_append PySem.F.type_list_append mt_append (pv 3) (r_acons (r_mut m_popAt isLst_drw isLst_ty (pe_bm PySem.F.plainAttrs_list PySem.F.slot_list_pop PySem.F.type_list_pop mt_popAt (pv 2) (r_acons (r_callM tkD (ok_law_take t) (hr.mono (by decide)) (by rfl) t.g_law_take t.F_law_take.kp t.b_law_take (pv 0) (r_acons (b_cb (o_len t.hK) t.n_len (r_acons (r_var (pv 2)) r_anil)) r_anil) (by exact (alen_cons alen_nil))) r_anil))) r_anil))))))
  (r_one (r_retv (pv 3)))))
theorem ok_law_pairs (t : Tie P K mg G) : FnG P w K mg base 1 t.f_law_pairs t.fd_law_pairs ["_law_some"] (spA G 1 D_law_pairs) :=
  have S := S_law_pairs
  def_okA t.F_law_pairs S rfl fun cdv A outer s H E z hr =>
  (r_cons (set_at (fl := .fz) (i := 1) S.nd (r_lst r_anil))
  (r_cons (r_for paD rfl (r_iseq t.hK (r_var (pv 0))) (g_at (i := 2) S.nd) ne_name
  (r_one (set_at (fl := .fz) (i := 1) S.nd (b_bin (o_add t.hK) (r_var (pv 1)) (r_lc rfl S.nd (own := [("_law_other", 3)]) (r_iseq t.hK (r_var (pv 0))) (by show BlkOk N_law_pairs (defScope s_law_pairs) _ _; exact ⟨rfl, by decide +kernel, by decide +kernel, by decide +kernel, by decide +kernel⟩) (by decide) (fun _ _ _ _ _ => (g_at (i := 3) S.nd)) (fun _ _ _ _ _ => (pts_if (b_tcmp (o_ne hr t.hK) (r_var (pv 3)) (r_var (pv 2))))) (fun _ _ _ _ _ => (r_tup (r_acons (r_var (pv 2)) (r_acons (r_var (pv 3)) r_anil)))))))))
  (r_one (r_retv (pv 1)))))
theorem ok_law_model (t : Tie P K mg G) : FnG P w K mg base 5 t.f_law_model t.fd_law_model ["_law_draw", "_law_most", "_law_many"] (spB G 3 D_law_model) :=
  have S := S_law_model
  def_okB t.F_law_model S rfl fun cdv A outer s H E z hr =>
  (r_cons (r_par (i := 3) (j := 4) rfl S.nd rfl rfl (by decide) rfl rfl (r_acons (r_callM tkD (ok_law_names t) (hr.mono (by decide)) (by rfl) t.g_law_names t.F_law_names.kp t.b_law_names (pv 0) (r_acons (b_bin (o_add t.hK) (r_const pe_int rfl) (r_callM tkD (ok_law_take t) (hr.mono (by decide)) (by rfl) t.g_law_take t.F_law_take.kp t.b_law_take (pv 0) (r_acons (b_bin (o_sub) (r_var (pv 1)) (r_const pe_int rfl)) r_anil) (by exact (alen_cons alen_nil)))) r_anil) (by exact (alen_cons alen_nil))) (r_acons (r_callM tkD (ok_law_take t) (hr.mono (by decide)) (by rfl) t.g_law_take t.F_law_take.kp t.b_law_take (pv 0) (r_acons (r_const pe_int rfl) r_anil) (by exact (alen_cons alen_nil))) r_anil)))
  (r_cons (set_at (fl := .fz) (i := 5) S.nd (r_callM tkD (ok_law_mixed t) (hr.mono (by decide)) (by rfl) t.g_law_mixed t.F_law_mixed.kp t.b_law_mixed (pv 0) (r_acons (r_var (pv 3)) r_anil) (by exact (alen_cons alen_nil))))
  (r_cons (set_at (fl := .fz) (i := 6) S.nd (r_lc rfl S.nd (own := [("_law_k", 7)]) (r_irange2 rfl t.n_range (r_acons (r_const pe_int rfl) (r_acons (b_cb (o_len t.hK) t.n_len (r_acons (r_var (pv 5)) r_anil)) r_anil))) (by show BlkOk N_law_model (defScope s_law_model) _ _; exact ⟨rfl, by decide +kernel, by decide +kernel, by decide +kernel, by decide +kernel⟩) (by decide) (fun _ _ _ _ _ => (g_at (i := 7) S.nd)) (fun _ _ _ _ _ => pts_no) (fun _ _ _ _ _ => (r_tup (r_acons (b_ix (o_idx t.hK) (r_var (pv 5)) (b_bin (o_sub) (r_var (pv 7)) (r_const pe_int rfl))) (r_acons (b_ix (o_idx t.hK) (r_var (pv 5)) (r_var (pv 7))) r_anil))))))
  (r_cons (r_if (b_tcmp (o_lt) (r_var (pv 4)) (r_const pe_int rfl))
  (r_one (set_at (fl := .fz) (i := 6) S.nd (b_bin (o_add t.hK) (r_var (pv 6)) (r_lst (r_acons (r_tup (r_acons (b_ix (o_idx t.hK) (r_var (pv 5)) (b_un o_neg (r_const pe_int rfl))) (r_acons (b_ix (o_idx t.hK) (r_var (pv 5)) (r_const pe_int rfl)) r_anil))) r_anil)))))
  (r_one (r_if (b_tcmp (o_eq hr t.hK) (r_var (pv 4)) (r_const pe_int rfl))
  (r_one (set_at (fl := .fz) (i := 6) S.nd (b_bin (o_add t.hK) (r_lc rfl S.nd (own := [("_law_other", 8)]) (r_iseq t.hK (r_slice t.hK (r_var (pv 5)) (r_poS (r_const pe_int rfl)) r_poN)) (by show BlkOk N_law_model (defScope s_law_model) _ _; exact ⟨rfl, by decide +kernel, by decide +kernel, by decide +kernel, by decide +kernel⟩) (by decide) (fun _ _ _ _ _ => (g_at (i := 8) S.nd)) (fun _ _ _ _ _ => pts_no) (fun _ _ _ _ _ => (r_tup (r_acons (b_ix (o_idx t.hK) (r_var (pv 5)) (r_const pe_int rfl)) (r_acons (r_var (pv 8)) r_anil))))) (r_lc rfl S.nd (own := [("_law_other", 8)]) (r_iseq t.hK (r_slice t.hK (r_var (pv 5)) (r_poS (r_const pe_int rfl)) r_poN)) (by show BlkOk N_law_model (defScope s_law_model) _ _; exact ⟨rfl, by decide +kernel, by decide +kernel, by decide +kernel, by decide +kernel⟩) (by decide) (fun _ _ _ _ _ => (g_at (i := 8) S.nd)) (fun _ _ _ _ _ => pts_no) (fun _ _ _ _ _ => (r_tup (r_acons (r_var (pv 8)) (r_acons (b_ix (o_idx t.hK) (r_var (pv 5)) (r_const pe_int rfl)) r_anil))))))))
  (r_one (r_if (b_tcmp (o_eq hr t.hK) (r_var (pv 4)) (r_const pe_int rfl))
  (r_one (set_at (fl := .fz) (i := 6) S.nd (r_lst r_anil)))
  r_nil)))))
  (r_cons (r_setlc (fl := .fz) (i := 9) rfl S.nd rfl rfl rfl (own := [("_law_pair", 10)]) (r_iseq t.hK (r_callM tkD (ok_law_mixed t) (hr.mono (by decide)) (by rfl) t.g_law_mixed t.F_law_mixed.kp t.b_law_mixed (pv 0) (r_acons (r_call tkD (ok_law_pairs t) (hr.mono (by decide)) (by rfl) t.g_law_pairs t.F_law_pairs.kp t.b_law_pairs (r_acons (r_var (pv 3)) r_anil) (by exact (alen_cons alen_nil))) r_anil) (by exact (alen_cons alen_nil)))) (by show BlkOk N_law_model (defScope s_law_model) _ _; exact ⟨rfl, by decide +kernel, by decide +kernel, by decide +kernel, by decide +kernel⟩) (by decide) (fun _ _ _ _ _ => (g_at (i := 10) S.nd)) (fun _ _ _ _ _ => (pts_if (b_tcmp (o_notin hr t.hK) (r_var (pv 10)) (r_var (pv 6))))) (fun _ _ _ _ _ => (r_var (pv 10))))
  (r_cons (set_at (fl := .fz) (i := 11) S.nd (b_cb (o_max rfl) t.n_max (r_acons (r_const pe_int rfl) (r_acons (b_bin (o_sub) (r_var (pv 2)) (b_cb (o_len t.hK) t.n_len (r_acons (r_var (pv 6)) r_anil))) r_anil))))
  (r_cons (set_at (fl := .fz) (i := 12) S.nd (r_callM tkD (ok_law_pick t) (hr.mono (by decide)) (by rfl) t.g_law_pick t.F_law_pick.kp t.b_law_pick (pv 0) (r_acons (r_lst (r_acons (r_callM tkD (ok_law_take t) (hr.mono (by decide)) (by rfl) t.g_law_take t.F_law_take.kp t.b_law_take (pv 0) (r_acons (r_const pe_int rfl) r_anil) (by exact (alen_cons alen_nil))) (r_acons (r_callM tkD (ok_law_take t) (hr.mono (by decide)) (by rfl) t.g_law_take t.F_law_take.kp t.b_law_take (pv 0) (r_acons (b_bin (o_add t.hK) (r_var (pv 11)) (r_const pe_int rfl)) r_anil) (by exact (alen_cons alen_nil))) (r_acons (b_bin (o_add t.hK) (r_const pe_int rfl) (r_callM tkD (ok_law_take t) (hr.mono (by decide)) (by rfl) t.g_law_take t.F_law_take.kp t.b_law_take (pv 0) (r_acons (r_const pe_int rfl) r_anil) (by exact (alen_cons alen_nil)))) r_anil)))) r_anil) (by exact (alen_cons alen_nil))))
  (r_cons (set_at (fl := .fz) (i := 13) S.nd (b_cb (o_min3 rfl) t.n_min (r_acons (b_cb (o_len t.hK) t.n_len (r_acons (r_var (pv 9)) r_anil)) (r_acons (r_var (pv 11)) (r_acons (r_var (pv 12)) r_anil)))))
  (r_cons (set_at (fl := .fz) (i := 6) S.nd (r_slice t.hK (b_bin (o_add t.hK) (r_var (pv 6)) (r_slice t.hK (r_var (pv 9)) r_poN (r_poS (r_var (pv 13))))) r_poN (r_poS (r_var (pv 2)))))
  (r_one (r_ret (r_disp (.cons (.cons .nil)) (pps_cons pe_str (b_cb (o_sorted hr t.hK) t.n_sorted (r_acons (r_var (pv 3)) r_anil)) (pps_cons pe_str (b_cb (o_sorted hr t.hK) t.n_sorted (r_acons (r_ifV (b_tcmp (o_ne hr t.hK) (r_var (pv 6)) (r_lst r_anil)) (r_var (pv 6)) (r_slice t.hK (r_var (pv 9)) r_poN (r_poS (r_const pe_int rfl)))) r_anil)) pps_nil))))))))))))))
theorem ok_law_before (t : Tie P K mg G) : FnG P w K mg base 1 t.f_law_before t.fd_law_before ["_law_model_here", "_law_dot"] (spA G 2 D_law_before) :=
  have S := S_law_before
  def_okA t.F_law_before S rfl fun cdv A outer s H E z hr =>
  (r_one (r_ret (r_lc rfl S.nd (own := [("_law_giver", 2), ("_law_taker", 3)]) (r_iseq t.hK (r_dget hr (r_var (pv 0)) pe_str (fun _ _ => rfl))) (by show BlkOk N_law_before (defScope s_law_before) _ _; exact ⟨rfl, by decide +kernel, by decide +kernel, by decide +kernel, by decide +kernel⟩) (by decide) (fun _ _ _ _ _ => (g_tup rfl t.hK (g_cons (g_at (i := 2) S.nd) (g_cons (g_at (i := 3) S.nd) g_nil)))) (fun _ _ _ _ _ => (pts_if (b_tcmp (o_eq hr t.hK) (r_var (pv 3)) (r_var (pv 1))))) (fun _ _ _ _ _ => (r_var (pv 2))))))
theorem ok_law_next (t : Tie P K mg G) : FnG P w K mg base 1 t.f_law_next t.fd_law_next ["_law_model_here", "_law_dot"] (spA G 2 D_law_next) :=
  have S := S_law_next
  def_okA t.F_law_next S rfl fun cdv A outer s H E z hr =>
  (r_one (r_ret (r_lc rfl S.nd (own := [("_law_giver", 2), ("_law_taker", 3)]) (r_iseq t.hK (r_dget hr (r_var (pv 0)) pe_str (fun _ _ => rfl))) (by show BlkOk N_law_next (defScope s_law_next) _ _; exact ⟨rfl, by decide +kernel, by decide +kernel, by decide +kernel, by decide +kernel⟩) (by decide) (fun _ _ _ _ _ => (g_tup rfl t.hK (g_cons (g_at (i := 2) S.nd) (g_cons (g_at (i := 3) S.nd) g_nil)))) (fun _ _ _ _ _ => (pts_if (b_tcmp (o_eq hr t.hK) (r_var (pv 2)) (r_var (pv 1))))) (fun _ _ _ _ _ => (r_var (pv 3))))))
theorem ok_law_shorter (t : Tie P K mg G) : FnG P w K mg base 1 t.f_law_shorter t.fd_law_shorter ["_law_some"] (spA G 1 D_law_shorter) :=
  have S := S_law_shorter
  def_okA t.F_law_shorter S rfl fun cdv A outer s H E z hr =>
  (r_one (r_ret (r_lc rfl S.nd (own := [("_law_size", 1), ("_law_one", 2)]) (r_iseq t.hK (b_cb (o_sorted hr t.hK) t.n_sorted (r_acons (r_lc rfl S.nd (own := [("_law_one", 2)]) (r_iseq t.hK (r_var (pv 0))) (by show BlkOk N_law_shorter (defScope s_law_shorter) _ _; exact ⟨rfl, by decide +kernel, by decide +kernel, by decide +kernel, by decide +kernel⟩) (by decide) (fun _ _ _ _ _ => (g_at (i := 2) S.nd)) (fun _ _ _ _ _ => pts_no) (fun _ _ _ _ _ => (r_tup (r_acons (b_cb (o_len t.hK) t.n_len (r_acons (r_var (pv 2)) r_anil)) (r_acons (r_var (pv 2)) r_anil))))) r_anil))) (by show BlkOk N_law_shorter (defScope s_law_shorter) _ _; exact ⟨rfl, by decide +kernel, by decide +kernel, by decide +kernel, by decide +kernel⟩) (by decide) (fun _ _ _ _ _ => (g_tup rfl t.hK (g_cons (g_at (i := 1) S.nd) (g_cons (g_at (i := 2) S.nd) g_nil)))) (fun _ _ _ _ _ => pts_no) (fun _ _ _ _ _ => (r_var (pv 2))))))
theorem ok_law_ways (t : Tie P K mg G) : FnG P w K mg base 2 t.f_law_ways t.fd_law_ways ["_law_model_here", "_law_start", "_law_goal"] (spA G 3 D_law_ways) :=
  have S := S_law_ways
  def_okA t.F_law_ways S rfl fun cdv A outer s H E z hr =>
  (r_cons (r_par2 (fl1 := .ow) (fl2 := .fz) (i := 3) (j := 4) rfl S.nd rfl rfl (by decide) rfl rfl (r_lst r_anil) (r_lst (r_acons (r_tup (r_acons (r_var (pv 1)) r_anil)) r_anil)))
  (r_cons (r_while 100000 paD (b_tcmp (o_ne hr t.hK) (r_var (pv 4)) (r_lst r_anil))
  (r_cons (set_at (fl := .fz) (i := 5) S.nd (r_lst r_anil))
  (r_cons (r_for paD rfl (r_iseq t.hK (r_var (pv 4))) (g_at (i := 6) S.nd) ne_name
  (r_one (r_if (b_tcmp (o_eq hr t.hK) (b_ix (o_idx t.hK) (r_var (pv 6)) (b_un o_neg (r_const pe_int rfl))) (r_var (pv 2)))
  (r_one (r_ex (r_append (pe_bm PySem.F.plainAttrs_list PySem.F.slot_list_append PySem.F.type_list_append mt_append (pv 3) (r_acons (r_var (pv 6)) r_anil)))))
  (r_one (set_at (fl := .fz) (i := 5) S.nd (b_bin (o_add t.hK) (r_var (pv 5)) (r_lc rfl S.nd (own := [("_law_dot", 7)]) (r_iseq t.hK (r_call tkD (ok_law_next t) (hr.mono (by decide)) (by rfl) t.g_law_next t.F_law_next.kp t.b_law_next (r_acons (r_var (pv 0)) (r_acons (b_ix (o_idx t.hK) (r_var (pv 6)) (b_un o_neg (r_const pe_int rfl))) r_anil)) (by exact (alen_cons (alen_cons alen_nil))))) (by show BlkOk N_law_ways (defScope s_law_ways) _ _; exact ⟨rfl, by decide +kernel, by decide +kernel, by decide +kernel, by decide +kernel⟩) (by decide) (fun _ _ _ _ _ => (g_at (i := 7) S.nd)) (fun _ _ _ _ _ => (pts_if (b_tcmp (o_notin hr t.hK) (r_var (pv 7)) (r_var (pv 6))))) (fun _ _ _ _ _ => (b_bin (o_add t.hK) (r_var (pv 6)) (r_tup (r_acons (r_var (pv 7)) r_anil)))))))))))
  (r_one (set_at (fl := .fz) (i := 4) S.nd (b_ct (o_list t.hK) t.n_list (r_acons (r_var (pv 5)) r_anil)))))))
  (r_one (r_ret (r_call tkD (ok_law_shorter t) (hr.mono (by decide)) (by rfl) t.g_law_shorter t.F_law_shorter.kp t.b_law_shorter (r_acons (r_var (pv 3)) r_anil) (by exact (alen_cons alen_nil)))))))
theorem ok_law_rings (t : Tie P K mg G) : FnG P w K mg base 3 t.f_law_rings t.fd_law_rings ["_law_model_here"] (spA G 1 D_law_rings) :=
  have S := S_law_rings
  def_okA t.F_law_rings S rfl fun cdv A outer s H E z hr =>
  (r_cons (set_at (fl := .fz) (i := 1) S.nd (r_lst r_anil))
  (r_cons (r_for paD rfl (r_iseq t.hK (r_dget hr (r_var (pv 0)) pe_str (fun _ _ => rfl))) (g_at (i := 2) S.nd) ne_name
  (r_one (r_for paD rfl (r_iseq t.hK (r_call tkD (ok_law_before t) (hr.mono (by decide)) (by rfl) t.g_law_before t.F_law_before.kp t.b_law_before (r_acons (r_var (pv 0)) (r_acons (r_var (pv 2)) r_anil)) (by exact (alen_cons (alen_cons alen_nil))))) (g_at (i := 3) S.nd) ne_name
  (r_one (set_at (fl := .fz) (i := 1) S.nd (b_bin (o_add t.hK) (r_var (pv 1)) (r_lc rfl S.nd (own := [("_law_way", 4)]) (r_iseq t.hK (r_call tkD (ok_law_ways t) (hr.mono (by decide)) (by rfl) t.g_law_ways t.F_law_ways.kp t.b_law_ways (r_acons (r_var (pv 0)) (r_acons (r_var (pv 2)) (r_acons (r_var (pv 3)) r_anil))) (by exact (alen_cons (alen_cons (alen_cons alen_nil)))))) (by show BlkOk N_law_rings (defScope s_law_rings) _ _; exact ⟨rfl, by decide +kernel, by decide +kernel, by decide +kernel, by decide +kernel⟩) (by decide) (fun _ _ _ _ _ => (g_at (i := 4) S.nd)) (fun _ _ _ _ _ => (pts_if (b_tcmp (o_eq hr t.hK) (b_cb (o_minS rfl hr t.hK) t.n_min (r_acons (r_var (pv 4)) r_anil)) (r_var (pv 2))))) (fun _ _ _ _ _ => (r_var (pv 4))))))))))
  (r_one (r_ret (r_call tkD (ok_law_shorter t) (hr.mono (by decide)) (by rfl) t.g_law_shorter t.F_law_shorter.kp t.b_law_shorter (r_acons (r_var (pv 1)) r_anil) (by exact (alen_cons alen_nil)))))))
theorem ok_is_list (t : Tie P K mg G) : FnG P w K mg base 1 t.f_is_list t.fd_is_list ["thing"] (spA G 1 D_is_list) :=
  have S := S_is_list
  def_okA t.F_is_list S rfl fun cdv A outer s H E z hr =>
  (r_one (r_ret (r_isiT (cus := [.type "list", .type "tuple"]) t.hK (by rfl) t.n_isinstance (r_var (pv 0)) (pa_cons (pe_bltn (v := .ty "list") (by rfl) t.n_list (by decide +kernel) rfl) (pa_cons (pe_bltn (v := .ty "tuple") (by rfl) t.n_tuple (by decide +kernel) rfl) pa_nil)) (fun _ _ _ h => h) (by show 2 ≤ sizeLine; rw [sizeLine_eq]; decide) (.cons (.ty _) (.cons (.ty _) .nil)) (tyTab_ok rfl))))
theorem ok_is_name (t : Tie P K mg G) : FnG P w K mg base 1 t.f_is_name t.fd_is_name ["thing"] (spA G 1 D_is_name) :=
  have S := S_is_name
  def_okA t.F_is_name S rfl fun cdv A outer s H E z hr =>
  (r_one (r_ret (r_andV (r_isi (cu := .type "str") t.hK (by rfl) t.n_isinstance (r_var (pv 0)) (pe_bltn (v := .ty "str") (by rfl) t.n_str (by decide +kernel) rfl) (.ty _) (tyTab_ok rfl)) (r_andV (b_chain (o_le) (o_le) (r_const pe_int rfl) (b_cb (o_len t.hK) t.n_len (r_acons (r_var (pv 0)) r_anil)) (r_globC (by rfl) t.c_LONGEST rfl)) (r_oneV (b_cb (o_all rfl) t.n_all (r_acons (r_lc rfl S.nd (own := [("sign", 1)]) (r_itxt (r_var (pv 0))) (by show BlkOk N_is_name (defScope s_is_name) _ _; exact ⟨rfl, by decide +kernel, by decide +kernel, by decide +kernel, by decide +kernel⟩) (by decide) (fun _ _ _ _ _ => (g_at (i := 1) S.nd)) (fun _ _ _ _ _ => pts_no) (fun _ _ _ _ _ => (b_cmp (o_in hr t.hK) (r_var (pv 1)) (r_globC (by rfl) t.c_LETTERS rfl)))) r_anil)))))))
theorem ok_are_unlike (t : Tie P K mg G) : FnG P w K mg base 1 t.f_are_unlike t.fd_are_unlike ["some"] (spA G 1 D_are_unlike) :=
  have S := S_are_unlike
  def_okA t.F_are_unlike S rfl fun cdv A outer s H E z hr =>
  (r_one (r_ret (b_cmp (o_eq hr t.hK) (b_cb (o_lenD t.hK) t.n_len (r_acons (r_dc hr rfl S.nd (own := [("one", 1)]) (r_iseq t.hK (r_var (pv 0))) (by show BlkOk N_are_unlike (defScope s_are_unlike) _ _; exact ⟨rfl, by decide +kernel, by decide +kernel, by decide +kernel, by decide +kernel⟩) (by decide) (fun _ _ _ _ _ => (g_at (i := 1) S.nd)) (fun _ _ _ _ _ => pts_no) (fun _ _ _ _ _ => (r_var (pv 1))) (fun _ _ _ _ _ => (r_const pe_bl rfl))) r_anil)) (b_cb (o_len t.hK) t.n_len (r_acons (r_var (pv 0)) r_anil)))))
theorem ok_are_parties (t : Tie P K mg G) : FnG P w K mg base 2 t.f_are_parties t.fd_are_parties ["thing"] (spA G 1 D_are_parties) :=
  have S := S_are_parties
  def_okA t.F_are_parties S rfl fun cdv A outer s H E z hr =>
  (r_cons (r_if (r_or (r_not (r_test (r_call tkD (ok_is_list t) (hr.mono (by decide)) (by rfl) t.g_is_list t.F_is_list.kp t.b_is_list (r_acons (r_var (pv 0)) r_anil) (by exact (alen_cons alen_nil))))) (r_or1 (r_not (b_tchain (o_le) (o_le) (r_globC (by rfl) t.c_LEAST_PARTIES rfl) (b_cb (o_len t.hK) t.n_len (r_acons (r_var (pv 0)) r_anil)) (r_globC (by rfl) t.c_MOST_PARTIES rfl))))).pt
  (r_one (r_ret (r_const pe_bl rfl)))
  r_nil)
  (r_one (r_ret (r_andV (b_cb (o_all rfl) t.n_all (r_acons (r_lc rfl S.nd (own := [("party", 1)]) (r_iseq t.hK (r_var (pv 0))) (by show BlkOk N_are_parties (defScope s_are_parties) _ _; exact ⟨rfl, by decide +kernel, by decide +kernel, by decide +kernel, by decide +kernel⟩) (by decide) (fun _ _ _ _ _ => (g_at (i := 1) S.nd)) (fun _ _ _ _ _ => pts_no) (fun _ _ _ _ _ => (r_call tk0 (ok_is_name t) (hr.mono (by decide)) (by rfl) t.g_is_name t.F_is_name.kp t.b_is_name (r_acons (r_var (pv 1)) r_anil) (by exact (alen_cons alen_nil))))) r_anil)) (r_oneV (r_call tkD (ok_are_unlike t) (hr.mono (by decide)) (by rfl) t.g_are_unlike t.F_are_unlike.kp t.b_are_unlike (r_acons (r_var (pv 0)) r_anil) (by exact (alen_cons alen_nil))))))))
theorem ok_is_handing (t : Tie P K mg G) : FnG P w K mg base 1 t.f_is_handing t.fd_is_handing ["parties", "thing"] (spA G 2 D_is_handing) :=
  have S := S_is_handing
  def_okA t.F_is_handing S rfl fun cdv A outer s H E z hr =>
  (r_cons (r_if (r_or (r_not (r_test (r_isi (cu := .type "tuple") t.hK (by rfl) t.n_isinstance (r_var (pv 1)) (pe_bltn (v := .ty "tuple") (by rfl) t.n_tuple (by decide +kernel) rfl) (.ty _) (tyTab_ok rfl)))) (r_or (b_tcmp (o_ne hr t.hK) (b_cb (o_len t.hK) t.n_len (r_acons (r_var (pv 1)) r_anil)) (r_const pe_int rfl)) (r_or1 (r_not (r_test (b_cb (o_all rfl) t.n_all (r_acons (r_lc rfl S.nd (own := [("party", 2)]) (r_iseq t.hK (r_var (pv 1))) (by show BlkOk N_is_handing (defScope s_is_handing) _ _; exact ⟨rfl, by decide +kernel, by decide +kernel, by decide +kernel, by decide +kernel⟩) (by decide) (fun _ _ _ _ _ => (g_at (i := 2) S.nd)) (fun _ _ _ _ _ => pts_no) (fun _ _ _ _ _ => (r_isi (cu := .type "str") t.hK (by rfl) t.n_isinstance (r_var (pv 2)) (pe_bltn (v := .ty "str") (by rfl) t.n_str (by decide +kernel) rfl) (.ty _) (tyTab_ok rfl)))) r_anil))))))).pt
  (r_one (r_ret (r_const pe_bl rfl)))
  r_nil)
  (r_one (r_ret (r_andV (b_cmp (o_ne hr t.hK) (b_ix (o_idx t.hK) (r_var (pv 1)) (r_const pe_int rfl)) (b_ix (o_idx t.hK) (r_var (pv 1)) (r_const pe_int rfl))) (r_oneV (b_cb (o_all rfl) t.n_all (r_acons (r_lc rfl S.nd (own := [("party", 2)]) (r_iseq t.hK (r_var (pv 1))) (by show BlkOk N_is_handing (defScope s_is_handing) _ _; exact ⟨rfl, by decide +kernel, by decide +kernel, by decide +kernel, by decide +kernel⟩) (by decide) (fun _ _ _ _ _ => (g_at (i := 2) S.nd)) (fun _ _ _ _ _ => pts_no) (fun _ _ _ _ _ => (b_cmp (o_in hr t.hK) (r_var (pv 2)) (r_var (pv 0))))) r_anil)))))))
theorem ok_are_handings (t : Tie P K mg G) : FnG P w K mg base 2 t.f_are_handings t.fd_are_handings ["parties", "thing"] (spA G 2 D_are_handings) :=
  have S := S_are_handings
  def_okA t.F_are_handings S rfl fun cdv A outer s H E z hr =>
  (r_cons (r_if (r_or (r_not (r_test (r_call tkD (ok_is_list t) (hr.mono (by decide)) (by rfl) t.g_is_list t.F_is_list.kp t.b_is_list (r_acons (r_var (pv 1)) r_anil) (by exact (alen_cons alen_nil))))) (r_or1 (r_not (b_tchain (o_le) (o_le) (r_const pe_int rfl) (b_cb (o_len t.hK) t.n_len (r_acons (r_var (pv 1)) r_anil)) (r_globC (by rfl) t.c_MOST_HANDINGS rfl))))).pt
  (r_one (r_ret (r_const pe_bl rfl)))
  r_nil)
  (r_one (r_ret (r_andV (b_cb (o_all rfl) t.n_all (r_acons (r_lc rfl S.nd (own := [("handing", 2)]) (r_iseq t.hK (r_var (pv 1))) (by show BlkOk N_are_handings (defScope s_are_handings) _ _; exact ⟨rfl, by decide +kernel, by decide +kernel, by decide +kernel, by decide +kernel⟩) (by decide) (fun _ _ _ _ _ => (g_at (i := 2) S.nd)) (fun _ _ _ _ _ => pts_no) (fun _ _ _ _ _ => (r_call tk0 (ok_is_handing t) (hr.mono (by decide)) (by rfl) t.g_is_handing t.F_is_handing.kp t.b_is_handing (r_acons (r_var (pv 0)) (r_acons (r_var (pv 2)) r_anil)) (by exact (alen_cons (alen_cons alen_nil)))))) r_anil)) (r_oneV (r_call tkD (ok_are_unlike t) (hr.mono (by decide)) (by rfl) t.g_are_unlike t.F_are_unlike.kp t.b_are_unlike (r_acons (r_var (pv 1)) r_anil) (by exact (alen_cons alen_nil))))))))
theorem ok_Web_init (t : Tie P K mg G) : FnG P w K mg base 3 t.f_Web_init t.fd_Web_init ["self", "parties", "handings"] (spB G 3 D_Web_init) :=
  have S := S_Web_init
  def_okB t.F_Web_init S rfl fun cdv A outer s H E z hr =>
  (r_cons (r_if (r_not (r_test (r_call tkD (ok_are_parties t) (hr.mono (by decide)) (by rfl) t.g_are_parties t.F_are_parties.kp t.b_are_parties (r_acons (r_var (pv 1)) r_anil) (by exact (alen_cons alen_nil)))))
  (r_one r_never)
  r_nil)
  (r_cons (r_if (r_not (r_test (r_call tkD (ok_are_handings t) (hr.mono (by decide)) (by rfl) t.g_are_handings t.F_are_handings.kp t.b_are_handings (r_acons (r_var (pv 1)) (r_acons (r_var (pv 2)) r_anil)) (by exact (alen_cons (alen_cons alen_nil))))))
  (r_one r_never)
  r_nil)
  (r_cons (r_fldset t.hK t.a_own_parties (pv 0) (b_ct (o_tuple t.hK) t.n_tuple (r_acons (b_cb (o_sorted hr t.hK) t.n_sorted (r_acons (r_var (pv 1)) r_anil)) r_anil)))
  (r_one (r_fldset t.hK t.a_own_handings (pv 0) (b_ct (o_tuple t.hK) t.n_tuple (r_acons (b_cb (o_sorted hr t.hK) t.n_sorted (r_acons (r_var (pv 2)) r_anil)) r_anil)))))))
theorem ok_law_web (t : Tie P K mg G) : FnG P w K mg base 5 t.f_law_web t.fd_law_web ["_law_model_here"] (spA G 1 D_law_web) :=
  have S := S_law_web
  def_okA t.F_law_web S rfl fun cdv A outer s H E z hr =>
  (r_one (r_ret (r_make tkD t.mk_Web (ok_Web_init t) (hr.mono (by decide)) t.cm_Web (by rfl) t.gc_Web t.b_Web_init (r_acons (r_rev (b_ct (o_list t.hK) t.n_list (r_acons (r_dget hr (r_var (pv 0)) pe_str (fun _ _ => rfl)) r_anil)) (fun _ h => pe_revL h)) (r_acons (r_rev (b_ct (o_list t.hK) t.n_list (r_acons (r_dget hr (r_var (pv 0)) pe_str (fun _ _ => rfl)) r_anil)) (fun _ h => pe_revL h)) r_anil)) (by exact (alen_cons (alen_cons alen_nil))))))
theorem ok_need_web (t : Tie P K mg G) : FnG P w K mg base 1 t.f_need_web t.fd_need_web ["web"] (spA G 1 D_need_web) :=
  have S := S_need_web
  def_okA t.F_need_web S rfl fun cdv A outer s H E z hr =>
  (r_one (r_if (r_not (r_test (r_isi (cu := .ref t.A_Web) t.hK (by rfl) t.n_isinstance (r_var (pv 0)) (pe_glob (v := .ref t.A_Web) (by rfl) t.gc_Web rfl) (.own _) t.isi_Web)))
  (r_one r_never)
  r_nil))
theorem ok_takers_of (t : Tie P K mg G) : FnG P w K mg base 1 t.f_takers_of t.fd_takers_of ["web", "party"] (spA G 2 D_takers_of) :=
  have S := S_takers_of
  def_okA t.F_takers_of S rfl fun cdv A outer s H E z hr =>
  (r_one (r_ret (r_lc rfl S.nd (own := [("giver", 2), ("taker", 3)]) (r_iseq t.hK (r_fld t.hK t.a_own_handings (r_var (pv 0)) rfl)) (by show BlkOk N_takers_of (defScope s_takers_of) _ _; exact ⟨rfl, by decide +kernel, by decide +kernel, by decide +kernel, by decide +kernel⟩) (by decide) (fun _ _ _ _ _ => (g_tup rfl t.hK (g_cons (g_at (i := 2) S.nd) (g_cons (g_at (i := 3) S.nd) g_nil)))) (fun _ _ _ _ _ => (pts_if (b_tcmp (o_eq hr t.hK) (r_var (pv 2)) (r_var (pv 1))))) (fun _ _ _ _ _ => (r_var (pv 3))))))
theorem ok_shorter_first (t : Tie P K mg G) : FnG P w K mg base 1 t.f_shorter_first t.fd_shorter_first ["some"] (spA G 1 D_shorter_first) :=
  have S := S_shorter_first
  def_okA t.F_shorter_first S rfl fun cdv A outer s H E z hr =>
  (r_one (r_ret (r_lc rfl S.nd (own := [("many", 1), ("one", 2)]) (r_iseq t.hK (b_cb (o_sorted hr t.hK) t.n_sorted (r_acons (r_lc rfl S.nd (own := [("one", 2)]) (r_iseq t.hK (r_var (pv 0))) (by show BlkOk N_shorter_first (defScope s_shorter_first) _ _; exact ⟨rfl, by decide +kernel, by decide +kernel, by decide +kernel, by decide +kernel⟩) (by decide) (fun _ _ _ _ _ => (g_at (i := 2) S.nd)) (fun _ _ _ _ _ => pts_no) (fun _ _ _ _ _ => (r_tup (r_acons (b_cb (o_len t.hK) t.n_len (r_acons (r_var (pv 2)) r_anil)) (r_acons (r_var (pv 2)) r_anil))))) r_anil))) (by show BlkOk N_shorter_first (defScope s_shorter_first) _ _; exact ⟨rfl, by decide +kernel, by decide +kernel, by decide +kernel, by decide +kernel⟩) (by decide) (fun _ _ _ _ _ => (g_tup rfl t.hK (g_cons (g_at (i := 1) S.nd) (g_cons (g_at (i := 2) S.nd) g_nil)))) (fun _ _ _ _ _ => pts_no) (fun _ _ _ _ _ => (r_var (pv 2))))))
theorem ok_rings_of (t : Tie P K mg G) : FnG P w K mg base 2 t.f_rings_of t.fd_rings_of ["web"] (spA G 1 D_rings_of) :=
  have S := S_rings_of
  def_okA t.F_rings_of S rfl fun cdv A outer s H E z hr =>
  (r_cons (r_par2 (fl1 := .ow) (fl2 := .ow) (i := 1) (j := 2) rfl S.nd rfl rfl (by decide) rfl rfl (r_lst r_anil) (r_lc rfl S.nd (own := [("party", 3)]) (r_iseq t.hK (r_fld t.hK t.a_own_parties (r_var (pv 0)) rfl)) (by show BlkOk N_rings_of (defScope s_rings_of) _ _; exact ⟨rfl, by decide +kernel, by decide +kernel, by decide +kernel, by decide +kernel⟩) (by decide) (fun _ _ _ _ _ => (g_at (i := 3) S.nd)) (fun _ _ _ _ _ => pts_no) (fun _ _ _ _ _ => (r_tup (r_acons (r_var (pv 3)) r_anil)))))
  (r_cons (r_while 1000000 paD (b_tcmp (o_ne hr t.hK) (r_var (pv 2)) (r_lst r_anil))
  (r_cons (set_at (fl := .fz) (i := 4) S.nd (r_mut0 m_pop isLst_drw isLst_ty (pe_bm0 PySem.F.plainAttrs_list PySem.F.slot_list_pop PySem.F.type_list_pop mt_pop (pv 2))))
  (r_one (r_for paD rfl (r_iseq t.hK (r_call tkD (ok_takers_of t) (hr.mono (by decide)) (by rfl) t.g_takers_of t.F_takers_of.kp t.b_takers_of (r_acons (r_var (pv 0)) (r_acons (b_ix (o_idx t.hK) (r_var (pv 4)) (b_un o_neg (r_const pe_int rfl))) r_anil)) (by exact (alen_cons (alen_cons alen_nil))))) (g_at (i := 3) S.nd) ne_name
  (r_one (r_if (b_tcmp (o_eq hr t.hK) (r_var (pv 3)) (b_ix (o_idx t.hK) (r_var (pv 4)) (r_const pe_int rfl)))
  (r_one (r_ex (r_append (pe_bm PySem.F.plainAttrs_list PySem.F.slot_list_append PySem.F.type_list_append mt_append (pv 1) (r_acons (r_var (pv 4)) r_anil)))))
  (r_one (r_if (r_and (b_tcmp (o_gtS) (r_var (pv 3)) (b_ix (o_idx t.hK) (r_var (pv 4)) (r_const pe_int rfl))) (r_and1 (b_tcmp (o_notin hr t.hK) (r_var (pv 3)) (r_var (pv 4))))).pt
  (r_one (r_ex (r_append (pe_bm PySem.F.plainAttrs_list PySem.F.slot_list_append PySem.F.type_list_append mt_append (pv 2) (r_acons (r_tup (r_astar t.hK (r_var (pv 4)) (r_acons (r_var (pv 3)) r_anil))) r_anil)))))
  r_nil))))))))
  (r_one (r_ret (r_call tkD (ok_shorter_first t) (hr.mono (by decide)) (by rfl) t.g_shorter_first t.F_shorter_first.kp t.b_shorter_first (r_acons (r_var (pv 1)) r_anil) (by exact (alen_cons alen_nil)))))))
theorem ok_rings (t : Tie P K mg G) : FnG P w K mg base 3 t.f_rings t.fd_rings ["web"] (spA G 1 D_rings) :=
  have S := S_rings
  def_okA t.F_rings S rfl fun cdv A outer s H E z hr =>
  (r_cons (r_ex (r_call tkD (ok_need_web t) (hr.mono (by decide)) (by rfl) t.g_need_web t.F_need_web.kp t.b_need_web (r_acons (r_var (pv 0)) r_anil) (by exact (alen_cons alen_nil))))
  (r_one (r_ret (r_call tkD (ok_rings_of t) (hr.mono (by decide)) (by rfl) t.g_rings_of t.F_rings_of.kp t.b_rings_of (r_acons (r_var (pv 0)) r_anil) (by exact (alen_cons alen_nil))))))
theorem ok_Web_with_handing (t : Tie P K mg G) : FnG P w K mg base 5 t.f_Web_with_handing t.fd_Web_with_handing ["self", "handing"] (spA G 2 D_Web_with_handing) :=
  have S := S_Web_with_handing
  def_okA t.F_Web_with_handing S rfl fun cdv A outer s H E z hr =>
  (r_cons (r_if (r_or (r_not (r_test (r_call tkD (ok_is_handing t) (hr.mono (by decide)) (by rfl) t.g_is_handing t.F_is_handing.kp t.b_is_handing (r_acons (r_fld t.hK t.a_own_parties (r_var (pv 0)) rfl) (r_acons (r_var (pv 1)) r_anil)) (by exact (alen_cons (alen_cons alen_nil)))))) (r_or1 (b_tcmp (o_in hr t.hK) (r_var (pv 1)) (r_fld t.hK t.a_own_handings (r_var (pv 0)) rfl)))).pt
  (r_one r_never)
  r_nil)
  (r_one (r_ret (r_make tkD t.mk_Web (ok_Web_init t) (hr.mono (by decide)) t.cm_Web (by rfl) t.gc_Web t.b_Web_init (r_acons (r_fld t.hK t.a_own_parties (r_var (pv 0)) rfl) (r_acons (r_tup (r_astar t.hK (r_fld t.hK t.a_own_handings (r_var (pv 0)) rfl) (r_acons (r_var (pv 1)) r_anil))) r_anil)) (by exact (alen_cons (alen_cons alen_nil)))))))
theorem ok_need_handing (t : Tie P K mg G) : FnG P w K mg base 2 t.f_need_handing t.fd_need_handing ["web", "handing"] (spA G 2 D_need_handing) :=
  have S := S_need_handing
  def_okA t.F_need_handing S rfl fun cdv A outer s H E z hr =>
  (r_one (r_if (r_or (r_not (r_test (r_call tkD (ok_is_handing t) (hr.mono (by decide)) (by rfl) t.g_is_handing t.F_is_handing.kp t.b_is_handing (r_acons (r_fld t.hK t.a_own_parties (r_var (pv 0)) rfl) (r_acons (r_var (pv 1)) r_anil)) (by exact (alen_cons (alen_cons alen_nil)))))) (r_or1 (b_tcmp (o_notin hr t.hK) (r_var (pv 1)) (r_fld t.hK t.a_own_handings (r_var (pv 0)) rfl)))).pt
  (r_one r_never)
  r_nil))
theorem ok_Web_without (t : Tie P K mg G) : FnG P w K mg base 5 t.f_Web_without t.fd_Web_without ["self", "handing"] (spA G 2 D_Web_without) :=
  have S := S_Web_without
  def_okA t.F_Web_without S rfl fun cdv A outer s H E z hr =>
  (r_cons (r_ex (r_call tkD (ok_need_handing t) (hr.mono (by decide)) (by rfl) t.g_need_handing t.F_need_handing.kp t.b_need_handing (r_acons (r_var (pv 0)) (r_acons (r_var (pv 1)) r_anil)) (by exact (alen_cons (alen_cons alen_nil)))))
  (r_one (r_ret (r_make tkD t.mk_Web (ok_Web_init t) (hr.mono (by decide)) t.cm_Web (by rfl) t.gc_Web t.b_Web_init (r_acons (r_fld t.hK t.a_own_parties (r_var (pv 0)) rfl) (r_acons (r_lc rfl S.nd (own := [("other", 2)]) (r_iseq t.hK (r_fld t.hK t.a_own_handings (r_var (pv 0)) rfl)) (by show BlkOk N_Web_without (defScope s_Web_without) _ _; exact ⟨rfl, by decide +kernel, by decide +kernel, by decide +kernel, by decide +kernel⟩) (by decide) (fun _ _ _ _ _ => (g_at (i := 2) S.nd)) (fun _ _ _ _ _ => (pts_if (b_tcmp (o_ne hr t.hK) (r_var (pv 2)) (r_var (pv 1))))) (fun _ _ _ _ _ => (r_var (pv 2)))) r_anil)) (by exact (alen_cons (alen_cons alen_nil)))))))
theorem ok_law (t : Tie P K mg G) : FnG P w K mg base 6 t.f_law t.fd_law ["_law_script"] (spA G 1 D_law) :=
  have S := S_law
  def_okA t.F_law S rfl fun cdv A outer s H E z hr =>
  (r_cons (set_at (fl := .ow) (i := 1) S.nd (r_call tkD (ok_law_begin t) (hr.mono (by decide)) (by rfl) t.g_law_begin t.F_law_begin.kp t.b_law_begin (r_acons (r_var (pv 0)) r_anil) (by exact (alen_cons alen_nil))))
  (r_cons (r_for paD rfl (r_irange1 rfl t.n_range (r_acons (b_bin (o_add t.hK) (r_const pe_int rfl) (b_cb (o_min rfl) t.n_min (r_acons (b_cb (o_len t.hK) t.n_len (r_acons (r_var (pv 0)) r_anil)) (r_acons (r_const pe_int rfl) r_anil)))) r_anil)) (g_at (i := 2) S.nd) ne_name
  (r_cons (set_at (fl := .fz) (i := 3) S.nd (r_callM tkD (ok_law_model t) (hr.mono (by decide)) (by rfl) t.g_law_model t.F_law_model.kp t.b_law_model (pv 1) (r_acons (r_const pe_int rfl) (r_acons (r_const pe_int rfl) r_anil)) (by exact (alen_cons (alen_cons alen_nil)))))
  (r_cons (r_par (i := 4) (j := 5) rfl S.nd rfl rfl (by decide) rfl rfl (r_acons (r_call tkD (ok_law_web t) (hr.mono (by decide)) (by rfl) t.g_law_web t.F_law_web.kp t.b_law_web (r_acons (r_var (pv 3)) r_anil) (by exact (alen_cons alen_nil))) (r_acons (r_call tkD (ok_law_rings t) (hr.mono (by decide)) (by rfl) t.g_law_rings t.F_law_rings.kp t.b_law_rings (r_acons (r_var (pv 3)) r_anil) (by exact (alen_cons alen_nil))) r_anil)))
  (r_cons (set_at (fl := .ow) (i := 6) S.nd (r_call tkD (ok_rings t) (hr.mono (by decide)) (by rfl) t.g_rings t.F_rings.kp t.b_rings (r_acons (r_var (pv 4)) r_anil) (by exact (alen_cons alen_nil))))
  (r_cons (r_if (b_tcmp (o_ne hr t.hK) (b_cb (o_repr hr t.hK) t.n_repr (r_acons (r_var (pv 6)) r_anil)) (b_cb (o_repr hr t.hK) t.n_repr (r_acons (r_var (pv 5)) r_anil)))
  (r_one (r_ret (r_const pe_bl rfl)))
  r_nil)
  (r_cons (r_ex (r_append (pe_bm PySem.F.plainAttrs_list PySem.F.slot_list_append PySem.F.type_list_append mt_append (pv 6) (r_acons (r_const pe_non rfl) r_anil))))
  (r_cons (r_if (b_tcmp (o_ne hr t.hK) (b_cb (o_repr hr t.hK) t.n_repr (r_acons (r_callK0 tkD (ok_rings t) (hr.mono (by decide)) (by rfl) t.g_rings t.F_rings.kp t.kb_rings_0_web (r_kcons (r_var (pv 4)) r_knil) (by exact (alen_cons alen_nil))) r_anil)) (b_cb (o_repr hr t.hK) t.n_repr (r_acons (r_var (pv 5)) r_anil)))
  (r_one (r_ret (r_const pe_bl rfl)))
  r_nil)
  (r_cons (set_at (fl := .fz) (i := 7) S.nd (r_slice t.hK (r_lc rfl S.nd (own := [("_law_pair", 8)]) (r_iseq t.hK (r_callM tkD (ok_law_mixed t) (hr.mono (by decide)) (by rfl) t.g_law_mixed t.F_law_mixed.kp t.b_law_mixed (pv 1) (r_acons (r_call tkD (ok_law_pairs t) (hr.mono (by decide)) (by rfl) t.g_law_pairs t.F_law_pairs.kp t.b_law_pairs (r_acons (r_dget hr (r_var (pv 3)) pe_str (fun _ _ => rfl)) r_anil) (by exact (alen_cons alen_nil))) r_anil) (by exact (alen_cons alen_nil)))) (by show BlkOk N_law (defScope s_law) _ _; exact ⟨rfl, by decide +kernel, by decide +kernel, by decide +kernel, by decide +kernel⟩) (by decide) (fun _ _ _ _ _ => (g_at (i := 8) S.nd)) (fun _ _ _ _ _ => (pts_if (b_tcmp (o_notin hr t.hK) (r_var (pv 8)) (r_dget hr (r_var (pv 3)) pe_str (fun _ _ => rfl))))) (fun _ _ _ _ _ => (r_var (pv 8)))) r_poN (r_poS (r_const pe_int rfl))))
  (r_cons (r_if (r_and (b_tcmp (o_ne hr t.hK) (r_var (pv 7)) (r_lst r_anil)) (r_and1 (b_tcmp (o_lt) (b_cb (o_len t.hK) t.n_len (r_acons (r_dget hr (r_var (pv 3)) pe_str (fun _ _ => rfl)) r_anil)) (r_const pe_int rfl)))).pt
  (r_cons (set_at (fl := .fz) (i := 9) S.nd (r_disp (.cons (.cons .nil)) (pps_cons pe_str (r_dget hr (r_var (pv 3)) pe_str (fun _ _ => rfl)) (pps_cons pe_str (b_cb (o_sorted hr t.hK) t.n_sorted (r_acons (b_bin (o_add t.hK) (r_dget hr (r_var (pv 3)) pe_str (fun _ _ => rfl)) (r_var (pv 7))) r_anil)) pps_nil))))
  (r_one (r_if (b_tcmp (o_ne hr t.hK) (b_cb (o_repr hr t.hK) t.n_repr (r_acons (r_call tkD (ok_rings t) (hr.mono (by decide)) (by rfl) t.g_rings t.F_rings.kp t.b_rings (r_acons (r_meth tkD t.cm_Web t.cl_Web t.me_Web_with_handing (ok_Web_with_handing t) (hr.mono (by decide)) t.b_Web_with_handing (r_var (pv 4)) (r_acons (b_ix (o_idx t.hK) (r_var (pv 7)) (r_const pe_int rfl)) r_anil) (by exact alen_meth (by exact (alen_cons alen_nil)))) r_anil) (by exact (alen_cons alen_nil))) r_anil)) (b_cb (o_repr hr t.hK) t.n_repr (r_acons (r_call tkD (ok_law_rings t) (hr.mono (by decide)) (by rfl) t.g_law_rings t.F_law_rings.kp t.b_law_rings (r_acons (r_var (pv 9)) r_anil) (by exact (alen_cons alen_nil))) r_anil)))
  (r_one (r_ret (r_const pe_bl rfl)))
  r_nil)))
  r_nil)
  (r_cons (set_at (fl := .fz) (i := 10) S.nd (r_callM tkD (ok_law_pick t) (hr.mono (by decide)) (by rfl) t.g_law_pick t.F_law_pick.kp t.b_law_pick (pv 1) (r_acons (r_dget hr (r_var (pv 3)) pe_str (fun _ _ => rfl)) r_anil) (by exact (alen_cons alen_nil))))
  (r_one (r_if (b_tcmp (o_gt) (b_cb (o_len t.hK) t.n_len (r_acons (r_dget hr (r_var (pv 3)) pe_str (fun _ _ => rfl)) r_anil)) (r_const pe_int rfl))
  (r_cons (set_at (fl := .fz) (i := 9) S.nd (r_disp (.cons (.cons .nil)) (pps_cons pe_str (r_dget hr (r_var (pv 3)) pe_str (fun _ _ => rfl)) (pps_cons pe_str (r_lc rfl S.nd (own := [("_law_one", 11)]) (r_iseq t.hK (r_dget hr (r_var (pv 3)) pe_str (fun _ _ => rfl))) (by show BlkOk N_law (defScope s_law) _ _; exact ⟨rfl, by decide +kernel, by decide +kernel, by decide +kernel, by decide +kernel⟩) (by decide) (fun _ _ _ _ _ => (g_at (i := 11) S.nd)) (fun _ _ _ _ _ => (pts_if (b_tcmp (o_ne hr t.hK) (r_var (pv 11)) (r_var (pv 10))))) (fun _ _ _ _ _ => (r_var (pv 11)))) pps_nil))))
  (r_one (r_if (b_tcmp (o_ne hr t.hK) (b_cb (o_repr hr t.hK) t.n_repr (r_acons (r_lst (r_acons (r_call tkD (ok_rings t) (hr.mono (by decide)) (by rfl) t.g_rings t.F_rings.kp t.b_rings (r_acons (r_meth tkD t.cm_Web t.cl_Web t.me_Web_without (ok_Web_without t) (hr.mono (by decide)) t.b_Web_without (r_var (pv 4)) (r_acons (r_var (pv 10)) r_anil) (by exact alen_meth (by exact (alen_cons alen_nil)))) r_anil) (by exact (alen_cons alen_nil))) (r_acons (r_call tkD (ok_rings t) (hr.mono (by decide)) (by rfl) t.g_rings t.F_rings.kp t.b_rings (r_acons (r_var (pv 4)) r_anil) (by exact (alen_cons alen_nil))) r_anil))) r_anil)) (b_cb (o_repr hr t.hK) t.n_repr (r_acons (r_lst (r_acons (r_call tkD (ok_law_rings t) (hr.mono (by decide)) (by rfl) t.g_law_rings t.F_law_rings.kp t.b_law_rings (r_acons (r_var (pv 9)) r_anil) (by exact (alen_cons alen_nil))) (r_acons (r_var (pv 5)) r_anil))) r_anil)))
  (r_one (r_ret (r_const pe_bl rfl)))
  r_nil)))
  r_nil))))))))))))
  (r_one (r_ret (r_const pe_bl rfl)))))
end
end Lk05
namespace Lk05
open PySem PySem.Spec PyProof.Rows L2 PySem.W VL
theorem repr_ww2 {U W : List (List Str)} (h : ∀ w ∈ U, NmW w) (h' : ∀ w ∈ W, NmW w) (hl : U.length ≤ 8000) (hl' : W.length ≤ 8000) : ∃ z, dRepr (.lst [.lst (U.map wd), .lst (W.map wd)]) = some (.str z, .fz) := by
  have hp : toPy (.lst [.lst (U.map wd), .lst (W.map wd)]) = some (.list [.list (U.map eW), .list (W.map eW)]) := by
    have h1 := encW.lpy U
    have h2 := encW.lpy W
    simp only [toPy, toPyL] at h1 h2 ⊢
    rw [h1, h2]; rfl
  refine ⟨_, repr_ok hp ?_⟩
  have e1 : (PyData.list [PyData.list (U.map eW), PyData.list (W.map eW)]).showable = true := by simp only [PyData.showable, PyData.showableAll, show_ws, Bool.and_self]
  have e2 : (PyData.list [PyData.list (U.map eW), PyData.list (W.map eW)]).depth ≤ 60 := by
    have : (PyData.list [PyData.list (U.map eW), PyData.list (W.map eW)]).depth = max (PyData.depthAll (U.map eW) + 1) (max (PyData.depthAll (W.map eW) + 1) 0) + 1 := by simp only [PyData.depth, PyData.depthAll]
    rw [this]; have := encW.depL W; have := encW.depL U; omega
  have e3 : (PyData.list [PyData.list (U.map eW), PyData.list (W.map eW)]).shown.length ≤ sizeLine := by
    rw [sizeLine_eq]
    have h1 := listText_len_le [(PyData.list (U.map eW)).shown, (PyData.list (W.map eW)).shown]
    have h2 := shown_ws h hl
    have h3 := shown_ws h' hl'
    have e : (PyData.list [PyData.list (U.map eW), PyData.list (W.map eW)]).shown = listText [(PyData.list (U.map eW)).shown, (PyData.list (W.map eW)).shown] := by simp only [PyData.shown, PyData.shownAll]
    rw [e]
    simp only [List.map_cons, List.map_nil, List.sum_cons, List.sum_nil, List.length_cons, List.length_nil] at h1
    omega
  unfold okRepr
  simp only [e1, decide_eq_true e2, decide_eq_true e3, Bool.and_self]
def Fo (s : VL.Slot) : Prop := s = none ∨ ∃ d, s = some (d, .fz) ∨ s = some (d, .ow)
theorem Fo.set {s : VL.Slot} (h : Fo s) : (match (some s : Option VL.Slot) with
  | some (some (_, .lk)) => false
  | some (some (_, .pn)) => false
  | some _ => true
  | none => false) = true := by
  rcases h with rfl | ⟨n, rfl | rfl⟩ <;> rfl
structure Sl where
  (s2 s3 s4 s5 s6 s7 s9 s10 : VL.Slot)
def lwE (sc : D) (dr : D) (z : Sl) : VL.Env := [some (sc, .fz), some (dr, .ow), z.s2, z.s3, z.s4, z.s5, z.s6, z.s7, none, z.s9, z.s10, none]
structure Ok (z : Sl) : Prop where
  (h2 : Fs z.s2) (h3 : Fs z.s3) (h4 : Fs z.s4) (h5 : Fs z.s5) (h6 : Fo z.s6) (h7 : Fs z.s7) (h9 : Fs z.s9) (h10 : Fs z.s10)
section
variable {sc dr : D} {ps : List Str} {hs : List (Str × Str)}
theorem set3 {z : Sl} (h : Ok z) (d : D) (hd : d.fzOk = true) : setSlot .fz 3 d .ow (lwE sc dr z) = .ok (lwE sc dr { z with s3 := some (d, .fz) }) := by
  have c : canSet (lwE sc dr z) 3 = true := h.h3.set
  unfold setSlot; rw [if_pos c]; simp only [hd, if_true]; rfl
theorem set6 {z : Sl} (h : Ok z) (d : D) : setSlot .ow 6 d .ow (lwE sc dr z) = .ok (lwE sc dr { z with s6 := some (d, .ow) }) := by
  have c : canSet (lwE sc dr z) 6 = true := h.h6.set
  unfold setSlot; rw [if_pos c]; rfl
theorem set7 {z : Sl} (h : Ok z) (d : D) (hd : d.fzOk = true) : setSlot .fz 7 d .ow (lwE sc dr z) = .ok (lwE sc dr { z with s7 := some (d, .fz) }) := by
  have c : canSet (lwE sc dr z) 7 = true := h.h7.set
  unfold setSlot; rw [if_pos c]; simp only [hd, if_true]; rfl
theorem set9 {z : Sl} (h : Ok z) (d : D) (hd : d.fzOk = true) : setSlot .fz 9 d .ow (lwE sc dr z) = .ok (lwE sc dr { z with s9 := some (d, .fz) }) := by
  have c : canSet (lwE sc dr z) 9 = true := h.h9.set
  unfold setSlot; rw [if_pos c]; simp only [hd, if_true]; rfl
theorem set10 {z : Sl} (h : Ok z) (d : D) : setSlot .fz 10 d .fz (lwE sc dr z) = .ok (lwE sc dr { z with s10 := some (d, .fz) }) := by
  have c : canSet (lwE sc dr z) 10 = true := h.h10.set
  unfold setSlot; rw [if_pos c]; rfl
theorem rg_repr (hb : Wb ps hs) : ∃ z, dRepr (.lst ((ringsL ps hs).map wd)) = some (.str z, .fz) := repr_ws (ringsL_nm hb) (by have := ringsL_len hb; omega)
/-- a handing more -/
theorem part8 (hb : Wb ps hs) {z : Sl} {more : List (Str × Str)} (hz : Ok z) (e3 : z.s3 = some (mdD ps hs, .fz)) (e4 : z.s4 = some (webD ps hs, .fz)) (e7 : z.s7 = some (.lst (more.map pd), .fz)) (hmore : ∀ p ∈ more, p ∈ prsL ps ∧ p ∉ hs) (hl : more.length ≤ 1) :
    ∃ z', Ok z' ∧ z'.s2 = z.s2 ∧ z'.s3 = z.s3 ∧ z'.s4 = z.s4 ∧ z'.s5 = z.s5 ∧ sIf (bAnd (xTst (xAp2 true dNe (xV 7) (xLst aN))) (xTst (xAp2 true dLt (xApp (f1 dLen) (aC true (xGet "ties" (xV 3)) aN)) (xC (.int 12)))))
  (sSeq (sSet .fz 9 (xDisp ["dots", "ties"] (aC true (xGet "dots" (xV 3)) (aC true (xApp (f1 dSorted) (aC true (xAp2 true dAdd (xGet "ties" (xV 3)) (xV 7)) aN)) aN))))
  (sIf (xTst (xAp2 true dNe (xApp (f1 dRepr) (aC true (xCall D_rings (aC true (xCall D_Web_with_handing (aM 50 "with_handing" true (xV 4) (aC true (xAp2 true dIdx (xV 7) (xC (.int 0))) aN))) aN)) aN)) (xApp (f1 dRepr) (aC true (xCall D_law_rings (aC true (xV 9) aN)) aN))))
  (sRet (xC (.bl false)))
  sNil))
  sNil (lwE sc dr z) = .ok (.nx (lwE sc dr z')) := by
  have g3 : (lwE sc dr z)[3]? = some (some (mdD ps hs, .fz)) := by show some z.s3 = _; rw [e3]
  have g7 : (lwE sc dr z)[7]? = some (some (.lst (more.map pd), .fz)) := by show some z.s7 = _; rw [e7]
  have hmn : ∀ p ∈ more, NmP p := fun p hp => ⟨hb.nm _ (mem_prs.mp (hmore p hp).1).1, hb.nm _ (mem_prs.mp (hmore p hp).1).2.1⟩
  have c1 : xTst (xAp2 true dNe (xV 7) (xLst aN)) (lwE sc dr z) = .ok (!more.isEmpty, lwE sc dr z) := xTst_ok (xAp2_ok (xV_fz g7) (by simp) (nil_ok _) (encP.nn hmn))
  cases more with
  | nil => exact ⟨z, hz, rfl, rfl, rfl, rfl, (sIf_f (bAnd_f c1)).trans (sNil_ok _)⟩
  | cons p rest =>
    have hr : rest = [] := by
      cases rest with
      | nil => rfl
      | cons _ _ => simp at hl
    subst hr
    obtain ⟨hp, hn⟩ := hmore p List.mem_cons_self
    have q := mem_prs.mp hp
    have el : xApp (f1 dLen) (aC true (xGet "ties" (xV 3)) aN) (lwE sc dr z) = .ok (.int hs.length, .fz, lwE sc dr z) := xApp_ok (aC1_ok (get_ties (xV_fz g3)) (by simp)) (by show some (D.int (hs.map pd).length, Kd.fz) = _; rw [List.length_map])
    have c2 : xTst (xAp2 true dLt (xApp (f1 dLen) (aC true (xGet "ties" (xV 3)) aN)) (xC (.int 12))) (lwE sc dr z) = .ok (decide ((hs.length : Int) < 12), lwE sc dr z) := xTst_ok (xAp2_ok el (by simp) (ev_xC _ _) (ev_lt _ _))
    by_cases h12 : (hs.length : Int) < 12
    · rw [decide_eq_true h12] at c2
      have hl12 : hs.length < 12 := by omega
      have ad := addL (f := pd) (A := hs) (B := [p]) (by simp; omega)
      have xs : xApp (f1 dSorted) (aC true (xAp2 true dAdd (xGet "ties" (xV 3)) (xV 7)) aN) (lwE sc dr z) = .ok (.lst ((srt pd (hs ++ [p])).map pd), .ow, lwE sc dr z) := xApp_ok (aC1_ok (xAp2_ok (get_ties (xV_fz g3)) (by simp) (xV_fz g7) ad) (by simp)) (sorted_l (sortOk_pd (by simp; omega)))
      have a1 := sSet_ok (fl := .fz) (i := 9) (disp_ok (get_dots (xV_fz g3)) (by simp) xs (by simp)) (set9 hz _ rfl)
      have kz : Ok { z with s9 := some (mdD ps (srt pd (hs ++ [p])), .fz) } := { hz with h9 := .some _ }
      refine ⟨{ z with s9 := some (mdD ps (srt pd (hs ++ [p])), .fz) }, kz, rfl, rfl, rfl, rfl, ?_⟩
      rw [sIf_t ((bAnd_t c1).trans c2), sSeq_nx a1]
      have g4 : (lwE sc dr { z with s9 := some (mdD ps (srt pd (hs ++ [p])), .fz) })[4]? = some (some (webD ps hs, .fz)) := by show some z.s4 = _; rw [e4]
      have g7' : (lwE sc dr { z with s9 := some (mdD ps (srt pd (hs ++ [p])), .fz) })[7]? = some (some (.lst ([p].map pd), .fz)) := g7
      generalize hρ : lwE sc dr { z with s9 := some (mdD ps (srt pd (hs ++ [p])), .fz) } = ρ at *
      have g9 : ρ[9]? = some (some (mdD ps (srt pd (hs ++ [p])), .fz)) := by rw [← hρ]; rfl
      have i0 : dIdx (.lst ([p].map pd)) (.int 0) = some (pd p, .fz) := by rw [ev_idx_l, List.map_cons, atI_zero]; rfl
      have xw : xCall D_Web_with_handing (aM 50 "with_handing" true (xV 4) (aC true (xAp2 true dIdx (xV 7) (xC (.int 0))) aN)) ρ = .ok (webD ps (srt pd (hs ++ [p])), .ow, ρ) := callA_ok (aM_ok (xV_fz g4) insW (by simp) (aC1_ok (xAp2_ok (xV_fz g7') (by simp) (ev_xC _ _) i0) (by simp))) rfl (more_eq hb q.1 q.2.1 q.2.2 hn hl12) (by simp)
      have hb' := wb_more hb hp hn hl12
      obtain ⟨zz', r⟩ := rg_repr hb'
      exact same_repr (callA_ok (aC1_ok xw (by simp)) rfl (rings_eq hb') (by simp)) (callA_ok (aC1_ok (xV_fz g9) (by simp)) rfl (law_rings_eq hb') (by simp)) r
    · rw [decide_eq_false h12] at c2
      exact ⟨z, hz, rfl, rfl, rfl, rfl, (sIf_f ((bAnd_t c1).trans c2)).trans (sNil_ok _)⟩
/-- a handing less -/
theorem part10 (hb : Wb ps hs) {z : Sl} {tie : Str × Str} (hz : Ok z) (e3 : z.s3 = some (mdD ps hs, .fz)) (e4 : z.s4 = some (webD ps hs, .fz)) (e5 : z.s5 = some (.lst ((ringsL ps hs).map wd), .fz)) (e10 : z.s10 = some (pd tie, .fz)) (ht : tie ∈ hs) :
    ∃ z', Ok z' ∧ sIf (xTst (xAp2 true dGt (xApp (f1 dLen) (aC true (xGet "ties" (xV 3)) aN)) (xC (.int 1))))
  (sSeq (sSet .fz 9 (xDisp ["dots", "ties"] (aC true (xGet "dots" (xV 3)) (aC true (xLc [11] (iSeq (xGet "ties" (xV 3))) (gNm 11) (xTst (xAp2 true dNe (xV 11) (xV 10))) (xV 11)) aN))))
  (sIf (xTst (xAp2 true dNe (xApp (f1 dRepr) (aC true (xLst (aC true (xCall D_rings (aC true (xCall D_Web_without (aM 50 "without" true (xV 4) (aC true (xV 10) aN))) aN)) (aC true (xCall D_rings (aC true (xV 4) aN)) aN))) aN)) (xApp (f1 dRepr) (aC true (xLst (aC true (xCall D_law_rings (aC true (xV 9) aN)) (aC true (xV 5) aN))) aN))))
  (sRet (xC (.bl false)))
  sNil))
  sNil (lwE sc dr z) = .ok (.nx (lwE sc dr z')) := by
  have g3 : (lwE sc dr z)[3]? = some (some (mdD ps hs, .fz)) := by show some z.s3 = _; rw [e3]
  have g10 : (lwE sc dr z)[10]? = some (some (pd tie, .fz)) := by show some z.s10 = _; rw [e10]
  have el : xApp (f1 dLen) (aC true (xGet "ties" (xV 3)) aN) (lwE sc dr z) = .ok (.int hs.length, .fz, lwE sc dr z) := xApp_ok (aC1_ok (get_ties (xV_fz g3)) (by simp)) (by show some (D.int (hs.map pd).length, Kd.fz) = _; rw [List.length_map])
  have c2 : xTst (xAp2 true dGt (xApp (f1 dLen) (aC true (xGet "ties" (xV 3)) aN)) (xC (.int 1))) (lwE sc dr z) = .ok (decide (1 < (hs.length : Int)), lwE sc dr z) := xTst_ok (xAp2_ok el (by simp) (ev_xC _ _) (ev_gt _ _))
  by_cases h1 : 1 < (hs.length : Int)
  · rw [decide_eq_true h1] at c2
    have hl1 : 1 < hs.length := by omega
    have it : iSeq (xGet "ties" (xV 3)) (lwE sc dr z) = .ok (hs.map pd, false, lwE sc dr z) := by rw [ev_iSeq, get_ties (xV_fz g3)]; rfl
    have lc := lcS_map (g := gNm 11) (t := xTst (xAp2 true dNe (xV 11) (xV 10))) (e := xV 11) (ρ := wipeR (lwE sc dr z) [11]) pd (fun q => !decide (q = tie)) pd hs (fun r hr => by
      have e10' : ((lwE sc dr z).set 11 (some (pd r, .fz)))[10]? = some (some (pd tie, .fz)) := by rw [List.getElem?_set_ne (by decide)]; exact g10
      have e11' : ((lwE sc dr z).set 11 (some (pd r, .fz)))[11]? = some (some (pd r, .fz)) := rfl
      exact ⟨(lwE sc dr z).set 11 (some (pd r, .fz)), rfl, _, xTst_ok (xAp2_ok (xV_fz e11') (by simp) (xV_fz e10') (ne_pd (hb.nmp r hr) (hb.nmp tie ht))), fun _ => ⟨.fz, _, xV_fz e11', by simp, rfl⟩⟩)
    have ex := xLc_ok (vs := [11]) (e := xV 11) it rfl (by rw [List.length_map]; exact zz (by have := hb.hm; omega)) lc
    have a1 := sSet_ok (fl := .fz) (i := 9) (disp_ok (get_dots (xV_fz g3)) (by simp) ex (by simp)) (set9 hz _ rfl)
    have kz : Ok { z with s9 := some (mdD ps (hs.filter fun q => !decide (q = tie)), .fz) } := { hz with h9 := .some _ }
    refine ⟨{ z with s9 := some (mdD ps (hs.filter fun q => !decide (q = tie)), .fz) }, kz, ?_⟩
    rw [sIf_t c2, sSeq_nx a1]
    have g4 : (lwE sc dr { z with s9 := some (mdD ps (hs.filter fun q => !decide (q = tie)), .fz) })[4]? = some (some (webD ps hs, .fz)) := by show some z.s4 = _; rw [e4]
    have g5 : (lwE sc dr { z with s9 := some (mdD ps (hs.filter fun q => !decide (q = tie)), .fz) })[5]? = some (some (.lst ((ringsL ps hs).map wd), .fz)) := by show some z.s5 = _; rw [e5]
    have g10' : (lwE sc dr { z with s9 := some (mdD ps (hs.filter fun q => !decide (q = tie)), .fz) })[10]? = some (some (pd tie, .fz)) := g10
    generalize hρ : lwE sc dr { z with s9 := some (mdD ps (hs.filter fun q => !decide (q = tie)), .fz) } = ρ at *
    have g9 : ρ[9]? = some (some (mdD ps (hs.filter fun q => !decide (q = tie)), .fz)) := by rw [← hρ]; rfl
    have xw : xCall D_Web_without (aM 50 "without" true (xV 4) (aC true (xV 10) aN)) ρ = .ok (webD ps (hs.filter fun q => !decide (q = tie)), .ow, ρ) := callA_ok (aM_ok (xV_fz g4) insL (by simp) (aC1_ok (xV_fz g10') (by simp))) rfl (less_eq hb ht hl1) (by simp)
    have hb' := wb_less (p := tie) hb hl1
    obtain ⟨zz', r⟩ := repr_ww2 (ringsL_nm hb') (ringsL_nm hb) (by have := ringsL_len hb'; omega) (by have := ringsL_len hb; omega)
    exact same_repr (lst2 (callA_ok (aC1_ok xw (by simp)) rfl (rings_eq hb') (by simp)) (by simp) rfl (callA_ok (aC1_ok (xV_fz g4) (by simp)) rfl (rings_eq hb) (by simp)) (by simp) rfl) (lst2 (callA_ok (aC1_ok (xV_fz g9) (by simp)) rfl (law_rings_eq hb') (by simp)) (by simp) rfl (xV_fz g5) (by simp) rfl) r
  · rw [decide_eq_false h1] at c2
    exact ⟨z, hz, (sIf_f c2).trans (sNil_ok _)⟩
end
section
variable {sc : D} {ce : List Int}
theorem body1 {gr : List Int} {r t : Int} {z : Sl} (hz : Ok z) : ∃ gr' r' t' z', Ok z' ∧ mb_law_1 (lwE sc (.drw gr r ce t) z) = .ok (.nx (lwE sc (.drw gr' r' ce t') z')) := by
  obtain ⟨ps, hs, gr1, r1, t1, e1, hm⟩ := model_eq (gr := gr) (r := r) (ce := ce) (t := t) (most := 6) (many := 12) (by decide) (by decide) (by decide) (by decide)
  have hb := hm.wb (by decide) (by decide)
  obtain ⟨rz, rr⟩ := rg_repr hb
  have c1 : xCallM D_law_model 1 (aC true (xC (.int 6)) (aC true (xC (.int 12)) aN)) (lwE sc (.drw gr r ce t) z) = .ok (mdD ps hs, .ow, lwE sc (.drw gr1 r1 ce t1) z) := callM_ok (ρ1 := lwE sc (.drw gr r ce t) z) (l := [(.int 6, .fz), (.int 12, .fz)]) rfl rfl (aC_ok (ev_xC _ _) (by simp) (aC1_ok (ev_xC _ _) (by simp))) rfl rfl rfl rfl e1 (by simp)
  have a1 : sSet .fz 3 (xCallM D_law_model 1 (aC true (xC (.int 6)) (aC true (xC (.int 12)) aN))) (lwE sc (.drw gr r ce t) z) = _ := sSet_ok c1 (set3 hz _ rfl)
  let z1 : Sl := { z with s3 := some (mdD ps hs, .fz) }
  have k1 : Ok z1 := { hz with h3 := .some _ }
  let z2 : Sl := { z1 with s4 := some (webD ps hs, .fz), s5 := some (.lst ((ringsL ps hs).map wd), .fz) }
  have k2 : Ok z2 := { k1 with h4 := .some _, h5 := .some _ }
  have v3 : aC true (xV 3) aN (lwE sc (.drw gr1 r1 ce t1) z1) = .ok ([(mdD ps hs, .fz)], lwE sc (.drw gr1 r1 ce t1) z1) := aC1_ok (xV_fz rfl) (by simp)
  have a2 : sPar 4 5 (aC true (xCall D_law_web (aC true (xV 3) aN)) (aC true (xCall D_law_rings (aC true (xV 3) aN)) aN)) (lwE sc (.drw gr1 r1 ce t1) z1) = .ok (.nx (lwE sc (.drw gr1 r1 ce t1) z2)) := by
    rw [ev_sPar, aC_ok (callA_ok v3 rfl (law_web_eq hb) (by simp)) (by simp) (aC1_ok (callA_ok v3 rfl (law_rings_eq hb) (by simp)) (by simp))]
    simp only [Res.bind_ok]
    show (if fzAll [(webD ps hs, Kd.ow), (D.lst ((ringsL ps hs).map wd), Kd.ow)] = true then (gNm 4 (webD ps hs) (lwE sc (.drw gr1 r1 ce t1) z1)).bind fun ρ2 => (gNm 5 (D.lst ((ringsL ps hs).map wd)) ρ2).bind fun ρ3 => Res.ok (Flo.nx ρ3) else .bad) = _
    rw [if_pos (show fzAll [(webD ps hs, Kd.ow), (D.lst ((ringsL ps hs).map wd), Kd.ow)] = true from rfl)]
    have c4 : canSet (lwE sc (.drw gr1 r1 ce t1) z1) 4 = true := k1.h4.set
    have c5 : canSet (lwE sc (.drw gr1 r1 ce t1) { z1 with s4 := some (webD ps hs, .fz) }) 5 = true := k1.h5.set
    have s1 : gNm 4 (webD ps hs) (lwE sc (.drw gr1 r1 ce t1) z1) = .ok (lwE sc (.drw gr1 r1 ce t1) { z1 with s4 := some (webD ps hs, .fz) }) := by
      show setSlot .fz 4 _ .fz _ = _
      unfold setSlot; rw [if_pos c4]; rfl
    have s2 : gNm 5 (D.lst ((ringsL ps hs).map wd)) (lwE sc (.drw gr1 r1 ce t1) { z1 with s4 := some (webD ps hs, .fz) }) = .ok (lwE sc (.drw gr1 r1 ce t1) z2) := by
      show setSlot .fz 5 _ .fz _ = _
      unfold setSlot; rw [if_pos c5]; rfl
    rw [s1]
    simp only [ev_rbind_ok]
    rw [s2]; rfl
  let z3 : Sl := { z2 with s6 := some (.lst ((ringsL ps hs).map wd), .ow) }
  have k3 : Ok z3 := { k2 with h6 := .inr ⟨_, .inr rfl⟩ }
  have a3 : sSet .ow 6 (xCall D_rings (aC true (xV 4) aN)) (lwE sc (.drw gr1 r1 ce t1) z2) = .ok (.nx (lwE sc (.drw gr1 r1 ce t1) z3)) := sSet_ok (callA_ok (aC1_ok (d := webD ps hs) (k := .fz) (xV_fz rfl) (by simp)) rfl (rings_eq hb) (by simp)) (set6 k2 _)
  have v6 : xV 6 (lwE sc (.drw gr1 r1 ce t1) z3) = .ok (.lst ((ringsL ps hs).map wd), .br, lwE sc (.drw gr1 r1 ce t1) z3) := rfl
  have a4 : sIf (xTst (xAp2 true dNe (xApp (f1 dRepr) (aC true (xV 6) aN)) (xApp (f1 dRepr) (aC true (xV 5) aN)))) (sRet (xC (.bl false))) sNil (lwE sc (.drw gr1 r1 ce t1) z3) = .ok (.nx (lwE sc (.drw gr1 r1 ce t1) z3)) := same_repr v6 (xV_fz (i := 5) rfl) rr
  let z4 : Sl := { z3 with s6 := some (.lst ((ringsL ps hs).map wd ++ [.non]), .ow) }
  have k4 : Ok z4 := { k3 with h6 := .inr ⟨_, .inr rfl⟩ }
  have a5 : sEx (xMut D.isLst 6 mAppend (aC true (xC (.non)) aN)) (lwE sc (.drw gr1 r1 ce t1) z3) = .ok (.nx (lwE sc (.drw gr1 r1 ce t1) z4)) := by
    have ha : mAppend (.lst ((ringsL ps hs).map wd)) [.non] = some (.lst ((ringsL ps hs).map wd ++ [.non]), .non) := by
      show (if ((ringsL ps hs).map wd).length < sizeLine then some (D.lst ((ringsL ps hs).map wd ++ [.non]), D.non) else none) = _
      rw [if_pos (by rw [List.length_map, sizeLine_eq]; have := ringsL_len hb; omega)]
    exact sEx_ok (mut_ok (p := D.isLst) (i := 6) (g := mAppend) rfl rfl rfl (aC1_ok (ev_xC _ _) (by simp)) rfl rfl rfl rfl ha)
  have a6 : sIf (xTst (xAp2 true dNe (xApp (f1 dRepr) (aC true (xCallK D_rings [0] true aN (aC true (xV 4) aN)) aN)) (xApp (f1 dRepr) (aC true (xV 5) aN)))) (sRet (xC (.bl false))) sNil (lwE sc (.drw gr1 r1 ce t1) z4) = .ok (.nx (lwE sc (.drw gr1 r1 ce t1) z4)) :=
    same_repr (callK_ok (ev_aN _) rfl (aC1_ok (d := webD ps hs) (k := .fz) (xV_fz rfl) (by simp)) rfl (rings_eq hb) (by simp)) (xV_fz (i := 5) rfl) rr
  have hpl := prs_len (dots := ps) (by have := hb.l6; omega)
  have hpv : ∀ p ∈ prsL ps, NmP p := fun p hp => ⟨hb.nm _ (mem_prs.mp hp).1, hb.nm _ (mem_prs.mp hp).2.1⟩
  obtain ⟨mx, gr4, r4, t4, e4, hp⟩ := mixed_eq encP fz_pd (gr := gr1) (r := r1) (ce := ce) (t := t1) hpv (by omega)
  have hmx : ∀ p ∈ mx, p ∈ prsL ps := fun p h => hp.mem_iff.mp h
  have hml : mx.length ≤ 10000 := by rw [hp.length_eq]; exact hpl
  obtain ⟨more, hmore⟩ : ∃ more, more = (mx.filter fun p => !decide (p ∈ hs)).take 1 := ⟨_, rfl⟩
  have g3 : ∀ dr, (lwE sc dr z4)[3]? = some (some (mdD ps hs, .fz)) := fun dr => rfl
  have c7p : xCall D_law_pairs (aC true (xGet "dots" (xV 3)) aN) (lwE sc (.drw gr1 r1 ce t1) z4) = .ok (.lst ((prsL ps).map pd), .fz, lwE sc (.drw gr1 r1 ce t1) z4) := callA_ok (aC1_ok (get_dots (xV_fz (g3 (.drw gr1 r1 ce t1)))) (by simp)) rfl (pairs_eq (by have := hb.l6; omega)) (by simp)
  have c7m : xCallM D_law_mixed 1 (aC true (xCall D_law_pairs (aC true (xGet "dots" (xV 3)) aN)) aN) (lwE sc (.drw gr1 r1 ce t1) z4) = .ok (.lst (mx.map pd), .ow, lwE sc (.drw gr4 r4 ce t4) z4) := callM_ok (ρ1 := lwE sc (.drw gr1 r1 ce t1) z4) rfl rfl (aC1_ok c7p (by simp)) rfl rfl rfl rfl e4 (by simp)
  have c7 : xSl (xLc [8] (iSeq (xCallM D_law_mixed 1 (aC true (xCall D_law_pairs (aC true (xGet "dots" (xV 3)) aN)) aN))) (gNm 8) (xTst (xAp2 true dNotIn (xV 8) (xGet "ties" (xV 3)))) (xV 8)) oN (oS (xC (.int 1))) (lwE sc (.drw gr1 r1 ce t1) z4) = .ok (.lst (more.map pd), .ow, lwE sc (.drw gr4 r4 ce t4) z4) := by
    have it : iSeq (xCallM D_law_mixed 1 (aC true (xCall D_law_pairs (aC true (xGet "dots" (xV 3)) aN)) aN)) (lwE sc (.drw gr1 r1 ce t1) z4) = .ok (mx.map pd, false, lwE sc (.drw gr4 r4 ce t4) z4) := by rw [ev_iSeq, c7m]; rfl
    have lc := lcS_map (g := gNm 8) (t := xTst (xAp2 true dNotIn (xV 8) (xGet "ties" (xV 3)))) (e := xV 8) (ρ := wipeR (lwE sc (.drw gr4 r4 ce t4) z4) [8]) pd (fun p => !decide (p ∈ hs)) pd mx (fun q hq => by
      have h3 : ((lwE sc (.drw gr4 r4 ce t4) z4).set 8 (some (pd q, .fz)))[3]? = some (some (mdD ps hs, .fz)) := rfl
      have h8 : ((lwE sc (.drw gr4 r4 ce t4) z4).set 8 (some (pd q, .fz)))[8]? = some (some (pd q, .fz)) := rfl
      exact ⟨(lwE sc (.drw gr4 r4 ce t4) z4).set 8 (some (pd q, .fz)), rfl, _, xTst_ok (xAp2_ok (xV_fz h8) (by simp) (get_ties (xV_fz h3)) ((encP.ni_l (hpv q (hmx q hq)) hb.nmp).trans (by congr))), fun _ => ⟨.fz, _, xV_fz h8, by simp, rfl⟩⟩)
    have ex := xLc_ok (vs := [8]) (e := xV 8) it rfl (by rw [List.length_map]; exact zz (by omega)) lc
    have c := cutD_to ((mx.filter fun p => !decide (p ∈ hs)).map pd) 1
    rw [← List.map_take, ← hmore] at c
    rw [ev_xSl, ex]
    simp only [ev_rbind_ok, ev_oN, oS_int (ev_xC _ _), ev_sl_l]
    have c' : cutD ((mx.filter fun p => !decide (p ∈ hs)).map pd) none (some 1) = more.map pd := c
    simp only [c']
  let z5 : Sl := { z4 with s7 := some (.lst (more.map pd), .fz) }
  have k5 : Ok z5 := { k4 with h7 := .some _ }
  have a7 : sSet .fz 7 (xSl (xLc [8] (iSeq (xCallM D_law_mixed 1 (aC true (xCall D_law_pairs (aC true (xGet "dots" (xV 3)) aN)) aN))) (gNm 8) (xTst (xAp2 true dNotIn (xV 8) (xGet "ties" (xV 3)))) (xV 8)) oN (oS (xC (.int 1)))) (lwE sc (.drw gr1 r1 ce t1) z4) = .ok (.nx (lwE sc (.drw gr4 r4 ce t4) z5)) := sSet_ok c7 (set7 k4 _ rfl)
  have hmore' : ∀ p ∈ more, p ∈ prsL ps ∧ p ∉ hs := fun p h => by
    rw [hmore] at h
    have := List.mem_filter.mp (List.mem_of_mem_take h)
    exact ⟨hmx p this.1, by simpa using this.2⟩
  obtain ⟨z6, k6, q2, q3, q4, q5, a8⟩ := part8 (sc := sc) (dr := .drw gr4 r4 ce t4) hb (z := z5) (more := more) k5 rfl rfl rfl hmore' (by rw [hmore]; exact List.length_take_le _ _)
  obtain ⟨x, gr5, r5, t5, e5, hx⟩ := pick_eq (gr := gr4) (r := r4) (ce := ce) (t := t4) (xs := hs.map pd) (by have := hb.h1; intro h; rw [List.map_eq_nil_iff] at h; rw [h] at this; simp at this) (by rw [List.length_map]; have := hb.hm; omega)
  obtain ⟨tie, htie, rfl⟩ := List.mem_map.mp hx
  have g6 : (lwE sc (.drw gr4 r4 ce t4) z6)[3]? = some (some (mdD ps hs, .fz)) := by show some z6.s3 = _; rw [q3]
  let z7 : Sl := { z6 with s10 := some (pd tie, .fz) }
  have k7 : Ok z7 := { k6 with h10 := .some _ }
  have a9 : sSet .fz 10 (xCallM D_law_pick 1 (aC true (xGet "ties" (xV 3)) aN)) (lwE sc (.drw gr4 r4 ce t4) z6) = .ok (.nx (lwE sc (.drw gr5 r5 ce t5) z7)) := by
    have c : xCallM D_law_pick 1 (aC true (xGet "ties" (xV 3)) aN) (lwE sc (.drw gr4 r4 ce t4) z6) = .ok (pd tie, .fz, lwE sc (.drw gr5 r5 ce t5) z6) := callM_ok (ρ1 := lwE sc (.drw gr4 r4 ce t4) z6) rfl rfl (aC1_ok (get_ties (xV_fz g6)) (by simp)) rfl rfl rfl rfl e5 (by simp)
    exact sSet_ok c (set10 k6 _)
  obtain ⟨z8, k8, a10⟩ := part10 (sc := sc) (dr := .drw gr5 r5 ce t5) hb (z := z7) (tie := tie) k7 (by show z6.s3 = _; rw [q3]) (by show z6.s4 = _; rw [q4]) (by show z6.s5 = _; rw [q5]) rfl htie
  refine ⟨gr5, r5, t5, z8, k8, ?_⟩
  unfold mb_law_1
  rw [sSeq_nx a1, sSeq_nx a2, sSeq_nx a3, sSeq_nx a4, sSeq_nx a5, sSeq_nx a6, sSeq_nx a7, sSeq_nx a8, sSeq_nx a9]
  exact a10
end
def z0 : Sl := ⟨none, none, none, none, none, none, none, none⟩
theorem ok0 : Ok z0 := ⟨.none, .none, .none, .none, .inl rfl, .none, .none, .none⟩
theorem plain : ∀ ns : List Int, ns.length ≤ 63 → ∃ k', D_law [some (.scr ns, .fz)] = .ok (.bl true, k') := by
  intro ns hn
  obtain ⟨gr, ce, eb⟩ := begin_eq hn
  have a1 : sSet .ow 1 (xCall D_law_begin (aC true (xV 0) aN)) (bodyEnv 12 [some (.scr ns, .fz)]) = .ok (.nx (lwE (.scr ns) (.drw gr 0 ce 0) z0)) := by
    refine sSet_ok (ρ1 := bodyEnv 12 [some (.scr ns, .fz)]) (callA_ok (aC1_ok (d := .scr ns) (k := .fz) rfl (by simp)) rfl eb (by simp)) rfl
  obtain ⟨n, hn1, hn2⟩ : ∃ n : Nat, n < 1000000 ∧ aC true (xAp2 true dAdd (xC (.int 2)) (xApp (f2 dMin2) (aC true (xApp (f1 dLen) (aC true (xV 0) aN)) (aC true (xC (.int 3)) aN)))) aN (lwE (.scr ns) (.drw gr 0 ce 0) z0) = .ok ([(.int n, .fz)], lwE (.scr ns) (.drw gr 0 ce 0) z0) := by
    refine ⟨2 + min ns.length 3, by omega, ?_⟩
    have e : 2 + (if (3 : Int) < ((ns.length : Nat) : Int) then (3 : Int) else ((ns.length : Nat) : Int)) = ((2 + min ns.length 3 : Nat) : Int) := by split <;> omega
    rw [← e]
    refine aC1_ok (xAp2_ok (ev_xC _ _) (by simp) (xApp_ok (aC_ok (xApp_ok (aC1_ok (d := .scr ns) (k := .fz) rfl (by simp)) (ev_len_s _)) (by simp) (aC1_ok (ev_xC _ _) (by simp))) (ev_min _ _)) (ev_add _ _)) (by simp)
  have rk : rngK1 [(.int n, .fz)] (lwE (.scr ns) (.drw gr 0 ce 0) z0) = .ok ((List.range n).map fun (k : Nat) => D.int k, false, lwE (.scr ns) (.drw gr 0 ce 0) z0) := rngK1_len hn1
  have loop : ∃ ρ', forL (gNm 2) mb_law_1 ((List.range n).map fun (k : Nat) => D.int k) (lwE (.scr ns) (.drw gr 0 ce 0) z0) = .ok (.nx ρ') := by
    refine forL_map (fun (k : Nat) => D.int k) (fun _ ρ => ∃ gr r t z, Ok z ∧ ρ = lwE (.scr ns) (.drw gr r ce t) z) (fun q => ∃ ρ', q = .ok (.nx ρ')) (fun k ys ρ hI => ?_) (fun ρ _ => ⟨ρ, rfl⟩) (List.range n) _ ⟨gr, 0, 0, z0, ok0, rfl⟩
    obtain ⟨gr, r, t, z, hz, rfl⟩ := hI
    have c2 : canSet (lwE (.scr ns) (.drw gr r ce t) z) 2 = true := hz.h2.set
    obtain ⟨gr', r', t', z', hz', e⟩ := body1 (sc := .scr ns) (ce := ce) (gr := gr) (r := r) (t := t) (z := { z with s2 := some (.int k, .fz) }) { hz with h2 := .some _ }
    refine ⟨lwE (.scr ns) (.drw gr r ce t) { z with s2 := some (.int k, .fz) }, ?_, .inl ⟨_, .inl e, gr', r', t', z', hz', rfl⟩⟩
    show setSlot .fz 2 _ .fz _ = _
    unfold setSlot; rw [if_pos c2]; rfl
  obtain ⟨ρ', e⟩ := loop
  refine ⟨.fz, dA_rt (ρ1 := ρ') ?_ (by simp)⟩
  unfold m_law
  rw [sSeq_nx a1, sSeq_nx ((sFor_1 hn2 rk).trans e)]
  exact sRet_ok (ev_xC _ _) (by simp)
end Lk05
namespace Lk05
open PySem PySem.Spec PyProof.Rows L2 VL
def GG (K : PySem.W.Frag) (mg : Str → Option Value) : Gm := ⟨K, fun c => match c with
  | 50 => adrOf (mg "Web")
  | _ => none, []⟩
theorem cm_at {o : Option Value} {A : Addr} (h : o = some (.ref A)) : adrOf o = some A := by rw [h]; rfl
def Tied (P : Program) (K : PySem.W.Frag) (mg : Str → Option Value) : Prop := ∃ t : Tie P K mg (GG K mg), mg "law" = some (.ref t.f_law) ∧ ∀ (s : Shared) (u : Value), BindsTo s t.fd_law ⟨[u], []⟩ [("_law_script", u)]
theorem tied {P : Program} {w : World} {K : PySem.W.Frag} {mg : Str → Option Value} {fa : Addr} (hm : mg "law" = some (.ref fa)) (h : Tied P K mg) : ∃ fd : FuncData, (∀ (s : Shared) (u : Value), BindsTo s fd ⟨[u], []⟩ [("_law_script", u)]) ∧ ∀ base : Heap, K.In base → base.Ns mainGlobals mg → FnG P w K mg base 6 fa fd ["_law_script"] (spA (GG K mg) 1 D_law) := by
  obtain ⟨t, e, b⟩ := h
  have e' : fa = t.f_law := Value.ref.inj (Option.some.inj (hm.symm.trans e))
  subst e'
  exact ⟨t.fd_law, b, fun base _ _ => ok_law t⟩
set_option maxHeartbeats 0 in
theorem tie_mk {P : Program} {K : PySem.W.Frag} {h : Heap} {mg : Str → Option Value} (X : K.In h) (Gn : h.Ns mainGlobals mg)
    {A_Web : Addr}
    {f_law_begin : Addr} {od_law_begin an_law_begin : Option Addr} {sl_law_begin : Array (Option Value)} {oc_law_begin kV_law_begin dc_law_begin pm_law_begin cd_law_begin ct_law_begin : Value}
    {f_law_blend : Addr} {od_law_blend an_law_blend : Option Addr} {sl_law_blend : Array (Option Value)} {oc_law_blend kV_law_blend dc_law_blend pm_law_blend cd_law_blend ct_law_blend : Value}
    {f_law_take : Addr} {od_law_take an_law_take : Option Addr} {sl_law_take : Array (Option Value)} {oc_law_take kV_law_take dc_law_take pm_law_take cd_law_take ct_law_take : Value}
    {f_law_pick : Addr} {od_law_pick an_law_pick : Option Addr} {sl_law_pick : Array (Option Value)} {oc_law_pick kV_law_pick dc_law_pick pm_law_pick cd_law_pick ct_law_pick : Value}
    {f_law_names : Addr} {od_law_names an_law_names : Option Addr} {sl_law_names : Array (Option Value)} {oc_law_names kV_law_names dc_law_names pm_law_names cd_law_names ct_law_names : Value}
    {f_law_mixed : Addr} {od_law_mixed an_law_mixed : Option Addr} {sl_law_mixed : Array (Option Value)} {oc_law_mixed kV_law_mixed dc_law_mixed pm_law_mixed cd_law_mixed ct_law_mixed : Value}
    {f_law_pairs : Addr} {od_law_pairs an_law_pairs : Option Addr} {sl_law_pairs : Array (Option Value)} {oc_law_pairs kV_law_pairs dc_law_pairs pm_law_pairs cd_law_pairs ct_law_pairs : Value}
    {f_law_model : Addr} {od_law_model an_law_model : Option Addr} {sl_law_model : Array (Option Value)} {oc_law_model kV_law_model dc_law_model pm_law_model cd_law_model ct_law_model : Value}
    {f_law_before : Addr} {od_law_before an_law_before : Option Addr} {sl_law_before : Array (Option Value)} {oc_law_before kV_law_before dc_law_before pm_law_before cd_law_before ct_law_before : Value}
    {f_law_next : Addr} {od_law_next an_law_next : Option Addr} {sl_law_next : Array (Option Value)} {oc_law_next kV_law_next dc_law_next pm_law_next cd_law_next ct_law_next : Value}
    {f_law_shorter : Addr} {od_law_shorter an_law_shorter : Option Addr} {sl_law_shorter : Array (Option Value)} {oc_law_shorter kV_law_shorter dc_law_shorter pm_law_shorter cd_law_shorter ct_law_shorter : Value}
    {f_law_ways : Addr} {od_law_ways an_law_ways : Option Addr} {sl_law_ways : Array (Option Value)} {oc_law_ways kV_law_ways dc_law_ways pm_law_ways cd_law_ways ct_law_ways : Value}
    {f_law_rings : Addr} {od_law_rings an_law_rings : Option Addr} {sl_law_rings : Array (Option Value)} {oc_law_rings kV_law_rings dc_law_rings pm_law_rings cd_law_rings ct_law_rings : Value}
    {f_is_list : Addr} {od_is_list an_is_list : Option Addr} {sl_is_list : Array (Option Value)} {oc_is_list kV_is_list dc_is_list pm_is_list cd_is_list ct_is_list : Value}
    {f_is_name : Addr} {od_is_name an_is_name : Option Addr} {sl_is_name : Array (Option Value)} {oc_is_name kV_is_name dc_is_name pm_is_name cd_is_name ct_is_name : Value}
    {f_are_unlike : Addr} {od_are_unlike an_are_unlike : Option Addr} {sl_are_unlike : Array (Option Value)} {oc_are_unlike kV_are_unlike dc_are_unlike pm_are_unlike cd_are_unlike ct_are_unlike : Value}
    {f_are_parties : Addr} {od_are_parties an_are_parties : Option Addr} {sl_are_parties : Array (Option Value)} {oc_are_parties kV_are_parties dc_are_parties pm_are_parties cd_are_parties ct_are_parties : Value}
    {f_is_handing : Addr} {od_is_handing an_is_handing : Option Addr} {sl_is_handing : Array (Option Value)} {oc_is_handing kV_is_handing dc_is_handing pm_is_handing cd_is_handing ct_is_handing : Value}
    {f_are_handings : Addr} {od_are_handings an_are_handings : Option Addr} {sl_are_handings : Array (Option Value)} {oc_are_handings kV_are_handings dc_are_handings pm_are_handings cd_are_handings ct_are_handings : Value}
    {f_Web_init : Addr} {od_Web_init an_Web_init : Option Addr} {sl_Web_init : Array (Option Value)} {oc_Web_init kV_Web_init dc_Web_init pm_Web_init cd_Web_init ct_Web_init : Value}
    {f_law_web : Addr} {od_law_web an_law_web : Option Addr} {sl_law_web : Array (Option Value)} {oc_law_web kV_law_web dc_law_web pm_law_web cd_law_web ct_law_web : Value}
    {f_need_web : Addr} {od_need_web an_need_web : Option Addr} {sl_need_web : Array (Option Value)} {oc_need_web kV_need_web dc_need_web pm_need_web cd_need_web ct_need_web : Value}
    {f_takers_of : Addr} {od_takers_of an_takers_of : Option Addr} {sl_takers_of : Array (Option Value)} {oc_takers_of kV_takers_of dc_takers_of pm_takers_of cd_takers_of ct_takers_of : Value}
    {f_shorter_first : Addr} {od_shorter_first an_shorter_first : Option Addr} {sl_shorter_first : Array (Option Value)} {oc_shorter_first kV_shorter_first dc_shorter_first pm_shorter_first cd_shorter_first ct_shorter_first : Value}
    {f_rings_of : Addr} {od_rings_of an_rings_of : Option Addr} {sl_rings_of : Array (Option Value)} {oc_rings_of kV_rings_of dc_rings_of pm_rings_of cd_rings_of ct_rings_of : Value}
    {f_rings : Addr} {od_rings an_rings : Option Addr} {sl_rings : Array (Option Value)} {oc_rings kV_rings dc_rings pm_rings cd_rings ct_rings : Value}
    {f_Web_with_handing : Addr} {od_Web_with_handing an_Web_with_handing : Option Addr} {sl_Web_with_handing : Array (Option Value)} {oc_Web_with_handing kV_Web_with_handing dc_Web_with_handing pm_Web_with_handing cd_Web_with_handing ct_Web_with_handing : Value}
    {f_need_handing : Addr} {od_need_handing an_need_handing : Option Addr} {sl_need_handing : Array (Option Value)} {oc_need_handing kV_need_handing dc_need_handing pm_need_handing cd_need_handing ct_need_handing : Value}
    {f_Web_without : Addr} {od_Web_without an_Web_without : Option Addr} {sl_Web_without : Array (Option Value)} {oc_Web_without kV_Web_without dc_Web_without pm_Web_without cd_Web_without ct_Web_without : Value}
    {f_law : Addr} {od_law an_law : Option Addr} {sl_law : Array (Option Value)} {oc_law kV_law dc_law pm_law cd_law ct_law : Value}
    {tk_LEAST_PARTIES : Tok}
    {tk_LETTERS : Tok}
    {tk_LONGEST : Tok}
    {tk_MOST_HANDINGS : Tok}
    {tk_MOST_PARTIES : Tok}
    (aC_Web : PySem.W.nsIn K mainGlobals "Web" = some (some (.ref A_Web)))
    (pg_Web : PySem.W.plainGet K A_Web Str.empty = true)
    (hd_Web : PySem.W.hasDictIn K A_Web = true)
    (po_Web : PySem.W.plainOver K A_Web = true)
    (sa_Web : PySem.W.findIn K (.ref A_Web) "__setattr__" = some (some (.builtin "object.__setattr__")))
    (ha_Web : PySem.W.findIn K (.ref A_Web) "__class__" = some (some (.builtin "object.__class__")))
    (hm_Web : PySem.W.mroIn K A_Web (.type "object") = some true)
    (mk_Web : PySem.W.makesIn K A_Web = true)
    (kc_Web : PySem.W.keepIn K (.ref A_Web) = true)
    (hn : PySem.W.specialIn K (.builtin "object.__class__") "__get__" = some (some (.builtin "getset_descriptor.__get__")))
    (ht : PySem.W.takesIn K (.builtin "object.__class__") = some true)
    (na_own_handings_50 : PySem.W.findIn K (.ref A_Web) "own_handings" = some none)
    (na_own_parties_50 : PySem.W.findIn K (.ref A_Web) "own_parties" = some none)
    (a_law_begin : PySem.W.nsIn K mainGlobals "_law_begin" = some (some (.ref f_law_begin)))
    (l_law_begin : K.lookup f_law_begin = some ⟨oc_law_begin, od_law_begin, .func (PySem.W.fnOf "_law_begin" "_law_begin" (defArgs s_law_begin) (defBody s_law_begin) (defScope s_law_begin) .none kV_law_begin dc_law_begin pm_law_begin an_law_begin cd_law_begin ct_law_begin), sl_law_begin⟩)
    (c_law_begin : PySem.W.codeIn K cd_law_begin "_law_begin" = true)
    (k_law_begin : PySem.W.keepIn K (.ref f_law_begin) = true)
    (a_law_blend : PySem.W.nsIn K mainGlobals "_law_blend" = some (some (.ref f_law_blend)))
    (l_law_blend : K.lookup f_law_blend = some ⟨oc_law_blend, od_law_blend, .func (PySem.W.fnOf "_law_blend" "_law_blend" (defArgs s_law_blend) (defBody s_law_blend) (defScope s_law_blend) .none kV_law_blend dc_law_blend pm_law_blend an_law_blend cd_law_blend ct_law_blend), sl_law_blend⟩)
    (c_law_blend : PySem.W.codeIn K cd_law_blend "_law_blend" = true)
    (k_law_blend : PySem.W.keepIn K (.ref f_law_blend) = true)
    (a_law_take : PySem.W.nsIn K mainGlobals "_law_take" = some (some (.ref f_law_take)))
    (l_law_take : K.lookup f_law_take = some ⟨oc_law_take, od_law_take, .func (PySem.W.fnOf "_law_take" "_law_take" (defArgs s_law_take) (defBody s_law_take) (defScope s_law_take) .none kV_law_take dc_law_take pm_law_take an_law_take cd_law_take ct_law_take), sl_law_take⟩)
    (c_law_take : PySem.W.codeIn K cd_law_take "_law_take" = true)
    (k_law_take : PySem.W.keepIn K (.ref f_law_take) = true)
    (a_law_pick : PySem.W.nsIn K mainGlobals "_law_pick" = some (some (.ref f_law_pick)))
    (l_law_pick : K.lookup f_law_pick = some ⟨oc_law_pick, od_law_pick, .func (PySem.W.fnOf "_law_pick" "_law_pick" (defArgs s_law_pick) (defBody s_law_pick) (defScope s_law_pick) .none kV_law_pick dc_law_pick pm_law_pick an_law_pick cd_law_pick ct_law_pick), sl_law_pick⟩)
    (c_law_pick : PySem.W.codeIn K cd_law_pick "_law_pick" = true)
    (k_law_pick : PySem.W.keepIn K (.ref f_law_pick) = true)
    (a_law_names : PySem.W.nsIn K mainGlobals "_law_names" = some (some (.ref f_law_names)))
    (l_law_names : K.lookup f_law_names = some ⟨oc_law_names, od_law_names, .func (PySem.W.fnOf "_law_names" "_law_names" (defArgs s_law_names) (defBody s_law_names) (defScope s_law_names) .none kV_law_names dc_law_names pm_law_names an_law_names cd_law_names ct_law_names), sl_law_names⟩)
    (c_law_names : PySem.W.codeIn K cd_law_names "_law_names" = true)
    (k_law_names : PySem.W.keepIn K (.ref f_law_names) = true)
    (a_law_mixed : PySem.W.nsIn K mainGlobals "_law_mixed" = some (some (.ref f_law_mixed)))
    (l_law_mixed : K.lookup f_law_mixed = some ⟨oc_law_mixed, od_law_mixed, .func (PySem.W.fnOf "_law_mixed" "_law_mixed" (defArgs s_law_mixed) (defBody s_law_mixed) (defScope s_law_mixed) .none kV_law_mixed dc_law_mixed pm_law_mixed an_law_mixed cd_law_mixed ct_law_mixed), sl_law_mixed⟩)
    (c_law_mixed : PySem.W.codeIn K cd_law_mixed "_law_mixed" = true)
    (k_law_mixed : PySem.W.keepIn K (.ref f_law_mixed) = true)
    (a_law_pairs : PySem.W.nsIn K mainGlobals "_law_pairs" = some (some (.ref f_law_pairs)))
    (l_law_pairs : K.lookup f_law_pairs = some ⟨oc_law_pairs, od_law_pairs, .func (PySem.W.fnOf "_law_pairs" "_law_pairs" (defArgs s_law_pairs) (defBody s_law_pairs) (defScope s_law_pairs) .none kV_law_pairs dc_law_pairs pm_law_pairs an_law_pairs cd_law_pairs ct_law_pairs), sl_law_pairs⟩)
    (c_law_pairs : PySem.W.codeIn K cd_law_pairs "_law_pairs" = true)
    (k_law_pairs : PySem.W.keepIn K (.ref f_law_pairs) = true)
    (a_law_model : PySem.W.nsIn K mainGlobals "_law_model" = some (some (.ref f_law_model)))
    (l_law_model : K.lookup f_law_model = some ⟨oc_law_model, od_law_model, .func (PySem.W.fnOf "_law_model" "_law_model" (defArgs s_law_model) (defBody s_law_model) (defScope s_law_model) .none kV_law_model dc_law_model pm_law_model an_law_model cd_law_model ct_law_model), sl_law_model⟩)
    (c_law_model : PySem.W.codeIn K cd_law_model "_law_model" = true)
    (k_law_model : PySem.W.keepIn K (.ref f_law_model) = true)
    (a_law_before : PySem.W.nsIn K mainGlobals "_law_before" = some (some (.ref f_law_before)))
    (l_law_before : K.lookup f_law_before = some ⟨oc_law_before, od_law_before, .func (PySem.W.fnOf "_law_before" "_law_before" (defArgs s_law_before) (defBody s_law_before) (defScope s_law_before) .none kV_law_before dc_law_before pm_law_before an_law_before cd_law_before ct_law_before), sl_law_before⟩)
    (c_law_before : PySem.W.codeIn K cd_law_before "_law_before" = true)
    (k_law_before : PySem.W.keepIn K (.ref f_law_before) = true)
    (a_law_next : PySem.W.nsIn K mainGlobals "_law_next" = some (some (.ref f_law_next)))
    (l_law_next : K.lookup f_law_next = some ⟨oc_law_next, od_law_next, .func (PySem.W.fnOf "_law_next" "_law_next" (defArgs s_law_next) (defBody s_law_next) (defScope s_law_next) .none kV_law_next dc_law_next pm_law_next an_law_next cd_law_next ct_law_next), sl_law_next⟩)
    (c_law_next : PySem.W.codeIn K cd_law_next "_law_next" = true)
    (k_law_next : PySem.W.keepIn K (.ref f_law_next) = true)
    (a_law_shorter : PySem.W.nsIn K mainGlobals "_law_shorter" = some (some (.ref f_law_shorter)))
    (l_law_shorter : K.lookup f_law_shorter = some ⟨oc_law_shorter, od_law_shorter, .func (PySem.W.fnOf "_law_shorter" "_law_shorter" (defArgs s_law_shorter) (defBody s_law_shorter) (defScope s_law_shorter) .none kV_law_shorter dc_law_shorter pm_law_shorter an_law_shorter cd_law_shorter ct_law_shorter), sl_law_shorter⟩)
    (c_law_shorter : PySem.W.codeIn K cd_law_shorter "_law_shorter" = true)
    (k_law_shorter : PySem.W.keepIn K (.ref f_law_shorter) = true)
    (a_law_ways : PySem.W.nsIn K mainGlobals "_law_ways" = some (some (.ref f_law_ways)))
    (l_law_ways : K.lookup f_law_ways = some ⟨oc_law_ways, od_law_ways, .func (PySem.W.fnOf "_law_ways" "_law_ways" (defArgs s_law_ways) (defBody s_law_ways) (defScope s_law_ways) .none kV_law_ways dc_law_ways pm_law_ways an_law_ways cd_law_ways ct_law_ways), sl_law_ways⟩)
    (c_law_ways : PySem.W.codeIn K cd_law_ways "_law_ways" = true)
    (k_law_ways : PySem.W.keepIn K (.ref f_law_ways) = true)
    (a_law_rings : PySem.W.nsIn K mainGlobals "_law_rings" = some (some (.ref f_law_rings)))
    (l_law_rings : K.lookup f_law_rings = some ⟨oc_law_rings, od_law_rings, .func (PySem.W.fnOf "_law_rings" "_law_rings" (defArgs s_law_rings) (defBody s_law_rings) (defScope s_law_rings) .none kV_law_rings dc_law_rings pm_law_rings an_law_rings cd_law_rings ct_law_rings), sl_law_rings⟩)
    (c_law_rings : PySem.W.codeIn K cd_law_rings "_law_rings" = true)
    (k_law_rings : PySem.W.keepIn K (.ref f_law_rings) = true)
    (a_is_list : PySem.W.nsIn K mainGlobals "is_list" = some (some (.ref f_is_list)))
    (l_is_list : K.lookup f_is_list = some ⟨oc_is_list, od_is_list, .func (PySem.W.fnOf "is_list" "is_list" (defArgs s_is_list) (defBody s_is_list) (defScope s_is_list) .none kV_is_list dc_is_list pm_is_list an_is_list cd_is_list ct_is_list), sl_is_list⟩)
    (c_is_list : PySem.W.codeIn K cd_is_list "is_list" = true)
    (k_is_list : PySem.W.keepIn K (.ref f_is_list) = true)
    (a_is_name : PySem.W.nsIn K mainGlobals "is_name" = some (some (.ref f_is_name)))
    (l_is_name : K.lookup f_is_name = some ⟨oc_is_name, od_is_name, .func (PySem.W.fnOf "is_name" "is_name" (defArgs s_is_name) (defBody s_is_name) (defScope s_is_name) .none kV_is_name dc_is_name pm_is_name an_is_name cd_is_name ct_is_name), sl_is_name⟩)
    (c_is_name : PySem.W.codeIn K cd_is_name "is_name" = true)
    (k_is_name : PySem.W.keepIn K (.ref f_is_name) = true)
    (a_are_unlike : PySem.W.nsIn K mainGlobals "are_unlike" = some (some (.ref f_are_unlike)))
    (l_are_unlike : K.lookup f_are_unlike = some ⟨oc_are_unlike, od_are_unlike, .func (PySem.W.fnOf "are_unlike" "are_unlike" (defArgs s_are_unlike) (defBody s_are_unlike) (defScope s_are_unlike) .none kV_are_unlike dc_are_unlike pm_are_unlike an_are_unlike cd_are_unlike ct_are_unlike), sl_are_unlike⟩)
    (c_are_unlike : PySem.W.codeIn K cd_are_unlike "are_unlike" = true)
    (k_are_unlike : PySem.W.keepIn K (.ref f_are_unlike) = true)
    (a_are_parties : PySem.W.nsIn K mainGlobals "are_parties" = some (some (.ref f_are_parties)))
    (l_are_parties : K.lookup f_are_parties = some ⟨oc_are_parties, od_are_parties, .func (PySem.W.fnOf "are_parties" "are_parties" (defArgs s_are_parties) (defBody s_are_parties) (defScope s_are_parties) .none kV_are_parties dc_are_parties pm_are_parties an_are_parties cd_are_parties ct_are_parties), sl_are_parties⟩)
    (c_are_parties : PySem.W.codeIn K cd_are_parties "are_parties" = true)
    (k_are_parties : PySem.W.keepIn K (.ref f_are_parties) = true)
    (a_is_handing : PySem.W.nsIn K mainGlobals "is_handing" = some (some (.ref f_is_handing)))
    (l_is_handing : K.lookup f_is_handing = some ⟨oc_is_handing, od_is_handing, .func (PySem.W.fnOf "is_handing" "is_handing" (defArgs s_is_handing) (defBody s_is_handing) (defScope s_is_handing) .none kV_is_handing dc_is_handing pm_is_handing an_is_handing cd_is_handing ct_is_handing), sl_is_handing⟩)
    (c_is_handing : PySem.W.codeIn K cd_is_handing "is_handing" = true)
    (k_is_handing : PySem.W.keepIn K (.ref f_is_handing) = true)
    (a_are_handings : PySem.W.nsIn K mainGlobals "are_handings" = some (some (.ref f_are_handings)))
    (l_are_handings : K.lookup f_are_handings = some ⟨oc_are_handings, od_are_handings, .func (PySem.W.fnOf "are_handings" "are_handings" (defArgs s_are_handings) (defBody s_are_handings) (defScope s_are_handings) .none kV_are_handings dc_are_handings pm_are_handings an_are_handings cd_are_handings ct_are_handings), sl_are_handings⟩)
    (c_are_handings : PySem.W.codeIn K cd_are_handings "are_handings" = true)
    (k_are_handings : PySem.W.keepIn K (.ref f_are_handings) = true)
    (a_Web_init : PySem.W.findIn K (.ref A_Web) "__init__" = some (some (.ref f_Web_init)))
    (i_Web_init : PySem.W.isFn K (.ref f_Web_init) = true)
    (l_Web_init : K.lookup f_Web_init = some ⟨oc_Web_init, od_Web_init, .func (PySem.W.fnOf "__init__" "Web.__init__" (defArgs s_Web_init) (defBody s_Web_init) (defScope s_Web_init) .none kV_Web_init dc_Web_init pm_Web_init an_Web_init cd_Web_init ct_Web_init), sl_Web_init⟩)
    (c_Web_init : PySem.W.codeIn K cd_Web_init "Web.__init__" = true)
    (k_Web_init : PySem.W.keepIn K (.ref f_Web_init) = true)
    (a_law_web : PySem.W.nsIn K mainGlobals "_law_web" = some (some (.ref f_law_web)))
    (l_law_web : K.lookup f_law_web = some ⟨oc_law_web, od_law_web, .func (PySem.W.fnOf "_law_web" "_law_web" (defArgs s_law_web) (defBody s_law_web) (defScope s_law_web) .none kV_law_web dc_law_web pm_law_web an_law_web cd_law_web ct_law_web), sl_law_web⟩)
    (c_law_web : PySem.W.codeIn K cd_law_web "_law_web" = true)
    (k_law_web : PySem.W.keepIn K (.ref f_law_web) = true)
    (a_need_web : PySem.W.nsIn K mainGlobals "need_web" = some (some (.ref f_need_web)))
    (l_need_web : K.lookup f_need_web = some ⟨oc_need_web, od_need_web, .func (PySem.W.fnOf "need_web" "need_web" (defArgs s_need_web) (defBody s_need_web) (defScope s_need_web) .none kV_need_web dc_need_web pm_need_web an_need_web cd_need_web ct_need_web), sl_need_web⟩)
    (c_need_web : PySem.W.codeIn K cd_need_web "need_web" = true)
    (k_need_web : PySem.W.keepIn K (.ref f_need_web) = true)
    (a_takers_of : PySem.W.nsIn K mainGlobals "takers_of" = some (some (.ref f_takers_of)))
    (l_takers_of : K.lookup f_takers_of = some ⟨oc_takers_of, od_takers_of, .func (PySem.W.fnOf "takers_of" "takers_of" (defArgs s_takers_of) (defBody s_takers_of) (defScope s_takers_of) .none kV_takers_of dc_takers_of pm_takers_of an_takers_of cd_takers_of ct_takers_of), sl_takers_of⟩)
    (c_takers_of : PySem.W.codeIn K cd_takers_of "takers_of" = true)
    (k_takers_of : PySem.W.keepIn K (.ref f_takers_of) = true)
    (a_shorter_first : PySem.W.nsIn K mainGlobals "shorter_first" = some (some (.ref f_shorter_first)))
    (l_shorter_first : K.lookup f_shorter_first = some ⟨oc_shorter_first, od_shorter_first, .func (PySem.W.fnOf "shorter_first" "shorter_first" (defArgs s_shorter_first) (defBody s_shorter_first) (defScope s_shorter_first) .none kV_shorter_first dc_shorter_first pm_shorter_first an_shorter_first cd_shorter_first ct_shorter_first), sl_shorter_first⟩)
    (c_shorter_first : PySem.W.codeIn K cd_shorter_first "shorter_first" = true)
    (k_shorter_first : PySem.W.keepIn K (.ref f_shorter_first) = true)
    (a_rings_of : PySem.W.nsIn K mainGlobals "rings_of" = some (some (.ref f_rings_of)))
    (l_rings_of : K.lookup f_rings_of = some ⟨oc_rings_of, od_rings_of, .func (PySem.W.fnOf "rings_of" "rings_of" (defArgs s_rings_of) (defBody s_rings_of) (defScope s_rings_of) .none kV_rings_of dc_rings_of pm_rings_of an_rings_of cd_rings_of ct_rings_of), sl_rings_of⟩)
    (c_rings_of : PySem.W.codeIn K cd_rings_of "rings_of" = true)
    (k_rings_of : PySem.W.keepIn K (.ref f_rings_of) = true)
    (a_rings : PySem.W.nsIn K mainGlobals "rings" = some (some (.ref f_rings)))
    (l_rings : K.lookup f_rings = some ⟨oc_rings, od_rings, .func (PySem.W.fnOf "rings" "rings" (defArgs s_rings) (defBody s_rings) (defScope s_rings) .none kV_rings dc_rings pm_rings an_rings cd_rings ct_rings), sl_rings⟩)
    (c_rings : PySem.W.codeIn K cd_rings "rings" = true)
    (k_rings : PySem.W.keepIn K (.ref f_rings) = true)
    (a_Web_with_handing : PySem.W.findIn K (.ref A_Web) "with_handing" = some (some (.ref f_Web_with_handing)))
    (i_Web_with_handing : PySem.W.isFn K (.ref f_Web_with_handing) = true)
    (l_Web_with_handing : K.lookup f_Web_with_handing = some ⟨oc_Web_with_handing, od_Web_with_handing, .func (PySem.W.fnOf "with_handing" "Web.with_handing" (defArgs s_Web_with_handing) (defBody s_Web_with_handing) (defScope s_Web_with_handing) .none kV_Web_with_handing dc_Web_with_handing pm_Web_with_handing an_Web_with_handing cd_Web_with_handing ct_Web_with_handing), sl_Web_with_handing⟩)
    (c_Web_with_handing : PySem.W.codeIn K cd_Web_with_handing "Web.with_handing" = true)
    (k_Web_with_handing : PySem.W.keepIn K (.ref f_Web_with_handing) = true)
    (a_need_handing : PySem.W.nsIn K mainGlobals "need_handing" = some (some (.ref f_need_handing)))
    (l_need_handing : K.lookup f_need_handing = some ⟨oc_need_handing, od_need_handing, .func (PySem.W.fnOf "need_handing" "need_handing" (defArgs s_need_handing) (defBody s_need_handing) (defScope s_need_handing) .none kV_need_handing dc_need_handing pm_need_handing an_need_handing cd_need_handing ct_need_handing), sl_need_handing⟩)
    (c_need_handing : PySem.W.codeIn K cd_need_handing "need_handing" = true)
    (k_need_handing : PySem.W.keepIn K (.ref f_need_handing) = true)
    (a_Web_without : PySem.W.findIn K (.ref A_Web) "without" = some (some (.ref f_Web_without)))
    (i_Web_without : PySem.W.isFn K (.ref f_Web_without) = true)
    (l_Web_without : K.lookup f_Web_without = some ⟨oc_Web_without, od_Web_without, .func (PySem.W.fnOf "without" "Web.without" (defArgs s_Web_without) (defBody s_Web_without) (defScope s_Web_without) .none kV_Web_without dc_Web_without pm_Web_without an_Web_without cd_Web_without ct_Web_without), sl_Web_without⟩)
    (c_Web_without : PySem.W.codeIn K cd_Web_without "Web.without" = true)
    (k_Web_without : PySem.W.keepIn K (.ref f_Web_without) = true)
    (a_law : PySem.W.nsIn K mainGlobals "law" = some (some (.ref f_law)))
    (l_law : K.lookup f_law = some ⟨oc_law, od_law, .func (PySem.W.fnOf "law" "law" (defArgs s_law) (defBody s_law) (defScope s_law) .none kV_law dc_law pm_law an_law cd_law ct_law), sl_law⟩)
    (c_law : PySem.W.codeIn K cd_law "law" = true)
    (k_law : PySem.W.keepIn K (.ref f_law) = true)
    (z_abs : PySem.W.nsIn K mainGlobals "abs" = some none)
    (z_all : PySem.W.nsIn K mainGlobals "all" = some none)
    (z_int : PySem.W.nsIn K mainGlobals "int" = some none)
    (z_isinstance : PySem.W.nsIn K mainGlobals "isinstance" = some none)
    (z_len : PySem.W.nsIn K mainGlobals "len" = some none)
    (z_list : PySem.W.nsIn K mainGlobals "list" = some none)
    (z_max : PySem.W.nsIn K mainGlobals "max" = some none)
    (z_min : PySem.W.nsIn K mainGlobals "min" = some none)
    (z_range : PySem.W.nsIn K mainGlobals "range" = some none)
    (z_repr : PySem.W.nsIn K mainGlobals "repr" = some none)
    (z_sorted : PySem.W.nsIn K mainGlobals "sorted" = some none)
    (z_str : PySem.W.nsIn K mainGlobals "str" = some none)
    (z_tuple : PySem.W.nsIn K mainGlobals "tuple" = some none)
    (q_LEAST_PARTIES : PySem.W.nsIn K mainGlobals "LEAST_PARTIES" = some (some (.int 2 tk_LEAST_PARTIES)))
    (q_LETTERS : PySem.W.nsIn K mainGlobals "LETTERS" = some (some (.str "abcdefghijklmnopqrstuvwxyz" tk_LETTERS)))
    (q_LONGEST : PySem.W.nsIn K mainGlobals "LONGEST" = some (some (.int 6 tk_LONGEST)))
    (q_MOST_HANDINGS : PySem.W.nsIn K mainGlobals "MOST_HANDINGS" = some (some (.int 12 tk_MOST_HANDINGS)))
    (q_MOST_PARTIES : PySem.W.nsIn K mainGlobals "MOST_PARTIES" = some (some (.int 6 tk_MOST_PARTIES))) : Tied P K mg := ⟨{
    hK := rfl
    hT := rfl
    n_abs := PySem.W.mg_none_of X Gn z_abs
    n_all := PySem.W.mg_none_of X Gn z_all
    n_int := PySem.W.mg_none_of X Gn z_int
    n_isinstance := PySem.W.mg_none_of X Gn z_isinstance
    n_len := PySem.W.mg_none_of X Gn z_len
    n_list := PySem.W.mg_none_of X Gn z_list
    n_max := PySem.W.mg_none_of X Gn z_max
    n_min := PySem.W.mg_none_of X Gn z_min
    n_range := PySem.W.mg_none_of X Gn z_range
    n_repr := PySem.W.mg_none_of X Gn z_repr
    n_sorted := PySem.W.mg_none_of X Gn z_sorted
    n_str := PySem.W.mg_none_of X Gn z_str
    n_tuple := PySem.W.mg_none_of X Gn z_tuple
    c_LEAST_PARTIES := ⟨_, PySem.W.mg_of X Gn q_LEAST_PARTIES, ⟨_, rfl⟩⟩
    c_LETTERS := ⟨_, PySem.W.mg_of X Gn q_LETTERS, ⟨_, rfl⟩⟩
    c_LONGEST := ⟨_, PySem.W.mg_of X Gn q_LONGEST, ⟨_, rfl⟩⟩
    c_MOST_HANDINGS := ⟨_, PySem.W.mg_of X Gn q_MOST_HANDINGS, ⟨_, rfl⟩⟩
    c_MOST_PARTIES := ⟨_, PySem.W.mg_of X Gn q_MOST_PARTIES, ⟨_, rfl⟩⟩
    f_law_begin := f_law_begin
    fd_law_begin := _
    F_law_begin := fun_mk (st := s_law_begin) l_law_begin c_law_begin k_law_begin
    b_law_begin := (fun_mk (st := s_law_begin) l_law_begin c_law_begin k_law_begin).binds (ps := ["_law_script"]) fun _ _ _ _ _ _ us hl => match us, hl with | [_], _ => rfl
    g_law_begin := PySem.W.mg_of X Gn a_law_begin
    f_law_blend := f_law_blend
    fd_law_blend := _
    F_law_blend := fun_mk (st := s_law_blend) l_law_blend c_law_blend k_law_blend
    b_law_blend := (fun_mk (st := s_law_blend) l_law_blend c_law_blend k_law_blend).binds (ps := ["_law_draw"]) fun _ _ _ _ _ _ us hl => match us, hl with | [_], _ => rfl
    g_law_blend := PySem.W.mg_of X Gn a_law_blend
    f_law_take := f_law_take
    fd_law_take := _
    F_law_take := fun_mk (st := s_law_take) l_law_take c_law_take k_law_take
    b_law_take := (fun_mk (st := s_law_take) l_law_take c_law_take k_law_take).binds (ps := ["_law_draw", "_law_size"]) fun _ _ _ _ _ _ us hl => match us, hl with | [_, _], _ => rfl
    g_law_take := PySem.W.mg_of X Gn a_law_take
    f_law_pick := f_law_pick
    fd_law_pick := _
    F_law_pick := fun_mk (st := s_law_pick) l_law_pick c_law_pick k_law_pick
    b_law_pick := (fun_mk (st := s_law_pick) l_law_pick c_law_pick k_law_pick).binds (ps := ["_law_draw", "_law_some"]) fun _ _ _ _ _ _ us hl => match us, hl with | [_, _], _ => rfl
    g_law_pick := PySem.W.mg_of X Gn a_law_pick
    f_law_names := f_law_names
    fd_law_names := _
    F_law_names := fun_mk (st := s_law_names) l_law_names c_law_names k_law_names
    b_law_names := (fun_mk (st := s_law_names) l_law_names c_law_names k_law_names).binds (ps := ["_law_draw", "_law_size"]) fun _ _ _ _ _ _ us hl => match us, hl with | [_, _], _ => rfl
    g_law_names := PySem.W.mg_of X Gn a_law_names
    f_law_mixed := f_law_mixed
    fd_law_mixed := _
    F_law_mixed := fun_mk (st := s_law_mixed) l_law_mixed c_law_mixed k_law_mixed
    b_law_mixed := (fun_mk (st := s_law_mixed) l_law_mixed c_law_mixed k_law_mixed).binds (ps := ["_law_draw", "_law_some"]) fun _ _ _ _ _ _ us hl => match us, hl with | [_, _], _ => rfl
    g_law_mixed := PySem.W.mg_of X Gn a_law_mixed
    f_law_pairs := f_law_pairs
    fd_law_pairs := _
    F_law_pairs := fun_mk (st := s_law_pairs) l_law_pairs c_law_pairs k_law_pairs
    b_law_pairs := (fun_mk (st := s_law_pairs) l_law_pairs c_law_pairs k_law_pairs).binds (ps := ["_law_some"]) fun _ _ _ _ _ _ us hl => match us, hl with | [_], _ => rfl
    g_law_pairs := PySem.W.mg_of X Gn a_law_pairs
    f_law_model := f_law_model
    fd_law_model := _
    F_law_model := fun_mk (st := s_law_model) l_law_model c_law_model k_law_model
    b_law_model := (fun_mk (st := s_law_model) l_law_model c_law_model k_law_model).binds (ps := ["_law_draw", "_law_most", "_law_many"]) fun _ _ _ _ _ _ us hl => match us, hl with | [_, _, _], _ => rfl
    g_law_model := PySem.W.mg_of X Gn a_law_model
    f_law_before := f_law_before
    fd_law_before := _
    F_law_before := fun_mk (st := s_law_before) l_law_before c_law_before k_law_before
    b_law_before := (fun_mk (st := s_law_before) l_law_before c_law_before k_law_before).binds (ps := ["_law_model_here", "_law_dot"]) fun _ _ _ _ _ _ us hl => match us, hl with | [_, _], _ => rfl
    g_law_before := PySem.W.mg_of X Gn a_law_before
    f_law_next := f_law_next
    fd_law_next := _
    F_law_next := fun_mk (st := s_law_next) l_law_next c_law_next k_law_next
    b_law_next := (fun_mk (st := s_law_next) l_law_next c_law_next k_law_next).binds (ps := ["_law_model_here", "_law_dot"]) fun _ _ _ _ _ _ us hl => match us, hl with | [_, _], _ => rfl
    g_law_next := PySem.W.mg_of X Gn a_law_next
    f_law_shorter := f_law_shorter
    fd_law_shorter := _
    F_law_shorter := fun_mk (st := s_law_shorter) l_law_shorter c_law_shorter k_law_shorter
    b_law_shorter := (fun_mk (st := s_law_shorter) l_law_shorter c_law_shorter k_law_shorter).binds (ps := ["_law_some"]) fun _ _ _ _ _ _ us hl => match us, hl with | [_], _ => rfl
    g_law_shorter := PySem.W.mg_of X Gn a_law_shorter
    f_law_ways := f_law_ways
    fd_law_ways := _
    F_law_ways := fun_mk (st := s_law_ways) l_law_ways c_law_ways k_law_ways
    b_law_ways := (fun_mk (st := s_law_ways) l_law_ways c_law_ways k_law_ways).binds (ps := ["_law_model_here", "_law_start", "_law_goal"]) fun _ _ _ _ _ _ us hl => match us, hl with | [_, _, _], _ => rfl
    g_law_ways := PySem.W.mg_of X Gn a_law_ways
    f_law_rings := f_law_rings
    fd_law_rings := _
    F_law_rings := fun_mk (st := s_law_rings) l_law_rings c_law_rings k_law_rings
    b_law_rings := (fun_mk (st := s_law_rings) l_law_rings c_law_rings k_law_rings).binds (ps := ["_law_model_here"]) fun _ _ _ _ _ _ us hl => match us, hl with | [_], _ => rfl
    g_law_rings := PySem.W.mg_of X Gn a_law_rings
    f_is_list := f_is_list
    fd_is_list := _
    F_is_list := fun_mk (st := s_is_list) l_is_list c_is_list k_is_list
    b_is_list := (fun_mk (st := s_is_list) l_is_list c_is_list k_is_list).binds (ps := ["thing"]) fun _ _ _ _ _ _ us hl => match us, hl with | [_], _ => rfl
    g_is_list := PySem.W.mg_of X Gn a_is_list
    f_is_name := f_is_name
    fd_is_name := _
    F_is_name := fun_mk (st := s_is_name) l_is_name c_is_name k_is_name
    b_is_name := (fun_mk (st := s_is_name) l_is_name c_is_name k_is_name).binds (ps := ["thing"]) fun _ _ _ _ _ _ us hl => match us, hl with | [_], _ => rfl
    g_is_name := PySem.W.mg_of X Gn a_is_name
    f_are_unlike := f_are_unlike
    fd_are_unlike := _
    F_are_unlike := fun_mk (st := s_are_unlike) l_are_unlike c_are_unlike k_are_unlike
    b_are_unlike := (fun_mk (st := s_are_unlike) l_are_unlike c_are_unlike k_are_unlike).binds (ps := ["some"]) fun _ _ _ _ _ _ us hl => match us, hl with | [_], _ => rfl
    g_are_unlike := PySem.W.mg_of X Gn a_are_unlike
    f_are_parties := f_are_parties
    fd_are_parties := _
    F_are_parties := fun_mk (st := s_are_parties) l_are_parties c_are_parties k_are_parties
    b_are_parties := (fun_mk (st := s_are_parties) l_are_parties c_are_parties k_are_parties).binds (ps := ["thing"]) fun _ _ _ _ _ _ us hl => match us, hl with | [_], _ => rfl
    g_are_parties := PySem.W.mg_of X Gn a_are_parties
    f_is_handing := f_is_handing
    fd_is_handing := _
    F_is_handing := fun_mk (st := s_is_handing) l_is_handing c_is_handing k_is_handing
    b_is_handing := (fun_mk (st := s_is_handing) l_is_handing c_is_handing k_is_handing).binds (ps := ["parties", "thing"]) fun _ _ _ _ _ _ us hl => match us, hl with | [_, _], _ => rfl
    g_is_handing := PySem.W.mg_of X Gn a_is_handing
    f_are_handings := f_are_handings
    fd_are_handings := _
    F_are_handings := fun_mk (st := s_are_handings) l_are_handings c_are_handings k_are_handings
    b_are_handings := (fun_mk (st := s_are_handings) l_are_handings c_are_handings k_are_handings).binds (ps := ["parties", "thing"]) fun _ _ _ _ _ _ us hl => match us, hl with | [_, _], _ => rfl
    g_are_handings := PySem.W.mg_of X Gn a_are_handings
    f_Web_init := f_Web_init
    fd_Web_init := _
    F_Web_init := fun_mk (st := s_Web_init) l_Web_init c_Web_init k_Web_init
    b_Web_init := (fun_mk (st := s_Web_init) l_Web_init c_Web_init k_Web_init).binds (ps := ["self", "parties", "handings"]) fun _ _ _ _ _ _ us hl => match us, hl with | [_, _, _], _ => rfl
    f_law_web := f_law_web
    fd_law_web := _
    F_law_web := fun_mk (st := s_law_web) l_law_web c_law_web k_law_web
    b_law_web := (fun_mk (st := s_law_web) l_law_web c_law_web k_law_web).binds (ps := ["_law_model_here"]) fun _ _ _ _ _ _ us hl => match us, hl with | [_], _ => rfl
    g_law_web := PySem.W.mg_of X Gn a_law_web
    f_need_web := f_need_web
    fd_need_web := _
    F_need_web := fun_mk (st := s_need_web) l_need_web c_need_web k_need_web
    b_need_web := (fun_mk (st := s_need_web) l_need_web c_need_web k_need_web).binds (ps := ["web"]) fun _ _ _ _ _ _ us hl => match us, hl with | [_], _ => rfl
    g_need_web := PySem.W.mg_of X Gn a_need_web
    f_takers_of := f_takers_of
    fd_takers_of := _
    F_takers_of := fun_mk (st := s_takers_of) l_takers_of c_takers_of k_takers_of
    b_takers_of := (fun_mk (st := s_takers_of) l_takers_of c_takers_of k_takers_of).binds (ps := ["web", "party"]) fun _ _ _ _ _ _ us hl => match us, hl with | [_, _], _ => rfl
    g_takers_of := PySem.W.mg_of X Gn a_takers_of
    f_shorter_first := f_shorter_first
    fd_shorter_first := _
    F_shorter_first := fun_mk (st := s_shorter_first) l_shorter_first c_shorter_first k_shorter_first
    b_shorter_first := (fun_mk (st := s_shorter_first) l_shorter_first c_shorter_first k_shorter_first).binds (ps := ["some"]) fun _ _ _ _ _ _ us hl => match us, hl with | [_], _ => rfl
    g_shorter_first := PySem.W.mg_of X Gn a_shorter_first
    f_rings_of := f_rings_of
    fd_rings_of := _
    F_rings_of := fun_mk (st := s_rings_of) l_rings_of c_rings_of k_rings_of
    b_rings_of := (fun_mk (st := s_rings_of) l_rings_of c_rings_of k_rings_of).binds (ps := ["web"]) fun _ _ _ _ _ _ us hl => match us, hl with | [_], _ => rfl
    g_rings_of := PySem.W.mg_of X Gn a_rings_of
    f_rings := f_rings
    fd_rings := _
    F_rings := fun_mk (st := s_rings) l_rings c_rings k_rings
    b_rings := (fun_mk (st := s_rings) l_rings c_rings k_rings).binds (ps := ["web"]) fun _ _ _ _ _ _ us hl => match us, hl with | [_], _ => rfl
    g_rings := PySem.W.mg_of X Gn a_rings
    f_Web_with_handing := f_Web_with_handing
    fd_Web_with_handing := _
    F_Web_with_handing := fun_mk (st := s_Web_with_handing) l_Web_with_handing c_Web_with_handing k_Web_with_handing
    b_Web_with_handing := (fun_mk (st := s_Web_with_handing) l_Web_with_handing c_Web_with_handing k_Web_with_handing).binds (ps := ["self", "handing"]) fun _ _ _ _ _ _ us hl => match us, hl with | [_, _], _ => rfl
    f_need_handing := f_need_handing
    fd_need_handing := _
    F_need_handing := fun_mk (st := s_need_handing) l_need_handing c_need_handing k_need_handing
    b_need_handing := (fun_mk (st := s_need_handing) l_need_handing c_need_handing k_need_handing).binds (ps := ["web", "handing"]) fun _ _ _ _ _ _ us hl => match us, hl with | [_, _], _ => rfl
    g_need_handing := PySem.W.mg_of X Gn a_need_handing
    f_Web_without := f_Web_without
    fd_Web_without := _
    F_Web_without := fun_mk (st := s_Web_without) l_Web_without c_Web_without k_Web_without
    b_Web_without := (fun_mk (st := s_Web_without) l_Web_without c_Web_without k_Web_without).binds (ps := ["self", "handing"]) fun _ _ _ _ _ _ us hl => match us, hl with | [_, _], _ => rfl
    f_law := f_law
    fd_law := _
    F_law := fun_mk (st := s_law) l_law c_law k_law
    b_law := (fun_mk (st := s_law) l_law c_law k_law).binds (ps := ["_law_script"]) fun _ _ _ _ _ _ us hl => match us, hl with | [_], _ => rfl
    g_law := PySem.W.mg_of X Gn a_law
    kb_rings_0_web := kb_of (fun_mk (st := s_rings) l_rings c_rings k_rings) fun _ _ _ _ _ _ us ws h1 h2 => match us, ws, h1, h2 with | [], [_], _, _ => rfl
    A_Web := A_Web
    gc_Web := PySem.W.mg_of X Gn aC_Web
    cm_Web := cm_at (PySem.W.mg_of X Gn aC_Web)
    cl_Web := ⟨pg_Web, hd_Web, po_Web, sa_Web⟩
    me_Web_with_handing := ⟨a_Web_with_handing, i_Web_with_handing, k_Web_with_handing⟩
    me_Web_without := ⟨a_Web_without, i_Web_without, k_Web_without⟩
    mk_Web := ⟨mk_Web, a_Web_init, i_Web_init, kc_Web⟩
    a_own_handings := (fld_cons (cm_at (PySem.W.mg_of X Gn aC_Web)) ⟨pg_Web, hd_Web, po_Web, sa_Web⟩ na_own_handings_50 fld_nil)
    a_own_parties := (fld_cons (cm_at (PySem.W.mg_of X Gn aC_Web)) ⟨pg_Web, hd_Web, po_Web, sa_Web⟩ na_own_parties_50 fld_nil)
    isi_Web := (isi_cons (cm_at (PySem.W.mg_of X Gn aC_Web)) (clsI_mk pg_Web hd_Web po_Web sa_Web ha_Web hn ht hm_Web) kit_self isi_nil) }, PySem.W.mg_of X Gn a_law, fun s u => .of_eq rfl⟩
end Lk05
open PySem PySem.W PyProof.Rows
set_option maxHeartbeats 0 in
theorem PySem.Challenge.cw_handlocks_k05_rings_told_holds : PySem.Challenge.rw_handlocks_k05_rings_told.Holds := by
  w_on; o_law; k_head; (case hw => w_witness2)
  k_fill
  refine VL.lawWalk (l := PySem.Challenge.rw_handlocks_k05_rings_told) (n := 63) (k := 6) (x := "_law_script") (GG := fun wd mg => Lk05.GG _ mg) (m := Lk05.D_law) rfl (by decide) rfl ⟨rfl, by decide, by decide⟩ (fun w h Y => PySem.W.kIn_of Y) (fun _ _ => ⟨rfl, rfl⟩) ?F Lk05.plain
  case F =>
    intro w mg fa h KX G hmg
    refine Lk05.tied hmg (?_ : Lk05.Tied _ _ mg)
    refine' Lk05.tie_mk KX G ?aC_Web ?pg_Web ?hd_Web ?po_Web ?sa_Web ?ha_Web ?hm_Web ?mk_Web ?kc_Web ?hn ?ht ?na_own_handings_50 ?na_own_parties_50 ?a_law_begin ?l_law_begin ?c_law_begin ?k_law_begin ?a_law_blend ?l_law_blend ?c_law_blend ?k_law_blend ?a_law_take ?l_law_take ?c_law_take ?k_law_take ?a_law_pick ?l_law_pick ?c_law_pick ?k_law_pick ?a_law_names ?l_law_names ?c_law_names ?k_law_names ?a_law_mixed ?l_law_mixed ?c_law_mixed ?k_law_mixed ?a_law_pairs ?l_law_pairs ?c_law_pairs ?k_law_pairs ?a_law_model ?l_law_model ?c_law_model ?k_law_model ?a_law_before ?l_law_before ?c_law_before ?k_law_before ?a_law_next ?l_law_next ?c_law_next ?k_law_next ?a_law_shorter ?l_law_shorter ?c_law_shorter ?k_law_shorter ?a_law_ways ?l_law_ways ?c_law_ways ?k_law_ways ?a_law_rings ?l_law_rings ?c_law_rings ?k_law_rings ?a_is_list ?l_is_list ?c_is_list ?k_is_list ?a_is_name ?l_is_name ?c_is_name ?k_is_name ?a_are_unlike ?l_are_unlike ?c_are_unlike ?k_are_unlike ?a_are_parties ?l_are_parties ?c_are_parties ?k_are_parties ?a_is_handing ?l_is_handing ?c_is_handing ?k_is_handing ?a_are_handings ?l_are_handings ?c_are_handings ?k_are_handings ?a_Web_init ?i_Web_init ?l_Web_init ?c_Web_init ?k_Web_init ?a_law_web ?l_law_web ?c_law_web ?k_law_web ?a_need_web ?l_need_web ?c_need_web ?k_need_web ?a_takers_of ?l_takers_of ?c_takers_of ?k_takers_of ?a_shorter_first ?l_shorter_first ?c_shorter_first ?k_shorter_first ?a_rings_of ?l_rings_of ?c_rings_of ?k_rings_of ?a_rings ?l_rings ?c_rings ?k_rings ?a_Web_with_handing ?i_Web_with_handing ?l_Web_with_handing ?c_Web_with_handing ?k_Web_with_handing ?a_need_handing ?l_need_handing ?c_need_handing ?k_need_handing ?a_Web_without ?i_Web_without ?l_Web_without ?c_Web_without ?k_Web_without ?a_law ?l_law ?c_law ?k_law ?z_abs ?z_all ?z_int ?z_isinstance ?z_len ?z_list ?z_max ?z_min ?z_range ?z_repr ?z_sorted ?z_str ?z_tuple ?q_LEAST_PARTIES ?q_LETTERS ?q_LONGEST ?q_MOST_HANDINGS ?q_MOST_PARTIES
    (case aC_Web => k_is)
    (case pg_Web => k_is)
    (case hd_Web => k_is)
    (case po_Web => k_is)
    (case sa_Web => k_is)
    (case ha_Web => k_is)
    (case hm_Web => k_is)
    (case mk_Web => k_is)
    (case kc_Web => k_is)
    (case hn => k_is)
    (case ht => k_is)
    (case na_own_handings_50 => k_is)
    (case na_own_parties_50 => k_is)
    (case a_law_begin => k_is)
    (case l_law_begin => k_is)
    (case c_law_begin => k_is)
    (case k_law_begin => k_is)
    (case a_law_blend => k_is)
    (case l_law_blend => k_is)
    (case c_law_blend => k_is)
    (case k_law_blend => k_is)
    (case a_law_take => k_is)
    (case l_law_take => k_is)
    (case c_law_take => k_is)
    (case k_law_take => k_is)
    (case a_law_pick => k_is)
    (case l_law_pick => k_is)
    (case c_law_pick => k_is)
    (case k_law_pick => k_is)
    (case a_law_names => k_is)
    (case l_law_names => k_is)
    (case c_law_names => k_is)
    (case k_law_names => k_is)
    (case a_law_mixed => k_is)
    (case l_law_mixed => k_is)
    (case c_law_mixed => k_is)
    (case k_law_mixed => k_is)
    (case a_law_pairs => k_is)
    (case l_law_pairs => k_is)
    (case c_law_pairs => k_is)
    (case k_law_pairs => k_is)
    (case a_law_model => k_is)
    (case l_law_model => k_is)
    (case c_law_model => k_is)
    (case k_law_model => k_is)
    (case a_law_before => k_is)
    (case l_law_before => k_is)
    (case c_law_before => k_is)
    (case k_law_before => k_is)
    (case a_law_next => k_is)
    (case l_law_next => k_is)
    (case c_law_next => k_is)
    (case k_law_next => k_is)
    (case a_law_shorter => k_is)
    (case l_law_shorter => k_is)
    (case c_law_shorter => k_is)
    (case k_law_shorter => k_is)
    (case a_law_ways => k_is)
    (case l_law_ways => k_is)
    (case c_law_ways => k_is)
    (case k_law_ways => k_is)
    (case a_law_rings => k_is)
    (case l_law_rings => k_is)
    (case c_law_rings => k_is)
    (case k_law_rings => k_is)
    (case a_is_list => k_is)
    (case l_is_list => k_is)
    (case c_is_list => k_is)
    (case k_is_list => k_is)
    (case a_is_name => k_is)
    (case l_is_name => k_is)
    (case c_is_name => k_is)
    (case k_is_name => k_is)
    (case a_are_unlike => k_is)
    (case l_are_unlike => k_is)
    (case c_are_unlike => k_is)
    (case k_are_unlike => k_is)
    (case a_are_parties => k_is)
    (case l_are_parties => k_is)
    (case c_are_parties => k_is)
    (case k_are_parties => k_is)
    (case a_is_handing => k_is)
    (case l_is_handing => k_is)
    (case c_is_handing => k_is)
    (case k_is_handing => k_is)
    (case a_are_handings => k_is)
    (case l_are_handings => k_is)
    (case c_are_handings => k_is)
    (case k_are_handings => k_is)
    (case a_Web_init => k_is)
    (case i_Web_init => k_is)
    (case l_Web_init => k_is)
    (case c_Web_init => k_is)
    (case k_Web_init => k_is)
    (case a_law_web => k_is)
    (case l_law_web => k_is)
    (case c_law_web => k_is)
    (case k_law_web => k_is)
    (case a_need_web => k_is)
    (case l_need_web => k_is)
    (case c_need_web => k_is)
    (case k_need_web => k_is)
    (case a_takers_of => k_is)
    (case l_takers_of => k_is)
    (case c_takers_of => k_is)
    (case k_takers_of => k_is)
    (case a_shorter_first => k_is)
    (case l_shorter_first => k_is)
    (case c_shorter_first => k_is)
    (case k_shorter_first => k_is)
    (case a_rings_of => k_is)
    (case l_rings_of => k_is)
    (case c_rings_of => k_is)
    (case k_rings_of => k_is)
    (case a_rings => k_is)
    (case l_rings => k_is)
    (case c_rings => k_is)
    (case k_rings => k_is)
    (case a_Web_with_handing => k_is)
    (case i_Web_with_handing => k_is)
    (case l_Web_with_handing => k_is)
    (case c_Web_with_handing => k_is)
    (case k_Web_with_handing => k_is)
    (case a_need_handing => k_is)
    (case l_need_handing => k_is)
    (case c_need_handing => k_is)
    (case k_need_handing => k_is)
    (case a_Web_without => k_is)
    (case i_Web_without => k_is)
    (case l_Web_without => k_is)
    (case c_Web_without => k_is)
    (case k_Web_without => k_is)
    (case a_law => k_is)
    (case l_law => k_is)
    (case c_law => k_is)
    (case k_law => k_is)
    (case z_abs => k_is)
    (case z_all => k_is)
    (case z_int => k_is)
    (case z_isinstance => k_is)
    (case z_len => k_is)
    (case z_list => k_is)
    (case z_max => k_is)
    (case z_min => k_is)
    (case z_range => k_is)
    (case z_repr => k_is)
    (case z_sorted => k_is)
    (case z_str => k_is)
    (case z_tuple => k_is)
    (case q_LEAST_PARTIES => k_is)
    (case q_LETTERS => k_is)
    (case q_LONGEST => k_is)
    (case q_MOST_HANDINGS => k_is)
    (case q_MOST_PARTIES => k_is)
