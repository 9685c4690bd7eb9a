import PyProof.Rows.All
import Wide.All
import OpenK.AllK
import Wide.FinOn
import KE.KStateDown
import HandS.ForMost
import HandS.ForExc
import HandS.IsInst
import HandS.Walk
import HandS.Gcd
import HandS.Wide
import HandS.Conv
import HandS.CallSlots
import HandS.ExcInit
import HandS.TryMany
import HandS.Zip
import HandS.Deep
import HandS.TupAny
import HandS.TupMul
import HandS.WideBits
import HandS.Flow
import HandS.Lambda
import HandS.Nested
import HandS.ExcField
import HandS.EndTab
import HandS.Style
import KE.GoesNew
import KE.GoesMore
import HandS.Defaults
import HandS.Head0
import HandS.Head1
import HandS.Head2
import HandS.Head3
import HandS.HeadEnd
import HandS.HeadHook1
import HandS.HeadHook2
import PySem.Challenge.RW_webrooms_k32_boxes_made
set_option Elab.async false
set_option linter.all false
set_option maxRecDepth 100000
set_option autoImplicit false
namespace DL
open PySem PySem.Spec PyProof.Rows L2

/-! ### the classes by number: plain ones, their fields by number; errors, their fields' names -/
def fname : Nat → Str
  | 0 => "field"
  | 1 => "widths"
  | 2 => "ties"
  | 3 => "row"
  | 4 => "weights"
  | 5 => "rows"
  | 6 => "measure"
  | 7 => "reading"
  | 8 => "tables"
  | 9 => "places"
  | 10 => "ends"
  | 11 => "readings"
  | 12 => "heads"
  | 13 => "made"
  | 14 => "taken"
  | 15 => "free"
  | 16 => "heights"
  | 17 => "table"
  | 18 => "way"
  | 19 => "lot"
  | 20 => "rooms"
  | 21 => "faces"
  | 22 => "face"
  | 23 => "bars"
  | 24 => "bases"
  | 25 => "first"
  | 26 => "roots"
  | 27 => "now"
  | 28 => "past"
  | 29 => "later"
  | 30 => "depth"
  | _ => ""
def cfl : Nat → List Nat
  | 0 => [0, 1, 2]
  | 1 => [3]
  | 2 => [4]
  | 3 => [5]
  | 4 => [6]
  | 5 => [7]
  | 6 => [6]
  | 7 => [1, 8]
  | 8 => [0, 9, 10, 11, 12, 13, 14, 15]
  | 9 => [7, 10]
  | 10 => [5]
  | 11 => [10]
  | 12 => [7]
  | 13 => [10, 16]
  | 14 => [0, 1, 5]
  | 15 => [4]
  | 16 => [6]
  | 17 => [17]
  | 18 => [7]
  | 19 => [6]
  | 20 => [8]
  | 21 => [18]
  | 22 => [9, 2]
  | 23 => [19]
  | 24 => [18]
  | 25 => [20, 21]
  | 26 => [5]
  | 27 => [6]
  | 28 => [22]
  | 29 => [23, 24]
  | 30 => [25, 5]
  | 31 => [26]
  | 32 => [3]
  | 33 => [17]
  | 34 => [7]
  | 35 => [7, 9]
  | 36 => [0, 1, 2]
  | 37 => [27, 28, 29, 30]
  | _ => []
def efl : Nat → List Str
  | 0 => ["what", "number"]
  | 1 => ["what", "value"]
  | 2 => ["row"]
  | 3 => ["table"]
  | 4 => ["lot"]
  | 5 => ["what"]
  | 6 => ["what", "many", "limit"]
  | 7 => ["name"]
  | 8 => ["name"]
  | 9 => ["name"]
  | 10 => ["line", "column"]
  | 11 => ["column"]
  | 12 => ["promise", "witness"]
  | 13 => []
  | 14 => []
  | _ => []
/-! ### data -/
inductive D where
  | non | bl (b : Bool) | int (i : Int) | str (x : Str)
  | tup (xs : List D) | lst (xs : List D)
  | ins (c : Nat) (xs : List D)
  | dct (ks : List Key) (xs : List D)
  | pen
  | clo (n : Nat)
  deriving Inhabited

/-- the pen of the laws' draws -/
structure Pen where
  cells : List Int
  at_ : Nat
  digits : Int
  count : Int
  fold : Int

structure Exc where
  c : Nat
  xs : List D

inductive Out (α : Type) where
  | ok (a : α) (p : Pen) | err (e : Exc) (p : Pen) | bad

abbrev M (α : Type) := Pen → Out α
def M.pure {α : Type} (a : α) : M α := fun p => .ok a p
def M.bad {α : Type} : M α := fun _ => .bad
def M.err {α : Type} (e : Exc) : M α := fun p => .err e p
def Out.bind {α β : Type} (o : Out α) (f : α → M β) : Out β := match o with
  | .ok a p => f a p
  | .err e p => .err e p
  | .bad => .bad
def M.bind {α β : Type} (m : M α) (f : α → M β) : M β := fun p => (m p).bind f
instance : Monad M where
  pure := M.pure
  bind := M.bind

inductive Slot where
  | me | un | shr (d : D) | own (xs : List D)
  deriving Inhabited
abbrev En := List Slot

/-! ### the law's world: the written part, where the classes stand, their fields' names, where the pen stands, the closures -/
/-- a lambda's words, the cells that it captured -/
structure LamD where
  qual : Str
  params : Arguments
  body : Expr
  scope : Scope
  cl : List (Str × Addr)
/-- the object at f is the lambda -/
def LamO (f : Addr) (d : LamD) (c : Addr) : HO := .ext fun h => ∃ pm ctv : Value, h.get? f = some (PySem.W.kla_obj "<lambda>" d.qual d.params d.body d.scope d.cl pm c ctv)
structure Wd where
  K : PySem.W.Frag
  cls : Nat → Option Addr
  ecls : Nat → Option Addr
  pa : Addr
  lam : Nat → LamD → Prop
  F0 : Hp
  tabs : List (Addr × Str)
  me : Addr := 0

variable {W : Wd}

/-! ### reading -/
mutual
inductive Rd (W : Wd) (F : Hp) : V → D → Prop
  | non : Rd W F .non .non
  | bl (b : Bool) : Rd W F (.bl b) (.bl b)
  | int (i : Int) : Rd W F (.int i) (.int i)
  | str (x : Str) : Rd W F (.str x) (.str x)
  | tup {a : Addr} {vs : List V} {xs : List D} : SqT W.K F a vs → RdA W F vs xs → Rd W F (.ref a) (.tup xs)
  | lst {a : Addr} {vs : List V} {xs : List D} : F a = some (.lst vs) → RdA W F vs xs → Rd W F (.ref a) (.lst xs)
  | ins {a C dx : Addr} {c : Nat} {fs : List (Str × V)} {xs : List D} : F a = some (.ins C dx fs) → F dx = some (.own a) → W.cls c = some C → fs.map (·.1) = (cfl c).map fname → RdA W F (fs.map (·.2)) xs → Rd W F (.ref a) (.ins c xs)
  | dct {a : Addr} {kvs : List (Key × V)} {ks : List Key} {xs : List D} : F a = some (.dK kvs) → kvs.map (·.1) = ks → RdA W F (kvs.map (·.2)) xs → Rd W F (.ref a) (.dct ks xs)
  | pen : Rd W F (.ref W.pa) .pen
  | clo {n : Nat} {f c : Addr} {d : LamD} : W.lam n d → F f = some (LamO f d c) → F c = some (LamX.CodeO c d.qual) → Rd W F (.ref f) (.clo n)
inductive RdA (W : Wd) (F : Hp) : List V → List D → Prop
  | nil : RdA W F [] []
  | cons {v : V} {d : D} {vs : List V} {xs : List D} : Rd W F v d → RdA W F vs xs → RdA W F (v :: vs) (d :: xs)
end

/-- a part of a heap -/
def Le (F F' : Hp) : Prop := ∀ a o, F a = some o → F' a = some o
theorem Le.refl (F : Hp) : Le F F := fun _ _ h => h
theorem Le.trans {F F1 F2 : Hp} (a : Le F F1) (b : Le F1 F2) : Le F F2 := fun c o h => b c o (a c o h)
theorem rdm {F F' : Hp} {a : Addr} {u : HO} (l : Le F F') (h : L2.Rd F a u) : L2.Rd F' a u := by
  rcases h with h | ⟨o, h⟩
  · exact .inl (l _ _ h)
  · exact .inr ⟨o, l _ _ h⟩
theorem sqL_mono {K : PySem.W.Frag} {F F' : Hp} {a : Addr} {vs : List V} (l : Le F F') (h : SqL K F a vs) : SqL K F' a vs := by
  rcases h with h | h
  · exact .inl (rdm l h)
  · exact .inr h
theorem sqT_mono {K : PySem.W.Frag} {F F' : Hp} {a : Addr} {vs : List V} (l : Le F F') (h : SqT K F a vs) : SqT K F' a vs := by
  rcases h with h | h
  · exact .inl (rdm l h)
  · exact .inr h
mutual
theorem Rd.mono {F F' : Hp} (l : Le F F') : ∀ {v : V} {d : D}, Rd W F v d → Rd W F' v d
  | _, _, .non => .non
  | _, _, .bl b => .bl b
  | _, _, .int i => .int i
  | _, _, .str x => .str x
  | _, _, .tup h r => .tup (sqT_mono l h) (RdA.mono l r)
  | _, _, .lst h r => .lst (l _ _ h) (RdA.mono l r)
  | _, _, .ins h1 h2 h3 h4 r => .ins (l _ _ h1) (l _ _ h2) h3 h4 (RdA.mono l r)
  | _, _, .dct h1 h2 r => .dct (l _ _ h1) h2 (RdA.mono l r)
  | _, _, .pen => .pen
  | _, _, .clo h h1 h2 => .clo h (l _ _ h1) (l _ _ h2)
theorem RdA.mono {F F' : Hp} (l : Le F F') : ∀ {vs : List V} {xs : List D}, RdA W F vs xs → RdA W F' vs xs
  | _, _, .nil => .nil
  | _, _, .cons h r => .cons (Rd.mono l h) (RdA.mono l r)
end

theorem RdA.length {F : Hp} : ∀ {vs : List V} {xs : List D}, RdA W F vs xs → vs.length = xs.length
  | _, _, .nil => rfl
  | _, _, .cons _ r => by simp [RdA.length r]
theorem RdA.get {F : Hp} : ∀ {vs : List V} {xs : List D} {i : Nat} {v : V}, RdA W F vs xs → vs[i]? = some v → ∃ d, xs[i]? = some d ∧ Rd W F v d
  | _, _, _, _, .nil, e => by simp at e
  | _, _, 0, _, .cons h _, e => by simp at e; subst e; exact ⟨_, rfl, h⟩
  | _, _, i + 1, v, .cons _ r, e => by
    obtain ⟨d, h1, h2⟩ := RdA.get (i := i) (v := v) r (by simpa using e)
    exact ⟨d, by simpa using h1, h2⟩
theorem RdA.get' {F : Hp} : ∀ {vs : List V} {xs : List D} {i : Nat} {d : D}, RdA W F vs xs → xs[i]? = some d → ∃ v, vs[i]? = some v ∧ Rd W F v d
  | _, _, _, _, .nil, e => by simp at e
  | _, _, 0, _, .cons h _, e => by simp at e; subst e; exact ⟨_, rfl, h⟩
  | _, _, i + 1, d, .cons _ r, e => by
    obtain ⟨v, h1, h2⟩ := RdA.get' (i := i) (d := d) r (by simpa using e)
    exact ⟨v, by simpa using h1, h2⟩
theorem RdA.append {F : Hp} : ∀ {vs ws : List V} {xs ys : List D}, RdA W F vs xs → RdA W F ws ys → RdA W F (vs ++ ws) (xs ++ ys)
  | _, _, _, _, .nil, s => s
  | _, _, _, _, .cons h r, s => .cons h (RdA.append r s)
theorem RdA.take {F : Hp} : ∀ {vs : List V} {xs : List D} (n : Nat), RdA W F vs xs → RdA W F (vs.take n) (xs.take n)
  | _, _, 0, _ => by simp; exact .nil
  | _, _, _ + 1, .nil => by simp; exact .nil
  | _, _, n + 1, .cons h r => by simp; exact .cons h (RdA.take n r)
theorem RdA.drop {F : Hp} : ∀ {vs : List V} {xs : List D} (n : Nat), RdA W F vs xs → RdA W F (vs.drop n) (xs.drop n)
  | _, _, 0, r => by simpa using r
  | _, _, _ + 1, .nil => by simp; exact .nil
  | _, _, n + 1, .cons _ r => by simpa using RdA.drop n r
theorem RdA.set {F : Hp} {v : V} {d : D} (h : Rd W F v d) : ∀ {vs : List V} {xs : List D} (i : Nat), RdA W F vs xs → RdA W F (vs.set i v) (xs.set i d)
  | _, _, _, .nil => by simp; exact .nil
  | _, _, 0, .cons _ r => by simp; exact .cons h r
  | _, _, i + 1, .cons q r => by simp; exact .cons q (RdA.set h i r)
theorem RdA.reverse {F : Hp} : ∀ {vs : List V} {xs : List D}, RdA W F vs xs → RdA W F vs.reverse xs.reverse
  | _, _, .nil => .nil
  | _, _, .cons h r => by simp; exact RdA.append (RdA.reverse r) (.cons h .nil)

/-! ### states -/
def penKvs (ca : Addr) (p : Pen) : List (Key × V) := [(.inr "cells", .ref ca), (.inr "at", .int p.at_), (.inr "digits", .int p.digits), (.inr "count", .int p.count), (.inr "fold", .int p.fold)]
structure PenOk (p : Pen) : Prop where
  dg : 0 ≤ p.digits
  ct : 0 ≤ p.count
  fo : 0 ≤ p.fold
  fo2 : p.fold < 2147483648
  at_ : p.at_ ≤ p.cells.length
  len : p.cells.length ≤ 1000
structure PenAt (W : Wd) (H F : Hp) (p : Pen) : Prop where
  no : F W.pa = none
  ok : PenOk p
  ob : ∃ ca, H W.pa = some (.dK (penKvs ca p)) ∧ F ca = some (.lst (p.cells.map V.int))
structure Ctx (W : Wd) (H F : Hp) (p : Pen) : Prop where
  sub : Le F H
  pen : PenAt W H F p
  b0 : Le W.F0 F
  nt : ∀ a ps, F a ≠ some (.tbl ps)
  tbs : LamX.Tabs W.tabs H
def Ext (W : Wd) (H H' : Hp) : Prop := ∀ a o, a ≠ W.pa → (∀ ps, o ≠ .tbl ps) → H a = some o → H' a = some o
/-- a list, an instance, its dict: what may still be one's own -/
def Fx (u : HO) : Prop := (∃ vs, u = .lst vs) ∨ (∃ C dx fs, u = .ins C dx fs) ∨ ∃ x, u = .own x
theorem Fx.lst (vs : List V) : Fx (.lst vs) := .inl ⟨vs, rfl⟩
theorem Fx.ins {C dx : Addr} {fs : List (Str × V)} : Fx (.ins C dx fs) := .inr (.inl ⟨_, _, _, rfl⟩)
theorem Fx.own {x : Addr} : Fx (.own x) := .inr (.inr ⟨_, rfl⟩)
theorem Fx.dK {u : HO} (h : Fx u) (kvs : List (Key × V)) : u ≠ .dK kvs := fun z => by
  rcases h with ⟨_, h⟩ | ⟨_, _, _, h⟩ | ⟨_, h⟩ <;> rw [h] at z <;> cases z
theorem Fx.tbl {u : HO} (h : Fx u) (ps : Array Value) : u ≠ .tbl ps := fun z => by
  rcases h with ⟨_, h⟩ | ⟨_, _, _, h⟩ | ⟨_, h⟩ <;> rw [h] at z <;> cases z
structure New (H F F' : Hp) : Prop where
  le : Le F F'
  fr : ∀ a u, Fx u → F a = none → H a = some u → F' a = none
theorem New.refl (H F : Hp) : New H F F := ⟨Le.refl F, fun _ _ _ h _ => h⟩
/-- the tables of code objects stay tables -/
def TbSt (H H' : Hp) : Prop := ∀ a ps, H a = some (.tbl ps) → ∃ ps', H' a = some (.tbl ps')
theorem TbSt.refl (H : Hp) : TbSt H H := fun _ ps h => ⟨ps, h⟩
theorem TbSt.trans {H H1 H2 : Hp} (a : TbSt H H1) (b : TbSt H1 H2) : TbSt H H2 := fun c ps h => let ⟨ps', h'⟩ := a c ps h; b c ps' h'
theorem TbSt.of {H H' : Hp} (k : ∀ b o, (∀ vs, o ≠ .lst vs) → (∀ kvs, o ≠ .dK kvs) → H b = some o → H' b = some o) : TbSt H H' := fun a ps h => ⟨ps, k a _ (fun _ z => nomatch z) (fun _ z => nomatch z) h⟩
theorem tabs_of {T : List (Addr × Str)} {H H' : Hp} (k : ∀ b o, (∀ vs, o ≠ .lst vs) → (∀ kvs, o ≠ .dK kvs) → H b = some o → H' b = some o) (h : LamX.Tabs T H) : LamX.Tabs T H' := fun p hp => by
  obtain ⟨ps, h1, h2, h3⟩ := h p hp
  refine ⟨ps, k _ _ (fun _ z => nomatch z) (fun _ z => nomatch z) h1, h2, fun pos cv hc => ?_⟩
  obtain ⟨c, e, h⟩ := h3 pos cv hc
  exact ⟨c, e, k c _ (fun _ z => by unfold LamX.CodeO at z; cases z) (fun _ z => by unfold LamX.CodeO at z; cases z) h⟩
structure Step (W : Wd) (H F H' F' : Hp) (p' : Pen) : Prop where
  pk : ∃ kvs, H W.pa = some (.dK kvs)
  ext : Ext W H H'
  tb : TbSt H H'
  new : New H F F'
  ctx : Ctx W H' F' p'
theorem Ext.refl (H : Hp) : Ext W H H := fun _ _ _ _ h => h
theorem Ext.trans {H H1 H2 : Hp} (a : Ext W H H1) (b : Ext W H1 H2) : Ext W H H2 := fun c o n m h => b c o n m (a c o n m h)
theorem Step.refl {H F : Hp} {p : Pen} (c : Ctx W H F p) : Step W H F H F p := ⟨let ⟨_, h, _⟩ := c.pen.ob; ⟨_, h⟩, Ext.refl H, TbSt.refl H, New.refl H F, c⟩
theorem New.trans {H H1 F F1 F2 : Hp} (e : Ext W H H1) (hp : ∃ kvs, H W.pa = some (.dK kvs)) (a : New H F F1) (b : New H1 F1 F2) : New H F F2 := by
  refine ⟨a.le.trans b.le, fun c u hu h h' => ?_⟩
  have hc : c ≠ W.pa := fun z => by
    obtain ⟨kvs, q⟩ := hp
    rw [z, q] at h'; cases h'; exact hu.dK _ rfl
  exact b.fr c u hu (a.fr c u hu h h') (e c _ hc hu.tbl h')
theorem Step.trans {H F H1 F1 H2 F2 : Hp} {p1 p2 : Pen} (a : Step W H F H1 F1 p1) (b : Step W H1 F1 H2 F2 p2) : Step W H F H2 F2 p2 :=
  ⟨a.pk, a.ext.trans b.ext, a.tb.trans b.tb, New.trans a.ext a.pk a.new b.new, b.ctx⟩
theorem Step.le {H F H1 F1 : Hp} {p1 : Pen} (a : Step W H F H1 F1 p1) : Le F F1 := a.new.le
theorem Step.there {H F H1 F1 : Hp} {p1 : Pen} (s : Step W H F H1 F1 p1) {a : Addr} {u : HO} (hp : a ≠ W.pa) (h : H a = some u) : ∃ u', H1 a = some u' := by
  by_cases hu : ∀ ps, u ≠ .tbl ps
  · exact ⟨u, s.ext a u hp hu h⟩
  · obtain ⟨ps, hu⟩ := Classical.not_forall.mp hu
    rw [Classical.not_not.mp hu] at h
    obtain ⟨ps', h'⟩ := s.tb a ps h
    exact ⟨_, h'⟩
/-- a new object is laid, frozen -/
theorem Ctx.pa {H F : Hp} {p : Pen} (c : Ctx W H F p) : ∃ ca, H W.pa = some (.dK (penKvs ca p)) := let ⟨ca, h, _⟩ := c.pen.ob; ⟨ca, h⟩
theorem Ctx.ne {H F : Hp} {p : Pen} (c : Ctx W H F p) {a : Addr} (h : H a = none) : a ≠ W.pa := fun z => by
  obtain ⟨ca, q⟩ := c.pa
  rw [z, q] at h; cases h
theorem Ctx.freeF {H F : Hp} {p : Pen} (c : Ctx W H F p) {a : Addr} (h : H a = none) : F a = none := by
  cases q : F a with
  | none => rfl
  | some o => rw [c.sub a o q] at h; cases h
theorem Step.lay {H F : Hp} {p : Pen} (c : Ctx W H F p) {a : Addr} (o : HO) (h : H a = none) (ho : ∀ ps, o ≠ .tbl ps := by exact fun _ z => nomatch z) : Step W H F (upd H a o) (upd F a o) p := by
  have hn := c.ne h
  have hf := c.freeF h
  have k : ∀ b u, H b = some u → upd H a o b = some u := fun b u e => by rw [upd_ne (ne_of_none e h)]; exact e
  refine ⟨⟨_, c.pa.choose_spec⟩, fun b u _ _ e => k b u e, TbSt.of fun b u _ _ e => k b u e, ⟨fun b u e => by rw [upd_ne (ne_of_none e hf)]; exact e, fun b vs _ e e' => ?_⟩, ⟨fun b u e => ?_, ⟨?_, c.pen.ok, ?_⟩, fun b u e => ?_, fun b ps e => ?_, c.tbs.ext k⟩⟩
  · rw [upd_ne (ne_of_none e' h)]; exact e
  · by_cases hb : b = a
    · subst hb; rw [upd_same] at e ⊢; exact e
    · rw [upd_ne hb] at e ⊢; exact c.sub b u e
  · rw [upd_ne (Ne.symm hn)]; exact c.pen.no
  · obtain ⟨ca, h1, h2⟩ := c.pen.ob
    exact ⟨ca, by rw [upd_ne (Ne.symm hn)]; exact h1, by rw [upd_ne (ne_of_none h2 hf)]; exact h2⟩
  · rw [upd_ne (ne_of_none (c.b0 b u e) hf)]; exact c.b0 b u e
  · by_cases hb : b = a
    · subst hb; rw [upd_same] at e; exact ho ps (Option.some.inj e)
    · rw [upd_ne hb] at e; exact c.nt b ps e
/-- a new object is laid, not frozen -/
theorem Step.lay0 {H F : Hp} {p : Pen} (c : Ctx W H F p) {a : Addr} (o : HO) (h : H a = none) : Step W H F (upd H a o) F p := by
  have hn := c.ne h
  have k : ∀ b u, H b = some u → upd H a o b = some u := fun b u e => by rw [upd_ne (ne_of_none e h)]; exact e
  refine ⟨⟨_, c.pa.choose_spec⟩, fun b u _ _ e => k b u e, TbSt.of fun b u _ _ e => k b u e, New.refl _ _, ⟨fun b u e => k b u (c.sub b u e), ⟨c.pen.no, c.pen.ok, ?_⟩, c.b0, c.nt, c.tbs.ext k⟩⟩
  obtain ⟨ca, h1, h2⟩ := c.pen.ob
  exact ⟨ca, by rw [upd_ne (Ne.symm hn)]; exact h1, h2⟩

/-! ### slots -/
def SlotOk (W : Wd) (H F : Hp) : Slot → Option V → Prop
  | .un, _ => True
  | .me, o => o = some (.ref W.me)
  | .shr d, o => ∃ v, o = some v ∧ Rd W F v d
  | .own xs, o => ∃ p vs, o = some (.ref p) ∧ F p = none ∧ H p = some (.lst vs) ∧ RdA W F vs xs
structure EnvOk (W : Wd) (H F : Hp) (σ : L2.St) (ρ : En) : Prop where
  len : σ.length = ρ.length
  sl : ∀ (i : Nat) (s : Slot), ρ[i]? = some s → ∃ o, σ[i]? = some o ∧ SlotOk W H F s o
  sep : ∀ (i j : Nat) (xs ys : List D) (p : Addr), ρ[i]? = some (.own xs) → ρ[j]? = some (.own ys) → σ[i]? = some (some (.ref p)) → σ[j]? = some (some (.ref p)) → i = j
theorem SlotOk.step {H F H' F' : Hp} {p' : Pen} {H0 F0 : Hp} {p0 : Pen} (c : Ctx W H F p0) (s : Step W H F H' F' p') {sl : Slot} {o : Option V} (h : SlotOk W H F sl o) : SlotOk W H' F' sl o := by
  cases sl with
  | un => trivial
  | me => exact h
  | shr d => obtain ⟨v, e, r⟩ := h; exact ⟨v, e, r.mono s.le⟩
  | own xs =>
    obtain ⟨p, vs, e, hf, hh, r⟩ := h
    have hp : p ≠ W.pa := fun z => by
      obtain ⟨ca, q⟩ := c.pa
      rw [z, q] at hh; cases hh
    exact ⟨p, vs, e, s.new.fr p _ (Fx.lst vs) hf hh, s.ext p _ hp (fun _ z => nomatch z) hh, r.mono s.le⟩
theorem EnvOk.step {H F H' F' : Hp} {p p' : Pen} {σ : L2.St} {ρ : En} (c : Ctx W H F p) (s : Step W H F H' F' p') (h : EnvOk W H F σ ρ) : EnvOk W H' F' σ ρ :=
  ⟨h.len, fun i x e => let ⟨o, h1, h2⟩ := h.sl i x e; ⟨o, h1, SlotOk.step (H0 := H) (F0 := F) (p0 := p) c s h2⟩, h.sep⟩

/-! ### transformers of expressions -/
/-- an exception of the program, made: its own dict's fields as told -/
def ExcAt (W : Wd) (H F : Hp) (e : Exc) (cls : Value) (dd : Option Addr) : Prop :=
  ∃ C, W.ecls e.c = some C ∧ cls = .ref C ∧ ∃ fs : List (Str × V), (∀ (k : Nat) (f : Str), (efl e.c)[k]? = some f → ∃ v d, fs.lookup f = some v ∧ e.xs[k]? = some d ∧ Rd W F v d) ∧ (efl e.c ≠ [] → ∃ d, dd = some d ∧ H d = some (.xd fs))

/-- what is wanted behind an outcome; R: how a value reads -/
def Good {α β : Type} (W : Wd) (Wx : WX) (σ : L2.St) (R : Hp → Hp → β → α → Prop) (H F : Hp) (o : Out α) (Q : β → Hp → Prop) : Prop := match o with
  | .ok d p' => ∀ v H' F', Step W H F H' F' p' → R H' F' v d → Q v H'
  | .err e p' => ∀ cls dd H' F', Step W H F H' F' p' → ExcAt W H' F' e cls dd → Wx cls dd σ H'
  | .bad => False
/-- the transformer of a computation -/
def tM {α β : Type} (W : Wd) (Wx : WX) (R : Hp → Hp → β → α → Prop) (m : En → M α) : L2.St → Hp → (β → Hp → Prop) → Prop := fun σ H Q =>
  ∃ ρ F p, Ctx W H F p ∧ EnvOk W H F σ ρ ∧ Good W Wx σ R H F (m ρ p) Q
/-- a value that reads in the frozen part -/
def rD (W : Wd) : Hp → Hp → V → D → Prop := fun _ F v d => Rd W F v d
/-- .. or is a list that is still one's own -/
def Vw (W : Wd) (H F : Hp) (v : V) (d : D) : Prop := Rd W F v d ∨ ∃ p vs xs, v = .ref p ∧ d = .lst xs ∧ F p = none ∧ H p = some (.lst vs) ∧ RdA W F vs xs
def rA (W : Wd) : Hp → Hp → List V → List D → Prop := fun _ F vs xs => RdA W F vs xs
def VwA (W : Wd) (H F : Hp) : List V → List D → Prop
  | [], [] => True
  | v :: vs, d :: ds => Vw W H F v d ∧ VwA W H F vs ds
  | _, _ => False
def rB : Hp → Hp → Bool → Bool → Prop := fun _ _ a b => a = b
abbrev tD (W : Wd) (Wx : WX) (m : En → M D) : TE := tM W Wx (rD W) m
abbrev tV (W : Wd) (Wx : WX) (m : En → M D) : TE := tM W Wx (Vw W) m
abbrev tB (W : Wd) (Wx : WX) (m : En → M Bool) : TT := tM W Wx rB m
abbrev tAs (W : Wd) (Wx : WX) (m : En → M (List D)) : TA := tM W Wx (rA W) m
abbrev tVs (W : Wd) (Wx : WX) (m : En → M (List D)) : TA := tM W Wx (VwA W) m

/-- a reading that is kept by steps -/
def Keeps {α β : Type} (W : Wd) (R : Hp → Hp → β → α → Prop) : Prop := ∀ H F H' F' p p' v d, Ctx W H F p → Step W H F H' F' p' → R H F v d → R H' F' v d
theorem keeps_rD : Keeps W (rD W) := fun _ _ _ _ _ _ _ _ _ s h => Rd.mono s.le h
theorem keeps_rA : Keeps W (rA W) := fun _ _ _ _ _ _ _ _ _ s h => RdA.mono s.le h
theorem keeps_Vw : Keeps W (Vw W) := fun H F H' F' p p' v d c s h => by
  rcases h with h | ⟨q, vs, xs, e1, e2, hf, hh, r⟩
  · exact .inl (h.mono s.le)
  · have z := SlotOk.step (H0 := H) (F0 := F) (p0 := p) c s (show SlotOk W H F (.own xs) (some (.ref q)) from ⟨q, vs, rfl, hf, hh, r⟩)
    obtain ⟨q', vs', e3, hf', hh', r'⟩ := z
    cases e3
    exact .inr ⟨q, vs', xs, e1, e2, hf', hh', r'⟩
theorem keeps_VwA : Keeps W (VwA W) := fun H F H' F' p p' v d c s h => by
  induction v generalizing d with
  | nil => cases d with
    | nil => trivial
    | cons _ _ => exact h.elim
  | cons x v ih => cases d with
    | nil => exact h.elim
    | cons y d => exact ⟨keeps_Vw _ _ _ _ _ _ _ _ c s h.1, ih _ h.2⟩
theorem keeps_rB : Keeps W rB := fun _ _ _ _ _ _ _ _ _ _ h => h

section
variable {Wx : WX} {σ : L2.St} {H F : Hp} {α β γ δ ε ζ : Type}
/-- one part, then the rest -/
theorem good_bind {R : Hp → Hp → β → α → Prop} {R' : Hp → Hp → δ → γ → Prop} {o : Out α} {f : α → M γ} {Q : δ → Hp → Prop} {Q1 : β → Hp → Prop}
    (h : Good W Wx σ R' H F (o.bind f) Q) (k : ∀ d p1 v H1 F1, o = .ok d p1 → Step W H F H1 F1 p1 → R H1 F1 v d → Good W Wx σ R' H1 F1 (f d p1) Q → Q1 v H1) : Good W Wx σ R H F o Q1 := by
  cases o with
  | bad => exact h
  | err e p => exact h
  | ok d p1 =>
    intro v H1 F1 s r
    refine k d p1 v H1 F1 rfl s r ?_
    show Good W Wx σ R' H1 F1 (f d p1) Q
    have h' : Good W Wx σ R' H F (f d p1) Q := h
    cases e : f d p1 with
    | bad => rw [e] at h'; exact h'
    | err x p2 =>
      rw [e] at h'
      intro cls dd H2 F2 s2 q
      exact h' cls dd H2 F2 (s.trans s2) q
    | ok y p2 =>
      rw [e] at h'
      intro w H2 F2 s2 q
      exact h' w H2 F2 (s.trans s2) q
/-- weaker ends -/
theorem good_imp {R : Hp → Hp → β → α → Prop} {o : Out α} {Q Q' : β → Hp → Prop} (h : Good W Wx σ R H F o Q) (k : ∀ v H', Q v H' → Q' v H') : Good W Wx σ R H F o Q' := by
  cases o with
  | bad => exact h
  | err e p => exact h
  | ok d p => exact fun v H' F' s r => k _ _ (h v H' F' s r)
theorem tM_bind {R : Hp → Hp → β → α → Prop} {R' : Hp → Hp → δ → γ → Prop} {m : En → M α} {f : α → En → M γ} {Q : δ → Hp → Prop} {Q1 : β → Hp → Prop}
    (h : tM W Wx R' (fun ρ => (m ρ).bind fun a => f a ρ) σ H Q)
    (k : ∀ ρ d p1 v H1 F1, Ctx W H1 F1 p1 → EnvOk W H1 F1 σ ρ → R H1 F1 v d → Good W Wx σ R' H1 F1 (f d ρ p1) Q → Q1 v H1) : tM W Wx R m σ H Q1 := by
  obtain ⟨ρ, F, p, c, e, g⟩ := h
  exact ⟨ρ, F, p, c, e, good_bind (f := fun a => f a ρ) g fun d p1 v H1 F1 _ s r g' => k ρ d p1 v H1 F1 s.ctx (e.step c s) r g'⟩
end
end DL
namespace DL
open PySem PySem.Spec PyProof.Rows L2

/-! ### the small language -/
inductive Op where
  | add | sub | mul | fdiv | mod | pow
inductive Cm where
  | eq | ne | lt | le | gt | ge | in_ | nin
inductive Blt where
  | len | tuple | sum | all | any | int | abs | gcd | min | max | repr
inductive Ty where
  | int | bool | tuple | list | str | dict | cls (c : Nat)
inductive PK where
  | cells | at_ | digits | count | fold
inductive Tg where
  | n (i : Nat) | t (ts : List Tg)

mutual
inductive IE where
  | var (i : Nat) | own (i : Nat)
  | int (i : Int) | str (x : Str) | bl (b : Bool) | non
  | con (k : Nat)
  | bin (op : Op) (a b : IE)
  | neg (a : IE)
  | cmp (op : Cm) (a b : IE)
  | isN (a : IE) | notN (a : IE) | isB (a : IE) (b : Bool)
  | chain (op op' : Cm) (a b c : IE)
  | and (a b : IE) | or (a b : IE) | not (a : IE)
  | ifE (t a b : IE)
  | tup (as : IEs)
  | idx (a i : IE)
  | slc (a : IE) (lo hi : IEs)
  | fld (a : IE) (f : Nat)
  | call (k : Nat) (as : IEs)
  | mk (c : Nat) (as : IEs)
  | blt (b : Blt) (as : IEs)
  | bits (a : IE)
  | pget (i : Nat) (k : PK)
  | lam (n : Nat)
  | callV (i : Nat)
  | callC (k : Nat) (as : IEs)
  | isi (a : IE) (t : Ty)
  | isiT (a : IE) (ts : List Ty)
  | frz (l : IL)
  | dct0
  | mcmp (ne : Bool) (c k : Nat) (a b : IE)
  | notB (a : IE) (b : Bool)
inductive IEs where
  | nil | cons (a : IE) (as : IEs)
inductive IL where
  | disp (as : IEs)
  | comp (tg : Tg) (it : IIt) (t : IEs) (e : IE)
  | ofSeq (a : IE)
  | ofRng (a : IE)
  | rep (a n : IE)
  | cat (a b : IE)
  | ofRng2 (a b : IE)
inductive IIt where
  | seq (a : IE)
  | rng1 (a : IE) | rng2 (a b : IE)
  | zip2 (a b : IE)
  | enum (a : IE)
  | zip3 (a b c : IE)
end
/-- a value, a new own list -/
inductive IX where
  | e (a : IE) | l (a : IL)

mutual
inductive IS where
  | asg (i : Nat) (e : IE)
  | asgL (i : Nat) (l : IL)
  | unp (tg : Tg) (e : IE)
  | par (is : List Nat) (es : IEs)
  | stI (i : Nat) (j e : IE)
  | app (i : Nat) (e : IE)
  | pset (i : Nat) (k : PK) (e : IE)
  | ret (e : IE) | retO (i : Nat) | retN
  | raise (c : Nat) (as : IEs)
  | brk | cnt | pass
  | fz (i : Nat)
  | ifS (t : IE) (a b : ISs)
  | for_ (tg : Tg) (it : IIt) (b : ISs)
  | whl (n : Nat) (t : IE) (b : ISs)
  | ex (e : IE)
  | parX (is : List Nat) (xs : List IX)
  | parU (is : List Nat) (xs : List IX)
  | stI2 (i : Nat) (j1 j2 e : IE)
  | appPop (i k : Nat) (e : IE)
  | unpPop (tg : Tg) (k : Nat) (e : IEs)
inductive ISs where
  | nil | cons (a : IS) (as : ISs)
end

/-! ### operators on data -/
def line : Nat := 16777216
def mulOk (i j : Int) : Bool := decide (i.natAbs.log2 + j.natAbs.log2 < 1000000)
def divOk (j : Int) : Bool := decide (j ≠ 0 ∧ j.natAbs.log2 < 9000)
def powOk (i j : Int) : Bool := decide (0 ≤ j ∧ j ≤ 1000000 ∧ i.natAbs < 2 ^ 64)
def opBin : Op → D → D → Option D
  | .add, .int i, .int j => some (.int (i + j))
  | .add, .tup a, .tup b => if a.length + b.length ≤ line then some (.tup (a ++ b)) else none
  | .add, .lst a, .lst b => if a.length + b.length ≤ line then some (.lst (a ++ b)) else none
  | .add, .str a, .str b => if a.length + b.length ≤ line then some (.str (a ++ b)) else none
  | .sub, .int i, .int j => some (.int (i - j))
  | .mul, .int i, .int j => if mulOk i j = true then some (.int (i * j)) else none
  | .mul, .tup a, .int k => if 0 ≤ k ∧ k ≤ 1000 ∧ a.length ≤ 1000 ∧ a ≠ [] then some (.tup (List.replicate k.toNat a).flatten) else none
  | .fdiv, .int i, .int j => if divOk j = true then some (.int (i.fdiv j)) else none
  | .mod, .int i, .int j => if j ≠ 0 then some (.int (i.fmod j)) else none
  | .pow, .int i, .int j => if powOk i j = true then some (.int (i ^ j.toNat)) else none
  | _, _, _ => none

mutual
def D.toPy : D → Option PyData
  | .non => some .none
  | .bl b => some (.bool b)
  | .int i => some (.int i)
  | .str x => some (.str x)
  | .tup xs => (D.toPys xs).map .tuple
  | .lst xs => (D.toPys xs).map .list
  | _ => none
def D.toPys : List D → Option (List PyData)
  | [] => some []
  | x :: xs => match D.toPy x, D.toPys xs with
    | some y, some ys => some (y :: ys)
    | _, _ => none
end
def keyPy : Key → PyData
  | .inl i => .int i
  | .inr x => .str x
mutual
/-- what repr shows -/
def D.toPyR : D → Option PyData
  | .non => some .none
  | .bl b => some (.bool b)
  | .int i => some (.int i)
  | .str x => some (.str x)
  | .tup xs => (D.toPysR xs).map .tuple
  | .lst xs => (D.toPysR xs).map .list
  | .dct ks xs => (D.toPysR xs).map fun ys => .dict (List.zip (ks.map keyPy) ys)
  | _ => none
def D.toPysR : List D → Option (List PyData)
  | [] => some []
  | x :: xs => match D.toPyR x, D.toPysR xs with
    | some y, some ys => some (y :: ys)
    | _, _ => none
end
def D.eqv (a b : D) : Option Bool := match a.toPy, b.toPy with
  | some x, some y => if SeqAt.shaped x && SeqAt.shaped y then some (PyData.eqv x y) else none
  | _, _ => none
/-- x in ds -/
def memD (x : D) (ds : List D) : Option Bool := match x.toPy, D.toPys ds with
  | some y, some ys => if SeqAt.shaped y && SeqAt.shaped (.list ys) then some (ys.any fun z => PyData.eqv z y) else none
  | _, _ => none
def opCmp : Cm → D → D → Option Bool
  | .eq, a, b => a.eqv b
  | .ne, a, b => (a.eqv b).map (!·)
  | .lt, .int i, .int j => some (decide (i < j))
  | .le, .int i, .int j => some (decide (i ≤ j))
  | .gt, .int i, .int j => some (decide (j < i))
  | .ge, .int i, .int j => some (decide (j ≤ i))
  | .in_, a, .lst xs => memD a xs
  | .in_, a, .tup xs => memD a xs
  | .nin, a, .lst xs => (memD a xs).map (!·)
  | .nin, a, .tup xs => (memD a xs).map (!·)
  | _, _, _ => none
def truth : D → Option Bool
  | .non => some false
  | .bl b => some b
  | .int i => some (i != 0)
  | .tup xs => some (!xs.isEmpty)
  | .lst xs => some (!xs.isEmpty)
  | _ => none
def seqOf : D → Option (List D)
  | .tup xs => some xs
  | .lst xs => some xs
  | _ => none
def ixOf (xs : List D) (i : Int) : Option D := atI xs i
def cutD (xs : List D) (lo hi : Option Int) : List D := (xs.drop (HT.sIx xs.length 0 lo)).take (HT.sIx xs.length xs.length hi - HT.sIx xs.length 0 lo)
def opIdx : D → D → Option D
  | .tup xs, .int i => ixOf xs i
  | .lst xs, .int i => ixOf xs i
  | _, _ => none
def opSlc : D → Option Int → Option Int → Option D
  | .tup xs, lo, hi => some (.tup (cutD xs lo hi))
  | .lst xs, lo, hi => some (.lst (cutD xs lo hi))
  | _, _, _ => none
def isNon : D → Bool
  | .non => true
  | _ => false
def isBl (b : Bool) : D → Bool
  | .bl c => c == b
  | _ => false
def intOf : D → Option Int
  | .int i => some i
  | _ => none
def blOf : D → Option Bool
  | .bl b => some b
  | _ => none
def opFld (f : Nat) : D → Option D
  | .ins c xs => ((cfl c).idxOf? f).bind fun k => xs[k]?
  | _ => none
def isTy : D → Ty → Option Bool
  | .bl _, .bool => some true
  | .bl _, .int => some true
  | .int _, .int => some true
  | .str _, .str => some true
  | .tup _, .tuple => some true
  | .lst _, .list => some true
  | .pen, .dict => some true
  | .dct _ _, .dict => some true
  | .ins c _, .cls k => some (c == k)
  | .clo _, _ => none
  | _, _ => some false
def anyTy (d : D) : List Ty → Option Bool
  | [] => some false
  | t :: ts => match isTy d t with
    | some true => some true
    | some false => anyTy d ts
    | none => none
def intsD : List D → Option (List Int)
  | [] => some []
  | .int i :: r => (intsD r).map (i :: ·)
  | _ => none
def blsD : List D → Option (List Bool)
  | [] => some []
  | .bl i :: r => (blsD r).map (i :: ·)
  | _ => none
def opBlt : Blt → List D → Option D
  | .len, [d] => (seqOf d).map fun xs => .int xs.length
  | .tuple, [d] => (seqOf d).map .tup
  | .sum, [d] => (seqOf d).bind fun xs => (intsD xs).map fun ns => .int ns.sum
  | .all, [d] => (seqOf d).bind fun xs => (blsD xs).map fun ns => .bl (ns.all id)
  | .any, [d] => (seqOf d).bind fun xs => (blsD xs).map fun ns => .bl (ns.any id)
  | .int, [.int i] => some (.int i)
  | .int, [.bl b] => some (.int (if b then 1 else 0))
  | .abs, [.int i] => some (.int (if i < 0 then -i else i))
  | .gcd, [.int i, .int j] => some (.int ((Nat.gcd i.natAbs j.natAbs : Nat) : Int))
  | .min, [.int i, .int j] => some (.int (if j < i then j else i))
  | .max, [.int i, .int j] => some (.int (if j > i then j else i))
  | .repr, [d] => d.toPyR.bind fun y => if y.showable = true ∧ y.shown.length ≤ line ∧ y.depth ≤ 64 then some (.str y.shown) else none
  | _, _ => none
def pkey : PK → Str
  | .cells => "cells" | .at_ => "at" | .digits => "digits" | .count => "count" | .fold => "fold"
def pgetD : PK → Pen → D
  | .cells, p => .lst (p.cells.map .int)
  | .at_, p => .int p.at_
  | .digits, p => .int p.digits
  | .count, p => .int p.count
  | .fold, p => .int p.fold
def pputD : PK → D → Pen → Option Pen
  | .at_, .int i, p => if 0 ≤ i ∧ i ≤ (p.cells.length : Int) then some { p with at_ := i.toNat } else none
  | .digits, .int i, p => if 0 ≤ i then some { p with digits := i } else none
  | .count, .int i, p => if 0 ≤ i then some { p with count := i } else none
  | .fold, .int i, p => if 0 ≤ i ∧ i < 2147483648 then some { p with fold := i } else none
  | _, _, _ => none
def isPen : Option Slot → Bool
  | some (.shr .pen) => true
  | _ => false
def cloAt : Option Slot → Option Nat
  | some (.shr (.clo n)) => some n
  | _ => none
def ofO {α : Type} : Option α → M α
  | some a => fun p => .ok a p
  | none => fun _ => .bad

/-! ### environments -/
def setE (ρ : En) (i : Nat) (s : Slot) : En := ρ.set i s
def killE : List Nat → En → En
  | [], ρ => ρ
  | i :: r, ρ => killE r (ρ.set i .un)
mutual
def bindT : Tg → D → En → Option En
  | .n i, d, ρ => some (ρ.set i (.shr d))
  | .t ts, d, ρ => match d with
    | .tup xs => bindTs ts xs ρ
    | _ => none
def bindTs : List Tg → List D → En → Option En
  | [], [], ρ => some ρ
  | t :: ts, x :: xs, ρ => (bindT t x ρ).bind fun ρ1 => bindTs ts xs ρ1
  | _, _, _ => none
end
mutual
def Tg.slots : Tg → List Nat
  | .n i => [i]
  | .t ts => Tg.slotss ts
def Tg.slotss : List Tg → List Nat
  | [] => []
  | u :: us => Tg.slots u ++ Tg.slotss us
end

/-- an instance of the class c, and what it may be compared with by its own rule -/
def eqOk (c : Nat) : D → D → Bool
  | .ins d _, .ins e _ => d == c && e == c
  | .ins _ _, .clo _ => false
  | .ins d _, _ => d == c
  | _, _ => false
def mcK (c : Nat) (m : List D → M D) (x y : D) : M D := if eqOk c x y = true then M.bind (m [x, y]) fun r => ofO ((blOf r).map .bl) else M.bad
def fnAt (l : List (List D → M D)) (k : Nat) : List D → M D := match l[k]? with
  | some m => m
  | none => fun _ => M.bad
/-! ### what it means -/
structure Tb where
  fn : List (List D → M D)
  con : List D
  mkr : Nat → List D → M D
  clo : Nat → M D
  fnC : Nat → En → List D → M D
def rngD (a b : Int) : List D := (List.range (b - a).toNat).map fun i => .int (a + (i : Nat))
def rng1D : D → Option (List D)
  | .int i => if i ≤ (line : Int) ∧ -(line : Int) ≤ i then some (rngD 0 i) else none
  | _ => none
def rng2D : D → D → Option (List D)
  | .int i, .int j => if -(line : Int) ≤ i ∧ i ≤ (line : Int) ∧ -(line : Int) ≤ j ∧ j ≤ (line : Int) ∧ j - i ≤ (line : Int) then some (rngD i j) else none
  | _, _ => none
def repD : D → D → Option (List D)
  | .lst xs, .int k => if k ≤ 1000000 ∧ -1000000 ≤ k ∧ xs.length * k.toNat ≤ line then some (List.replicate k.toNat xs).flatten else none
  | _, _ => none
def catD : D → D → Option (List D)
  | .lst xs, .lst ys => if xs.length + ys.length ≤ line then some (xs ++ ys) else none
  | _, _ => none
def zipD (x y : D) : Option (List D) := match seqOf x, seqOf y with
  | some xs, some ys => some (List.zipWith (fun u v => .tup [u, v]) xs ys)
  | _, _ => none
def zip3D (x y z : D) : Option (List D) := match seqOf x, seqOf y, seqOf z with
  | some xs, some ys, some zs => some (List.zipWith (fun u v => match v with | (v, w) => .tup [u, v, w]) xs (List.zip ys zs))
  | _, _, _ => none
def enumD : D → Option (List D)
  | .lst xs => some (xs.zipIdx.map fun q => .tup [.int q.2, q.1])
  | _ => none
/-- a comprehension's loop: no error leaves it -/
def compL (f : D → M (Option D)) : List D → M (List D)
  | [], p => .ok [] p
  | x :: xs, p => match f x p with
    | .ok (some y) p1 => (compL f xs p1).bind fun ys => M.pure (y :: ys)
    | .ok none p1 => compL f xs p1
    | _ => .bad
/-- one turn of a comprehension -/
def turnC (tg : Tg) (mt : En → M Bool) (me : En → M D) (ρ : En) (x : D) : M (Option D) := match bindT tg x (killE tg.slots ρ) with
  | none => M.bad
  | some ρ1 => M.bind (mt ρ1) fun k => if k = true then M.bind (me ρ1) fun y => M.pure (some y) else M.pure none
mutual
def dM (T : Tb) (vw : Bool) : IE → En → M D
  | .var i, ρ => match ρ[i]? with
    | some (.shr d) => M.pure d
    | _ => M.bad
  | .own i, ρ => match vw, ρ[i]? with
    | true, some (.own xs) => M.pure (.lst xs)
    | _, _ => M.bad
  | .int i, _ => M.pure (.int i)
  | .str x, _ => M.pure (.str x)
  | .bl b, _ => M.pure (.bl b)
  | .non, _ => M.pure .non
  | .con k, _ => ofO T.con[k]?
  | .bin op a b, ρ => M.bind (dM T true a ρ) fun x => M.bind (dM T true b ρ) fun y => ofO (opBin op x y)
  | .neg a, ρ => M.bind (dM T false a ρ) fun x => ofO ((intOf x).map fun i => .int (-i))
  | .cmp op a b, ρ => M.bind (dM T true a ρ) fun x => M.bind (dM T true b ρ) fun y => ofO ((opCmp op x y).map .bl)
  | .isN a, ρ => M.bind (dM T false a ρ) fun x => M.pure (.bl (isNon x))
  | .notN a, ρ => M.bind (dM T false a ρ) fun x => M.pure (.bl (!isNon x))
  | .isB a b, ρ => M.bind (dM T false a ρ) fun x => M.pure (.bl (isBl b x))
  | .chain op op' a b c, ρ => M.bind (dM T false a ρ) fun x => M.bind (dM T false b ρ) fun y => M.bind (ofO (opCmp op x y)) fun k =>
      if k = true then M.bind (dM T false c ρ) fun z => ofO ((opCmp op' y z).map .bl) else M.pure (.bl false)
  | .and a b, ρ => M.bind (dM T false a ρ) fun x => M.bind (ofO (blOf x)) fun k => if k = true then dM T false b ρ else M.pure (.bl false)
  | .or a b, ρ => M.bind (dM T false a ρ) fun x => M.bind (ofO (blOf x)) fun k => if k = true then M.pure (.bl true) else dM T false b ρ
  | .not a, ρ => M.bind (dM T false a ρ) fun x => M.bind (ofO (blOf x)) fun k => M.pure (.bl (!k))
  | .ifE t a b, ρ => M.bind (M.bind (dM T false t ρ) fun x => ofO (truth x)) fun k => if k = true then dM T false a ρ else dM T false b ρ
  | .tup as, ρ => M.bind (dMs T false as ρ) fun xs => M.pure (.tup xs)
  | .idx a i, ρ => M.bind (dM T true a ρ) fun x => M.bind (dM T false i ρ) fun y => ofO (opIdx x y)
  | .slc a lo hi, ρ => M.bind (dM T true a ρ) fun x => M.bind (dO T lo ρ) fun l => M.bind (dO T hi ρ) fun h => ofO (opSlc x l h)
  | .fld a f, ρ => M.bind (dM T false a ρ) fun x => ofO (opFld f x)
  | .call k as, ρ => M.bind (dMs T false as ρ) fun xs => match T.fn[k]? with
    | some m => m xs
    | none => M.bad
  | .mk c as, ρ => M.bind (dMs T false as ρ) fun xs => T.mkr c xs
  | .blt b as, ρ => M.bind (dMs T true as ρ) fun xs => ofO (opBlt b xs)
  | .bits a, ρ => M.bind (dM T false a ρ) fun x => ofO ((intOf x).map fun i => .int (Builtin.Int.intBits i : Nat))
  | .pget i k, ρ => if isPen ρ[i]? = true then fun p => .ok (pgetD k p) p else M.bad
  | .lam n, _ => M.pure (.clo n)
  | .callV i, ρ => match cloAt ρ[i]? with
    | some n => T.clo n
    | none => M.bad
  | .callC k as, ρ => M.bind (dMs T false as ρ) fun xs => T.fnC k ρ xs
  | .isi a t, ρ => M.bind (dM T false a ρ) fun x => ofO ((isTy x t).map .bl)
  | .isiT a ts, ρ => M.bind (dM T false a ρ) fun x => ofO ((anyTy x ts).map .bl)
  | .frz l, ρ => M.bind (dL T l ρ) fun xs => M.pure (.lst xs)
  | .dct0, _ => M.pure (.dct [] [])
  | .mcmp _ c k a b, ρ => M.bind (dM T false a ρ) fun x => M.bind (dM T false b ρ) fun y => mcK c (fnAt T.fn k) x y
  | .notB a b, ρ => M.bind (dM T false a ρ) fun x => M.pure (.bl (!isBl b x))
def dMs (T : Tb) (vw : Bool) : IEs → En → M (List D)
  | .nil, _ => M.pure []
  | .cons a as, ρ => M.bind (dM T vw a ρ) fun x => M.bind (dMs T vw as ρ) fun xs => M.pure (x :: xs)
/-- an optional part of a slice -/
def dO (T : Tb) : IEs → En → M (Option Int)
  | .nil, _ => M.pure none
  | .cons a _, ρ => M.bind (dM T false a ρ) fun x => ofO ((intOf x).map some)
def dL (T : Tb) : IL → En → M (List D)
  | .disp as, ρ => dMs T false as ρ
  | .comp tg it t e, ρ => M.bind (dI T true it ρ) fun xs => compL (turnC tg (fun ρ1 => dTs T t ρ1) (fun ρ1 => dM T false e ρ1) ρ) xs
  | .ofSeq a, ρ => M.bind (dM T true a ρ) fun x => ofO (seqOf x)
  | .ofRng a, ρ => M.bind (dM T false a ρ) fun x => ofO (rng1D x)
  | .rep a n, ρ => M.bind (dM T true a ρ) fun x => M.bind (dM T false n ρ) fun y => ofO (repD x y)
  | .cat a b, ρ => M.bind (dM T true a ρ) fun x => M.bind (dM T true b ρ) fun y => ofO (catD x y)
  | .ofRng2 a b, ρ => M.bind (dM T false a ρ) fun x => M.bind (dM T false b ρ) fun y => ofO (rng2D x y)
/-- a comprehension's condition -/
def dTs (T : Tb) : IEs → En → M Bool
  | .nil, _ => M.pure true
  | .cons a _, ρ => M.bind (dM T false a ρ) fun x => ofO (truth x)
def dI (T : Tb) (vw : Bool) : IIt → En → M (List D)
  | .seq a, ρ => M.bind (dM T vw a ρ) fun x => ofO (seqOf x)
  | .rng1 a, ρ => M.bind (dM T false a ρ) fun x => ofO (rng1D x)
  | .rng2 a b, ρ => M.bind (dM T false a ρ) fun x => M.bind (dM T false b ρ) fun y => ofO (rng2D x y)
  | .zip2 a b, ρ => M.bind (dM T vw a ρ) fun x => M.bind (dM T vw b ρ) fun y => ofO (zipD x y)
  | .enum a, ρ => M.bind (dM T vw a ρ) fun x => ofO (enumD x)
  | .zip3 a b c, ρ => M.bind (dM T vw a ρ) fun x => M.bind (dM T vw b ρ) fun y => M.bind (dM T vw c ρ) fun z => ofO (zip3D x y z)
end
abbrev dE (T : Tb) : IE → En → M D := dM T false
abbrev dV (T : Tb) : IE → En → M D := dM T true
abbrev dEs (T : Tb) : IEs → En → M (List D) := dMs T false
abbrev dVs (T : Tb) : IEs → En → M (List D) := dMs T true
def dT (T : Tb) (e : IE) (ρ : En) : M Bool := M.bind (dE T e ρ) fun x => ofO (truth x)

/-! ### statements -/
inductive Fl where
  | nx | rt (d : D) | brk | cnt
inductive OS where
  | ok (f : Fl) (ρ : En) (p : Pen) | err (e : Exc) (p : Pen) | bad
def OS.seq (o : OS) (k : En → Pen → OS) : OS := match o with
  | .ok .nx ρ p => k ρ p
  | o => o
def ofE {α : Type} (m : Out α) (k : α → Pen → OS) : OS := match m with
  | .ok a p => k a p
  | .err e p => .err e p
  | .bad => .bad
def bindK (o : Option En) (p : Pen) : OS := match o with
  | some ρ => .ok .nx ρ p
  | none => .bad
/-- a loop over items -/
def loopL (bd : D → En → Option En) (f : En → Pen → OS) : List D → En → Pen → OS
  | [], ρ, p => .ok .nx ρ p
  | x :: xs, ρ, p => match bd x ρ with
    | none => .bad
    | some ρ1 => match f ρ1 p with
      | .ok .nx ρ2 p2 => loopL bd f xs ρ2 p2
      | .ok .cnt ρ2 p2 => loopL bd f xs ρ2 p2
      | .ok .brk ρ2 p2 => .ok .nx ρ2 p2
      | o => o
def loopW (t : En → M Bool) (f : En → Pen → OS) : Nat → En → Pen → OS
  | 0, _, _ => .bad
  | n + 1, ρ, p => ofE (t ρ p) fun k p1 => if k = true then (match f ρ p1 with
      | .ok .nx ρ2 p2 => loopW t f n ρ2 p2
      | .ok .cnt ρ2 p2 => loopW t f n ρ2 p2
      | .ok .brk ρ2 p2 => .ok .nx ρ2 p2
      | o => o) else .ok .nx ρ p1
def setAll : List Nat → List D → En → Option En
  | [], [], ρ => some ρ
  | i :: is, d :: ds, ρ => setAll is ds (ρ.set i (.shr d))
  | _, _, _ => none
def putX (ρ : En) (i : Nat) (xs : List D) (k d : D) : Option En := (intOf k).bind fun j => (ixN xs.length j).map fun m => ρ.set i (.own (xs.set m d))
def appX (ρ : En) (i : Nat) (xs : List D) (d : D) : Option En := if xs.length < line then some (ρ.set i (.own (xs ++ [d]))) else none
def ownAt (ρ : En) (i : Nat) : Option (List D) := match ρ[i]? with
  | some (.own xs) => some xs
  | _ => none
def withO (o : Option (List D)) (k : List D → OS) : OS := match o with
  | some xs => k xs
  | none => .bad
def fzO (ρ : En) (i : Nat) : Option En := (ownAt ρ i).map fun xs => ρ.set i (.shr (.lst xs))
def dX (T : Tb) (ρ : En) : IX → M Slot
  | .e a => M.bind (dE T a ρ) fun d => M.pure (.shr d)
  | .l a => M.bind (dL T a ρ) fun xs => M.pure (.own xs)
def dXs (T : Tb) (ρ : En) : List IX → M (List Slot)
  | [] => M.pure []
  | x :: xs => M.bind (dX T ρ x) fun s => M.bind (dXs T ρ xs) fun ss => M.pure (s :: ss)
def setAllS : List Nat → List Slot → En → Option En
  | [], [], ρ => some ρ
  | i :: is, s :: ss, ρ => setAllS is ss (ρ.set i s)
  | _, _, _ => none
/-- an item taken out of an own list -/
def popX (ρ : En) (i : Nat) (xs : List D) (k : Option Int) : Option (D × En) := if xs.length ≤ line then (match k with
  | some j => (ixN xs.length j).bind fun m => (xs[m]?).map fun d => (d, ρ.set i (.own (xs.eraseIdx m)))
  | none => xs.getLast?.map fun d => (d, ρ.set i (.own xs.dropLast))) else none
def withN (o : Option En) (k : En → OS) : OS := match o with
  | some ρ => k ρ
  | none => .bad
def withP (o : Option (D × En)) (k : D → En → OS) : OS := match o with
  | some (d, ρ) => k d ρ
  | none => .bad
def st2K (T : Tb) (i : Nat) (j1 j2 : IE) (ρ : En) : D → Pen → OS
  | .tup [d1, d2], p1 => withO (ownAt ρ i) fun xs => ofE (dE T j1 ρ p1) fun k1 p2 => withN (putX ρ i xs k1 d1) fun ρ2 => withO (ownAt ρ2 i) fun ys => ofE (dE T j2 ρ2 p2) fun k2 p3 => bindK (putX ρ2 i ys k2 d2) p3
  | _, _ => .bad
def withI (o : Option Int) (k : Int → OS) : OS := match o with
  | some i => k i
  | none => .bad
def apPK (i k : Nat) (ρ : En) : D → Pen → OS := fun j p1 => withO (ownAt ρ k) fun xs => withI (intOf j) fun j => withP (popX ρ k xs (some j)) fun d ρ2 => withO (ownAt ρ2 i) fun ys => bindK (appX ρ2 i ys d) p1
mutual
def dS (T : Tb) : IS → En → Pen → OS
  | .asg i e, ρ, p => ofE (dE T e ρ p) fun d p1 => .ok .nx (ρ.set i (.shr d)) p1
  | .asgL i l, ρ, p => ofE (dL T l ρ p) fun xs p1 => .ok .nx (ρ.set i (.own xs)) p1
  | .unp tg e, ρ, p => ofE (dE T e ρ p) fun d p1 => bindK (bindT tg d ρ) p1
  | .par is es, ρ, p => ofE (dEs T es ρ p) fun ds p1 => bindK (setAll is ds ρ) p1
  | .stI i j e, ρ, p => ofE (dE T e ρ p) fun d p1 => withO (ownAt ρ i) fun xs => ofE (dE T j ρ p1) fun k p2 => bindK (putX ρ i xs k d) p2
  | .app i e, ρ, p => withO (ownAt ρ i) fun xs => ofE (dE T e ρ p) fun d p1 => bindK (appX ρ i xs d) p1
  | .pset i k e, ρ, p => ofE (dE T e ρ p) fun d p1 => if isPen ρ[i]? = true then (match pputD k d p1 with | some p2 => .ok .nx ρ p2 | none => .bad) else .bad
  | .ret e, ρ, p => ofE (dE T e ρ p) fun d p1 => .ok (.rt d) ρ p1
  | .retO i, ρ, p => withO (ownAt ρ i) fun xs => .ok (.rt (.lst xs)) ρ p
  | .retN, ρ, p => .ok (.rt .non) ρ p
  | .raise c as, ρ, p => ofE (dEs T as ρ p) fun ds p1 => .err ⟨c, ds⟩ p1
  | .brk, ρ, p => .ok .brk ρ p
  | .cnt, ρ, p => .ok .cnt ρ p
  | .pass, ρ, p => .ok .nx ρ p
  | .fz i, ρ, p => bindK (fzO ρ i) p
  | .ifS t a b, ρ, p => ofE (dT T t ρ p) fun k p1 => if k = true then dSs T a ρ p1 else dSs T b ρ p1
  | .for_ tg it b, ρ, p => ofE (dI T false it ρ p) fun xs p1 => loopL (bindT tg) (fun ρ p => dSs T b ρ p) xs ρ p1
  | .ex e, ρ, p => ofE (dE T e ρ p) fun _ p1 => .ok .nx ρ p1
  | .parX is xs, ρ, p => ofE (dXs T ρ xs p) fun ss p1 => bindK (setAllS is ss ρ) p1
  | .parU is xs, ρ, p => ofE (dXs T ρ xs p) fun ss p1 => bindK (setAllS is ss ρ) p1
  | .stI2 i j1 j2 e, ρ, p => ofE (dE T e ρ p) (st2K T i j1 j2 ρ)
  | .appPop i k e, ρ, p => withO (ownAt ρ i) fun _ => withO (ownAt ρ k) fun _ => ofE (dE T e ρ p) (apPK i k ρ)
  | .unpPop tg k e, ρ, p => withO (ownAt ρ k) fun _ => ofE (dO T e ρ p) fun j p1 => withO (ownAt ρ k) fun xs => withP (popX ρ k xs j) fun d ρ2 => bindK (bindT tg d ρ2) p1
  | .whl n t b, ρ, p => loopW (fun ρ => dT T t ρ) (fun ρ p => dSs T b ρ p) n ρ p
def dSs (T : Tb) : ISs → En → Pen → OS
  | .nil, ρ, p => .ok .nx ρ p
  | .cons a as, ρ, p => (dS T a ρ p).seq fun ρ p => dSs T as ρ p
end

example (T : Tb) (a b : IE) (ρ : En) : dE T (.bin .add a b) ρ = M.bind (dV T a ρ) fun x => M.bind (dV T b ρ) fun y => ofO (opBin .add x y) := rfl
example (T : Tb) (x : D) (p : Pen) : dE T (.bin .add (.var 0) (.int 3)) [.shr (.int 2)] p = .ok (.int 5) p := rfl
end DL
set_option maxHeartbeats 2000000
namespace DL
open PySem PySem.Spec PyProof.Rows L2
/-! ### a tuple told once, told not at all -/
theorem tuple_mul1 (l : Addr) (items : Array Value) (n : Nat) (dd : Option Addr) (sl : Array (Option Value)) (u : Tok) :
    Meets (Builtin.«tuple.__mul__» ⟨[.ref l, .int 1 u], []⟩) (fun _ R s => s.heap.get? l = some { cls := .type "tuple", dict := dd, data := .seq items n, slots := sl } ∧
      R (.ok (.ret (Value.ref l))) s) :=
  .of_wp fun prog w A R s h => by
    obtain ⟨hp, g, d, tk, os⟩ := s
    obtain ⟨hl, h⟩ := h
    have f1 := AutoSeq1.idx_int
    have c1 : (items.isEmpty || (1 : Int) == 1) = true := by simp
    wp_walk using wpAny_loadPart' hl
    exact ⟨_, rfl, h⟩
theorem tuple_mul0 (l : Addr) (items : Array Value) (n : Nat) (dd : Option Addr) (sl : Array (Option Value)) (u : Tok) (hi : items.isEmpty = false) :
    Meets (Builtin.«tuple.__mul__» ⟨[.ref l, .int 0 u], []⟩) (fun _ R s => s.heap.get? l = some { cls := .type "tuple", dict := dd, data := .seq items n, slots := sl } ∧
      R (.ok (.ret (Value.ref s.heap.objs.size))) { s with heap := s.heap.push { cls := Value.type "tuple", data := Data.seq #[] }, toks := s.toks }) :=
  .of_wp fun prog w A R s h => by
    obtain ⟨hp, g, d, tk, os⟩ := s
    obtain ⟨hl, h⟩ := h
    have f1 := AutoSeq1.idx_int
    have c1 : (items.isEmpty || (0 : Int) == 1) = false := by rw [hi]; rfl
    wp_walk using wpAny_loadPart' hl
    exact ⟨_, rfl, h⟩
def rRep1 (K : PySem.W.Frag) : R2 := fun x y H Q => ∃ l xs, x = .ref l ∧ y = .int 1 ∧ SqT K H l xs ∧ Q (.ref l) H
def rRep0 (K : PySem.W.Frag) : R2 := fun x y H Q => ∃ l xs, x = .ref l ∧ y = .int 0 ∧ SqT K H l xs ∧ xs ≠ [] ∧ ∀ p, H p = none → Q (.ref p) (upd H p (.tup []))
section
variable {X : Cx}
theorem op_rep1 : OpR X (binaryOp .Mult) (rRep1 X.K) := by
  intro pins s σ H x y v u Q I rx ry h
  obtain ⟨l, xs, rfl, rfl, hT, q⟩ := h
  cases rx
  obtain ⟨t, rfl⟩ := ry
  obtain ⟨its, r, ⟨⟨cls, dd, data, sl⟩, ho, hc, n, hd⟩, hs⟩ := I.tuple hT
  simp only at hc hd
  subst hc hd
  refine wpAny_binaryOp_repeat_ref (T := "tuple") (U := "int") (by decide) ⟨_, ho, rfl⟩ (fun s' => typeIs_int s' 1 t) noFill_tuple_mul F.fills_int_mul F.slot_int_rmul repeat_tuple F.slot_int_index.lookup
    (call_meets F.slot_int_rmul (typeIs_int s 1 t) F.entry_int_rmul (F.args_int_rmul_2 _ _) (int_rmul_tuple 1 t l its.toArray n dd sl)
      ⟨ho, rfl, ⟨_, ho, rfl⟩, call_meets F.slot_tuple_mul ⟨_, ho, rfl⟩ F.entry_tuple_mul (F.args_tuple_mul_2 _ _) (tuple_mul1 l its.toArray n dd sl t) ⟨ho, ?_⟩⟩)
  exact ⟨.ref l, _, I, rfl, q⟩
theorem op_rep0 : OpR X (binaryOp .Mult) (rRep0 X.K) := by
  intro pins s σ H x y v u Q I rx ry h
  obtain ⟨l, xs, rfl, rfl, hT, hne, q⟩ := h
  cases rx
  obtain ⟨t, rfl⟩ := ry
  obtain ⟨its, r, ⟨⟨cls, dd, data, sl⟩, ho, hc, n, hd⟩, hs⟩ := I.tuple hT
  simp only at hc hd
  subst hc hd
  have hle : its.length = xs.length := r.length.symm
  have hn : its ≠ [] := fun e => hne (by
    rw [e] at hle
    exact List.eq_nil_of_length_eq_zero hle.symm)
  have hi : its.toArray.isEmpty = false := by
    cases its with
    | nil => exact absurd rfl hn
    | cons a b => rfl
  refine wpAny_binaryOp_repeat_ref (T := "tuple") (U := "int") (by decide) ⟨_, ho, rfl⟩ (fun s' => typeIs_int s' 0 t) noFill_tuple_mul F.fills_int_mul F.slot_int_rmul repeat_tuple F.slot_int_index.lookup
    (call_meets F.slot_int_rmul (typeIs_int s 0 t) F.entry_int_rmul (F.args_int_rmul_2 _ _) (int_rmul_tuple 0 t l its.toArray n dd sl)
      ⟨ho, rfl, ⟨_, ho, rfl⟩, call_meets F.slot_tuple_mul ⟨_, ho, rfl⟩ F.entry_tuple_mul (F.args_tuple_mul_2 _ _) (tuple_mul0 l its.toArray n dd sl t hi) ⟨ho, ?_⟩⟩)
  refine ⟨.ref s.heap.objs.size, _, I.laid (t' := s.toks) (o := .tup []) (fun b ob q => Heap.get?_push_of_some _ q) (Nat.le_refl _) ?_, rfl, q _ (I.hok.fresh (Nat.le_refl _))⟩
  exact ⟨Nat.zero_le _, _, .nil, IsTup.new _ _⟩
end

/-! ### views -/
section
variable {W : Wd} {H F : Hp} {p : Pen}
theorem Vw.int {v : V} {i : Int} (h : Vw W H F v (.int i)) : v = .int i := by
  rcases h with h | ⟨_, _, _, _, e, _⟩
  · cases h; rfl
  · cases e
theorem Vw.str {v : V} {i : Str} (h : Vw W H F v (.str i)) : v = .str i := by
  rcases h with h | ⟨_, _, _, _, e, _⟩
  · cases h; rfl
  · cases e
theorem Vw.bl {v : V} {i : Bool} (h : Vw W H F v (.bl i)) : v = .bl i := by
  rcases h with h | ⟨_, _, _, _, e, _⟩
  · cases h; rfl
  · cases e
theorem Vw.tup {v : V} {xs : List D} (h : Vw W H F v (.tup xs)) : ∃ a vs, v = .ref a ∧ SqT W.K F a vs ∧ RdA W F vs xs := by
  rcases h with h | ⟨_, _, _, _, e, _⟩
  · cases h with | tup h r => exact ⟨_, _, rfl, h, r⟩
  · cases e
theorem Vw.lst (c : Ctx W H F p) {v : V} {xs : List D} (h : Vw W H F v (.lst xs)) : ∃ a vs, v = .ref a ∧ H a = some (.lst vs) ∧ RdA W F vs xs := by
  rcases h with h | ⟨q, vs, ys, e1, e2, _, hh, r⟩
  · cases h with | lst h r => exact ⟨_, _, rfl, c.sub _ _ h, r⟩
  · cases e2; exact ⟨q, vs, e1, hh, r⟩
theorem Vw.seq (c : Ctx W H F p) {v : V} {d : D} {xs : List D} (e : seqOf d = some xs) (h : Vw W H F v d) : ∃ a vs, v = .ref a ∧ (SqL W.K H a vs ∨ SqT W.K H a vs) ∧ RdA W F vs xs := by
  cases d with
  | tup ys =>
    cases e
    obtain ⟨a, vs, e, h, r⟩ := h.tup
    exact ⟨a, vs, e, .inr (sqT_mono c.sub h), r⟩
  | lst ys =>
    cases e
    obtain ⟨a, vs, e, h, r⟩ := h.lst c
    exact ⟨a, vs, e, .inl (.inl (.inl h)), r⟩
  | _ => cases e

end
mutual
theorem Rd.dp {W : Wd} {H F : Hp} (l : Le F H) : ∀ {v : V} {d : D}, DL.Rd W F v d → ∀ {y : PyData}, d.toPy = some y → Dp W.K H v y
  | _, _, .non, _, e => by cases e; exact .non
  | _, _, .bl b, _, e => by cases e; exact .bl b
  | _, _, .int b, _, e => by cases e; exact .int b
  | _, _, .str b, _, e => by cases e; exact .str b
  | _, _, .tup (xs := xs) h r, y, e => by
    have e' : (D.toPys xs).map PyData.tuple = some y := e
    cases q : D.toPys xs with
    | none => rw [q] at e'; cases e'
    | some ys => rw [q] at e'; cases e'; exact .tup (sqT_mono l h) (RdA.dp l r q)
  | _, _, .lst (xs := xs) h r, y, e => by
    have e' : (D.toPys xs).map PyData.list = some y := e
    cases q : D.toPys xs with
    | none => rw [q] at e'; cases e'
    | some ys => rw [q] at e'; cases e'; exact .lst (SqL.of (l _ _ h)) (RdA.dp l r q)
  | _, _, .ins _ _ _ _ _, _, e => by cases e
  | _, _, .dct _ _ _, _, e => by cases e
  | _, _, .pen, _, e => by cases e
  | _, _, .clo _ _ _, _, e => by cases e
theorem RdA.dp {W : Wd} {H F : Hp} (l : Le F H) : ∀ {vs : List V} {xs : List D}, RdA W F vs xs → ∀ {ys : List PyData}, D.toPys xs = some ys → DpAll W.K H vs ys
  | _, _, .nil, _, e => by cases e; exact .nil
  | _, _, .cons (d := d) (xs := xs) h r, ys, e => by
    have e' : (match D.toPy d, D.toPys xs with | some y, some ys => some (y :: ys) | _, _ => none) = some ys := e
    cases q1 : D.toPy d with
    | none => rw [q1] at e'; cases e'
    | some y => cases q2 : D.toPys xs with
      | none => rw [q1, q2] at e'; cases e'
      | some zs => rw [q1, q2] at e'; cases e'; exact .cons (Rd.dp l h q1) (RdA.dp l r q2)
end
section
variable {W : Wd} {H F : Hp} {p : Pen}
theorem Vw.dp (c : Ctx W H F p) {v : V} {d : D} {y : PyData} (h : Vw W H F v d) (e : d.toPy = some y) : Dp W.K H v y := by
  rcases h with h | ⟨q, vs, xs, e1, e2, _, hh, r⟩
  · exact h.dp c.sub e
  · subst e1 e2
    have e' : (D.toPys xs).map PyData.list = some y := e
    cases q : D.toPys xs with
    | none => rw [q] at e'; cases e'
    | some ys => rw [q] at e'; cases e'; exact .lst (SqL.of hh) (RdA.dp c.sub r q)
theorem Vw.of {v : V} {d : D} (h : DL.Rd W F v d) : Vw W H F v d := .inl h
end

/-! ### operators by values -/
/-- what an operator of two values is worth -/
def rO (W : Wd) (f : D → D → Option D) : R2 := fun x y H Q => ∃ F p dx dy d, Ctx W H F p ∧ Vw W H F x dx ∧ Vw W H F y dy ∧ f dx dy = some d ∧ ∀ v H' F', Step W H F H' F' p → DL.Rd W F' v d → Q v H'
def rU1 (W : Wd) (f : D → Option D) : V → Hp → VK → Prop := fun x H Q => ∃ F p dx d, Ctx W H F p ∧ Vw W H F x dx ∧ f dx = some d ∧ ∀ v H' F', Step W H F H' F' p → DL.Rd W F' v d → Q v H'
def rCl (W : Wd) (f : List D → Option D) : List V → Hp → VK → Prop := fun xs H Q => ∃ F p ds d, Ctx W H F p ∧ VwA W H F xs ds ∧ f ds = some d ∧ ∀ v H' F', Step W H F H' F' p → DL.Rd W F' v d → Q v H'
section
variable {X : Cx} {W : Wd}
/-- the new tuple -/
theorem lay_tup {H F : Hp} {p : Pen} (c : Ctx W H F p) {vs : List V} {xs : List D} (r : RdA W F vs xs) {Q : VK} (q : ∀ v H' F', Step W H F H' F' p → DL.Rd W F' v (.tup xs) → Q v H') : ∀ a, H a = none → Q (.ref a) (upd H a (.tup vs)) := fun a ha => by
  have s := Step.lay c (.tup vs) ha
  exact q _ _ _ s (.tup (SqT.of upd_same) (r.mono s.le))
theorem lay_lst {H F : Hp} {p : Pen} (c : Ctx W H F p) {vs : List V} {xs : List D} (r : RdA W F vs xs) {Q : VK} (q : ∀ v H' F', Step W H F H' F' p → DL.Rd W F' v (.lst xs) → Q v H') : ∀ a, H a = none → Q (.ref a) (upd H a (.lst vs)) := fun a ha => by
  have s := Step.lay c (.lst vs) ha
  exact q _ _ _ s (.lst upd_same (r.mono s.le))
theorem line_eq : line = sizeLine := by rw [sizeLine_eq]; rfl
/-- a rule for a shape of operands -/
theorem OpR.imp {f : Value → Value → Sem Value} {r r' : R2} (h : OpR X f r) (k : ∀ x y H Q, r' x y H Q → r x y H Q) : OpR X f r' := fun pins s σ H x y v u Q I rx ry q => h pins s σ H x y v u Q I rx ry (k _ _ _ _ q)
theorem or_add (hK : W.K = X.K) : OpR X (binaryOp .Add) (rO W (opBin .add)) := by
  refine OpR.imp (((op_add (X := X)).or (op_catA (X := X))).or ((op_cat (X := X)).or (op_add_str (X := X)))) fun x y H Q h => ?_
  obtain ⟨F, p, dx, dy, d, c, hx, hy, e, q⟩ := h
  cases dx <;> cases dy <;> try (cases e; done)
  · cases e
    have e1 := hx.int; have e2 := hy.int
    subst e1 e2
    exact .inl (.inl ⟨_, _, rfl, rfl, q _ _ _ (Step.refl c) (.int _)⟩)
  · rename_i i j
    have e' : (if i.length + j.length ≤ line then some (D.str (i ++ j)) else none) = some d := e
    split at e'
    · rename_i hl
      cases e'
      have e1 := hx.str; have e2 := hy.str
      subst e1 e2
      exact .inr (.inr ⟨_, _, rfl, rfl, by rw [← line_eq]; exact hl, q _ _ _ (Step.refl c) (.str _)⟩)
    · cases e'
  · rename_i i j
    have e' : (if i.length + j.length ≤ line then some (D.tup (i ++ j)) else none) = some d := e
    split at e'
    · rename_i hl
      cases e'
      obtain ⟨a, vs, e1, h1, r1⟩ := hx.tup
      obtain ⟨b, ws, e2, h2, r2⟩ := hy.tup
      subst e1 e2
      refine .inl (.inr ⟨a, b, vs, ws, rfl, rfl, hK ▸ sqT_mono c.sub h1, hK ▸ sqT_mono c.sub h2, by rw [r1.length, r2.length, ← line_eq]; exact hl, fun z => ?_, fun z z2 => ?_, fun _ _ => lay_tup c (r1.append r2) q⟩)
      · subst z
        cases r1
        exact q _ _ _ (Step.refl c) (.tup h2 r2)
      · subst z2
        cases r2
        exact q _ _ _ (Step.refl c) (.tup h1 (by simpa using r1))
    · cases e'
  · rename_i i j
    have e' : (if i.length + j.length ≤ line then some (D.lst (i ++ j)) else none) = some d := e
    split at e'
    · rename_i hl
      cases e'
      obtain ⟨a, vs, e1, h1, r1⟩ := hx.lst c
      obtain ⟨b, ws, e2, h2, r2⟩ := hy.lst c
      subst e1 e2
      exact .inr (.inl ⟨a, b, vs, ws, rfl, rfl, h1, h2, by rw [r1.length, r2.length, ← line_eq]; exact hl, lay_lst c (r1.append r2) q⟩)
    · cases e'
/-- two ints -/
theorem ints_of {f : D → D → Option D} {H F : Hp} {x y : V} {dx dy d : D} (hx : Vw W H F x dx) (hy : Vw W H F y dy) (e : f dx dy = some d) (ok : ∀ dx dy d, f dx dy = some d → ∃ i j, dx = .int i ∧ dy = .int j) : ∃ i j, x = .int i ∧ y = .int j ∧ f (.int i) (.int j) = some d := by
  obtain ⟨i, j, rfl, rfl⟩ := ok _ _ _ e
  exact ⟨i, j, hx.int, hy.int, e⟩
theorem or_sub : OpR X (binaryOp .Sub) (rO W (opBin .sub)) := by
  refine OpR.imp (op_sub (X := X)) fun x y H Q h => ?_
  obtain ⟨F, p, dx, dy, d, c, hx, hy, e, q⟩ := h
  obtain ⟨i, j, rfl, rfl, e⟩ := ints_of hx hy e (fun a b d e => by cases a <;> cases b <;> first | (cases e; done) | exact ⟨_, _, rfl, rfl⟩)
  cases e
  exact ⟨_, _, rfl, rfl, q _ _ _ (Step.refl c) (.int _)⟩
theorem or_mod : OpR X (binaryOp .Mod) (rO W (opBin .mod)) := by
  refine OpR.imp (op_modN (X := X)) fun x y H Q h => ?_
  obtain ⟨F, p, dx, dy, d, c, hx, hy, e, q⟩ := h
  obtain ⟨i, j, rfl, rfl, e⟩ := ints_of hx hy e (fun a b d e => by cases a <;> cases b <;> first | (cases e; done) | exact ⟨_, _, rfl, rfl⟩)
  have e' : (if j ≠ 0 then some (D.int (i.fmod j)) else none) = some d := e
  split at e'
  · cases e'; exact ⟨_, _, rfl, rfl, by assumption, q _ _ _ (Step.refl c) (.int _)⟩
  · cases e'
theorem or_pow : OpR X (binaryOp .Pow) (rO W (opBin .pow)) := by
  refine OpR.imp (op_pow (X := X)) fun x y H Q h => ?_
  obtain ⟨F, p, dx, dy, d, c, hx, hy, e, q⟩ := h
  obtain ⟨i, j, rfl, rfl, e⟩ := ints_of hx hy e (fun a b d e => by cases a <;> cases b <;> first | (cases e; done) | exact ⟨_, _, rfl, rfl⟩)
  have e' : (if powOk i j = true then some (D.int (i ^ j.toNat)) else none) = some d := e
  split at e'
  · rename_i h; cases e'; have h' : 0 ≤ j ∧ j ≤ 1000000 ∧ i.natAbs < 2 ^ 64 := of_decide_eq_true h; exact ⟨_, _, rfl, rfl, h', q _ _ _ (Step.refl c) (.int _)⟩
  · cases e'
theorem op_fdivD : OpR X (binaryOp .FloorDiv) (rI (fun _ j => j ≠ 0 ∧ j.natAbs.log2 < 9000) fun i j => .int (i.fdiv j)) := opI fun _ _ _ _ _ _ _ hc q => floordiv_int hc.1 q (.inl (PyProof.noPylong_of_log2 hc.2))
theorem or_fdiv : OpR X (binaryOp .FloorDiv) (rO W (opBin .fdiv)) := by
  refine OpR.imp (op_fdivD (X := X)) fun x y H Q h => ?_
  obtain ⟨F, p, dx, dy, d, c, hx, hy, e, q⟩ := h
  obtain ⟨i, j, rfl, rfl, e⟩ := ints_of hx hy e (fun a b d e => by cases a <;> cases b <;> first | (cases e; done) | exact ⟨_, _, rfl, rfl⟩)
  have e' : (if divOk j = true then some (D.int (i.fdiv j)) else none) = some d := e
  split at e'
  · rename_i h; cases e'; exact ⟨_, _, rfl, rfl, of_decide_eq_true h, q _ _ _ (Step.refl c) (.int _)⟩
  · cases e'
theorem rda_rep {F : Hp} {vs : List V} {xs : List D} (r : RdA W F vs xs) : ∀ n, RdA W F (List.replicate n vs).flatten (List.replicate n xs).flatten
  | 0 => by simp; exact .nil
  | n + 1 => by simp only [List.replicate_succ, List.flatten_cons]; exact r.append (rda_rep r n)
theorem or_mul (hK : W.K = X.K) : OpR X (binaryOp .Mult) (rO W (opBin .mul)) := by
  refine OpR.imp (((op_mulW (X := X)).or (op_repT (X := X))).or ((op_rep1 (X := X)).or (op_rep0 (X := X)))) fun x y H Q h => ?_
  obtain ⟨F, p, dx, dy, d, c, hx, hy, e, q⟩ := h
  cases dx <;> cases dy <;> try (cases e; done)
  · rename_i i j
    have e' : (if mulOk i j = true then some (D.int (i * j)) else none) = some d := e
    split at e'
    · rename_i h
      cases e'
      have e1 := hx.int; have e2 := hy.int
      subst e1 e2
      have h' : i.natAbs.log2 + j.natAbs.log2 < 1000000 := of_decide_eq_true h
      exact .inl (.inl ⟨_, _, rfl, rfl, h', q _ _ _ (Step.refl c) (.int _)⟩)
    · cases e'
  · rename_i a k
    have e' : (if 0 ≤ k ∧ k ≤ 1000 ∧ a.length ≤ 1000 ∧ a ≠ [] then some (D.tup (List.replicate k.toNat a).flatten) else none) = some d := e
    split at e'
    · rename_i hl
      cases e'
      obtain ⟨b, vs, e1, h1, r1⟩ := hx.tup
      have e2 := hy.int
      subst e1 e2
      have hne : vs ≠ [] := fun z => by
        subst z
        cases r1
        exact hl.2.2.2 rfl
      by_cases k0 : k = 0
      · subst k0
        exact .inr (.inr ⟨b, vs, rfl, rfl, hK ▸ sqT_mono c.sub h1, hne, lay_tup c .nil q⟩)
      · by_cases k1 : k = 1
        · subst k1
          have er : (List.replicate (1 : Int).toNat a).flatten = a := by simp
          rw [er] at q
          exact .inr (.inl ⟨b, vs, rfl, rfl, hK ▸ sqT_mono c.sub h1, q _ _ _ (Step.refl c) (.tup h1 r1)⟩)
        · exact .inl (.inr ⟨b, k, vs, rfl, rfl, hK ▸ sqT_mono c.sub h1, hne, by omega, hl.2.1, by rw [r1.length]; exact hl.2.2.1, lay_tup c (rda_rep r1 _) q⟩)
    · cases e'
theorem or_bin (hK : W.K = X.K) (op : Op) : ∀ o, (match op, o with | .add, .Add | .sub, .Sub | .mul, .Mult | .fdiv, .FloorDiv | .mod, .Mod | .pow, .Pow => true | _, _ => false) = true → OpR X (binaryOp o) (rO W (opBin op)) := by
  intro o h
  cases op <;> cases o <;> first | (cases h; done) | exact or_add hK | exact or_sub | exact or_mul hK | exact or_fdiv | exact or_mod | exact or_pow
end
end DL
set_option maxHeartbeats 2000000
namespace DL
open PySem PySem.Spec PyProof.Rows L2
section
variable {X : Cx} {W : Wd}
theorem op_inTD (hu : X.A.units + 65 < cLine) : OpR X (compareOp .In) (fun x y H Q => ∃ d ds, Dp X.K H x d ∧ Dp X.K H y (.tuple ds) ∧ SeqAt.shaped d = true ∧ SeqAt.shaped (.tuple ds) = true ∧ Q (.bl (ds.any fun z => PyData.eqv z d)) H) := by
  intro pins s σ H x y v u Q I rx ry h
  obtain ⟨d, ds, hd, he, sd, se, q⟩ := h
  obtain ⟨as, r1⟩ := Dp.reads I d x v hd rx
  obtain ⟨bs, r2⟩ := Dp.reads I (.tuple ds) y u he ry
  exact SeqAt.in_tuple_reads r2 r1 (SeqAt.canLay_of_shaped se) (SeqAt.canLay_of_shaped sd) (room_in_shaped sd hu) ⟨.bl _, H, I, rfl, q⟩
theorem op_notInTD (hu : X.A.units + 65 < cLine) : OpR X (compareOp .NotIn) (fun x y H Q => ∃ d ds, Dp X.K H x d ∧ Dp X.K H y (.tuple ds) ∧ SeqAt.shaped d = true ∧ SeqAt.shaped (.tuple ds) = true ∧ Q (.bl (!ds.any fun z => PyData.eqv z d)) H) := by
  intro pins s σ H x y v u Q I rx ry h
  obtain ⟨d, ds, hd, he, sd, se, q⟩ := h
  obtain ⟨as, r1⟩ := Dp.reads I d x v hd rx
  obtain ⟨bs, r2⟩ := Dp.reads I (.tuple ds) y u he ry
  exact SeqAt.notIn_tuple_reads r2 r1 (SeqAt.canLay_of_shaped se) (SeqAt.canLay_of_shaped sd) (room_in_shaped sd hu) ⟨.bl _, H, I, rfl, q⟩
def cmpD (op : Cm) : D → D → Option D := fun x y => (opCmp op x y).map .bl
theorem eqv_some {a b : D} {k : Bool} (e : a.eqv b = some k) : ∃ x y, a.toPy = some x ∧ b.toPy = some y ∧ SeqAt.shaped x = true ∧ SeqAt.shaped y = true ∧ PyData.eqv x y = k := by
  unfold D.eqv at e
  cases q1 : a.toPy with
  | none => rw [q1] at e; cases e
  | some x => cases q2 : b.toPy with
    | none => rw [q1, q2] at e; cases e
    | some y =>
      rw [q1, q2] at e
      have e' : (if (SeqAt.shaped x && SeqAt.shaped y) = true then some (PyData.eqv x y) else none) = some k := e
      split at e'
      · rename_i h
        obtain ⟨h1, h2⟩ := Bool.and_eq_true_iff.mp h
        exact ⟨x, y, rfl, rfl, h1, h2, Option.some.inj e'⟩
      · cases e'
theorem memD_some {x : D} {ds : List D} {k : Bool} (e : memD x ds = some k) : ∃ y ys, x.toPy = some y ∧ D.toPys ds = some ys ∧ SeqAt.shaped y = true ∧ SeqAt.shaped (.list ys) = true ∧ (ys.any fun z => PyData.eqv z y) = k := by
  unfold memD at e
  cases q1 : x.toPy with
  | none => rw [q1] at e; cases e
  | some y => cases q2 : D.toPys ds with
    | none => rw [q1, q2] at e; cases e
    | some ys =>
      rw [q1, q2] at e
      have e' : (if (SeqAt.shaped y && SeqAt.shaped (.list ys)) = true then some (ys.any fun z => PyData.eqv z y) else none) = some k := e
      split at e'
      · rename_i h
        obtain ⟨h1, h2⟩ := Bool.and_eq_true_iff.mp h
        exact ⟨y, ys, rfl, rfl, h1, h2, Option.some.inj e'⟩
      · cases e'
theorem map_bl {o : Option Bool} {d : D} (e : o.map D.bl = some d) : ∃ k, o = some k ∧ d = .bl k := by
  cases o with
  | none => cases e
  | some k => exact ⟨k, rfl, (Option.some.inj e).symm⟩
theorem or_eq (hK : W.K = X.K) (hu : X.A.units + 64 < cLine) : OpR X (compareOp .Eq) (rO W (cmpD .eq)) := by
  refine OpR.imp (op_eqD (X := X) hu) fun x y H Q h => ?_
  obtain ⟨F, p, dx, dy, d, c, hx, hy, e, q⟩ := h
  obtain ⟨k, e0, rfl⟩ := map_bl e
  obtain ⟨a, b, e1, e2, s1, s2, e3⟩ := eqv_some (show dx.eqv dy = some k from e0)
  refine ⟨a, b, hK ▸ hx.dp c e1, hK ▸ hy.dp c e2, s1, s2, ?_⟩
  rw [e3]
  exact q _ _ _ (Step.refl c) (.bl _)
theorem or_ne (hK : W.K = X.K) (hu : X.A.units + 64 < cLine) : OpR X (compareOp .NotEq) (rO W (cmpD .ne)) := by
  refine OpR.imp (op_neD (X := X) hu) fun x y H Q h => ?_
  obtain ⟨F, p, dx, dy, d, c, hx, hy, e, q⟩ := h
  obtain ⟨k, e0, rfl⟩ := map_bl e
  have e' : (dx.eqv dy).map (!·) = some k := e0
  cases e4 : dx.eqv dy with
  | none => rw [e4] at e'; cases e'
  | some k' =>
    rw [e4] at e'
    obtain ⟨a, b, e1, e2, s1, s2, e3⟩ := eqv_some e4
    refine ⟨a, b, hK ▸ hx.dp c e1, hK ▸ hy.dp c e2, s1, s2, ?_⟩
    rw [e3, show (!k') = k from Option.some.inj e']
    exact q _ _ _ (Step.refl c) (.bl _)
theorem or_cmpI {o : CmpOp} {op : Cm} {g : Int → Int → Bool} (h : OpR X (compareOp o) (rI0 fun i j => .bl (g i j))) (hn : ∀ dx dy k, opCmp op dx dy = some k → ∃ i j, dx = .int i ∧ dy = .int j ∧ k = g i j) : OpR X (compareOp o) (rO W (cmpD op)) := by
  refine OpR.imp h fun x y H Q h => ?_
  obtain ⟨F, p, dx, dy, d, c, hx, hy, e, q⟩ := h
  obtain ⟨k, e0, rfl⟩ := map_bl e
  obtain ⟨i, j, rfl, rfl, rfl⟩ := hn _ _ _ e0
  have e1 := hx.int; have e2 := hy.int
  subst e1 e2
  exact ⟨i, j, rfl, rfl, q _ _ _ (Step.refl c) (.bl _)⟩
theorem toPy_lst {xs : List D} {ys : List PyData} (e : D.toPys xs = some ys) : (D.lst xs).toPy = some (.list ys) := by
  show (D.toPys xs).map PyData.list = _
  rw [e]; rfl
theorem toPy_tup {xs : List D} {ys : List PyData} (e : D.toPys xs = some ys) : (D.tup xs).toPy = some (.tuple ys) := by
  show (D.toPys xs).map PyData.tuple = _
  rw [e]; rfl
theorem shaped_tup {ys : List PyData} (h : SeqAt.shaped (.list ys) = true) : SeqAt.shaped (.tuple ys) = true := by
  have e : SeqAt.shaped (.tuple ys) = SeqAt.shaped (.list ys) := by
    unfold SeqAt.shaped
    simp only [PyData.canLay0, PyData.depth]
    all_goals (first | rfl | congr)
  rw [e]; exact h
theorem or_in (hK : W.K = X.K) (hu : X.A.units + 65 < cLine) : OpR X (compareOp .In) (rO W (cmpD .in_)) := by
  refine OpR.imp ((op_inD (X := X) hu).or (op_inTD hu)) fun x y H Q h => ?_
  obtain ⟨F, p, dx, dy, d, c, hx, hy, e, q⟩ := h
  obtain ⟨k, e0, rfl⟩ := map_bl e
  cases dy with
  | lst xs =>
    obtain ⟨a, b, e1, e2, s1, s2, e3⟩ := memD_some (show memD dx xs = some k from e0)
    refine .inl ⟨a, b, hK ▸ hx.dp c e1, hK ▸ hy.dp c (toPy_lst e2), s1, s2, ?_⟩
    rw [e3]
    exact q _ _ _ (Step.refl c) (.bl _)
  | tup xs =>
    obtain ⟨a, b, e1, e2, s1, s2, e3⟩ := memD_some (show memD dx xs = some k from e0)
    refine .inr ⟨a, b, hK ▸ hx.dp c e1, hK ▸ hy.dp c (toPy_tup e2), s1, shaped_tup s2, ?_⟩
    rw [e3]
    exact q _ _ _ (Step.refl c) (.bl _)
  | _ => cases e0
theorem or_nin (hK : W.K = X.K) (hu : X.A.units + 65 < cLine) : OpR X (compareOp .NotIn) (rO W (cmpD .nin)) := by
  refine OpR.imp ((op_notInD (X := X) hu).or (op_notInTD hu)) fun x y H Q h => ?_
  obtain ⟨F, p, dx, dy, d, c, hx, hy, e, q⟩ := h
  obtain ⟨k, e0, rfl⟩ := map_bl e
  have go : ∀ {xs : List D}, (memD dx xs).map (!·) = some k → ∃ k', memD dx xs = some k' ∧ (!k') = k := fun {xs} e => by
    cases e4 : memD dx xs with
    | none => rw [e4] at e; cases e
    | some k' => rw [e4] at e; exact ⟨k', rfl, Option.some.inj e⟩
  cases dy with
  | lst xs =>
    obtain ⟨k', e4, rfl⟩ := go (xs := xs) e0
    obtain ⟨a, b, e1, e2, s1, s2, e3⟩ := memD_some e4
    refine .inl ⟨a, b, hK ▸ hx.dp c e1, hK ▸ hy.dp c (toPy_lst e2), s1, s2, ?_⟩
    rw [e3]
    exact q _ _ _ (Step.refl c) (.bl _)
  | tup xs =>
    obtain ⟨k', e4, rfl⟩ := go (xs := xs) e0
    obtain ⟨a, b, e1, e2, s1, s2, e3⟩ := memD_some e4
    refine .inr ⟨a, b, hK ▸ hx.dp c e1, hK ▸ hy.dp c (toPy_tup e2), s1, shaped_tup s2, ?_⟩
    rw [e3]
    exact q _ _ _ (Step.refl c) (.bl _)
  | _ => cases e0
def cmIs : Cm → CmpOp → Bool
  | .eq, .Eq | .ne, .NotEq | .lt, .Lt | .le, .LtE | .gt, .Gt | .ge, .GtE | .in_, .In | .nin, .NotIn => true
  | _, _ => false
theorem or_cmp (hK : W.K = X.K) (hu : X.A.units + 65 < cLine) (op : Cm) : ∀ o, cmIs op o = true → OpR X (compareOp o) (rO W (cmpD op)) := by
  intro o h
  have hi : ∀ {f : Int → Int → Bool} {op : Cm}, (∀ dx dy, (∃ i j, dx = D.int i ∧ dy = D.int j ∧ opCmp op dx dy = some (f i j)) ∨ opCmp op dx dy = none) → ∀ dx dy k, opCmp op dx dy = some k → ∃ i j, dx = .int i ∧ dy = .int j ∧ k = f i j := fun {f op} h dx dy k e => by
    rcases h dx dy with ⟨i, j, h1, h2, h3⟩ | h
    · rw [h3] at e; exact ⟨i, j, h1, h2, (Option.some.inj e).symm⟩
    · rw [h] at e; cases e
  cases op <;> cases o <;> try (cases h; done)
  · exact or_eq hK (by omega)
  · exact or_ne hK (by omega)
  · exact or_cmpI op_lt (hi fun dx dy => by cases dx <;> cases dy <;> first | exact .inr rfl | exact .inl ⟨_, _, rfl, rfl, rfl⟩)
  · exact or_cmpI op_le (hi fun dx dy => by cases dx <;> cases dy <;> first | exact .inr rfl | exact .inl ⟨_, _, rfl, rfl, rfl⟩)
  · exact or_cmpI op_gt (hi fun dx dy => by cases dx <;> cases dy <;> first | exact .inr rfl | exact .inl ⟨_, _, rfl, rfl, rfl⟩)
  · exact or_cmpI op_ge (hi fun dx dy => by cases dx <;> cases dy <;> first | exact .inr rfl | exact .inl ⟨_, _, rfl, rfl, rfl⟩)
  · exact or_in hK hu
  · exact or_nin hK hu
/-! ### items, slices -/
theorem IxR.imp {r r' : R2} (h : IxR X r) (k : ∀ x y H Q, r' x y H Q → r x y H Q) : IxR X r' := fun value slice pins s σ H x y v u Q I rx ry q hs => h value slice pins s σ H x y v u Q I rx ry (k _ _ _ _ q) hs
theorem atI_map {α β : Type} {R : α → β → Prop} {xs : List α} {ys : List β} (hl : xs.length = ys.length) (hg : ∀ (i : Nat) (b : β), ys[i]? = some b → ∃ a, xs[i]? = some a ∧ R a b) {i : Int} {b : β} (e : atI ys i = some b) : ∃ a, atI xs i = some a ∧ R a b := by
  unfold atI at e ⊢
  rw [hl]
  cases q : ixN ys.length i with
  | none => rw [q] at e; cases e
  | some j => rw [q] at e; exact hg j b e
theorem ixr (hK : W.K = X.K) : IxR X (rO W opIdx) := by
  refine IxR.imp ((ix_list (X := X)).or (ix_tup (X := X))) fun x y H Q h => ?_
  obtain ⟨F, p, dx, dy, d, c, hx, hy, e, q⟩ := h
  cases dx <;> cases dy <;> try (cases e; done)
  · rename_i xs i
    obtain ⟨a, vs, e1, h1, r1⟩ := hx.tup
    have e2 := hy.int
    subst e1 e2
    obtain ⟨v, e3, r3⟩ := atI_map (R := fun v d => DL.Rd W F v d) r1.length (fun i b e => r1.get' e) (show atI xs i = some d from e)
    exact .inr ⟨a, vs, i, v, rfl, rfl, hK ▸ sqT_mono c.sub h1, e3, q _ _ _ (Step.refl c) r3⟩
  · rename_i xs i
    obtain ⟨a, vs, e1, h1, r1⟩ := hx.lst c
    have e2 := hy.int
    subst e1 e2
    obtain ⟨v, e3, r3⟩ := atI_map (R := fun v d => DL.Rd W F v d) r1.length (fun i b e => r1.get' e) (show atI xs i = some d from e)
    exact .inl ⟨a, vs, i, v, rfl, rfl, SqL.of h1, e3, q _ _ _ (Step.refl c) r3⟩
/-- a[lo:hi] -/
def rS (W : Wd) : V → Option Int → Option Int → Hp → VK → Prop := fun x lo hi H Q => ∃ F p dx d, Ctx W H F p ∧ Vw W H F x dx ∧ opSlc dx lo hi = some d ∧ ∀ v H' F', Step W H F H' F' p → DL.Rd W F' v d → Q v H'
theorem SlR.imp {r r' : V → Option Int → Option Int → Hp → VK → Prop} (h : SlR X r) (k : ∀ x lo hi H Q, r' x lo hi H Q → r x lo hi H Q) : SlR X r' := fun pins s σ H x v vl vu lo hi sl Q I rx hs pl pu q => h pins s σ H x v vl vu lo hi sl Q I rx hs pl pu (k _ _ _ _ _ q)
theorem rda_cut {F : Hp} {vs : List V} {xs : List D} (r : RdA W F vs xs) (lo hi : Option Int) : RdA W F (cutV vs lo hi) (cutD xs lo hi) := by
  unfold cutV cutD
  rw [r.length]
  exact (r.drop _).take _
theorem cut_whole {α : Type} (xs : List α) (lo hi : Option Int) (h : HT.sIx xs.length 0 lo = 0 ∧ HT.sIx xs.length xs.length hi = xs.length) : (xs.drop (HT.sIx xs.length 0 lo)).take (HT.sIx xs.length xs.length hi - HT.sIx xs.length 0 lo) = xs := by
  rw [h.1, h.2]; simp
theorem slr (hK : W.K = X.K) : SlR X (rS W) := by
  refine SlR.imp ((sl_list (X := X)).or (sl_tupA (X := X))) fun x lo hi H Q h => ?_
  obtain ⟨F, p, dx, d, c, hx, e, q⟩ := h
  cases dx <;> try (cases e; done)
  · rename_i xs
    cases e
    obtain ⟨a, vs, e1, h1, r1⟩ := hx.tup
    subst e1
    refine .inr ⟨a, vs, rfl, hK ▸ sqT_mono c.sub h1, fun z => ?_, fun _ => lay_tup c (rda_cut r1 lo hi) q⟩
    have e2 : cutD xs lo hi = xs := cut_whole xs lo hi (by rw [← r1.length]; exact z)
    rw [e2] at q
    exact q _ _ _ (Step.refl c) (.tup h1 r1)
  · rename_i xs
    cases e
    obtain ⟨a, vs, e1, h1, r1⟩ := hx.lst c
    subst e1
    exact .inl ⟨a, vs, rfl, SqL.of h1, lay_lst c (rda_cut r1 lo hi) q⟩
end
end DL
set_option maxHeartbeats 2000000
namespace DL
open PySem PySem.Spec PyProof.Rows L2

/-! ### a def's promise, called where no repr is at work -/
structure Quiet (k : Nat) (A : Around) : Prop where
  rm : Room k A
  gu : A.guards = some []
theorem Quiet.mono {j k : Nat} {A : Around} (q : Quiet k A) (h : j ≤ k) : Quiet j A := ⟨q.rm.mono h, q.gu⟩
theorem Quiet.deeper {k : Nat} {A : Around} (q : Quiet (k + 1) A) (env : Env) : Quiet k (A.deeper env) := ⟨q.rm.deeper env, q.gu⟩
structure FnG (P : Program) (w : World) (K : PySem.W.Frag) (mg : Str → Option Value) (base : Heap) (k : Nat) (f : Addr) (fd : FuncData) (ps : List Str) (sp : Sp) : Prop where
  len : ∀ vs H Q E, sp vs H Q E → vs.length = ps.length
  run : ∀ (A : Around) (outer : List Env) (s : Shared) (H : Hp) (args : Args) (us : List Value) (vs : List V) (Q : VK) (E : XK), Quiet k A → Env0 P w K mg base A outer s H →
    BindsTo s fd args (ps.zip us) → Vals vs us → sp vs H Q E → codeAny (model P w) A (.call (.ref f) args) (CR (L2.CX P w) outer P w H s Q E) s
theorem FnG.mono {P : Program} {w : World} {K : PySem.W.Frag} {mg : Str → Option Value} {base : Heap} {j k : Nat} {f : Addr} {fd : FuncData} {ps : List Str} {sp : Sp} (F : FnG P w K mg base j f fd ps sp) (h : j ≤ k) : FnG P w K mg base k f fd ps sp :=
  ⟨F.len, fun A outer s H args us vs Q E q => F.run A outer s H args us vs Q E (q.mono h)⟩

section
variable {P : Program} {w : World} {K : PySem.W.Frag} {mg : Str → Option Value} {base : Heap}
/-- a def by its body -/
theorem fng_of {k : Nat} {f : Addr} {name qual : Str} {params : Arguments} {body : List Stmt} {scope : Scope} {dV kV doc pm cdv ct oc : Value} {an od : Option Addr} {osl : Array (Option Value)} {N ps : List Str} {sp : Sp}
    (lk : K.lookup f = some ⟨oc, od, .func (PySem.W.fnOf name qual params body scope dV kV doc pm an cdv ct), osl⟩) (hcd : PySem.W.codeIn K cdv qual = true) (S : FnScope N ps scope) (len : ∀ vs H Q E, sp vs H Q E → vs.length = ps.length)
    (hb : ∀ (A : Around) (outer : List Env) (s : Shared) (H : Hp) (vs : List V) (Q : VK) (E : XK), Quiet k (A.deeper (envOfC qual scope s.heap.objs.size f cdv)) → sp vs H Q E →
      ∃ t, PSs (cxOf (L2.CX P w) P w K mg base N qual scope f cdv A outer s H E) body t ∧ t { nx := fun _ H' => Q .non H', rt := Q } (start N vs) H) :
    FnG P w K mg base (k + 1) f (PySem.W.fnOf name qual params body scope dV kV doc pm an cdv ct) ps sp := by
  refine ⟨len, fun A outer s H args us vs Q E hq e0 hbt r hsp => ?_⟩
  have keepB : ∀ b o, base.get? b = some o → s.heap.get? b = some o := fun b o e => (e0.bs b o e).1
  have KX := e0.mod.kin.keeps keepB
  have hk : ∀ y ∈ ps.zip us, scope.names.lookup y.1 = some .local ∨ (scope.names.lookup y.1 = some .cell ∧ ((cellsFrom (s.heap.objs.size + 1) scope.names []).lookup y.1).isSome = true) := by
    rintro ⟨n, v⟩ hy
    exact (S.par n (List.of_mem_zip hy).1).imp id fun q => ⟨q, PySem.W.cellsFrom_some _ _ _ (.inl q)⟩
  refine codeAny_call_function hq.rm.depth (KX _ _ lk) rfl S.co S.gen rfl (PySem.W.codeRec_of KX hcd) (hbt _ _ _ _ (wpAny_newFunctionEnv_cells S.kind hk fun env he s1 x => ?_))
  subst he
  refine ⟨(e0.mod.nolimit.keeps keepB).keeps x.toInCall.keep, codeAny_func ?_⟩
  obtain ⟨t, ht, h2⟩ := hb A outer s H vs Q E (hq.deeper _) hsp
  have I := inv_start (CX := L2.CX P w) (E := E) S hq.rm.hd e0 (len _ _ _ _ hsp) r x
  refine wpAny_mono (ht.run [] s1 (start N vs) H _ I h2) (fun fl s' hs => ?_) fun _ _ z => z
  cases fl with
  | ret u =>
    obtain ⟨v, σ', H', J, rv, q⟩ := hs
    exact ⟨v, H', J.os, J.bare, J.base, J.hok, rv, q⟩
  | next =>
    obtain ⟨σ', H', J, q⟩ := hs
    exact ⟨.non, H', J.os, J.bare, J.base, J.hok, rfl, q⟩
  | brk => obtain ⟨_, _, _, q⟩ := hs; exact q.elim
  | cont => obtain ⟨_, _, _, q⟩ := hs; exact q.elim
end

section
variable {X : Cx} {k : Nat} {f : Addr} {fd : FuncData} {ps : List Str} {sp : Sp} {W : WX}
/-- a call by values -/
theorem run_fng {pins : List (Addr × Obj)} {σ : L2.St} {H : Hp} {s : Shared} {Q : VK} {us : List Value} {vs : List V} (F : FnG X.prog X.w X.K X.mg X.base k f fd ps sp) (hq : Quiet k X.A) (hb : Binds X.K fd ps []) (tk : Takes X W)
    (I : Inv X pins σ H s) (r : Vals vs us) (h : sp vs H Q (WE W σ)) : wpAny (model X.prog X.w) X.A (call (.ref f) us) (EP X pins σ Q) X.xe s := by
  have hl : (us ++ []).length = ps.length := by rw [List.append_nil, ← Vals.length r]; exact F.len _ _ _ _ h
  have hb2 := hb s us I.kIn hl
  rw [List.append_nil] at hb2
  refine wpAny_call (codeAny_mono (F.run X.A X.stack s H ⟨us, []⟩ us vs Q (WE W σ) hq I.env0 hb2 r h) fun res s' z => ?_)
  rcases res with e | (_ | _ | _ | u)
  · exact passAt tk σ pins H s e s' I z
  all_goals first | exact I.after z | exact False.elim z
theorem Quiet.make {A : Around} {C : Addr} {us : List Value} (q : Quiet (k + 1) A) : Quiet k (A.under (.builtin "type.__call__" ⟨.ref C :: us, []⟩)) := ⟨q.rm.make C us [], by first | exact q.gu | (have := q.gu; simpa [Around.under, Code.isGuard, guardIds] using this)⟩
/-- an own class called: a new instance, then __init__ -/
theorem run_makeG {C : Addr} {pins : List (Addr × Obj)} {σ : L2.St} {H : Hp} {s : Shared} {Q : VK} {us : List Value} {vs : List V} (hM : Mk X.K C f) (F : FnG X.prog X.w X.K X.mg X.base k f fd ps sp) (hq : Quiet (k + 1) X.A) (hb : Binds X.K fd ps []) (tk : Takes X W)
    (I : Inv X pins σ H s) (r : Vals vs us) (h : ∀ y d, H y = none → H d = none → d ≠ y → sp (.ref y :: vs) (upd (upd H d (.own y)) y (.ins C d [])) (fun v H2 => v = .non ∧ Q (.ref y) H2) (WE W σ)) : wpAny (model X.prog X.w) X.A (call (.ref C) us) (EP X pins σ Q) X.xe s := by
  have z := h (s.heap.objs.size + 1) s.heap.objs.size (I.hok.fresh (Nat.le_succ _)) (I.hok.fresh (Nat.le_refl _)) (Nat.ne_of_lt (Nat.lt_succ_self _))
  have J := Inv.made (C := C) I
  have rr : Vals (V.ref (s.heap.objs.size + 1) :: vs) (Value.ref (s.heap.objs.size + 1) :: us) := .cons rfl r
  have hl : ((Value.ref (s.heap.objs.size + 1) :: us) ++ []).length = ps.length := by rw [List.append_nil, ← Vals.length rr]; exact F.len _ _ _ _ z
  have hb2 := hb _ (Value.ref (s.heap.objs.size + 1) :: us) J.kIn hl
  rw [List.append_nil] at hb2
  refine wpAny_call (make_map (f := f) I.kIn hM.makes hM.init (beq_iff_eq.mp hM.fn) (codeAny_mono (F.run _ X.stack _ _ ⟨Value.ref (s.heap.objs.size + 1) :: us, []⟩ _ _ _ (WE W σ) hq.make (J.env0.make C us []) hb2 rr z) fun res s' y => ?_))
  rcases res with e | (_ | _ | _ | u)
  · exact passAt tk σ pins _ _ e s' J y
  all_goals first | exact False.elim y | skip
  obtain ⟨v, H', I3, rv, ev, q3⟩ := J.after y
  subst ev
  exact ⟨rv, ⟨V.ref (s.heap.objs.size + 1), H', I3, rfl, q3⟩⟩
end
end DL
set_option maxHeartbeats 2000000
namespace DL
open PySem PySem.Spec PyProof.Rows L2

/-! ### the text against the small language -/
structure Sc where
  N : List Str
  fnm : List (Str × Nat)
  cnm : List Str
  cls : Nat → Option Str
  fr : List Str
  gcd : Bool
  exn : Nat → Option Str
  lam : Nat → Expr → Bool
  fnC : Nat → Option (Str × Nat)
/-- within a comprehension: no lambda -/
def Sc.blk (S : Sc) : Sc := { S with lam := fun _ _ => false, fnC := fun _ => none }
def isGl (sc : Scope) (x : Str) : Bool := decide (sc.names.lookup x = some .globalImplicit)
def visB (sc : Scope) (x : Str) : Bool := match sc.names.lookup x with
  | some .local | some .cell | some .free => true
  | _ => false
def dbg (x : Str) : Bool := x == "__debug__"
def nmOk (S : Sc) (sc : Scope) (i : Nat) (x : Str) : Bool := decide (S.N[i]? = some x) && visB sc x && !dbg x && !(x == "__classdict__")
def glOk (sc : Scope) (x : Str) : Bool := isGl sc x && !dbg x
/-- a built-in by its name -/
def bltOk (S : Sc) (sc : Scope) (y x : Str) : Bool := x == y && S.fr.contains y && isGl sc y
def notStar : Expr → Bool
  | .Starred _ _ => false
  | _ => true
def opIs : Op → Operator → Bool
  | .add, .Add | .sub, .Sub | .mul, .Mult | .fdiv, .FloorDiv | .mod, .Mod | .pow, .Pow => true
  | _, _ => false
def notSet : Expr → Bool
  | .Set _ _ _ => false
  | _ => true
def notSlice : Expr → Bool
  | .Slice _ _ _ _ => false
  | _ => true
def notCall0 : Expr → Bool
  | .Call _ [] _ _ => false
  | _ => true
def bltName : Blt → Str
  | .len => "len" | .tuple => "tuple" | .sum => "sum" | .all => "all" | .any => "any" | .int => "int" | .abs => "abs" | .gcd => "gcd"
  | .min => "min" | .max => "max" | .repr => "repr"
def bltG (S : Sc) (sc : Scope) (b : Blt) (x : Str) : Bool := match b with
  | .gcd => x == "gcd" && S.gcd && isGl sc "gcd"
  | _ => bltOk S sc (bltName b) x
def tyName (S : Sc) : Ty → Option Str
  | .int => some "int" | .bool => some "bool" | .tuple => some "tuple" | .list => some "list" | .str => some "str" | .dict => some "dict"
  | .cls c => S.cls c
def isCls : Ty → Bool
  | .cls _ => true
  | _ => false
def tyB (S : Sc) (sc : Scope) (t : Ty) : Expr → Bool
  | .Name x _ => decide (tyName S t = some x) && glOk sc x && (isCls t || S.fr.contains x)
  | _ => false
def tyBs (S : Sc) (sc : Scope) : List Ty → List Expr → Bool
  | [], [] => true
  | t :: ts, e :: es => tyB S sc t e && tyBs S sc ts es
  | _, _ => false
mutual
def chkTg (S : Sc) (sc : Scope) (fnb : Str → Bool) : Tg → Expr → Bool
  | .n i, .Name x _ => decide (S.N[i]? = some x) && (match sc.names.lookup x with | some .local => true | some .cell => fnb x | _ => false)
  | .t ts, .Tuple es _ _ => chkTgs S sc fnb ts es
  | _, _ => false
def chkTgs (S : Sc) (sc : Scope) (fnb : Str → Bool) : List Tg → List Expr → Bool
  | [], [] => true
  | t :: ts, e :: es => notStar e && chkTg S sc fnb t e && chkTgs S sc fnb ts es
  | _, _ => false
end
def ownOf (S : Sc) (tg : Tg) : List (Str × Nat) := tg.slots.map fun i => ((S.N[i]?).getD Str.empty, i)
def fnbOf (scope : Scope) : Str → Bool := fun x => scope.names.lookup x == some .cell
def isTuple : Expr → Bool
  | .Tuple _ _ _ => true
  | _ => false
def notIf : Expr → Bool
  | .IfExp _ _ _ _ => false
  | _ => true
/-- the own rules of == and != -/
def mName : Bool → Str
  | true => "__ne__"
  | false => "__eq__"
def noM (x : Str) : Bool := !(x == "__eq__") && !(x == "__ne__")
mutual
def chkE (S : Sc) (sc : Scope) : IE → Expr → Bool
  | .var i, .Name x _ => nmOk S sc i x
  | .own i, .Name x _ => nmOk S sc i x
  | .int i, .Constant (.int j) _ _ => decide (i = j)
  | .str x, .Constant (.str y) _ _ => decide (x = y)
  | .bl b, .Constant (.bool c) _ _ => b == c
  | .non, .Constant .none _ _ => true
  | .con k, .Name x _ => decide (S.cnm[k]? = some x) && glOk sc x
  | .bin op a b, .BinOp l o r _ => opIs op o && chkE S sc a l && chkE S sc b r
  | .neg a, .UnaryOp .USub e _ => chkE S sc a e
  | .cmp op a b, .Compare l [o] [r] _ => cmIs op o && chkE S sc a l && chkE S sc b r && notSet r
  | .isN a, .Compare l [.Is] [.Constant .none _ _] _ => chkE S sc a l
  | .notN a, .Compare l [.IsNot] [.Constant .none _ _] _ => chkE S sc a l
  | .isB a b, .Compare l [.Is] [.Constant (.bool c) _ _] _ => chkE S sc a l && b == c
  | .chain op op' a b c, .Compare l [o, o'] [m, r] _ => cmIs op o && cmIs op' o' && chkE S sc a l && chkE S sc b m && chkE S sc c r && notSet m && notSet r
  | .and a b, .BoolOp .And [x, y] _ => (chkE S sc a x && notIf x) && (chkE S sc b y && notIf y)
  | .and a b, .BoolOp .And (x :: y :: z :: r) pos => (chkE S sc a x && notIf x) && (chkE S sc b (.BoolOp .And (y :: z :: r) pos) && notIf y)
  | .or a b, .BoolOp .Or [x, y] _ => (chkE S sc a x && notIf x) && (chkE S sc b y && notIf y)
  | .or a b, .BoolOp .Or (x :: y :: z :: r) pos => (chkE S sc a x && notIf x) && (chkE S sc b (.BoolOp .Or (y :: z :: r) pos) && notIf y)
  | .not a, .UnaryOp .Not e _ => chkE S sc a e && notIf e
  | .ifE t a b, .IfExp c x y _ => chkE S sc t c && notIf c && chkE S sc a x && chkE S sc b y
  | .tup as, .Tuple es _ _ => chkEs S sc as es && decide (es.length ≤ 1000)
  | .lam n, .Lambda a b s p => S.lam n (.Lambda a b s p)
  | .callV i, .Call (.Name x _) [] [] _ => nmOk S sc i x
  | .callC k as, .Call (.Name x _) es [] _ => decide (S.fnC k = some (x, es.length)) && glOk sc x && chkEs S sc as es && !es.isEmpty
  | .pget i k, .Subscript (.Name x _) (.Constant (.str y) _ _) _ => nmOk S sc i x && decide (pkey k = y)
  | .idx a i, .Subscript l r _ => chkE S sc a l && chkE S sc i r && notSlice r
  | .slc a lo hi, .Subscript l (.Slice x y none _) _ => chkE S sc a l && chkO S sc lo x && chkO S sc hi y
  | .fld a f, .Attribute e n _ => chkE S sc a e && decide (fname f = n) && notCall0 e
  | .call k as, .Call (.Name x _) es [] _ => decide (S.fnm[k]? = some (x, es.length)) && (glOk sc x && noM x) && chkEs S sc as es && !es.isEmpty
  | .blt b as, .Call (.Name x _) es [] _ => bltG S sc b x && chkEs S sc as es && !es.isEmpty
  | .bits a, .Call (.Attribute e n ap) [] [] pos => chkE S sc a e && n == "bit_length" && notCall0 e && ap.endLine == pos.line
  | .isi a t, .Call (.Name x _) [e, y] [] _ => bltOk S sc "isinstance" x && chkE S sc a e && notStar e && tyB S sc t y
  | .isiT a ts, .Call (.Name x _) [e, .Tuple es _ _] [] _ => bltOk S sc "isinstance" x && chkE S sc a e && notStar e && tyBs S sc ts es && decide (1 ≤ ts.length ∧ ts.length ≤ 1000)
  | .frz l, e => chkL S sc l e
  | .dct0, .Dict [] [] _ => true
  | .mcmp ne c k a b, .Compare l [o] [r] _ => cmIs (if ne then .ne else .eq) o && decide (S.fnm[k]? = some (mName ne, c)) && chkE S sc a l && chkE S sc b r && notSet r
  | .notB a b, .Compare l [.IsNot] [.Constant (.bool c) _ _] _ => chkE S sc a l && b == c
  | _, _ => false
def chkEs (S : Sc) (sc : Scope) : IEs → List Expr → Bool
  | .nil, [] => true
  | .cons a as, e :: es => chkE S sc a e && notStar e && chkEs S sc as es
  | _, _ => false
def chkO (S : Sc) (sc : Scope) : IEs → Option Expr → Bool
  | .nil, none => true
  | .cons a .nil, some e => chkE S sc a e
  | _, _ => false
def chkL (S : Sc) (sc : Scope) : IL → Expr → Bool
  | .disp as, .List es _ => chkEs S sc as es && decide (es.length ≤ 1000)
  | .comp tg it t e, .ListComp elt [⟨tgt, iter, ifs, n⟩] scope _ => n == 0 && chkI S sc it tgt iter && chkTg S (relS scope sc) (fnbOf scope) tg tgt && blkC S.N sc scope (ownOf S tg) && notSet iter &&
      chkTs S.blk (relS scope sc) t ifs && chkE S.blk (relS scope sc) e elt
  | .ofSeq a, .Call (.Name x _) [e] [] _ => bltOk S sc "list" x && chkE S sc a e && notStar e
  | .cat a b, .BinOp l .Add r _ => chkE S sc a l && chkE S sc b r
  | .rep a n, .BinOp l .Mult r _ => chkE S sc a l && chkE S sc n r
  | .ofRng2 a b, .Call (.Name x _) [.Call (.Name y _) [e, e2] [] _] [] _ => bltOk S sc "list" x && bltOk S sc "range" y && chkE S sc a e && notStar e && chkE S sc b e2 && notStar e2
  | .ofRng a, .Call (.Name x _) [.Call (.Name y _) [e] [] _] [] _ => bltOk S sc "list" x && bltOk S sc "range" y && chkE S sc a e && notStar e
  | _, _ => false
def chkTs (S : Sc) (sc : Scope) : IEs → List Expr → Bool
  | .nil, [] => true
  | .cons a .nil, [e] => chkE S sc a e && notIf e
  | _, _ => false
def chkI (S : Sc) (sc : Scope) : IIt → Expr → Expr → Bool
  | .seq a, _, e => chkE S sc a e
  | .rng1 a, _, .Call (.Name x _) [e] [] _ => bltOk S sc "range" x && chkE S sc a e && notStar e
  | .rng2 a b, _, .Call (.Name x _) [e, e'] [] _ => bltOk S sc "range" x && chkE S sc a e && notStar e && chkE S sc b e' && notStar e'
  | .zip2 a b, tg, .Call (.Name x _) [e, e'] [] _ => bltOk S sc "zip" x && isTuple tg && chkE S sc a e && notStar e && chkE S sc b e' && notStar e'
  | .zip3 a b c, tg, .Call (.Name x _) [e, e', e2] [] _ => bltOk S sc "zip" x && isTuple tg && chkE S sc a e && notStar e && chkE S sc b e' && notStar e' && chkE S sc c e2 && notStar e2
  | .enum a, tg, .Call (.Name x _) [e] [] _ => bltOk S sc "enumerate" x && isTuple tg && chkE S sc a e && notStar e
  | _, _, _ => false
end

/-! ### statements -/
def locOk (sc : Scope) (fnb : Str → Bool) (x : Str) : Bool := match sc.names.lookup x with
  | some .local => true
  | some .cell => fnb x
  | _ => false
def slotOk (S : Sc) (sc : Scope) (fnb : Str → Bool) (i : Nat) (x : Str) : Bool := decide (S.N[i]? = some x) && locOk sc fnb x
def notLC : Expr → Bool
  | .ListComp _ _ _ _ | .SetComp _ _ _ _ | .DictComp _ _ _ _ _ => false
  | _ => true
def lcOrNot : Expr → Bool
  | .SetComp _ _ _ _ | .DictComp _ _ _ _ _ => false
  | _ => true
def isGhost : IS → Bool
  | .fz _ => true
  | _ => false
def pPar : Stmt → Option (Str × Str × Pos × Pos × Expr × Expr)
  | .Assign [.Tuple [.Name x px, .Name y py] _ _] (.Tuple [a, b] _ _) _ => some (x, y, px, py, a, b)
  | _ => none
def pStI : Stmt → Option (Str × Expr × Expr)
  | .Assign [.Subscript (.Name x _) jx _] v _ => some (x, jx, v)
  | _ => none
def pApp : Stmt → Option (Str × Str × Pos × Expr × Pos)
  | .Expr (.Call (.Attribute (.Name x _) n ap) [v] [] cp) _ => some (x, n, ap, v, cp)
  | _ => none
/-- a tuple's names that are not all locals: stored by unpacking -/
def noSwap (sc : Scope) : Expr → Expr → Bool
  | .Tuple ts _ _, .Tuple vs _ _ => !(ts.length == 2 || ts.length == 3) || ts.any (fun
    | .Name x _ => !decide (sc.names.lookup x = some .local)
    | _ => true) || vs.all (foldedForSure 8)
  | _, _ => true
def chkX (S : Sc) (sc : Scope) : IX → Expr → Bool
  | .e a, e => chkE S sc a e && notStar e
  | .l l, e => chkL S sc l e && notStar e
def pPar3 : Stmt → Option (Str × Str × Str × Pos × Pos × Pos × Expr × Expr × Expr)
  | .Assign [.Tuple [.Name x px, .Name y py, .Name z pz] _ _] (.Tuple [a, b, c] _ _) _ => some (x, y, z, px, py, pz, a, b, c)
  | _ => none
def pStI2 : Stmt → Option (Str × Str × Expr × Expr × Expr)
  | .Assign [.Tuple [.Subscript (.Name x _) jx _, .Subscript (.Name y _) jy _] _ _] v _ => some (x, y, jx, jy, v)
  | _ => none
/-- x.append(y.pop(v)) -/
def pAppPop : Stmt → Option (Str × Str × Pos × Str × Str × Pos × Expr × Pos × Pos)
  | .Expr (.Call (.Attribute (.Name x _) n ap) [.Call (.Attribute (.Name y _) m bp) [v] [] dp] [] cp) _ => some (x, n, ap, y, m, bp, v, dp, cp)
  | _ => none
def pPop : Stmt → Option (Expr × Str × Str × Pos × List Expr × Pos)
  | .Assign [t] (.Call (.Attribute (.Name y _) m bp) es [] dp) _ => some (t, y, m, bp, es, dp)
  | _ => none
mutual
def chkS (S : Sc) (sc : Scope) (fnb : Str → Bool) : IS → Stmt → Bool
  | .asg i e, .Assign [.Name x _] v _ => slotOk S sc fnb i x && chkE S sc e v && notLC v
  | .asgL i l, .Assign [.Name x _] v _ => slotOk S sc fnb i x && chkL S sc l v && lcOrNot v
  | .unp tg e, .Assign [t] v _ => isTuple t && chkTg S sc fnb tg t && chkE S sc e v && notLC v && noSwap sc t v
  | .par [i, j] es, s => match pPar s with
    | some (x, y, px, py, a, b) => decide (S.N[i]? = some x) && decide (S.N[j]? = some y) && decide (i ≠ j) && decide (x ≠ y) && decide (sc.names.lookup x = some .local) && decide (sc.names.lookup y = some .local) &&
      chkEs S sc es [a, b] && px.line == py.line && !([a, b].all (foldedForSure 8)) && !([a, b].all (constantsAlone 8))
    | none => false
  | .stI i j e, s => match pStI s with
    | some (x, jx, v) => nmOk S sc i x && chkE S sc e v && chkE S sc j jx && notSlice jx
    | none => false
  | .pset i k e, s => match pStI s with
    | some (x, .Constant (.str y) _ _, v) => nmOk S sc i x && decide (pkey k = y) && chkE S sc e v && notLC v
    | _ => false
  | .app i e, s => match pApp s with
    | some (x, n, ap, v, cp) => nmOk S sc i x && n == "append" && chkE S sc e v && notStar v && ap.endLine == cp.line
    | none => false
  | .ret e, .Return (some v) _ => chkE S sc e v
  | .retO i, .Return (some (.Name x _)) _ => nmOk S sc i x
  | .retN, .Return none _ => true
  | .raise c as, .Raise (some (.Call (.Name x _) es [] _)) none _ => decide (S.exn c = some x) && glOk sc x && chkEs S sc as es && !es.isEmpty && decide (es.length = (efl c).length)
  | .brk, .Break _ => true
  | .cnt, .Continue _ => true
  | .pass, .Pass _ => true
  | .ifS t a b, .If c x y _ => chkE S sc t c && notIf c && chkSs S sc fnb a x && chkSs S sc fnb b y
  | .for_ tg it b, .For t iter body [] _ => chkI S sc it t iter && chkTg S sc fnb tg t && notSet iter && chkSs S sc fnb b body
  | .ex e, .Expr v _ => chkE S sc e v && notLC v
  | .parX [i, j] [u, v], s => match pPar s with
    | some (x, y, px, py, a, b) => decide (S.N[i]? = some x) && decide (S.N[j]? = some y) && decide (i ≠ j) && decide (x ≠ y) && decide (sc.names.lookup x = some .local) && decide (sc.names.lookup y = some .local) &&
      (chkX S sc u a && chkX S sc v b) && px.line == py.line && !([a, b].all (foldedForSure 8)) && !([a, b].all (constantsAlone 8))
    | none => false
  | .parX [i, j, l] [u, v, w], s => match pPar3 s with
    | some (x, y, z, px, py, pz, a, b, c) => decide (S.N[i]? = some x) && decide (S.N[j]? = some y) && decide (S.N[l]? = some z) && decide (i ≠ j) && decide (i ≠ l) && decide (j ≠ l) && decide (x ≠ y) && decide (x ≠ z) && decide (y ≠ z) &&
      decide (sc.names.lookup x = some .local) && decide (sc.names.lookup y = some .local) && decide (sc.names.lookup z = some .local) &&
      (chkX S sc u a && chkX S sc v b && chkX S sc w c) && px.line == py.line && px.line == pz.line && !([a, b, c].all (foldedForSure 8)) && !([a, b, c].all (constantsAlone 8))
    | none => false
  | .parU [i, j] [u, v], s => match pPar s with
    | some (x, y, px, py, a, b) => chkTg S sc fnb (.n i) (.Name x px) && chkTg S sc fnb (.n j) (.Name y py) && decide (i ≠ j) && chkX S sc u a && chkX S sc v b &&
      (!decide (sc.names.lookup x = some .local) || !decide (sc.names.lookup y = some .local) || [a, b].all (foldedForSure 8))
    | none => false
  | .stI2 i j1 j2 e, s => match pStI2 s with
    | some (x, y, jx, jy, v) => nmOk S sc i x && nmOk S sc i y && chkE S sc e v && chkE S sc j1 jx && chkE S sc j2 jy && notSlice jx && notSlice jy && notLC v
    | none => false
  | .appPop i k e, s => match pAppPop s with
    | some (x, n, ap, y, m, bp, v, dp, cp) => nmOk S sc i x && n == "append" && nmOk S sc k y && m == "pop" && decide (i ≠ k) && chkE S sc e v && notStar v && ap.endLine == cp.line && bp.endLine == dp.line
    | none => false
  | .whl _ t b, .While c body [] _ => chkE S sc t c && notIf c && chkSs S sc fnb b body
  | _, _ => false
def chkSs (S : Sc) (sc : Scope) (fnb : Str → Bool) : ISs → List Stmt → Bool
  | .nil, [] => true
  | .cons a as, st => if isGhost a then chkSs S sc fnb as st else match st with
    | s :: r => chkS S sc fnb a s && chkSs S sc fnb as r
    | [] => false
  | _, _ => false
end

/-! ### the context of a body, as it is asked -/
/-- what a def is worth: m, of as many arguments -/
def spD (W : Wd) (m : List D → M D) (n : Nat) : Sp := fun vs H Q E => vs.length = n ∧ ∃ ds F p, Ctx W H F p ∧ RdA W F vs ds ∧ Good W (fun c d _ H' => E c d H') [] (rD W) H F (m ds p) Q
def FnD (W : Wd) (P : Program) (w : World) (K : PySem.W.Frag) (mg : Str → Option Value) (base : Heap) (L : Nat) (x : Str) (n : Nat) (m : List D → M D) : Prop :=
  ∃ f fd ps, List.length ps = n ∧ mg x = some (.ref f) ∧ PySem.W.keepIn K (.ref f) = true ∧ Binds K fd ps [] ∧ FnG P w K mg base L f fd ps (spD W m n)
/-- what __init__ of an own class is worth: of a new instance at a, its dict at d -/
def spN (W : Wd) (C : Addr) (m : List D → M D) (n : Nat) : Sp := fun vs H Q E => ∃ a d ws Hc, vs = .ref a :: ws ∧ ws.length = n ∧ H = upd (upd Hc d (.own a)) a (.ins C d []) ∧ Hc a = none ∧ Hc d = none ∧ d ≠ a ∧
  ∃ ds F p, Ctx W Hc F p ∧ RdA W F ws ds ∧ Good W (fun c dd _ H' => E c dd H') [] (rD W) Hc F (m ds p) fun v H' => v = .ref a → Q .non H'
def ClD (W : Wd) (P : Program) (w : World) (K : PySem.W.Frag) (mg : Str → Option Value) (base : Heap) (L : Nat) (x : Str) (n : Nat) (m : List D → M D) : Prop :=
  ∃ C f fd ps k, k + 1 ≤ L ∧ List.length ps = n + 1 ∧ mg x = some (.ref C) ∧ Mk K C f ∧ Binds K fd ps [] ∧ FnG P w K mg base k f fd ps (spN W C m n)
def bTys : List String := ["NoneType", "bool", "int", "str", "list", "tuple", "dict"]
/-- an own rule of == or != of the class c -/
def MeD (W : Wd) (P : Program) (w : World) (K : PySem.W.Frag) (mg : Str → Option Value) (base : Heap) (L : Nat) (x : Str) (c : Nat) (m : List D → M D) : Prop :=
  noM x = false ∧ ∃ C f fd ps, List.length ps = 2 ∧ W.cls c = some C ∧ PySem.W.findIn K (.ref C) x = some (some (.ref f)) ∧ PySem.W.isFn K (.ref f) = true ∧ (∀ a ∈ bTys, PySem.W.notFirst K C (.type a) = true) ∧ Binds K fd ps [] ∧ FnG P w K mg base L f fd ps (spD W m 2)
/-- a def, an own class, a rule of one -/
def FnX (W : Wd) (P : Program) (w : World) (K : PySem.W.Frag) (mg : Str → Option Value) (base : Heap) (L : Nat) (x : Str) (n : Nat) (m : List D → M D) : Prop := (noM x = true ∧ (FnD W P w K mg base L x n m ∨ ClD W P w K mg base L x n m)) ∨ MeD W P w K mg base L x n m
/-- the promise of the closures -/
def CloOk (W : Wd) (P : Program) (w : World) (K : PySem.W.Frag) (mg : Str → Option Value) (base : Heap) (L : Nat) (clo : Nat → M D) : Prop :=
  ∀ (n : Nat) (d : LamD), W.lam n d → ∀ (A : Around) (outer : List Env) (s : Shared) (H : Hp) (Q : VK) (E : XK) (f c' : Addr), Quiet L A → Env0 P w K mg base A outer s H → H f = some (LamO f d c') → H c' = some (LamX.CodeO c' d.qual) →
    (∃ F p, Ctx W H F p ∧ F f = some (LamO f d c') ∧ F c' = some (LamX.CodeO c' d.qual) ∧ Good W (fun c dd _ H' => E c dd H') [] (rD W) H F (clo n p) Q) → codeAny (model P w) A (.call (.ref f) ⟨[], []⟩) (CR (L2.CX P w) outer P w H s Q E) s
/-- a def that is handed closures, called: m by the slots at the call -/
def CallC (X : Cx) (W : Wd) (x : Str) (n : Nat) (m : En → List D → M D) : Prop := ∀ (Wx : WX) (e : Expr) (es : List Expr) (p pos : Pos) (ms : En → M (List D)), Takes X Wx → Gl X x → (x == ("__debug__" : Str)) = false → PA X (e :: es) (tAs W Wx ms) → (e :: es).all (fun e => match e with | .Starred _ _ => false | _ => true) = true → (e :: es).length = n →
  (∀ ρ p xs p', ms ρ p = .ok xs p' → xs.length = n) → PE X (.Call (.Name x p) (e :: es) [] pos) (tD W Wx fun ρ => M.bind (ms ρ) fun xs => m ρ xs)
/-- the type of a value, as a value -/
def tyV (W : Wd) : D → Option Value
  | .non => some (.type "NoneType")
  | .bl _ => some (.type "bool")
  | .int _ => some (.type "int")
  | .str _ => some (.type "str")
  | .tup _ => some (.type "tuple")
  | .lst _ => some (.type "list")
  | .ins c _ => (W.cls c).map .ref
  | .pen => some (.type "dict")
  | .dct _ _ => some (.type "dict")
  | .clo _ => none
/-- what the written part says of a plain class -/
structure ClsOk (K : PySem.W.Frag) (C : Addr) (c : Nat) : Prop where
  cl : Cls K C
  no : ∀ f ∈ cfl c, NoAttr K C (fname f)
  nd : ((cfl c).map fname).Nodup
  cc : PySem.W.findIn K (.ref C) "__class__" = some (some (.builtin "object.__class__"))
  sp : PySem.W.specialIn K (.builtin "object.__class__") "__get__" = some (some (.builtin "getset_descriptor.__get__"))
  tk : PySem.W.takesIn K (.builtin "object.__class__") = some true
  mr : PySem.W.mroIn K C (.type "object") = some true
  kt : ∀ a ∈ (["NoneType", "bool", "int", "str", "list", "tuple", "dict"] : List String), PySem.W.kitOne K (.type a) (.ref C) = some false ∧ PySem.W.kitOne K (.ref C) (.type a) = some false
structure XOk (X : Cx) (W : Wd) (S : Sc) (T : Tb) (L : Nat) (sc : Scope) (fnb : Str → Bool) : Prop where
  hK : W.K = X.K
  hN : X.N = S.N
  nd : S.N.Nodup
  scp : X.env.scope = sc
  fnb : ∀ x, fnb x = true → X.fn x = true
  calm : X.calm = true
  q : Quiet L X.A
  free : ∀ x ∈ S.fr, X.mg x = none
  sm : ∃ o, X.base.get? sysModules = some o
  gcd : S.gcd = true → X.mg "gcd" = some (.builtin "math.gcd")
  fnl : T.fn.length = S.fnm.length
  fn : ∀ (k : Nat) (m : List D → M D) (x : Str) (n : Nat), T.fn[k]? = some m → S.fnm[k]? = some (x, n) → FnX W X.prog X.w X.K X.mg X.base L x n m
  clo : CloOk W X.prog X.w X.K X.mg X.base L T.clo
  lam : ∀ (n : Nat) (a : Arguments) (b : Expr) (s : Scope) (p : Pos), S.lam n (.Lambda a b s p) = true → ∀ Wx, PE X (.Lambda a b s p) (tD W Wx fun _ => M.pure (.clo n))
  fnC : ∀ (k : Nat) (x : Str) (n : Nat), S.fnC k = some (x, n) → CallC X W x n (T.fnC k)
  cls : ∀ c C, W.cls c = some C → ClsOk X.K C c
  kc : ∀ c C k C', W.cls c = some C → W.cls k = some C' → PySem.W.kitOne X.K (.ref C) (.ref C') = some (c == k)
  cn : ∀ c x, S.cls c = some x → ∃ C, W.cls c = some C ∧ X.mg x = some (.ref C)
  con : ∀ (k : Nat) (d : D) (x : Str), T.con[k]? = some d → S.cnm[k]? = some x → ∃ v u, X.mg x = some u ∧ RelV v u ∧ ∀ F, DL.Rd W F v d
end DL
set_option maxHeartbeats 2000000
namespace DL
open PySem PySem.Spec PyProof.Rows L2

/-! ### the rules, one a form -/
theorem pe_w {X : Cx} {e : Expr} {t t' : TE} (h : PE X e t) (k : ∀ σ H Q, t' σ H Q → t σ H Q) : PE X e t' := ⟨fun pins s σ H Q I z => h.run pins s σ H Q I (k _ _ _ z)⟩
section
variable {W : Wd} {Wx : WX} {σ : L2.St} {H : Hp} {α β γ δ ε ζ η θ : Type}
/-- two parts -/
theorem t2 {R1 : Hp → Hp → β → α → Prop} {R2 : Hp → Hp → δ → γ → Prop} {R' : Hp → Hp → ζ → ε → Prop} (k1 : Keeps W R1) {m1 : En → M α} {m2 : En → M γ} {f : α → γ → En → M ε} {Q : ζ → Hp → Prop} {Q2 : β → δ → Hp → Prop}
    (h : tM W Wx R' (fun ρ => M.bind (m1 ρ) fun a => M.bind (m2 ρ) fun b => f a b ρ) σ H Q)
    (q : ∀ ρ a b p v u H2 F2, Ctx W H2 F2 p → EnvOk W H2 F2 σ ρ → R1 H2 F2 v a → R2 H2 F2 u b → Good W Wx σ R' H2 F2 (f a b ρ p) Q → Q2 v u H2) :
    tM W Wx R1 m1 σ H fun v H1 => tM W Wx R2 m2 σ H1 fun u H2 => Q2 v u H2 := by
  obtain ⟨ρ, F, p, c, e, g⟩ := h
  refine ⟨ρ, F, p, c, e, good_bind (f := fun a => M.bind (m2 ρ) fun b => f a b ρ) g fun a p1 v H1 F1 _ s r g1 => ?_⟩
  refine ⟨ρ, F1, p1, s.ctx, e.step c s, good_bind (f := fun b => f a b ρ) g1 fun b p2 u H2 F2 _ s2 r2 g2 => ?_⟩
  exact q ρ a b p2 v u H2 F2 s2.ctx ((e.step c s).step s.ctx s2) (k1 _ _ _ _ _ _ _ _ s.ctx s2 r) r2 g2
theorem t1 {R1 : Hp → Hp → β → α → Prop} {R' : Hp → Hp → ζ → ε → Prop} {m1 : En → M α} {f : α → En → M ε} {Q : ζ → Hp → Prop} {Q2 : β → Hp → Prop}
    (h : tM W Wx R' (fun ρ => M.bind (m1 ρ) fun a => f a ρ) σ H Q) (q : ∀ ρ a p v H1 F1, Ctx W H1 F1 p → EnvOk W H1 F1 σ ρ → R1 H1 F1 v a → Good W Wx σ R' H1 F1 (f a ρ p) Q → Q2 v H1) : tM W Wx R1 m1 σ H Q2 := by
  obtain ⟨ρ, F, p, c, e, g⟩ := h
  exact ⟨ρ, F, p, c, e, good_bind (f := fun a => f a ρ) g fun a p1 v H1 F1 _ s r g1 => q ρ a p1 v H1 F1 s.ctx (e.step c s) r g1⟩
theorem t3 {R1 : Hp → Hp → β → α → Prop} {R2 : Hp → Hp → δ → γ → Prop} {R3 : Hp → Hp → θ → η → Prop} {R' : Hp → Hp → ζ → ε → Prop} (k1 : Keeps W R1) (k2 : Keeps W R2) {m1 : En → M α} {m2 : En → M γ} {m3 : En → M η} {f : α → γ → η → En → M ε} {Q : ζ → Hp → Prop} {Q2 : β → δ → θ → Hp → Prop}
    (h : tM W Wx R' (fun ρ => M.bind (m1 ρ) fun a => M.bind (m2 ρ) fun b => M.bind (m3 ρ) fun c => f a b c ρ) σ H Q)
    (q : ∀ ρ a b c p v u x H2 F2, Ctx W H2 F2 p → EnvOk W H2 F2 σ ρ → R1 H2 F2 v a → R2 H2 F2 u b → R3 H2 F2 x c → Good W Wx σ R' H2 F2 (f a b c ρ p) Q → Q2 v u x H2) :
    tM W Wx R1 m1 σ H fun v H1 => tM W Wx R2 m2 σ H1 fun u H2 => tM W Wx R3 m3 σ H2 fun x H3 => Q2 v u x H3 := by
  obtain ⟨ρ, F, p, c, e, g⟩ := h
  refine ⟨ρ, F, p, c, e, good_bind (f := fun a => M.bind (m2 ρ) fun b => M.bind (m3 ρ) fun c => f a b c ρ) g fun a p1 v H1 F1 _ s r g1 => ?_⟩
  have e1 := e.step c s
  refine ⟨ρ, F1, p1, s.ctx, e1, good_bind (f := fun b => M.bind (m3 ρ) fun c => f a b c ρ) g1 fun b p2 u H2 F2 _ s2 r2 g2 => ?_⟩
  have e2 := e1.step s.ctx s2
  refine ⟨ρ, F2, p2, s2.ctx, e2, good_bind (f := fun c => f a b c ρ) g2 fun x p3 y H3 F3 _ s3 r3 g3 => ?_⟩
  exact q ρ a b x p3 v u y H3 F3 s3.ctx (e2.step s2.ctx s3) (k1 _ _ _ _ _ _ _ _ s2.ctx s3 (k1 _ _ _ _ _ _ _ _ s.ctx s2 r)) (k2 _ _ _ _ _ _ _ _ s2.ctx s3 r2) r3 g3
/-- behind a step -/
theorem good_step {R : Hp → Hp → β → α → Prop} {o : Out α} {F H1 F1 : Hp} {p1 : Pen} {Q : β → Hp → Prop} (s : Step W H F H1 F1 p1) (h : Good W Wx σ R H F o Q) : Good W Wx σ R H1 F1 o Q := by
  cases o with
  | bad => exact h
  | err e p => exact fun cls dd H2 F2 s2 q => h cls dd H2 F2 (s.trans s2) q
  | ok d p => exact fun v H2 F2 s2 q => h v H2 F2 (s.trans s2) q
/-- a value that is there -/
theorem good_ofO {o : Option D} {F : Hp} {p : Pen} {Q : VK} (h : Good W Wx σ (rD W) H F (ofO o p) Q) : ∃ d, o = some d ∧ ∀ v H' F', Step W H F H' F' p → DL.Rd W F' v d → Q v H' := by
  cases o with
  | none => exact h.elim
  | some d => exact ⟨d, rfl, h⟩
/-- a plain value -/
theorem good_pure {R : Hp → Hp → β → α → Prop} {a : α} {v : β} {F : Hp} {p : Pen} {Q : β → Hp → Prop} (c : Ctx W H F p) (r : R H F v a) (h : Good W Wx σ R H F (.ok a p) Q) : Q v H := h v H F (Step.refl c) r
end

section
variable {X : Cx} {W : Wd} {Wx : WX} {a b : Expr} {pos : Pos}
theorem pe_binD {o : Operator} {op : Op} {ma mb : En → M D} (ho : OpR X (binaryOp o) (rO W (opBin op))) (ha : PE X a (tV W Wx ma)) (hb : PE X b (tV W Wx mb)) :
    PE X (.BinOp a o b pos) (tD W Wx fun ρ => M.bind (ma ρ) fun x => M.bind (mb ρ) fun y => ofO (opBin op x y)) :=
  pe_w (pe_op ho ha hb) fun σ H Q h => t2 keeps_Vw (R2 := Vw W) (R' := rD W) (f := fun x y _ => ofO (opBin op x y)) h fun ρ x y p v u H2 F2 c _ r1 r2 g => by
    obtain ⟨d, e, q⟩ := good_ofO g
    exact ⟨F2, p, x, y, d, c, r1, r2, e, q⟩
theorem pe_cmpD {o : CmpOp} {op : Cm} {ma mb : En → M D} (ho : OpR X (compareOp o) (rO W (cmpD op))) (ha : PE X a (tV W Wx ma)) (hb : PE X b (tV W Wx mb)) (hm : behindInMarks o b = false) :
    PE X (.Compare a [o] [b] pos) (tD W Wx fun ρ => M.bind (ma ρ) fun x => M.bind (mb ρ) fun y => ofO ((opCmp op x y).map .bl)) :=
  pe_w (pe_cmpR ho ha hb hm) fun σ H Q h => t2 keeps_Vw (R2 := Vw W) (R' := rD W) (f := fun x y _ => ofO ((opCmp op x y).map .bl)) h fun ρ x y p v u H2 F2 c _ r1 r2 g => by
    obtain ⟨d, e, q⟩ := good_ofO g
    exact ⟨F2, p, x, y, d, c, r1, r2, e, q⟩
theorem pe_ixD (hK : W.K = X.K) {ma mb : En → M D} (ha : PE X a (tV W Wx ma)) (hb : PE X b (tD W Wx mb)) (hs : PlainIx b) :
    PE X (.Subscript a b pos) (tD W Wx fun ρ => M.bind (ma ρ) fun x => M.bind (mb ρ) fun y => ofO (opIdx x y)) :=
  pe_w (pe_ix (ixr hK) ha hb hs) fun σ H Q h => t2 keeps_Vw (R2 := rD W) (R' := rD W) (f := fun x y _ => ofO (opIdx x y)) h fun ρ x y p v u H2 F2 c _ r1 r2 g => by
    obtain ⟨d, e, q⟩ := good_ofO g
    exact ⟨F2, p, x, y, d, c, r1, .inl r2, e, q⟩
/-- looked at, an own list too -/
theorem pe_vw {e : Expr} {m : En → M D} (h : PE X e (tD W Wx m)) : PE X e (tV W Wx m) := pe_w h fun σ H Q z => by
  obtain ⟨ρ, F, p, c, en, g⟩ := z
  refine ⟨ρ, F, p, c, en, ?_⟩
  cases q : m ρ p with
  | bad => rw [q] at g; exact g
  | err e p1 => rw [q] at g; exact g
  | ok d p1 => rw [q] at g; exact fun v H' F' s r => g v H' F' s (.inl r)
/-! names and constants -/
theorem slot_shr {H F : Hp} {σ : L2.St} {ρ : En} (e : EnvOk W H F σ ρ) {i : Nat} {d : D} (h : ρ[i]? = some (.shr d)) : ∃ v, σ[i]? = some (some v) ∧ DL.Rd W F v d := by
  obtain ⟨o, h1, v, h2, r⟩ := e.sl i _ h
  exact ⟨v, by rw [h1, h2], r⟩
theorem slot_own {H F : Hp} {σ : L2.St} {ρ : En} (e : EnvOk W H F σ ρ) {i : Nat} {xs : List D} (h : ρ[i]? = some (.own xs)) : ∃ q vs, σ[i]? = some (some (.ref q)) ∧ F q = none ∧ H q = some (.lst vs) ∧ RdA W F vs xs := by
  obtain ⟨o, h1, q, vs, h2, r⟩ := e.sl i _ h
  exact ⟨q, vs, by rw [h1, h2], r⟩
theorem pe_shr {i : Nat} {e : Expr} (h : PE X e (tVar i)) : PE X e (tD W Wx fun ρ => match ρ[i]? with | some (.shr d) => M.pure d | _ => M.bad) := pe_w h fun σ H Q z => by
  obtain ⟨ρ, F, p, c, en, g⟩ := z
  cases q : ρ[i]? with
  | none => simp only [q] at g; exact g.elim
  | some s => cases s with
    | un => simp only [q] at g; exact g.elim
    | me => simp only [q] at g; exact g.elim
    | own _ => simp only [q] at g; exact g.elim
    | shr d =>
      simp only [q] at g
      obtain ⟨v, h1, r⟩ := slot_shr en q
      exact ⟨v, h1, g v H F (Step.refl c) r⟩
theorem pe_ownV {i : Nat} {e : Expr} (h : PE X e (tVar i)) : PE X e (tV W Wx fun ρ => match ρ[i]? with | some (.own xs) => M.pure (.lst xs) | _ => M.bad) := pe_w h fun σ H Q z => by
  obtain ⟨ρ, F, p, c, en, g⟩ := z
  cases q : ρ[i]? with
  | none => simp only [q] at g; exact g.elim
  | some s => cases s with
    | un => simp only [q] at g; exact g.elim
    | me => simp only [q] at g; exact g.elim
    | shr _ => simp only [q] at g; exact g.elim
    | own xs =>
      simp only [q] at g
      obtain ⟨q', vs, h1, h2, h3, r⟩ := slot_own en q
      exact ⟨_, h1, g _ H F (Step.refl c) (.inr ⟨q', vs, xs, rfl, rfl, h2, h3, r⟩)⟩
theorem pe_pure {v : V} {d : D} {e : Expr} (h : PE X e (tC v)) (r : ∀ F, DL.Rd W F v d) : PE X e (tD W Wx fun _ => M.pure d) := pe_w h fun σ H Q z => by
  obtain ⟨ρ, F, p, c, en, g⟩ := z
  exact g v H F (Step.refl c) (r F)
theorem pe_bad {e : Expr} {R : Hp → Hp → V → D → Prop} : PE X e (tM W Wx R fun _ => M.bad) := ⟨fun pins s σ H Q I z => by
  obtain ⟨ρ, F, p, c, en, g⟩ := z
  exact g.elim⟩
theorem pe_ofO {o : Option D} {e : Expr} (h : ∀ d, o = some d → PE X e (tD W Wx fun _ => M.pure d)) : PE X e (tD W Wx fun _ => ofO o) := by
  cases o with
  | none => exact pe_bad
  | some d => exact h d rfl
/-! one operand -/
theorem rd_non {F : Hp} {v : V} {d : D} (r : DL.Rd W F v d) : decide (v = .non) = isNon d := by
  cases r <;> first | rfl | exact decide_eq_false (fun z => nomatch z)
theorem pe_isND {j : Nat} {p' : Pos} {ma : En → M D} (ha : PE X a (tD W Wx ma)) : PE X (.Compare a [.Is] [.Constant .none j p'] pos) (tD W Wx fun ρ => M.bind (ma ρ) fun x => M.pure (.bl (isNon x))) :=
  pe_w (pe_cmp (pc_isN ha) rfl) fun σ H Q h => t1 (R1 := rD W) (R' := rD W) (f := fun x _ => M.pure (.bl (isNon x))) h fun ρ x p v H1 F1 c _ r g => by
    rw [rd_non r]
    exact good_pure c (.bl _) g
theorem pe_notND {j : Nat} {p' : Pos} {ma : En → M D} (ha : PE X a (tD W Wx ma)) : PE X (.Compare a [.IsNot] [.Constant .none j p'] pos) (tD W Wx fun ρ => M.bind (ma ρ) fun x => M.pure (.bl (!isNon x))) :=
  pe_w (pe_cmp (pc_notN ha) rfl) fun σ H Q h => t1 (R1 := rD W) (R' := rD W) (f := fun x _ => M.pure (.bl (!isNon x))) h fun ρ x p v H1 F1 c _ r g => by
    rw [rd_non r]
    exact good_pure c (.bl _) g
theorem rd_isB {F : Hp} {v : V} {d : D} {b : Bool} (r : DL.Rd W F v d) : decide (v = .bl b) = isBl b d := by
  cases r <;> first | exact decide_eq_false (fun z => nomatch z) | skip
  rename_i c
  cases b <;> cases c <;> rfl
theorem is_rel {M : Model} {A : Around} {Q : Value → Shared → Prop} {E : Value → Shared → Prop} {s : Shared} {v : V} {u : Value} {d : Bool} (r : RelV v u) (h : Q (.bool (decide (v = .bl d))) s) : wpAny M A (compareOp .Is u (.bool d)) Q E s := by
  cases v with
  | bl c => cases r; cases c <;> cases d <;> exact wpAny_pure h
  | non => cases r; rw [decide_eq_false (fun z => nomatch z)] at h; exact wpAny_pure h
  | int i => obtain ⟨t, rfl⟩ := r; rw [decide_eq_false (fun z => nomatch z)] at h; exact wpAny_pure h
  | str i => obtain ⟨t, rfl⟩ := r; rw [decide_eq_false (fun z => nomatch z)] at h; exact wpAny_pure h
  | byt i => obtain ⟨t, rfl⟩ := r; rw [decide_eq_false (fun z => nomatch z)] at h; exact wpAny_pure h
  | flt i => obtain ⟨t, rfl⟩ := r; rw [decide_eq_false (fun z => nomatch z)] at h; exact wpAny_pure h
  | ref i => cases r; rw [decide_eq_false (fun z => nomatch z)] at h; exact wpAny_pure h
  | ty i => cases r; rw [decide_eq_false (fun z => nomatch z)] at h; exact wpAny_pure h
def tIsB (d : Bool) (ta : TE) : TE := fun σ H Q => ta σ H fun x H1 => Q (.bl (decide (x = .bl d))) H1
theorem pc_isB {j : Nat} {pos' : Pos} {d : Bool} {ta : TE} (ha : PE X a ta) : PC X .Is a (.Constant (.bool d) j pos') (tIsB d ta) := by
  refine ⟨fun pins s σ H Q I h => ?_⟩
  refine thn (ha.run pins s σ H _ I h) fun v s1 ⟨x, H1, I1, r1, q1⟩ => ?_
  exact Constant_bool (is_rel r1 ⟨.bl _, H1, I1, rfl, q1⟩)
theorem pe_isBD {j : Nat} {p' : Pos} {d : Bool} {ma : En → M D} (ha : PE X a (tD W Wx ma)) : PE X (.Compare a [.Is] [.Constant (.bool d) j p'] pos) (tD W Wx fun ρ => M.bind (ma ρ) fun x => M.pure (.bl (isBl d x))) :=
  pe_w (pe_cmp (pc_isB ha) rfl) fun σ H Q h => t1 (R1 := rD W) (R' := rD W) (f := fun x _ => M.pure (.bl (isBl d x))) h fun ρ x p v H1 F1 c _ r g => by
    rw [rd_isB r]
    exact good_pure c (.bl _) g
theorem isnot_rel {M : Model} {A : Around} {Q : Value → Shared → Prop} {E : Value → Shared → Prop} {s : Shared} {v : V} {u : Value} {d : Bool} (r : RelV v u) (h : Q (.bool (!decide (v = .bl d))) s) : wpAny M A (compareOp .IsNot u (.bool d)) Q E s := by
  cases v with
  | bl c => cases r; cases c <;> cases d <;> exact wpAny_pure h
  | non => cases r; rw [decide_eq_false (fun z => nomatch z)] at h; exact wpAny_pure h
  | int i => obtain ⟨t, rfl⟩ := r; rw [decide_eq_false (fun z => nomatch z)] at h; exact wpAny_pure h
  | str i => obtain ⟨t, rfl⟩ := r; rw [decide_eq_false (fun z => nomatch z)] at h; exact wpAny_pure h
  | byt i => obtain ⟨t, rfl⟩ := r; rw [decide_eq_false (fun z => nomatch z)] at h; exact wpAny_pure h
  | flt i => obtain ⟨t, rfl⟩ := r; rw [decide_eq_false (fun z => nomatch z)] at h; exact wpAny_pure h
  | ref i => cases r; rw [decide_eq_false (fun z => nomatch z)] at h; exact wpAny_pure h
  | ty i => cases r; rw [decide_eq_false (fun z => nomatch z)] at h; exact wpAny_pure h
def tNotB (d : Bool) (ta : TE) : TE := fun σ H Q => ta σ H fun x H1 => Q (.bl (!decide (x = .bl d))) H1
theorem pc_notB {j : Nat} {pos' : Pos} {d : Bool} {ta : TE} (ha : PE X a ta) : PC X .IsNot a (.Constant (.bool d) j pos') (tNotB d ta) := by
  refine ⟨fun pins s σ H Q I h => ?_⟩
  refine thn (ha.run pins s σ H _ I h) fun v s1 ⟨x, H1, I1, r1, q1⟩ => ?_
  exact Constant_bool (isnot_rel r1 ⟨.bl _, H1, I1, rfl, q1⟩)
theorem pe_notBD {j : Nat} {p' : Pos} {d : Bool} {ma : En → M D} (ha : PE X a (tD W Wx ma)) : PE X (.Compare a [.IsNot] [.Constant (.bool d) j p'] pos) (tD W Wx fun ρ => M.bind (ma ρ) fun x => M.pure (.bl (!isBl d x))) :=
  pe_w (pe_cmp (pc_notB ha) rfl) fun σ H Q h => t1 (R1 := rD W) (R' := rD W) (f := fun x _ => M.pure (.bl (!isBl d x))) h fun ρ x p v H1 F1 c _ r g => by
    rw [rd_isB r]
    exact good_pure c (.bl _) g
theorem rd_int {F : Hp} {v : V} {d : D} {i : Int} (r : DL.Rd W F v d) (e : intOf d = some i) : v = .int i := by
  cases r <;> first | (cases e; done) | (cases e; rfl)
theorem rd_bl {F : Hp} {v : V} {d : D} {i : Bool} (r : DL.Rd W F v d) (e : blOf d = some i) : v = .bl i := by
  cases r <;> first | (cases e; done) | (cases e; rfl)
theorem good_bindO {α : Type} {Wx : WX} {σ : L2.St} {H F : Hp} {o : Option α} {f : α → M D} {p : Pen} {R : Hp → Hp → V → D → Prop} {Q : VK} (h : Good W Wx σ R H F (M.bind (ofO o) f p) Q) : ∃ a, o = some a ∧ Good W Wx σ R H F (f a p) Q := by
  cases o with
  | none => exact h.elim
  | some a => exact ⟨a, rfl, h⟩
theorem pe_negD {ma : En → M D} (ha : PE X a (tD W Wx ma)) : PE X (.UnaryOp .USub a pos) (tD W Wx fun ρ => M.bind (ma ρ) fun x => ofO ((intOf x).map fun i => .int (-i))) :=
  pe_w (pe_un un_neg ha) fun σ H Q h => t1 (R1 := rD W) (R' := rD W) (f := fun x _ => ofO ((intOf x).map fun i => .int (-i))) h fun ρ x p v H1 F1 c _ r g => by
    obtain ⟨d, e, q⟩ := good_ofO g
    cases e1 : intOf x with
    | none => rw [e1] at e; cases e
    | some i =>
      rw [e1] at e; cases e
      exact ⟨i, rd_int r e1, q _ _ _ (Step.refl c) (.int _)⟩
theorem pe_notD {ma : En → M D} (ha : PE X a (tD W Wx ma)) : PE X (.UnaryOp .Not a pos) (tD W Wx fun ρ => M.bind (ma ρ) fun x => M.bind (ofO (blOf x)) fun k => M.pure (.bl (!k))) :=
  pe_w (pe_not ha) fun σ H Q h => t1 (R1 := rD W) (R' := rD W) (f := fun x _ => M.bind (ofO (blOf x)) fun k => M.pure (.bl (!k))) h fun ρ x p v H1 F1 c _ r g => by
    obtain ⟨k, e, g⟩ := good_bindO g
    exact ⟨k, rd_bl r e, good_pure c (.bl _) g⟩
/-! and, or, if else -/
theorem pe_andD {b : Expr} {rest : List Expr} {ma mb : En → M D} (ha : PE X a (tD W Wx ma)) (hb : PE X (.BoolOp .And (b :: rest) pos) (tD W Wx mb)) :
    PE X (.BoolOp .And (a :: b :: rest) pos) (tD W Wx fun ρ => M.bind (ma ρ) fun x => M.bind (ofO (blOf x)) fun k => if k = true then mb ρ else M.pure (.bl false)) :=
  pe_w (pe_and ha hb) fun σ H Q h => t1 (R1 := rD W) (R' := rD W) (f := fun x ρ => M.bind (ofO (blOf x)) fun k => if k = true then mb ρ else M.pure (.bl false)) h fun ρ x p v H1 F1 c en r g => by
    obtain ⟨k, e, g⟩ := good_bindO g
    refine ⟨k, rd_bl r e, ?_⟩
    cases k with
    | true => exact iteT ⟨ρ, F1, p, c, en, g⟩
    | false => exact iteF (good_pure c (.bl _) g)
theorem pe_orD {b : Expr} {rest : List Expr} {ma mb : En → M D} (ha : PE X a (tD W Wx ma)) (hb : PE X (.BoolOp .Or (b :: rest) pos) (tD W Wx mb)) :
    PE X (.BoolOp .Or (a :: b :: rest) pos) (tD W Wx fun ρ => M.bind (ma ρ) fun x => M.bind (ofO (blOf x)) fun k => if k = true then M.pure (.bl true) else mb ρ) :=
  pe_w (pe_or ha hb) fun σ H Q h => t1 (R1 := rD W) (R' := rD W) (f := fun x ρ => M.bind (ofO (blOf x)) fun k => if k = true then M.pure (.bl true) else mb ρ) h fun ρ x p v H1 F1 c en r g => by
    obtain ⟨k, e, g⟩ := good_bindO g
    refine ⟨k, rd_bl r e, ?_⟩
    cases k with
    | true => exact iteT (good_pure c (.bl _) g)
    | false => exact iteF ⟨ρ, F1, p, c, en, g⟩
theorem pe_ifD {c x y : Expr} {mt : En → M Bool} {ma mb : En → M D} (hc : PT X c (DL.tB W Wx mt)) (ha : PE X x (tD W Wx ma)) (hb : PE X y (tD W Wx mb)) : PE X (.IfExp c x y pos) (tD W Wx fun ρ => M.bind (mt ρ) fun k => if k = true then ma ρ else mb ρ) :=
  pe_w (pe_ifExp hc ha hb) fun σ H Q h => t1 (R1 := rB) (R' := rD W) (f := fun k ρ => if k = true then ma ρ else mb ρ) h fun ρ k p v H1 F1 c en r g => by
    have e : v = k := r
    rw [e]
    cases k with
    | true => exact iteT ⟨ρ, F1, p, c, en, g⟩
    | false => exact iteF ⟨ρ, F1, p, c, en, g⟩
theorem chain_imp {o o' : CmpOp} {op op' : Cm} {ma mb mc : En → M D} {σ : L2.St} {H : Hp} {Q : VK} (h : tD W Wx (fun ρ => M.bind (ma ρ) fun x => M.bind (mb ρ) fun y => M.bind (ofO (opCmp op x y)) fun k => if k = true then M.bind (mc ρ) fun z => ofO ((opCmp op' y z).map .bl) else M.pure (.bl false)) σ H Q) :
    tChain (rO W (cmpD op)) (rO W (cmpD op')) (tD W Wx ma) (tD W Wx mb) (tD W Wx mc) σ H Q :=
  t2 keeps_rD (R2 := rD W) (R' := rD W) (f := fun x y ρ => M.bind (ofO (opCmp op x y)) fun k => if k = true then M.bind (mc ρ) fun z => ofO ((opCmp op' y z).map .bl) else M.pure (.bl false)) h fun ρ x y p v u H2 F2 c en r1 r2 g => by
    obtain ⟨k, e, g⟩ := good_bindO g
    refine ⟨F2, p, x, y, .bl k, c, .inl r1, .inl r2, by unfold cmpD; rw [e]; rfl, fun z H3 F3 s r3 => ?_⟩
    cases r3
    refine ⟨k, rfl, ?_⟩
    have en3 := en.step c s
    cases k with
    | true =>
      have g' : Good W Wx σ (rD W) H2 F2 (M.bind (mc ρ) (fun z => ofO ((opCmp op' y z).map .bl)) p) Q := g
      refine iteT ⟨ρ, F3, p, s.ctx, en3, ?_⟩
      have g3 : Good W Wx σ (rD W) H3 F3 (M.bind (mc ρ) (fun z => ofO ((opCmp op' y z).map .bl)) p) Q := good_step s g'
      refine good_bind (R' := rD W) (f := fun z => ofO ((opCmp op' y z).map D.bl)) g3 fun z p4 w4 H4 F4 _ s4 r4 g4 => ?_
      obtain ⟨d, e4, q⟩ := good_ofO g4
      exact ⟨F4, p4, y, z, d, s4.ctx, .inl ((r2.mono s.le).mono s4.le), .inl r4, e4, q⟩
    | false => exact iteF (g _ _ _ s (.bl _))
theorem pe_chainD {o o' : CmpOp} {op op' : Cm} {b c : Expr} {ma mb mc : En → M D} (ho : OpR X (compareOp o) (rO W (cmpD op))) (ho' : OpR X (compareOp o') (rO W (cmpD op'))) (ha : PE X a (tD W Wx ma)) (hb : PE X b (tD W Wx mb)) (hc : PE X c (tD W Wx mc)) (hm : lastMarks [o, o'] [b, c] = false) :
    PE X (.Compare a [o, o'] [b, c] pos) (tD W Wx fun ρ => M.bind (ma ρ) fun x => M.bind (mb ρ) fun y => M.bind (ofO (opCmp op x y)) fun k => if k = true then M.bind (mc ρ) fun z => ofO ((opCmp op' y z).map .bl) else M.pure (.bl false)) :=
  pe_w (pe_chain ho ho' ha hb hc hm) fun σ H Q h => chain_imp (o := o) (o' := o') h
end
end DL
set_option maxHeartbeats 2000000
namespace DL
open PySem PySem.Spec PyProof.Rows L2

/-! ### argument lists -/
theorem star_cons {e : Expr} {es : List Expr} {env : Env} (h : notStar e = true) : starEach (e :: es) env = (false, eval e env) :: starEach es env := by
  cases e <;> first | rfl | (cases h; done)
def noStars : List Expr → Bool
  | [] => true
  | e :: es => notStar e && noStars es
theorem star_any {pos : Pos} {env : Env} : ∀ {es : List Expr}, noStars es = true → (backTo pos (starEach es env)).any (·.1) = false
  | [], _ => rfl
  | e :: es, h => by
    obtain ⟨h1, h2⟩ := Bool.and_eq_true_iff.mp h
    rw [star_cons h1]
    show (false || (backTo pos (starEach es env)).any (·.1)) = false
    rw [star_any h2]
    rfl
theorem dMs_len {T : Tb} {vw : Bool} : ∀ {as : IEs} {es : List Expr} {S : Sc} {sc : Scope} {ρ : En} {p p' : Pen} {xs : List D}, chkEs S sc as es = true → dMs T vw as ρ p = .ok xs p' → xs.length = es.length
  | .nil, [], _, _, _, _, _, _, _, e => by cases e; rfl
  | .nil, _ :: _, _, _, _, _, _, _, h, _ => by cases h
  | .cons _ _, [], _, _, _, _, _, _, h, _ => by cases h
  | .cons a as, e :: es, S, sc, ρ, p, p', xs, h, q => by
    have h' : (chkE S sc a e && notStar e && chkEs S sc as es) = true := h
    obtain ⟨_, h2⟩ := Bool.and_eq_true_iff.mp h'
    have q' : (dM T vw a ρ p).bind (fun x => M.bind (dMs T vw as ρ) fun xs => M.pure (x :: xs)) = .ok xs p' := q
    cases e1 : dM T vw a ρ p with
    | bad => rw [e1] at q'; cases q'
    | err x p1 => rw [e1] at q'; cases q'
    | ok x p1 =>
      rw [e1] at q'
      have q2 : (dMs T vw as ρ p1).bind (fun xs => M.pure (x :: xs)) = .ok xs p' := q'
      cases e2 : dMs T vw as ρ p1 with
      | bad => rw [e2] at q2; cases q2
      | err x p1 => rw [e2] at q2; cases q2
      | ok ys p2 =>
        rw [e2] at q2
        cases q2
        rw [List.length_cons, List.length_cons, dMs_len h2 e2]
theorem noStars_of : ∀ {as : IEs} {es : List Expr} {S : Sc} {sc : Scope}, chkEs S sc as es = true → noStars es = true
  | .nil, [], _, _, _ => rfl
  | .nil, _ :: _, _, _, h => by cases h
  | .cons _ _, [], _, _, h => by cases h
  | .cons a as, e :: es, S, sc, h => by
    have h' : (chkE S sc a e && notStar e && chkEs S sc as es) = true := h
    obtain ⟨h1, h2⟩ := Bool.and_eq_true_iff.mp h'
    obtain ⟨_, h3⟩ := Bool.and_eq_true_iff.mp h1
    show (notStar e && noStars es) = true
    rw [h3, noStars_of h2]
    rfl
section
variable {X : Cx} {W : Wd} {Wx : WX} {a b : Expr} {pos p0 : Pos}
theorem pa_w {es : List Expr} {t t' : TA} (h : PA X es t) (k : ∀ σ H Q, t' σ H Q → t σ H Q) : PA X es t' := ⟨fun pos pins s σ H Q I z => h.run pos pins s σ H Q I (k _ _ _ z)⟩
theorem pa_nilM {R : Hp → Hp → List V → List D → Prop} (r : ∀ H F, R H F [] []) : PA X [] (tM W Wx R fun _ => M.pure []) := pa_w pa_nil fun σ H Q z => by
  obtain ⟨ρ, F, p, c, en, g⟩ := z
  exact g [] H F (Step.refl c) (r _ _)
theorem pa_consM {es : List Expr} {R1 : Hp → Hp → V → D → Prop} {R : Hp → Hp → List V → List D → Prop} (k1 : Keeps W R1) (r : ∀ H F v vs d ds, R1 H F v d → R H F vs ds → R H F (v :: vs) (d :: ds)) {ma : En → M D} {ms : En → M (List D)} (hs : notStar a = true)
    (ha : PE X a (tM W Wx R1 ma)) (h : PA X es (tM W Wx R ms)) : PA X (a :: es) (tM W Wx R fun ρ => M.bind (ma ρ) fun x => M.bind (ms ρ) fun xs => M.pure (x :: xs)) :=
  pa_w (pa_cons ha h (star_cons hs)) fun σ H Q z => t2 k1 (R2 := R) (R' := R) (f := fun x xs _ => M.pure (x :: xs)) z fun ρ x xs p v vs H2 F2 c _ r1 r2 g => g (v :: vs) H2 F2 (Step.refl c) (r _ _ _ _ _ _ r1 r2)
/-! displays -/
theorem pe_tupD {es : List Expr} {n : Nat} {ms : En → M (List D)} (h : PA X es (tAs W Wx ms)) (hl : ∀ ρ p xs p', ms ρ p = .ok xs p' → xs.length ≤ 1000) : PE X (.Tuple es n pos) (tD W Wx fun ρ => M.bind (ms ρ) fun xs => M.pure (.tup xs)) :=
  pe_w (pe_tup h) fun σ H Q z => by
    obtain ⟨ρ, F, p, c, en, g⟩ := z
    refine ⟨ρ, F, p, c, en, good_bind (R := rA W) (f := fun xs => M.pure (D.tup xs)) g fun xs p1 vs H1 F1 e s r g1 => ⟨?_, ?_⟩⟩
    · rw [RdA.length r, sizeLine_eq]
      have := hl _ _ _ _ e
      omega
    · exact lay_tup s.ctx r fun v H' F' s' r' => g1 v H' F' s' r'
/-- a new list of one's own -/
def GoodF (W : Wd) (Wx : WX) (σ : L2.St) (H F : Hp) (o : Out (List D)) (Q : VK) : Prop := match o with
  | .ok xs p' => ∀ q vs H' F', Step W H F H' F' p' → H q = none → F' q = none → H' q = some (.lst vs) → RdA W F' vs xs → Q (.ref q) H'
  | .err e p' => ∀ cls dd H' F', Step W H F H' F' p' → ExcAt W H' F' e cls dd → Wx cls dd σ H'
  | .bad => False
def tF (W : Wd) (Wx : WX) (m : En → M (List D)) : TE := fun σ H Q => ∃ ρ F p, Ctx W H F p ∧ EnvOk W H F σ ρ ∧ GoodF W Wx σ H F (m ρ p) Q
theorem freeze {H F H' F' : Hp} {p : Pen} {q : Addr} {vs : List V} (s : Step W H F H' F' p) (hn : H q = none) (hf : F' q = none) (hh : H' q = some (.lst vs)) : Step W H F H' (upd F' q (.lst vs)) p := by
  have hq : q ≠ W.pa := fun z => by
    obtain ⟨ca, e⟩ := s.ctx.pa
    rw [z, e] at hh; cases hh
  refine ⟨s.pk, s.ext, s.tb, ⟨fun b u e => by rw [upd_ne (ne_of_none (s.le b u e) hf)]; exact s.le b u e, fun b ws hu e e' => ?_⟩, ⟨fun b u e => ?_, ⟨?_, s.ctx.pen.ok, ?_⟩, fun b u e => by rw [upd_ne (ne_of_none (s.ctx.b0 b u e) hf)]; exact s.ctx.b0 b u e, fun b ps e => ?_, s.ctx.tbs⟩⟩
  · rw [upd_ne (ne_of_none e' hn)]; exact s.new.fr b ws hu e e'
  · by_cases hb : b = q
    · subst hb; rw [upd_same] at e; cases e; exact hh
    · rw [upd_ne hb] at e; exact s.ctx.sub b u e
  · rw [upd_ne (Ne.symm hq)]; exact s.ctx.pen.no
  · obtain ⟨ca, h1, h2⟩ := s.ctx.pen.ob
    exact ⟨ca, h1, by rw [upd_ne (ne_of_none h2 hf)]; exact h2⟩
  · by_cases hb : b = q
    · subst hb; rw [upd_same] at e; cases e
    · rw [upd_ne hb] at e; exact s.ctx.nt b ps e
theorem pe_frz {e : Expr} {m : En → M (List D)} (h : PE X e (tF W Wx m)) : PE X e (tD W Wx fun ρ => M.bind (m ρ) fun xs => M.pure (.lst xs)) := pe_w h fun σ H Q z => by
  obtain ⟨ρ, F, p, c, en, g⟩ := z
  refine ⟨ρ, F, p, c, en, ?_⟩
  have g' : Good W Wx σ (rD W) H F ((m ρ p).bind fun xs => M.pure (.lst xs)) Q := g
  cases q : m ρ p with
  | bad => rw [q] at g'; exact g'
  | err e p1 => rw [q] at g'; exact g'
  | ok xs p1 =>
    rw [q] at g'
    intro a vs H' F' s hn hf hh r
    have s2 := freeze s hn hf hh
    exact g' _ H' _ s2 (.lst upd_same (r.mono (fun b u e => by rw [upd_ne (ne_of_none e hf)]; exact e)))
/-- from a rule that lays a list of items that read -/
theorem good_lay {m : Out (List D)} {H F : Hp} {σ : L2.St} {Q : VK} {p : Pen} {xs : List D} {vs : List V} (c : Ctx W H F p) (r : RdA W F vs xs) (g : GoodF W Wx σ H F (.ok xs p) Q) : ∀ q, H q = none → Q (.ref q) (upd H q (.lst vs)) := fun q hq =>
  g q vs _ F (Step.lay0 c (.lst vs) hq) hq (c.freeF hq) upd_same r
theorem goodF_step {o : Out (List D)} {σ : L2.St} {H F H1 F1 : Hp} {p p1 : Pen} {Q : VK} (c : Ctx W H F p) (s : Step W H F H1 F1 p1) (h : GoodF W Wx σ H F o Q) : GoodF W Wx σ H1 F1 o Q := by
  cases o with
  | bad => exact h
  | err e p => exact fun cls dd H2 F2 s2 q => h cls dd H2 F2 (s.trans s2) q
  | ok d p =>
    intro q vs H2 F2 s2 hn hf hh r
    refine h q vs H2 F2 (s.trans s2) ?_ hf hh r
    cases e : H q with
    | none => rfl
    | some u =>
      have hp : q ≠ W.pa := fun z => by
        obtain ⟨ca, e'⟩ := s2.ctx.pa
        rw [z, e'] at hh; cases hh
      obtain ⟨u', e2⟩ := s.there hp e
      rw [e2] at hn; cases hn
theorem goodF_bind {α β : Type} {R : Hp → Hp → β → α → Prop} {σ : L2.St} {H F : Hp} {p : Pen} (c : Ctx W H F p) {o : Out α} {f : α → M (List D)} {Q : VK} {Q1 : β → Hp → Prop} (h : GoodF W Wx σ H F (o.bind f) Q)
    (k : ∀ d p1 v H1 F1, o = .ok d p1 → Step W H F H1 F1 p1 → R H1 F1 v d → GoodF W Wx σ H1 F1 (f d p1) Q → Q1 v H1) : Good W Wx σ R H F o Q1 := by
  cases o with
  | bad => exact h
  | err e p => exact h
  | ok d p1 =>
    intro v H1 F1 s r
    have h' : GoodF W Wx σ H F (f d p1) Q := h
    exact k d p1 v H1 F1 rfl s r (goodF_step c s h')
theorem pe_lstF {es : List Expr} {ms : En → M (List D)} (h : PA X es (tAs W Wx ms)) (hl : ∀ ρ p xs p', ms ρ p = .ok xs p' → xs.length ≤ 1000) : PE X (.List es pos) (tF W Wx ms) :=
  pe_w (pe_lst h) fun σ H Q z => by
    obtain ⟨ρ, F, p, c, en, g⟩ := z
    have g0 : GoodF W Wx σ H F ((ms ρ p).bind fun xs => M.pure xs) Q := by
      cases e : ms ρ p with
      | bad => rw [e] at g; exact g
      | err x p1 => rw [e] at g; exact g
      | ok xs p1 => rw [e] at g; exact g
    refine ⟨ρ, F, p, c, en, goodF_bind (R := rA W) c g0 fun xs p1 vs H1 F1 e s r g1 => ⟨?_, good_lay (m := .bad) s.ctx r g1⟩⟩
    rw [RdA.length r, sizeLine_eq]
    have := hl _ _ _ _ e
    omega
end
end DL
set_option maxHeartbeats 2000000
namespace DL
open PySem PySem.Spec PyProof.Rows L2
section
variable {X : Cx} {W : Wd} {Wx : WX} {a b : Expr} {pos p0 p1' p2' : Pos}
/-! slices -/
def rOI : Hp → Hp → Option Int → Option Int → Prop := fun _ _ a b => a = b
theorem keeps_rOI : Keeps W rOI := fun _ _ _ _ _ _ _ _ _ _ h => h
theorem po_noneM : PO X none (tM W Wx rOI fun _ => M.pure none) := ⟨fun pins s σ H Q I z => (po_none (X := X)).run pins s σ H Q I (by
  obtain ⟨ρ, F, p, c, en, g⟩ := z
  exact g none H F (Step.refl c) rfl)⟩
theorem po_someM {ma : En → M D} (ha : PE X a (tD W Wx ma)) : PO X (some a) (tM W Wx rOI fun ρ => M.bind (ma ρ) fun x => ofO ((intOf x).map some)) := ⟨fun pins s σ H Q I z => (po_some ha).run pins s σ H Q I (by
  refine t1 (R1 := rD W) (R' := rOI) (f := fun x _ => ofO ((intOf x).map some)) z fun ρ x p v H1 F1 c _ r g => ?_
  cases e : intOf x with
  | none => rw [e] at g; exact g.elim
  | some i => rw [e] at g; exact ⟨i, rd_int r e, g _ H1 F1 (Step.refl c) rfl⟩)⟩
theorem pe_slcD (hK : W.K = X.K) {lo hi : Option Expr} {ma : En → M D} {ml mh : En → M (Option Int)} (ha : PE X a (tV W Wx ma)) (hl : PO X lo (tM W Wx rOI ml)) (hh : PO X hi (tM W Wx rOI mh)) :
    PE X (.Subscript a (.Slice lo hi none p0) pos) (tD W Wx fun ρ => M.bind (ma ρ) fun x => M.bind (ml ρ) fun l => M.bind (mh ρ) fun h => ofO (opSlc x l h)) :=
  pe_w (pe_slice (slr hK) ha hl hh) fun σ H Q z => t3 keeps_Vw keeps_rOI (R3 := rOI) (R' := rD W) (f := fun x l h _ => ofO (opSlc x l h)) z fun ρ x l h p v u w H2 F2 c _ r1 r2 r3 g => by
    obtain ⟨d, e, q⟩ := good_ofO g
    cases (show u = l from r2)
    cases (show w = h from r3)
    exact ⟨F2, p, x, d, c, r1, e, q⟩
/-! fields -/
theorem notCall0_base {e : Expr} {f : Str} {env : Env} (h : notCall0 e = true) (w : Sem Value) : attributeBase e f env w = w := by
  unfold attributeBase
  cases e with
  | Call fn as ks ps =>
    cases as with
    | nil => cases h
    | cons _ _ => cases fn <;> rfl
  | _ => rfl
theorem lookup_at : ∀ {ks : List Str} {fs : List (Str × V)} {k : Nat} {f : Str} {v : V}, fs.map (·.1) = ks → ks.Nodup → ks[k]? = some f → (fs.map (·.2))[k]? = some v → fs.lookup f = some v
  | _, [], k, f, v, e, _, _, h => by simp at h
  | ks, (g, u) :: fs, 0, f, v, e, nd, hf, hv => by
    subst e
    simp at hf hv
    subst hf hv
    simp [List.lookup]
  | ks, (g, u) :: fs, k + 1, f, v, e, nd, hf, hv => by
    subst e
    simp only [List.map_cons, List.nodup_cons] at nd
    simp at hf hv
    have hne : (f == g) = false := by
      rw [beq_eq_false_iff_ne]
      intro z
      subst z
      apply nd.1
      obtain ⟨x, hx⟩ := hf
      have : f ∈ fs.map (·.1) := List.mem_map.mpr ⟨_, List.mem_of_getElem? hx, rfl⟩
      exact this
    have ih := lookup_at (fs := fs) (k := k) (f := f) (v := v) rfl nd.2 (by simpa using hf) (by simpa using hv)
    simp [List.lookup, hne, ih]
theorem pe_fldD (hK : W.K = X.K) (hcl : ∀ c C, W.cls c = some C → ClsOk X.K C c) {f : Nat} {ma : En → M D} (ha : PE X a (tD W Wx ma)) (hb : notCall0 a = true) :
    PE X (.Attribute a (fname f) pos) (tD W Wx fun ρ => M.bind (ma ρ) fun x => ofO (opFld f x)) :=
  pe_w (pe_fld ha (notCall0_base hb _)) fun σ H Q h => t1 (R1 := rD W) (R' := rD W) (f := fun x _ => ofO (opFld f x)) h fun ρ x p v H1 F1 c _ r g => by
    obtain ⟨d, e, q⟩ := good_ofO g
    cases r <;> try (cases e; done)
    rename_i a C dx k0 fs xs h1 h2 h3 h4 h5
    have e' : ((cfl k0).idxOf? f).bind (fun k => xs[k]?) = some d := e
    cases ek : (cfl k0).idxOf? f with
    | none => rw [ek] at e'; cases e'
    | some k =>
      rw [ek] at e'
      have e2 : xs[k]? = some d := e'
      have hk : (cfl k0)[k]? = some f := by
        have := List.findIdx?_eq_some_iff_getElem.mp ek
        obtain ⟨hlt, hp, _⟩ := this
        rw [List.getElem?_eq_getElem hlt]
        congr 1
        exact beq_iff_eq.mp hp
      obtain ⟨v, hv, rv⟩ := h5.get' e2
      have cl := hcl k0 C h3
      have hl := lookup_at h4 cl.nd (k := k) (f := fname f) (by rw [List.getElem?_map, hk]; rfl) hv
      exact ⟨a, C, dx, fs, v, rfl, c.sub _ _ h1, cl.cl, cl.no f (List.mem_of_getElem? hk), hl, q _ _ _ (Step.refl c) rv⟩
/-! calls -/
theorem call_spD {m : List D → M D} {n : Nat} {σ : L2.St} {H F : Hp} {p : Pen} {vs : List V} {xs : List D} {Q : VK} (hl : vs.length = n) (c : Ctx W H F p) (r : RdA W F vs xs) (g : Good W Wx σ (rD W) H F (m xs p) Q) : spD W m n vs H Q (WE Wx σ) := by
  refine ⟨hl, xs, F, p, c, r, ?_⟩
  cases e : m xs p with
  | bad => rw [e] at g; exact g
  | err x p1 => rw [e] at g; exact fun cls dd H' F' s q => g cls dd H' F' s q
  | ok x p1 => rw [e] at g; exact g
theorem pe_callD {L n : Nat} {x : Str} {m : List D → M D} {e : Expr} {es : List Expr} {ms : En → M (List D)} (hq : Quiet L X.A) (tk : Takes X Wx) (F : FnX W X.prog X.w X.K X.mg X.base L x n m) (hno : noM x = true) (hg : Gl X x) (hd : (x == ("__debug__" : Str)) = false) (hs : noStars (e :: es) = true)
    (h : PA X (e :: es) (tAs W Wx ms)) (hl : ∀ ρ p xs p', ms ρ p = .ok xs p' → xs.length = n) :
    PE X (.Call (.Name x p0) (e :: es) [] pos) (tD W Wx fun ρ => M.bind (ms ρ) fun xs => m xs) := by
  obtain ⟨h1, h2⟩ := Bool.and_eq_true_iff.mp (show (notStar e && noStars es) = true from hs)
  have F2 : ClD W X.prog X.w X.K X.mg X.base L x n m ∨ FnD W X.prog X.w X.K X.mg X.base L x n m := by
    rcases F with ⟨_, F⟩ | F
    · exact F.symm
    · rw [F.1] at hno; cases hno
  rcases F2 with F | F
  · obtain ⟨C, f, fd, ps, k, hk1, hn, hm, hM, hb, G⟩ := F
    refine ⟨fun pins s σ H Q I z => ?_⟩
    refine wpAny_Call_Name_kw (ld_glob I hg hm ?_ hd)
    refine PySem.W.callWith_K (h₀ := X.base) I.ok.mod.kin hM.kp (thn (h.run pos pins s σ H (fun vs H1 => vs.length = n ∧ ∃ xs F p, Ctx W H1 F p ∧ RdA W F vs xs ∧ Good W Wx σ (rD W) H1 F (m xs p) Q) I ?_) fun us s1 ⟨vs, H1, I1, r, q⟩ => ⟨I1.kIn, ?_⟩) (star_cons h1) (star_any h2)
    · obtain ⟨ρ, F, p, c, en, g⟩ := z
      exact ⟨ρ, F, p, c, en, good_bind (R := rA W) (f := m) g fun xs p1 vs H1 F1 e s r g1 => ⟨by rw [RdA.length r]; exact hl _ _ _ _ e, xs, F1, p1, s.ctx, r, g1⟩⟩
    · obtain ⟨hlen, xs, F, p, c, rx, g⟩ := q
      refine run_makeG hM G (hq.mono hk1) hb tk I1 r fun y d hy hd' hne => ⟨y, d, vs, H1, rfl, hlen, rfl, hy, hd', hne, xs, F, p, c, rx, ?_⟩
      cases e : m xs p with
      | bad => rw [e] at g; exact g
      | err x p1 => rw [e] at g; exact fun cls dd H' F' s q => g cls dd H' F' s q
      | ok x p1 => rw [e] at g; exact fun v H' F' s q ev => ⟨rfl, by subst ev; exact g _ H' F' s q⟩
  obtain ⟨f, fd, ps, hn, hm, hk, hb, G⟩ := F
  refine ⟨fun pins s σ H Q I z => ?_⟩
  refine wpAny_Call_Name_kw (ld_glob I hg hm ?_ hd)
  refine PySem.W.callWith_K (h₀ := X.base) I.ok.mod.kin hk (thn (h.run pos pins s σ H (fun vs H1 => spD W m n vs H1 Q (WE Wx σ)) I ?_) fun us s1 ⟨vs, H1, I1, r, q⟩ => ⟨I1.kIn, ?_⟩) (star_cons h1) (star_any h2)
  · obtain ⟨ρ, F, p, c, en, g⟩ := z
    exact ⟨ρ, F, p, c, en, good_bind (R := rA W) (f := m) g fun xs p1 vs H1 F1 e s r g1 => call_spD (by rw [RdA.length r]; exact hl _ _ _ _ e) s.ctx r g1⟩
  · exact run_fng G hq hb tk I1 r q
/-! built-ins -/
theorem CallR.imp {f : Value} {r r' : List V → Hp → VK → Prop} (h : CallR X f r) (k : ∀ vs H Q, r' vs H Q → r vs H Q) : CallR X f r' := fun pins s σ H xs us Q I rs q => h pins s σ H xs us Q I rs (k _ _ _ q)
theorem tA_cl {g : List D → Option D} {ms : En → M (List D)} {σ : L2.St} {H : Hp} {Q : VK} (h : tD W Wx (fun ρ => M.bind (ms ρ) fun xs => ofO (g xs)) σ H Q) : tVs W Wx ms σ H fun vs H1 => rCl W g vs H1 Q :=
  t1 (R1 := VwA W) (R' := rD W) (f := fun xs _ => ofO (g xs)) h fun ρ xs p vs H1 F1 c _ r gd => by
    obtain ⟨d, e, q⟩ := good_ofO gd
    exact ⟨F1, p, xs, d, c, r, e, q⟩
theorem pe_bltD {id : String} {x : Str} {g : List D → Option D} {e : Expr} {es : List Expr} {ms : En → M (List D)} (hc : CallR X (.builtin id) (rCl W g)) (hg : Gl X x) (hm : X.mg x = none) (hv : bootBuiltins x = some (.builtin id)) (hn : x ≠ "__name__") (hd : (x == ("__debug__" : Str)) = false) (hs : noStars (e :: es) = true)
    (h : PA X (e :: es) (tVs W Wx ms)) : PE X (.Call (.Name x p0) (e :: es) [] pos) (tD W Wx fun ρ => M.bind (ms ρ) fun xs => ofO (g xs)) := by
  obtain ⟨h1, h2⟩ := Bool.and_eq_true_iff.mp (show (notStar e && noStars es) = true from hs)
  exact pe_w (pe_callB hc hg hm hv h hn hd (star_cons h1) (star_any h2)) fun σ H Q z => tA_cl z
theorem pe_bltTy {id : String} {x : Str} {g : List D → Option D} {e : Expr} {es : List Expr} {ms : En → M (List D)} (hc : CallR X (.type id) (rCl W g)) (hg : Gl X x) (hm : X.mg x = none) (hv : bootBuiltins x = some (.type id)) (hn : x ≠ "__name__") (hd : (x == ("__debug__" : Str)) = false) (hs : noStars (e :: es) = true)
    (h : PA X (e :: es) (tVs W Wx ms)) : PE X (.Call (.Name x p0) (e :: es) [] pos) (tD W Wx fun ρ => M.bind (ms ρ) fun xs => ofO (g xs)) := by
  obtain ⟨h1, h2⟩ := Bool.and_eq_true_iff.mp (show (notStar e && noStars es) = true from hs)
  exact pe_w (pe_callTy hc hg hm hv h hn hd (star_cons h1) (star_any h2)) fun σ H Q z => tA_cl z
theorem vwA1 {H F : Hp} {vs : List V} {d : D} (h : VwA W H F vs [d]) : ∃ v, vs = [v] ∧ Vw W H F v d := by
  cases vs with
  | nil => exact h.elim
  | cons v vs => cases vs with
    | nil => exact ⟨v, rfl, h.1⟩
    | cons _ _ => exact h.2.elim
theorem vwA2 {H F : Hp} {vs : List V} {d e : D} (h : VwA W H F vs [d, e]) : ∃ v u, vs = [v, u] ∧ Vw W H F v d ∧ Vw W H F u e := by
  cases vs with
  | nil => exact h.elim
  | cons v vs =>
    obtain ⟨u, rfl, r⟩ := vwA1 h.2
    exact ⟨v, u, rfl, h.1, r⟩
theorem one_arg {b : Blt} {ds : List D} {d : D} (h : opBlt b ds = some d) (hb : b = .len ∨ b = .tuple ∨ b = .sum ∨ b = .all ∨ b = .any ∨ b = .int ∨ b = .abs ∨ b = .repr) : ∃ x, ds = [x] := by
  cases ds with
  | nil => rcases hb with rfl | rfl | rfl | rfl | rfl | rfl | rfl | rfl <;> cases h
  | cons x r => cases r with
    | nil => exact ⟨x, rfl⟩
    | cons y r => rcases hb with rfl | rfl | rfl | rfl | rfl | rfl | rfl | rfl <;> first | (cases h; done) | (cases x <;> cases h)
theorem map_some {α β : Type} {o : Option α} {f : α → β} {b : β} (e : o.map f = some b) : ∃ a, o = some a ∧ f a = b := by
  cases o with
  | none => cases e
  | some a => exact ⟨a, rfl, Option.some.inj e⟩
theorem cb_len (hK : W.K = X.K) : CallR X (.builtin "len") (rCl W (opBlt .len)) := CallR.imp (call_len_seq (X := X)) fun vs H Q h => by
  obtain ⟨F, p, ds, d, c, r, e, q⟩ := h
  obtain ⟨x, rfl⟩ := one_arg e (by simp)
  obtain ⟨v, rfl, r1⟩ := vwA1 r
  obtain ⟨xs, e1, rfl⟩ := map_some (show (seqOf x).map (fun xs => D.int xs.length) = some d from e)
  obtain ⟨a, ws, rfl, hs, r2⟩ := r1.seq c e1
  refine ⟨a, ws, rfl, hK ▸ hs, ?_⟩
  rw [r2.length]
  exact q _ _ _ (Step.refl c) (.int _)
theorem cb_tuple (hK : W.K = X.K) : CallR X (.type "tuple") (rCl W (opBlt .tuple)) := CallR.imp (call_tuple_of (X := X)) fun vs H Q h => by
  obtain ⟨F, p, ds, d, c, r, e, q⟩ := h
  obtain ⟨x, rfl⟩ := one_arg e (by simp)
  obtain ⟨v, rfl, r1⟩ := vwA1 r
  obtain ⟨xs, e1, rfl⟩ := map_some (show (seqOf x).map D.tup = some d from e)
  cases x <;> try (cases e1; done)
  · cases e1
    obtain ⟨a, ws, rfl, hs, r2⟩ := r1.tup
    exact ⟨a, ws, rfl, .inr ⟨hK ▸ sqT_mono c.sub hs, q _ _ _ (Step.refl c) (.tup hs r2)⟩⟩
  · cases e1
    obtain ⟨a, ws, rfl, hs, r2⟩ := r1.lst c
    exact ⟨a, ws, rfl, .inl ⟨SqL.of hs, lay_tup c r2 q⟩⟩
end
end DL
set_option maxHeartbeats 2000000
namespace DL
open PySem PySem.Spec PyProof.Rows L2
theorem RdA.ints {W : Wd} {F : Hp} : ∀ {vs : List V} {xs : List D} {ns : List Int}, RdA W F vs xs → intsD xs = some ns → vs = ns.map V.int
  | _, _, _, .nil, e => by cases e; rfl
  | _, _, _, .cons (d := d) (xs := xs) h r, e => by
    cases d <;> try (cases e; done)
    rename_i i
    have e' : (intsD xs).map (i :: ·) = some _ := e
    cases q : intsD xs with
    | none => rw [q] at e'; cases e'
    | some ns => rw [q] at e'; cases e'; cases h; rw [RdA.ints r q]; rfl
theorem RdA.bls {W : Wd} {F : Hp} : ∀ {vs : List V} {xs : List D} {ns : List Bool}, RdA W F vs xs → blsD xs = some ns → vs = ns.map V.bl
  | _, _, _, .nil, e => by cases e; rfl
  | _, _, _, .cons (d := d) (xs := xs) h r, e => by
    cases d <;> try (cases e; done)
    rename_i i
    have e' : (blsD xs).map (i :: ·) = some _ := e
    cases q : blsD xs with
    | none => rw [q] at e'; cases e'
    | some ns => rw [q] at e'; cases e'; cases h; rw [RdA.bls r q]; rfl
theorem bind_some {α β : Type} {o : Option α} {f : α → Option β} {b : β} (e : o.bind f = some b) : ∃ a, o = some a ∧ f a = some b := by
  cases o with
  | none => cases e
  | some a => exact ⟨a, rfl, e⟩
theorem preSum_cons (n : Int) (ns : List Int) : ∀ k, preSum (fun i => (n :: ns).getD i 0) (k + 1) = n + preSum (fun i => ns.getD i 0) k
  | 0 => by simp [preSum]
  | k + 1 => by rw [preSum, preSum_cons n ns k, preSum]; simp; omega
theorem preSum_list : ∀ ns : List Int, preSum (fun i => ns.getD i 0) ns.length = ns.sum
  | [] => by simp [preSum]
  | n :: ns => by rw [List.length_cons, preSum_cons, preSum_list ns, List.sum_cons]
theorem _root_.PySem.Heap.IsTuple.push_of {h : Heap} {a : Addr} {items : Array Value} (t : h.IsTuple a items) (o : Obj) : (h.push o).IsTuple a items := by
  obtain ⟨u, e, c, n, d⟩ := t
  exact ⟨u, Heap.get?_push_of_some _ e, c, n, d⟩
theorem ints_at : ∀ {its : List Value} {ns : List Int}, IntsAre its ns → ∀ (i : Nat) (v : Value), its[i]? = some v → ∃ t, v = .int (ns.getD i 0) t
  | _, _, .nil, i, v, h => by simp at h
  | _, _, .cons n t r, 0, v, h => by simp at h; exact ⟨t, h.symm⟩
  | _, _, .cons n t r, i + 1, v, h => by simpa using ints_at r i v (by simpa using h)
section
variable {X : Cx} {W : Wd}
theorem call_sumT (hc : X.calm = true) : CallR X (.builtin "sum") (fun vs H Q => ∃ (a : Addr) (ns : List Int), vs = [V.ref a] ∧ SqT X.K H a (ns.map V.int) ∧ Q (.int ns.sum) H) := by
  intro pins s σ H vs us Q I r h
  obtain ⟨a, ns, rfl, hs, q⟩ := h
  obtain ⟨its, rv, hl, _⟩ := I.tuple hs
  rw [Vals.ref1 r]
  have hi := rv.ints
  refine call_sum_walkG (wpAny_pyIter_tuple (t := a) (items := its.toArray) hl ?_)
  refine ⟨s.heap.objs.size, _, _, _, _, _, fun i => ns.getD i 0, rfl, Walks.tuple (A := X.A.in1) (I.ok.hd hc) s.heap.objs.size a ?_ its.toArray, ?_, ?_, ?_, ?_⟩
  · obtain ⟨_, e, _⟩ := hl; exact Nat.ne_of_lt (Heap.lt_size e)
  · exact ⟨⟨_, Heap.get?_push_size _ rfl, rfl, rfl⟩, Heap.IsTuple.push_of hl _⟩
  · intro b hb
    have hlt : a < s.heap.objs.size := by obtain ⟨_, e, _⟩ := hl; exact Heap.lt_size e
    have hb' : b = s.heap.objs.size ∨ b = a := by simpa using hb
    refine (show b < (s.heap.push _).objs.size from ?_)
    rw [Heap.size_push]
    rcases hb' with e | e
    · rw [e]; exact Nat.lt_succ_self _
    · rw [e]; exact Nat.lt_succ_of_lt hlt
  · intro i v hv
    exact ints_at hi i v (by simpa using hv)
  · intro h' tk t' hk
    refine ⟨.int _, H, I.kept fun b o eo => hk b o (fun hmem => ?_) (Heap.get?_push_of_some _ eo), ⟨_, rfl⟩, ?_⟩
    · rcases List.mem_cons.mp hmem with e1 | hmem
      · exact absurd (e1 ▸ Heap.lt_size eo) (Nat.lt_irrefl _)
      · cases hmem
    · have : preSum (fun i => ns.getD i 0) its.toArray.size = ns.sum := by
        rw [List.size_toArray, show its.length = ns.length from by have := Vals.length rv; simpa using this.symm]
        exact preSum_list ns
      rw [this]; exact q

theorem truthT {prog : Program} {w : World} {A : Around} {bs : List Bool} {its : List Value} (e : its = bs.map Value.bool) : TruthOf prog w A (fun i v => its.toArray[i]? = some v) (fun i => bs.getD i false) := truth_bools e
theorem call_allT (hc : X.calm = true) : CallR X (.builtin "all") (fun vs H Q => ∃ (a : Addr) (bs : List Bool), vs = [V.ref a] ∧ SqT X.K H a (bs.map V.bl) ∧ Q (.bl (bs.all id)) H) := by
  intro pins s σ H vs us Q I r h
  obtain ⟨a, bs, rfl, hs, q⟩ := h
  obtain ⟨its, rv, hl, _⟩ := I.tuple hs
  rw [Vals.ref1 r]
  have hb := rv.bls
  have hlt : a < s.heap.objs.size := by obtain ⟨_, e, _⟩ := hl; exact Heap.lt_size e
  refine call_all_walk (wpAny_pyIter_tuple (t := a) (items := its.toArray) hl ?_)
  refine ⟨s.heap.objs.size, _, _, _, _, _, _, rfl, Walks.tuple (A := X.A.in1) (I.ok.hd hc) s.heap.objs.size a (Nat.ne_of_lt hlt) its.toArray, ⟨⟨_, Heap.get?_push_size _ rfl, rfl, rfl⟩, Heap.IsTuple.push_of hl _⟩, truth_bools hb, fun h' tk hk => ?_⟩
  refine ⟨.bl _, H, I.kept fun b o eo => hk b o (fun hmem => ?_) (Heap.get?_push_of_some _ eo), ?_, q⟩
  · rcases List.mem_cons.mp hmem with e1 | hmem
    · exact absurd (e1 ▸ Heap.lt_size eo) (Nat.lt_irrefl _)
    · cases hmem
  · show Value.bool _ = Value.bool _
    rw [← L2.all_range, hb, List.size_toArray, List.length_map]
theorem call_anyT (hc : X.calm = true) : CallR X (.builtin "any") (fun vs H Q => ∃ (a : Addr) (bs : List Bool), vs = [V.ref a] ∧ SqT X.K H a (bs.map V.bl) ∧ Q (.bl (bs.any id)) H) := by
  intro pins s σ H vs us Q I r h
  obtain ⟨a, bs, rfl, hs, q⟩ := h
  obtain ⟨its, rv, hl, _⟩ := I.tuple hs
  rw [Vals.ref1 r]
  have hb := rv.bls
  have hlt : a < s.heap.objs.size := by obtain ⟨_, e, _⟩ := hl; exact Heap.lt_size e
  refine call_any_walk (wpAny_pyIter_tuple (t := a) (items := its.toArray) hl ?_)
  refine ⟨s.heap.objs.size, _, _, _, _, _, _, rfl, Walks.tuple (A := X.A.in1) (I.ok.hd hc) s.heap.objs.size a (Nat.ne_of_lt hlt) its.toArray, ⟨⟨_, Heap.get?_push_size _ rfl, rfl, rfl⟩, Heap.IsTuple.push_of hl _⟩, truth_bools hb, fun h' tk hk => ?_⟩
  refine ⟨.bl _, H, I.kept fun b o eo => hk b o (fun hmem => ?_) (Heap.get?_push_of_some _ eo), ?_, q⟩
  · rcases List.mem_cons.mp hmem with e1 | hmem
    · exact absurd (e1 ▸ Heap.lt_size eo) (Nat.lt_irrefl _)
    · cases hmem
  · show Value.bool _ = Value.bool _
    rw [← L2.any_range, hb, List.size_toArray, List.length_map]
theorem CallR.or {f : Value} {r1 r2 : List V → Hp → VK → Prop} (a : CallR X f r1) (b : CallR X f r2) : CallR X f (fun vs H Q => r1 vs H Q ∨ r2 vs H Q) := fun pins s σ H xs us Q I rs q => by
  rcases q with q | q
  · exact a pins s σ H xs us Q I rs q
  · exact b pins s σ H xs us Q I rs q
theorem cb_sum (hc : X.calm = true) (hK : W.K = X.K) : CallR X (.builtin "sum") (rCl W (opBlt .sum)) := CallR.imp (CallR.or (cr_sum hc) (call_sumT hc)) fun vs H Q h => by
  obtain ⟨F, p, ds, d, c, r, e, q⟩ := h
  obtain ⟨x, rfl⟩ := one_arg e (by simp)
  obtain ⟨v, rfl, r1⟩ := vwA1 r
  obtain ⟨xs, e1, e2⟩ := bind_some (show (seqOf x).bind (fun xs => (intsD xs).map fun ns => D.int ns.sum) = some d from e)
  obtain ⟨ns, e3, rfl⟩ := map_some e2
  obtain ⟨a, ws, rfl, hs, r2⟩ := r1.seq c e1
  cases r2.ints e3
  have q' := q _ _ _ (Step.refl c) (.int ns.sum)
  rcases hs with hs | hs
  · exact .inl ⟨a, ns, rfl, hK ▸ hs, q'⟩
  · exact .inr ⟨a, ns, rfl, hK ▸ hs, q'⟩
theorem cb_all (hc : X.calm = true) (hK : W.K = X.K) : CallR X (.builtin "all") (rCl W (opBlt .all)) := CallR.imp (CallR.or (cr_all hc) (call_allT hc)) fun vs H Q h => by
  obtain ⟨F, p, ds, d, c, r, e, q⟩ := h
  obtain ⟨x, rfl⟩ := one_arg e (by simp)
  obtain ⟨v, rfl, r1⟩ := vwA1 r
  obtain ⟨xs, e1, e2⟩ := bind_some (show (seqOf x).bind (fun xs => (blsD xs).map fun ns => D.bl (ns.all id)) = some d from e)
  obtain ⟨ns, e3, rfl⟩ := map_some e2
  obtain ⟨a, ws, rfl, hs, r2⟩ := r1.seq c e1
  cases r2.bls e3
  have q' := q _ _ _ (Step.refl c) (.bl (ns.all id))
  rcases hs with hs | hs
  · exact .inl ⟨a, ns, rfl, hK ▸ hs, q'⟩
  · exact .inr ⟨a, ns, rfl, hK ▸ hs, q'⟩
theorem cb_any (hc : X.calm = true) (hK : W.K = X.K) : CallR X (.builtin "any") (rCl W (opBlt .any)) := CallR.imp (CallR.or (cr_any hc) (call_anyT hc)) fun vs H Q h => by
  obtain ⟨F, p, ds, d, c, r, e, q⟩ := h
  obtain ⟨x, rfl⟩ := one_arg e (by simp)
  obtain ⟨v, rfl, r1⟩ := vwA1 r
  obtain ⟨xs, e1, e2⟩ := bind_some (show (seqOf x).bind (fun xs => (blsD xs).map fun ns => D.bl (ns.any id)) = some d from e)
  obtain ⟨ns, e3, rfl⟩ := map_some e2
  obtain ⟨a, ws, rfl, hs, r2⟩ := r1.seq c e1
  cases r2.bls e3
  have q' := q _ _ _ (Step.refl c) (.bl (ns.any id))
  rcases hs with hs | hs
  · exact .inl ⟨a, ns, rfl, hK ▸ hs, q'⟩
  · exact .inr ⟨a, ns, rfl, hK ▸ hs, q'⟩
theorem cb_int : CallR X (.type "int") (rCl W (opBlt .int)) := CallR.imp (call_int1 (X := X)) fun vs H Q h => by
  obtain ⟨F, p, ds, d, c, r, e, q⟩ := h
  obtain ⟨x, rfl⟩ := one_arg e (by simp)
  obtain ⟨v, rfl, r1⟩ := vwA1 r
  cases x <;> try (cases e; done)
  · cases e; have := r1.bl; subst this; exact .inr ⟨_, rfl, q _ _ _ (Step.refl c) (.int _)⟩
  · cases e; have := r1.int; subst this; exact .inl ⟨_, rfl, q _ _ _ (Step.refl c) (.int _)⟩
theorem cb_abs : CallR X (.builtin "abs") (rCl W (opBlt .abs)) := CallR.imp (call_abs (X := X)) fun vs H Q h => by
  obtain ⟨F, p, ds, d, c, r, e, q⟩ := h
  obtain ⟨x, rfl⟩ := one_arg e (by simp)
  obtain ⟨v, rfl, r1⟩ := vwA1 r
  cases x <;> try (cases e; done)
  · cases e; have := r1.int; subst this; exact ⟨_, rfl, q _ _ _ (Step.refl c) (.int _)⟩
theorem two_args {b : Blt} {ds : List D} {d : D} (h : opBlt b ds = some d) (hb : b = .gcd ∨ b = .min ∨ b = .max) : ∃ i j, ds = [.int i, .int j] := by
  rcases ds with _ | ⟨x, _ | ⟨y, _ | ⟨z, r⟩⟩⟩
  · rcases hb with rfl | rfl | rfl <;> cases h
  · rcases hb with rfl | rfl | rfl <;> cases x <;> cases h
  · cases x <;> cases y <;> first | exact ⟨_, _, rfl⟩ | (rcases hb with rfl | rfl | rfl <;> cases h)
  · rcases hb with rfl | rfl | rfl <;> cases x <;> cases y <;> cases h
theorem cb_gcd : CallR X (.builtin "math.gcd") (rCl W (opBlt .gcd)) := CallR.imp (cr_gcd (X := X)) fun vs H Q h => by
  obtain ⟨F, p, ds, d, c, r, e, q⟩ := h
  obtain ⟨i, j, rfl⟩ := two_args e (by simp)
  obtain ⟨v, u, rfl, r1, r2⟩ := vwA2 r
  cases r1.int; cases r2.int; cases e
  exact ⟨_, _, rfl, q _ _ _ (Step.refl c) (.int _)⟩
theorem cb_min (hc : X.calm = true) : CallR X (.builtin "min") (rCl W (opBlt .min)) := CallR.imp (call_min2 (X := X) hc) fun vs H Q h => by
  obtain ⟨F, p, ds, d, c, r, e, q⟩ := h
  obtain ⟨i, j, rfl⟩ := two_args e (by simp)
  obtain ⟨v, u, rfl, r1, r2⟩ := vwA2 r
  cases r1.int; cases r2.int; cases e
  exact ⟨_, _, rfl, q _ _ _ (Step.refl c) (.int _)⟩
theorem cb_max (hc : X.calm = true) : CallR X (.builtin "max") (rCl W (opBlt .max)) := CallR.imp (call_max2 (X := X) hc) fun vs H Q h => by
  obtain ⟨F, p, ds, d, c, r, e, q⟩ := h
  obtain ⟨i, j, rfl⟩ := two_args e (by simp)
  obtain ⟨v, u, rfl, r1, r2⟩ := vwA2 r
  cases r1.int; cases r2.int; cases e
  exact ⟨_, _, rfl, q _ _ _ (Step.refl c) (.int _)⟩
end
end DL
set_option maxHeartbeats 2000000
namespace DL
open PySem PySem.Spec PyProof.Rows L2
section
variable {X : Cx} {W : Wd} {pins : List (Addr × Obj)} {σ : L2.St} {H : Hp} {s : Shared}
theorem pairs_keys {h : Heap} : ∀ {es : List DictEntry} {kvs : List (Key × V)} {vs : List (Key × Value)}, KV kvs vs → Pairs (mixKind X.prog X.w) es vs → ∃ as, ReadsAll h (es.map (·.key)) (kvs.map fun p => keyPy p.1) as ∧ as = [] ∧ Vals (kvs.map (·.2)) (es.map (·.val))
  | _, _, _, .nil, .nil => ⟨_, .nil, rfl, .nil⟩
  | _, _, _, .cons (a := p) (b := q) h r, .cons (e := e) h1 h2 t => by
    obtain ⟨as, ra, rfl, rv⟩ := pairs_keys r t
    obtain ⟨hk, hv⟩ := h
    have h1' : keyIs q.1 e.key = true := h1
    rcases keyIs_shape h1' with ⟨i, t, e1, e2⟩ | ⟨x, t, e1, e2⟩
    · refine ⟨[] ++ [], .cons ?_ ra, rfl, .cons ?_ rv⟩
      · show Reads h e.key (keyPy p.1) []
        rw [e2, hk, e1]; exact .int i t
      · show L2.RelV p.2 e.val; rw [h2]; exact hv
    · refine ⟨[] ++ [], .cons ?_ ra, rfl, .cons ?_ rv⟩
      · show Reads h e.key (keyPy p.1) []
        rw [e2, hk, e1]; exact .str x t
      · show L2.RelV p.2 e.val; rw [h2]; exact hv
theorem zip_keys {kvs : List (Key × V)} : ∀ {ys : List PyData}, kvs.length = ys.length → (List.zip ((kvs.map (·.1)).map keyPy) ys).map (·.1) = kvs.map (fun p => keyPy p.1) ∧ (List.zip ((kvs.map (·.1)).map keyPy) ys).map (·.2) = ys := by
  induction kvs with
  | nil => intro ys h; cases ys with
    | nil => exact ⟨rfl, rfl⟩
    | cons _ _ => cases h
  | cons p kvs ih => intro ys h; cases ys with
    | nil => cases h
    | cons y ys =>
      obtain ⟨h1, h2⟩ := ih (ys := ys) (by simpa using h)
      exact ⟨by simp only [List.map_cons, List.zip_cons_cons]; rw [h1], by simp only [List.map_cons, List.zip_cons_cons]; rw [h2]⟩
theorem toPysR_len : ∀ {xs : List D} {ys : List PyData}, D.toPysR xs = some ys → xs.length = ys.length
  | [], _, e => by cases e; rfl
  | x :: xs, ys, e => by
    have e' : (match D.toPyR x, D.toPysR xs with | some y, some ys => some (y :: ys) | _, _ => none) = some ys := e
    cases q1 : D.toPyR x with
    | none => rw [q1] at e'; cases e'
    | some y => cases q2 : D.toPysR xs with
      | none => rw [q1, q2] at e'; cases e'
      | some zs => rw [q1, q2] at e'; cases e'; simp [toPysR_len q2]
mutual
theorem Rd.reads (I : Inv X pins σ H s) (hK : W.K = X.K) {F : Hp} (l : Le F H) : ∀ {v : V} {d : D}, DL.Rd W F v d → ∀ {y : PyData} {u : Value}, d.toPyR = some y → L2.RelV v u → ∃ as, Reads s.heap u y as ∧ ∀ b ∈ as, ∃ o, H b = some o
  | _, _, .non, _, _, e, r => by cases e; cases r; exact ⟨_, .none, by simp⟩
  | _, _, .bl b, _, _, e, r => by cases e; cases r; exact ⟨_, .bool b, by simp⟩
  | _, _, .int b, _, _, e, r => by cases e; obtain ⟨t, rfl⟩ := r; exact ⟨_, .int b t, by simp⟩
  | _, _, .str b, _, _, e, r => by cases e; obtain ⟨t, rfl⟩ := r; exact ⟨_, .str b t, by simp⟩
  | _, _, .tup (xs := xs) h r, y, u, e, rl => by
    have e' : (D.toPysR xs).map PyData.tuple = some y := e
    cases q : D.toPysR xs with
    | none => rw [q] at e'; cases e'
    | some ys =>
      rw [q] at e'; cases e'
      cases rl
      obtain ⟨its, rv, ⟨o, ho, hc, n, hd⟩, _⟩ := I.tuple (hK ▸ sqT_mono l h)
      obtain ⟨as, h1, h2⟩ := RdA.reads I hK l r q rv
      exact ⟨as, .tuple ho hc hd h1, h2⟩
  | _, _, .lst (a := a) (xs := xs) h r, y, u, e, rl => by
    have e' : (D.toPysR xs).map PyData.list = some y := e
    cases q : D.toPysR xs with
    | none => rw [q] at e'; cases e'
    | some ys =>
      rw [q] at e'; cases e'
      cases rl
      obtain ⟨its, rv, ⟨o, n, ho, hc, _, hd⟩, _⟩ := I.list (X := X) (SqL.of (K := X.K) (l _ _ h))
      obtain ⟨as, h1, h2⟩ := RdA.reads I hK l r q rv
      exact ⟨a :: as, .list ho hc hd h1, fun b hb => by
        rcases List.mem_cons.mp hb with e | hb
        · rw [e]; exact ⟨_, l _ _ h⟩
        · exact h2 b hb⟩
  | _, _, .dct (a := a) (kvs := kvs) (ks := ks) (xs := xs) h hk r, y, u, e, rl => by
    have e' : (D.toPysR xs).map (fun ys => PyData.dict (List.zip (ks.map keyPy) ys)) = some y := e
    cases q : D.toPysR xs with
    | none => rw [q] at e'; cases e'
    | some ys =>
      rw [q] at e'; cases e'
      cases rl
      have hl := l _ _ h
      obtain ⟨_, _, vs, kv, o, es, ep, h1, h2, h3, _, hp, _⟩ := (show ObjOk X.prog X.w H s.heap a (.dK kvs) from I.hok a _ hl)
      obtain ⟨as, ra, e0, rv⟩ := pairs_keys (X := X) (h := s.heap) kv hp
      obtain ⟨bs, h4, h5⟩ := RdA.reads I hK l r q rv
      subst e0
      have hlen : kvs.length = ys.length := by have := RdA.length r; rw [← toPysR_len q, ← this]; simp
      obtain ⟨z1, z2⟩ := zip_keys hlen
      subst hk
      exact ⟨a :: [] ++ bs, .dict h1 h2.1 h3 (by rw [z1]; exact ra) (by rw [z2]; exact h4), fun b hb => by
        rcases List.mem_cons.mp hb with e | hb
        · rw [e]; exact ⟨_, hl⟩
        · exact h5 b (by simpa using hb)⟩
  | _, _, .ins _ _ _ _ _, _, _, e, _ => by cases e
  | _, _, .pen, _, _, e, _ => by cases e
  | _, _, .clo _ _ _, _, _, e, _ => by cases e
theorem RdA.reads (I : Inv X pins σ H s) (hK : W.K = X.K) {F : Hp} (l : Le F H) : ∀ {vs : List V} {xs : List D}, RdA W F vs xs → ∀ {ys : List PyData} {us : List Value}, D.toPysR xs = some ys → Vals vs us → ∃ as, ReadsAll s.heap us ys as ∧ ∀ b ∈ as, ∃ o, H b = some o
  | _, _, .nil, _, _, e, r => by cases e; cases r; exact ⟨_, .nil, by simp⟩
  | _, _, .cons (d := d) (xs := xs) h r, ys, us, e, rl => by
    have e' : (match D.toPyR d, D.toPysR xs with | some y, some ys => some (y :: ys) | _, _ => none) = some ys := e
    cases q1 : D.toPyR d with
    | none => rw [q1] at e'; cases e'
    | some y => cases q2 : D.toPysR xs with
      | none => rw [q1, q2] at e'; cases e'
      | some zs =>
        rw [q1, q2] at e'; cases e'
        cases rl with
        | cons r1 r2 =>
          obtain ⟨as, a1, a2⟩ := Rd.reads I hK l h q1 r1
          obtain ⟨bs, b1, b2⟩ := RdA.reads I hK l r q2 r2
          exact ⟨as ++ bs, .cons a1 b1, fun b hb => (List.mem_append.mp hb).elim (a2 b) (b2 b)⟩
end
theorem Vw.reads (I : Inv X pins σ H s) (hK : W.K = X.K) {F : Hp} {p : Pen} (c : Ctx W H F p) {v : V} {d : D} (h : Vw W H F v d) {y : PyData} {u : Value} (e : d.toPyR = some y) (r : L2.RelV v u) : ∃ as, Reads s.heap u y as ∧ ∀ b ∈ as, ∃ o, H b = some o := by
  rcases h with h | ⟨a, vs, xs, rfl, rfl, _, hh, rr⟩
  · exact h.reads I hK c.sub e r
  · have e' : (D.toPysR xs).map PyData.list = some y := e
    cases q : D.toPysR xs with
    | none => rw [q] at e'; cases e'
    | some ys =>
      rw [q] at e'; cases e'
      cases r
      obtain ⟨its, rv, ⟨o, n, ho, hc, _, hd⟩, _⟩ := I.list (X := X) (SqL.of (K := X.K) hh)
      obtain ⟨as, h1, h2⟩ := RdA.reads I hK c.sub rr q rv
      exact ⟨a :: as, .list ho hc hd h1, fun b hb => by
        rcases List.mem_cons.mp hb with e | hb
        · rw [e]; exact ⟨_, hh⟩
        · exact h2 b hb⟩
end
section
variable {X : Cx} {W : Wd}
theorem cb_repr {L : Nat} (hK : W.K = X.K) (hq : Quiet L X.A) (hu : X.A.units + 65 < cLine) (hsm : ∀ (pins : List (Addr × Obj)) (σ : L2.St) (H : Hp) (s : Shared), Inv X pins σ H s → H sysModules = none) : CallR X (.builtin "repr") (rCl W (opBlt .repr)) := by
  intro pins s σ H vs us Q I r h
  obtain ⟨F, p, ds, d, c, rv, e, q⟩ := h
  obtain ⟨x, rfl⟩ := one_arg e (by simp)
  obtain ⟨v, rfl, r1⟩ := vwA1 rv
  obtain ⟨y, e1, e2⟩ := bind_some (show (x.toPyR).bind (fun y => if y.showable = true ∧ y.shown.length ≤ line ∧ y.depth ≤ 64 then some (D.str y.shown) else none) = some d from e)
  split at e2
  next hh =>
    cases e2
    obtain ⟨h1, h2, h3⟩ := hh
    rw [line_eq] at h2
    cases r with
    | cons rx rn =>
    cases rn
    rename_i u
    obtain ⟨as, hr, ha⟩ := r1.reads I hK c e1 rx
    have q' := q _ _ _ (Step.refl c) (.str y.shown)
    have hfin : ∀ (h' : Heap) (t tk : Tok), (∀ b o, s.heap.get? b = some o → h'.get? b = some o) → EP X pins σ Q (.str y.shown t) { s with heap := h', toks := tk } := fun h' t tk hk => ⟨.str _, H, I.kept hk, ⟨_, rfl⟩, q'⟩
    cases hr with
    | none => exact PySem.P.repr_of_none (hfin _ _ _ fun _ _ z => z)
    | bool b => exact PySem.P.repr_of_bool (hfin _ _ _ fun _ _ z => z)
    | int i t => exact PySem.P.repr_of_int (by simpa [PyData.showable] using h1) (hfin _ _ _ fun _ _ z => z)
    | str x t => exact PySem.P.repr_of_str (hfin _ _ _ fun _ _ z => z) h2
    | list g1 g2 g3 g4 => exact repr_of_reads' (.list g1 g2 g3 g4) h1 (fun _ hm => by obtain ⟨o, z⟩ := ha _ hm; rw [hsm _ _ _ _ I] at z; cases z) hq.gu (by omega) (fun _ _ z => z) (fun h' u tk hk => hfin h' u tk hk) h2
    | tuple g1 g2 g3 g4 => exact repr_of_reads' (.tuple g1 g2 g3 g4) h1 (fun _ hm => by obtain ⟨o, z⟩ := ha _ hm; rw [hsm _ _ _ _ I] at z; cases z) hq.gu (by omega) (fun _ _ z => z) (fun h' u tk hk => hfin h' u tk hk) h2
    | dict g1 g2 g3 g4 g5 => exact repr_of_reads' (.dict g1 g2 g3 g4 g5) h1 (fun _ hm => by obtain ⟨o, z⟩ := ha _ hm; rw [hsm _ _ _ _ I] at z; cases z) hq.gu (by omega) (fun _ _ z => z) (fun h' u tk hk => hfin h' u tk hk) h2
  next => cases e2
end
end DL
set_option maxHeartbeats 2000000
namespace DL
open PySem PySem.Spec PyProof.Rows L2
def tyStr : Ty → String
  | .int => "int" | .bool => "bool" | .tuple => "tuple" | .list => "list" | .str => "str" | .dict => "dict" | .cls _ => ""
def TyVal (W : Wd) (t : Ty) (v : V) (u : Value) : Prop := (∃ c C, t = .cls c ∧ W.cls c = some C ∧ v = .ref C ∧ u = .ref C) ∨ ((∀ c, t ≠ .cls c) ∧ v = .ty (tyStr t) ∧ u = .type (tyStr t))
theorem TyVal.cv {W : Wd} {t : Ty} {v : V} {u : Value} (h : TyVal W t v u) : ClsV v u := by
  rcases h with ⟨c, C, _, _, rfl, rfl⟩ | ⟨_, rfl, rfl⟩
  · exact .own C
  · exact .ty _
section
variable {X : Cx} {W : Wd} {Wx : WX} {a b : Expr} {pos p0 : Pos} {S : Sc} {T : Tb} {L : Nat} {sc : Scope} {fnb : Str → Bool}
theorem Vw.tyx (hK : W.K = X.K) (hcl : ∀ c C, W.cls c = some C → ClsOk X.K C c) {H F : Hp} {p : Pen} (c : Ctx W H F p) {v : V} {d : D} {t : Value} (h : Vw W H F v d) (e : tyV W d = some t) : TyX X.K H v t := by
  rcases h with h | ⟨a, vs, xs, rfl, rfl, _, hh, rr⟩
  · cases h with
    | non => cases e; exact .base .non
    | bl b => cases e; exact .base (.bl b)
    | int b => cases e; exact .base (.int b)
    | str b => cases e; exact .base (.str b)
    | tup hs r =>
      cases e
      rcases (hK ▸ sqT_mono c.sub hs : SqT X.K _ _ _) with (h | ⟨o, h⟩) | ⟨o, its, n, hk, hc, _⟩
      · exact .base (.tup h)
      · exact .fTuple h
      · exact .kTuple hk hc
    | lst hs r => cases e; exact .base (.lst (c.sub _ _ hs))
    | ins h1 h2 h3 h4 r =>
      have e' : (W.cls _).map Value.ref = some t := e
      rw [h3] at e'; cases e'
      have cl := hcl _ _ h3
      exact .base (.ins (c.sub _ _ h1) cl.cl cl.cc cl.sp cl.tk cl.mr)
    | dct h1 h2 r => cases e; exact .base (.dK (c.sub _ _ h1))
    | pen => cases e; obtain ⟨ca, h⟩ := c.pa; exact .base (.dK h)
    | clo h _ _ => cases e
  · cases e; exact .base (.lst hh)
/-- the type of a value, as the comparison asks it -/
theorem looks_ty {pins : List (Addr × Obj)} {σ : L2.St} {H : Hp} {s : Shared} {x : V} {u t : Value} (I : Inv X pins σ H s) (rx : RelV x u) (ty : TyX X.K H x t) : PySem.W.Looks (model X.prog X.w) s.heap (typeOf u) t := by
  have atO : ∀ (a : Addr) (o : Obj), s.heap.get? a = some o → o.cls = t → PySem.W.Looks (model X.prog X.w) s.heap (typeOf (.ref a)) t := fun a o h e A Q E s' k q => wpAny_typeOf_ref (k _ _ h) (by rw [e]; exact q)
  cases ty with
  | base b =>
    cases b with
    | non => cases (show u = Value.none from rx); exact PySem.W.Looks.of_pure rfl
    | bl y => cases (show u = Value.bool y from rx); exact PySem.W.Looks.of_pure rfl
    | int i => obtain ⟨t, q⟩ := (show ∃ t, u = Value.int i t from rx); cases q; exact PySem.W.Looks.of_pure rfl
    | str y => obtain ⟨t, q⟩ := (show ∃ t, u = Value.str y t from rx); cases q; exact PySem.W.Looks.of_pure rfl
    | flt y => obtain ⟨t, q⟩ := (show ∃ t, u = Value.float y t from rx); cases q; exact PySem.W.Looks.of_pure rfl
    | @lst a xs ea =>
      cases (show u = Value.ref a from rx)
      obtain ⟨_, _, n, _, h1⟩ := (show ObjOk X.prog X.w H s.heap a (.lst xs) from I.hok a _ ea)
      exact atO _ _ h1 rfl
    | @frz a ob xs ea =>
      cases (show u = Value.ref a from rx)
      obtain ⟨_, _, _, n, _, h1⟩ := (show ObjOk X.prog X.w H s.heap a (.frz ob (.lst xs)) from I.hok a _ ea)
      exact atO _ _ h1 rfl
    | @tup a xs ea =>
      cases (show u = Value.ref a from rx)
      obtain ⟨_, _, _, o, h1, h2, _⟩ := (show ObjOk X.prog X.w H s.heap a (.tup xs) from I.hok a _ ea)
      exact atO _ _ h1 h2
    | @dK a kvs ea =>
      cases (show u = Value.ref a from rx)
      obtain ⟨_, _, vs, _, o, es, ep, h1, h2, _⟩ := (show ObjOk X.prog X.w H s.heap a (.dK kvs) from I.hok a _ ea)
      exact atO _ _ h1 h2.1
    | @dT a kvs ea =>
      cases (show u = Value.ref a from rx)
      obtain ⟨_, _, xs, _, o, es, ep, h1, h2, _⟩ := (show ObjOk X.prog X.w H s.heap a (.dT kvs) from I.hok a _ ea)
      exact atO _ _ h1 h2.1
    | @ins a C dx fs ea cl ha hn htk hm =>
      cases (show u = Value.ref a from rx)
      obtain ⟨mA, O, _⟩ := ins_get I.hok ea
      obtain ⟨od, J, _⟩ := O.look
      exact J.type
  | byt y => obtain ⟨t, q⟩ := (show ∃ t, u = Value.bytes y t from rx); cases q; exact PySem.W.Looks.of_pure rfl
  | @set a S n ea =>
    cases (show u = Value.ref a from rx)
    obtain ⟨o, _, _, _, e, ex, _⟩ := I.hok a _ ea
    exact atO _ _ e ex.1
  | @kList a o e c =>
    cases (show u = Value.ref a from rx)
    exact atO _ _ (I.kIn a o e) c
  | @kTuple a o e c =>
    cases (show u = Value.ref a from rx)
    exact atO _ _ (I.kIn a o e) c
  | @kDict a o e c =>
    cases (show u = Value.ref a from rx)
    exact atO _ _ (I.kIn a o e) c
  | @fTuple a ob xs ea =>
    cases (show u = Value.ref a from rx)
    obtain ⟨_, _, _, _, o, h1, h2, _⟩ := (show ObjOk X.prog X.w H s.heap a (.frz ob (.tup xs)) from I.hok a _ ea)
    exact atO _ _ h1 h2
  | @fDict a ob kvs ea =>
    cases (show u = Value.ref a from rx)
    obtain ⟨_, _, _, vs, _, o, es, ep, h1, h2, _⟩ := (show ObjOk X.prog X.w H s.heap a (.frz ob (.dK kvs)) from I.hok a _ ea)
    exact atO _ _ h1 h2.1
/-- == and != by an own rule -/
theorem pc_mcmpD {c : Nat} {x : Str} {m : List D → M D} {ne : Bool} {ma mb : En → M D} (hK : W.K = X.K) (hcl : ∀ c C, W.cls c = some C → ClsOk X.K C c) (hq : Quiet L X.A) (tk : Takes X Wx) (F : MeD W X.prog X.w X.K X.mg X.base L x c m) (hx : x = mName ne)
    (ha : PE X a (tD W Wx ma)) (hb : PE X b (tD W Wx mb)) : PC X (if ne = true then .NotEq else .Eq) a b (tD W Wx fun ρ => M.bind (ma ρ) fun u => M.bind (mb ρ) fun v => mcK c m u v) := by
  obtain ⟨_, C, f, fd, ps, hps, hC, hs, hf, hn, hbd, G⟩ := F
  refine ⟨fun pins s σ H Q I h => ?_⟩
  have z := t2 keeps_rD (R1 := rD W) (R2 := rD W) (R' := rD W) (f := fun x y _ => mcK c m x y) (Q2 := fun x y H2 => ∃ F p dx dy, Ctx W H2 F p ∧ DL.Rd W F x dx ∧ DL.Rd W F y dy ∧ Good W Wx σ (rD W) H2 F (mcK c m dx dy p) Q) h fun ρ x y p v u H2 F2 c _ r1 r2 g => ⟨F2, p, x, y, c, r1, r2, g⟩
  refine thn (ha.run pins s σ H _ I z) fun v s1 ⟨x1, H1, I1, r1, q1⟩ => thn (hb.run pins s1 σ H1 _ I1 q1) fun u s2 ⟨y1, H2, I2, r2, F, p, dx, dy, c0, rx, ry, g⟩ => ?_
  unfold mcK at g
  by_cases he : eqOk c dx dy = true
  · rw [if_pos he] at g
    cases rx with
    | @ins a C' dct k0 fs xs h1 h2 h3 h4 h5 =>
      have hk0 : k0 = c := by
        cases dy <;> first | (exact eq_of_beq (show (k0 == c) = true from he)) | (exact eq_of_beq (Bool.and_eq_true_iff.mp he).1) | cases he
      subst hk0
      have eC : C' = C := by rw [hC] at h3; exact (Option.some.inj h3).symm
      subst eC
      have h1 := c0.sub _ _ h1
      cases r1
      obtain ⟨mA, J, _⟩ := ins_get I2.hok h1
      obtain ⟨od, J, _⟩ := J.look
      obtain ⟨mm, hF⟩ := I2.fr
      have hty : ∃ t, tyV W dy = some t ∧ PySem.W.notFirst X.K C' t = true := by
        cases dy with
        | ins e ys =>
          have : e = k0 := eq_of_beq (Bool.and_eq_true_iff.mp he).2
          subst this
          exact ⟨.ref C', by show (W.cls _).map Value.ref = _; rw [hC]; rfl, by simp [PySem.W.notFirst]⟩
        | clo n => cases he
        | _ => exact ⟨_, rfl, hn _ (by simp [bTys])⟩
      obtain ⟨t, ht, hnf⟩ := hty
      have lk := looks_ty I2 r2 (Vw.tyx hK hcl c0 (.inl ry) ht)
      have hsp : spD W m 2 [.ref a, y1] H2 (fun v H' => ∃ b, v = .bl b ∧ Q (.bl b) H') (WE Wx σ) := call_spD rfl c0 (.cons (.ins (by assumption) h2 hC h4 h5) (.cons ry .nil)) (by
        refine good_bind (R := rD W) (R' := rD W) (f := fun r => ofO ((blOf r).map .bl)) g fun d p1 v H1 F1 _ st r g1 => ?_
        obtain ⟨d', e, q⟩ := good_ofO g1
        cases d <;> try (cases e; done)
        cases e
        cases r
        exact ⟨_, rfl, q _ _ _ (Step.refl st.ctx) (.bl _)⟩)
      have go : ∀ op : CmpOp, (cmpInfo op).2.1 = x → wpAny (model X.prog X.w) X.A (richCompare op (.ref a) u) (EP X pins σ Q) X.xe s2 := fun op hop => by
        refine PySem.W.cmp_K (op := op) (tb := t) hq.rm.units0 hF I2.ok.mod.kin J lk hnf (by rw [hop]; exact hs) hf ?_
        refine wpAny_mono (run_fng G hq hbd tk I2 (vs := [.ref a, y1]) (.cons rfl (.cons r2 .nil)) hsp) (fun w' s3 hz => ?_) fun _ _ x => x
        obtain ⟨v3, H3, I3, r3, bb, rfl, q3⟩ := hz
        cases r3
        exact ⟨.bl bb, H3, I3, rfl, q3⟩
      cases ne with
      | true => exact go .NotEq hx.symm
      | false => exact go .Eq hx.symm
    | _ => cases dy <;> cases he
  · rw [if_neg he] at g
    exact g.elim
theorem kit_d (hcl : ∀ c C, W.cls c = some C → ClsOk X.K C c) (kc : ∀ c C k C', W.cls c = some C → W.cls k = some C' → PySem.W.kitOne X.K (.ref C) (.ref C') = some (c == k)) {d : D} {ty : Ty} {b : Bool} {t u : Value} {v : V}
    (e : isTy d ty = some b) (et : tyV W d = some t) (h : TyVal W ty v u) : PySem.W.kitOne X.K t u = some b := by
  rcases h with ⟨c, C, rfl, hC, rfl, rfl⟩ | ⟨hn, rfl, rfl⟩
  · have cl := (hcl _ _ hC).kt
    cases d with
    | ins c' xs =>
      have et' : (W.cls c').map Value.ref = some t := et
      cases q : W.cls c' with
      | none => rw [q] at et'; cases et'
      | some C' => rw [q] at et'; cases et'; cases e; exact kc _ _ _ _ q hC
    | clo n => cases et
    | _ => cases et; cases e; exact (cl _ (by simp)).1
  · cases d with
    | ins c' xs =>
      have et' : (W.cls c').map Value.ref = some t := et
      cases q : W.cls c' with
      | none => rw [q] at et'; cases et'
      | some C' =>
        rw [q] at et'; cases et'
        have cl := (hcl _ _ q).kt
        cases ty with
        | cls c => exact absurd rfl (hn c)
        | _ => cases e; exact (cl _ (by simp [tyStr])).2
    | clo n => cases et
    | _ => cases et; cases ty <;> first | exact absurd rfl (hn _) | (cases e; exact kit_ty (by decide +kernel))
theorem ty_tyV {d : D} {ty : Ty} {b : Bool} (hi : ∀ c xs, d = .ins c xs → ∃ C, W.cls c = some C) (e : isTy d ty = some b) : ∃ t, tyV W d = some t := by
  cases d with
  | ins c xs => obtain ⟨C, h⟩ := hi c xs rfl; exact ⟨.ref C, by show (W.cls c).map Value.ref = _; rw [h]; rfl⟩
  | clo n => cases ty <;> cases e
  | _ => exact ⟨_, rfl⟩
theorem Vw.insc {H F : Hp} {v : V} {d : D} (h : Vw W H F v d) (c : Nat) (xs : List D) (e : d = .ins c xs) : ∃ C, W.cls c = some C := by
  subst e
  rcases h with h | ⟨_, _, _, _, e, _⟩
  · cases h with | ins _ _ h3 _ _ => exact ⟨_, h3⟩
  · cases e
def freeOk (S : Sc) : Prop := True
theorem pe_tyB (ok : XOk X W S T L sc fnb) {t : Ty} {e : Expr} (h : tyB S sc t e = true) : ∃ v u, TyVal W t v u ∧ PE X e (tC v) := by
  cases e <;> try (cases h; done)
  rename_i x px
  have h' : (decide (tyName S t = some x) && glOk sc x && (isCls t || S.fr.contains x)) = true := h
  simp only [Bool.and_eq_true, decide_eq_true_eq] at h'
  obtain ⟨⟨h1, h2⟩, h3⟩ := h'
  have hg : Gl X x ∧ (x == ("__debug__" : Str)) = false := by
    simp only [glOk, Bool.and_eq_true, isGl, decide_eq_true_eq, Bool.not_eq_true'] at h2
    exact ⟨by show X.env.scope.names.lookup x = _; rw [ok.scp]; exact h2.1, h2.2⟩
  cases t with
  | cls c =>
    obtain ⟨C, hC, hm⟩ := ok.cn c x h1
    exact ⟨.ref C, .ref C, .inl ⟨c, C, rfl, hC, rfl, rfl⟩, pe_glob hg.1 hm rfl hg.2⟩
  | int =>
    cases h1
    exact ⟨_, _, .inr ⟨by simp, rfl, rfl⟩, pe_bltn hg.1 (ok.free _ (by simpa [isCls] using h3)) (by rfl) rfl⟩
  | bool =>
    cases h1
    exact ⟨_, _, .inr ⟨by simp, rfl, rfl⟩, pe_bltn hg.1 (ok.free _ (by simpa [isCls] using h3)) (by rfl) rfl⟩
  | tuple =>
    cases h1
    exact ⟨_, _, .inr ⟨by simp, rfl, rfl⟩, pe_bltn hg.1 (ok.free _ (by simpa [isCls] using h3)) (by rfl) rfl⟩
  | list =>
    cases h1
    exact ⟨_, _, .inr ⟨by simp, rfl, rfl⟩, pe_bltn hg.1 (ok.free _ (by simpa [isCls] using h3)) (by rfl) rfl⟩
  | str =>
    cases h1
    exact ⟨_, _, .inr ⟨by simp, rfl, rfl⟩, pe_bltn hg.1 (ok.free _ (by simpa [isCls] using h3)) (by rfl) rfl⟩
  | dict =>
    cases h1
    exact ⟨_, _, .inr ⟨by simp, rfl, rfl⟩, pe_bltn hg.1 (ok.free _ (by simpa [isCls] using h3)) (by rfl) rfl⟩
theorem notStar_each {e : Expr} {es : List Expr} {env : Env} (h : notStar e = true) : starEach (e :: es) env = (false, eval e env) :: starEach es env := by
  cases e <;> first | rfl | cases h
theorem bltGl (ok : XOk X W S T L sc fnb) {y x : Str} (h : bltOk S sc y x = true) : x = y ∧ Gl X y ∧ X.mg y = none := by
  simp only [bltOk, Bool.and_eq_true, beq_iff_eq, isGl, decide_eq_true_eq] at h
  obtain ⟨⟨h1, h2⟩, h3⟩ := h
  exact ⟨h1, by show X.env.scope.names.lookup y = _; rw [ok.scp]; exact h3, ok.free _ (by simpa using h2)⟩
theorem pe_isiD (ok : XOk X W S T L sc fnb) {t : Ty} {x : Str} {e y : Expr} {ma : En → M D} (hx : bltOk S sc "isinstance" x = true) (he : PE X e (tD W Wx ma)) (hs : notStar e = true) (hy : tyB S sc t y = true) :
    PE X (.Call (.Name x p0) [e, y] [] pos) (tD W Wx fun ρ => M.bind (ma ρ) fun x => ofO ((isTy x t).map .bl)) := by
  obtain ⟨rfl, hg, hm⟩ := bltGl ok hx
  obtain ⟨v, u, tv, hv⟩ := pe_tyB ok hy
  have hys : notStar y = true := by cases y <;> first | rfl | cases hy
  refine pe_w (pe_callB call_isi hg hm (by rfl) (pa_cons he (pa_cons hv pa_nil (star_cons hys)) (star_cons hs)) (by decide) (by decide) (star_cons hs) (star_any (es := [y]) (by simp [noStars, hys]))) fun σ H Q z => ?_
  refine t1 (R1 := rD W) (R' := rD W) (f := fun x _ => ofO ((isTy x t).map D.bl)) z fun ρ x p w H1 F1 c _ r g => ?_
  obtain ⟨d, e1, q⟩ := good_ofO g
  obtain ⟨b, e2, rfl⟩ := map_some e1
  obtain ⟨tt, e3⟩ := ty_tyV (W := W) (Vw.of (H := H1) r).insc e2
  exact ⟨w, v, tt, u, b, rfl, tv.cv, (Vw.of (H := H1) r).tyx ok.hK ok.cls c e3, kit_d ok.cls ok.kc e2 e3 tv, q _ _ _ (Step.refl c) (.bl b)⟩
theorem pa_tys (ok : XOk X W S T L sc fnb) : ∀ {ts : List Ty} {es : List Expr}, tyBs S sc ts es = true → ∃ vs us, List.length vs = ts.length ∧ Paired ClsV vs us ∧ (∀ d b t, anyTy d ts = some b → tyV W d = some t → PySem.W.kitAny X.K t us = some b) ∧ ∃ ta, PA X es ta ∧ ∀ σ H (Q : List V → Hp → Prop), Q vs H → ta σ H Q
  | [], [], _ => ⟨[], [], rfl, .nil, fun d b t e _ => by cases e; rfl, tNil, pa_nil, fun _ _ _ h => h⟩
  | [], _ :: _, h => by cases h
  | _ :: _, [], h => by cases h
  | ty :: ts, e :: es, h => by
    obtain ⟨h1, h2⟩ := Bool.and_eq_true_iff.mp (show (tyB S sc ty e && tyBs S sc ts es) = true from h)
    obtain ⟨v, u, tv, hv⟩ := pe_tyB ok h1
    obtain ⟨vs, us, hl, hp, hk, ta, ha, hq⟩ := pa_tys ok h2
    have hys : notStar e = true := by cases e <;> first | rfl | cases h1
    refine ⟨v :: vs, u :: us, by simp [hl], .cons tv.cv hp, fun d b t e1 e2 => ?_, _, pa_cons hv ha (star_cons hys), fun σ H Q q => hq _ _ _ q⟩
    have e1' : (match isTy d ty with | some true => some true | some false => anyTy d ts | none => none) = some b := e1
    show (match PySem.W.kitOne X.K t u with | some true => some true | some false => PySem.W.kitAny X.K t us | none => none) = some b
    cases q : isTy d ty with
    | none => rw [q] at e1'; cases e1'
    | some b1 =>
      rw [kit_d ok.cls ok.kc q e2 tv]
      rw [q] at e1'
      cases b1 with
      | true => exact e1'
      | false => exact hk _ _ _ e1' e2
theorem pe_isiTD (ok : XOk X W S T L sc fnb) {ts : List Ty} {x : Str} {e : Expr} {es : List Expr} {xc tpos} {ma : En → M D} (hx : bltOk S sc "isinstance" x = true) (he : PE X e (tD W Wx ma)) (hs : notStar e = true) (hy : tyBs S sc ts es = true) (hz : ts.length ≤ 1000) (hne : ts ≠ []) :
    PE X (.Call (.Name x p0) [e, .Tuple es xc tpos] [] pos) (tD W Wx fun ρ => M.bind (ma ρ) fun x => ofO ((anyTy x ts).map .bl)) := by
  obtain ⟨rfl, hg, hm⟩ := bltGl ok hx
  obtain ⟨vs, us, hl, hp, hk, ta, ha, hta⟩ := pa_tys ok hy
  refine pe_w (pe_callB call_isiT hg hm (by rfl) (pa_cons he (pa_cons (pe_tup ha) pa_nil (star_cons rfl)) (star_cons hs)) (by decide) (by decide) (star_cons hs) (star_any (es := [_]) (by rfl))) fun σ H Q z => ?_
  refine t1 (R1 := rD W) (R' := rD W) (f := fun x _ => ofO ((anyTy x ts).map D.bl)) z fun ρ x p w H1 F1 c _ r g => ?_
  obtain ⟨d, e1, q⟩ := good_ofO g
  obtain ⟨b, e2, rfl⟩ := map_some e1
  have e3 : ∃ tt, tyV W x = some tt := by
    cases ts with
    | nil => exact absurd rfl hne
    | cons ty ts =>
      have e' : (match isTy x ty with | some true => some true | some false => anyTy x ts | none => none) = some b := e2
      cases q : isTy x ty with
      | none => rw [q] at e'; cases e'
      | some b1 => exact ty_tyV (W := W) (Vw.of (H := H1) r).insc q
  obtain ⟨tt, e3⟩ := e3
  refine hta _ _ _ ⟨by rw [hl, sizeLine_eq]; omega, fun a ha => ?_⟩
  have st := Step.lay0 c (.tup vs) ha
  exact ⟨w, a, vs, tt, us, b, rfl, upd_same, hp, Vw.tyx ok.hK ok.cls st.ctx (.inl r) e3, hk _ _ _ e2 e3, q _ _ _ st (.bl b)⟩
theorem pe_bitsD {n : Str} {e : Expr} {ap : Pos} {ma : En → M D} (hn : n = "bit_length") (he : PE X e (tD W Wx ma)) (hb : notCall0 e = true) (hl : (ap.endLine == pos.line) = true) :
    PE X (.Call (.Attribute e n ap) [] [] pos) (tD W Wx fun ρ => M.bind (ma ρ) fun x => ofO ((intOf x).map fun i => .int (Builtin.Int.intBits i : Nat))) := by
  subst hn
  refine pe_w (pe_bits he (notCall0_base hb _) hl) fun σ H Q z => ?_
  refine t1 (R1 := rD W) (R' := rD W) (f := fun x _ => ofO ((intOf x).map fun i => D.int (Builtin.Int.intBits i : Nat))) z fun ρ x p w H1 F1 c _ r g => ?_
  obtain ⟨d, e1, q⟩ := good_ofO g
  obtain ⟨i, e2, rfl⟩ := map_some e1
  cases x <;> try (cases e2; done)
  cases e2
  cases r
  exact ⟨_, rfl, q _ _ _ (Step.refl c) (.int _)⟩
end
/-! ### zip of lists and tuples in any mix -/
/-- a list, a tuple -/
inductive Sk where
  | l | t
def Sk.Sq (K : PySem.W.Frag) (H : Hp) : Sk → Addr → List V → Prop
  | .l, a, vs => SqL K H a vs
  | .t, a, vs => SqT K H a vs
def Sk.Cur (h : Heap) : Sk → Addr → Addr → Nat → Prop
  | .l, c, a, i => h.IsListIter c a i
  | .t, c, a, i => h.IsTupleIter c a i
def Sk.Has (h : Heap) : Sk → Addr → Array Value → Prop
  | .l, a, us => h.IsList a us
  | .t, a, us => h.IsTuple a us
def Sk.new : Sk → Addr → Obj
  | .l, a => { cls := .type "list_iterator", data := .fields #[.ref a, .int 0 0] }
  | .t, a => { cls := .type "tuple_iterator", data := .fields #[.ref a, .int 0 0] }
theorem Sk.Cur.obj {h : Heap} {c a : Addr} {i : Nat} : ∀ {k : Sk}, k.Cur h c a i → ∃ o, h.get? c = some o ∧ ∀ v, o.data ≠ .cell v
  | .l, ⟨o, e, _, d⟩ => ⟨o, e, fun v z => by rw [d] at z; cases z⟩
  | .t, ⟨o, e, _, d⟩ => ⟨o, e, fun v z => by rw [d] at z; cases z⟩
theorem Sk.Cur.move {h h' : Heap} {c a : Addr} {i : Nat} : ∀ {k : Sk}, k.Cur h c a i → (∀ o, h.get? c = some o → h'.get? c = some o) → k.Cur h' c a i
  | .l, q, z => Heap.IsListIter.at q z
  | .t, q, z => Heap.IsTupleIter.at q z
theorem Sk.Cur.first {h : Heap} {c a : Addr} : ∀ {k : Sk}, h.get? c = some (k.new a) → k.Cur h c a 0
  | .l, e => ⟨_, e, rfl, rfl⟩
  | .t, e => ⟨_, e, rfl, rfl⟩
theorem Sk.starts (a : Addr) (us : Array Value) : ∀ k : Sk, Begins (.ref a) (k.new a) fun h => k.Has h a us
  | .l => begins_list a us
  | .t => begins_tuple a us
theorem Sk.goes {P : Program} {w : World} {A : Around} (hh : A.handled = none) (c a : Addr) (hne : a ≠ c) (us : Array Value) : ∀ k : Sk, Draws P w A c [c, a] us.size (fun i v => us[i]? = some v) (fun i h => k.Cur h c a i ∧ k.Has h a us)
  | .l => Draws.list hh c a hne us
  | .t => Draws.tuple hh c a hne us
theorem Sk.Has.lt {h : Heap} {a : Addr} {us : Array Value} : ∀ {k : Sk}, k.Has h a us → a < h.objs.size
  | .l, q => by obtain ⟨o, e, _⟩ := q; exact Heap.lt_size e
  | .t, q => by obtain ⟨o, e, _⟩ := q; exact Heap.lt_size e
section
variable {X : Cx} {pins : List (Addr × Obj)} {σ : L2.St} {H : Hp} {s : Shared}
theorem Sk.real (I : Inv X pins σ H s) {a : Addr} {vs : List V} : ∀ {k : Sk}, k.Sq X.K H a vs → ∃ us : List Value, Vals vs us ∧ k.Has s.heap a us.toArray
  | .l, q => by obtain ⟨us, r, p, _⟩ := I.list q; exact ⟨us, r, p.isList⟩
  | .t, q => by obtain ⟨us, r, p, _⟩ := I.tuple q; exact ⟨us, r, p⟩
theorem Sk.one (I : Inv X pins σ H s) {a : Addr} {vs ws : List V} : ∀ {k : Sk}, k.Sq X.K H a vs → k.Sq X.K H a ws → vs = ws
  | .l, q, z => I.list_inj q z
  | .t, q, z => I.tuple_inj q z
end
/-- two of them as they stand at each turn, the items in new pairs -/
def ItM2 (K : PySem.W.Frag) (k1 k2 : Sk) (a b : Addr) : It :=
  ⟨fun i H => ∃ (vs ws : List V), k1.Sq K H a vs ∧ k2.Sq K H b ws ∧ i < min vs.length ws.length,
    fun i H v H' => ∃ T x y, v = .ref T ∧ H T = none ∧ H' = upd H T (.tup [x, y]) ∧ (∀ vs, k1.Sq K H a vs → vs[i]? = some x) ∧ ∀ ws, k2.Sq K H b ws → ws[i]? = some y,
    fun i H => ∃ vs ws : List V, k1.Sq K H a vs ∧ k2.Sq K H b ws ∧ i = min vs.length ws.length⟩
def ItM3 (K : PySem.W.Frag) (k1 k2 k3 : Sk) (a b d : Addr) : It :=
  ⟨fun i H => ∃ (vs ws xs : List V), k1.Sq K H a vs ∧ k2.Sq K H b ws ∧ k3.Sq K H d xs ∧ i < min (min vs.length ws.length) xs.length,
    fun i H v H' => ∃ T x y z, v = .ref T ∧ H T = none ∧ H' = upd H T (.tup [x, y, z]) ∧ (∀ vs, k1.Sq K H a vs → vs[i]? = some x) ∧ (∀ ws, k2.Sq K H b ws → ws[i]? = some y) ∧ ∀ xs, k3.Sq K H d xs → xs[i]? = some z,
    fun i H => ∃ vs ws xs : List V, k1.Sq K H a vs ∧ k2.Sq K H b ws ∧ k3.Sq K H d xs ∧ i = min (min vs.length ws.length) xs.length⟩
theorem vals_get {vs : List V} {us : List Value} (r : Vals vs us) {i : Nat} {u : Value} (h : us.toArray[i]? = some u) : ∃ x, vs[i]? = some x ∧ RelV x u := by
  have hl := r.length
  have h' : us[i]? = some u := by simpa using h
  have hi : i < vs.length := by
    obtain ⟨z, _⟩ := List.getElem?_eq_some_iff.mp h'
    omega
  obtain ⟨u', e, r'⟩ := r.get (List.getElem?_eq_getElem hi)
  rw [h'] at e; cases e
  exact ⟨_, List.getElem?_eq_getElem hi, r'⟩
/-- where the cells of a zip lie -/
structure Apart2 (z TI TO c1 c2 a b : Addr) : Prop where
  sep : ZipSep2 z TI TO c1 c2 [c1, a] [c2, b]
  az : a ≠ c1
  bz : b ≠ c2
structure Apart3 (z TI TO c1 c2 c3 a b d : Addr) : Prop where
  sep : ZipSep3 z TI TO c1 c2 c3 [c1, a] [c2, b] [c3, d]
  az : a ≠ c1
  bz : b ≠ c2
  dz : d ≠ c3
theorem na_ne {u v : Nat} (h : u < v ∨ v < u) : u ≠ v := by omega
theorem na_mem {u v w : Nat} (h : u < v ∨ v < u) (h2 : u < w ∨ w < u) : u ∉ [v, w] := by simp; omega
theorem na_in {u w : Nat} : u ∈ [u, w] := by simp
theorem apart2 {n a b : Nat} (h1 : a < n) (h2 : b < n) : Apart2 (n + 4) (n + 2) (n + 3) n (n + 1) a b where
  sep := ⟨na_ne (by omega), na_ne (by omega), na_ne (by omega), na_ne (by omega), na_in, na_mem (by omega) (by omega), na_mem (by omega) (by omega), na_ne (by omega), na_in, na_mem (by omega) (by omega), na_mem (by omega) (by omega), na_mem (by omega) (by omega), na_mem (by omega) (by omega)⟩
  az := na_ne (by omega)
  bz := na_ne (by omega)
theorem apart3 {n a b d : Nat} (h1 : a < n) (h2 : b < n) (h3 : d < n) : Apart3 (n + 5) (n + 3) (n + 4) n (n + 1) (n + 2) a b d where
  sep := ⟨na_ne (by omega), na_ne (by omega), na_ne (by omega), na_ne (by omega), na_in, na_mem (by omega) (by omega), na_mem (by omega) (by omega), na_ne (by omega), na_in, na_mem (by omega) (by omega), na_mem (by omega) (by omega), na_ne (by omega), na_in, na_mem (by omega) (by omega), na_mem (by omega) (by omega), na_mem (by omega) (by omega), na_mem (by omega) (by omega), na_mem (by omega) (by omega), na_mem (by omega) (by omega), na_mem (by omega) (by omega), na_mem (by omega) (by omega)⟩
  az := na_ne (by omega)
  bz := na_ne (by omega)
  dz := na_ne (by omega)
def Zst2 (k1 k2 : Sk) (z TI TO c1 c2 a b : Addr) (i : Nat) (h : Heap) : Prop := IsZip h z TI TO .none ∧ IsTupOf2 h TI (.ref c1) (.ref c2) ∧ (∃ x y, IsTupOf2 h TO x y) ∧ k1.Cur h c1 a i ∧ k2.Cur h c2 b i
theorem turn_m2 {P : Program} {w : World} {K : PySem.W.Frag} {elts : List Expr} {kk : Nat} {tpos : Pos} {k1 k2 : Sk} {a b z TI TO c1 c2 : Addr} (D : Apart2 z TI TO c1 c2 a b) :
    Turn P w K (.Tuple elts kk tpos) (ItM2 K k1 k2 a b) [z, TI, TO, c1, c2] z (Zst2 k1 k2 z TI TO c1 c2 a b) where
  mem := by simp
  obj := fun i h st c hc => by
    obtain ⟨q1, q2, ⟨x, y, q3⟩, q4, q5⟩ := st
    have e' : c = z ∨ c = TI ∨ c = TO ∨ c = c1 ∨ c = c2 := by simpa using hc
    rcases e' with e | e | e | e | e <;> subst e
    · exact ⟨_, q1, fun v e => nomatch e⟩
    · exact ⟨_, q2, fun v e => nomatch e⟩
    · exact ⟨_, q3, fun v e => nomatch e⟩
    · exact q4.obj
    · exact q5.obj
  keep := fun i h h' st k => by
    obtain ⟨q1, q2, ⟨x, y, q3⟩, q4, q5⟩ := st
    exact ⟨k z (by simp) _ q1, k TI (by simp) _ q2, ⟨x, y, k TO (by simp) _ q3⟩, q4.move fun o e => k c1 (by simp) o e, q5.move fun o e => k c2 (by simp) o e⟩
  item := by
    intro X hP hw hK hc i pins s σ H E I hf st hg
    subst hP hw hK
    obtain ⟨vs, ws, g1, g2, hi⟩ := hg
    obtain ⟨us, r1, p1⟩ := Sk.real I g1
    obtain ⟨us2, r2, p2⟩ := Sk.real I g2
    obtain ⟨q1, q2, q3, q4, q5⟩ := st
    have G := GoesN.zip2 (prog := X.prog) (w := X.w) (A := X.A) (elts := elts) (x1 := kk) (pos := tpos) D.sep (Sk.goes (A := X.A.in1) (I.ok.hd hc) c1 a D.az us.toArray k1) (Sk.goes (A := X.A.in1) (I.ok.hd hc) c2 b D.bz us2.toArray k2)
    refine G.goes i s (fun v s2 => ∃ x H', Inv X pins σ H' s2 ∧ RelV x v ∧ (ItM2 X.K k1 k2 a b).yld i H x H' ∧ Zst2 k1 k2 z TI TO c1 c2 a b (i + 1) s2.heap ∧ ∀ e ∈ [z, TI, TO, c1, c2], H' e = none) E (by have e1 := r1.length; have e2 := r2.length; simp at hi ⊢; omega) ⟨q1, q2, q3, ⟨q4, p1⟩, ⟨q5, p2⟩⟩ fun v h' tk hY st' hk htk => ?_
    obtain ⟨T, x, y, rfl, hT, e1, e2, tT⟩ := hY
    obtain ⟨z1, z2, z3, ⟨z4, _⟩, ⟨z5, _⟩⟩ := st'
    obtain ⟨v1, f1, rv1⟩ := vals_get r1 e1
    obtain ⟨v2, f2, rv2⟩ := vals_get r2 e2
    have new : ObjOk X.prog X.w (upd H T (.tup [v1, v2])) h' T (.tup [v1, v2]) :=
      ⟨by show 2 ≤ sizeLine; decide, [x, y], .cons rv1 (.cons rv2 .nil), tT⟩
    have I1 : Inv X pins σ (upd H T (.tup [v1, v2])) { s with heap := h', toks := tk } :=
      I.turnedNew (ch := [z, TO, c1, c2]) (fun c o hb q => hk c o hb q) (fun c hb => hf c (by simp at hb ⊢; rcases hb with h | h | h | h <;> simp [h])) hT new
    refine ⟨.ref T, _, I1, rfl, ⟨T, v1, v2, rfl, I.hok.fresh hT, rfl, fun l hl => by rw [Sk.one I hl g1]; exact f1, fun l hl => by rw [Sk.one I hl g2]; exact f2⟩, ⟨z1, z2, z3, z4, z5⟩, fun c hcm => ?_⟩
    have hlt : c < s.heap.objs.size := by
      have e' : c = z ∨ c = TI ∨ c = TO ∨ c = c1 ∨ c = c2 := by simpa using hcm
      obtain ⟨xx, yy, q3⟩ := q3
      rcases e' with e | e | e | e | e <;> subst e
      · exact Heap.lt_size q1
      · exact Heap.lt_size q2
      · exact Heap.lt_size q3
      · obtain ⟨_, e1, _⟩ := q4.obj; exact Heap.lt_size e1
      · obtain ⟨_, e1, _⟩ := q5.obj; exact Heap.lt_size e1
    rw [upd_ne (Nat.ne_of_lt (Nat.lt_of_lt_of_le hlt hT))]
    exact (hf c hcm).1
  done := by
    intro X hP hw hK hc i pins s σ H E I hf st hg
    subst hP hw hK
    obtain ⟨vs, ws, g1, g2, hi⟩ := hg
    obtain ⟨us, r1, p1⟩ := Sk.real I g1
    obtain ⟨us2, r2, p2⟩ := Sk.real I g2
    obtain ⟨q1, q2, q3, q4, q5⟩ := st
    have G := GoesN.zip2 (prog := X.prog) (w := X.w) (A := X.A) (elts := elts) (x1 := kk) (pos := tpos) D.sep (Sk.goes (A := X.A.in1) (I.ok.hd hc) c1 a D.az us.toArray k1) (Sk.goes (A := X.A.in1) (I.ok.hd hc) c2 b D.bz us2.toArray k2)
    have hn : min us.toArray.size us2.toArray.size = i := by have e1 := r1.length; have e2 := r2.length; simp at hi ⊢; omega
    refine G.stops s (fun s1 => Inv X pins σ H s1) E (by rw [hn]; exact ⟨q1, q2, q3, ⟨q4, p1⟩, ⟨q5, p2⟩⟩) fun h' tk hk htk => ?_
    exact I.turnedL (ch := [z, TO, c1, c2]) (fun c o hb q => hk c o hb q) (fun c hb => hf c (by simp at hb ⊢; rcases hb with h | h | h | h <;> simp [h]))
  self := fun A i s Q E st h => wpAny_pyIter_zip st.1 h
def Zst3 (k1 k2 k3 : Sk) (z TI TO c1 c2 c3 a b d : Addr) (i : Nat) (h : Heap) : Prop := IsZip h z TI TO .none ∧ IsTupOf3 h TI (.ref c1) (.ref c2) (.ref c3) ∧ (∃ x y u, IsTupOf3 h TO x y u) ∧ k1.Cur h c1 a i ∧ k2.Cur h c2 b i ∧ k3.Cur h c3 d i
theorem turn_m3 {P : Program} {w : World} {K : PySem.W.Frag} {elts : List Expr} {kk : Nat} {tpos : Pos} {k1 k2 k3 : Sk} {a b d z TI TO c1 c2 c3 : Addr} (D : Apart3 z TI TO c1 c2 c3 a b d) :
    Turn P w K (.Tuple elts kk tpos) (ItM3 K k1 k2 k3 a b d) [z, TI, TO, c1, c2, c3] z (Zst3 k1 k2 k3 z TI TO c1 c2 c3 a b d) where
  mem := by simp
  obj := fun i h st c hc => by
    obtain ⟨q1, q2, ⟨x, y, u, q3⟩, q4, q5, q6⟩ := st
    have e' : c = z ∨ c = TI ∨ c = TO ∨ c = c1 ∨ c = c2 ∨ c = c3 := by simpa using hc
    rcases e' with e | e | e | e | e | e <;> subst e
    · exact ⟨_, q1, fun v e => nomatch e⟩
    · exact ⟨_, q2, fun v e => nomatch e⟩
    · exact ⟨_, q3, fun v e => nomatch e⟩
    · exact q4.obj
    · exact q5.obj
    · exact q6.obj
  keep := fun i h h' st k => by
    obtain ⟨q1, q2, ⟨x, y, u, q3⟩, q4, q5, q6⟩ := st
    exact ⟨k z (by simp) _ q1, k TI (by simp) _ q2, ⟨x, y, u, k TO (by simp) _ q3⟩, q4.move fun o e => k c1 (by simp) o e, q5.move fun o e => k c2 (by simp) o e, q6.move fun o e => k c3 (by simp) o e⟩
  item := by
    intro X hP hw hK hc i pins s σ H E I hf st hg
    subst hP hw hK
    obtain ⟨vs, ws, xs, g1, g2, g3, hi⟩ := hg
    obtain ⟨us, r1, p1⟩ := Sk.real I g1
    obtain ⟨us2, r2, p2⟩ := Sk.real I g2
    obtain ⟨us3, r3, p3⟩ := Sk.real I g3
    obtain ⟨q1, q2, q3, q4, q5, q6⟩ := st
    have G := GoesN.zip3 (prog := X.prog) (w := X.w) (A := X.A) (elts := elts) (x1 := kk) (pos := tpos) D.sep (Sk.goes (A := X.A.in1) (I.ok.hd hc) c1 a D.az us.toArray k1) (Sk.goes (A := X.A.in1) (I.ok.hd hc) c2 b D.bz us2.toArray k2) (Sk.goes (A := X.A.in1) (I.ok.hd hc) c3 d D.dz us3.toArray k3)
    refine G.goes i s (fun v s2 => ∃ x H', Inv X pins σ H' s2 ∧ RelV x v ∧ (ItM3 X.K k1 k2 k3 a b d).yld i H x H' ∧ Zst3 k1 k2 k3 z TI TO c1 c2 c3 a b d (i + 1) s2.heap ∧ ∀ e ∈ [z, TI, TO, c1, c2, c3], H' e = none) E (by have e1 := r1.length; have e2 := r2.length; have e3 := r3.length; simp at hi ⊢; omega) ⟨q1, q2, q3, ⟨q4, p1⟩, ⟨q5, p2⟩, ⟨q6, p3⟩⟩ fun v h' tk hY st' hk htk => ?_
    obtain ⟨T, x, y, u, rfl, hT, e1, e2, e3, tT⟩ := hY
    obtain ⟨z1, z2, z3, ⟨z4, _⟩, ⟨z5, _⟩, ⟨z6, _⟩⟩ := st'
    obtain ⟨v1, f1, rv1⟩ := vals_get r1 e1
    obtain ⟨v2, f2, rv2⟩ := vals_get r2 e2
    obtain ⟨v3, f3, rv3⟩ := vals_get r3 e3
    have new : ObjOk X.prog X.w (upd H T (.tup [v1, v2, v3])) h' T (.tup [v1, v2, v3]) :=
      ⟨by show 3 ≤ sizeLine; decide, [x, y, u], .cons rv1 (.cons rv2 (.cons rv3 .nil)), tT⟩
    have I1 : Inv X pins σ (upd H T (.tup [v1, v2, v3])) { s with heap := h', toks := tk } :=
      I.turnedNew (ch := [z, TO, c1, c2, c3]) (fun c o hb q => hk c o hb q) (fun c hb => hf c (by simp at hb ⊢; rcases hb with h | h | h | h | h <;> simp [h])) hT new
    refine ⟨.ref T, _, I1, rfl, ⟨T, v1, v2, v3, rfl, I.hok.fresh hT, rfl, fun l hl => by rw [Sk.one I hl g1]; exact f1, fun l hl => by rw [Sk.one I hl g2]; exact f2, fun l hl => by rw [Sk.one I hl g3]; exact f3⟩, ⟨z1, z2, z3, z4, z5, z6⟩, fun c hcm => ?_⟩
    have hlt : c < s.heap.objs.size := by
      have e' : c = z ∨ c = TI ∨ c = TO ∨ c = c1 ∨ c = c2 ∨ c = c3 := by simpa using hcm
      obtain ⟨xx, yy, uu, q3⟩ := q3
      rcases e' with e | e | e | e | e | e <;> subst e
      · exact Heap.lt_size q1
      · exact Heap.lt_size q2
      · exact Heap.lt_size q3
      · obtain ⟨_, e1, _⟩ := q4.obj; exact Heap.lt_size e1
      · obtain ⟨_, e1, _⟩ := q5.obj; exact Heap.lt_size e1
      · obtain ⟨_, e1, _⟩ := q6.obj; exact Heap.lt_size e1
    rw [upd_ne (Nat.ne_of_lt (Nat.lt_of_lt_of_le hlt hT))]
    exact (hf c hcm).1
  done := by
    intro X hP hw hK hc i pins s σ H E I hf st hg
    subst hP hw hK
    obtain ⟨vs, ws, xs, g1, g2, g3, hi⟩ := hg
    obtain ⟨us, r1, p1⟩ := Sk.real I g1
    obtain ⟨us2, r2, p2⟩ := Sk.real I g2
    obtain ⟨us3, r3, p3⟩ := Sk.real I g3
    obtain ⟨q1, q2, q3, q4, q5, q6⟩ := st
    have G := GoesN.zip3 (prog := X.prog) (w := X.w) (A := X.A) (elts := elts) (x1 := kk) (pos := tpos) D.sep (Sk.goes (A := X.A.in1) (I.ok.hd hc) c1 a D.az us.toArray k1) (Sk.goes (A := X.A.in1) (I.ok.hd hc) c2 b D.bz us2.toArray k2) (Sk.goes (A := X.A.in1) (I.ok.hd hc) c3 d D.dz us3.toArray k3)
    have hn : min (min us.toArray.size us2.toArray.size) us3.toArray.size = i := by have e1 := r1.length; have e2 := r2.length; have e3 := r3.length; simp at hi ⊢; omega
    refine G.stops s (fun s1 => Inv X pins σ H s1) E (by rw [hn]; exact ⟨q1, q2, q3, ⟨q4, p1⟩, ⟨q5, p2⟩, ⟨q6, p3⟩⟩) fun h' tk hk htk => ?_
    exact I.turnedL (ch := [z, TO, c1, c2, c3]) (fun c o hb q => hk c o hb q) (fun c hb => hf c (by simp at hb ⊢; rcases hb with h | h | h | h | h <;> simp [h]))
  self := fun A i s Q E st h => wpAny_pyIter_zip st.1 h
def iM2 (K : PySem.W.Frag) (ta : TA) : TI := fun σ H R => ta σ H fun vs H1 => ∃ k1 k2 a b xs ys, vs = [.ref a, .ref b] ∧ Sk.Sq K H1 k1 a xs ∧ Sk.Sq K H1 k2 b ys ∧ R (ItM2 K k1 k2 a b) H1
def iM3 (K : PySem.W.Frag) (ta : TA) : TI := fun σ H R => ta σ H fun vs H1 => ∃ k1 k2 k3 a b d xs ys zs, vs = [.ref a, .ref b, .ref d] ∧ Sk.Sq K H1 k1 a xs ∧ Sk.Sq K H1 k2 b ys ∧ Sk.Sq K H1 k3 d zs ∧ R (ItM3 K k1 k2 k3 a b d) H1
theorem pi_m2 {X : Cx} {e e2 : Expr} {ta : TA} {p pos tpos : Pos} {elts : List Expr} {kk : Nat} (hg : Gl X "zip") (hm : X.mg "zip" = none) (ha : PA X [e, e2] ta)
    (hs : starEach [e, e2] X.env = (false, eval e X.env) :: starEach [e2] X.env) (hpl : (backTo pos (starEach [e2] X.env)).any (·.1) = false) :
    PI X (.Tuple elts kk tpos) (.Call (.Name "zip" p) [e, e2] [] pos) (iM2 X.K ta) := ⟨fun pins s σ H R I h => by
  refine Call_ (ld_blt I hg hm PyProof.Rows.boot_zip (PyProof.Rows.callWith_type1 (thn (ha.run pos pins s σ H _ I h) fun us s1 ⟨vs, H1, I1, r1, q⟩ => ?_) hs hpl))
  obtain ⟨k1, k2, a, b, xs, ys, rfl, g1, g2, q⟩ := q
  cases r1 with
  | cons rx rr => cases rr with
    | cons ry rr =>
      cases rr; cases rx; cases ry
      obtain ⟨u1, _, p1⟩ := Sk.real I1 g1
      obtain ⟨u2, _, p2⟩ := Sk.real I1 g2
      refine zip_begins2 (Sk.starts a u1.toArray k1) (Sk.starts b u2.toArray k2) p1 p2 fun h' hz hTI hTO h1 h2 hsz hk => wpAny_pyIter_zip hz ?_
      refine ⟨_, [_, _, _, _, _], _, _, H1, rfl, I1.kept (t' := s1.toks) hk, turn_m2 (k1 := k1) (k2 := k2) (apart2 p1.lt p2.lt), ⟨hz, hTI, ⟨_, _, hTO⟩, Sk.Cur.first h1, Sk.Cur.first h2⟩, fun c hc => ?_, q⟩
      have hle : s1.heap.objs.size ≤ c := by
        have e' := hc
        simp only [List.mem_cons, List.not_mem_nil, or_false] at e'
        rcases e' with e | e | e | e | e <;> rw [e] <;> first | exact Nat.le_add_right _ _ | exact Nat.le_refl _
      exact I1.fpOk hle (I1.hok.fresh hle)⟩
theorem pi_m3 {X : Cx} {e e2 e3 : Expr} {ta : TA} {p pos tpos : Pos} {elts : List Expr} {kk : Nat} (hg : Gl X "zip") (hm : X.mg "zip" = none) (ha : PA X [e, e2, e3] ta)
    (hs : starEach [e, e2, e3] X.env = (false, eval e X.env) :: starEach [e2, e3] X.env) (hpl : (backTo pos (starEach [e2, e3] X.env)).any (·.1) = false) :
    PI X (.Tuple elts kk tpos) (.Call (.Name "zip" p) [e, e2, e3] [] pos) (iM3 X.K ta) := ⟨fun pins s σ H R I h => by
  refine Call_ (ld_blt I hg hm PyProof.Rows.boot_zip (PyProof.Rows.callWith_type1 (thn (ha.run pos pins s σ H _ I h) fun us s1 ⟨vs, H1, I1, r1, q⟩ => ?_) hs hpl))
  obtain ⟨k1, k2, k3, a, b, d, xs, ys, zs, rfl, g1, g2, g3, q⟩ := q
  cases r1 with
  | cons rx rr => cases rr with
    | cons ry rr => cases rr with
      | cons rz rr =>
      cases rr; cases rx; cases ry; cases rz
      obtain ⟨u1, _, p1⟩ := Sk.real I1 g1
      obtain ⟨u2, _, p2⟩ := Sk.real I1 g2
      obtain ⟨u3, _, p3⟩ := Sk.real I1 g3
      refine zip_begins3 (Sk.starts a u1.toArray k1) (Sk.starts b u2.toArray k2) (Sk.starts d u3.toArray k3) p1 p2 p3 fun h' hz hTI hTO h1 h2 h3 hsz hk => wpAny_pyIter_zip hz ?_
      refine ⟨_, [_, _, _, _, _, _], _, _, H1, rfl, I1.kept (t' := s1.toks) hk, turn_m3 (k1 := k1) (k2 := k2) (k3 := k3) (apart3 p1.lt p2.lt p3.lt), ⟨hz, hTI, ⟨_, _, _, hTO⟩, Sk.Cur.first h1, Sk.Cur.first h2, Sk.Cur.first h3⟩, fun c hc => ?_, q⟩
      have hle : s1.heap.objs.size ≤ c := by
        have e' := hc
        simp only [List.mem_cons, List.not_mem_nil, or_false] at e'
        rcases e' with e | e | e | e | e | e <;> rw [e] <;> first | exact Nat.le_add_right _ _ | exact Nat.le_refl _
      exact I1.fpOk hle (I1.hok.fresh hle)⟩
end DL
set_option maxHeartbeats 2000000
namespace DL
open PySem PySem.Spec PyProof.Rows L2

/-! ### what a loop walks over -/
def ItOk (vw : Bool) (W : Wd) (H1 F1 : Hp) (J : It) (xs : List D) : Prop := xs.length ≤ line ∧ ∃ (G : Hp → Prop) (Y : Nat → Hp → V → Hp → Prop), Walk J xs.length G Y ∧ (∀ H F, Le F1 F → Le F H → (vw = true → Ext W H1 H) → G H) ∧
  ∀ i H x H' F p, i < xs.length → Le F1 F → Ctx W H F p → Y i H x H' → ∃ F' d, xs[i]? = some d ∧ Step W H F H' F' p ∧ DL.Rd W F' x d
abbrev tI (vw : Bool) (W : Wd) (Wx : WX) (m : En → M (List D)) : TI := tM W Wx (ItOk vw W) m
def RV (W : Wd) : Bool → Hp → Hp → V → D → Prop
  | true => Vw W
  | false => rD W
section
variable {W : Wd}
theorem RV.vw {vw : Bool} {H F : Hp} {v : V} {d : D} (h : RV W vw H F v d) : Vw W H F v d := by
  cases vw with
  | true => exact h
  | false => exact .inl h
theorem keeps_RV : ∀ vw, Keeps W (RV W vw)
  | true => keeps_Vw
  | false => keeps_rD
theorem RV.lst {vw : Bool} {H1 F1 : Hp} {p : Pen} (c : Ctx W H1 F1 p) {v : V} {xs : List D} (h : RV W vw H1 F1 v (.lst xs)) : ∃ a vs, v = .ref a ∧ RdA W F1 vs xs ∧ ∀ H F, Le F1 F → Le F H → (vw = true → Ext W H1 H) → SqL W.K H a vs := by
  cases vw with
  | false => cases (show DL.Rd W F1 v (.lst xs) from h) with
    | lst hq r => exact ⟨_, _, rfl, r, fun H F l1 l2 _ => SqL.of (l2 _ _ (l1 _ _ hq))⟩
  | true =>
    rcases (show Vw W H1 F1 v (.lst xs) from h) with h | ⟨q, vs, ys, e1, e2, hf, hh, r⟩
    · cases h with
      | lst hq r => exact ⟨_, _, rfl, r, fun H F l1 l2 _ => SqL.of (l2 _ _ (l1 _ _ hq))⟩
    · cases e2
      have hq : q ≠ W.pa := fun z => by
        obtain ⟨ca, e⟩ := c.pa
        rw [z, e] at hh; cases hh
      exact ⟨q, vs, e1, r, fun H F _ _ l => SqL.of (l rfl _ _ hq (fun _ z => nomatch z) hh)⟩
theorem RV.tup {vw : Bool} {H1 F1 : Hp} {v : V} {xs : List D} (h : RV W vw H1 F1 v (.tup xs)) : ∃ a vs, v = .ref a ∧ RdA W F1 vs xs ∧ ∀ H F, Le F1 F → Le F H → SqT W.K H a vs := by
  obtain ⟨a, vs, e, h, r⟩ := h.vw.tup
  exact ⟨a, vs, e, r, fun H F l1 l2 => sqT_mono l2 (sqT_mono l1 h)⟩
theorem it_list {vw : Bool} {H1 F1 : Hp} {a : Addr} {vs : List V} {xs : List D} (r : RdA W F1 vs xs) (hl : xs.length ≤ line) (hs : ∀ H F, Le F1 F → Le F H → (vw = true → Ext W H1 H) → SqL W.K H a vs) : ItOk vw W H1 F1 (Itl W.K a) xs := by
  refine ⟨hl, _, _, by rw [← r.length]; exact walk_list, hs, fun i H x H' F p hi l c y => ?_⟩
  obtain ⟨rfl, e⟩ := y
  obtain ⟨d, e2, r2⟩ := r.get e
  exact ⟨F, d, e2, Step.refl c, r2.mono l⟩
theorem it_tup {vw : Bool} {H1 F1 : Hp} {a : Addr} {vs : List V} {xs : List D} (r : RdA W F1 vs xs) (hl : xs.length ≤ line) (hs : ∀ H F, Le F1 F → Le F H → SqT W.K H a vs) : ItOk vw W H1 F1 (Itt W.K a) xs := by
  refine ⟨hl, _, _, by rw [← r.length]; exact walk_tup, fun H F l1 l2 _ => hs H F l1 l2, fun i H x H' F p hi l c y => ?_⟩
  obtain ⟨rfl, e⟩ := y
  obtain ⟨d, e2, r2⟩ := r.get e
  exact ⟨F, d, e2, Step.refl c, r2.mono l⟩
theorem rngD_get {i j : Int} {k : Nat} (h : k < (j - i).toNat) : (rngD i j)[k]? = some (.int (i + k)) := by
  simp [rngD, h]
theorem it_rng {vw : Bool} {H1 F1 : Hp} {i j : Int} (hb : (rngD i j).length ≤ line) : ItOk vw W H1 F1 (Itr i (j - i).toNat) (rngD i j) := by
  have hl : (rngD i j).length = (j - i).toNat := by simp [rngD]
  refine ⟨hb, _, _, by rw [hl]; exact walk_range, fun _ _ _ _ _ => trivial, fun k H x H' F p hi l c y => ?_⟩
  obtain ⟨rfl, rfl⟩ := y
  exact ⟨F, _, rngD_get (by omega), Step.refl c, .int _⟩
theorem lay_pair {H F : Hp} {p : Pen} (c : Ctx W H F p) {T : Addr} {x y : V} {d e : D} (hT : H T = none) (r1 : DL.Rd W F x d) (r2 : DL.Rd W F y e) : Step W H F (upd H T (.tup [x, y])) (upd F T (.tup [x, y])) p ∧ DL.Rd W (upd F T (.tup [x, y])) (.ref T) (.tup [d, e]) := by
  have s := Step.lay c (.tup [x, y]) hT
  exact ⟨s, .tup (SqT.of upd_same) (.cons (r1.mono s.le) (.cons (r2.mono s.le) .nil))⟩
theorem zipW_get {xs ys : List D} {i : Nat} {d e : D} (h1 : xs[i]? = some d) (h2 : ys[i]? = some e) : (List.zipWith (fun u v => D.tup [u, v]) xs ys)[i]? = some (.tup [d, e]) := by
  rw [List.getElem?_zipWith, h1, h2]
theorem RV.seq {vw : Bool} {H1 F1 : Hp} {p : Pen} (c : Ctx W H1 F1 p) {v : V} {d : D} (h : RV W vw H1 F1 v d) {xs : List D} (e : seqOf d = some xs) : ∃ (k : Sk) (a : Addr) (vs : List V), v = .ref a ∧ RdA W F1 vs xs ∧ ∀ H F, Le F1 F → Le F H → (vw = true → Ext W H1 H) → k.Sq W.K H a vs := by
  cases d <;> try (cases e; done)
  · cases e
    obtain ⟨a, vs, rfl, q, h1⟩ := h.tup
    exact ⟨.t, a, vs, rfl, q, fun H F l1 l2 _ => h1 H F l1 l2⟩
  · cases e
    obtain ⟨a, vs, rfl, q, h1⟩ := h.lst c
    exact ⟨.l, a, vs, rfl, q, h1⟩
theorem it_m2 {vw : Bool} {H1 F1 : Hp} {k1 k2 : Sk} {a b : Addr} {vs ws : List V} {xs ys : List D} (r1 : RdA W F1 vs xs) (r2 : RdA W F1 ws ys) (hl : xs.length ≤ line) (h1 : ∀ H F, Le F1 F → Le F H → (vw = true → Ext W H1 H) → k1.Sq W.K H a vs) (h2 : ∀ H F, Le F1 F → Le F H → (vw = true → Ext W H1 H) → k2.Sq W.K H b ws) :
    ItOk vw W H1 F1 (ItM2 W.K k1 k2 a b) (List.zipWith (fun u v => .tup [u, v]) xs ys) := by
  have hn : (List.zipWith (fun u v => D.tup [u, v]) xs ys).length = min vs.length ws.length := by simp [r1.length, r2.length]
  refine ⟨by simp; omega, fun H => k1.Sq W.K H a vs ∧ k2.Sq W.K H b ws, fun i H v H' => ∃ T x y, v = .ref T ∧ H T = none ∧ H' = upd H T (.tup [x, y]) ∧ vs[i]? = some x ∧ ws[i]? = some y,
    ⟨fun i _ hi q => ⟨vs, ws, q.1, q.2, hn ▸ hi⟩, fun _ q => ⟨vs, ws, q.1, q.2, hn⟩, fun i H v H' _ q y => ?_⟩, fun H F l1 l2 l3 => ⟨h1 H F l1 l2 l3, h2 H F l1 l2 l3⟩, fun i H x H' F p hi l c y => ?_⟩
  · obtain ⟨T, x, z, g1, g2, g3, g4, g5⟩ := y
    exact ⟨T, x, z, g1, g2, g3, g4 vs q.1, g5 ws q.2⟩
  obtain ⟨T, u, v, rfl, hT, rfl, e1, e2⟩ := y
  obtain ⟨d, e3, q1⟩ := r1.get e1
  obtain ⟨e, e4, q2⟩ := r2.get e2
  obtain ⟨s, rr⟩ := lay_pair c hT (q1.mono l) (q2.mono l)
  exact ⟨_, _, zipW_get e3 e4, s, rr⟩
theorem zipW3_get {xs ys zs : List D} {i : Nat} {d e f : D} (h1 : xs[i]? = some d) (h2 : ys[i]? = some e) (h3 : zs[i]? = some f) : (List.zipWith (fun u v => match v with | (v, w) => D.tup [u, v, w]) xs (List.zip ys zs))[i]? = some (.tup [d, e, f]) := by
  simp [List.getElem?_zipWith, List.zip, h1, h2, h3]
theorem it_m3 {vw : Bool} {H1 F1 : Hp} {k1 k2 k3 : Sk} {a b d : Addr} {vs ws us : List V} {xs ys zs : List D} (r1 : RdA W F1 vs xs) (r2 : RdA W F1 ws ys) (r3 : RdA W F1 us zs) (hl : xs.length ≤ line) (h1 : ∀ H F, Le F1 F → Le F H → (vw = true → Ext W H1 H) → k1.Sq W.K H a vs) (h2 : ∀ H F, Le F1 F → Le F H → (vw = true → Ext W H1 H) → k2.Sq W.K H b ws)
    (h3 : ∀ H F, Le F1 F → Le F H → (vw = true → Ext W H1 H) → k3.Sq W.K H d us) : ItOk vw W H1 F1 (ItM3 W.K k1 k2 k3 a b d) (List.zipWith (fun u v => match v with | (v, w) => .tup [u, v, w]) xs (List.zip ys zs)) := by
  have hn : (List.zipWith (fun u v => match v with | (v, w) => D.tup [u, v, w]) xs (List.zip ys zs)).length = min (min vs.length ws.length) us.length := by simp [r1.length, r2.length, r3.length]
  refine ⟨by simp; omega, fun H => k1.Sq W.K H a vs ∧ k2.Sq W.K H b ws ∧ k3.Sq W.K H d us, fun i H v H' => ∃ T x y z, v = .ref T ∧ H T = none ∧ H' = upd H T (.tup [x, y, z]) ∧ vs[i]? = some x ∧ ws[i]? = some y ∧ us[i]? = some z,
    ⟨fun i _ hi q => ⟨vs, ws, us, q.1, q.2.1, q.2.2, hn ▸ hi⟩, fun _ q => ⟨vs, ws, us, q.1, q.2.1, q.2.2, hn⟩, fun i H v H' _ q y => ?_⟩, fun H F l1 l2 l3 => ⟨h1 H F l1 l2 l3, h2 H F l1 l2 l3, h3 H F l1 l2 l3⟩, fun i H x H' F p hi l c y => ?_⟩
  · obtain ⟨T, x, z, z2, g1, g2, g3, g4, g5, g6⟩ := y
    exact ⟨T, x, z, z2, g1, g2, g3, g4 vs q.1, g5 ws q.2.1, g6 us q.2.2⟩
  obtain ⟨T, u, v, w, rfl, hT, rfl, e1, e2, e5⟩ := y
  obtain ⟨d, e3, q1⟩ := r1.get e1
  obtain ⟨e, e4, q2⟩ := r2.get e2
  obtain ⟨f, e6, q3⟩ := r3.get e5
  have s := Step.lay c (.tup [u, v, w]) hT
  exact ⟨_, _, zipW3_get e3 e4 e6, s, .tup (SqT.of upd_same) (.cons ((q1.mono l).mono s.le) (.cons ((q2.mono l).mono s.le) (.cons ((q3.mono l).mono s.le) .nil)))⟩
theorem it_enum {vw : Bool} {H1 F1 : Hp} {a : Addr} {vs : List V} {xs : List D} (r : RdA W F1 vs xs) (hl : xs.length ≤ line) (hs : ∀ H F, Le F1 F → Le F H → (vw = true → Ext W H1 H) → SqL W.K H a vs) :
    ItOk vw W H1 F1 (Ite W.K a) (xs.zipIdx.map fun q => .tup [.int q.2, q.1]) := by
  refine ⟨by simpa using hl, _, _, by simp only [List.length_map, List.length_zipIdx]; rw [← r.length]; exact walk_enum, hs, fun i H x H' F p hi l c y => ?_⟩
  obtain ⟨T, u, v, rfl, hT, rfl, e1, e2⟩ := y
  cases e1
  obtain ⟨e, e4, q2⟩ := r.get e2
  obtain ⟨s, rr⟩ := lay_pair c hT (.int (i : Nat)) (q2.mono l)
  exact ⟨_, _, by simp [e4], s, rr⟩
end
section
variable {X : Cx} {W : Wd} {Wx : WX} {tg a b : Expr} {pos p0 : Pos}
def iSeq (K : PySem.W.Frag) (t : TE) : TI := fun σ H R => t σ H fun x H1 => ∃ a xs, x = .ref a ∧ ((SqL K H1 a xs ∧ R (Itl K a) H1) ∨ (SqT K H1 a xs ∧ R (Itt K a) H1))
theorem pi_seq {l : Expr} {t : TE} (hl : PE X l t) : PI X tg l (iSeq X.K t) := ⟨fun pins s σ H R I h => thn (hl.run pins s σ H _ I h) fun v s1 z => by
  obtain ⟨x, H1, J, rx, a, xs, e, q⟩ := z
  subst e
  cases rx
  have fp : ∀ b ∈ [s1.heap.objs.size], FpOk X pins H1 b := fun b hb => by
    rw [List.mem_singleton.mp hb]
    exact J.fpOk (Nat.le_refl _) (J.hok.fresh (Nat.le_refl _))
  rcases q with ⟨hq, q⟩ | ⟨hq, q⟩
  · obtain ⟨its, _, p, _⟩ := J.list hq
    exact wpAny_pyIter_list p.isList ⟨_, _, _, _, _, rfl, J.kept (t' := s1.toks) fun b o e => Heap.get?_push_of_some _ e, turn_list a _, ⟨_, Heap.get?_push_size _ rfl, rfl, rfl⟩, fp, q⟩
  · obtain ⟨its, _, p, _⟩ := J.tuple hq
    exact wpAny_pyIter_tuple (show s1.heap.IsTuple a its.toArray from p) ⟨_, _, _, _, _, rfl, J.kept (t' := s1.toks) fun b o e => Heap.get?_push_of_some _ e, turn_tuple a _, ⟨_, Heap.get?_push_size _ rfl, rfl, rfl⟩, fp, q⟩⟩
theorem pi_w {t t' : TI} (h : PI X tg a t) (k : ∀ σ H R, t' σ H R → t σ H R) : PI X tg a t' := ⟨fun pins s σ H R I z => h.run pins s σ H R I (k _ _ _ z)⟩
theorem good_ofOg {α β : Type} {R : Hp → Hp → β → α → Prop} {o : Option α} {σ : L2.St} {H F : Hp} {p : Pen} {Q : β → Hp → Prop} (h : Good W Wx σ R H F (ofO o p) Q) : ∃ d, o = some d ∧ ∀ v H' F', Step W H F H' F' p → R H' F' v d → Q v H' := by
  cases o with
  | none => exact h.elim
  | some d => exact ⟨d, rfl, h⟩
def RVl (W : Wd) (vw : Bool) : Hp → Hp → V → D → Prop := fun H F v d => RV W vw H F v d ∧ ∀ xs, seqOf d = some xs → xs.length ≤ line
theorem keeps_RVl (vw : Bool) : Keeps W (RVl W vw) := fun _ _ _ _ _ _ _ _ c s h => ⟨keeps_RV vw _ _ _ _ _ _ _ _ c s h.1, h.2⟩
/-- a list, a tuple in the heap is not too long -/
theorem pe_len {vw : Bool} (hK : W.K = X.K) {ma : En → M D} (ha : PE X a (tM W Wx (RV W vw) ma)) : PE X a (tM W Wx (RVl W vw) ma) := ⟨fun pins s σ H Q I z => by
  obtain ⟨ρ, F, p, c, en, g⟩ := z
  refine thn (ha.run pins s σ H (fun v H' => ∃ F' p' d, Ctx W H' F' p' ∧ RV W vw H' F' v d ∧ ((∀ xs, seqOf d = some xs → xs.length ≤ line) → Q v H')) I ⟨ρ, F, p, c, en, ?_⟩) fun v s1 z => ?_
  · cases q : ma ρ p with
    | bad => rw [q] at g; exact g
    | err e p1 => rw [q] at g; exact g
    | ok d p1 => rw [q] at g; exact fun v H' F' s r => ⟨F', p1, d, s.ctx, r, fun hl => g v H' F' s ⟨r, hl⟩⟩
  · obtain ⟨x, H1, I1, r1, F', p', d, c', rv, k⟩ := z
    refine ⟨x, H1, I1, r1, k fun xs e => ?_⟩
    obtain ⟨a, ws, rfl, hs, r2⟩ := rv.vw.seq c' e
    rw [← r2.length, line_eq]
    rcases hs with hs | hs
    · obtain ⟨_, _, _, h⟩ := I1.list (hK ▸ hs); exact h
    · obtain ⟨_, _, _, h⟩ := I1.tuple (hK ▸ hs); exact h⟩
theorem pi_seqD {vw : Bool} (hK : W.K = X.K) {ma : En → M D} (ha : PE X a (tM W Wx (RV W vw) ma)) : PI X tg a (tI vw W Wx fun ρ => M.bind (ma ρ) fun x => ofO (seqOf x)) :=
  pi_w (pi_seq (pe_len hK ha)) fun σ H R z => t1 (R1 := RVl W vw) (R' := ItOk vw W) (f := fun x _ => ofO (seqOf x)) z fun ρ x p v H1 F1 c _ r g => by
    obtain ⟨xs, e, q⟩ := good_ofOg g
    obtain ⟨r, hl⟩ := r
    cases x <;> try (cases e; done)
    · cases e
      obtain ⟨a, vs, rfl, r2, hs⟩ := r.tup
      refine ⟨a, vs, rfl, .inr ⟨hK ▸ hs H1 F1 (Le.refl _) c.sub, ?_⟩⟩
      rw [← hK]; exact q _ _ _ (Step.refl c) (it_tup r2 (hl _ rfl) hs)
    · cases e
      obtain ⟨a, vs, rfl, r2, hs⟩ := r.lst c
      refine ⟨a, vs, rfl, .inl ⟨hK ▸ hs H1 F1 (Le.refl _) c.sub (fun _ => Ext.refl _), ?_⟩⟩
      rw [← hK]; exact q _ _ _ (Step.refl c) (it_list r2 (hl _ rfl) hs)
theorem line_lt : (line : Int) < 2 ^ 62 := by decide
theorem pi_rng1D {vw : Bool} (hg : Gl X "range") (hm : X.mg "range" = none) (hs : notStar a = true) {ma : En → M D} (ha : PE X a (tD W Wx ma)) : PI X tg (.Call (.Name "range" p0) [a] [] pos) (tI vw W Wx fun ρ => M.bind (ma ρ) fun x => ofO (rng1D x)) :=
  pi_w (pi_range1 hg hm (pa_cons ha pa_nil (star_cons hs)) (star_cons hs)) fun σ H R z => t1 (R1 := rD W) (R' := ItOk vw W) (f := fun x _ => ofO (rng1D x)) z fun ρ x p v H1 F1 c _ r g => by
    obtain ⟨xs, e, q⟩ := good_ofOg g
    cases x <;> try (cases e; done)
    rename_i i
    cases r
    have e' : (if i ≤ (line : Int) ∧ -(line : Int) ≤ i then some (rngD 0 i) else none) = some xs := e
    split at e'
    · rename_i hh
      cases e'
      have := line_lt
      refine ⟨i, rfl, by omega, by omega, ?_⟩
      have := q _ _ _ (Step.refl c) (it_rng (vw := vw) (W := W) (H1 := H1) (F1 := F1) (i := 0) (j := i) (by simp [rngD]; omega))
      rwa [show (i - 0) = i from by omega] at this
    · cases e'
theorem pi_rng2D {vw : Bool} (hg : Gl X "range") (hm : X.mg "range" = none) (hs : notStar a = true) (hs2 : notStar b = true) {ma mb : En → M D} (ha : PE X a (tD W Wx ma)) (hb : PE X b (tD W Wx mb)) :
    PI X tg (.Call (.Name "range" p0) [a, b] [] pos) (tI vw W Wx fun ρ => M.bind (ma ρ) fun x => M.bind (mb ρ) fun y => ofO (rng2D x y)) :=
  pi_w (pi_range2 hg hm (pa_cons ha (pa_cons hb pa_nil (star_cons hs2)) (star_cons hs)) (by rw [star_cons hs, star_cons hs2]; rfl) (star_cons hs2)) fun σ H R z => t2 (keeps_rD) (R2 := rD W) (R' := ItOk vw W) (f := fun x y _ => ofO (rng2D x y)) z fun ρ x y p v u H1 F1 c _ r r2 g => by
    obtain ⟨xs, e, q⟩ := good_ofOg g
    cases x <;> cases y <;> try (cases e; done)
    rename_i i j
    cases r; cases r2
    have e' : (if -(line : Int) ≤ i ∧ i ≤ (line : Int) ∧ -(line : Int) ≤ j ∧ j ≤ (line : Int) ∧ j - i ≤ (line : Int) then some (rngD i j) else none) = some xs := e
    split at e'
    · rename_i hh
      cases e'
      have := line_lt
      exact ⟨i, j, rfl, ⟨by omega, by omega, by omega, by omega⟩, q _ _ _ (Step.refl c) (it_rng (by simp [rngD]; omega))⟩
    · cases e'
theorem pi_zipD {vw : Bool} (hK : W.K = X.K) {elts : List Expr} {kk : Nat} {tpos : Pos} (hg : Gl X "zip") (hm : X.mg "zip" = none) (hs : notStar a = true) (hs2 : notStar b = true) {ma mb : En → M D} (ha : PE X a (tM W Wx (RV W vw) ma)) (hb : PE X b (tM W Wx (RV W vw) mb)) :
    PI X (.Tuple elts kk tpos) (.Call (.Name "zip" p0) [a, b] [] pos) (tI vw W Wx fun ρ => M.bind (ma ρ) fun x => M.bind (mb ρ) fun y => ofO (zipD x y)) :=
  pi_w (pi_m2 hg hm (pa_cons (pe_len hK ha) (pa_cons (pe_len hK hb) pa_nil (star_cons hs2)) (star_cons hs)) (star_cons hs) (star_any (es := [b]) (by simp [noStars, hs2]))) fun σ H R z => t2 (keeps_RVl vw) (R2 := RVl W vw) (R' := ItOk vw W) (f := fun x y _ => ofO (zipD x y)) z fun ρ x y p v u H1 F1 c _ r r2 g => by
    obtain ⟨xs, e, q⟩ := good_ofOg g
    obtain ⟨r, hl⟩ := r
    obtain ⟨r2, _⟩ := r2
    unfold zipD at e
    cases ex : seqOf x with
    | none => rw [ex] at e; cases e
    | some us =>
      cases ey : seqOf y with
      | none => rw [ex, ey] at e; cases e
      | some ws =>
        rw [ex, ey] at e; cases e
        obtain ⟨k1, a, vs, rfl, q1, h1⟩ := r.seq c ex
        obtain ⟨k2, b, vs2, rfl, q2, h2⟩ := r2.seq c ey
        exact ⟨k1, k2, a, b, vs, vs2, rfl, hK ▸ h1 _ _ (Le.refl _) c.sub fun _ => Ext.refl _, hK ▸ h2 _ _ (Le.refl _) c.sub fun _ => Ext.refl _, hK ▸ q _ _ _ (Step.refl c) (it_m2 q1 q2 (hl _ ex) h1 h2)⟩
theorem pi_zip3D {vw : Bool} (hK : W.K = X.K) {d : Expr} {elts : List Expr} {kk : Nat} {tpos : Pos} (hg : Gl X "zip") (hm : X.mg "zip" = none) (hs : notStar a = true) (hs2 : notStar b = true) (hs3 : notStar d = true) {ma mb md : En → M D} (ha : PE X a (tM W Wx (RV W vw) ma)) (hb : PE X b (tM W Wx (RV W vw) mb)) (hd : PE X d (tM W Wx (RV W vw) md)) :
    PI X (.Tuple elts kk tpos) (.Call (.Name "zip" p0) [a, b, d] [] pos) (tI vw W Wx fun ρ => M.bind (ma ρ) fun x => M.bind (mb ρ) fun y => M.bind (md ρ) fun z => ofO (zip3D x y z)) :=
  pi_w (pi_m3 hg hm (pa_cons (pe_len hK ha) (pa_cons (pe_len hK hb) (pa_cons (pe_len hK hd) pa_nil (star_cons hs3)) (star_cons hs2)) (star_cons hs)) (star_cons hs) (star_any (es := [b, d]) (by simp [noStars, hs2, hs3]))) fun σ H R z => t3 (keeps_RVl vw) (keeps_RVl vw) (R3 := RVl W vw) (R' := ItOk vw W) (f := fun x y z _ => ofO (zip3D x y z)) z fun ρ x y z p v u t H1 F1 c _ r r2 r3 g => by
    obtain ⟨xs, e, q⟩ := good_ofOg g
    obtain ⟨r, hl⟩ := r
    obtain ⟨r2, _⟩ := r2
    obtain ⟨r3, _⟩ := r3
    unfold zip3D at e
    cases ex : seqOf x with
    | none => rw [ex] at e; cases e
    | some us =>
      cases ey : seqOf y with
      | none => rw [ex, ey] at e; cases e
      | some ws =>
        cases ez : seqOf z with
        | none => rw [ex, ey, ez] at e; cases e
        | some ts =>
          rw [ex, ey, ez] at e; cases e
          obtain ⟨k1, a, vs, rfl, q1, h1⟩ := r.seq c ex
          obtain ⟨k2, b, vs2, rfl, q2, h2⟩ := r2.seq c ey
          obtain ⟨k3, d, vs3, rfl, q3, h3⟩ := r3.seq c ez
          exact ⟨k1, k2, k3, a, b, d, vs, vs2, vs3, rfl, hK ▸ h1 _ _ (Le.refl _) c.sub fun _ => Ext.refl _, hK ▸ h2 _ _ (Le.refl _) c.sub fun _ => Ext.refl _, hK ▸ h3 _ _ (Le.refl _) c.sub fun _ => Ext.refl _, hK ▸ q _ _ _ (Step.refl c) (it_m3 q1 q2 q3 (hl _ ex) h1 h2 h3)⟩
theorem pi_enumD {vw : Bool} (hK : W.K = X.K) {elts : List Expr} {kk : Nat} {tpos : Pos} (hg : Gl X "enumerate") (hm : X.mg "enumerate" = none) (hs : notStar a = true) {ma : En → M D} (ha : PE X a (tM W Wx (RV W vw) ma)) :
    PI X (.Tuple elts kk tpos) (.Call (.Name "enumerate" p0) [a] [] pos) (tI vw W Wx fun ρ => M.bind (ma ρ) fun x => ofO (enumD x)) :=
  pi_w (pi_enum hg hm (pa_cons (pe_len hK ha) pa_nil (star_cons hs)) (star_cons hs)) fun σ H R z => t1 (R1 := RVl W vw) (R' := ItOk vw W) (f := fun x _ => ofO (enumD x)) z fun ρ x p v H1 F1 c _ r g => by
    obtain ⟨xs, e, q⟩ := good_ofOg g
    obtain ⟨r, hl⟩ := r
    cases x <;> try (cases e; done)
    cases e
    obtain ⟨a, vs, rfl, q1, h1⟩ := r.lst c
    exact ⟨a, vs, rfl, hK ▸ h1 _ _ (Le.refl _) c.sub fun _ => Ext.refl _, hK ▸ q _ _ _ (Step.refl c) (it_enum q1 (hl _ rfl) h1)⟩
end
end DL
set_option maxHeartbeats 2000000
namespace DL
open PySem PySem.Spec PyProof.Rows L2

/-! ### slots set and killed -/
theorem EnvOk.set {W : Wd} {H F : Hp} {σ : L2.St} {ρ : En} (h : EnvOk W H F σ ρ) (i : Nat) {v : V} {d : D} (r : DL.Rd W F v d) : EnvOk W H F (σ.set i (some v)) (ρ.set i (.shr d)) := by
  refine ⟨by simp [h.len], fun j s e => ?_, fun j k xs ys p e1 e2 e3 e4 => ?_⟩
  · by_cases hj : i = j
    · subst hj
      by_cases hl : i < ρ.length
      · rw [List.getElem?_set_self hl] at e
        cases e
        exact ⟨some v, by rw [List.getElem?_set_self (by rw [h.len]; exact hl)], v, rfl, r⟩
      · rw [List.getElem?_eq_none (by simpa using hl)] at e; cases e
    · rw [List.getElem?_set_ne hj] at e ⊢
      exact h.sl j s e
  · have n1 : ∀ k, (ρ.set i (.shr d))[k]? = some (.own xs) → i ≠ k := fun k e z => by
      subst z
      by_cases hl : i < ρ.length
      · rw [List.getElem?_set_self hl] at e; cases e
      · rw [List.getElem?_eq_none (by simpa using hl)] at e; cases e
    have n2 : i ≠ k := fun z => by
      subst z
      by_cases hl : i < ρ.length
      · rw [List.getElem?_set_self hl] at e2; cases e2
      · rw [List.getElem?_eq_none (by simpa using hl)] at e2; cases e2
    have a1 := n1 j e1
    rw [List.getElem?_set_ne a1] at e1 e3
    rw [List.getElem?_set_ne n2] at e2 e4
    exact h.sep j k xs ys p e1 e2 e3 e4
theorem EnvOk.kill1 {W : Wd} {H F : Hp} {σ : L2.St} {ρ : En} (h : EnvOk W H F σ ρ) (i : Nat) (o : Option V) : EnvOk W H F (σ.set i o) (ρ.set i .un) := by
  have ne : ∀ k xs, (ρ.set i .un)[k]? = some (.own xs) → i ≠ k := fun k xs e z => by
    subst z
    by_cases hl : i < ρ.length
    · rw [List.getElem?_set_self hl] at e; cases e
    · rw [List.getElem?_eq_none (by simpa using hl)] at e; cases e
  refine ⟨by simp [h.len], fun j s e => ?_, fun j k xs ys p e1 e2 e3 e4 => ?_⟩
  · by_cases hj : i = j
    · subst hj
      by_cases hl : i < ρ.length
      · rw [List.getElem?_set_self hl] at e
        cases e
        exact ⟨o, by rw [List.getElem?_set_self (by rw [h.len]; exact hl)], trivial⟩
      · rw [List.getElem?_eq_none (by simpa using hl)] at e; cases e
    · rw [List.getElem?_set_ne hj] at e ⊢
      exact h.sl j s e
  · have a1 := ne j xs e1
    have a2 := ne k ys e2
    rw [List.getElem?_set_ne a1] at e1 e3
    rw [List.getElem?_set_ne a2] at e2 e4
    exact h.sep j k xs ys p e1 e2 e3 e4
theorem EnvOk.kill0 {W : Wd} {H F : Hp} {σ : L2.St} {ρ : En} (h : EnvOk W H F σ ρ) (i : Nat) : EnvOk W H F σ (ρ.set i .un) := by
  by_cases hl : i < σ.length
  · have := h.kill1 i (σ[i])
    rwa [List.set_getElem_self] at this
  · rw [List.set_eq_of_length_le (by rw [← h.len]; omega)]; exact h
theorem EnvOk.killE {W : Wd} {H F : Hp} {σ : L2.St} : ∀ {is : List Nat} {ρ : En}, EnvOk W H F σ ρ → EnvOk W H F σ (killE is ρ)
  | [], _, h => h
  | i :: is, _, h => EnvOk.killE (is := is) (h.kill0 i)
theorem killE_set : ∀ {is : List Nat} {ρ : En} {i : Nat}, killE is (ρ.set i .un) = (killE is ρ).set i .un
  | [], _, _ => rfl
  | j :: is, ρ, i => by
    show killE is ((ρ.set i .un).set j .un) = (killE is (ρ.set j .un)).set i .un
    rw [show (ρ.set i .un).set j .un = (ρ.set j .un).set i .un from by
      by_cases h : i = j
      · subst h; rfl
      · exact (List.set_comm _ _ h)]
    exact killE_set
theorem EnvOk.wipe {W : Wd} {H F : Hp} {σ : L2.St} : ∀ {is : List Nat} {ρ : En}, EnvOk W H F σ ρ → EnvOk W H F (L2.wipe σ is) (DL.killE is ρ)
  | [], _, h => h
  | i :: is, ρ, h => by
    show EnvOk W H F ((L2.wipe σ is).set i none) (DL.killE is (ρ.set i .un))
    rw [killE_set]
    exact (EnvOk.wipe h).kill1 i none
theorem wipe_get {σ : L2.St} {j : Nat} : ∀ {is : List Nat}, j ∉ is → (L2.wipe σ is)[j]? = σ[j]?
  | [], _ => rfl
  | i :: is, h => by
    show ((L2.wipe σ is).set i none)[j]? = _
    rw [List.getElem?_set_ne (fun z => h (by rw [z]; exact List.mem_cons_self)), wipe_get (fun z => h (List.mem_cons_of_mem _ z))]
theorem wipe_in {σ : L2.St} {j : Nat} : ∀ {is : List Nat}, j ∈ is → (L2.wipe σ is)[j]? = if j < σ.length then some none else none
  | i :: is, h => by
    show ((L2.wipe σ is).set i none)[j]? = _
    by_cases hj : i = j
    · subst hj
      by_cases hl : i < σ.length
      · rw [List.getElem?_set_self (by rw [L2.wipe_length]; exact hl), if_pos hl]
      · rw [List.getElem?_eq_none (by rw [List.length_set, L2.wipe_length]; omega), if_neg hl]
    · rw [List.getElem?_set_ne hj]
      rcases List.mem_cons.mp h with e | h
      · exact absurd e.symm hj
      · exact wipe_in h
theorem wipe_ext {σ τ : L2.St} {is : List Nat} (hl : σ.length = τ.length) (h : ∀ j, j ∉ is → σ[j]? = τ[j]?) : L2.wipe σ is = L2.wipe τ is := by
  apply List.ext_getElem?
  intro j
  by_cases hj : j ∈ is
  · rw [wipe_in hj, wipe_in hj, hl]
  · rw [wipe_get hj, wipe_get hj, h j hj]
theorem wipe_wipe {σ : L2.St} {is : List Nat} : L2.wipe (L2.wipe σ is) is = L2.wipe σ is := wipe_ext (L2.wipe_length σ is) fun j h => wipe_get h

/-! ### targets -/
mutual
def gOf (K : PySem.W.Frag) : Tg → TG
  | .n i => gName i
  | .t ts => gTup K (tgLen ts) (gsOf K ts)
def gsOf (K : PySem.W.Frag) : List Tg → TGs
  | [] => gNil
  | t :: ts => gCons (gOf K t) (gsOf K ts)
def tgLen : List Tg → Nat
  | [] => 0
  | _ :: ts => tgLen ts + 1
end
/-- σ' is σ but at the slots -/
def OffE (is : List Nat) (σ σ' : L2.St) : Prop := σ'.length = σ.length ∧ ∀ j, j ∉ is → σ'[j]? = σ[j]?
theorem OffE.refl (is : List Nat) (σ : L2.St) : OffE is σ σ := ⟨rfl, fun _ _ => rfl⟩
theorem OffE.trans {is : List Nat} {a b c : L2.St} (h : OffE is a b) (k : OffE is b c) : OffE is a c := ⟨k.1.trans h.1, fun j hj => (k.2 j hj).trans (h.2 j hj)⟩
theorem OffE.mono {is js : List Nat} {a b : L2.St} (h : OffE is a b) (k : ∀ j ∈ is, j ∈ js) : OffE js a b := ⟨h.1, fun j hj => h.2 j fun z => hj (k j z)⟩
theorem OffE.set (σ : L2.St) (i : Nat) (o : Option V) : OffE [i] σ (σ.set i o) := ⟨by simp, fun j hj => List.getElem?_set_ne (fun z => hj (by rw [z]; exact List.mem_cons_self))⟩
mutual
theorem gOf_ok {W : Wd} {H F : Hp} {p : Pen} (c : Ctx W H F p) : ∀ (t : Tg) {σ : L2.St} {ρ ρ1 : En} {v : V} {d : D} {Q : L2.St → Hp → Prop}, EnvOk W H F σ ρ → DL.Rd W F v d → bindT t d ρ = some ρ1 → (∀ σ1, EnvOk W H F σ1 ρ1 → OffE t.slots σ σ1 → Q σ1 H) → gOf W.K t v σ H Q
  | .n i, σ, ρ, ρ1, v, d, Q, e, r, h, q => by
    cases (show some (ρ.set i (.shr d)) = some ρ1 from h)
    exact q _ (e.set i r) (OffE.set σ i (some v))
  | .t ts, σ, ρ, ρ1, v, d, Q, e, r, h, q => by
    cases d <;> try (cases (show none = some ρ1 from h); done)
    rename_i xs
    have h' : bindTs ts xs ρ = some ρ1 := h
    cases r with
    | tup hs rr =>
      have hlen := bindTs_len ts h'
      exact ⟨_, _, rfl, sqT_mono c.sub hs, by rw [rr.length, hlen], gsOf_ok c ts e rr h' q⟩
theorem gsOf_ok {W : Wd} {H F : Hp} {p : Pen} (c : Ctx W H F p) : ∀ (ts : List Tg) {σ : L2.St} {ρ ρ1 : En} {vs : List V} {xs : List D} {Q : L2.St → Hp → Prop}, EnvOk W H F σ ρ → RdA W F vs xs → bindTs ts xs ρ = some ρ1 → (∀ σ1, EnvOk W H F σ1 ρ1 → OffE (Tg.slotss ts) σ σ1 → Q σ1 H) → gsOf W.K ts vs σ H Q
  | [], σ, ρ, ρ1, vs, xs, Q, e, r, h, q => by
    cases r with
    | nil =>
      cases (show some ρ = some ρ1 from h)
      exact ⟨rfl, q _ e (OffE.refl _ _)⟩
    | cons _ _ => cases (show none = some ρ1 from h)
  | t :: ts, σ, ρ, ρ1, vs, xs, Q, e, r, h, q => by
    cases r with
    | nil => cases (show none = some ρ1 from h)
    | cons r1 r2 =>
      obtain ⟨ρ2, h1, h2⟩ := bind_some (show (bindT t _ ρ).bind (fun ρ1 => bindTs ts _ ρ1) = some ρ1 from h)
      refine ⟨_, _, rfl, gOf_ok c t e r1 h1 fun σ1 e1 o1 => gsOf_ok c ts e1 r2 h2 fun σ2 e2 o2 => q σ2 e2 ?_⟩
      exact (o1.mono fun j hj => List.mem_append_left _ hj).trans (o2.mono fun j hj => List.mem_append_right _ hj)
theorem bindTs_len : ∀ (ts : List Tg) {xs : List D} {ρ ρ1 : En}, bindTs ts xs ρ = some ρ1 → xs.length = tgLen ts
  | [], [], _, _, _ => rfl
  | [], _ :: _, _, _, h => by cases (show none = some _ from h)
  | _ :: _, [], _, _, h => by cases (show none = some _ from h)
  | t :: ts, x :: xs, ρ, ρ1, h => by
    obtain ⟨ρ2, h1, h2⟩ := bind_some (show (bindT t x ρ).bind (fun ρ1 => bindTs ts xs ρ1) = some ρ1 from h)
    show xs.length + 1 = tgLen ts + 1
    rw [bindTs_len ts h2]
end
theorem assign_each1 {e : Expr} {es : List Expr} {env : Env} (h : notStar e = true) : (assignEach (e :: es) env).map (·.2) = assign e env :: (assignEach es env).map (·.2) := by
  cases e <;> first | rfl | cases h
theorem assign_each2 {e : Expr} {es : List Expr} {env : Env} (h : notStar e = true) : (assignEach (e :: es) env) = (false, assign e env) :: (assignEach es env) := by
  cases e <;> first | rfl | cases h
theorem chkTgs_len {S : Sc} {sc : Scope} {fnb : Str → Bool} {env : Env} : ∀ {ts : List Tg} {es : List Expr}, chkTgs S sc fnb ts es = true → (assignEach es env).length = tgLen ts ∧ (assignEach es env).findIdx? (·.1) = none
  | [], [], _ => ⟨rfl, rfl⟩
  | [], _ :: _, h => by cases h
  | _ :: _, [], h => by cases h
  | t :: ts, e :: es, h => by
    have h' : (notStar e && chkTg S sc fnb t e && chkTgs S sc fnb ts es) = true := h
    simp only [Bool.and_eq_true] at h'
    obtain ⟨h1, h2⟩ := chkTgs_len (env := env) h'.2
    rw [assign_each2 h'.1.1]
    exact ⟨by simp [h1, tgLen], by simp [List.findIdx?_cons, h2]⟩
mutual
theorem pg_of {X : Cx} {S : Sc} {sc : Scope} {fnb : Str → Bool} (hc : X.calm = true) (hN : X.N = S.N) (nd : S.N.Nodup) (hs : X.env.scope = sc) (hf : ∀ x, fnb x = true → X.fn x = true) : ∀ (t : Tg) (e : Expr), chkTg S sc fnb t e = true → PG X e (gOf X.K t)
  | .n i, e, h => by
    cases e <;> try (cases h; done)
    rename_i x px
    obtain ⟨h1, h2⟩ := Bool.and_eq_true_iff.mp (show (decide (S.N[i]? = some x) && (match sc.names.lookup x with | some .local => true | some .cell => fnb x | _ => false)) = true from h)
    have h1 : X.N[i]? = some x := by rw [hN]; exact of_decide_eq_true h1
    subst hs
    split at h2
    · rename_i e1
      exact pg_name (hN ▸ nd) h1 (.inl e1) (.inr e1)
    · rename_i e1
      exact pg_name (hN ▸ nd) h1 (.inr e1) (.inl (hf x h2))
    · cases h2
  | .t ts, e, h => by
    cases e <;> try (cases h; done)
    rename_i es kk pp
    have h' : chkTgs S sc fnb ts es = true := h
    obtain ⟨h1, h2⟩ := chkTgs_len (env := X.env) h'
    exact pg_tup hc (pgs_of hc hN nd hs hf ts es h') h1 h2
theorem pgs_of {X : Cx} {S : Sc} {sc : Scope} {fnb : Str → Bool} (hc : X.calm = true) (hN : X.N = S.N) (nd : S.N.Nodup) (hs : X.env.scope = sc) (hf : ∀ x, fnb x = true → X.fn x = true) : ∀ (ts : List Tg) (es : List Expr), chkTgs S sc fnb ts es = true → PGs X es (gsOf X.K ts)
  | [], [], _ => pgs_nil
  | [], _ :: _, h => by cases h
  | _ :: _, [], h => by cases h
  | t :: ts, e :: es, h => by
    have h' : (notStar e && chkTg S sc fnb t e && chkTgs S sc fnb ts es) = true := h
    simp only [Bool.and_eq_true] at h'
    exact pgs_cons (pg_of hc hN nd hs hf t e h'.1.2) (pgs_of hc hN nd hs hf ts es h'.2) (assign_each1 h'.1.1)
end
end DL
set_option maxHeartbeats 2000000
namespace DL
open PySem PySem.Spec PyProof.Rows L2

/-! ### comprehensions -/
abbrev WF : WX := fun _ _ _ _ => False
theorem takes_no {X : Cx} : Takes X WF := fun u s' h => by
  obtain ⟨_, _, _, _, _, _, _, _, _, _, _, _, _, _, _, _, z⟩ := h
  exact z.elim
theorem compL_err {f : D → M (Option D)} : ∀ {xs : List D} {p p' : Pen} {e : Exc}, compL f xs p ≠ .err e p'
  | [], _, _, _, h => by cases h
  | x :: xs, p, p', e, h => by
    have h' : (match f x p with | .ok (some y) p1 => (compL f xs p1).bind fun ys => M.pure (y :: ys) | .ok none p1 => compL f xs p1 | _ => .bad) = .err e p' := h
    split at h'
    · rename_i y p1 _
      cases q : compL f xs p1 with
      | bad => rw [q] at h'; cases h'
      | err e2 p2 => exact compL_err q
      | ok ys p2 => rw [q] at h'; cases h'
    · exact compL_err h'
    · cases h'
theorem compL_cons {f : D → M (Option D)} {x : D} {xs ys : List D} {p p' : Pen} (h : compL f (x :: xs) p = .ok ys p') :
    ∃ o p1 zs, f x p = .ok o p1 ∧ compL f xs p1 = .ok zs p' ∧ ys = (match o with | some y => y :: zs | none => zs) := by
  have h' : (match f x p with | .ok (some y) p1 => (compL f xs p1).bind fun ys => M.pure (y :: ys) | .ok none p1 => compL f xs p1 | _ => .bad) = .ok ys p' := h
  split at h'
  · rename_i y p1 e1
    cases q : compL f xs p1 with
    | bad => rw [q] at h'; cases h'
    | err e2 p2 => exact absurd q compL_err
    | ok zs p2 => rw [q] at h'; cases h'; exact ⟨some y, p1, zs, e1, q, rfl⟩
  · rename_i p1 e1
    exact ⟨none, p1, ys, e1, h', rfl⟩
  · cases h'
theorem New.old {H F F' : Hp} (n : New H F F') {a : Addr} {vs : List V} (h : F a = none) (hh : H a = some (.lst vs)) : F' a = none := n.fr a _ (Fx.lst vs) h hh
/-- an own list changed: a step from before it was there -/
theorem Step.put {W : Wd} {H0 F0 H F : Hp} {p : Pen} (s : Step W H0 F0 H F p) {a : Addr} {vs ws : List V} (h0 : H0 a = none) (hf : F a = none) (hh : H a = some (.lst vs)) : Step W H0 F0 (upd H a (.lst ws)) F p := by
  have hq : a ≠ W.pa := fun z => by
    obtain ⟨ca, e⟩ := s.ctx.pa
    rw [z, e] at hh; cases hh
  have k : ∀ b u, (∀ vs, u ≠ .lst vs) → (∀ kvs, u ≠ .dK kvs) → H b = some u → upd H a (.lst ws) b = some u := fun b u hl _ e => by
    rw [upd_ne (fun z => by rw [z, hh] at e; exact hl vs (Option.some.inj e).symm)]; exact e
  refine ⟨s.pk, fun b u hb ht e => ?_, s.tb.trans (TbSt.of k), s.new, ⟨fun b u e => ?_, ⟨s.ctx.pen.no, s.ctx.pen.ok, ?_⟩, s.ctx.b0, s.ctx.nt, tabs_of k s.ctx.tbs⟩⟩
  · rw [upd_ne (ne_of_none e h0)]; exact s.ext b u hb ht e
  · rw [upd_ne (ne_of_none e hf)]; exact s.ctx.sub b u e
  · obtain ⟨ca, h1, h2⟩ := s.ctx.pen.ob
    exact ⟨ca, by rw [upd_ne (Ne.symm hq)]; exact h1, h2⟩
theorem map_snd_own {S : Sc} {tg : Tg} : (ownOf S tg).map (·.2) = tg.slots := by
  simp [ownOf, Function.comp_def]
section
variable {X : Cx} {W : Wd} {Wx : WX} {pos : Pos}
theorem comp_imp (hK : W.K = X.K) {S : Sc} {tg : Tg} {mi : En → M (List D)} {mt : En → M Bool} {me : En → M D} {σ : L2.St} {H : Hp} {Q : VK} (z : tF W Wx (fun ρ => M.bind (mi ρ) fun xs => compL (turnC tg mt me ρ) xs) σ H Q) :
    tLc (tI true W Wx mi) (gOf X.K tg) (DL.tB W WF mt) (tD W WF me) ((ownOf S tg).map (·.2)) σ H Q := by
    obtain ⟨ρ, F, p, c, en, g⟩ := z
    rw [map_snd_own]
    refine ⟨ρ, F, p, c, en, goodF_bind (R := ItOk true W) (f := fun xs => compL (turnC tg mt me ρ) xs) c g fun xs p1 J H1 F1 e s r g1 => ?_⟩
    have en1 := en.step c s
    obtain ⟨hlen, G, Y, wk, hG, hY⟩ := r
    intro D hD
    cases q : compL (turnC tg mt me ρ) xs p1 with
    | bad => rw [q] at g1; exact g1.elim
    | err e2 p2 => exact absurd q compL_err
    | ok ys p2 =>
      rw [q] at g1
      have c1 := s.ctx
      have hDF := c1.freeF hD
      rw [line_eq] at hlen
      refine lc_it wk (fun i H' => ∃ F' p' acc zs ws, Step W H1 F1 H' F' p' ∧ H' D = some (.lst acc) ∧ F' D = none ∧ RdA W F' acc zs ∧ acc.length ≤ i ∧ compL (turnC tg mt me ρ) (xs.drop i) p' = .ok ws p2 ∧ zs ++ ws = ys) ?_ ?_ ?_ ?_
      · exact ⟨F1, p1, [], [], ys, Step.lay0 c1 (.lst []) hD, upd_same, hDF, .nil, Nat.le_refl _, q, rfl⟩
      · rintro i H' hi ⟨F', p', acc, zs, ws, st, hh, hf, ra, hl, hq, e2⟩
        exact hG H' F' st.le st.ctx.sub fun _ => st.ext
      · rintro i x H' H2 hi ⟨F', p', acc, zs, ws, st, hh, hf, ra, hl, hq, e2⟩ y
        obtain ⟨F2, d, ed, s2, rd⟩ := hY i H' x H2 F' p' hi st.le st.ctx y
        have hdrop : xs.drop i = d :: xs.drop (i + 1) := by
          obtain ⟨hlt, ee⟩ := List.getElem?_eq_some_iff.mp ed
          rw [List.drop_eq_getElem_cons hlt, ee]
        rw [hdrop] at hq
        obtain ⟨o, p3, us, ef, eq, eo⟩ := compL_cons hq
        have st2 := st.trans s2
        have hDne : D ≠ W.pa := fun z => by
          obtain ⟨ca, e⟩ := st.ctx.pa
          rw [z, e] at hh; cases hh
        have hh2 := s2.ext D (.lst acc) hDne (fun _ z => nomatch z) hh
        have hf2 := s2.new.old hf hh
        have ra2 := ra.mono s2.le
        have en2 : EnvOk W H2 F2 (L2.wipe σ tg.slots) (killE tg.slots ρ) := (en1.step c1 st2).wipe
        unfold turnC at ef
        cases eb : bindT tg d (killE tg.slots ρ) with
        | none => rw [eb] at ef; cases ef
        | some ρ1 =>
          rw [eb] at ef
          rw [← hK]
          refine gOf_ok st2.ctx tg en2 rd eb fun σ1 en3 off => ⟨?_, ?_⟩
          · rw [wipe_ext (is := tg.slots) off.1 off.2, wipe_wipe]
          · have ef' : (mt ρ1 p').bind (fun k => if k = true then M.bind (me ρ1) fun y => M.pure (some y) else M.pure none) = .ok o p3 := ef
            refine ⟨ρ1, F2, p', st2.ctx, en3, ?_⟩
            cases e1 : mt ρ1 p' with
            | bad => rw [e1] at ef'; cases ef'
            | err _ _ => rw [e1] at ef'; cases ef'
            | ok k p4 =>
              rw [e1] at ef'
              intro b H4 F4 s4 hbk
              have hbk : b = k := hbk
              subst hbk
              have hh4 := s4.ext D (.lst acc) hDne (fun _ z => nomatch z) hh2
              have hf4 := s4.new.old hf2 hh2
              have ra4 := ra2.mono s4.le
              have st4 := st2.trans s4
              cases b with
              | false =>
                rw [if_neg (by simp)]
                cases (show Out.ok none p4 = .ok o p3 from ef')
                exact ⟨F4, _, acc, zs, us, st4, hh4, hf4, ra4, by omega, eq, by rw [← e2, eo]⟩
              | true =>
                rw [if_pos rfl]
                have ef2 : (me ρ1 p4).bind (fun y => M.pure (some y)) = .ok o p3 := ef'
                refine ⟨ρ1, F4, p4, s4.ctx, en3.step st2.ctx s4, ?_⟩
                cases e5 : me ρ1 p4 with
                | bad => rw [e5] at ef2; cases ef2
                | err _ _ => rw [e5] at ef2; cases ef2
                | ok y p5 =>
                  rw [e5] at ef2
                  cases (show Out.ok (some y) p5 = .ok o p3 from ef2)
                  intro v H5 F5 s5 rv
                  have hh5 := s5.ext D (.lst acc) hDne (fun _ z => nomatch z) hh4
                  have hf5 := s5.new.old hf4 hh4
                  have st5 := st4.trans s5
                  refine ⟨acc, hh5, by omega, F5, _, acc ++ [v], zs ++ [y], us, st5.put hD hf5 hh5, upd_same, hf5, (ra4.mono s5.le).append (.cons rv .nil), by simp; omega, eq, ?_⟩
                  rw [← e2, eo]; simp
      · rintro H' ⟨F', p', acc, zs, ws, st, hh, hf, ra, hl, hq, e2⟩
        rw [List.drop_length] at hq
        cases (show Out.ok [] p' = .ok ws p2 from hq)
        rw [List.append_nil] at e2
        subst e2
        exact g1 D acc H' F' st hD hf hh ra
theorem pe_compD (hK : W.K = X.K) {elt tge iter : Expr} {ifs : List Expr} {scope : Scope} {S : Sc} {tg : Tg} {mi : En → M (List D)} {mt : En → M Bool} {me : En → M D} (hc : X.calm = true) (hN : X.N.Nodup) (hi : PI X tge iter (tI true W Wx mi)) (ok : BlkOk X.N X.env.scope scope (ownOf S tg))
    (hg : ∀ (s : Shared) (H : Hp) (C : Addr) (cl : List (Str × Addr)) (fp : List Addr), PG (X.blk s H scope (compEnvC scope cl C X.env) fp) tge (gOf X.K tg))
    (ht : ∀ (s : Shared) (H : Hp) (C : Addr) (cl : List (Str × Addr)) (fp : List Addr), PTs (X.blk s H scope (compEnvC scope cl C X.env) fp) ifs (DL.tB W WF mt))
    (he : ∀ (s : Shared) (H : Hp) (C : Addr) (cl : List (Str × Addr)) (fp : List Addr), PE (X.blk s H scope (compEnvC scope cl C X.env) fp) elt (tD W WF me))
    (hs : ∀ x, foldedSetIterable iter X.env x = pure x) : PE X (.ListComp elt [⟨tge, iter, ifs, 0⟩] scope pos) (tF W Wx fun ρ => M.bind (mi ρ) fun xs => compL (turnC tg mt me ρ) xs) :=
  pe_w (pe_lc hc hN hi ok hg ht he hs) fun σ H Q z => comp_imp hK z
end
end DL
set_option maxHeartbeats 2000000
namespace DL
open PySem PySem.Spec PyProof.Rows L2

/-! ### lists anew -/
section
variable {X : Cx} {W : Wd} {Wx : WX} {a b : Expr} {pos p0 p1' p2' : Pos}
theorem goodF_ofO {o : Option (List D)} {σ : L2.St} {H F : Hp} {p : Pen} {Q : VK} (h : GoodF W Wx σ H F (ofO o p) Q) : ∃ d, o = some d ∧ GoodF W Wx σ H F (.ok d p) Q := by
  cases o with
  | none => exact h.elim
  | some d => exact ⟨d, rfl, h⟩
theorem pe_ofSeqF (hK : W.K = X.K) (hg : Gl X "list") (hm : X.mg "list" = none) (hs : notStar a = true) {ma : En → M D} (ha : PE X a (tV W Wx ma)) : PE X (.Call (.Name "list" p0) [a] [] pos) (tF W Wx fun ρ => M.bind (ma ρ) fun x => ofO (seqOf x)) :=
  pe_w (pe_callTy (call_list_of (X := X)) hg hm (by rfl) (pa_cons ha pa_nil (star_cons hs)) (by decide) (by decide) (star_cons hs) (star_any (es := []) rfl)) fun σ H Q z => by
    obtain ⟨ρ, F, p, c, en, g⟩ := z
    refine ⟨ρ, F, p, c, en, goodF_bind (R := Vw W) (f := fun x => ofO (seqOf x)) c g fun x p1 v H1 F1 e s r g1 => ?_⟩
    obtain ⟨xs, e2, g2⟩ := goodF_ofO g1
    obtain ⟨q, ws, rfl, h1, r2⟩ := r.seq s.ctx e2
    exact ⟨q, ws, rfl, hK ▸ h1, good_lay (m := .bad) s.ctx r2 g2⟩
theorem t2F {α γ β δ : Type} {R1 : Hp → Hp → β → α → Prop} {R2 : Hp → Hp → δ → γ → Prop} (k1 : Keeps W R1) {m1 : En → M α} {m2 : En → M γ} {f : α → γ → En → M (List D)} {Q : VK} {Q2 : β → δ → Hp → Prop} {σ : L2.St} {H : Hp}
    (h : tF W Wx (fun ρ => M.bind (m1 ρ) fun a => M.bind (m2 ρ) fun b => f a b ρ) σ H Q)
    (q : ∀ ρ a b p v u H2 F2, Ctx W H2 F2 p → EnvOk W H2 F2 σ ρ → R1 H2 F2 v a → R2 H2 F2 u b → GoodF W Wx σ H2 F2 (f a b ρ p) Q → Q2 v u H2) :
    tM W Wx R1 m1 σ H fun v H1 => tM W Wx R2 m2 σ H1 fun u H2 => Q2 v u H2 := by
  obtain ⟨ρ, F, p, c, e, g⟩ := h
  refine ⟨ρ, F, p, c, e, goodF_bind (f := fun a => M.bind (m2 ρ) fun b => f a b ρ) c g fun a p1 v H1 F1 _ s r g1 => ?_⟩
  refine ⟨ρ, F1, p1, s.ctx, e.step c s, goodF_bind (f := fun b => f a b ρ) s.ctx g1 fun b p2 u H2 F2 _ s2 r2 g2 => ?_⟩
  exact q ρ a b p2 v u H2 F2 s2.ctx ((e.step c s).step s.ctx s2) (k1 _ _ _ _ _ _ _ _ s.ctx s2 r) r2 g2
theorem pe_catF (hK : W.K = X.K) {ma mb : En → M D} (ha : PE X a (tV W Wx ma)) (hb : PE X b (tV W Wx mb)) : PE X (.BinOp a .Add b pos) (tF W Wx fun ρ => M.bind (ma ρ) fun x => M.bind (mb ρ) fun y => ofO (catD x y)) :=
  pe_w (pe_op op_cat ha hb) fun σ H Q z => t2F keeps_Vw (R2 := Vw W) (f := fun x y _ => ofO (catD x y)) z fun ρ x y p v u H2 F2 c _ r1 r2 g => by
    obtain ⟨d, e, g2⟩ := goodF_ofO g
    cases x <;> cases y <;> try (cases e; done)
    rename_i xs ys
    have e' : (if xs.length + ys.length ≤ line then some (xs ++ ys) else none) = some d := e
    split at e'
    · rename_i hl
      cases e'
      obtain ⟨q1, ws, rfl, h1, s1⟩ := r1.lst c
      obtain ⟨q2, us, rfl, h2, s2⟩ := r2.lst c
      exact ⟨q1, q2, ws, us, rfl, rfl, h1, h2, by rw [s1.length, s2.length, ← line_eq]; exact hl, good_lay (m := .bad) c (s1.append s2) g2⟩
    · cases e'
theorem pe_repF (hK : W.K = X.K) {ma mb : En → M D} (ha : PE X a (tV W Wx ma)) (hb : PE X b (tD W Wx mb)) : PE X (.BinOp a .Mult b pos) (tF W Wx fun ρ => M.bind (ma ρ) fun x => M.bind (mb ρ) fun y => ofO (repD x y)) :=
  pe_w (pe_op op_rep ha hb) fun σ H Q z => t2F keeps_Vw (R2 := rD W) (f := fun x y _ => ofO (repD x y)) z fun ρ x y p v u H2 F2 c _ r1 r2 g => by
    obtain ⟨d, e, g2⟩ := goodF_ofO g
    cases x <;> cases y <;> try (cases e; done)
    rename_i xs k
    have e' : (if k ≤ 1000000 ∧ -1000000 ≤ k ∧ xs.length * k.toNat ≤ line then some (List.replicate k.toNat xs).flatten else none) = some d := e
    split at e'
    · rename_i hl
      cases e'
      obtain ⟨q1, ws, rfl, h1, s1⟩ := r1.lst c
      cases r2
      exact ⟨q1, k, ws, rfl, rfl, h1, by omega, by omega, by rw [s1.length, ← line_eq]; exact hl.2.2, good_lay (m := .bad) c (rda_rep s1 _) g2⟩
    · cases e'
theorem rgV_rd {F : Hp} {i j : Int} : RdA W F (rgV i j) (rngD i j) := by
  unfold rgV rngD
  generalize (j - i).toNat = n
  have : ∀ (l : List Nat), RdA W F (l.map fun k => V.int (i + (k : Nat))) (l.map fun k => D.int (i + (k : Nat))) := fun l => by
    induction l with
    | nil => exact .nil
    | cons x l ih => exact .cons (.int _) ih
  exact this _
theorem pe_ofRngF (hc : X.calm = true) (hg : Gl X "list") (hm : X.mg "list" = none) (hg2 : Gl X "range") (hm2 : X.mg "range" = none) (hs : notStar a = true) {ma : En → M D} (ha : PE X a (tD W Wx ma)) :
    PE X (.Call (.Name "list" p0) [.Call (.Name "range" p1') [a] [] p2'] [] pos) (tF W Wx fun ρ => M.bind (ma ρ) fun x => ofO (rng1D x)) :=
  pe_w (pe_listRg hc hg hm (prg_1 hg2 hm2 ha (star_cons hs)) (star_cons rfl)) fun σ H Q z => by
    obtain ⟨ρ, F, p, c, en, g⟩ := z
    refine ⟨ρ, F, p, c, en, goodF_bind (R := rD W) (f := fun x => ofO (rng1D x)) c g fun x p1 v H1 F1 e s r g1 => ?_⟩
    obtain ⟨xs, e2, g2⟩ := goodF_ofO g1
    cases x <;> try (cases e2; done)
    rename_i i
    cases r
    have e' : (if i ≤ (line : Int) ∧ -(line : Int) ≤ i then some (rngD 0 i) else none) = some xs := e2
    split at e'
    · rename_i hh
      cases e'
      have h1 := line_lt
      have h2 : (line : Int) = 2 ^ 24 := by decide
      exact ⟨i, rfl, ⟨by omega, by omega, by omega, by omega, by omega⟩, good_lay (m := .bad) s.ctx rgV_rd g2⟩
    · cases e'
theorem pe_ofRng2F {b : Expr} (hc : X.calm = true) (hg : Gl X "list") (hm : X.mg "list" = none) (hg2 : Gl X "range") (hm2 : X.mg "range" = none) (hs : notStar a = true) (hs2 : notStar b = true) {ma mb : En → M D} (ha : PE X a (tD W Wx ma)) (hb : PE X b (tD W Wx mb)) :
    PE X (.Call (.Name "list" p0) [.Call (.Name "range" p1') [a, b] [] p2'] [] pos) (tF W Wx fun ρ => M.bind (ma ρ) fun x => M.bind (mb ρ) fun y => ofO (rng2D x y)) :=
  pe_w (pe_listRg hc hg hm (prg_2 hg2 hm2 ha hb (star_cons hs) (star_cons hs2) (by rw [star_cons hs2]; rfl)) (star_cons rfl)) fun σ H Q z => by
    obtain ⟨ρ, F, p, c, en, g⟩ := z
    refine ⟨ρ, F, p, c, en, goodF_bind (R := rD W) (f := fun x => M.bind (mb ρ) fun y => ofO (rng2D x y)) c g fun x p1 v H1 F1 e s r g1 => ?_⟩
    refine ⟨ρ, F1, p1, s.ctx, en.step c s, goodF_bind (R := rD W) (f := fun y => ofO (rng2D x y)) s.ctx g1 fun y p2 u H2 F2 e' s2 r2 g3 => ?_⟩
    obtain ⟨xs, e2, g2⟩ := goodF_ofO g3
    cases x <;> cases y <;> try (cases e2; done)
    rename_i i j
    cases r; cases r2
    have e' : (if -(line : Int) ≤ i ∧ i ≤ (line : Int) ∧ -(line : Int) ≤ j ∧ j ≤ (line : Int) ∧ j - i ≤ (line : Int) then some (rngD i j) else none) = some xs := e2
    split at e'
    · rename_i hh
      cases e'
      have h1 := line_lt
      have h2 : (line : Int) = 2 ^ 24 := by decide
      exact ⟨i, j, rfl, rfl, ⟨by omega, by omega, by omega, by omega, by omega⟩, good_lay (m := .bad) s2.ctx rgV_rd g2⟩
    · cases e'
end
end DL
set_option maxHeartbeats 4000000
namespace DL
open PySem PySem.Spec PyProof.Rows L2

/-! ### soundness, form by form -/
def isBO : Expr → Bool
  | .BoolOp _ _ _ => true
  | _ => false
structure EOk (X : Cx) (W : Wd) (Wx : WX) (T : Tb) (t : IE) (e : Expr) : Prop where
  pd : PE X e (tD W Wx (dE T t))
  pv : PE X e (tV W Wx (dV T t))
  pt : notIf e = true → PT X e (DL.tB W Wx (dT T t))
  pw : isBO e = true → PW X e (DL.tB W Wx (dT T t))
def SE (W : Wd) (S : Sc) (T : Tb) (L : Nat) (t : IE) : Prop := ∀ (X : Cx) (Wx : WX) (sc : Scope) (fnb : Str → Bool) (e : Expr), XOk X W S T L sc fnb → Takes X Wx → chkE S sc t e = true → EOk X W Wx T t e
section
variable {X : Cx} {W : Wd} {Wx : WX} {T : Tb} {S : Sc} {L : Nat} {sc : Scope} {fnb : Str → Bool}
theorem pt_w {e : Expr} {t t' : TT} (h : PT X e t) (k : ∀ σ H Q, t' σ H Q → t σ H Q) : PT X e t' := ⟨fun pins s σ H Q I z => h.run pins s σ H Q I (k _ _ _ z)⟩
theorem pw_w {e : Expr} {t t' : TT} (h : PW X e t) (k : ∀ σ H Q, t' σ H Q → t σ H Q) : PW X e t' := ⟨fun wh pins s σ H Q I z => h.run wh pins s σ H Q I (k _ _ _ z)⟩
theorem tru_d (hK : W.K = X.K) {H F : Hp} {p : Pen} (c : Ctx W H F p) {v : V} {d : D} {k : Bool} (r : DL.Rd W F v d) (e : truth d = some k) : TruV X.K v H k := by
  cases d <;> try (cases e; done)
  · cases r; cases e; rfl
  · cases r; cases e; rfl
  · cases r; cases e; rfl
  · rename_i xs
    cases e
    cases r with
    | tup hs rr =>
      refine .inr (.inl ⟨_, hK ▸ sqT_mono c.sub hs, ?_⟩)
      cases rr <;> rfl
  · rename_i xs
    cases e
    cases r with
    | lst hs rr =>
      refine .inl ⟨_, SqL.of (c.sub _ _ hs), ?_⟩
      cases rr <;> rfl
/-- the test of a plain expression -/
theorem pt_tru (hK : W.K = X.K) {e : Expr} {m : En → M D} (h : PE X e (tD W Wx m)) (he : ∀ whole, isTrue e X.env whole = (do let v ← whole; standAt e.pos; holding [v] (truthy v))) : PT X e (DL.tB W Wx fun ρ => M.bind (m ρ) fun x => ofO (truth x)) :=
  pt_w (pt_truth h he) fun σ H Q z => t1 (R1 := rD W) (R' := rB) (f := fun x _ => ofO (truth x)) z fun ρ x p v H1 F1 c _ r g => by
    obtain ⟨k, e, q⟩ := good_ofOg g
    exact ⟨k, tru_d hK c r e, q _ _ _ (Step.refl c) rfl⟩
def plainT : Expr → Bool
  | .BoolOp _ _ _ | .UnaryOp .Not _ _ | .Compare _ _ _ _ | .IfExp _ _ _ _ => false
  | _ => true
theorem plainT_is {e : Expr} {env : Env} (h : plainT e = true) (whole : Sem Value) : isTrue e env whole = (do let v ← whole; standAt e.pos; holding [v] (truthy v)) := by
  cases e <;> first | rfl | (cases h; done) | skip
  rename_i op a p
  cases op <;> first | rfl | cases h
theorem plain_bo {e : Expr} (h : plainT e = true) : isBO e = false := by cases e <;> first | rfl | cases h
/-- where the value alone counts -/
theorem eok_plain (hK : W.K = X.K) {t : IE} {e : Expr} (hd : PE X e (tD W Wx (dE T t))) (hv : dV T t = dE T t) (hp : plainT e = true) : EOk X W Wx T t e :=
  ⟨hd, by rw [hv]; exact pe_vw hd, fun _ => pt_tru hK hd (plainT_is hp), fun h => by rw [plain_bo hp] at h; cases h⟩
theorem nm_of (ok : XOk X W S T L sc fnb) {i : Nat} {x : Str} {p : Pos} (h : nmOk S sc i x = true) : PE X (.Name x p) (tVar i) := by
  simp only [nmOk, Bool.and_eq_true, decide_eq_true_eq, Bool.not_eq_true', dbg] at h
  obtain ⟨⟨⟨h1, h2⟩, h3⟩, h4⟩ := h
  refine pe_var (by rw [ok.hN]; exact h1) ?_ h3 h4
  unfold visB at h2
  unfold Vis
  rw [ok.scp]
  split at h2
  · rename_i e; exact .inl e
  · rename_i e; exact .inr (.inl e)
  · rename_i e; exact .inr (.inr e)
  · cases h2
theorem gl_of (ok : XOk X W S T L sc fnb) {x : Str} (h : glOk sc x = true) : Gl X x ∧ (x == ("__debug__" : Str)) = false := by
  simp only [glOk, Bool.and_eq_true, isGl, decide_eq_true_eq, Bool.not_eq_true'] at h
  exact ⟨by show X.env.scope.names.lookup x = _; rw [ok.scp]; exact h.1, h.2⟩
theorem se_var {i : Nat} : SE W S T L (.var i) := fun X Wx sc fnb e ok tk h => by
  cases e <;> try (cases h; done)
  exact eok_plain ok.hK (pe_shr (nm_of ok h)) rfl rfl
theorem se_own {i : Nat} : SE W S T L (.own i) := fun X Wx sc fnb e ok tk h => by
  cases e <;> try (cases h; done)
  rename_i x px
  have hn : PE X (.Name x px) (tVar i) := nm_of ok h
  have hd : PE X (.Name x px) (tD W Wx (dE T (.own i))) := pe_bad
  refine ⟨hd, ?_, fun _ => pt_tru ok.hK hd (plainT_is rfl), fun h => by cases h⟩
  have e2 : dV T (.own i) = fun ρ => match ρ[i]? with | some (.own xs) => M.pure (D.lst xs) | _ => M.bad := by
    funext ρ
    show (match true, ρ[i]? with | true, some (.own xs) => M.pure (D.lst xs) | _, _ => M.bad) = _
    cases ρ[i]? with
    | none => rfl
    | some s => cases s <;> rfl
  rw [e2]; exact pe_ownV hn
theorem se_int {i : Int} : SE W S T L (.int i) := fun X Wx sc fnb e ok tk h => by
  cases e <;> try (cases h; done)
  rename_i k _ _
  cases k <;> try (cases h; done)
  cases (of_decide_eq_true h : i = _)
  exact eok_plain ok.hK (pe_pure pe_int fun F => .int _) rfl rfl
theorem se_str {i : Str} : SE W S T L (.str i) := fun X Wx sc fnb e ok tk h => by
  cases e <;> try (cases h; done)
  rename_i k _ _
  cases k <;> try (cases h; done)
  cases (of_decide_eq_true h : i = _)
  exact eok_plain ok.hK (pe_pure pe_str fun F => .str _) rfl rfl
theorem se_bl {i : Bool} : SE W S T L (.bl i) := fun X Wx sc fnb e ok tk h => by
  cases e <;> try (cases h; done)
  rename_i k _ _
  cases k <;> try (cases h; done)
  cases (beq_iff_eq.mp h : i = _)
  exact eok_plain ok.hK (pe_pure pe_bl fun F => .bl _) rfl rfl
theorem se_non : SE W S T L .non := fun X Wx sc fnb e ok tk h => by
  cases e <;> try (cases h; done)
  rename_i k _ _
  cases k <;> try (cases h; done)
  exact eok_plain ok.hK (pe_pure pe_non fun F => .non) rfl rfl
theorem se_con {i : Nat} : SE W S T L (.con i) := fun X Wx sc fnb e ok tk h => by
  cases e <;> try (cases h; done)
  rename_i x px
  obtain ⟨h1, h2⟩ := Bool.and_eq_true_iff.mp (show (decide (S.cnm[i]? = some x) && glOk sc x) = true from h)
  have hg := gl_of ok h2
  refine eok_plain ok.hK (pe_ofO fun d e => ?_) rfl rfl
  obtain ⟨v, u, hm, r, q⟩ := ok.con i d x e (of_decide_eq_true h1)
  exact pe_pure (pe_glob hg.1 hm r hg.2) q
theorem hu_of (ok : XOk X W S T L sc fnb) : X.A.units + 65 < cLine := by have := ok.q.rm.un; omega
theorem se_bin {op : Op} {a b : IE} (ha : SE W S T L a) (hb : SE W S T L b) : SE W S T L (.bin op a b) := fun X Wx sc fnb e ok tk h => by
  cases e <;> try (cases h; done)
  rename_i l o r pp
  simp only [chkE, Bool.and_eq_true] at h
  obtain ⟨⟨h1, h2⟩, h3⟩ := h
  exact eok_plain ok.hK (pe_binD (or_bin ok.hK op o (by cases op <;> cases o <;> first | rfl | cases h1)) (ha X Wx sc fnb _ ok tk h2).pv (hb X Wx sc fnb _ ok tk h3).pv) rfl rfl
theorem se_neg {a : IE} (ha : SE W S T L a) : SE W S T L (.neg a) := fun X Wx sc fnb e ok tk h => by
  cases e <;> try (cases h; done)
  rename_i o r pp
  cases o <;> try (cases h; done)
  exact eok_plain ok.hK (pe_negD (ha X Wx sc fnb _ ok tk h).pd) rfl rfl
/-- a comparison, its test by the bool -/
theorem eok_bl (hK : W.K = X.K) {t : IE} {e : Expr} (hd : PE X e (tD W Wx (dE T t))) (hv : dV T t = dE T t) (hp : isBO e = false) (ht : notIf e = true → PT X e (DL.tB W Wx (dT T t))) : EOk X W Wx T t e :=
  ⟨hd, by rw [hv]; exact pe_vw hd, ht, fun h => by rw [hp] at h; cases h⟩
theorem noset {o : CmpOp} {r : Expr} (h : notSet r = true) : behindInMarks o r = false := by
  cases r <;> first | rfl | cases h
theorem se_cmp {op : Cm} {a b : IE} (ha : SE W S T L a) (hb : SE W S T L b) : SE W S T L (.cmp op a b) := fun X Wx sc fnb e ok tk h => by
  cases e <;> try (cases h; done)
  rename_i l os rs pp
  cases os with
  | nil => cases h
  | cons o os => cases os with
    | cons _ _ => cases h
    | nil => cases rs with
      | nil => cases h
      | cons r rs => cases rs with
        | cons _ _ => cases h
        | nil =>
          simp only [chkE, Bool.and_eq_true] at h
          obtain ⟨⟨⟨h1, h2⟩, h3⟩, h4⟩ := h
          have oc := or_cmp ok.hK (hu_of ok) op o h1
          have pa := (ha X Wx sc fnb _ ok tk h2).pv
          have pb := (hb X Wx sc fnb _ ok tk h3).pv
          refine eok_bl ok.hK (pe_cmpD oc pa pb (noset h4)) rfl rfl fun _ => ?_
          refine pt_w (pt_cmpR oc pa pb (noset h4)) fun σ H Q z => ?_
          obtain ⟨ρ, F, p, c, en, g⟩ := z
          have g0 : Good W Wx σ rB H F ((dM T true a ρ p).bind fun x => M.bind (dM T true b ρ) fun y => M.bind (ofO ((opCmp op x y).map D.bl)) fun d => ofO (truth d)) Q := by
            have e0 : dT T (.cmp op a b) ρ p = (dM T true a ρ p).bind fun x => M.bind (dM T true b ρ) fun y => M.bind (ofO ((opCmp op x y).map D.bl)) fun d => ofO (truth d) := by
              show ((dM T true a ρ p).bind _).bind _ = _
              cases dM T true a ρ p with
              | bad => rfl
              | err _ _ => rfl
              | ok x p1 =>
                show ((dM T true b ρ p1).bind _).bind _ = (dM T true b ρ p1).bind _
                cases dM T true b ρ p1 <;> rfl
            rw [← e0]; exact g
          refine t2 keeps_Vw (R2 := Vw W) (R' := rB) (m1 := dM T true a) (m2 := dM T true b) (f := fun x y _ => M.bind (ofO ((opCmp op x y).map D.bl)) fun d => ofO (truth d)) ⟨ρ, F, p, c, en, g0⟩ fun ρ x y p v u H2 F2 c _ r1 r2 g => ?_
          cases eq : opCmp op x y with
          | none => rw [eq] at g; exact g.elim
          | some k =>
            rw [eq] at g
            exact ⟨F2, p, x, y, .bl k, c, r1, r2, by unfold cmpD; rw [eq]; rfl, fun w H' F' s rr => by cases rr; exact ⟨k, rfl, g _ _ _ s rfl⟩⟩
theorem bl_tru (hK : W.K = X.K) {t : IE} {e : Expr} {m : En → M D} (hm : PT X e (DL.tB W Wx fun ρ => M.bind (m ρ) fun x => ofO (blOf x))) : PT X e (DL.tB W Wx fun ρ => M.bind (m ρ) fun x => ofO (blOf x)) := hm
theorem se_isN {a : IE} (ha : SE W S T L a) : SE W S T L (.isN a) := fun X Wx sc fnb e ok tk h => by
  cases e <;> try (cases h; done)
  rename_i l os rs pp
  rcases os with _ | ⟨o, os⟩
  · cases h
  cases o <;> try (cases h; done)
  rcases os with _ | ⟨_, _⟩
  · rcases rs with _ | ⟨r, rs⟩
    · cases h
    cases r <;> try (cases h; done)
    rename_i k _ _
    cases k <;> try (cases h; done)
    rcases rs with _ | ⟨_, _⟩
    · have pa := (ha X Wx sc fnb _ ok tk h).pd
      refine eok_bl ok.hK (pe_isND pa) rfl rfl fun _ => ?_
      refine pt_w (pt_cmp (pc_isN pa) rfl) fun σ H Q z => ?_
      obtain ⟨ρ, F, p, c, en, g⟩ := z
      have g0 : Good W Wx σ rB H F ((dM T false a ρ p).bind fun x => M.pure (isNon x)) Q := by
        have e0 : dT T (.isN a) ρ p = (dM T false a ρ p).bind fun x => M.pure (isNon x) := by
          show ((dM T false a ρ p).bind _).bind _ = _
          cases dM T false a ρ p <;> rfl
        rw [← e0]; exact g
      refine t1 (R1 := rD W) (R' := rB) (m1 := dM T false a) (f := fun x _ => M.pure (isNon x)) ⟨ρ, F, p, c, en, g0⟩ fun ρ x p v H1 F1 c _ r g => ?_
      exact ⟨_, rfl, by rw [rd_non r]; exact g _ _ _ (Step.refl c) rfl⟩
    · cases h
  · cases h
theorem se_isB {a : IE} {b : Bool} (ha : SE W S T L a) : SE W S T L (.isB a b) := fun X Wx sc fnb e ok tk h => by
  cases e <;> try (cases h; done)
  rename_i l os rs pp
  rcases os with _ | ⟨o, os⟩
  · cases h
  cases o <;> try (cases h; done)
  rcases os with _ | ⟨_, _⟩
  · rcases rs with _ | ⟨r, rs⟩
    · cases h
    cases r <;> try (cases h; done)
    rename_i k _ _
    cases k <;> try (cases h; done)
    rcases rs with _ | ⟨_, _⟩
    · rename_i cc
      obtain ⟨h1, hb⟩ := Bool.and_eq_true_iff.mp (show (chkE S sc a l && b == cc) = true from h)
      cases eq_of_beq hb
      have pa := (ha X Wx sc fnb _ ok tk h1).pd
      refine eok_bl ok.hK (pe_isBD pa) rfl rfl fun _ => ?_
      refine pt_w (pt_cmp (pc_isB pa) rfl) fun σ H Q z => ?_
      obtain ⟨ρ, F, p, c, en, g⟩ := z
      have g0 : Good W Wx σ rB H F ((dM T false a ρ p).bind fun x => M.pure (isBl b x)) Q := by
        have e0 : dT T (.isB a b) ρ p = (dM T false a ρ p).bind fun x => M.pure (isBl b x) := by
          show ((dM T false a ρ p).bind _).bind _ = _
          cases dM T false a ρ p <;> rfl
        rw [← e0]; exact g
      refine t1 (R1 := rD W) (R' := rB) (m1 := dM T false a) (f := fun x _ => M.pure (isBl b x)) ⟨ρ, F, p, c, en, g0⟩ fun ρ x p v H1 F1 c _ r g => ?_
      exact ⟨_, rfl, by rw [rd_isB r]; exact g _ _ _ (Step.refl c) rfl⟩
    · cases h
  · cases h
theorem se_notN {a : IE} (ha : SE W S T L a) : SE W S T L (.notN a) := fun X Wx sc fnb e ok tk h => by
  cases e <;> try (cases h; done)
  rename_i l os rs pp
  rcases os with _ | ⟨o, os⟩
  · cases h
  cases o <;> try (cases h; done)
  rcases os with _ | ⟨_, _⟩
  · rcases rs with _ | ⟨r, rs⟩
    · cases h
    cases r <;> try (cases h; done)
    rename_i k _ _
    cases k <;> try (cases h; done)
    rcases rs with _ | ⟨_, _⟩
    · have pa := (ha X Wx sc fnb _ ok tk h).pd
      refine eok_bl ok.hK (pe_notND pa) rfl rfl fun _ => ?_
      refine pt_w (pt_cmp (pc_notN pa) rfl) fun σ H Q z => ?_
      obtain ⟨ρ, F, p, c, en, g⟩ := z
      have g0 : Good W Wx σ rB H F ((dM T false a ρ p).bind fun x => M.pure (!isNon x)) Q := by
        have e0 : dT T (.notN a) ρ p = (dM T false a ρ p).bind fun x => M.pure (!isNon x) := by
          show ((dM T false a ρ p).bind _).bind _ = _
          cases dM T false a ρ p <;> rfl
        rw [← e0]; exact g
      refine t1 (R1 := rD W) (R' := rB) (m1 := dM T false a) (f := fun x _ => M.pure (!isNon x)) ⟨ρ, F, p, c, en, g0⟩ fun ρ x p v H1 F1 c _ r g => ?_
      exact ⟨_, rfl, by rw [rd_non r]; exact g _ _ _ (Step.refl c) rfl⟩
    · cases h
  · cases h
end
end DL
set_option maxHeartbeats 4000000
namespace DL
open PySem PySem.Spec PyProof.Rows L2
section
variable {X : Cx} {W : Wd} {Wx : WX} {T : Tb} {S : Sc} {L : Nat} {sc : Scope} {fnb : Str → Bool}
theorem blOf_truth {x : D} {k : Bool} (e : blOf x = some k) : truth x = some k := by cases x <;> first | (cases e; done) | (cases e; rfl)
theorem bl_of {x : D} {k : Bool} (e : blOf x = some k) : x = .bl k := by cases x <;> first | (cases e; done) | (cases e; rfl)
/-- the value of a test that is a bool -/
theorem tB_bl {m : En → M D} {σ : L2.St} {H : Hp} {Q : Bool → Hp → Prop} (hm : ∀ ρ p d p', m ρ p = .ok d p' → ∃ k, d = .bl k) (z : DL.tB W Wx (fun ρ => M.bind (m ρ) fun x => ofO (truth x)) σ H Q) : tD W Wx m σ H fun x H' => ∃ k, x = .bl k ∧ Q k H' := by
  obtain ⟨ρ, F, p, c, en, g⟩ := z
  refine ⟨ρ, F, p, c, en, ?_⟩
  have g' : Good W Wx σ rB H F ((m ρ p).bind fun x => ofO (truth x)) Q := g
  cases q : m ρ p with
  | bad => rw [q] at g'; exact g'
  | err e p1 => rw [q] at g'; exact g'
  | ok d p1 =>
    rw [q] at g'
    obtain ⟨k, rfl⟩ := hm ρ p d p1 q
    intro v H' F' s r
    cases (show DL.Rd W F' v (.bl k) from r)
    exact ⟨k, rfl, g' _ _ _ s rfl⟩
theorem se_chain {op op' : Cm} {a b c : IE} (ha : SE W S T L a) (hb : SE W S T L b) (hc : SE W S T L c) : SE W S T L (.chain op op' a b c) := fun X Wx sc fnb e ok tk h => by
  cases e <;> try (cases h; done)
  rename_i l os rs pp
  rcases os with _ | ⟨o, _ | ⟨o', _ | ⟨_, _⟩⟩⟩
  · cases h
  · cases o <;> cases h
  · rcases rs with _ | ⟨m, _ | ⟨r, _ | ⟨_, _⟩⟩⟩
    · cases o <;> cases h
    · cases o <;> cases h
    · have h' : (cmIs op o && cmIs op' o' && chkE S sc a l && chkE S sc b m && chkE S sc c r && notSet m && notSet r) = true := by cases o <;> exact h
      simp only [Bool.and_eq_true] at h'
      obtain ⟨⟨⟨⟨⟨⟨h1, h2⟩, h3⟩, h4⟩, h5⟩, h6⟩, h7⟩ := h'
      have oc := or_cmp ok.hK (hu_of ok) op o h1
      have oc' := or_cmp ok.hK (hu_of ok) op' o' h2
      have pa := (ha X Wx sc fnb _ ok tk h3).pd
      have pb := (hb X Wx sc fnb _ ok tk h4).pd
      have pc := (hc X Wx sc fnb _ ok tk h5).pd
      have hm : lastMarks [o, o'] [m, r] = false := noset h7
      refine eok_bl ok.hK (pe_chainD oc oc' pa pb pc hm) rfl rfl fun _ => ?_
      refine pt_w (pt_chain oc oc' pa pb pc hm) fun σ H Q z => ?_
      refine chain_imp (o := o) (o' := o') (tB_bl (m := dM T false (.chain op op' a b c)) (fun ρ p d p' e => ?_) z)
      have e' : ((dM T false a ρ p).bind fun x => M.bind (dM T false b ρ) fun y => M.bind (ofO (opCmp op x y)) fun k => if k = true then M.bind (dM T false c ρ) fun z => ofO ((opCmp op' y z).map .bl) else M.pure (.bl false)) = .ok d p' := e
      cases q1 : dM T false a ρ p with
      | bad => rw [q1] at e'; cases e'
      | err _ _ => rw [q1] at e'; cases e'
      | ok x p1 =>
        rw [q1] at e'
        have e2 : ((dM T false b ρ p1).bind fun y => M.bind (ofO (opCmp op x y)) fun k => if k = true then M.bind (dM T false c ρ) fun z => ofO ((opCmp op' y z).map .bl) else M.pure (.bl false)) = .ok d p' := e'
        cases q2 : dM T false b ρ p1 with
        | bad => rw [q2] at e2; cases e2
        | err _ _ => rw [q2] at e2; cases e2
        | ok y p2 =>
          rw [q2] at e2
          have e3 : ((ofO (opCmp op x y) p2).bind fun k => if k = true then M.bind (dM T false c ρ) fun z => ofO ((opCmp op' y z).map .bl) else M.pure (.bl false)) = .ok d p' := e2
          cases q3 : opCmp op x y with
          | none => rw [q3] at e3; cases e3
          | some k =>
            rw [q3] at e3
            cases k with
            | false => cases e3; exact ⟨_, rfl⟩
            | true =>
              have e4 : ((dM T false c ρ p2).bind fun z => ofO ((opCmp op' y z).map .bl)) = .ok d p' := e3
              cases q4 : dM T false c ρ p2 with
              | bad => rw [q4] at e4; cases e4
              | err _ _ => rw [q4] at e4; cases e4
              | ok z p3 =>
                rw [q4] at e4
                have e5 : ofO ((opCmp op' y z).map D.bl) p3 = .ok d p' := e4
                cases q5 : opCmp op' y z with
                | none => rw [q5] at e5; cases e5
                | some k => rw [q5] at e5; cases e5; exact ⟨_, rfl⟩
    · cases o <;> cases h
  · cases o <;> cases h
/-- a pair of tests -/
theorem and_imp {a b : IE} {σ : L2.St} {H : Hp} {Q : Bool → Hp → Prop} (z : DL.tB W Wx (dT T (.and a b)) σ H Q) : tAnd (DL.tB W Wx (dT T a)) (DL.tB W Wx (dT T b)) σ H Q := by
  obtain ⟨ρ, F, p, c, en, g⟩ := z
  refine ⟨ρ, F, p, c, en, ?_⟩
  show Good W Wx σ rB H F ((dM T false a ρ p).bind fun x => ofO (truth x)) _
  have g' : Good W Wx σ rB H F (((dM T false a ρ p).bind fun x => M.bind (ofO (blOf x)) fun k => if k = true then dM T false b ρ else M.pure (.bl false)).bind fun x => ofO (truth x)) Q := g
  cases q : dM T false a ρ p with
  | bad => rw [q] at g'; exact g'
  | err e p1 => rw [q] at g'; exact g'
  | ok x p1 =>
    rw [q] at g'
    cases e : blOf x with
    | none =>
      have g2 : Good W Wx σ rB H F (((ofO (blOf x) p1).bind fun k => if k = true then dM T false b ρ else M.pure (.bl false)).bind fun x => ofO (truth x)) Q := g'
      rw [e] at g2; exact g2.elim
    | some k =>
      have g2 : Good W Wx σ rB H F (((ofO (blOf x) p1).bind fun k => if k = true then dM T false b ρ else M.pure (.bl false)).bind fun x => ofO (truth x)) Q := g'
      rw [e] at g2
      show Good W Wx σ rB H F (ofO (truth x) p1) _
      rw [blOf_truth e]
      intro v H' F' s r
      have r : v = k := r
      subst r
      cases v with
      | false => rw [if_neg (by simp)]; exact g2 _ _ _ s rfl
      | true => rw [if_pos rfl]; exact ⟨ρ, F', p1, s.ctx, en.step c s, good_step s (show Good W Wx σ rB H F (dT T b ρ p1) Q from g2)⟩
theorem or_imp {a b : IE} {σ : L2.St} {H : Hp} {Q : Bool → Hp → Prop} (z : DL.tB W Wx (dT T (.or a b)) σ H Q) : tOr (DL.tB W Wx (dT T a)) (DL.tB W Wx (dT T b)) σ H Q := by
  obtain ⟨ρ, F, p, c, en, g⟩ := z
  refine ⟨ρ, F, p, c, en, ?_⟩
  show Good W Wx σ rB H F ((dM T false a ρ p).bind fun x => ofO (truth x)) _
  have g' : Good W Wx σ rB H F (((dM T false a ρ p).bind fun x => M.bind (ofO (blOf x)) fun k => if k = true then M.pure (.bl true) else dM T false b ρ).bind fun x => ofO (truth x)) Q := g
  cases q : dM T false a ρ p with
  | bad => rw [q] at g'; exact g'
  | err e p1 => rw [q] at g'; exact g'
  | ok x p1 =>
    rw [q] at g'
    have g2 : Good W Wx σ rB H F (((ofO (blOf x) p1).bind fun k => if k = true then M.pure (.bl true) else dM T false b ρ).bind fun x => ofO (truth x)) Q := g'
    cases e : blOf x with
    | none => rw [e] at g2; exact g2.elim
    | some k =>
      rw [e] at g2
      show Good W Wx σ rB H F (ofO (truth x) p1) _
      rw [blOf_truth e]
      intro v H' F' s r
      have r : v = k := r
      subst r
      cases v with
      | true => rw [if_pos rfl]; exact g2 _ _ _ s rfl
      | false => rw [if_neg (by simp)]; exact ⟨ρ, F', p1, s.ctx, en.step c s, good_step s (show Good W Wx σ rB H F (dT T b ρ p1) Q from g2)⟩
theorem se_and {a b : IE} (ha : SE W S T L a) (hb : SE W S T L b) : SE W S T L (.and a b) := fun X Wx sc fnb e ok tk h => by
  cases e <;> try (cases h; done)
  rename_i o es pp
  cases o <;> try (cases h; done)
  rcases es with _ | ⟨x, _ | ⟨y, r⟩⟩
  · cases h
  · cases h
  · have main : notIf x = true → notIf y = true → ∀ (hx : EOk X W Wx T a x), (PE X (.BoolOp .And (y :: r) pp) (tD W Wx (dE T b))) → PW X (.BoolOp .And (y :: r) pp) (DL.tB W Wx (dT T b)) → EOk X W Wx T (.and a b) (.BoolOp .And (x :: y :: r) pp) := fun n1 n2 hx hd hw => by
      have w := pw_w (pw_and (hx.pt n1) hw) fun σ H Q z => and_imp z
      have d := pe_andD hx.pd hd
      exact ⟨d, pe_vw d, fun _ => w.pt, fun _ => w⟩
    cases r with
    | nil =>
      have h' : ((chkE S sc a x && notIf x) && (chkE S sc b y && notIf y)) = true := h
      simp only [Bool.and_eq_true] at h'
      obtain ⟨⟨h1, n1⟩, h2, n2⟩ := h'
      have hy := hb X Wx sc fnb _ ok tk h2
      exact main n1 n2 (ha X Wx sc fnb _ ok tk h1) (pe_one hy.pd) (pw_and1 (hy.pt n2))
    | cons z r =>
      have h' : ((chkE S sc a x && notIf x) && (chkE S sc b (.BoolOp .And (y :: z :: r) pp) && notIf y)) = true := h
      simp only [Bool.and_eq_true] at h'
      obtain ⟨⟨h1, n1⟩, h2, n2⟩ := h'
      have hy := hb X Wx sc fnb _ ok tk h2
      exact main n1 n2 (ha X Wx sc fnb _ ok tk h1) hy.pd (hy.pw rfl)
theorem se_or {a b : IE} (ha : SE W S T L a) (hb : SE W S T L b) : SE W S T L (.or a b) := fun X Wx sc fnb e ok tk h => by
  cases e <;> try (cases h; done)
  rename_i o es pp
  cases o <;> try (cases h; done)
  rcases es with _ | ⟨x, _ | ⟨y, r⟩⟩
  · cases h
  · cases h
  · have main : notIf x = true → notIf y = true → ∀ (hx : EOk X W Wx T a x), (PE X (.BoolOp .Or (y :: r) pp) (tD W Wx (dE T b))) → PW X (.BoolOp .Or (y :: r) pp) (DL.tB W Wx (dT T b)) → EOk X W Wx T (.or a b) (.BoolOp .Or (x :: y :: r) pp) := fun n1 n2 hx hd hw => by
      have w := pw_w (pw_or (hx.pt n1) hw) fun σ H Q z => or_imp z
      have d := pe_orD hx.pd hd
      exact ⟨d, pe_vw d, fun _ => w.pt, fun _ => w⟩
    cases r with
    | nil =>
      have h' : ((chkE S sc a x && notIf x) && (chkE S sc b y && notIf y)) = true := h
      simp only [Bool.and_eq_true] at h'
      obtain ⟨⟨h1, n1⟩, h2, n2⟩ := h'
      have hy := hb X Wx sc fnb _ ok tk h2
      exact main n1 n2 (ha X Wx sc fnb _ ok tk h1) (pe_one hy.pd) (pw_or1 (hy.pt n2))
    | cons z r =>
      have h' : ((chkE S sc a x && notIf x) && (chkE S sc b (.BoolOp .Or (y :: z :: r) pp) && notIf y)) = true := h
      simp only [Bool.and_eq_true] at h'
      obtain ⟨⟨h1, n1⟩, h2, n2⟩ := h'
      have hy := hb X Wx sc fnb _ ok tk h2
      exact main n1 n2 (ha X Wx sc fnb _ ok tk h1) hy.pd (hy.pw rfl)
theorem se_not {a : IE} (ha : SE W S T L a) : SE W S T L (.not a) := fun X Wx sc fnb e ok tk h => by
  cases e <;> try (cases h; done)
  rename_i o x pp
  cases o <;> try (cases h; done)
  have h' : (chkE S sc a x && notIf x) = true := h
  simp only [Bool.and_eq_true] at h'
  have hx := ha X Wx sc fnb _ ok tk h'.1
  refine eok_bl ok.hK (pe_notD hx.pd) rfl rfl fun _ => pt_w (pt_not (hx.pt h'.2)) fun σ H Q z => ?_
  obtain ⟨ρ, F, p, c, en, g⟩ := z
  refine ⟨ρ, F, p, c, en, ?_⟩
  show Good W Wx σ rB H F ((dM T false a ρ p).bind fun x => ofO (truth x)) _
  have g' : Good W Wx σ rB H F (((dM T false a ρ p).bind fun x => M.bind (ofO (blOf x)) fun k => M.pure (.bl (!k))).bind fun x => ofO (truth x)) Q := g
  cases q : dM T false a ρ p with
  | bad => rw [q] at g'; exact g'
  | err e p1 => rw [q] at g'; exact g'
  | ok x p1 =>
    rw [q] at g'
    have g2 : Good W Wx σ rB H F (((ofO (blOf x) p1).bind fun k => M.pure (.bl (!k))).bind fun x => ofO (truth x)) Q := g'
    cases e : blOf x with
    | none => rw [e] at g2; exact g2.elim
    | some k =>
      rw [e] at g2
      show Good W Wx σ rB H F (ofO (truth x) p1) _
      rw [blOf_truth e]
      intro v H' F' s r
      have r : v = k := r
      subst r
      exact g2 _ _ _ s rfl
theorem se_ifE {t a b : IE} (ht : SE W S T L t) (ha : SE W S T L a) (hb : SE W S T L b) : SE W S T L (.ifE t a b) := fun X Wx sc fnb e ok tk h => by
  cases e <;> try (cases h; done)
  rename_i c x y pp
  have h' : (chkE S sc t c && notIf c && chkE S sc a x && chkE S sc b y) = true := h
  simp only [Bool.and_eq_true] at h'
  obtain ⟨⟨⟨h1, h2⟩, h3⟩, h4⟩ := h'
  have d := pe_ifD (pos := pp) ((ht X Wx sc fnb _ ok tk h1).pt h2) (ha X Wx sc fnb _ ok tk h3).pd (hb X Wx sc fnb _ ok tk h4).pd
  exact ⟨d, pe_vw d, fun h => (by cases h), fun h => (by cases h)⟩
end
end DL
set_option maxHeartbeats 4000000
namespace DL
open PySem PySem.Spec PyProof.Rows L2
structure EsOk (X : Cx) (W : Wd) (Wx : WX) (T : Tb) (as : IEs) (es : List Expr) : Prop where
  pd : PA X es (tAs W Wx (dEs T as))
  pv : PA X es (tVs W Wx (dVs T as))
def SEs (W : Wd) (S : Sc) (T : Tb) (L : Nat) (as : IEs) : Prop := ∀ (X : Cx) (Wx : WX) (sc : Scope) (fnb : Str → Bool) (es : List Expr), XOk X W S T L sc fnb → Takes X Wx → chkEs S sc as es = true → EsOk X W Wx T as es
def SL (W : Wd) (S : Sc) (T : Tb) (L : Nat) (l : IL) : Prop := ∀ (X : Cx) (Wx : WX) (sc : Scope) (fnb : Str → Bool) (e : Expr), XOk X W S T L sc fnb → Takes X Wx → chkL S sc l e = true → PE X e (tF W Wx (dL T l))
def SO (W : Wd) (S : Sc) (T : Tb) (L : Nat) (l : IEs) : Prop := ∀ (X : Cx) (Wx : WX) (sc : Scope) (fnb : Str → Bool) (e : Option Expr), XOk X W S T L sc fnb → Takes X Wx → chkO S sc l e = true → PO X e (tM W Wx rOI (dO T l))
def STs (W : Wd) (S : Sc) (T : Tb) (L : Nat) (l : IEs) : Prop := ∀ (X : Cx) (Wx : WX) (sc : Scope) (fnb : Str → Bool) (es : List Expr), XOk X W S T L sc fnb → Takes X Wx → chkTs S sc l es = true → PTs X es (DL.tB W Wx (dTs T l))
def SI (W : Wd) (S : Sc) (T : Tb) (L : Nat) (it : IIt) : Prop := ∀ (X : Cx) (Wx : WX) (sc : Scope) (fnb : Str → Bool) (tg e : Expr) (vw : Bool), XOk X W S T L sc fnb → Takes X Wx → chkI S sc it tg e = true → PI X tg e (tI vw W Wx (dI T vw it))
section
variable {X : Cx} {W : Wd} {Wx : WX} {T : Tb} {S : Sc} {L : Nat} {sc : Scope} {fnb : Str → Bool}
theorem EOk.rv {t : IE} {e : Expr} (h : EOk X W Wx T t e) : ∀ vw, PE X e (tM W Wx (RV W vw) (dM T vw t))
  | true => h.pv
  | false => h.pd
theorem ses_nil : SEs W S T L .nil := fun X Wx sc fnb es ok tk h => by
  cases es with
  | nil => exact ⟨pa_nilM fun _ _ => .nil, pa_nilM fun _ _ => trivial⟩
  | cons _ _ => cases h
theorem ses_cons {a : IE} {as : IEs} (ha : SE W S T L a) (hs : SEs W S T L as) : SEs W S T L (.cons a as) := fun X Wx sc fnb es ok tk h => by
  cases es with
  | nil => cases h
  | cons e es =>
    have h' : (chkE S sc a e && notStar e && chkEs S sc as es) = true := h
    simp only [Bool.and_eq_true] at h'
    have h1 := ha X Wx sc fnb _ ok tk h'.1.1
    have h2 := hs X Wx sc fnb _ ok tk h'.2
    exact ⟨pa_consM keeps_rD (fun _ _ _ _ _ _ r1 r2 => .cons r1 r2) h'.1.2 h1.pd h2.pd, pa_consM keeps_Vw (fun _ _ _ _ _ _ r1 r2 => ⟨r1, r2⟩) h'.1.2 h1.pv h2.pv⟩
theorem se_dct0 : SE W S T L .dct0 := fun X Wx sc fnb e ok tk h => by
  cases e <;> try (cases h; done)
  rename_i ks vs pp
  cases ks with
  | cons _ _ => cases h
  | nil =>
    cases vs with
    | cons _ _ => cases h
    | nil =>
      refine eok_plain ok.hK (pe_w pe_dnewK fun σ H Q z => ?_) rfl rfl
      obtain ⟨ρ, F, p, c, en, g⟩ := z
      exact fun a ha => g _ _ _ (Step.lay c (.dK []) ha) (.dct upd_same rfl .nil)
theorem se_tup {as : IEs} (hs : SEs W S T L as) : SE W S T L (.tup as) := fun X Wx sc fnb e ok tk h => by
  cases e <;> try (cases h; done)
  rename_i es kk pp
  have h' : (chkEs S sc as es && decide (es.length ≤ 1000)) = true := h
  simp only [Bool.and_eq_true, decide_eq_true_eq] at h'
  exact eok_plain ok.hK (pe_tupD (hs X Wx sc fnb _ ok tk h'.1).pd fun ρ p xs p' e => by rw [dMs_len h'.1 e]; exact h'.2) rfl rfl
theorem se_idx {a i : IE} (ha : SE W S T L a) (hi : SE W S T L i) : SE W S T L (.idx a i) := fun X Wx sc fnb e ok tk h => by
  cases e <;> try (cases h; done)
  rename_i l r pp
  have hns : (chkE S sc a l && chkE S sc i r && notSlice r) = true := by cases r <;> first | exact h | (cases h; done)
  simp only [Bool.and_eq_true] at hns
  have hp : PlainIx r := by cases r <;> first | (cases hns.2; done) | (intro o i; rfl)
  exact eok_plain ok.hK (pe_ixD ok.hK (ha X Wx sc fnb _ ok tk hns.1.1).pv (hi X Wx sc fnb _ ok tk hns.1.2).pd hp) rfl rfl
theorem so_nil : SO W S T L .nil := fun X Wx sc fnb e ok tk h => by
  cases e with
  | none => exact po_noneM
  | some _ => cases h
theorem so_cons {a : IE} {as : IEs} (ha : SE W S T L a) : SO W S T L (.cons a as) := fun X Wx sc fnb e ok tk h => by
  cases as with
  | cons _ _ => cases h
  | nil => cases e with
    | none => cases h
    | some e => exact po_someM (ha X Wx sc fnb _ ok tk h).pd
theorem se_slc {a : IE} {lo hi : IEs} (ha : SE W S T L a) (hl : SO W S T L lo) (hh : SO W S T L hi) : SE W S T L (.slc a lo hi) := fun X Wx sc fnb e ok tk h => by
  cases e <;> try (cases h; done)
  rename_i l r pp
  cases r <;> try (cases h; done)
  rename_i x y z p2
  cases z with
  | some _ => cases h
  | none =>
    have h' : (chkE S sc a l && chkO S sc lo x && chkO S sc hi y) = true := h
    simp only [Bool.and_eq_true] at h'
    exact eok_plain ok.hK (pe_slcD ok.hK (ha X Wx sc fnb _ ok tk h'.1.1).pv (hl X Wx sc fnb _ ok tk h'.1.2) (hh X Wx sc fnb _ ok tk h'.2)) rfl rfl
theorem se_fld {a : IE} {f : Nat} (ha : SE W S T L a) : SE W S T L (.fld a f) := fun X Wx sc fnb e ok tk h => by
  cases e <;> try (cases h; done)
  rename_i x n pp
  have h' : (chkE S sc a x && decide (fname f = n) && notCall0 x) = true := h
  simp only [Bool.and_eq_true, decide_eq_true_eq] at h'
  obtain ⟨⟨h1, rfl⟩, h3⟩ := h'
  exact eok_plain ok.hK (pe_fldD ok.hK ok.cls (ha X Wx sc fnb _ ok tk h1).pd h3) rfl rfl
theorem se_call {k : Nat} {as : IEs} (hs : SEs W S T L as) : SE W S T L (.call k as) := fun X Wx sc fnb e ok tk h => by
  cases e <;> try (cases h; done)
  rename_i fn es ks pp
  cases fn <;> try (cases h; done)
  rename_i x px
  cases ks with
  | cons _ _ => cases h
  | nil =>
    have h' : (decide (S.fnm[k]? = some (x, es.length)) && (glOk sc x && noM x) && chkEs S sc as es && !es.isEmpty) = true := h
    simp only [Bool.and_eq_true, decide_eq_true_eq, Bool.not_eq_true'] at h'
    obtain ⟨⟨⟨h1, h2, hno⟩, h3⟩, h4⟩ := h'
    have hg := gl_of ok h2
    cases es with
    | nil => cases h4
    | cons e es =>
      refine eok_plain ok.hK ?_ rfl rfl
      have e0 : dE T (.call k as) = fun ρ => M.bind (dMs T false as ρ) fun xs => match T.fn[k]? with | some m => m xs | none => M.bad := rfl
      rw [e0]
      cases q : T.fn[k]? with
      | none =>
        have l1 := List.getElem?_eq_none_iff.mp q
        obtain ⟨l2, _⟩ := List.getElem?_eq_some_iff.mp h1
        have := ok.fnl
        omega
      | some m => exact pe_callD ok.q tk (ok.fn k m x _ q h1) hno hg.1 hg.2 (noStars_of h3) (hs X Wx sc fnb _ ok tk h3).pd fun ρ p xs p' e => dMs_len h3 e
theorem noM_m (ne : Bool) : noM (mName ne) = false := by cases ne <;> rfl
theorem se_mcmp {ne : Bool} {cc k : Nat} {a b : IE} (ha : SE W S T L a) (hb : SE W S T L b) : SE W S T L (.mcmp ne cc k a b) := fun X Wx sc fnb e ok tk h => by
  cases e <;> try (cases h; done)
  rename_i l os rs pp
  cases os with
  | nil => cases h
  | cons o os => cases os with
    | cons _ _ => cases h
    | nil => cases rs with
      | nil => cases h
      | cons r rs => cases rs with
        | cons _ _ => cases h
        | nil =>
          simp only [chkE, Bool.and_eq_true, decide_eq_true_eq] at h
          obtain ⟨⟨⟨⟨h1, h2⟩, h3⟩, h4⟩, h5⟩ := h
          have ho : o = (if ne = true then CmpOp.NotEq else .Eq) := by
            cases ne <;> cases o <;> first | rfl | cases h1
          have pa := (ha X Wx sc fnb _ ok tk h3).pd
          have pb := (hb X Wx sc fnb _ ok tk h4).pd
          cases q : T.fn[k]? with
          | none =>
            have l1 := List.getElem?_eq_none_iff.mp q
            obtain ⟨l2, _⟩ := List.getElem?_eq_some_iff.mp h2
            have := ok.fnl
            omega
          | some m =>
            have em : fnAt T.fn k = m := by unfold fnAt; rw [q]
            have F : MeD W X.prog X.w X.K X.mg X.base L (mName ne) cc m := by
              rcases ok.fn k m _ _ q h2 with ⟨z, _⟩ | z
              · rw [noM_m] at z; cases z
              · exact z
            have pc := pc_mcmpD (ne := ne) ok.hK ok.cls ok.q tk F rfl pa pb
            rw [← ho] at pc
            have e0 : dE T (.mcmp ne cc k a b) = fun ρ => M.bind (dM T false a ρ) fun x => M.bind (dM T false b ρ) fun y => mcK cc m x y := by rw [← em]; rfl
            refine eok_bl ok.hK (by rw [e0]; exact pe_cmp pc (noset h5)) rfl rfl fun _ => ?_
            refine pt_w (pt_cmp pc (noset h5)) fun σ H Q z => ?_
            obtain ⟨ρ, F, p, c, en, g⟩ := z
            refine ⟨ρ, F, p, c, en, ?_⟩
            have g0 : Good W Wx σ rB H F ((dE T (.mcmp ne cc k a b) ρ p).bind fun d => ofO (truth d)) Q := g
            rw [e0] at g0
            show Good W Wx σ (rD W) H F ((M.bind (dM T false a ρ) fun x => M.bind (dM T false b ρ) fun y => mcK cc m x y) p) _
            refine good_bind (R := rD W) (R' := rB) (f := fun d => ofO (truth d)) g0 fun d p1 v H1 F1 e st r g1 => ?_
            have hb : ∃ bb, d = .bl bb := by
              have e1 : ((dM T false a ρ p).bind fun x => M.bind (dM T false b ρ) fun y => mcK cc m x y) = .ok d p1 := e
              cases q1 : dM T false a ρ p with
              | bad => rw [q1] at e1; cases e1
              | err _ _ => rw [q1] at e1; cases e1
              | ok x p2 =>
                rw [q1] at e1
                have e2 : ((dM T false b ρ p2).bind fun y => mcK cc m x y) = .ok d p1 := e1
                cases q2 : dM T false b ρ p2 with
                | bad => rw [q2] at e2; cases e2
                | err _ _ => rw [q2] at e2; cases e2
                | ok y p3 =>
                  rw [q2] at e2
                  have e3 : mcK cc m x y p3 = .ok d p1 := e2
                  unfold mcK at e3
                  split at e3
                  · have e4 : ((m [x, y] p3).bind fun r => ofO ((blOf r).map .bl)) = .ok d p1 := e3
                    cases q3 : m [x, y] p3 with
                    | bad => rw [q3] at e4; cases e4
                    | err _ _ => rw [q3] at e4; cases e4
                    | ok r p4 =>
                      rw [q3] at e4
                      cases r <;> first | (cases e4; exact ⟨_, rfl⟩) | cases e4
                  · cases e3
            obtain ⟨bb, rfl⟩ := hb
            cases r
            exact ⟨bb, rfl, g1 _ _ _ (Step.refl st.ctx) rfl⟩
theorem se_notB {a : IE} {b : Bool} (ha : SE W S T L a) : SE W S T L (.notB a b) := fun X Wx sc fnb e ok tk h => by
  cases e <;> try (cases h; done)
  rename_i l os rs pp
  rcases os with _ | ⟨o, os⟩
  · cases h
  cases o <;> try (cases h; done)
  rcases os with _ | ⟨_, _⟩
  · rcases rs with _ | ⟨r, rs⟩
    · cases h
    cases r <;> try (cases h; done)
    rename_i k _ _
    cases k <;> try (cases h; done)
    rcases rs with _ | ⟨_, _⟩
    · rename_i cc
      obtain ⟨h1, hb⟩ := Bool.and_eq_true_iff.mp (show (chkE S sc a l && b == cc) = true from h)
      cases eq_of_beq hb
      have pa := (ha X Wx sc fnb _ ok tk h1).pd
      refine eok_bl ok.hK (pe_notBD pa) rfl rfl fun _ => ?_
      refine pt_w (pt_cmp (pc_notB pa) rfl) fun σ H Q z => ?_
      obtain ⟨ρ, F, p, c, en, g⟩ := z
      have g0 : Good W Wx σ rB H F ((dM T false a ρ p).bind fun x => M.pure (!isBl b x)) Q := by
        have e0 : dT T (.notB a b) ρ p = (dM T false a ρ p).bind fun x => M.pure (!isBl b x) := by
          show ((dM T false a ρ p).bind _).bind _ = _
          cases dM T false a ρ p <;> rfl
        rw [← e0]; exact g
      refine t1 (R1 := rD W) (R' := rB) (m1 := dM T false a) (f := fun x _ => M.pure (!isBl b x)) ⟨ρ, F, p, c, en, g0⟩ fun ρ x p v H1 F1 c _ r g => ?_
      exact ⟨_, rfl, by rw [rd_isB r]; exact g _ _ _ (Step.refl c) rfl⟩
    · cases h
  · cases h
theorem se_bits {a : IE} (ha : SE W S T L a) : SE W S T L (.bits a) := fun X Wx sc fnb e ok tk h => by
  cases e <;> try (cases h; done)
  rename_i fn es ks pp
  cases fn <;> try (cases h; done)
  rename_i x n ap
  cases es with
  | cons _ _ => cases ks <;> cases h
  | nil => cases ks with
    | cons _ _ => cases h
    | nil =>
      have h' : (chkE S sc a x && n == "bit_length" && notCall0 x && ap.endLine == pp.line) = true := h
      simp only [Bool.and_eq_true] at h'
      obtain ⟨⟨⟨h1, h2⟩, h3⟩, h4⟩ := h'
      exact eok_plain ok.hK (pe_bitsD (beq_iff_eq.mp h2) (ha X Wx sc fnb _ ok tk h1).pd h3 h4) rfl rfl
theorem se_isi {a : IE} {t : Ty} (ha : SE W S T L a) : SE W S T L (.isi a t) := fun X Wx sc fnb e ok tk h => by
  cases e <;> try (cases h; done)
  rename_i fn es ks pp
  cases fn <;> try (cases h; done)
  rename_i x px
  rcases es with _ | ⟨e, _ | ⟨y, _ | ⟨_, _⟩⟩⟩
  · cases ks <;> cases h
  · cases ks <;> cases h
  · cases ks with
    | cons _ _ => cases h
    | nil =>
      have h' : (bltOk S sc "isinstance" x && chkE S sc a e && notStar e && tyB S sc t y) = true := h
      simp only [Bool.and_eq_true] at h'
      obtain ⟨⟨⟨h1, h2⟩, h3⟩, h4⟩ := h'
      exact eok_plain ok.hK (pe_isiD ok h1 (ha X Wx sc fnb _ ok tk h2).pd h3 h4) rfl rfl
  · cases ks <;> cases h
theorem se_isiT {a : IE} {ts : List Ty} (ha : SE W S T L a) : SE W S T L (.isiT a ts) := fun X Wx sc fnb e ok tk h => by
  cases e <;> try (cases h; done)
  rename_i fn es ks pp
  cases fn <;> try (cases h; done)
  rename_i x px
  rcases es with _ | ⟨e, _ | ⟨y, _ | ⟨_, _⟩⟩⟩
  · cases ks <;> cases h
  · cases ks <;> cases h
  · cases ks with
    | cons _ _ => cases y <;> cases h
    | nil =>
      cases y <;> try (cases h; done)
      rename_i es xc tp
      have h' : (bltOk S sc "isinstance" x && chkE S sc a e && notStar e && tyBs S sc ts es && decide (1 ≤ ts.length ∧ ts.length ≤ 1000)) = true := h
      simp only [Bool.and_eq_true, decide_eq_true_eq] at h'
      obtain ⟨⟨⟨⟨h1, h2⟩, h3⟩, h4⟩, h5, h6⟩ := h'
      exact eok_plain ok.hK (pe_isiTD ok h1 (ha X Wx sc fnb _ ok tk h2).pd h3 h4 h6 (by rintro rfl; simp at h5)) rfl rfl
  · cases y <;> cases ks <;> cases h
theorem cb_of (ok : XOk X W S T L sc fnb) (b : Blt) (hb : b ≠ .gcd) : (∃ id, bootBuiltins (bltName b) = some (.builtin id) ∧ CallR X (.builtin id) (rCl W (opBlt b))) ∨ (∃ id, bootBuiltins (bltName b) = some (.type id) ∧ CallR X (.type id) (rCl W (opBlt b))) := by
  cases b with
  | len => exact .inl ⟨_, by rfl, cb_len ok.hK⟩
  | tuple => exact .inr ⟨_, by rfl, cb_tuple ok.hK⟩
  | sum => exact .inl ⟨_, by rfl, cb_sum ok.calm ok.hK⟩
  | all => exact .inl ⟨_, by rfl, cb_all ok.calm ok.hK⟩
  | any => exact .inl ⟨_, by rfl, cb_any ok.calm ok.hK⟩
  | int => exact .inr ⟨_, by rfl, cb_int⟩
  | abs => exact .inl ⟨_, by rfl, cb_abs⟩
  | gcd => exact absurd rfl hb
  | min => exact .inl ⟨_, by rfl, cb_min ok.calm⟩
  | max => exact .inl ⟨_, by rfl, cb_max ok.calm⟩
  | repr =>
    refine .inl ⟨_, by rfl, cb_repr ok.hK ok.q (hu_of ok) fun pins σ H s I => ?_⟩
    obtain ⟨o, h⟩ := ok.sm
    exact (I.env0.bs _ o h).2
theorem blt_nm (b : Blt) : bltName b ≠ "__name__" ∧ ((bltName b) == ("__debug__" : Str)) = false := by
  cases b <;> exact ⟨by decide, by decide⟩
theorem pe_gcdD {x : Str} {p0 pos : Pos} {e : Expr} {es : List Expr} {ms : En → M (List D)} (hg : Gl X x) (hm : X.mg x = some (.builtin "math.gcd")) (hd : (x == ("__debug__" : Str)) = false) (hs : noStars (e :: es) = true)
    (h : PA X (e :: es) (tVs W Wx ms)) : PE X (.Call (.Name x p0) (e :: es) [] pos) (tD W Wx fun ρ => M.bind (ms ρ) fun xs => ofO (opBlt .gcd xs)) := by
  obtain ⟨h1, h2⟩ := Bool.and_eq_true_iff.mp (show (notStar e && noStars es) = true from hs)
  exact pe_w (pe_callBfun cb_gcd hg hm h hd (star_cons h1) (star_any h2)) fun σ H Q z => tA_cl z
theorem se_blt {b : Blt} {as : IEs} (hs : SEs W S T L as) : SE W S T L (.blt b as) := fun X Wx sc fnb e ok tk h => by
  cases e <;> try (cases h; done)
  rename_i fn es ks pp
  cases fn <;> try (cases h; done)
  rename_i x px
  cases ks with
  | cons _ _ => cases h
  | nil =>
    have h' : (bltG S sc b x && chkEs S sc as es && !es.isEmpty) = true := h
    simp only [Bool.and_eq_true, Bool.not_eq_true'] at h'
    obtain ⟨⟨h1, h2⟩, h3⟩ := h'
    cases es with
    | nil => cases h3
    | cons e es =>
      have pv := (hs X Wx sc fnb _ ok tk h2).pv
      have ns := noStars_of h2
      refine eok_plain ok.hK ?_ rfl rfl
      by_cases hb : b = .gcd
      · subst hb
        simp only [bltG, Bool.and_eq_true, beq_iff_eq, isGl, decide_eq_true_eq] at h1
        obtain ⟨⟨rfl, g1⟩, g2⟩ := h1
        exact pe_gcdD (by show X.env.scope.names.lookup _ = _; rw [ok.scp]; exact g2) (ok.gcd g1) (by decide) ns pv
      · have h1' : bltOk S sc (bltName b) x = true := by cases b <;> first | exact h1 | exact absurd rfl hb
        obtain ⟨rfl, hg, hm⟩ := bltGl ok h1'
        obtain ⟨n1, n2⟩ := blt_nm b
        rcases cb_of ok b hb with ⟨id, hv, hc⟩ | ⟨id, hv, hc⟩
        · exact pe_bltD hc hg hm hv n1 n2 ns pv
        · exact pe_bltTy hc hg hm hv n1 n2 ns pv
theorem pget_val {H F : Hp} {p : Pen} (c : Ctx W H F p) (k : PK) : ∃ ca v, H W.pa = some (.dK (penKvs ca p)) ∧ valV (penKvs ca p) (.inr (pkey k)) = some v ∧ DL.Rd W F v (pgetD k p) := by
  obtain ⟨ca, h1, h2⟩ := c.pen.ob
  refine ⟨ca, ?_⟩
  cases k with
  | cells =>
    refine ⟨.ref ca, h1, by rfl, .lst h2 ?_⟩
    generalize p.cells = l
    induction l with
    | nil => exact .nil
    | cons x l ih => exact .cons (.int x) ih
  | at_ => exact ⟨.int p.at_, h1, by rfl, .int _⟩
  | digits => exact ⟨.int p.digits, h1, by rfl, .int _⟩
  | count => exact ⟨.int p.count, h1, by rfl, .int _⟩
  | fold => exact ⟨.int p.fold, h1, by rfl, .int _⟩
theorem isPen_of {H F : Hp} {σ : L2.St} {ρ : En} (e : EnvOk W H F σ ρ) {i : Nat} (h : isPen ρ[i]? = true) : σ[i]? = some (some (.ref W.pa)) := by
  cases q : ρ[i]? with
  | none => rw [q] at h; cases h
  | some s => cases s with
    | un => rw [q] at h; cases h
    | me => rw [q] at h; cases h
    | own _ => rw [q] at h; cases h
    | shr d =>
      cases d <;> try (rw [q] at h; cases h; done)
      obtain ⟨v, h1, h2⟩ := slot_shr e q
      cases h2; exact h1
theorem se_lam {n : Nat} : SE W S T L (.lam n) := fun X Wx sc fnb e ok tk h => by
  cases e <;> try (cases h; done)
  exact eok_plain ok.hK (ok.lam n _ _ _ _ h Wx) rfl rfl
theorem fnw {k : Nat} {A : Around} (q : Quiet k A) : True := trivial
theorem se_callV {i : Nat} : SE W S T L (.callV i) := fun X Wx sc fnb e ok tk h => by
  cases e <;> try (cases h; done)
  rename_i fn es ks pp
  cases fn <;> try (cases h; done)
  · rename_i x px
    cases es with
    | cons _ _ => cases ks <;> cases h
    | nil => cases ks with
      | cons _ _ => cases h
      | nil =>
        have h' : nmOk S sc i x = true := h
        refine eok_plain ok.hK ⟨fun pins s σ H Q I z => ?_⟩ rfl rfl
        obtain ⟨ρ, F, p, c, en, g⟩ := z
        have g' : Good W Wx σ (rD W) H F ((match cloAt ρ[i]? with | some n => T.clo n | none => M.bad) p) Q := g
        cases q : ρ[i]? with
        | none => rw [q] at g'; exact g'.elim
        | some sl => cases sl with
          | un => rw [q] at g'; exact g'.elim
          | me => rw [q] at g'; exact g'.elim
          | own _ => rw [q] at g'; exact g'.elim
          | shr dd =>
            cases dd <;> try (rw [q] at g'; exact g'.elim)
            rename_i n
            rw [q] at g'
            have g2 : Good W Wx σ (rD W) H F (T.clo n p) Q := g'
            obtain ⟨v, h1, h2⟩ := slot_shr en q
            cases h2 with
            | clo hl hf hc =>
              rename_i f c' d
              refine wpAny_Call_Name_kw (thn ((nm_of ok (p := px) h').run pins s σ H (fun v H1 => v = .ref f ∧ H1 = H) I ⟨.ref f, h1, rfl, rfl⟩) fun u s1 z => ?_)
              obtain ⟨v, H1, I1, r1, rfl, rfl⟩ := z
              cases r1
              obtain ⟨⟨pm, ctv, ho⟩, _, _⟩ := I1.hok f _ (c.sub _ _ hf)
              refine PySem.W.callWith_F0 ⟨_, _, _, _, ho⟩ ?_
              have rc := ok.clo n d hl X.A X.stack s1 H1 Q (WE Wx σ) f c' ok.q I1.env0 (c.sub _ _ hf) (c.sub _ _ hc) ⟨F, p, c, hf, hc, by
                cases eo : T.clo n p with
                | bad => rw [eo] at g2; exact g2
                | err x p1 => rw [eo] at g2; exact fun cls dd H' F' s q => g2 cls dd H' F' s q
                | ok x p1 => rw [eo] at g2; exact g2⟩
              refine wpAny_call (codeAny_mono rc fun res s' z => ?_)
              rcases res with e | (_ | _ | _ | u)
              · exact passAt tk σ pins H1 s1 e s' I1 z
              all_goals first | exact I1.after z | exact False.elim z
theorem se_callC {k : Nat} {as : IEs} (hs : SEs W S T L as) : SE W S T L (.callC k as) := fun X Wx sc fnb e ok tk h => by
  cases e <;> try (cases h; done)
  rename_i fn es ks pp
  cases fn <;> try (cases h; done)
  rename_i x px
  cases ks with
  | cons _ _ => cases h
  | nil =>
    have h' : (decide (S.fnC k = some (x, es.length)) && glOk sc x && chkEs S sc as es && !es.isEmpty) = true := h
    simp only [Bool.and_eq_true, decide_eq_true_eq, Bool.not_eq_true'] at h'
    obtain ⟨⟨⟨h1, h2⟩, h3⟩, h4⟩ := h'
    have hg := gl_of ok h2
    cases es with
    | nil => cases h4
    | cons e es =>
      have ns := noStars_of h3
      refine eok_plain ok.hK (ok.fnC k x _ h1 Wx e es px pp _ tk hg.1 hg.2 (hs X Wx sc fnb _ ok tk h3).pd ?_ rfl fun ρ p xs p' e => dMs_len h3 e) rfl rfl
      have : ∀ l : List Expr, noStars l = true → l.all (fun e => match e with | .Starred _ _ => false | _ => true) = true := fun l hl => by
        induction l with
        | nil => rfl
        | cons y l ih =>
          obtain ⟨a1, a2⟩ := Bool.and_eq_true_iff.mp (show (notStar y && noStars l) = true from hl)
          rw [List.all_cons, ih a2]
          cases y <;> first | rfl | cases a1
      exact this _ ns
theorem se_pget {i : Nat} {k : PK} : SE W S T L (.pget i k) := fun X Wx sc fnb e ok tk h => by
  cases e <;> try (cases h; done)
  rename_i o j pp
  cases o <;> try (cases h; done)
  rename_i x px
  cases j <;> try (cases h; done)
  rename_i c kk pk
  cases c <;> try (cases h; done)
  rename_i y
  obtain ⟨h1, h2⟩ := Bool.and_eq_true_iff.mp (show (nmOk S sc i x && decide (pkey k = y)) = true from h)
  cases of_decide_eq_true h2
  refine eok_plain ok.hK (pe_w (pe_dget (by have := hu_of ok; omega) (nm_of ok h1) pe_str (fun _ _ => rfl)) fun σ H Q z => ?_) rfl rfl
  obtain ⟨ρ, F, p, c, en, g⟩ := z
  have g' : Good W Wx σ (rD W) H F ((if isPen ρ[i]? = true then fun p => Out.ok (pgetD k p) p else M.bad) p) Q := g
  by_cases hp : isPen ρ[i]? = true
  · rw [if_pos hp] at g'
    obtain ⟨ca, v, h1, h2, h3⟩ := pget_val c k
    exact ⟨_, isPen_of en hp, W.pa, v, rfl, h2 ▸ DGet.k (k := Sum.inr (pkey k)) h1, g' v H F (Step.refl c) h3⟩
  · rw [if_neg hp] at g'; exact g'.elim
/-! lists -/
theorem se_frz {l : IL} (hl : SL W S T L l) : SE W S T L (.frz l) := fun X Wx sc fnb e ok tk h => by
  have h' : chkL S sc l e = true := by cases e <;> exact h
  have pd := pe_frz (hl X Wx sc fnb e ok tk h')
  refine eok_plain ok.hK pd rfl ?_
  cases e <;> first | rfl | skip
  all_goals (cases l <;> first | (cases h'; done) | skip)
theorem sl_disp {as : IEs} (hs : SEs W S T L as) : SL W S T L (.disp as) := fun X Wx sc fnb e ok tk h => by
  cases e <;> try (cases h; done)
  rename_i es pp
  have h' : (chkEs S sc as es && decide (es.length ≤ 1000)) = true := h
  simp only [Bool.and_eq_true, decide_eq_true_eq] at h'
  exact pe_lstF (hs X Wx sc fnb _ ok tk h'.1).pd fun ρ p xs p' e => by rw [dMs_len h'.1 e]; exact h'.2
theorem sl_ofSeq {a : IE} (ha : SE W S T L a) : SL W S T L (.ofSeq a) := fun X Wx sc fnb e ok tk h => by
  cases e <;> try (cases h; done)
  rename_i fn es ks pp
  cases fn <;> try (cases h; done)
  rename_i x px
  rcases es with _ | ⟨e, _ | ⟨_, _⟩⟩
  · cases ks <;> cases h
  · cases ks with
    | cons _ _ => cases h
    | nil =>
      have h' : (bltOk S sc "list" x && chkE S sc a e && notStar e) = true := h
      simp only [Bool.and_eq_true] at h'
      obtain ⟨rfl, hg, hm⟩ := bltGl ok h'.1.1
      exact pe_ofSeqF ok.hK hg hm h'.2 (ha X Wx sc fnb _ ok tk h'.1.2).pv
  · cases ks <;> cases h
theorem sl_cat {a b : IE} (ha : SE W S T L a) (hb : SE W S T L b) : SL W S T L (.cat a b) := fun X Wx sc fnb e ok tk h => by
  cases e <;> try (cases h; done)
  rename_i l o r pp
  cases o <;> try (cases h; done)
  have h' : (chkE S sc a l && chkE S sc b r) = true := h
  simp only [Bool.and_eq_true] at h'
  exact pe_catF ok.hK (ha X Wx sc fnb _ ok tk h'.1).pv (hb X Wx sc fnb _ ok tk h'.2).pv
theorem sl_rep {a b : IE} (ha : SE W S T L a) (hb : SE W S T L b) : SL W S T L (.rep a b) := fun X Wx sc fnb e ok tk h => by
  cases e <;> try (cases h; done)
  rename_i l o r pp
  cases o <;> try (cases h; done)
  have h' : (chkE S sc a l && chkE S sc b r) = true := h
  simp only [Bool.and_eq_true] at h'
  exact pe_repF ok.hK (ha X Wx sc fnb _ ok tk h'.1).pv (hb X Wx sc fnb _ ok tk h'.2).pd
theorem sl_ofRng {a : IE} (ha : SE W S T L a) : SL W S T L (.ofRng a) := fun X Wx sc fnb e ok tk h => by
  cases e <;> try (cases h; done)
  rename_i fn es ks pp
  cases fn <;> try (cases h; done)
  rename_i x px
  rcases es with _ | ⟨e, es⟩
  · cases ks <;> cases h
  cases e <;> try (cases es <;> cases ks <;> cases h; done)
  rename_i fn2 es2 ks2 p2
  cases fn2 <;> try (cases es <;> cases ks <;> cases h; done)
  rename_i y py
  rcases es2 with _ | ⟨e2, _ | ⟨_, _⟩⟩
  · cases es <;> cases ks <;> cases ks2 <;> cases h
  · cases ks2 with
    | cons _ _ => cases es <;> cases ks <;> cases h
    | nil => cases es with
      | cons _ _ => cases ks <;> cases h
      | nil => cases ks with
        | cons _ _ => cases h
        | nil =>
          have h' : (bltOk S sc "list" x && bltOk S sc "range" y && chkE S sc a e2 && notStar e2) = true := h
          simp only [Bool.and_eq_true] at h'
          obtain ⟨⟨⟨h1, h2⟩, h3⟩, h4⟩ := h'
          obtain ⟨rfl, hg, hm⟩ := bltGl ok h1
          obtain ⟨rfl, hg2, hm2⟩ := bltGl ok h2
          exact pe_ofRngF ok.calm hg hm hg2 hm2 h4 (ha X Wx sc fnb _ ok tk h3).pd
  · cases es <;> cases ks <;> cases ks2 <;> cases h
theorem sl_ofRng2 {a b : IE} (ha : SE W S T L a) (hb : SE W S T L b) : SL W S T L (.ofRng2 a b) := fun X Wx sc fnb e ok tk h => by
  cases e <;> try (cases h; done)
  rename_i fn es ks pp
  cases fn <;> try (cases h; done)
  rename_i x px
  rcases es with _ | ⟨e, es⟩
  · cases ks <;> cases h
  cases e <;> try (cases es <;> cases ks <;> cases h; done)
  rename_i fn2 es2 ks2 p2
  cases fn2 <;> try (cases es <;> cases ks <;> cases h; done)
  rename_i y py
  rcases es2 with _ | ⟨e2, _ | ⟨e3, _ | ⟨_, _⟩⟩⟩
  · cases es <;> cases ks <;> cases ks2 <;> cases h
  · cases es <;> cases ks <;> cases ks2 <;> cases h
  · cases ks2 with
    | cons _ _ => cases es <;> cases ks <;> cases h
    | nil => cases es with
      | cons _ _ => cases ks <;> cases h
      | nil => cases ks with
        | cons _ _ => cases h
        | nil =>
          have h' : (bltOk S sc "list" x && bltOk S sc "range" y && chkE S sc a e2 && notStar e2 && chkE S sc b e3 && notStar e3) = true := h
          simp only [Bool.and_eq_true] at h'
          obtain ⟨⟨⟨⟨⟨h1, h2⟩, h3⟩, h4⟩, h5⟩, h6⟩ := h'
          obtain ⟨rfl, hg, hm⟩ := bltGl ok h1
          obtain ⟨rfl, hg2, hm2⟩ := bltGl ok h2
          exact pe_ofRng2F ok.calm hg hm hg2 hm2 h4 h6 (ha X Wx sc fnb _ ok tk h3).pd (hb X Wx sc fnb _ ok tk h5).pd
  · cases es <;> cases ks <;> cases ks2 <;> cases h
/-! tests of comprehensions, what is walked over -/
theorem pts_w {es : List Expr} {t t' : TT} (h : PTs X es t) (k : ∀ σ H Q, t' σ H Q → t σ H Q) : PTs X es t' := ⟨fun pins s σ H Q I z => h.run pins s σ H Q I (k _ _ _ z)⟩
theorem sts_nil : STs W S T L .nil := fun X Wx sc fnb es ok tk h => by
  cases es with
  | cons _ _ => cases h
  | nil =>
    refine pts_w pts_nil fun σ H Q z => ?_
    obtain ⟨ρ, F, p, c, en, g⟩ := z
    exact g true H F (Step.refl c) rfl
theorem sts_cons {a : IE} {as : IEs} (ha : SE W S T L a) : STs W S T L (.cons a as) := fun X Wx sc fnb es ok tk h => by
  cases as with
  | cons _ _ => cases h
  | nil =>
    rcases es with _ | ⟨e, _ | ⟨_, _⟩⟩
    · cases h
    · have h' : (chkE S sc a e && notIf e) = true := h
      simp only [Bool.and_eq_true] at h'
      exact pts_one ((ha X Wx sc fnb _ ok tk h'.1).pt h'.2)
    · cases h
theorem si_seq {a : IE} (ha : SE W S T L a) : SI W S T L (.seq a) := fun X Wx sc fnb tg e vw ok tk h => by
  have h' : chkE S sc a e = true := by cases e <;> exact h
  exact pi_seqD ok.hK ((ha X Wx sc fnb e ok tk h').rv vw)
theorem si_rng1 {a : IE} (ha : SE W S T L a) : SI W S T L (.rng1 a) := fun X Wx sc fnb tg e vw ok tk h => by
  cases e <;> try (cases h; done)
  rename_i fn es ks pp
  cases fn <;> try (cases h; done)
  rename_i x px
  rcases es with _ | ⟨e, _ | ⟨_, _⟩⟩
  · cases ks <;> cases h
  · cases ks with
    | cons _ _ => cases h
    | nil =>
      have h' : (bltOk S sc "range" x && chkE S sc a e && notStar e) = true := h
      simp only [Bool.and_eq_true] at h'
      obtain ⟨rfl, hg, hm⟩ := bltGl ok h'.1.1
      exact pi_rng1D hg hm h'.2 (ha X Wx sc fnb e ok tk h'.1.2).pd
  · cases ks <;> cases h
theorem si_rng2 {a b : IE} (ha : SE W S T L a) (hb : SE W S T L b) : SI W S T L (.rng2 a b) := fun X Wx sc fnb tg e vw ok tk h => by
  cases e <;> try (cases h; done)
  rename_i fn es ks pp
  cases fn <;> try (cases h; done)
  rename_i x px
  rcases es with _ | ⟨e, _ | ⟨e2, _ | ⟨_, _⟩⟩⟩
  · cases ks <;> cases h
  · cases ks <;> cases h
  · cases ks with
    | cons _ _ => cases h
    | nil =>
      have h' : (bltOk S sc "range" x && chkE S sc a e && notStar e && chkE S sc b e2 && notStar e2) = true := h
      simp only [Bool.and_eq_true] at h'
      obtain ⟨rfl, hg, hm⟩ := bltGl ok h'.1.1.1.1
      exact pi_rng2D hg hm h'.1.1.2 h'.2 (ha X Wx sc fnb e ok tk h'.1.1.1.2).pd (hb X Wx sc fnb e2 ok tk h'.1.2).pd
  · cases ks <;> cases h
theorem isTuple_of {e : Expr} (h : isTuple e = true) : ∃ es k p, e = .Tuple es k p := by
  cases e <;> first | exact ⟨_, _, _, rfl⟩ | cases h
theorem si_zip2 {a b : IE} (ha : SE W S T L a) (hb : SE W S T L b) : SI W S T L (.zip2 a b) := fun X Wx sc fnb tg e vw ok tk h => by
  cases e <;> try (cases h; done)
  rename_i fn es ks pp
  cases fn <;> try (cases h; done)
  rename_i x px
  rcases es with _ | ⟨e, _ | ⟨e2, _ | ⟨_, _⟩⟩⟩
  · cases ks <;> cases h
  · cases ks <;> cases h
  · cases ks with
    | cons _ _ => cases h
    | nil =>
      have h' : (bltOk S sc "zip" x && isTuple tg && chkE S sc a e && notStar e && chkE S sc b e2 && notStar e2) = true := h
      simp only [Bool.and_eq_true] at h'
      obtain ⟨rfl, hg, hm⟩ := bltGl ok h'.1.1.1.1.1
      obtain ⟨es, k, p, rfl⟩ := isTuple_of h'.1.1.1.1.2
      exact pi_zipD ok.hK hg hm h'.1.1.2 h'.2 ((ha X Wx sc fnb e ok tk h'.1.1.1.2).rv vw) ((hb X Wx sc fnb e2 ok tk h'.1.2).rv vw)
  · cases ks <;> cases h
theorem si_zip3 {a b c : IE} (ha : SE W S T L a) (hb : SE W S T L b) (hc : SE W S T L c) : SI W S T L (.zip3 a b c) := fun X Wx sc fnb tg e vw ok tk h => by
  cases e <;> try (cases h; done)
  rename_i fn es ks pp
  cases fn <;> try (cases h; done)
  rename_i x px
  rcases es with _ | ⟨e, _ | ⟨e2, _ | ⟨e3, _ | ⟨_, _⟩⟩⟩⟩
  · cases ks <;> cases h
  · cases ks <;> cases h
  · cases ks <;> cases h
  · cases ks with
    | cons _ _ => cases h
    | nil =>
      have h' : (bltOk S sc "zip" x && isTuple tg && chkE S sc a e && notStar e && chkE S sc b e2 && notStar e2 && chkE S sc c e3 && notStar e3) = true := h
      simp only [Bool.and_eq_true] at h'
      obtain ⟨⟨⟨⟨⟨⟨⟨h1, h2⟩, h3⟩, h4⟩, h5⟩, h6⟩, h7⟩, h8⟩ := h'
      obtain ⟨rfl, hg, hm⟩ := bltGl ok h1
      obtain ⟨es, k, p, rfl⟩ := isTuple_of h2
      exact pi_zip3D ok.hK hg hm h4 h6 h8 ((ha X Wx sc fnb e ok tk h3).rv vw) ((hb X Wx sc fnb e2 ok tk h5).rv vw) ((hc X Wx sc fnb e3 ok tk h7).rv vw)
  · cases ks <;> cases h
theorem si_enum {a : IE} (ha : SE W S T L a) : SI W S T L (.enum a) := fun X Wx sc fnb tg e vw ok tk h => by
  cases e <;> try (cases h; done)
  rename_i fn es ks pp
  cases fn <;> try (cases h; done)
  rename_i x px
  rcases es with _ | ⟨e, _ | ⟨_, _⟩⟩
  · cases ks <;> cases h
  · cases ks with
    | cons _ _ => cases h
    | nil =>
      have h' : (bltOk S sc "enumerate" x && isTuple tg && chkE S sc a e && notStar e) = true := h
      simp only [Bool.and_eq_true] at h'
      obtain ⟨rfl, hg, hm⟩ := bltGl ok h'.1.1.1
      obtain ⟨es, k, p, rfl⟩ := isTuple_of h'.1.1.2
      exact pi_enumD ok.hK hg hm h'.2 ((ha X Wx sc fnb e ok tk h'.1.2).rv vw)
  · cases ks <;> cases h
/-! comprehensions -/
theorem xok_blk (ok : XOk X W S T L sc fnb) {s : Shared} {H : Hp} {scope : Scope} {C : Addr} {cl : List (Str × Addr)} {fp : List Addr} :
    XOk (X.blk s H scope (compEnvC scope cl C X.env) fp) W S.blk T L (relS scope sc) (fnbOf scope) where
  hK := ok.hK
  hN := ok.hN
  nd := ok.nd
  scp := by
    have := ok.scp
    subst this
    rfl
  fnb := fun x h => h
  calm := ok.calm
  q := ok.q
  free := ok.free
  sm := ok.sm
  gcd := ok.gcd
  fnl := ok.fnl
  fn := ok.fn
  clo := ok.clo
  lam := fun n a b s p h => by cases h
  fnC := fun k x n h => by cases h
  cls := ok.cls
  kc := ok.kc
  cn := ok.cn
  con := ok.con
theorem sl_comp {tg : Tg} {it : IIt} {t : IEs} {e : IE} (hi : SI W S T L it) (ht : STs W S.blk T L t) (he : SE W S.blk T L e) : SL W S T L (.comp tg it t e) := fun X Wx sc fnb ex ok tk h => by
  cases ex <;> try (cases h; done)
  rename_i elt gens scope pp
  rcases gens with _ | ⟨⟨tgt, iter, ifs, n⟩, _ | ⟨_, _⟩⟩
  · cases h
  · have h' : (n == 0 && chkI S sc it tgt iter && chkTg S (relS scope sc) (fnbOf scope) tg tgt && blkC S.N sc scope (ownOf S tg) && notSet iter && chkTs S.blk (relS scope sc) t ifs && chkE S.blk (relS scope sc) e elt) = true := h
    simp only [Bool.and_eq_true] at h'
    obtain ⟨⟨⟨⟨⟨⟨h1, h2⟩, h3⟩, h4⟩, h5⟩, h6⟩, h7⟩ := h'
    have h1 : n = 0 := by simpa using h1
    subst h1
    have hN := ok.hN
    have hs := ok.scp
    exact pe_compD ok.hK ok.calm (hN ▸ ok.nd) (hi X Wx sc fnb tgt iter true ok tk h2) (by rw [hN, hs]; exact blkOk_by h4)
      (fun s H C cl fp => let k := xok_blk (s := s) (H := H) (scope := scope) (C := C) (cl := cl) (fp := fp) ok; pg_of (S := S) k.calm k.hN k.nd k.scp k.fnb tg tgt h3)
      (fun s H C cl fp => ht _ WF _ _ _ (xok_blk ok) takes_no h6) (fun s H C cl fp => (he _ WF _ _ _ (xok_blk ok) takes_no h7).pd)
      (fun x => by cases iter <;> first | rfl | cases h5)
  · cases h
end
mutual
theorem sE {W : Wd} {S : Sc} {T : Tb} {L : Nat} : ∀ t : IE, SE W S T L t
  | .var _ => se_var
  | .own _ => se_own
  | .int _ => se_int
  | .str _ => se_str
  | .bl _ => se_bl
  | .non => se_non
  | .con _ => se_con
  | .bin _ a b => se_bin (sE a) (sE b)
  | .neg a => se_neg (sE a)
  | .cmp _ a b => se_cmp (sE a) (sE b)
  | .isN a => se_isN (sE a)
  | .notN a => se_notN (sE a)
  | .isB a _ => se_isB (sE a)
  | .chain _ _ a b c => se_chain (sE a) (sE b) (sE c)
  | .and a b => se_and (sE a) (sE b)
  | .or a b => se_or (sE a) (sE b)
  | .not a => se_not (sE a)
  | .ifE t a b => se_ifE (sE t) (sE a) (sE b)
  | .tup as => se_tup (sEs as)
  | .idx a i => se_idx (sE a) (sE i)
  | .slc a lo hi => se_slc (sE a) (sO lo) (sO hi)
  | .fld a _ => se_fld (sE a)
  | .call _ as => se_call (sEs as)
  | .mk _ _ => fun _ _ _ _ e _ _ h => by cases e <;> cases h
  | .blt _ as => se_blt (sEs as)
  | .bits a => se_bits (sE a)
  | .pget _ _ => se_pget
  | .lam _ => se_lam
  | .callV _ => se_callV
  | .callC _ as => se_callC (sEs as)
  | .isi a _ => se_isi (sE a)
  | .isiT a _ => se_isiT (sE a)
  | .frz l => se_frz (sL l)
  | .dct0 => se_dct0
  | .mcmp _ _ _ a b => se_mcmp (sE a) (sE b)
  | .notB a _ => se_notB (sE a)
theorem sEs {W : Wd} {S : Sc} {T : Tb} {L : Nat} : ∀ as : IEs, SEs W S T L as
  | .nil => ses_nil
  | .cons a as => ses_cons (sE a) (sEs as)
theorem sO {W : Wd} {S : Sc} {T : Tb} {L : Nat} : ∀ as : IEs, SO W S T L as
  | .nil => so_nil
  | .cons a _ => so_cons (sE a)
theorem sTs {W : Wd} {S : Sc} {T : Tb} {L : Nat} : ∀ as : IEs, STs W S T L as
  | .nil => sts_nil
  | .cons a _ => sts_cons (sE a)
theorem sL {W : Wd} {S : Sc} {T : Tb} {L : Nat} : ∀ l : IL, SL W S T L l
  | .disp as => sl_disp (sEs as)
  | .comp _ it t e => sl_comp (sI it) (sTs t) (sE e)
  | .ofSeq a => sl_ofSeq (sE a)
  | .ofRng a => sl_ofRng (sE a)
  | .rep a n => sl_rep (sE a) (sE n)
  | .cat a b => sl_cat (sE a) (sE b)
  | .ofRng2 a b => sl_ofRng2 (sE a) (sE b)
theorem sI {W : Wd} {S : Sc} {T : Tb} {L : Nat} : ∀ it : IIt, SI W S T L it
  | .seq a => si_seq (sE a)
  | .rng1 a => si_rng1 (sE a)
  | .rng2 a b => si_rng2 (sE a) (sE b)
  | .zip2 a b => si_zip2 (sE a) (sE b)
  | .enum a => si_enum (sE a)
  | .zip3 a b c => si_zip3 (sE a) (sE b) (sE c)
end
end DL
set_option maxHeartbeats 4000000
namespace DL
open PySem PySem.Spec PyProof.Rows L2

/-! ### statements: where one stands in a body -/
structure SRel (W : Wd) (H0 F0 : Hp) (σ : L2.St) (H : Hp) (ρ : En) (F : Hp) (p : Pen) : Prop where
  st : Step W H0 F0 H F p
  en : EnvOk W H F σ ρ
  fr : ∀ (i : Nat) (xs : List D) (q : Addr), ρ[i]? = some (.own xs) → σ[i]? = some (some (.ref q)) → H0 q = none
def SGood (W : Wd) (Wx : WX) (H0 F0 F : Hp) (o : OS) (D : Ends) : Prop := match o with
  | .ok .nx ρ' p' => ∀ σ' H' F', SRel W H0 F0 σ' H' ρ' F' p' → Le F F' → D.nx σ' H'
  | .ok (.rt d) _ p' => ∀ v H' F', Step W H0 F0 H' F' p' → DL.Rd W F' v d → D.rt v H'
  | .ok .brk ρ' p' => ∀ σ' H' F', SRel W H0 F0 σ' H' ρ' F' p' → Le F F' → D.bk σ' H'
  | .ok .cnt ρ' p' => ∀ σ' H' F', SRel W H0 F0 σ' H' ρ' F' p' → Le F F' → D.ct σ' H'
  | .err e p' => ∀ cls dd σ' H' F', Step W H0 F0 H' F' p' → ExcAt W H' F' e cls dd → Wx cls dd σ' H'
  | .bad => False
def tS (W : Wd) (Wx : WX) (m : En → Pen → OS) : TS := fun D σ H => ∃ H0 F0 ρ F p, SRel W H0 F0 σ H ρ F p ∧ SGood W Wx H0 F0 F (m ρ p) D
section
variable {W : Wd} {Wx : WX} {H0 F0 : Hp}
theorem SRel.step {σ : L2.St} {H F H1 F1 : Hp} {ρ : En} {p p1 : Pen} (r : SRel W H0 F0 σ H ρ F p) (s : Step W H F H1 F1 p1) : SRel W H0 F0 σ H1 ρ F1 p1 := ⟨r.st.trans s, r.en.step r.st.ctx s, r.fr⟩
theorem SGood.mono {F F1 : Hp} {o : OS} {D : Ends} (h : SGood W Wx H0 F0 F o D) (l : Le F F1) : SGood W Wx H0 F0 F1 o D := by
  cases o with
  | bad => exact h
  | err e p => exact h
  | ok f ρ p => cases f with
    | rt d => exact h
    | nx => exact fun σ' H' F' r l' => h σ' H' F' r (l.trans l')
    | brk => exact fun σ' H' F' r l' => h σ' H' F' r (l.trans l')
    | cnt => exact fun σ' H' F' r l' => h σ' H' F' r (l.trans l')
theorem SGood.nx {F H : Hp} {σ : L2.St} {ρ : En} {p : Pen} {D : Ends} (h : SGood W Wx H0 F0 F (.ok .nx ρ p) D) (r : SRel W H0 F0 σ H ρ F p) : D.nx σ H := h σ H F r (Le.refl F)
/-- an expression's part of a statement -/
theorem good_of {α β : Type} {R : Hp → Hp → β → α → Prop} {o : Out α} {k : α → Pen → OS} {σ : L2.St} {H F : Hp} {ρ : En} {p : Pen} {D : Ends} {Q : β → Hp → Prop} (r : SRel W H0 F0 σ H ρ F p) (g : SGood W Wx H0 F0 F (ofE o k) D)
    (q : ∀ a p1 v H1 F1, SRel W H0 F0 σ H1 ρ F1 p1 → Le F F1 → R H1 F1 v a → SGood W Wx H0 F0 F1 (k a p1) D → Q v H1) : Good W Wx σ R H F o Q := by
  cases o with
  | bad => exact g
  | err e p1 => exact fun cls dd H1 F1 s x => g cls dd σ H1 F1 (r.st.trans s) x
  | ok a p1 => exact fun v H1 F1 s x => q a p1 v H1 F1 (r.step s) s.le x (SGood.mono g s.le)
theorem goodF_of {o : Out (List D)} {k : List D → Pen → OS} {σ : L2.St} {H F : Hp} {ρ : En} {p : Pen} {D : Ends} {Q : VK} (r : SRel W H0 F0 σ H ρ F p) (g : SGood W Wx H0 F0 F (ofE o k) D)
    (q : ∀ xs p1 a vs H1 F1, SRel W H0 F0 σ H1 ρ F1 p1 → Le F F1 → H a = none → F1 a = none → H1 a = some (.lst vs) → RdA W F1 vs xs → SGood W Wx H0 F0 F1 (k xs p1) D → Q (.ref a) H1) : GoodF W Wx σ H F o Q := by
  cases o with
  | bad => exact g
  | err e p1 => exact fun cls dd H1 F1 s x => g cls dd σ H1 F1 (r.st.trans s) x
  | ok a p1 => exact fun v vs H1 F1 s x1 x2 x3 x4 => q a p1 v vs H1 F1 (r.step s) s.le x1 x2 x3 x4 (SGood.mono g s.le)
/-- slots set -/
theorem SRel.set {σ : L2.St} {H F : Hp} {ρ : En} {p : Pen} (r : SRel W H0 F0 σ H ρ F p) (i : Nat) {v : V} {d : D} (h : DL.Rd W F v d) : SRel W H0 F0 (σ.set i (some v)) H (ρ.set i (.shr d)) F p := by
  refine ⟨r.st, r.en.set i h, fun j xs q e1 e2 => ?_⟩
  have hj : i ≠ j := fun z => by
    subst z
    by_cases hl : i < ρ.length
    · rw [List.getElem?_set_self hl] at e1; cases e1
    · rw [List.getElem?_eq_none (by simpa using hl)] at e1; cases e1
  rw [List.getElem?_set_ne hj] at e1 e2
  exact r.fr j xs q e1 e2
theorem SRel.setOwn {σ : L2.St} {H F : Hp} {ρ : En} {p : Pen} (r : SRel W H0 F0 σ H ρ F p) (i : Nat) {a : Addr} {vs : List V} {xs : List D} (h0 : H0 a = none) (hf : F a = none) (hh : H a = some (.lst vs)) (ra : RdA W F vs xs)
    (hn : ∀ j ys, ρ[j]? = some (.own ys) → σ[j]? ≠ some (some (.ref a)) ∨ j = i) : SRel W H0 F0 (σ.set i (some (.ref a))) H (ρ.set i (.own xs)) F p := by
  have hl : σ.length = ρ.length := r.en.len
  refine ⟨r.st, ⟨by simp [hl], fun j s e => ?_, fun j k ys zs q e1 e2 e3 e4 => ?_⟩, fun j ys q e1 e2 => ?_⟩
  · by_cases hj : i = j
    · subst hj
      by_cases hi : i < ρ.length
      · rw [List.getElem?_set_self hi] at e
        cases e
        exact ⟨_, by rw [List.getElem?_set_self (by rw [hl]; exact hi)], a, vs, rfl, hf, hh, ra⟩
      · rw [List.getElem?_eq_none (by simpa using hi)] at e; cases e
    · rw [List.getElem?_set_ne hj] at e ⊢
      exact r.en.sl j s e
  · by_cases hj : i = j
    · subst hj
      by_cases hk : i = k
      · exact hk
      · rw [List.getElem?_set_ne hk] at e2 e4
        have hi : i < σ.length := by
          by_cases hi : i < σ.length
          · exact hi
          · rw [List.getElem?_eq_none (by simpa using hi)] at e3; cases e3
        rw [List.getElem?_set_self hi] at e3
        cases e3
        rcases hn k zs e2 with z | z
        · exact absurd e4 z
        · exact z.symm
    · rw [List.getElem?_set_ne hj] at e1 e3
      by_cases hk : i = k
      · subst hk
        have hi : i < σ.length := by
          by_cases hi : i < σ.length
          · exact hi
          · rw [List.getElem?_eq_none (by simpa using hi)] at e4; cases e4
        rw [List.getElem?_set_self hi] at e4
        cases e4
        rcases hn j ys e1 with z | z
        · exact absurd e3 z
        · exact z
      · rw [List.getElem?_set_ne hk] at e2 e4
        exact r.en.sep j k ys zs q e1 e2 e3 e4
  · by_cases hj : i = j
    · subst hj
      have hi : i < σ.length := by
        by_cases hi : i < σ.length
        · exact hi
        · rw [List.getElem?_eq_none (by simpa using hi)] at e2; cases e2
      rw [List.getElem?_set_self hi] at e2
      cases e2
      exact h0
    · rw [List.getElem?_set_ne hj] at e1 e2
      exact r.fr j ys q e1 e2
theorem SRel.own {σ : L2.St} {H F : Hp} {ρ : En} {p : Pen} (r : SRel W H0 F0 σ H ρ F p) {i : Nat} {xs : List D} (e : ρ[i]? = some (.own xs)) : ∃ q vs, σ[i]? = some (some (.ref q)) ∧ H0 q = none ∧ F q = none ∧ H q = some (.lst vs) ∧ RdA W F vs xs := by
  obtain ⟨q, vs, h1, h2, h3, h4⟩ := slot_own r.en e
  exact ⟨q, vs, h1, r.fr i xs q e h1, h2, h3, h4⟩
/-- an own list is frozen -/
theorem SRel.freeze {σ : L2.St} {H F : Hp} {ρ : En} {p : Pen} (r : SRel W H0 F0 σ H ρ F p) {i : Nat} {xs : List D} (e : ρ[i]? = some (.own xs)) : ∃ F1, Le F F1 ∧ SRel W H0 F0 σ H (ρ.set i (.shr (.lst xs))) F1 p := by
  obtain ⟨q, vs, h1, h2, h3, h4, h5⟩ := r.own e
  have s1 := DL.freeze r.st h2 h3 h4
  have le : Le F (upd F q (.lst vs)) := fun b o eb => by rw [upd_ne (ne_of_none eb h3)]; exact eb
  refine ⟨upd F q (.lst vs), le, s1, ⟨by rw [r.en.len]; simp, fun j s ej => ?_, fun j k ys zs q' e1 e2 e3 e4 => ?_⟩, fun j ys q' e1 e2 => ?_⟩
  · by_cases hj : i = j
    · subst hj
      have hi : i < ρ.length := by
        obtain ⟨hi, _⟩ := List.getElem?_eq_some_iff.mp e; exact hi
      rw [List.getElem?_set_self hi] at ej
      cases ej
      exact ⟨_, h1, _, rfl, .lst upd_same (h5.mono le)⟩
    · rw [List.getElem?_set_ne hj] at ej
      obtain ⟨o, g1, g2⟩ := r.en.sl j s ej
      refine ⟨o, g1, ?_⟩
      cases s with
      | un => trivial
      | me => exact g2
      | shr d => obtain ⟨v, g3, g4⟩ := g2; exact ⟨v, g3, g4.mono le⟩
      | own ys =>
        obtain ⟨q2, us, g3, g4, g5, g6⟩ := g2
        have hne : q2 ≠ q := fun z => hj (r.en.sep i j xs ys q e ej h1 (by rw [g1, g3, z]))
        exact ⟨q2, us, g3, by rw [upd_ne hne]; exact g4, g5, g6.mono le⟩
  · have n : ∀ (k : Nat) (zs : List D), (ρ.set i (.shr (.lst xs)))[k]? = some (.own zs) → ρ[k]? = some (.own zs) := fun k zs ek => by
      by_cases hk : i = k
      · subst hk
        by_cases hi : i < ρ.length
        · rw [List.getElem?_set_self hi] at ek; cases ek
        · rw [List.getElem?_eq_none (by simpa using hi)] at ek; cases ek
      · rwa [List.getElem?_set_ne hk] at ek
    exact r.en.sep j k ys zs q' (n j ys e1) (n k zs e2) e3 e4
  · have n : ρ[j]? = some (.own ys) := by
      by_cases hk : i = j
      · subst hk
        by_cases hi : i < ρ.length
        · rw [List.getElem?_set_self hi] at e1; cases e1
        · rw [List.getElem?_eq_none (by simpa using hi)] at e1; cases e1
      · rwa [List.getElem?_set_ne hk] at e1
    exact r.fr j ys q' n e2
/-- an own list's items changed -/
theorem SRel.put {σ : L2.St} {H F : Hp} {ρ : En} {p : Pen} (r : SRel W H0 F0 σ H ρ F p) {i : Nat} {xs ys : List D} {q : Addr} {vs us : List V} (e : ρ[i]? = some (.own xs)) (h1 : σ[i]? = some (some (.ref q))) (h4 : H q = some (.lst vs)) (ra : RdA W F us ys) :
    SRel W H0 F0 σ (upd H q (.lst us)) (ρ.set i (.own ys)) F p := by
  obtain ⟨q', vs', g1, h2, h3, _, _⟩ := r.own e
  rw [h1] at g1; cases g1
  have hi : i < ρ.length := by obtain ⟨hi, _⟩ := List.getElem?_eq_some_iff.mp e; exact hi
  have n : ∀ (k : Nat) (zs : List D), (ρ.set i (.own ys))[k]? = some (.own zs) → ∃ zs' : List D, ρ[k]? = some (.own zs') := fun k zs ek => by
    by_cases hk : i = k
    · subst hk; exact ⟨xs, e⟩
    · rw [List.getElem?_set_ne hk] at ek; exact ⟨zs, ek⟩
  refine ⟨r.st.put h2 h3 h4, ⟨by rw [r.en.len]; simp, fun j s ej => ?_, fun j k zs ws q' e1 e2 e3 e4 => ?_⟩, fun j zs q' e1 e2 => ?_⟩
  · by_cases hj : i = j
    · subst hj
      rw [List.getElem?_set_self hi] at ej
      cases ej
      exact ⟨_, h1, q, us, rfl, h3, upd_same, ra⟩
    · rw [List.getElem?_set_ne hj] at ej
      obtain ⟨o, g1, g2⟩ := r.en.sl j s ej
      refine ⟨o, g1, ?_⟩
      cases s with
      | un => trivial
      | me => exact g2
      | shr d => exact g2
      | own ts =>
        obtain ⟨q2, us2, g3, g4, g5, g6⟩ := g2
        have hne : q2 ≠ q := fun z => hj (r.en.sep i j xs ts q e ej h1 (by rw [g1, g3, z]))
        exact ⟨q2, us2, g3, g4, by rw [upd_ne hne]; exact g5, g6⟩
  · obtain ⟨z1, f1⟩ := n j zs e1
    obtain ⟨z2, f2⟩ := n k ws e2
    exact r.en.sep j k z1 z2 q' f1 f2 e3 e4
  · obtain ⟨z1, f1⟩ := n j zs e1
    exact r.fr j z1 q' f1 e2
end
end DL
set_option maxHeartbeats 4000000
namespace DL
open PySem PySem.Spec PyProof.Rows L2

/-! ### statements: soundness, form by form -/
/-- an exception made, its fields' values -/
def tX (W : Wd) (Wx : WX) (c : Nat) (ms : En → M (List D)) : L2.St → Hp → XK → Prop := fun σ H Q => ∃ ρ F p, Ctx W H F p ∧ EnvOk W H F σ ρ ∧ match ms ρ p with
  | .ok ds p' => ∀ cls dd H' F', Step W H F H' F' p' → ExcAt W H' F' ⟨c, ds⟩ cls dd → Q cls dd H'
  | .err e p' => ∀ cls dd H' F', Step W H F H' F' p' → ExcAt W H' F' e cls dd → Wx cls dd σ H'
  | .bad => False
def MkOk (X : Cx) (W : Wd) (c : Nat) (x : Str) : Prop := ∀ (Wx : WX) (e : Expr) (es : List Expr) (p pos : Pos) (ms : En → M (List D)), Takes X Wx → Gl X x → (x == ("__debug__" : Str)) = false → noStars (e :: es) = true → PA X (e :: es) (tAs W Wx ms) →
  (e :: es).length = (efl c).length → (∀ ρ p xs p', ms ρ p = .ok xs p' → xs.length = (e :: es).length) → PMk X (.Call (.Name x p) (e :: es) [] pos) (tX W Wx c ms)
structure SOk (X : Cx) (W : Wd) (S : Sc) (T : Tb) (L : Nat) (sc : Scope) (fnb : Str → Bool) : Prop where
  ok : XOk X W S T L sc fnb
  kd : sc.kind = .function
  po : PassesOwn (model X.prog X.w) X.A X.env X.xe
  mkx : ∀ c x, S.exn c = some x → MkOk X W c x
def SS (W : Wd) (S : Sc) (T : Tb) (L : Nat) (a : IS) : Prop := ∀ (X : Cx) (Wx : WX) (sc : Scope) (fnb : Str → Bool) (s : Stmt), SOk X W S T L sc fnb → Takes X Wx → chkS S sc fnb a s = true → PS X s (tS W Wx (dS T a))
def SSs (W : Wd) (S : Sc) (T : Tb) (L : Nat) (a : ISs) : Prop := ∀ (X : Cx) (Wx : WX) (sc : Scope) (fnb : Str → Bool) (s : List Stmt), SOk X W S T L sc fnb → Takes X Wx → chkSs S sc fnb a s = true → PSs X s (tS W Wx (dSs T a))
section
variable {X : Cx} {W : Wd} {Wx : WX} {T : Tb} {S : Sc} {L : Nat} {sc : Scope} {fnb : Str → Bool}
theorem ps_w {s : Stmt} {t t' : TS} (h : PS X s t) (k : ∀ D σ H, t' D σ H → t D σ H) : PS X s t' := ⟨fun pins s σ H D I z => h.run pins s σ H D I (k _ _ _ z)⟩
theorem pss_w {s : List Stmt} {t t' : TS} (h : PSs X s t) (k : ∀ D σ H, t' D σ H → t D σ H) : PSs X s t' := ⟨fun pins s σ H D I z => h.run pins s σ H D I (k _ _ _ z)⟩
theorem loc_of (ok : XOk X W S T L sc fnb) {i : Nat} {x : Str} (h : slotOk S sc fnb i x = true) : X.N[i]? = some x ∧ Loc X.env.scope x ∧ (X.fn x = true ∨ X.env.scope.names.lookup x = some .local) := by
  obtain ⟨h1, h2⟩ := Bool.and_eq_true_iff.mp (show (decide (S.N[i]? = some x) && locOk sc fnb x) = true from h)
  refine ⟨by rw [ok.hN]; exact of_decide_eq_true h1, ?_⟩
  have hs := ok.scp
  subst hs
  unfold locOk at h2
  split at h2
  · rename_i e; exact ⟨.inl e, .inr e⟩
  · rename_i e; exact ⟨.inr e, .inl (ok.fnb x h2)⟩
  · cases h2
theorem sw_no {v : Expr} {t : Option Expr} {line : Nat} {env : Env} (h : notLC v = true) : swapsWith v t line env = pure false := by
  cases v <;> first | rfl | cases h
theorem ss_asg {i : Nat} {e : IE} : SS W S T L (.asg i e) := fun X Wx sc fnb s so tk h => by
  cases s <;> try (cases h; done)
  rename_i ts v pp
  rcases ts with _ | ⟨t, _ | ⟨_, _⟩⟩
  · cases h
  · cases t <;> try (cases h; done)
    rename_i x px
    have h' : (slotOk S sc fnb i x && chkE S sc e v && notLC v) = true := h
    simp only [Bool.and_eq_true] at h'
    obtain ⟨⟨h1, h2⟩, h3⟩ := h'
    obtain ⟨a1, a2, a3⟩ := loc_of so.ok h1
    refine ps_w (ps_set (so.ok.hN ▸ so.ok.nd) a1 a2 (sE e X Wx sc fnb v so.ok tk h2).pd (sw_no h3) a3) fun D σ H z => ?_
    obtain ⟨H0, F0, ρ, F, p, r, g⟩ := z
    exact ⟨ρ, F, p, r.st.ctx, r.en, good_of (k := fun d p1 => .ok .nx (ρ.set i (.shr d)) p1) r g fun d p1 v H1 F1 r1 l1 rv g1 => SGood.nx g1 (r1.set i rv)⟩
  · cases t <;> cases h
/-- a new own list's slot -/
theorem own_new {H0 F0 : Hp} {σ : L2.St} {H F H1 F1 : Hp} {ρ : En} {p p1 : Pen} (r : SRel W H0 F0 σ H ρ F p) (r1 : SRel W H0 F0 σ H1 ρ F1 p1) {a : Addr} {vs : List V} {xs : List D} (hn : H a = none) (hf : F1 a = none) (hh : H1 a = some (.lst vs)) (ra : RdA W F1 vs xs) (i : Nat) :
    SRel W H0 F0 (σ.set i (some (.ref a))) H1 (ρ.set i (.own xs)) F1 p1 := by
  have h0 : H0 a = none := by
    cases q : H0 a with
    | none => rfl
    | some u =>
      have hp : a ≠ W.pa := fun z => by
        obtain ⟨ca, e⟩ := r1.st.ctx.pa
        rw [z, e] at hh; cases hh
      obtain ⟨u', e2⟩ := r.st.there hp q
      rw [e2] at hn; cases hn
  refine r1.setOwn i h0 hf hh ra fun j ys e => .inl fun z => ?_
  obtain ⟨q, us, g1, _, _, g4, _⟩ := r.own e
  rw [g1] at z; cases z
  rw [hn] at g4; cases g4
theorem ss_asgL {i : Nat} {l : IL} : SS W S T L (.asgL i l) := fun X Wx sc fnb s so tk h => by
  cases s <;> try (cases h; done)
  rename_i ts v pp
  rcases ts with _ | ⟨t, _ | ⟨_, _⟩⟩
  · cases h
  · cases t <;> try (cases h; done)
    rename_i x px
    have h' : (slotOk S sc fnb i x && chkL S sc l v && lcOrNot v) = true := h
    simp only [Bool.and_eq_true] at h'
    obtain ⟨⟨h1, h2⟩, h3⟩ := h'
    obtain ⟨a1, a2, a3⟩ := loc_of so.ok h1
    have ok := so.ok
    have imp : ∀ D σ H, tS W Wx (dS T (.asgL i l)) D σ H → tF W Wx (dL T l) σ H fun v H1 => gName i v σ H1 D.nx := fun D σ H z => by
      obtain ⟨H0, F0, ρ, F, p, r, g⟩ := z
      exact ⟨ρ, F, p, r.st.ctx, r.en, goodF_of (k := fun xs p1 => .ok .nx (ρ.set i (.own xs)) p1) r g fun xs p1 a vs H1 F1 r1 l1 hn hf hh ra g1 => SGood.nx g1 (own_new r r1 hn hf hh ra i)⟩
    by_cases hlc : notLC v = true
    · exact ps_w (ps_set (ok.hN ▸ ok.nd) a1 a2 (sL l X Wx sc fnb v ok tk h2) (sw_no hlc) a3) fun D σ H z => imp D σ H z
    · cases v <;> try (exact absurd rfl hlc)
      · rename_i elt gens scope p2
        have hsw : swapsWith (.ListComp elt gens scope p2) (some (.Name x px)) pp.line X.env = pure (X.env.blockKind == .function && X.env.kindOf x == some .local && px.line == p2.line && !(scope.names.any fun (n, k) => n == x && (k == .local || k == .cell))) := rfl
        generalize hb : (X.env.blockKind == .function && X.env.kindOf x == some .local && px.line == p2.line && !(scope.names.any fun (n, k) => n == x && (k == .local || k == .cell))) = b at hsw
        cases b with
        | false => exact ps_w (ps_set (ok.hN ▸ ok.nd) a1 a2 (sL l X Wx sc fnb _ ok tk h2) hsw a3) fun D σ H z => imp D σ H z
        | true =>
          simp only [Bool.and_eq_true] at hb
          have hloc : X.env.scope.names.lookup x = some .local := by
            have := hb.1.1.2
            exact beq_iff_eq.mp this
          cases l <;> try (cases h2; done)
          rename_i tg it t e
          rcases gens with _ | ⟨⟨tgt, iter, ifs, n⟩, _ | ⟨_, _⟩⟩
          · cases h2
          · have h' : (n == 0 && chkI S sc it tgt iter && chkTg S (relS scope sc) (fnbOf scope) tg tgt && blkC S.N sc scope (ownOf S tg) && notSet iter && chkTs S.blk (relS scope sc) t ifs && chkE S.blk (relS scope sc) e elt) = true := h2
            simp only [Bool.and_eq_true] at h'
            obtain ⟨⟨⟨⟨⟨⟨g1, g2⟩, g3⟩, g4⟩, g5⟩, g6⟩, g7⟩ := h'
            have g1 : n = 0 := by simpa using g1
            subst g1
            have hN := ok.hN
            have hs := ok.scp
            refine ps_w (ps_setLc (g := gOf X.K tg) ok.calm (hN ▸ ok.nd) a1 hloc hsw (sI it X Wx sc fnb tgt iter true ok tk g2) (by rw [hN, hs]; exact blkOk_by g4)
              (fun s H C cl fp => let k := xok_blk (s := s) (H := H) (scope := scope) (C := C) (cl := cl) (fp := fp) ok; pg_of (S := S) k.calm k.hN k.nd k.scp k.fnb tg tgt g3)
              (fun s H C cl fp => sTs t _ WF _ _ _ (xok_blk ok) takes_no g6) (fun s H C cl fp => (sE e _ WF _ _ _ (xok_blk ok) takes_no g7).pd)
              (fun x => by cases iter <;> first | rfl | cases g5)) fun D σ H z => ?_
            exact comp_imp ok.hK (S := S) (imp D σ H z)
          · cases h2
      · cases h3
      · cases h3
  · cases t <;> cases h
end
mutual
theorem bindT_own {i : Nat} {xs : List D} : ∀ (t : Tg) {d : D} {ρ ρ1 : En}, bindT t d ρ = some ρ1 → ρ1[i]? = some (.own xs) → ρ[i]? = some (.own xs) ∧ i ∉ t.slots
  | .n j, d, ρ, ρ1, h, e => by
    cases (show some (ρ.set j (.shr d)) = some ρ1 from h)
    have hj : j ≠ i := fun z => by
      subst z
      by_cases hl : j < ρ.length
      · rw [List.getElem?_set_self hl] at e; cases e
      · rw [List.getElem?_eq_none (by simpa using hl)] at e; cases e
    rw [List.getElem?_set_ne hj] at e
    exact ⟨e, fun z => hj (List.mem_singleton.mp z).symm⟩
  | .t ts, d, ρ, ρ1, h, e => by
    cases d <;> try (cases (show none = some ρ1 from h); done)
    exact bindTs_own ts h e
theorem bindTs_own {i : Nat} {xs : List D} : ∀ (ts : List Tg) {ds : List D} {ρ ρ1 : En}, bindTs ts ds ρ = some ρ1 → ρ1[i]? = some (.own xs) → ρ[i]? = some (.own xs) ∧ i ∉ Tg.slotss ts
  | [], [], ρ, ρ1, h, e => by cases (show some ρ = some ρ1 from h); exact ⟨e, fun z => nomatch z⟩
  | [], _ :: _, ρ, ρ1, h, e => by cases (show none = some ρ1 from h)
  | _ :: _, [], ρ, ρ1, h, e => by cases (show none = some ρ1 from h)
  | t :: ts, d :: ds, ρ, ρ1, h, e => by
    obtain ⟨ρ2, h1, h2⟩ := bind_some (show (bindT t d ρ).bind (fun ρ1 => bindTs ts ds ρ1) = some ρ1 from h)
    obtain ⟨e2, n2⟩ := bindTs_own ts h2 e
    obtain ⟨e1, n1⟩ := bindT_own t h1 e2
    exact ⟨e1, fun z => (List.mem_append.mp z).elim n1 n2⟩
end
section
variable {X : Cx} {W : Wd} {Wx : WX} {T : Tb} {S : Sc} {L : Nat} {sc : Scope} {fnb : Str → Bool}
theorem SRel.bind {H0 F0 : Hp} {σ σ1 : L2.St} {H F : Hp} {ρ ρ1 : En} {p : Pen} (r : SRel W H0 F0 σ H ρ F p) {t : Tg} {d : D} (h : bindT t d ρ = some ρ1) (e : EnvOk W H F σ1 ρ1) (o : OffE t.slots σ σ1) : SRel W H0 F0 σ1 H ρ1 F p :=
  ⟨r.st, e, fun i xs q e1 e2 => by
    obtain ⟨f1, f2⟩ := bindT_own t h e1
    rw [o.2 i f2] at e2
    exact r.fr i xs q f1 e2⟩
theorem one_assign {t : Expr} {env : Env} (h : notStar t = true) : (assignEach [t] env).map (·.2) = [assign t env] := by rw [assign_each1 h]; rfl
theorem fm_lt {α β : Type} (f : α → Option β) {l : List α} {e : α} (he : e ∈ l) (hn : f e = none) : (l.filterMap f).length < l.length := by
  obtain ⟨a, b, rfl⟩ := List.append_of_mem he
  rw [List.filterMap_append, List.filterMap_cons, hn]
  have := List.length_filterMap_le f a
  have := List.length_filterMap_le f b
  simp only [List.length_append, List.length_cons]
  omega
theorem noswap_ok {t v : Expr} {env : Env} (hk : env.blockKind = .function) (h : noSwap env.scope t v = true) (ht : isTuple t = true) : swappedStores [t] v env = pure none := by
  cases t <;> first | (cases ht; done) | skip
  rename_i ts k p
  cases v <;> first | rfl | skip
  rename_i vs k2 p2
  have h' : (!(ts.length == 2 || ts.length == 3) || ts.any (fun
    | .Name x _ => !decide (env.scope.names.lookup x = some .local)
    | _ => true) || vs.all (foldedForSure 8)) = true := h
  unfold swappedStores
  show (if (!(ts.length == 2 || ts.length == 3) || vs.length != ts.length || env.blockKind != .function) = true then _ else _) = _
  by_cases h1 : (!(ts.length == 2 || ts.length == 3) || vs.length != ts.length || env.blockKind != .function) = true
  · rw [if_pos h1]
  rw [if_neg h1]
  split
  · rfl
  simp only [Bool.or_eq_true, not_or, Bool.not_eq_true] at h1
  simp only [Bool.or_eq_true] at h'
  rw [h1.1.1] at h'
  simp only [Bool.false_eq_true, false_or] at h'
  dsimp only
  rcases h' with h' | h'
  · refine if_pos ?_
    rw [Bool.or_eq_true]
    left
    rw [bne_iff_ne]
    obtain ⟨e, he1, he2⟩ := List.any_eq_true.mp h'
    refine Nat.ne_of_lt (fm_lt _ he1 ?_)
    cases e <;> first | rfl | skip
    rename_i x q
    have h3 : ¬ (env.kindOf x = some .local) := by
      have h4 : (!decide (env.scope.names.lookup x = some NameKind.local)) = true := he2
      rw [Bool.not_eq_true', decide_eq_false_iff_not] at h4
      exact h4
    have h5 : (env.kindOf x == some .local) = false := by rw [beq_eq_false_iff_ne]; exact h3
    show (if (env.kindOf x == some .local && _) = true then some x else none) = none
    rw [h5]; rfl
  · split
    · rfl
    · first | rfl | (rw [if_pos h'])
theorem ss_unp {tg : Tg} {e : IE} : SS W S T L (.unp tg e) := fun X Wx sc fnb s so tk h => by
  cases s <;> try (cases h; done)
  rename_i ts v pp
  rcases ts with _ | ⟨t, _ | ⟨_, _⟩⟩
  · cases h
  · have h' : (isTuple t && chkTg S sc fnb tg t && chkE S sc e v && notLC v && noSwap sc t v) = true := by cases t <;> exact h
    simp only [Bool.and_eq_true, Bool.not_eq_true'] at h'
    obtain ⟨⟨⟨⟨h1, h2⟩, h3⟩, h4⟩, h5⟩ := h'
    have ok := so.ok
    have hns : notStar t = true := by cases t <;> first | rfl | cases h1
    refine ps_w (ps_asg (sE e X Wx sc fnb v ok tk h3).pd (pg_of ok.calm ok.hN ok.nd ok.scp ok.fnb tg t h2) (sw_no h4) (noswap_ok (by unfold Env.blockKind; rw [ok.scp, so.kd]; rfl) (by rw [ok.scp]; exact h5) h1) (one_assign hns)) fun D σ H z => ?_
    obtain ⟨H0, F0, ρ, F, p, r, g⟩ := z
    refine ⟨ρ, F, p, r.st.ctx, r.en, good_of (k := fun d p1 => bindK (bindT tg d ρ) p1) r g fun d p1 v H1 F1 r1 l1 rv g1 => ?_⟩
    cases q : bindT tg d ρ with
    | none => rw [q] at g1; exact g1.elim
    | some ρ1 =>
      rw [q] at g1
      rw [← ok.hK]
      exact gOf_ok r1.st.ctx tg r1.en rv q fun σ1 e1 o1 => SGood.nx g1 (r1.bind q e1 o1)
  · cases t <;> cases h
end
end DL
set_option maxHeartbeats 4000000
namespace DL
open PySem PySem.Spec PyProof.Rows L2
section
variable {X : Cx} {W : Wd} {Wx : WX} {T : Tb} {S : Sc} {L : Nat} {sc : Scope} {fnb : Str → Bool}
theorem ss_ret {e : IE} : SS W S T L (.ret e) := fun X Wx sc fnb s so tk h => by
  cases s <;> try (cases h; done)
  rename_i v pp
  cases v with
  | none => cases h
  | some v =>
    refine ps_w (ps_ret (sE e X Wx sc fnb v so.ok tk h).pd) fun D σ H z => ?_
    obtain ⟨H0, F0, ρ, F, p, r, g⟩ := z
    exact ⟨ρ, F, p, r.st.ctx, r.en, good_of (k := fun d p1 => .ok (.rt d) ρ p1) r g fun d p1 v H1 F1 r1 l1 rv g1 => g1 v H1 F1 r1.st rv⟩
theorem ss_retN : SS W S T L .retN := fun X Wx sc fnb s so tk h => by
  cases s <;> try (cases h; done)
  rename_i v pp
  cases v with
  | some _ => cases h
  | none =>
    refine ps_w ps_retN fun D σ H z => ?_
    obtain ⟨H0, F0, ρ, F, p, r, g⟩ := z
    exact g .non H F r.st .non
theorem withO_of {H0 F0 F : Hp} {ρ : En} {i : Nat} {k : List D → OS} {D : Ends} (g : SGood W Wx H0 F0 F (withO (ownAt ρ i) k) D) : ∃ xs, ρ[i]? = some (.own xs) ∧ SGood W Wx H0 F0 F (k xs) D := by
  unfold ownAt at g
  cases q : ρ[i]? with
  | none => rw [q] at g; exact g.elim
  | some s => cases s with
    | un => rw [q] at g; exact g.elim
    | me => rw [q] at g; exact g.elim
    | shr _ => rw [q] at g; exact g.elim
    | own xs => rw [q] at g; exact ⟨xs, rfl, g⟩
theorem ss_retO {i : Nat} : SS W S T L (.retO i) := fun X Wx sc fnb s so tk h => by
  cases s <;> try (cases h; done)
  rename_i v pp
  cases v with
  | none => cases h
  | some v =>
    cases v <;> try (cases h; done)
    refine ps_w (ps_ret (nm_of so.ok h)) fun D σ H z => ?_
    obtain ⟨H0, F0, ρ, F, p, r, g⟩ := z
    obtain ⟨xs, e, g'⟩ := withO_of g
    obtain ⟨q, vs, h1, h2, h3, h4, h5⟩ := r.own e
    have s1 := DL.freeze r.st h2 h3 h4
    exact ⟨_, h1, g' (.ref q) H _ s1 (.lst upd_same (h5.mono fun b o eb => by rw [upd_ne (ne_of_none eb h3)]; exact eb))⟩
theorem ss_brk : SS W S T L .brk := fun X Wx sc fnb s so tk h => by
  cases s <;> try (cases h; done)
  refine ps_w ps_break fun D σ H z => ?_
  obtain ⟨H0, F0, ρ, F, p, r, g⟩ := z
  exact g σ H F r (Le.refl F)
theorem ss_cnt : SS W S T L .cnt := fun X Wx sc fnb s so tk h => by
  cases s <;> try (cases h; done)
  refine ps_w ps_continue fun D σ H z => ?_
  obtain ⟨H0, F0, ρ, F, p, r, g⟩ := z
  exact g σ H F r (Le.refl F)
theorem ss_pass : SS W S T L .pass := fun X Wx sc fnb s so tk h => by
  cases s <;> try (cases h; done)
  refine ps_w ps_pass fun D σ H z => ?_
  obtain ⟨H0, F0, ρ, F, p, r, g⟩ := z
  exact g σ H F r (Le.refl F)
theorem ss_raise {c : Nat} {as : IEs} : SS W S T L (.raise c as) := fun X Wx sc fnb s so tk h => by
  cases s <;> try (cases h; done)
  rename_i v w pp
  cases v with
  | none => cases w <;> cases h
  | some v =>
    cases v <;> try (cases w <;> cases h; done)
    rename_i fn es ks p2
    cases fn <;> try (cases w <;> cases h; done)
    rename_i x px
    cases w with
    | some _ => cases ks <;> cases h
    | none => cases ks with
      | cons _ _ => cases h
      | nil =>
        have h' : (decide (S.exn c = some x) && glOk sc x && chkEs S sc as es && !es.isEmpty && decide (es.length = (efl c).length)) = true := h
        simp only [Bool.and_eq_true, decide_eq_true_eq, Bool.not_eq_true'] at h'
        obtain ⟨⟨⟨⟨h1, h2⟩, h3⟩, h4⟩, h5⟩ := h'
        obtain ⟨hg, hd⟩ := gl_of so.ok h2
        cases es with
        | nil => cases h4
        | cons e es =>
          refine ps_w (ps_raise so.ok.calm tk (so.mkx c x h1 Wx e es px p2 _ tk hg hd (noStars_of h3) (sEs as X Wx sc fnb _ so.ok tk h3).pd h5 fun ρ p xs p' e => dMs_len h3 e)) fun D σ H z => ?_
          obtain ⟨H0, F0, ρ, F, p, r, g⟩ := z
          refine ⟨ρ, F, p, r.st.ctx, r.en, ?_⟩
          have g' : SGood W Wx H0 F0 F (ofE (dEs T as ρ p) fun ds p1 => .err ⟨c, ds⟩ p1) D := g
          cases q : dEs T as ρ p with
          | bad => rw [q] at g'; exact g'.elim
          | err e p1 => rw [q] at g'; exact fun cls dd H' F' s x => g' cls dd σ H' F' (r.st.trans s) x
          | ok ds p1 => rw [q] at g'; exact fun cls dd H' F' s x => g' cls dd σ H' F' (r.st.trans s) x
theorem pPar_inv {s : Stmt} {x y : Str} {px py : Pos} {a b : Expr} (h : pPar s = some (x, y, px, py, a, b)) : ∃ kt pt k2 p2 pp, s = .Assign [.Tuple [.Name x px, .Name y py] kt pt] (.Tuple [a, b] k2 p2) pp := by
  unfold pPar at h
  split at h
  · cases h; exact ⟨_, _, _, _, _, rfl⟩
  · cases h
theorem pStI_inv {s : Stmt} {x : Str} {jx v : Expr} (h : pStI s = some (x, jx, v)) : ∃ p1 p2 p3, s = .Assign [.Subscript (.Name x p1) jx p2] v p3 := by
  unfold pStI at h
  split at h
  · cases h; exact ⟨_, _, _, rfl⟩
  · cases h
theorem pApp_inv {s : Stmt} {x n : Str} {ap cp : Pos} {v : Expr} (h : pApp s = some (x, n, ap, v, cp)) : ∃ p1 p2, s = .Expr (.Call (.Attribute (.Name x p1) n ap) [v] [] cp) p2 := by
  unfold pApp at h
  split at h
  · cases h; exact ⟨_, _, rfl⟩
  · cases h
theorem ixN_lt {n : Nat} {i : Int} {m : Nat} (h : ixN n i = some m) : m < n := by
  unfold ixN at h
  split at h
  · split at h
    · cases h; omega
    · cases h
  · split at h
    · cases h; omega
    · cases h
theorem ss_stI {i : Nat} {j e : IE} : SS W S T L (.stI i j e) := fun X Wx sc fnb s so tk h => by
  cases hp : pStI s with
  | none =>
    have h' : (match pStI s with | some (x, jx, v) => nmOk S sc i x && chkE S sc e v && chkE S sc j jx && notSlice jx | none => false) = true := by cases s <;> exact h
    rw [hp] at h'; cases h'
  | some q =>
    obtain ⟨x, jx, v⟩ := q
    have h' : (match pStI s with | some (x, jx, v) => nmOk S sc i x && chkE S sc e v && chkE S sc j jx && notSlice jx | none => false) = true := by cases s <;> exact h
    rw [hp] at h'
    obtain ⟨p1, p2, p3, rfl⟩ := pStI_inv hp
    have h' : (nmOk S sc i x && chkE S sc e v && chkE S sc j jx && notSlice jx) = true := h'
    simp only [Bool.and_eq_true] at h'
    obtain ⟨⟨⟨h1, h2⟩, h3⟩, h4⟩ := h'
    have ok := so.ok
    refine ps_w (ps_asg (sE e X Wx sc fnb v ok tk h2).pd (pg_sub (nm_of ok h1) (sE j X Wx sc fnb jx ok tk h3).pd set_list (by cases jx <;> first | (cases h4; done) | (intros; rfl))) (by cases v <;> rfl) (by cases v <;> rfl) (by rfl)) fun D σ H z => ?_
    obtain ⟨H0, F0, ρ, F, p, r, g⟩ := z
    refine ⟨ρ, F, p, r.st.ctx, r.en, good_of (k := fun d p1 => withO (ownAt ρ i) fun xs => ofE (dE T j ρ p1) fun k p2 => bindK (putX ρ i xs k d) p2) r g fun d p1 v H1 F1 r1 l1 rv g1 => ?_⟩
    obtain ⟨xs, hi, g2⟩ := withO_of g1
    obtain ⟨q, vs, h1, h2, h3, h4, h5⟩ := r1.own hi
    refine ⟨_, h1, ρ, F1, p1, r1.st.ctx, r1.en, good_of (k := fun k p2 => bindK (putX ρ i xs k d) p2) r1 g2 fun k p2 w H2 F2 r2 l2 rw' g3 => ?_⟩
    obtain ⟨q', vs', k1, k2, k3, k4, k5⟩ := r2.own hi
    rw [h1] at k1
    cases k1
    cases e1 : intOf k with
    | none => unfold putX at g3; rw [e1] at g3; exact g3.elim
    | some m => cases e2 : ixN xs.length m with
      | none =>
        have g3' : SGood W Wx H0 F0 F2 (bindK ((intOf k).bind fun j => (ixN xs.length j).map fun m => ρ.set i (.own (xs.set m d))) p2) D := g3
        rw [e1] at g3'
        have g4 : SGood W Wx H0 F0 F2 (bindK ((ixN xs.length m).map fun m => ρ.set i (.own (xs.set m d))) p2) D := g3'
        rw [e2] at g4; exact g4.elim
      | some n =>
        have g3' : SGood W Wx H0 F0 F2 (bindK ((intOf k).bind fun j => (ixN xs.length j).map fun m => ρ.set i (.own (xs.set m d))) p2) D := g3
        rw [e1] at g3'
        have g4 : SGood W Wx H0 F0 F2 (bindK ((ixN xs.length m).map fun m => ρ.set i (.own (xs.set m d))) p2) D := g3'
        rw [e2] at g4
        refine ⟨q, vs', m, n, rfl, rd_int rw' e1, k4, by rw [k5.length]; exact e2, ?_⟩
        exact SGood.nx g4 (r2.put hi h1 k4 (k5.set (rv.mono l2) n))
theorem pput_pen {p p2 : Pen} {k : PK} {d : D} (e : pputD k d p = some p2) (ok : PenOk p) : ∃ i : Int, d = .int i ∧ PenOk p2 ∧ p2.cells = p.cells ∧ ∀ ca, putK (penKvs ca p) (.inr (pkey k)) (.int i) = penKvs ca p2 := by
  cases k <;> cases d <;> try (cases e; done)
  all_goals (rename_i j)
  · have e' : (if 0 ≤ j ∧ j ≤ (p.cells.length : Int) then some { p with at_ := j.toNat } else none) = some p2 := e
    split at e'
    · rename_i h
      cases e'
      refine ⟨j, rfl, ⟨ok.dg, ok.ct, ok.fo, ok.fo2, by show j.toNat ≤ p.cells.length; omega, ok.len⟩, rfl, fun ca => ?_⟩
      have : ((j.toNat : Nat) : Int) = j := by omega
      show putK (penKvs ca p) (.inr "at") (.int j) = penKvs ca { p with at_ := j.toNat }
      unfold penKvs
      rw [show (({ p with at_ := j.toNat } : Pen).at_ : Int) = j from this]
      rfl
    · cases e'
  · have e' : (if 0 ≤ j then some { p with digits := j } else none) = some p2 := e
    split at e'
    · rename_i h
      cases e'
      exact ⟨j, rfl, ⟨h, ok.ct, ok.fo, ok.fo2, ok.at_, ok.len⟩, rfl, fun ca => rfl⟩
    · cases e'
  · have e' : (if 0 ≤ j then some { p with count := j } else none) = some p2 := e
    split at e'
    · rename_i h
      cases e'
      exact ⟨j, rfl, ⟨ok.dg, h, ok.fo, ok.fo2, ok.at_, ok.len⟩, rfl, fun ca => rfl⟩
    · cases e'
  · have e' : (if 0 ≤ j ∧ j < 2147483648 then some { p with fold := j } else none) = some p2 := e
    split at e'
    · rename_i h
      cases e'
      exact ⟨j, rfl, ⟨ok.dg, ok.ct, h.1, h.2, ok.at_, ok.len⟩, rfl, fun ca => rfl⟩
    · cases e'
/-- the pen's dict written to -/
theorem Step.pen {H0 F0 H F : Hp} {p p2 : Pen} (s : Step W H0 F0 H F p) (ok : PenOk p2) (hc : p2.cells = p.cells) {ca : Addr} (hh : H W.pa = some (.dK (penKvs ca p))) (hca : F ca = some (.lst (p.cells.map V.int))) : Step W H0 F0 (upd H W.pa (.dK (penKvs ca p2))) F p2 := by
  have k : ∀ b u, (∀ vs, u ≠ .lst vs) → (∀ kvs, u ≠ .dK kvs) → H b = some u → upd H W.pa (.dK (penKvs ca p2)) b = some u := fun b u _ hd e => by
    rw [upd_ne (fun z => by rw [z, hh] at e; exact hd _ (Option.some.inj e).symm)]; exact e
  exact ⟨s.pk, fun b u hb ht e => by rw [upd_ne hb]; exact s.ext b u hb ht e, s.tb.trans (TbSt.of k), s.new, ⟨fun b u e => by rw [upd_ne (fun z => by rw [z, s.ctx.pen.no] at e; cases e)]; exact s.ctx.sub b u e, ⟨s.ctx.pen.no, ok, ca, upd_same, by rw [hc]; exact hca⟩, s.ctx.b0, s.ctx.nt, tabs_of k s.ctx.tbs⟩⟩
theorem ss_pset {i : Nat} {k : PK} {e : IE} : SS W S T L (.pset i k e) := fun X Wx sc fnb s so tk h => by
  cases hp : pStI s with
  | none =>
    have h' : (match pStI s with | some (x, .Constant (.str y) _ _, v) => nmOk S sc i x && decide (pkey k = y) && chkE S sc e v && notLC v | _ => false) = true := by cases s <;> exact h
    rw [hp] at h'; cases h'
  | some q =>
    obtain ⟨x, jx, v⟩ := q
    have h' : (match pStI s with | some (x, .Constant (.str y) _ _, v) => nmOk S sc i x && decide (pkey k = y) && chkE S sc e v && notLC v | _ => false) = true := by cases s <;> exact h
    rw [hp] at h'
    obtain ⟨p1, p2, p3, rfl⟩ := pStI_inv hp
    cases jx <;> try (cases h'; done)
    rename_i c kk pk
    cases c <;> try (cases h'; done)
    rename_i y
    have h' : (nmOk S sc i x && decide (pkey k = y) && chkE S sc e v && notLC v) = true := h'
    simp only [Bool.and_eq_true] at h'
    obtain ⟨⟨⟨h1, h2⟩, h3⟩, h4⟩ := h'
    cases of_decide_eq_true h2
    have ok := so.ok
    refine ps_w (ps_dput (by have := hu_of ok; omega) (nm_of ok h1) pe_str (sE e X Wx sc fnb v ok tk h3).pd (by cases v <;> first | rfl | cases h4)) fun D σ H z => ?_
    obtain ⟨H0, F0, ρ, F, p, r, g⟩ := z
    refine ⟨ρ, F, p, r.st.ctx, r.en, good_of (k := fun d p1 => if isPen ρ[i]? = true then (match pputD k d p1 with | some p2 => .ok .nx ρ p2 | none => .bad) else .bad) r g fun d p1 v H1 F1 r1 l1 rv g1 => ?_⟩
    by_cases hp : isPen ρ[i]? = true
    · rw [if_pos hp] at g1
      refine ⟨_, isPen_of r1.en hp, ?_⟩
      cases eq : pputD k d p1 with
      | none => rw [eq] at g1; exact g1.elim
      | some p2 =>
        rw [eq] at g1
        obtain ⟨j, rfl, ok2, hc2, hput⟩ := pput_pen eq r1.st.ctx.pen.ok
        cases rv
        obtain ⟨ca, q1, q2⟩ := r1.st.ctx.pen.ob
        refine ⟨W.pa, _, rfl, DPut.k (k := Sum.inr (pkey k)) q1 (by show 5 < sizeLine; decide), ?_⟩
        rw [hput ca]
        have st := Step.pen r1.st ok2 hc2 q1 q2
        have loc := Step.pen (Step.refl r1.st.ctx) ok2 hc2 q1 q2
        exact SGood.nx g1 ⟨st, r1.en.step r1.st.ctx loc, r1.fr⟩
    · rw [if_neg hp] at g1; exact g1.elim
theorem ss_app {i : Nat} {e : IE} : SS W S T L (.app i e) := fun X Wx sc fnb s so tk h => by
  have h' : (match pApp s with | some (x, n, ap, v, cp) => nmOk S sc i x && n == "append" && chkE S sc e v && notStar v && ap.endLine == cp.line | none => false) = true := by cases s <;> exact h
  cases hp : pApp s with
  | none => rw [hp] at h'; cases h'
  | some q =>
    obtain ⟨x, n, ap, v, cp⟩ := q
    rw [hp] at h'
    obtain ⟨p1, p2, rfl⟩ := pApp_inv hp
    have h' : (nmOk S sc i x && n == "append" && chkE S sc e v && notStar v && ap.endLine == cp.line) = true := h'
    simp only [Bool.and_eq_true] at h'
    obtain ⟨⟨⟨⟨h1, h2⟩, h3⟩, h4⟩, h5⟩ := h'
    have h2 := beq_iff_eq.mp h2
    subst h2
    have ok := so.ok
    refine ps_w (ps_expr (pe_bm PySem.F.plainAttrs_list PySem.F.slot_list_append PySem.F.type_list_append mt_append (nm_of ok h1) (pa_cons (sE e X Wx sc fnb v ok tk h3).pd pa_nil (star_cons h4)) (by rfl) (by rw [star_cons h4]; rfl) h5 (star_cons h4) (star_any (es := []) rfl)) (by rfl)) fun D σ H z => ?_
    obtain ⟨H0, F0, ρ, F, p, r, g⟩ := z
    obtain ⟨xs, hi, g2⟩ := withO_of (k := fun xs => ofE (dE T e ρ p) fun d p1 => bindK (appX ρ i xs d) p1) g
    obtain ⟨q, vs, h1, h2, h3, h4, h5⟩ := r.own hi
    refine ⟨_, h1, .inl ⟨rfl, vs, SqL.of h4⟩, ρ, F, p, r.st.ctx, r.en, good_of (k := fun d p1 => bindK (appX ρ i xs d) p1) r g2 fun d p1 v H1 F1 r1 l1 rv g3 => ?_⟩
    obtain ⟨q', vs', k1, k2, k3, k4, k5⟩ := r1.own hi
    rw [h1] at k1
    cases k1
    have g4 : SGood W Wx H0 F0 F1 (bindK (if xs.length < line then some (ρ.set i (.own (xs ++ [d]))) else none) p1) D := g3
    split at g4
    · rename_i hl
      exact ⟨q, vs', v, rfl, rfl, k4, by rw [k5.length, ← line_eq]; exact hl, SGood.nx g4 (r1.put hi h1 k4 (k5.append (.cons rv .nil)))⟩
    · exact g4.elim
theorem ss_par {is : List Nat} {as : IEs} : SS W S T L (.par is as) := fun X Wx sc fnb s so tk h => by
  rcases is with _ | ⟨i, _ | ⟨j, _ | ⟨_, _⟩⟩⟩
  · cases s <;> cases h
  · cases s <;> cases h
  · have h' : (match pPar s with
      | some (x, y, px, py, a, b) => decide (S.N[i]? = some x) && decide (S.N[j]? = some y) && decide (i ≠ j) && decide (x ≠ y) && decide (sc.names.lookup x = some .local) && decide (sc.names.lookup y = some .local) &&
        chkEs S sc as [a, b] && px.line == py.line && !([a, b].all (foldedForSure 8)) && !([a, b].all (constantsAlone 8))
      | none => false) = true := by cases s <;> exact h
    cases hp : pPar s with
    | none => rw [hp] at h'; cases h'
    | some q =>
      obtain ⟨x, y, px, py, a, b⟩ := q
      rw [hp] at h'
      obtain ⟨kt, pt, k2, p2, pp, rfl⟩ := pPar_inv hp
      have h' : (decide (S.N[i]? = some x) && decide (S.N[j]? = some y) && decide (i ≠ j) && decide (x ≠ y) && decide (sc.names.lookup x = some .local) && decide (sc.names.lookup y = some .local) &&
        chkEs S sc as [a, b] && px.line == py.line && !([a, b].all (foldedForSure 8)) && !([a, b].all (constantsAlone 8))) = true := h'
      simp only [Bool.and_eq_true, decide_eq_true_eq, Bool.not_eq_true'] at h'
      obtain ⟨⟨⟨⟨⟨⟨⟨⟨⟨h1, h2⟩, h3⟩, h4⟩, h5⟩, h6⟩, h7⟩, h8⟩, h9⟩, h10⟩ := h'
      have ok := so.ok
      have hs := ok.scp
      have hw : swappedStores [.Tuple [.Name x px, .Name y py] kt pt] (.Tuple [a, b] k2 p2) X.env = pure (some [x, y]) := by
        have hk : X.env.blockKind = .function := by unfold Env.blockKind; rw [hs, so.kd]; rfl
        have kx : X.env.kindOf x = some .local := by show X.env.scope.names.lookup x = _; rw [hs]; exact h5
        have ky : X.env.kindOf y = some .local := by show X.env.scope.names.lookup y = _; rw [hs]; exact h6
        have hst := noStars_of h7
        have sa : notStar a = true := by simp only [noStars, Bool.and_eq_true] at hst; exact hst.1
        have sb : notStar b = true := by simp only [noStars, Bool.and_eq_true] at hst; exact hst.2.1
        have h8' : (py.line == px.line) = true := by rw [beq_iff_eq] at h8 ⊢; exact h8.symm
        have hxy : (y == x) = false := by rw [beq_eq_false_iff_ne]; exact Ne.symm h4
        have h8e : py.line = px.line := (beq_iff_eq.mp h8).symm
        have hdup : [x, y].eraseDups.length = 2 := by simp [List.eraseDups_cons, hxy]
        unfold swappedStores
        simp [hk, kx, ky, h8e, h9, h10, hxy, Expr.pos]
        rw [if_neg (by
          intro z
          rcases z with z | z
          · cases a <;> first | (cases sa; done) | (cases z; done)
          · cases b <;> first | (cases sb; done) | (cases z; done)), if_pos hdup]
      refine ps_w (ps_par ok.calm (ok.hN ▸ ok.nd) (by rw [ok.hN]; exact h1) (by rw [ok.hN]; exact h2) h3 (by rw [hs]; exact h5) (by rw [hs]; exact h6) (sEs as X Wx sc fnb _ ok tk h7).pd hw (by rfl)) fun D σ H z => ?_
      obtain ⟨H0, F0, ρ, F, p, r, g⟩ := z
      refine ⟨ρ, F, p, r.st.ctx, r.en, good_of (k := fun ds p1 => bindK (setAll [i, j] ds ρ) p1) r g fun ds p1 vs H1 F1 r1 l1 rv g1 => ?_⟩
      rcases ds with _ | ⟨d1, _ | ⟨d2, _ | ⟨_, _⟩⟩⟩
      · exact g1.elim
      · exact g1.elim
      · cases rv with
        | cons q1 rv => cases rv with
          | cons q2 rv => cases rv; exact ⟨_, _, rfl, SGood.nx g1 ((r1.set i q1).set j q2)⟩
      · exact g1.elim
  · cases s <;> cases h
/-! own lists among values stored at once -/
def tIx (W : Wd) (Wx : WX) (T : Tb) : IX → TE
  | .e a => tD W Wx (dE T a)
  | .l l => tF W Wx (dL T l)
theorem pe_X {x : IX} {e : Expr} (ok : XOk X W S T L sc fnb) (tk : Takes X Wx) (h : chkX S sc x e = true) : PE X e (tIx W Wx T x) := by
  cases x with
  | e a => exact (sE a X Wx sc fnb e ok tk (Bool.and_eq_true_iff.mp (show (chkE S sc a e && notStar e) = true from h)).1).pd
  | l l => exact sL l X Wx sc fnb e ok tk (Bool.and_eq_true_iff.mp (show (chkL S sc l e && notStar e) = true from h)).1
theorem star_X {x : IX} {e : Expr} (h : chkX S sc x e = true) : notStar e = true := by
  cases x with
  | e a => exact (Bool.and_eq_true_iff.mp (show (chkE S sc a e && notStar e) = true from h)).2
  | l l => exact (Bool.and_eq_true_iff.mp (show (chkL S sc l e && notStar e) = true from h)).2
def RX (W : Wd) (H H1 F1 : Hp) (v : V) : Slot → Prop
  | .un => False
  | .me => False
  | .shr d => DL.Rd W F1 v d
  | .own xs => ∃ a vs, v = .ref a ∧ H a = none ∧ F1 a = none ∧ H1 a = some (.lst vs) ∧ RdA W F1 vs xs
theorem tx_of {H0 F0 H F : Hp} {σ : L2.St} {ρ : En} {p : Pen} {D : Ends} {Q : VK} {k : Slot → Pen → OS} (x : IX) (r : SRel W H0 F0 σ H ρ F p) (g : SGood W Wx H0 F0 F (ofE (dX T ρ x p) k) D)
    (q : ∀ s p1 v H1 F1, SRel W H0 F0 σ H1 ρ F1 p1 → Step W H F H1 F1 p1 → RX W H H1 F1 v s → SGood W Wx H0 F0 F1 (k s p1) D → Q v H1) : tIx W Wx T x σ H Q := by
  cases x with
  | e a =>
    have g' : SGood W Wx H0 F0 F (ofE (dE T a ρ p) fun d p1 => k (.shr d) p1) D := by
      have e : ofE (dX T ρ (.e a) p) k = ofE (dE T a ρ p) fun d p1 => k (.shr d) p1 := by
        show ofE ((dE T a ρ p).bind fun d => M.pure (Slot.shr d)) k = _
        cases dE T a ρ p <;> rfl
      rw [← e]; exact g
    refine ⟨ρ, F, p, r.st.ctx, r.en, ?_⟩
    cases eo : dE T a ρ p with
    | bad => rw [eo] at g'; exact g'
    | err e p1 => rw [eo] at g'; exact fun cls dd H1 F1 s x => g' cls dd σ H1 F1 (r.st.trans s) x
    | ok d p1 => rw [eo] at g'; exact fun v H1 F1 s x => q (.shr d) p1 v H1 F1 (r.step s) s x (SGood.mono g' s.le)
  | l l =>
    have g' : SGood W Wx H0 F0 F (ofE (dL T l ρ p) fun d p1 => k (.own d) p1) D := by
      have e : ofE (dX T ρ (.l l) p) k = ofE (dL T l ρ p) fun d p1 => k (.own d) p1 := by
        show ofE ((dL T l ρ p).bind fun d => M.pure (Slot.own d)) k = _
        cases dL T l ρ p <;> rfl
      rw [← e]; exact g
    refine ⟨ρ, F, p, r.st.ctx, r.en, ?_⟩
    cases eo : dL T l ρ p with
    | bad => rw [eo] at g'; exact g'
    | err e p1 => rw [eo] at g'; exact fun cls dd H1 F1 s x => g' cls dd σ H1 F1 (r.st.trans s) x
    | ok d p1 => rw [eo] at g'; exact fun a vs H1 F1 s x1 x2 x3 x4 => q (.own d) p1 (.ref a) H1 F1 (r.step s) s ⟨a, vs, rfl, x1, x2, x3, x4⟩ (SGood.mono g' s.le)
theorem SRel.putOwn {H0 F0 H F : Hp} {σ : L2.St} {ρ : En} {p : Pen} (r : SRel W H0 F0 σ H ρ F p) (i : Nat) {a : Addr} {vs : List V} {xs : List D} (h0 : H0 a = none) (hf : F a = none) (hh : H a = some (.lst vs)) (ra : RdA W F vs xs)
    (hn : ∀ (j : Nat) (ys : List D) (q : Addr), ρ[j]? = some (.own ys) → σ[j]? = some (some (.ref q)) → q ≠ a) : SRel W H0 F0 (σ.set i (some (.ref a))) H (ρ.set i (.own xs)) F p :=
  r.setOwn i h0 hf hh ra fun j ys e => .inl fun z => hn j ys a e z rfl
/-- what stands in the new slots: told, or own and apart from all own ones -/
inductive PutX (W : Wd) (H0 H F : Hp) : List (Nat × V × Slot) → Prop
  | nil : PutX W H0 H F []
  | shr {i : Nat} {v : V} {d : D} {r : List (Nat × V × Slot)} : DL.Rd W F v d → PutX W H0 H F r → PutX W H0 H F ((i, v, .shr d) :: r)
  | own {i : Nat} {a : Addr} {vs : List V} {xs : List D} {r : List (Nat × V × Slot)} : H0 a = none → F a = none → H a = some (.lst vs) → RdA W F vs xs → (∀ e ∈ r, ∀ ys, e.2.2 = Slot.own ys → e.2.1 ≠ V.ref a) → PutX W H0 H F r → PutX W H0 H F ((i, .ref a, .own xs) :: r)
theorem put_all {H0 F0 H F : Hp} {p : Pen} : ∀ {es : List (Nat × V × Slot)} {σ : L2.St} {ρ : En}, SRel W H0 F0 σ H ρ F p → PutX W H0 H F es → (∀ e ∈ es, ∀ xs a, e.2.2 = Slot.own xs → e.2.1 = V.ref a → ∀ (j : Nat) (ys : List D) (q : Addr), ρ[j]? = some (.own ys) → σ[j]? = some (some (.ref q)) → q ≠ a) →
    SRel W H0 F0 (es.foldl (fun σ e => σ.set e.1 (some e.2.1)) σ) H (es.foldl (fun ρ e => ρ.set e.1 e.2.2) ρ) F p
  | [], _, _, r, _, _ => r
  | (i, v, .shr d) :: es, σ, ρ, r, h, hn => by
    cases h with
    | shr h1 h2 =>
      show SRel W H0 F0 (es.foldl (fun σ e => σ.set e.1 (some e.2.1)) (σ.set i (some v))) H (es.foldl (fun ρ e => ρ.set e.1 e.2.2) (ρ.set i (.shr d))) F p
      refine put_all (r.set i h1) h2 fun e he xs a e1 e2 j ys q h3 h4 => ?_
      have hj : i ≠ j := fun z => by
        subst z
        by_cases hl : i < ρ.length
        · rw [List.getElem?_set_self hl] at h3; cases h3
        · rw [List.getElem?_eq_none (by simpa using hl)] at h3; cases h3
      rw [List.getElem?_set_ne hj] at h3 h4
      exact hn e (List.mem_cons_of_mem _ he) xs a e1 e2 j ys q h3 h4
  | (i, v, .own xs) :: es, σ, ρ, r, h, hn => by
    cases h with
    | @own _ a vs _ _ h1 h2 h3 h4 h5 h6 =>
      show SRel W H0 F0 (es.foldl (fun σ e => σ.set e.1 (some e.2.1)) (σ.set i (some (.ref a)))) H (es.foldl (fun ρ e => ρ.set e.1 e.2.2) (ρ.set i (.own xs))) F p
      refine put_all (r.putOwn i h1 h2 h3 h4 (hn _ (List.mem_cons_self ..) xs a rfl rfl)) h6 fun e he ys b e1 e2 j zs q h7 h8 => ?_
      by_cases hj : i = j
      · subst hj
        by_cases hl : i < σ.length
        · rw [List.getElem?_set_self hl] at h8
          cases h8
          intro z
          subst z
          exact h5 e he ys e1 e2
        · rw [List.getElem?_eq_none (by simpa using hl)] at h8; cases h8
      · rw [List.getElem?_set_ne hj] at h7 h8
        exact hn e (List.mem_cons_of_mem _ he) ys b e1 e2 j zs q h7 h8
  | (i, v, .un) :: es, σ, ρ, r, h, hn => by cases h
theorem RX.le {H H1 F1 H2 F2 : Hp} {v : V} {s : Slot} {p1 p2 : Pen} (c : Ctx W H1 F1 p1) (st : Step W H1 F1 H2 F2 p2) (h : RX W H H1 F1 v s) : RX W H H2 F2 v s := by
  cases s with
  | un => exact h.elim
  | me => exact h.elim
  | shr d => exact DL.Rd.mono st.le h
  | own xs =>
    obtain ⟨a, vs, rfl, h1, h2, h3, h4⟩ := h
    have hp : a ≠ W.pa := fun z => by
      obtain ⟨ca, e⟩ := c.pa
      rw [z, e] at h3; cases h3
    exact ⟨a, vs, rfl, h1, st.new.fr a _ (Fx.lst vs) h2 h3, st.ext a _ hp (fun _ z => nomatch z) h3, h4.mono st.le⟩
theorem RX.le2 {H H1 F1 H2 F2 : Hp} {v : V} {s : Slot} {p1 p2 : Pen} (c : Ctx W H1 F1 p1) (st : Step W H1 F1 H2 F2 p2) (h : RX W H H1 F1 v s) : RX W H H2 F2 v s := h.le c st
theorem own_H0 {H0 F0 H F H1 F1 : Hp} {p p1 : Pen} (st : Step W H0 F0 H F p) (s1 : Step W H F H1 F1 p1) {a : Addr} {vs : List V} (hn : H a = none) (hh : H1 a = some (.lst vs)) : H0 a = none := by
  cases q : H0 a with
  | none => rfl
  | some u =>
    have hp : a ≠ W.pa := fun z => by
      obtain ⟨ca, e⟩ := s1.ctx.pa
      rw [z, e] at hh; cases hh
    obtain ⟨u', e2⟩ := st.there hp q
    rw [e2] at hn; cases hn
theorem RX.off {H0 F0 H F H1 F1 : Hp} {σ : L2.St} {ρ : En} {p : Pen} (r : SRel W H0 F0 σ H ρ F p) {v : V} {s : Slot} (h : RX W H H1 F1 v s) {xs : List D} {a : Addr} (e1 : s = Slot.own xs) (e2 : v = V.ref a) {j : Nat} {ys : List D} {q : Addr} (h1 : ρ[j]? = some (.own ys)) (h2 : σ[j]? = some (some (.ref q))) : q ≠ a := by
  subst e1 e2
  obtain ⟨b, vs, eb, hn, _⟩ := h
  cases eb
  obtain ⟨q', us, g1, _, _, g4, _⟩ := r.own h1
  rw [h2] at g1
  cases g1
  intro z
  subst z
  rw [hn] at g4; cases g4
/-- two new slots' words apart: the later one is newer -/
theorem RX.ne {H H1 F1 H2 F2 : Hp} {v w : V} {s t : Slot} {xs : List D} {a : Addr} (h : RX W H H1 F1 v s) (h2 : RX W H1 H2 F2 w t) (e1 : s = Slot.own xs) (e2 : v = V.ref a) {p1 p2 : Pen} (st : Step W H1 F1 H2 F2 p2) (c : Ctx W H1 F1 p1) : ∀ ys, t = Slot.own ys → w ≠ .ref a := by
  subst e1 e2
  obtain ⟨b, vs, eb, hn, _, hh, _⟩ := h
  cases eb
  intro ys et ew
  subst et ew
  obtain ⟨b2, us, eb2, hn2, _⟩ := h2
  cases eb2
  rw [hh] at hn2; cases hn2

theorem swap2 {x y : Str} {px py pt p2 : Pos} {kt k2 : Nat} {a b : Expr} {env : Env} (hk : env.blockKind = .function) (kx : env.kindOf x = some .local) (ky : env.kindOf y = some .local) (sa : notStar a = true) (sb : notStar b = true) (h4 : x ≠ y) (h8 : (px.line == py.line) = true)
    (h9 : ([a, b].all (foldedForSure 8)) = false) (h10 : ([a, b].all (constantsAlone 8)) = false) : swappedStores [.Tuple [.Name x px, .Name y py] kt pt] (.Tuple [a, b] k2 p2) env = pure (some [x, y]) := by
  have hxy : (y == x) = false := by rw [beq_eq_false_iff_ne]; exact Ne.symm h4
  have h8e : py.line = px.line := (beq_iff_eq.mp h8).symm
  have hdup : [x, y].eraseDups.length = 2 := by simp [List.eraseDups_cons, hxy]
  unfold swappedStores
  simp [hk, kx, ky, h8e, h9, h10, hxy, Expr.pos]
  rw [if_neg (by
    intro z
    rcases z with z | z
    · cases a <;> first | (cases sa; done) | (cases z; done)
    · cases b <;> first | (cases sb; done) | (cases z; done)), if_pos hdup]
theorem swap3 {x y z : Str} {px py pz pt p2 : Pos} {kt k2 : Nat} {a b c : Expr} {env : Env} (hk : env.blockKind = .function) (kx : env.kindOf x = some .local) (ky : env.kindOf y = some .local) (kz : env.kindOf z = some .local) (sa : notStar a = true) (sb : notStar b = true) (sc : notStar c = true) (h4 : x ≠ y) (h5 : x ≠ z) (h6 : y ≠ z)
    (h7 : (px.line == py.line) = true) (h8 : (px.line == pz.line) = true) (h9 : ([a, b, c].all (foldedForSure 8)) = false) (h10 : ([a, b, c].all (constantsAlone 8)) = false) : swappedStores [.Tuple [.Name x px, .Name y py, .Name z pz] kt pt] (.Tuple [a, b, c] k2 p2) env = pure (some [x, y, z]) := by
  have hxy : (y == x) = false := by rw [beq_eq_false_iff_ne]; exact Ne.symm h4
  have hxz : (z == x) = false := by rw [beq_eq_false_iff_ne]; exact Ne.symm h5
  have hyz : (z == y) = false := by rw [beq_eq_false_iff_ne]; exact Ne.symm h6
  have h7e : py.line = px.line := (beq_iff_eq.mp h7).symm
  have h8e : pz.line = px.line := (beq_iff_eq.mp h8).symm
  have hdup : [x, y, z].eraseDups.length = 3 := by simp [List.eraseDups_cons, hxy, hxz, hyz]
  unfold swappedStores
  simp [hk, kx, ky, kz, h7e, h8e, h9, h10, hxy, hxz, hyz, Expr.pos]
  rw [if_neg (by
    intro z
    rcases z with z | z | z
    · cases a <;> first | (cases sa; done) | (cases z; done)
    · cases b <;> first | (cases sb; done) | (cases z; done)
    · cases c <;> first | (cases sc; done) | (cases z; done)), if_pos hdup]
theorem pPar3_inv {s : Stmt} {x y z : Str} {px py pz : Pos} {a b c : Expr} (h : pPar3 s = some (x, y, z, px, py, pz, a, b, c)) : ∃ kt pt k2 p2 pp, s = .Assign [.Tuple [.Name x px, .Name y py, .Name z pz] kt pt] (.Tuple [a, b, c] k2 p2) pp := by
  unfold pPar3 at h
  split at h
  · cases h; exact ⟨_, _, _, _, _, rfl⟩
  · cases h
theorem ofE_bindX {x : IX} {xs : List IX} {ρ : En} {p : Pen} {k : List Slot → Pen → OS} : ofE (dXs T ρ (x :: xs) p) k = ofE (dX T ρ x p) fun s p1 => ofE (dXs T ρ xs p1) fun ss p2 => k (s :: ss) p2 := by
  show ofE ((dX T ρ x p).bind fun s => M.bind (dXs T ρ xs) fun ss => M.pure (s :: ss)) k = _
  cases dX T ρ x p with
  | bad => rfl
  | err e p1 => rfl
  | ok s p1 =>
    show ofE ((dXs T ρ xs p1).bind fun ss => M.pure (s :: ss)) k = ofE (dXs T ρ xs p1) fun ss p2 => k (s :: ss) p2
    cases dXs T ρ xs p1 <;> rfl
theorem RX.to_put {H0 F0 H F H1 F1 Hz Fz : Hp} {p p1 p2 : Pen} {v : V} {s : Slot} {i : Nat} {r : List (Nat × V × Slot)} (st0 : Step W H0 F0 H F p) (st1 : Step W H F H1 F1 p1) (st2 : Step W H1 F1 Hz Fz p2) (h : RX W H H1 F1 v s) (hr : PutX W H0 Hz Fz r) (hn : ∀ xs a, s = .own xs → v = .ref a → ∀ e ∈ r, ∀ ys, e.2.2 = Slot.own ys → e.2.1 ≠ V.ref a) : PutX W H0 Hz Fz ((i, v, s) :: r) := by
  have h2 := h.le st1.ctx st2
  cases s with
  | un => exact h.elim
  | me => exact h.elim
  | shr d => exact .shr h2 hr
  | own xs =>
    obtain ⟨a, vs, rfl, _, g2, g3, g4⟩ := h2
    obtain ⟨a', vs', ea, q1, _, q3, _⟩ := h
    cases ea
    exact .own (own_H0 st0 st1 q1 q3) g2 g3 g4 (hn xs a rfl rfl) hr
theorem RX.lay {H H1 F1 : Hp} {p : Pen} {v : V} {s : Slot} {T : Addr} {o : HO} (c : Ctx W H1 F1 p) (hT : H1 T = none) (h : RX W H H1 F1 v s) : RX W H (upd H1 T o) F1 v s := by
  cases s with
  | un => exact h
  | me => exact h
  | shr d => exact h
  | own xs =>
    obtain ⟨a, vs, rfl, h1, h2, h3, h4⟩ := h
    exact ⟨a, vs, rfl, h1, h2, by rw [upd_ne (fun z => by rw [z, hT] at h3; cases h3)]; exact h3, h4⟩
theorem ss_parU {is : List Nat} {xs : List IX} : SS W S T L (.parU is xs) := fun X Wx sc fnb s so tk h => by
  rcases is with _ | ⟨i, _ | ⟨j, _ | ⟨_, _⟩⟩⟩
  · cases s <;> cases h
  · cases s <;> cases h
  · rcases xs with _ | ⟨u, _ | ⟨v, _ | ⟨_, _⟩⟩⟩
    · cases s <;> cases h
    · cases s <;> cases h
    · have h' : (match pPar s with
        | some (x, y, px, py, a, b) => chkTg S sc fnb (.n i) (.Name x px) && chkTg S sc fnb (.n j) (.Name y py) && decide (i ≠ j) && chkX S sc u a && chkX S sc v b &&
          (!decide (sc.names.lookup x = some .local) || !decide (sc.names.lookup y = some .local) || [a, b].all (foldedForSure 8))
        | none => false) = true := by cases s <;> exact h
      cases hp : pPar s with
      | none => rw [hp] at h'; cases h'
      | some q =>
        obtain ⟨x, y, px, py, a, b⟩ := q
        rw [hp] at h'
        obtain ⟨kt, pt, k2, p2, pp, rfl⟩ := pPar_inv hp
        have h' : (chkTg S sc fnb (.n i) (.Name x px) && chkTg S sc fnb (.n j) (.Name y py) && decide (i ≠ j) && chkX S sc u a && chkX S sc v b &&
          (!decide (sc.names.lookup x = some .local) || !decide (sc.names.lookup y = some .local) || [a, b].all (foldedForSure 8))) = true := h'
        simp only [Bool.and_eq_true, decide_eq_true_eq] at h'
        obtain ⟨⟨⟨⟨⟨h1, h2⟩, h3⟩, h4⟩, h5⟩, h6⟩ := h'
        have ok := so.ok
        have hns : noSwap sc (.Tuple [.Name x px, .Name y py] kt pt) (.Tuple [a, b] k2 p2) = true := by
          show (!(([Expr.Name x px, Expr.Name y py].length == 2) || ([Expr.Name x px, Expr.Name y py].length == 3)) || [Expr.Name x px, Expr.Name y py].any (fun
            | .Name x _ => !decide (sc.names.lookup x = some .local)
            | _ => true) || [a, b].all (foldedForSure 8)) = true
          simp only [Bool.or_eq_true] at h6 ⊢
          rcases h6 with (h6 | h6) | h6
          · exact .inl (.inr (by simp only [List.any_cons, h6, Bool.true_or]))
          · exact .inl (.inr (by simp only [List.any_cons, h6, Bool.true_or, Bool.or_true]))
          · exact .inr h6
        have htg : chkTg S sc fnb (.t [.n i, .n j]) (.Tuple [.Name x px, .Name y py] kt pt) = true := by
          show ((notStar (.Name x px) && chkTg S sc fnb (.n i) (.Name x px)) && ((notStar (.Name y py) && chkTg S sc fnb (.n j) (.Name y py)) && true)) = true
          rw [h1, h2]; rfl
        refine ps_w (ps_asg (pe_tup (pa_cons (pe_X ok tk h4) (pa_cons (pe_X ok tk h5) pa_nil (star_cons (star_X h5))) (star_cons (star_X h4)))) (pg_of ok.calm ok.hN ok.nd ok.scp ok.fnb _ _ htg) (by rfl) (noswap_ok (by unfold Env.blockKind; rw [ok.scp, so.kd]; rfl) (by rw [ok.scp]; exact hns) rfl) (one_assign rfl)) fun D σ H z => ?_
        obtain ⟨H0, F0, ρ, F, p, r, g⟩ := z
        have g1 : SGood W Wx H0 F0 F (ofE (dXs T ρ [u, v] p) fun ss p1 => bindK (setAllS [i, j] ss ρ) p1) D := g
        rw [ofE_bindX] at g1
        refine tx_of u r g1 fun s1 p1 v1 H1 F1 r1 st1 x1 g2 => ?_
        rw [ofE_bindX] at g2
        refine tx_of v r1 g2 fun s2 p2 v2 H2 F2 r2 st2 x2 g3 => ?_
        have g4 : SGood W Wx H0 F0 F2 (.ok .nx ((ρ.set i s1).set j s2) p2) D := g3
        refine ⟨by show 2 ≤ sizeLine; decide, fun T' hT => ?_⟩
        have lay := Step.lay0 st2.ctx (.tup [v1, v2]) hT
        refine ⟨T', [v1, v2], rfl, SqT.of upd_same, rfl, v1, [v2], rfl, v2, [], rfl, rfl, SGood.nx g4 ?_⟩
        have st2' := st2.trans lay
        have x2' := x2.lay st2.ctx hT (o := .tup [v1, v2])
        have r2' := r2.step lay
        have pt : PutX W H0 (upd H2 T' (.tup [v1, v2])) F2 [(i, v1, s1), (j, v2, s2)] := by
          refine RX.to_put r.st st1 st2' x1 (RX.to_put r1.st st2' (Step.refl st2'.ctx) x2' .nil fun _ _ _ _ e he => nomatch he) fun xs a e1 e2 e he ys e3 => ?_
          rcases List.mem_cons.mp he with rfl | he
          · exact x1.ne x2 e1 e2 st2 st1.ctx ys e3
          · cases he
        refine put_all r2' pt fun e he xs a e1 e2 jj ys q h1 h2 => ?_
        rcases List.mem_cons.mp he with rfl | he
        · exact x1.off r e1 e2 h1 h2
        · rcases List.mem_cons.mp he with rfl | he
          · exact x2.off r1 e1 e2 h1 h2
          · cases he
    · cases s <;> cases h
  · cases s <;> cases h
theorem ss_parX {is : List Nat} {xs : List IX} : SS W S T L (.parX is xs) := fun X Wx sc fnb s so tk h => by
  rcases is with _ | ⟨i, _ | ⟨j, _ | ⟨l, _ | ⟨_, _⟩⟩⟩⟩
  · cases s <;> cases h
  · cases s <;> cases h
  · rcases xs with _ | ⟨u, _ | ⟨v, _ | ⟨_, _⟩⟩⟩
    · cases s <;> cases h
    · cases s <;> cases h
    · have h' : (match pPar s with
        | some (x, y, px, py, a, b) => decide (S.N[i]? = some x) && decide (S.N[j]? = some y) && decide (i ≠ j) && decide (x ≠ y) && decide (sc.names.lookup x = some .local) && decide (sc.names.lookup y = some .local) &&
          (chkX S sc u a && chkX S sc v b) && px.line == py.line && !([a, b].all (foldedForSure 8)) && !([a, b].all (constantsAlone 8))
        | none => false) = true := by cases s <;> exact h
      cases hp : pPar s with
      | none => rw [hp] at h'; cases h'
      | some q =>
        obtain ⟨x, y, px, py, a, b⟩ := q
        rw [hp] at h'
        obtain ⟨kt, pt, k2, p2, pp, rfl⟩ := pPar_inv hp
        have h' : (decide (S.N[i]? = some x) && decide (S.N[j]? = some y) && decide (i ≠ j) && decide (x ≠ y) && decide (sc.names.lookup x = some .local) && decide (sc.names.lookup y = some .local) &&
          (chkX S sc u a && chkX S sc v b) && px.line == py.line && !([a, b].all (foldedForSure 8)) && !([a, b].all (constantsAlone 8))) = true := h'
        simp only [Bool.and_eq_true, decide_eq_true_eq, Bool.not_eq_true'] at h'
        obtain ⟨⟨⟨⟨⟨⟨⟨⟨⟨h1, h2⟩, h3⟩, h4⟩, h5⟩, h6⟩, h7a, h7b⟩, h8⟩, h9⟩, h10⟩ := h'
        have ok := so.ok
        have hs := ok.scp
        have hk : X.env.blockKind = .function := by unfold Env.blockKind; rw [hs, so.kd]; rfl
        have kx : X.env.kindOf x = some .local := by show X.env.scope.names.lookup x = _; rw [hs]; exact h5
        have ky : X.env.kindOf y = some .local := by show X.env.scope.names.lookup y = _; rw [hs]; exact h6
        have hw := swap2 (kt := kt) (pt := pt) (k2 := k2) (p2 := p2) hk kx ky (star_X h7a) (star_X h7b) h4 h8 h9 h10
        refine ps_w (ps_par ok.calm (ok.hN ▸ ok.nd) (by rw [ok.hN]; exact h1) (by rw [ok.hN]; exact h2) h3 kx ky (pa_cons (pe_X ok tk h7a) (pa_cons (pe_X ok tk h7b) pa_nil (star_cons (star_X h7b))) (star_cons (star_X h7a))) hw (by rfl)) fun D σ H z => ?_
        obtain ⟨H0, F0, ρ, F, p, r, g⟩ := z
        have g1 : SGood W Wx H0 F0 F (ofE (dXs T ρ [u, v] p) fun ss p1 => bindK (setAllS [i, j] ss ρ) p1) D := g
        rw [ofE_bindX] at g1
        refine tx_of u r g1 fun s1 p1 v1 H1 F1 r1 st1 x1 g2 => ?_
        rw [ofE_bindX] at g2
        refine tx_of v r1 g2 fun s2 p2 v2 H2 F2 r2 st2 x2 g3 => ?_
        have g4 : SGood W Wx H0 F0 F2 (.ok .nx ((ρ.set i s1).set j s2) p2) D := g3
        refine ⟨v1, v2, rfl, SGood.nx g4 ?_⟩
        have pt : PutX W H0 H2 F2 [(i, v1, s1), (j, v2, s2)] := by
          refine RX.to_put r.st st1 st2 x1 (RX.to_put r1.st st2 (Step.refl st2.ctx) x2 .nil fun _ _ _ _ e he => nomatch he) fun xs a e1 e2 e he ys e3 => ?_
          rcases List.mem_cons.mp he with rfl | he
          · exact x1.ne x2 e1 e2 st2 st1.ctx ys e3
          · cases he
        refine put_all r2 pt fun e he xs a e1 e2 jj ys q h1 h2 => ?_
        rcases List.mem_cons.mp he with rfl | he
        · exact x1.off r e1 e2 h1 h2
        · rcases List.mem_cons.mp he with rfl | he
          · exact x2.off r1 e1 e2 h1 h2
          · cases he
    · cases s <;> cases h
  · rcases xs with _ | ⟨u, _ | ⟨v, _ | ⟨w, _ | ⟨_, _⟩⟩⟩⟩
    · cases s <;> cases h
    · cases s <;> cases h
    · cases s <;> cases h
    · have h' : (match pPar3 s with
        | some (x, y, z, px, py, pz, a, b, c) => decide (S.N[i]? = some x) && decide (S.N[j]? = some y) && decide (S.N[l]? = some z) && decide (i ≠ j) && decide (i ≠ l) && decide (j ≠ l) && decide (x ≠ y) && decide (x ≠ z) && decide (y ≠ z) &&
          decide (sc.names.lookup x = some .local) && decide (sc.names.lookup y = some .local) && decide (sc.names.lookup z = some .local) &&
          (chkX S sc u a && chkX S sc v b && chkX S sc w c) && px.line == py.line && px.line == pz.line && !([a, b, c].all (foldedForSure 8)) && !([a, b, c].all (constantsAlone 8))
        | none => false) = true := by cases s <;> exact h
      cases hp : pPar3 s with
      | none => rw [hp] at h'; cases h'
      | some q =>
        obtain ⟨x, y, z, px, py, pz, a, b, c⟩ := q
        rw [hp] at h'
        obtain ⟨kt, pt, k2, p2, pp, rfl⟩ := pPar3_inv hp
        have h' : (decide (S.N[i]? = some x) && decide (S.N[j]? = some y) && decide (S.N[l]? = some z) && decide (i ≠ j) && decide (i ≠ l) && decide (j ≠ l) && decide (x ≠ y) && decide (x ≠ z) && decide (y ≠ z) &&
          decide (sc.names.lookup x = some .local) && decide (sc.names.lookup y = some .local) && decide (sc.names.lookup z = some .local) &&
          (chkX S sc u a && chkX S sc v b && chkX S sc w c) && px.line == py.line && px.line == pz.line && !([a, b, c].all (foldedForSure 8)) && !([a, b, c].all (constantsAlone 8))) = true := h'
        simp only [Bool.and_eq_true, decide_eq_true_eq, Bool.not_eq_true'] at h'
        obtain ⟨⟨⟨⟨⟨⟨⟨⟨⟨⟨⟨⟨⟨⟨⟨⟨h1, h2⟩, h3⟩, h4⟩, h5⟩, h6⟩, h7⟩, h8⟩, h9⟩, ha⟩, hb⟩, hc⟩, ⟨hx1, hx2⟩, hx3⟩, hl1⟩, hl2⟩, hf1⟩, hf2⟩ := h'
        have ok := so.ok
        have hs := ok.scp
        have hk : X.env.blockKind = .function := by unfold Env.blockKind; rw [hs, so.kd]; rfl
        have kx : X.env.kindOf x = some .local := by show X.env.scope.names.lookup x = _; rw [hs]; exact ha
        have ky : X.env.kindOf y = some .local := by show X.env.scope.names.lookup y = _; rw [hs]; exact hb
        have kz : X.env.kindOf z = some .local := by show X.env.scope.names.lookup z = _; rw [hs]; exact hc
        have hw := swap3 (kt := kt) (pt := pt) (k2 := k2) (p2 := p2) hk kx ky kz (star_X hx1) (star_X hx2) (star_X hx3) h7 h8 h9 hl1 hl2 hf1 hf2
        refine ps_w (ps_par3 ok.calm (ok.hN ▸ ok.nd) (by rw [ok.hN]; exact h1) (by rw [ok.hN]; exact h2) (by rw [ok.hN]; exact h3) h4 h5 h6 kx ky kz (pa_cons (pe_X ok tk hx1) (pa_cons (pe_X ok tk hx2) (pa_cons (pe_X ok tk hx3) pa_nil (star_cons (star_X hx3))) (star_cons (star_X hx2))) (star_cons (star_X hx1))) hw (by rfl)) fun D σ H z => ?_
        obtain ⟨H0, F0, ρ, F, p, r, g⟩ := z
        have g1 : SGood W Wx H0 F0 F (ofE (dXs T ρ [u, v, w] p) fun ss p1 => bindK (setAllS [i, j, l] ss ρ) p1) D := g
        rw [ofE_bindX] at g1
        refine tx_of u r g1 fun s1 p1 v1 H1 F1 r1 st1 x1 g2 => ?_
        rw [ofE_bindX] at g2
        refine tx_of v r1 g2 fun s2 p2 v2 H2 F2 r2 st2 x2 g3 => ?_
        rw [ofE_bindX] at g3
        refine tx_of w r2 g3 fun s3 p3 v3 H3 F3 r3 st3 x3 g5 => ?_
        have g4 : SGood W Wx H0 F0 F3 (.ok .nx (((ρ.set i s1).set j s2).set l s3) p3) D := g5
        refine ⟨v1, v2, v3, rfl, SGood.nx g4 ?_⟩
        have pt : PutX W H0 H3 F3 [(i, v1, s1), (j, v2, s2), (l, v3, s3)] := by
          refine RX.to_put r.st st1 (st2.trans st3) x1 (RX.to_put r1.st st2 st3 x2 (RX.to_put r2.st st3 (Step.refl st3.ctx) x3 .nil fun _ _ _ _ e he => nomatch he) fun xs a e1 e2 e he ys e3 => ?_) fun xs a e1 e2 e he ys e3 => ?_
          · rcases List.mem_cons.mp he with rfl | he
            · exact x2.ne x3 e1 e2 st3 st2.ctx ys e3
            · cases he
          · rcases List.mem_cons.mp he with rfl | he
            · exact x1.ne x2 e1 e2 st2 st1.ctx ys e3
            · rcases List.mem_cons.mp he with rfl | he
              · exact (x1.le2 st1.ctx st2).ne x3 e1 e2 st3 st2.ctx ys e3
              · cases he
        refine put_all r3 pt fun e he xs a e1 e2 jj ys q h1 h2 => ?_
        rcases List.mem_cons.mp he with rfl | he
        · exact x1.off r e1 e2 h1 h2
        · rcases List.mem_cons.mp he with rfl | he
          · exact x2.off r1 e1 e2 h1 h2
          · rcases List.mem_cons.mp he with rfl | he
            · exact x3.off r2 e1 e2 h1 h2
            · cases he
    · cases s <;> cases h
  · cases s <;> cases h
theorem ss_ex {e : IE} : SS W S T L (.ex e) := fun X Wx sc fnb s so tk h => by
  cases s <;> try (cases h; done)
  rename_i v pp
  have h' : (chkE S sc e v && notLC v) = true := h
  obtain ⟨h1, h2⟩ := Bool.and_eq_true_iff.mp h'
  refine ps_w (ps_expr (sE e X Wx sc fnb v so.ok tk h1).pd (sw_no h2)) fun D σ H z => ?_
  obtain ⟨H0, F0, ρ, F, p, r, g⟩ := z
  exact ⟨ρ, F, p, r.st.ctx, r.en, good_of (k := fun _ p1 => .ok .nx ρ p1) r g fun d p1 v H1 F1 r1 l1 rv g1 => SGood.nx g1 r1⟩
theorem putX_inv {ρ ρ2 : En} {i : Nat} {xs : List D} {k d : D} (h : putX ρ i xs k d = some ρ2) : ∃ m n, intOf k = some m ∧ ixN xs.length m = some n ∧ ρ2 = ρ.set i (.own (xs.set n d)) := by
  unfold putX at h
  cases e1 : intOf k with
  | none => rw [e1] at h; cases h
  | some m =>
    rw [e1] at h
    have h : (ixN xs.length m).map (fun m => ρ.set i (.own (xs.set m d))) = some ρ2 := h
    cases e2 : ixN xs.length m with
    | none => rw [e2] at h; cases h
    | some n => rw [e2] at h; cases h; exact ⟨m, n, rfl, e2, rfl⟩
theorem withN_of {H0 F0 F : Hp} {o : Option En} {k : En → OS} {D : Ends} (g : SGood W Wx H0 F0 F (withN o k) D) : ∃ ρ2, o = some ρ2 ∧ SGood W Wx H0 F0 F (k ρ2) D := by
  cases o with
  | none => exact g.elim
  | some ρ2 => exact ⟨ρ2, rfl, g⟩
theorem pStI2_inv {s : Stmt} {x y : Str} {jx jy v : Expr} (h : pStI2 s = some (x, y, jx, jy, v)) : ∃ p1 p2 p3 p4 k p5 p6, s = .Assign [.Tuple [.Subscript (.Name x p1) jx p2, .Subscript (.Name y p3) jy p4] k p5] v p6 := by
  unfold pStI2 at h
  split at h
  · cases h; exact ⟨_, _, _, _, _, _, _, rfl⟩
  · cases h
theorem plain_ix {jx : Expr} {o : Expr} {pos : Pos} {env : Env} (h : notSlice jx = true) : ∀ v, assign (.Subscript o jx pos) env v = (do
      let ov ← holding [v] (eval o env)
      let iv ← holding [v, ov] (eval jx env)
      standAt pos
      holding [v, ov, iv] (setItem ov iv v)
      release [v, ov, iv] []) := by cases jx <;> first | (cases h; done) | (intros; rfl)
theorem ss_stI2 {i : Nat} {j1 j2 e : IE} : SS W S T L (.stI2 i j1 j2 e) := fun X Wx sc fnb s so tk h => by
  have h' : (match pStI2 s with
    | some (x, y, jx, jy, v) => nmOk S sc i x && nmOk S sc i y && chkE S sc e v && chkE S sc j1 jx && chkE S sc j2 jy && notSlice jx && notSlice jy && notLC v
    | none => false) = true := by cases s <;> exact h
  cases hp : pStI2 s with
  | none => rw [hp] at h'; cases h'
  | some q =>
    obtain ⟨x, y, jx, jy, v⟩ := q
    rw [hp] at h'
    obtain ⟨p1, p2, p3, p4, kk, p5, p6, rfl⟩ := pStI2_inv hp
    have h' : (nmOk S sc i x && nmOk S sc i y && chkE S sc e v && chkE S sc j1 jx && chkE S sc j2 jy && notSlice jx && notSlice jy && notLC v) = true := h'
    simp only [Bool.and_eq_true] at h'
    obtain ⟨⟨⟨⟨⟨⟨⟨h1, h2⟩, h3⟩, h4⟩, h5⟩, h6⟩, h7⟩, h8⟩ := h'
    have ok := so.ok
    have hk : X.env.blockKind = .function := by unfold Env.blockKind; rw [ok.scp, so.kd]; rfl
    have hns : noSwap X.env.scope (.Tuple [.Subscript (.Name x p1) jx p2, .Subscript (.Name y p3) jy p4] kk p5) v = true := by
      cases v <;> rfl
    refine ps_w (ps_asg (sE e X Wx sc fnb v ok tk h3).pd (pg_tup (n := 2) ok.calm (pgs_cons (pg_sub (nm_of ok h1) (sE j1 X Wx sc fnb jx ok tk h4).pd set_list (plain_ix h6)) (pgs_cons (pg_sub (nm_of ok h2) (sE j2 X Wx sc fnb jy ok tk h5).pd set_list (plain_ix h7)) pgs_nil (by rfl)) (by rfl)) (by rfl) (by rfl)) (by cases v <;> first | rfl | cases h8) (noswap_ok hk hns rfl) (by rfl)) fun D σ H z => ?_
    obtain ⟨H0, F0, ρ, F, p, r, g⟩ := z
    refine ⟨ρ, F, p, r.st.ctx, r.en, good_of (k := st2K T i j1 j2 ρ) r g fun d p1 v H1 F1 r1 l1 rv g1 => ?_⟩
    cases d <;> try (exact g1.elim)
    rename_i ds
    rcases ds with _ | ⟨d1, _ | ⟨d2, _ | ⟨_, _⟩⟩⟩
    · exact g1.elim
    · exact g1.elim
    · cases rv with
      | @tup a vs _ hsq hrd =>
        have hl := hrd.length
        rcases vs with _ | ⟨v1, _ | ⟨v2, _ | ⟨_, _⟩⟩⟩
        · cases hl
        · cases hl
        · cases hrd with
          | cons rd1 hrd =>
            cases hrd with
            | cons rd2 _ =>
              refine ⟨a, [v1, v2], rfl, by rw [← ok.hK]; exact sqT_mono r1.st.ctx.sub hsq, rfl, ?_⟩
              obtain ⟨xs, hi, g2⟩ := withO_of g1
              obtain ⟨q, vs, k1, k2, k3, k4, k5⟩ := r1.own hi
              refine ⟨v1, [v2], rfl, _, k1, ρ, F1, p1, r1.st.ctx, r1.en, good_of (k := fun k1 p2 => withN (putX ρ i xs k1 d1) fun ρ2 => withO (ownAt ρ2 i) fun ys => ofE (dE T j2 ρ2 p2) fun k2 p3 => bindK (putX ρ2 i ys k2 d2) p3) r1 g2 fun kd p2 w H2 F2 r2 l2 rw' g3 => ?_⟩
              obtain ⟨q', vs', m1, m2, m3, m4, m5⟩ := r2.own hi
              rw [k1] at m1
              cases m1
              obtain ⟨ρ2, hput, g4⟩ := withN_of g3
              obtain ⟨m, n, e1, e2, rfl⟩ := putX_inv hput
              refine ⟨q, vs', m, n, rfl, rd_int rw' e1, m4, by rw [m5.length]; exact e2, ?_⟩
              have r3 := r2.put hi k1 m4 (m5.set (rd1.mono l2) n)
              obtain ⟨ys, hi2, g5⟩ := withO_of g4
              obtain ⟨q2, us, n1, n2, n3, n4, n5⟩ := r3.own hi2
              refine ⟨v2, [], rfl, _, n1, _, F2, p2, r3.st.ctx, r3.en, good_of (k := fun k2 p3 => bindK (putX (ρ.set i (.own (xs.set n d1))) i ys k2 d2) p3) r3 g5 fun kd2 p3 w2 H3 F3 r4 l4 rw2 g6 => ?_⟩
              obtain ⟨q3, us', o1, o2, o3, o4, o5⟩ := r4.own hi2
              rw [n1] at o1
              cases o1
              cases hput2 : putX (ρ.set i (.own (xs.set n d1))) i ys kd2 d2 with
              | none => rw [hput2] at g6; exact g6.elim
              | some ρ4 =>
                rw [hput2] at g6
                obtain ⟨m', n', f1, f2, rfl⟩ := putX_inv hput2
                refine ⟨q2, us', m', n', rfl, rd_int rw2 f1, o4, by rw [o5.length]; exact f2, rfl, ?_⟩
                exact SGood.nx g6 (r4.put hi2 n1 o4 (o5.set ((rd2.mono l2).mono l4) n'))
        · cases hl
    · exact g1.elim
theorem pAppPop_inv {s : Stmt} {x n y m : Str} {ap bp dp cp : Pos} {v : Expr} (h : pAppPop s = some (x, n, ap, y, m, bp, v, dp, cp)) : ∃ p1 p2 p3, s = .Expr (.Call (.Attribute (.Name x p1) n ap) [.Call (.Attribute (.Name y p2) m bp) [v] [] dp] [] cp) p3 := by
  unfold pAppPop at h
  split at h
  · cases h; exact ⟨_, _, _, rfl⟩
  · cases h
theorem withI_of {H0 F0 F : Hp} {o : Option Int} {k : Int → OS} {D : Ends} (g : SGood W Wx H0 F0 F (withI o k) D) : ∃ i, o = some i ∧ SGood W Wx H0 F0 F (k i) D := by
  cases o with
  | none => exact g.elim
  | some i => exact ⟨i, rfl, g⟩
theorem withP_of {H0 F0 F : Hp} {o : Option (D × En)} {k : D → En → OS} {Ds : Ends} (g : SGood W Wx H0 F0 F (withP o k) Ds) : ∃ d ρ, o = some (d, ρ) ∧ SGood W Wx H0 F0 F (k d ρ) Ds := by
  cases o with
  | none => exact g.elim
  | some q => exact ⟨q.1, q.2, rfl, g⟩
theorem popX_inv {ρ ρ2 : En} {i : Nat} {xs : List D} {j : Int} {d : D} (h : popX ρ i xs (some j) = some (d, ρ2)) : xs.length ≤ line ∧ ∃ m, ixN xs.length j = some m ∧ xs[m]? = some d ∧ ρ2 = ρ.set i (.own (xs.eraseIdx m)) := by
  unfold popX at h
  split at h
  case isFalse => cases h
  rename_i hl
  refine ⟨hl, ?_⟩
  have h : ((ixN xs.length j).bind fun m => (xs[m]?).map fun d => (d, ρ.set i (.own (xs.eraseIdx m)))) = some (d, ρ2) := h
  cases e2 : ixN xs.length j with
  | none => rw [e2] at h; cases h
  | some m =>
    rw [e2] at h
    have h : ((xs[m]?).map fun d => (d, ρ.set i (.own (xs.eraseIdx m)))) = some (d, ρ2) := h
    cases e3 : xs[m]? with
    | none => rw [e3] at h; cases h
    | some x => rw [e3] at h; cases h; exact ⟨m, rfl, e3, rfl⟩
theorem RdA.erase {F : Hp} : ∀ {vs : List V} {xs : List D} (m : Nat), RdA W F vs xs → RdA W F (vs.eraseIdx m) (xs.eraseIdx m)
  | _, _, _, .nil => by simp; exact .nil
  | _, _, 0, .cons _ r => by simpa using r
  | _, _, m + 1, .cons h r => by simp; exact .cons h (RdA.erase m r)
theorem ss_appPop {i k : Nat} {e : IE} : SS W S T L (.appPop i k e) := fun X Wx sc fnb s so tk h => by
  have h' : (match pAppPop s with
    | some (x, n, ap, y, m, bp, v, dp, cp) => nmOk S sc i x && n == "append" && nmOk S sc k y && m == "pop" && decide (i ≠ k) && chkE S sc e v && notStar v && ap.endLine == cp.line && bp.endLine == dp.line
    | none => false) = true := by cases s <;> exact h
  cases hp : pAppPop s with
  | none => rw [hp] at h'; cases h'
  | some q =>
    obtain ⟨x, n, ap, y, m, bp, v, dp, cp⟩ := q
    rw [hp] at h'
    obtain ⟨p1, p2, p3, rfl⟩ := pAppPop_inv hp
    have h' : (nmOk S sc i x && n == "append" && nmOk S sc k y && m == "pop" && decide (i ≠ k) && chkE S sc e v && notStar v && ap.endLine == cp.line && bp.endLine == dp.line) = true := h'
    simp only [Bool.and_eq_true, decide_eq_true_eq] at h'
    obtain ⟨⟨⟨⟨⟨⟨⟨⟨h1, h2⟩, h3⟩, h4⟩, h5⟩, h6⟩, h7⟩, h8⟩, h9⟩ := h'
    have h2 := beq_iff_eq.mp h2
    have h4 := beq_iff_eq.mp h4
    subst h2 h4
    have ok := so.ok
    refine ps_w (ps_expr (pe_bm PySem.F.plainAttrs_list PySem.F.slot_list_append PySem.F.type_list_append mt_append (nm_of ok h1) (pa_cons (pe_bm PySem.F.plainAttrs_list PySem.F.slot_list_pop PySem.F.type_list_pop mt_popAt (nm_of ok h3) (pa_cons (sE e X Wx sc fnb v ok tk h6).pd pa_nil (star_cons h7)) (by rfl) (by rw [star_cons h7]; rfl) h9 (star_cons h7) (star_any (es := []) rfl)) pa_nil (star_cons rfl)) (by rfl) (by rw [star_cons rfl]; rfl) h8 (star_cons rfl) (star_any (es := []) rfl)) (by rfl)) fun D σ H z => ?_
    obtain ⟨H0, F0, ρ, F, p, r, g⟩ := z
    have g0 : SGood W Wx H0 F0 F (withO (ownAt ρ i) fun _ => withO (ownAt ρ k) fun _ => ofE (dE T e ρ p) (apPK i k ρ)) D := g
    obtain ⟨ys0, hi, g1⟩ := withO_of (k := fun _ => withO (ownAt ρ k) fun _ => ofE (dE T e ρ p) (apPK i k ρ)) g0
    obtain ⟨xs0, hk, g2⟩ := withO_of (k := fun _ => ofE (dE T e ρ p) (apPK i k ρ)) g1
    obtain ⟨qi, vi, a1, a2, a3, a4, a5⟩ := r.own hi
    obtain ⟨qk, vk, b1, b2, b3, b4, b5⟩ := r.own hk
    refine ⟨_, a1, .inl ⟨rfl, vi, SqL.of a4⟩, ?_⟩
    refine ⟨_, b1, .inl ⟨rfl, vk, SqL.of b4⟩, ρ, F, p, r.st.ctx, r.en, good_of (k := apPK i k ρ) r g2 fun d p1 v H1 F1 r1 l1 rv g3 => ?_⟩
    obtain ⟨xs, hk1, g4⟩ := withO_of g3
    obtain ⟨j, ej, g5⟩ := withI_of g4
    obtain ⟨dd, ρ2, epop, g6⟩ := withP_of g5
    obtain ⟨hbig, m, e1, e2, rfl⟩ := popX_inv epop
    obtain ⟨ys, hi2, g7⟩ := withO_of g6
    obtain ⟨q', us, c1, c2, c3, c4, c5⟩ := r1.own hk1
    rw [b1] at c1
    cases c1
    obtain ⟨w, hw, rw'⟩ := c5.get' e2
    obtain ⟨s1, s2, s3, s4⟩ := ixN_seq e1
    have hlen := c5.length
    have hln : line = 16777216 := rfl
    refine ⟨qk, us, j, m, w, rfl, by rw [rd_int rv ej], c4, by omega, by omega, by rw [hlen]; exact s1, hw, ?_⟩
    have r3 := r1.put hk1 b1 c4 (c5.erase m)
    obtain ⟨qi', vi', d1, d2, d3, d4, d5⟩ := r3.own hi2
    rw [a1] at d1
    cases d1
    cases happ : appX (ρ.set k (.own (xs.eraseIdx m))) i ys dd with
    | none => rw [happ] at g7; exact g7.elim
    | some ρ4 =>
      rw [happ] at g7
      unfold appX at happ
      split at happ
      · rename_i hl
        cases happ
        exact ⟨qi, vi', w, rfl, rfl, d4, by rw [d5.length, ← line_eq]; exact hl, SGood.nx g7 (r3.put hi2 a1 d4 (d5.append (.cons rw' .nil)))⟩
      · cases happ
theorem ss_ifS {t : IE} {a b : ISs} (ha : SSs W S T L a) (hb : SSs W S T L b) : SS W S T L (.ifS t a b) := fun X Wx sc fnb s so tk h => by
  cases s <;> try (cases h; done)
  rename_i c x y pp
  have h' : (chkE S sc t c && notIf c && chkSs S sc fnb a x && chkSs S sc fnb b y) = true := h
  simp only [Bool.and_eq_true] at h'
  obtain ⟨⟨⟨h1, h2⟩, h3⟩, h4⟩ := h'
  refine ps_w (ps_if ((sE t X Wx sc fnb c so.ok tk h1).pt h2) (ha X Wx sc fnb x so tk h3) (hb X Wx sc fnb y so tk h4)) fun D σ H z => ?_
  obtain ⟨H0, F0, ρ, F, p, r, g⟩ := z
  refine ⟨ρ, F, p, r.st.ctx, r.en, good_of (k := fun k p1 => if k = true then dSs T a ρ p1 else dSs T b ρ p1) r g fun k p1 v H1 F1 r1 l1 rv g1 => ?_⟩
  have rv : v = k := rv
  subst rv
  cases v with
  | true => rw [if_pos rfl]; exact ⟨H0, F0, ρ, F1, p1, r1, g1⟩
  | false => rw [if_neg (by simp)]; exact ⟨H0, F0, ρ, F1, p1, r1, g1⟩
theorem ss_for {tg : Tg} {it : IIt} {b : ISs} (hb : SSs W S T L b) : SS W S T L (.for_ tg it b) := fun X Wx sc fnb s so tk h => by
  cases s <;> try (cases h; done)
  rename_i t iter body els pp
  cases els with
  | cons _ _ => cases h
  | nil =>
    have h' : (chkI S sc it t iter && chkTg S sc fnb tg t && notSet iter && chkSs S sc fnb b body) = true := h
    simp only [Bool.and_eq_true] at h'
    obtain ⟨⟨⟨h1, h2⟩, h3⟩, h4⟩ := h'
    have ok := so.ok
    refine ps_w (ps_for so.po ok.calm (sI it X Wx sc fnb t iter false ok tk h1) (pg_of ok.calm ok.hN ok.nd ok.scp ok.fnb tg t h2) (hb X Wx sc fnb body so tk h4) (fun x => by cases iter <;> first | rfl | cases h3)) fun D σ H z => ?_
    obtain ⟨H0, F0, ρ, F, p, r, g⟩ := z
    refine ⟨ρ, F, p, r.st.ctx, r.en, good_of (k := fun xs p1 => loopL (bindT tg) (fun ρ p => dSs T b ρ p) xs ρ p1) r g fun xs p1 J H1 F1 r1 l1 rJ g1 => ?_⟩
    obtain ⟨hlen, G, Y, wk, hG, hY⟩ := rJ
    refine for_it wk (fun i σ H => ∃ ρ F p, SRel W H0 F0 σ H ρ F p ∧ Le F1 F ∧ SGood W Wx H0 F0 F (loopL (bindT tg) (fun ρ p => dSs T b ρ p) (xs.drop i) ρ p) D) ⟨ρ, F1, p1, r1, Le.refl _, g1⟩ ?_ ?_ ?_
    · rintro i σ H hi ⟨ρ, F, p, r, l, _⟩
      exact hG H F l r.st.ctx.sub (fun h => by cases h)
    · rintro i x σ H H' hi ⟨ρ, F, p, r, l, g⟩ y
      obtain ⟨F', d, ed, s, rd⟩ := hY i H x H' F p hi l r.st.ctx y
      have hdrop : xs.drop i = d :: xs.drop (i + 1) := by
        obtain ⟨hlt, ee⟩ := List.getElem?_eq_some_iff.mp ed
        rw [List.drop_eq_getElem_cons hlt, ee]
      rw [hdrop] at g
      have r' := r.step s
      have g' : SGood W Wx H0 F0 F (match bindT tg d ρ with
        | none => .bad
        | some ρ1 => match dSs T b ρ1 p with
          | .ok .nx ρ2 p2 => loopL (bindT tg) (fun ρ p => dSs T b ρ p) (xs.drop (i + 1)) ρ2 p2
          | .ok .cnt ρ2 p2 => loopL (bindT tg) (fun ρ p => dSs T b ρ p) (xs.drop (i + 1)) ρ2 p2
          | .ok .brk ρ2 p2 => .ok .nx ρ2 p2
          | o => o) D := g
      cases eb : bindT tg d ρ with
      | none => rw [eb] at g'; exact g'.elim
      | some ρ1 =>
        rw [eb] at g'
        rw [← ok.hK]
        refine gOf_ok r'.st.ctx tg r'.en rd eb fun σ1 e1 o1 => ⟨H0, F0, ρ1, F', p, r'.bind eb e1 o1, ?_⟩
        have g2 := SGood.mono g' s.le
        simp only at g2
        cases eo : dSs T b ρ1 p with
        | bad => rw [eo] at g2; exact g2
        | err e p2 => rw [eo] at g2; exact g2
        | ok f ρ2 p2 =>
          rw [eo] at g2
          have ll := l.trans s.le
          cases f with
          | rt d => exact g2
          | nx => exact fun σ2 H2 F2 r2 l2 => ⟨ρ2, F2, p2, r2, ll.trans l2, SGood.mono g2 l2⟩
          | cnt => exact fun σ2 H2 F2 r2 l2 => ⟨ρ2, F2, p2, r2, ll.trans l2, SGood.mono g2 l2⟩
          | brk => exact g2
    · rintro σ H ⟨ρ, F, p, r, l, g⟩
      rw [List.drop_length] at g
      exact SGood.nx g r
theorem ss_whl {n : Nat} {t : IE} {b : ISs} (hb : SSs W S T L b) : SS W S T L (.whl n t b) := fun X Wx sc fnb s so tk h => by
  cases s <;> try (cases h; done)
  rename_i c body els pp
  cases els with
  | cons _ _ => cases h
  | nil =>
    have h' : (chkE S sc t c && notIf c && chkSs S sc fnb b body) = true := h
    simp only [Bool.and_eq_true] at h'
    obtain ⟨⟨h1, h2⟩, h4⟩ := h'
    have ok := so.ok
    refine ps_w (ps_while so.po ((sE t X Wx sc fnb c ok tk h1).pt h2) (hb X Wx sc fnb body so tk h4)) fun D σ H z => ?_
    obtain ⟨H0, F0, ρ, F, p, r, g⟩ := z
    refine ⟨fun m σ H => ∃ ρ F p, SRel W H0 F0 σ H ρ F p ∧ SGood W Wx H0 F0 F (loopW (fun ρ => dT T t ρ) (fun ρ p => dSs T b ρ p) m ρ p) D, ⟨n, ρ, F, p, r, g⟩, ?_⟩
    rintro m σ H ⟨ρ, F, p, r, g⟩
    cases m with
    | zero => exact g.elim
    | succ m =>
      refine ⟨ρ, F, p, r.st.ctx, r.en, good_of (k := fun k p1 => if k = true then (match dSs T b ρ p1 with
        | .ok .nx ρ2 p2 => loopW (fun ρ => dT T t ρ) (fun ρ p => dSs T b ρ p) m ρ2 p2
        | .ok .cnt ρ2 p2 => loopW (fun ρ => dT T t ρ) (fun ρ p => dSs T b ρ p) m ρ2 p2
        | .ok .brk ρ2 p2 => .ok .nx ρ2 p2
        | o => o) else .ok .nx ρ p1) r g fun k p1 v H1 F1 r1 l1 rv g1 => ?_⟩
      have rv : v = k := rv
      subst rv
      cases v with
      | false => rw [if_neg (by simp)]; exact SGood.nx g1 r1
      | true =>
        rw [if_pos rfl]
        refine ⟨fun σ H => ∃ ρ F p, SRel W H0 F0 σ H ρ F p ∧ SGood W Wx H0 F0 F (loopW (fun ρ => dT T t ρ) (fun ρ p => dSs T b ρ p) m ρ p) D, fun σ' H' z => ⟨m, Nat.lt_succ_self m, z⟩, H0, F0, ρ, F1, p1, r1, ?_⟩
        simp only [if_true] at g1
        cases eo : dSs T b ρ p1 with
        | bad => rw [eo] at g1; exact g1
        | err e p2 => rw [eo] at g1; exact g1
        | ok f ρ2 p2 =>
          rw [eo] at g1
          cases f with
          | rt d => exact g1
          | nx => exact fun σ2 H2 F2 r2 l2 => ⟨ρ2, F2, p2, r2, SGood.mono g1 l2⟩
          | cnt => exact fun σ2 H2 F2 r2 l2 => ⟨ρ2, F2, p2, r2, SGood.mono g1 l2⟩
          | brk => exact g1
theorem sss_nil : SSs W S T L .nil := fun X Wx sc fnb st so tk h => by
  cases st with
  | cons _ _ => cases h
  | nil =>
    refine pss_w pss_nil fun D σ H z => ?_
    obtain ⟨H0, F0, ρ, F, p, r, g⟩ := z
    exact SGood.nx g r
theorem seq_good {H0 F0 F : Hp} {o : OS} {k : En → Pen → OS} {D : Ends} {nx : L2.St → Hp → Prop} (g : SGood W Wx H0 F0 F (o.seq k) D) (hn : ∀ ρ' p' σ' H' F', SRel W H0 F0 σ' H' ρ' F' p' → SGood W Wx H0 F0 F' (k ρ' p') D → nx σ' H') : SGood W Wx H0 F0 F o { D with nx := nx } := by
  cases o with
  | bad => exact g
  | err e p => exact g
  | ok f ρ p => cases f with
    | nx => exact fun σ' H' F' r l => hn ρ p σ' H' F' r (SGood.mono (show SGood W Wx H0 F0 F (k ρ p) D from g) l)
    | rt d => exact g
    | brk => exact g
    | cnt => exact g
theorem sss_fz {i : Nat} {as : ISs} (hs : SSs W S T L as) : SSs W S T L (.cons (.fz i) as) := fun X Wx sc fnb st so tk h => by
  have h' : chkSs S sc fnb as st = true := h
  refine pss_w (hs X Wx sc fnb st so tk h') fun D σ H z => ?_
  obtain ⟨H0, F0, ρ, F, p, r, g⟩ := z
  have g' : SGood W Wx H0 F0 F ((bindK ((ownAt ρ i).map fun xs => ρ.set i (.shr (.lst xs))) p).seq fun ρ p => dSs T as ρ p) D := g
  cases e : ownAt ρ i with
  | none => rw [e] at g'; exact g'.elim
  | some xs =>
    rw [e] at g'
    have e2 : ρ[i]? = some (.own xs) := by
      unfold ownAt at e
      split at e
      · cases e; assumption
      · cases e
    obtain ⟨F1, l, r1⟩ := r.freeze e2
    exact ⟨H0, F0, _, F1, p, r1, SGood.mono g' l⟩
theorem sss_cons {a : IS} {as : ISs} (hg : isGhost a = false) (ha : SS W S T L a) (hs : SSs W S T L as) : SSs W S T L (.cons a as) := fun X Wx sc fnb st so tk h => by
  cases st with
  | nil =>
    have h' : (if isGhost a then chkSs S sc fnb as [] else false) = true := h
    rw [hg] at h'
    cases h'
  | cons s st =>
    have h' : (if isGhost a then chkSs S sc fnb as (s :: st) else (chkS S sc fnb a s && chkSs S sc fnb as st)) = true := h
    rw [hg] at h'
    have h' : (chkS S sc fnb a s && chkSs S sc fnb as st) = true := h'
    simp only [Bool.and_eq_true] at h'
    refine pss_w (pss_cons (ha X Wx sc fnb s so tk h'.1) (hs X Wx sc fnb st so tk h'.2)) fun D σ H z => ?_
    obtain ⟨H0, F0, ρ, F, p, r, g⟩ := z
    exact ⟨H0, F0, ρ, F, p, r, seq_good g fun ρ' p' σ' H' F' r' g' => ⟨H0, F0, ρ', F', p', r', g'⟩⟩
end
mutual
theorem sS {W : Wd} {S : Sc} {T : Tb} {L : Nat} : ∀ a : IS, isGhost a = false → SS W S T L a
  | .asg _ _, _ => ss_asg
  | .asgL _ _, _ => ss_asgL
  | .unp _ _, _ => ss_unp
  | .par _ _, _ => ss_par
  | .stI _ _ _, _ => ss_stI
  | .app _ _, _ => ss_app
  | .pset _ _ _, _ => ss_pset
  | .ret _, _ => ss_ret
  | .retO _, _ => ss_retO
  | .retN, _ => ss_retN
  | .raise _ _, _ => ss_raise
  | .brk, _ => ss_brk
  | .cnt, _ => ss_cnt
  | .pass, _ => ss_pass
  | .ifS _ a b, _ => ss_ifS (sSs a) (sSs b)
  | .for_ _ _ b, _ => ss_for (sSs b)
  | .whl _ _ b, _ => ss_whl (sSs b)
  | .ex _, _ => ss_ex
  | .parX _ _, _ => ss_parX
  | .parU _ _, _ => ss_parU
  | .stI2 _ _ _ _, _ => ss_stI2
  | .appPop _ _ _, _ => ss_appPop
  | .unpPop _ _ _, _ => fun _ _ _ _ s _ _ h => by cases s <;> cases h
theorem sSs {W : Wd} {S : Sc} {T : Tb} {L : Nat} : ∀ a : ISs, SSs W S T L a
  | .nil => sss_nil
  | .cons (.fz i) as => sss_fz (sSs as)
  | .cons (.asg a b) as => sss_cons rfl (sS (.asg a b) rfl) (sSs as)
  | .cons (.asgL a b) as => sss_cons rfl (sS (.asgL a b) rfl) (sSs as)
  | .cons (.unp a b) as => sss_cons rfl (sS (.unp a b) rfl) (sSs as)
  | .cons (.par a b) as => sss_cons rfl (sS (.par a b) rfl) (sSs as)
  | .cons (.stI a b c) as => sss_cons rfl (sS (.stI a b c) rfl) (sSs as)
  | .cons (.app a b) as => sss_cons rfl (sS (.app a b) rfl) (sSs as)
  | .cons (.pset a b c) as => sss_cons rfl (sS (.pset a b c) rfl) (sSs as)
  | .cons (.ret a) as => sss_cons rfl (sS (.ret a) rfl) (sSs as)
  | .cons (.retO a) as => sss_cons rfl (sS (.retO a) rfl) (sSs as)
  | .cons .retN as => sss_cons rfl (sS .retN rfl) (sSs as)
  | .cons (.raise a b) as => sss_cons rfl (sS (.raise a b) rfl) (sSs as)
  | .cons .brk as => sss_cons rfl (sS .brk rfl) (sSs as)
  | .cons .cnt as => sss_cons rfl (sS .cnt rfl) (sSs as)
  | .cons .pass as => sss_cons rfl (sS .pass rfl) (sSs as)
  | .cons (.ifS a b c) as => sss_cons rfl (sS (.ifS a b c) rfl) (sSs as)
  | .cons (.for_ a b c) as => sss_cons rfl (sS (.for_ a b c) rfl) (sSs as)
  | .cons (.whl a b c) as => sss_cons rfl (sS (.whl a b c) rfl) (sSs as)
  | .cons (.ex a) as => sss_cons rfl (sS (.ex a) rfl) (sSs as)
  | .cons (.parX a b) as => sss_cons rfl (sS (.parX a b) rfl) (sSs as)
  | .cons (.parU a b) as => sss_cons rfl (sS (.parU a b) rfl) (sSs as)
  | .cons (.stI2 a b c d) as => sss_cons rfl (sS (.stI2 a b c d) rfl) (sSs as)
  | .cons (.appPop a b c) as => sss_cons rfl (sS (.appPop a b c) rfl) (sSs as)
  | .cons (.unpPop a b c) as => sss_cons rfl (sS (.unpPop a b c) rfl) (sSs as)
end
end DL
set_option maxHeartbeats 4000000
namespace DL
open PySem PySem.Spec PyProof.Rows L2

/-! ### a def's body, run -/
def outF (o : OS) : Out D := match o with
  | .ok .nx _ p => .ok .non p
  | .ok (.rt d) _ p => .ok d p
  | .err e p => .err e p
  | _ => .bad
def env0 (nl : Nat) (ds : List D) : En := ds.map .shr ++ List.replicate (nl - ds.length) .un
def runF (T : Tb) (b : ISs) (nl n : Nat) (ds : List D) : M D := fun p => if ds.length = n then outF (dSs T b (env0 nl ds) p) else .bad
/-- the defs so far: name, number of arguments, meaning -/
abbrev Gt := List (Str × Nat × (List D → M D))

/-- what a law's texts share: its names -/
structure Sh where
  con : List (Str × D)
  cls : Nat → Option Str
  exn : Nat → Option Str
  fr : List Str
  gcd : Bool
  mkr : Nat → List D → M D
  clo : Nat → M D
def tbOf (G : Gt) (h : Sh) : Tb := ⟨G.map (·.2.2), h.con.map (·.2), h.mkr, h.clo, fun _ _ _ => M.bad⟩
def scOf (h : Sh) (G : Gt) (N : List Str) : Sc := ⟨N, G.map fun g => (g.1, g.2.1), h.con.map (·.1), h.cls, h.fr, h.gcd, h.exn, fun _ _ => false, fun _ => none⟩
/-- the module's facts -/
structure MOk (W : Wd) (h : Sh) (P : Program) (w : World) (K : PySem.W.Frag) (mg : Str → Option Value) (base : Heap) (L : Nat) : Prop where
  hK : W.K = K
  free : ∀ x ∈ h.fr, mg x = none
  sm : ∃ o, base.get? sysModules = some o
  gcd : h.gcd = true → mg "gcd" = some (.builtin "math.gcd")
  cls : ∀ c C, W.cls c = some C → ClsOk K C c
  kc : ∀ c C k C', W.cls c = some C → W.cls k = some C' → PySem.W.kitOne K (.ref C) (.ref C') = some (c == k)
  cn : ∀ c x, h.cls c = some x → ∃ C, W.cls c = some C ∧ mg x = some (.ref C)
  con : ∀ p ∈ h.con, ∃ v u, mg p.1 = some u ∧ RelV v u ∧ ∀ F, DL.Rd W F v p.2
  clo : CloOk W P w K mg base L h.clo
  mkx : ∀ (X : Cx) (k : Nat), X.prog = P → X.w = w → X.K = K → X.mg = mg → X.base = base → Quiet (k + 2) X.A → X.calm = true → ∀ c x, h.exn c = some x → MkOk X W c x
def GOk (W : Wd) (P : Program) (w : World) (K : PySem.W.Frag) (mg : Str → Option Value) (base : Heap) (L : Nat) (G : Gt) : Prop := ∀ g ∈ G, FnX W P w K mg base L g.1 g.2.1 g.2.2
section
variable {W : Wd} {h : Sh} {P : Program} {w : World} {K : PySem.W.Frag} {mg : Str → Option Value} {base : Heap} {L : Nat} {G : Gt}
theorem FnX.mono {L' : Nat} {x : Str} {n : Nat} {m : List D → M D} (f : FnX W P w K mg base L x n m) (hl : L ≤ L') : FnX W P w K mg base L' x n m := by
  rcases f with ⟨hn, ⟨a, fd, ps, h1, h2, h3, h4, h5⟩ | ⟨C, a, fd, ps, k, h0, h⟩⟩ | ⟨h0, C, a, fd, ps, h1, h2, h3, h4, h5, h6, h7⟩
  · exact .inl ⟨hn, .inl ⟨a, fd, ps, h1, h2, h3, h4, h5.mono hl⟩⟩
  · exact .inl ⟨hn, .inr ⟨C, a, fd, ps, k, Nat.le_trans h0 hl, h⟩⟩
  · exact .inr ⟨h0, C, a, fd, ps, h1, h2, h3, h4, h5, h6, h7.mono hl⟩
theorem gok_nil : GOk W P w K mg base L [] := fun g hg => nomatch hg
theorem GOk.push {x : Str} {n : Nat} {m : List D → M D} {L' : Nat} (g : GOk W P w K mg base L G) (f : FnX W P w K mg base L' x n m) (hl : L ≤ L') : GOk W P w K mg base L' (G ++ [(x, n, m)]) := fun y hy => by
  rcases List.mem_append.mp hy with hy | hy
  · exact (g y hy).mono hl
  · rw [List.mem_singleton.mp hy]; exact f
theorem lookup_map {α β γ : Type} {l : List α} {f : α → β} {g : α → γ} {k : Nat} {b : β} {c : γ} (h1 : (l.map f)[k]? = some b) (h2 : (l.map g)[k]? = some c) : ∃ a ∈ l, f a = b ∧ g a = c := by
  rw [List.getElem?_map] at h1 h2
  cases q : l[k]? with
  | none => rw [q] at h1; cases h1
  | some a =>
    rw [q] at h1 h2
    cases h1; cases h2
    exact ⟨a, List.mem_of_getElem? q, rfl, rfl⟩
/-- the context of a body -/
theorem xok_of (m : MOk W h P w K mg base L) (g : GOk W P w K mg base L G) {X : Cx} {N : List Str} (hp : X.prog = P) (hw : X.w = w) (hk : X.K = K) (hm : X.mg = mg) (hb : X.base = base) (hN : X.N = N) (nd : N.Nodup) {fnb : Str → Bool} (hf : ∀ x, fnb x = true → X.fn x = true) (hc : X.calm = true) (hq : Quiet L X.A) :
    XOk X W (scOf h G N) (tbOf G h) L X.env.scope fnb := by
  subst hp hw hk hm hb
  exact {
    hK := m.hK
    hN := hN
    nd := nd
    scp := rfl
    fnb := hf
    calm := hc
    q := hq
    free := m.free
    sm := m.sm
    gcd := m.gcd
    fnl := by simp [tbOf, scOf]
    fn := fun k m x n e1 e2 => by
      obtain ⟨y, hy, e3, e4⟩ := lookup_map (l := G) (f := fun g => g.2.2) (g := fun g => (g.1, g.2.1)) e1 e2
      cases e3; cases e4
      exact g y hy
    clo := m.clo
    lam := fun n a b s p h => by cases h
    fnC := fun k x n h => by cases h
    cls := m.cls
    kc := m.kc
    cn := m.cn
    con := fun k d x e1 e2 => by
      obtain ⟨y, hy, e3, e4⟩ := lookup_map (l := h.con) (f := fun g => g.2) (g := fun g => g.1) e1 e2
      cases e3; cases e4
      exact m.con y hy }
theorem env0_ok {H F : Hp} {N : List Str} {vs : List V} {ds : List D} (r : RdA W F vs ds) : EnvOk W H F (L2.start N vs) (env0 N.length ds) := by
  have hl := r.length
  refine ⟨by simp [L2.start, env0, hl], fun i s e => ?_, fun i j xs ys p e1 e2 e3 e4 => ?_⟩
  · unfold env0 at e
    unfold L2.start
    by_cases hi : i < ds.length
    · rw [List.getElem?_append_left (by simpa using hi)] at e
      rw [List.getElem?_map] at e
      cases q : ds[i]? with
      | none => rw [q] at e; cases e
      | some d =>
        rw [q] at e; cases e
        obtain ⟨v, h1, h2⟩ := r.get' q
        exact ⟨some v, by rw [List.getElem?_append_left (by simp; omega), List.getElem?_map, h1]; rfl, v, rfl, h2⟩
    · rw [List.getElem?_append_right (by simpa using hi)] at e
      have hs : s = .un := by
        have := List.mem_of_getElem? e
        exact List.eq_of_mem_replicate this
      obtain ⟨hlt, _⟩ := List.getElem?_eq_some_iff.mp e
      simp at hlt
      refine ⟨none, ?_, by rw [hs]; trivial⟩
      rw [List.getElem?_append_right (by simp; omega)]
      rw [List.getElem?_replicate]
      simp
      omega
  · exfalso
    unfold env0 at e1
    have := List.mem_of_getElem? e1
    rcases List.mem_append.mp this with z | z
    · obtain ⟨d, _, z⟩ := List.mem_map.mp z; cases z
    · have z := List.eq_of_mem_replicate z; cases z
/-- a def, by its text against the small language -/
theorem fn_sound (m : MOk W h P w K mg base L) (g : GOk W P w K mg base L G) (hL : 2 ≤ L) {f : Addr} {name qual : Str} {params : Arguments} {body : List Stmt} {scope : Scope} {dV kV doc pm cdv ct oc : Value} {an od : Option Addr} {osl : Array (Option Value)} {N ps : List Str} {n : Nat} {ir : ISs}
    (lk : K.lookup f = some ⟨oc, od, .func (PySem.W.fnOf name qual params body scope dV kV doc pm an cdv ct), osl⟩) (hcd : PySem.W.codeIn K cdv qual = true) (FS : FnScope N ps scope) (hn : ps.length = n)
    (hchk : chkSs (scOf h G N) scope (fun _ => true) ir body = true) : FnG P w K mg base (L + 1) f (PySem.W.fnOf name qual params body scope dV kV doc pm an cdv ct) ps (spD W (runF (tbOf G h) ir N.length n) n) := by
  refine fng_of lk hcd FS (fun vs H Q E z => z.1.trans hn.symm) fun A outer s H vs Q E hq z => ?_
  obtain ⟨hv, ds, F, p, c, r, gd⟩ := z
  have tk : Takes (cxOf (L2.CX P w) P w K mg base N qual scope f cdv A outer s H E) (fun c d _ H' => E c d H') := L2.takes_of rfl rfl rfl rfl
  have po : PassesOwn (model P w) (cxOf (L2.CX P w) P w K mg base N qual scope f cdv A outer s H E).A (cxOf (L2.CX P w) P w K mg base N qual scope f cdv A outer s H E).env (cxOf (L2.CX P w) P w K mg base N qual scope f cdv A outer s H E).xe := L2.passes_of rfl
  have ok := xok_of (X := cxOf (L2.CX P w) P w K mg base N qual scope f cdv A outer s H E) m g rfl rfl rfl rfl rfl rfl FS.nd (fnb := fun _ => true) (fun _ _ => rfl) rfl hq
  have so : SOk (cxOf (L2.CX P w) P w K mg base N qual scope f cdv A outer s H E) W (scOf h G N) (tbOf G h) L scope (fun _ => true) := ⟨ok, FS.kind, po, fun c x e => by
    obtain ⟨k, rfl⟩ : ∃ k, L = k + 2 := ⟨L - 2, by omega⟩
    exact m.mkx _ k rfl rfl rfl rfl rfl hq rfl c x e⟩
  refine ⟨_, sSs ir _ _ scope _ body so tk hchk, H, F, env0 N.length ds, F, p, ⟨Step.refl c, env0_ok r, fun i xs q e1 e2 => ?_⟩, ?_⟩
  · exfalso
    unfold env0 at e1
    have := List.mem_of_getElem? e1
    rcases List.mem_append.mp this with z | z
    · obtain ⟨d, _, z⟩ := List.mem_map.mp z; cases z
    · have z := List.eq_of_mem_replicate z; cases z
  · have hd : ds.length = n := by rw [← r.length]; exact hv
    have gd' : Good W (fun c d _ H' => E c d H') [] (rD W) H F (if ds.length = n then outF (dSs (tbOf G h) ir (env0 N.length ds) p) else .bad) Q := gd
    rw [if_pos hd] at gd'
    cases eo : dSs (tbOf G h) ir (env0 N.length ds) p with
    | bad => rw [eo] at gd'; exact gd'
    | err e p1 => rw [eo] at gd'; exact fun cls dd σ' H' F' s x => gd' cls dd H' F' s x
    | ok f ρ p1 =>
      rw [eo] at gd'
      cases f with
      | rt d => exact fun v H' F' s r => gd' v H' F' s r
      | nx => exact fun σ' H' F' r l => gd' .non H' F' r.st .non
      | brk => exact gd'.elim
      | cnt => exact gd'.elim
end
end DL
set_option maxHeartbeats 4000000
namespace DL
open PySem PySem.Spec PyProof.Rows L2 LamX

/-! ### a lambda is made -/
abbrev LamD.obj (d : LamD) (pm : Value) (c : Addr) (ctv : Value) : Obj := PySem.W.kla_obj "<lambda>" d.qual d.params d.body d.scope d.cl pm c ctv
theorem lamO_ne {f : Addr} {d : LamD} {c : Addr} (ps : Array Value) : LamO f d c ≠ .tbl ps := fun z => by unfold LamO at z; cases z
section
variable {X : Cx} {pins : List (Addr × Obj)} {σ : L2.St} {H : Hp} {s : Shared}
theorem lam_laid {h' : Heap} {tk : Nat} {d : LamD} {pm ctv : Value} {c : Addr} (I : Inv X pins σ H { s with heap := h', toks := tk }) : Inv X pins σ (upd H h'.objs.size (LamO h'.objs.size d c)) { s with heap := h'.push (d.obj pm c ctv), toks := tk } := by
  have e : (h'.push (d.obj pm c ctv)).get? h'.objs.size = some (d.obj pm c ctv) := Heap.get?_push_size _ rfl
  exact I.laid (a := h'.objs.size) (t' := tk) (fun b u z => Heap.get?_push_of_some _ z) (Nat.le_refl _) ⟨⟨pm, ctv, e⟩, ⟨_, e⟩, fun h1 h2 ⟨p, t, z⟩ st => ⟨p, t, st _ z⟩⟩
/-- what is new: the lambda's object, perhaps its code object; the table -/
structure MadeLam (H H1 : Hp) (f c' : Addr) (d : LamD) : Prop where
  ext : ExtN H H1
  tb : ∀ a ps, H a = some (.tbl ps) → ∃ ps', H1 a = some (.tbl ps')
  new : H f = none
  fn : H1 f = some (LamO f d c')
  cd : H1 c' = some (CodeO c' d.qual)
  ne : c' ≠ f
theorem lam_made {T : List (Addr × Str)} {c P : Addr} {d : LamD} {pos : Pos} {E : Value → Shared → Prop} {Q : Value → Shared → Prop} (I : Inv X pins σ H s) (TB : LamX.TabB X.base X.mg c P) (hcode : X.env.code = .ref c) (hq : d.qual = X.env.qual ++ "<lambda>") (hcl : d.cl = cloFrom X.env.cells d.scope.names [])
    (hm : (P, d.qual) ∈ T) (hu : ∀ p ∈ T, p.1 = P → p.2 = d.qual) (hT : Tabs T H) (hdef : defaultsOf d.params X.env = ([], [])) (hfree : ∀ y ∈ d.scope.names, y.2 = .free → ∃ c, X.env.cells.lookup y.1 = some c)
    (h : ∀ (f c' : Addr) (H1 : Hp) (s' : Shared), Inv X pins σ H1 s' → MadeLam H H1 f c' d → Tabs T H1 → Q (.ref f) s') : wpAny (model X.prog X.w) X.A (eval (.Lambda d.params d.body d.scope pos) X.env) Q E s := by
  obtain ⟨qual, params, body, scope, cl⟩ := d
  simp only at hq hcl hm hu hdef hfree
  subst hq hcl
  obtain ⟨ps, hP, ht, ha⟩ := hT _ hm
  have bP : s.heap.BuiltinsAt X.mg P := TB.bm.keeps I.bk
  have gP : s.heap.get? P = some { cls := .none, data := .fields ps } := I.hok P _ hP
  refine PySem.W.kla_eval hdef ?_
  cases hc : codeAmong pos ps.toList with
  | some cv =>
    obtain ⟨c', rfl, hco⟩ := ha pos cv hc
    refine PySem.W.kla_makeFunctionHit (closure_ok hfree) I.ok.glob (I.mod.glob.keeps I.bk) hcode (TB.code.keeps I.bk) gP ht hc bP fun ctv h' tk hx hsz => ?_
    have nF : H h'.objs.size = none := I.hok.fresh hsz
    have J := lam_laid (tk := tk) (d := ⟨X.env.qual ++ "<lambda>", params, body, scope, cloFrom X.env.cells scope.names []⟩) (pm := (X.mg "__name__").getD .none) (ctv := ctv) (c := c') (I.kept (t' := tk) hx)
    have k : ∀ b o, H b = some o → upd H h'.objs.size (LamO h'.objs.size ⟨X.env.qual ++ "<lambda>", params, body, scope, cloFrom X.env.cells scope.names []⟩ c') b = some o := fun b o e => (upd_ne (ne_of_none e nF)).trans e
    exact h _ c' _ _ J ⟨ExtN.of k, fun a ps e => ⟨ps, k _ _ e⟩, nF, upd_same, k _ _ hco, ne_of_none hco nF⟩ (hT.ext k)
  | none =>
    refine PySem.W.kla_makeFunction (closure_ok hfree) I.ok.glob (I.mod.glob.keeps I.bk) hcode (TB.code.keeps I.bk) gP ht hc TB.gP bP fun c' ctv h' tk hx hge hlt hrec htb => ?_
    obtain ⟨c2, oc, vs, t, e2, hoc, hd, hv⟩ := hrec
    cases e2
    have nC : H c' = none := I.hok.fresh hge
    have nF : H h'.objs.size = none := I.hok.fresh (Nat.le_trans hge (Nat.le_of_lt hlt))
    have J := lam_laid (tk := tk) (d := ⟨X.env.qual ++ "<lambda>", params, body, scope, cloFrom X.env.cells scope.names []⟩) (pm := (X.mg "__name__").getD .none) (ctv := ctv) (c := c')
      (inv_table (q := X.env.qual ++ "<lambda>") (t' := tk) (more := #[rawInt pos.line, rawInt pos.col, .ref c']) (h' := h') I hP (fun b o hb e => hx b o hb e) htb hge ⟨oc, vs, t, hoc, hd, hv⟩)
    have hPf : P ≠ h'.objs.size := ne_of_none hP nF
    have hPc : P ≠ c' := ne_of_none hP nC
    have hcf : c' ≠ h'.objs.size := Nat.ne_of_lt hlt
    have k : ∀ b o, b ≠ P → H b = some o → upd (upd (upd H P (.tbl (ps ++ #[rawInt pos.line, rawInt pos.col, .ref c']))) c' (CodeO c' (X.env.qual ++ "<lambda>"))) h'.objs.size (LamO h'.objs.size ⟨X.env.qual ++ "<lambda>", params, body, scope, cloFrom X.env.cells scope.names []⟩ c') b = some o := fun b o hb e => by
      rw [upd_ne (ne_of_none e nF), upd_ne (ne_of_none e nC), upd_ne hb]; exact e
    have atP : upd (upd (upd H P (.tbl (ps ++ #[rawInt pos.line, rawInt pos.col, .ref c']))) c' (CodeO c' (X.env.qual ++ "<lambda>"))) h'.objs.size (LamO h'.objs.size ⟨X.env.qual ++ "<lambda>", params, body, scope, cloFrom X.env.cells scope.names []⟩ c') P = some (.tbl (ps ++ #[rawInt pos.line, rawInt pos.col, .ref c'])) := by
      rw [upd_ne hPf, upd_ne hPc, upd_same]
    have atc : upd (upd (upd H P (.tbl (ps ++ #[rawInt pos.line, rawInt pos.col, .ref c']))) c' (CodeO c' (X.env.qual ++ "<lambda>"))) h'.objs.size (LamO h'.objs.size ⟨X.env.qual ++ "<lambda>", params, body, scope, cloFrom X.env.cells scope.names []⟩ c') c' = some (CodeO c' (X.env.qual ++ "<lambda>")) := by
      rw [upd_ne hcf, upd_same]
    have ex : ExtN H (upd (upd (upd H P (.tbl (ps ++ #[rawInt pos.line, rawInt pos.col, .ref c']))) c' (CodeO c' (X.env.qual ++ "<lambda>"))) h'.objs.size (LamO h'.objs.size ⟨X.env.qual ++ "<lambda>", params, body, scope, cloFrom X.env.cells scope.names []⟩ c')) := fun b o e n =>
      k b o (fun z => n ps (Option.some.inj (e.symm.trans (by rw [z]; exact hP)))) e
    refine h _ c' _ _ J ⟨ex, fun a qs e => ?_, nF, upd_same, atc, hcf⟩ fun p hp => ?_
    · by_cases hb : a = P
      · rw [hb]; exact ⟨_, atP⟩
      · exact ⟨qs, k a _ hb e⟩
    · have eL : (ps ++ #[rawInt pos.line, rawInt pos.col, .ref c']).toList = ps.toList ++ [rawInt pos.line, rawInt pos.col, .ref c'] := by simp
      by_cases hb : p.1 = P
      · rw [hu p hp hb, hb]
        refine ⟨_, atP, by rw [eL]; exact PySem.TriplesOk_snoc _ _ _ _ ht, fun p' cv hcv => ?_⟩
        rw [eL] at hcv
        rcases among_app _ ht hcv with z | z
        · obtain ⟨c0, q1, q2⟩ := ha p' cv z
          exact ⟨c0, q1, ex _ _ q2 codeO_ne⟩
        · exact ⟨c', z, atc⟩
      · obtain ⟨qs, q1, q2, q3⟩ := hT p hp
        refine ⟨qs, k _ _ hb q1, q2, fun p' cv hcv => ?_⟩
        obtain ⟨c0, q4, q5⟩ := q3 p' cv hcv
        exact ⟨c0, q4, ex _ _ q5 codeO_ne⟩
end
/-! ### the reading of a lambda: the new closure -/
section
variable {X : Cx} {W : Wd} {Wx : WX}
/-- the law's body: the table of its code object -/
structure LamOk (X : Cx) (W : Wd) (c P : Addr) : Prop where
  tb : LamX.TabB X.base X.mg c P
  cd : X.env.code = .ref c
  tabs : W.tabs = [(P, X.env.qual ++ "<lambda>")]
theorem codeO_fx {c : Addr} {q : Str} {u : HO} (h : Fx u) : CodeO c q ≠ u := fun z => by
  rcases h with ⟨_, h⟩ | ⟨_, _, _, h⟩ | ⟨_, h⟩ <;> rw [h] at z <;> unfold CodeO at z <;> cases z
theorem codeO_dK {c : Addr} {q : Str} (vs : List (Key × V)) : CodeO c q ≠ .dK vs := fun z => by unfold CodeO at z; cases z
theorem step_lam {H F H1 : Hp} {p : Pen} {f c' : Addr} {d : LamD} (c : Ctx W H F p) (m : MadeLam H H1 f c' d) (tbs : Tabs W.tabs H1) : Step W H F H1 (upd (upd F c' (CodeO c' d.qual)) f (LamO f d c')) p ∧ (upd (upd F c' (CodeO c' d.qual)) f (LamO f d c')) f = some (LamO f d c') ∧ (upd (upd F c' (CodeO c' d.qual)) f (LamO f d c')) c' = some (CodeO c' d.qual) := by
  have ex := m.ext
  have hfF : F f = none := c.freeF m.new
  have hcf : c' ≠ f := m.ne
  have hc' : ∀ o, F c' = some o → o = CodeO c' d.qual := fun o e => by
    have h1 := ex _ o (c.sub _ _ e) fun ps z => c.nt c' ps (by rw [e, z])
    rw [m.cd] at h1; exact (Option.some.inj h1).symm
  have le : Le F (upd (upd F c' (CodeO c' d.qual)) f (LamO f d c')) := fun b o e => by
    rw [upd_ne (ne_of_none e hfF)]
    by_cases hb : b = c'
    · subst hb; rw [upd_same, hc' o e]
    · rw [upd_ne hb]; exact e
  have ncl : ∀ b u, Fx u → H b = some u → b ≠ c' := fun b u hu e z => by
    have h1 := ex b _ e hu.tbl
    rw [z, m.cd] at h1
    exact codeO_fx hu (Option.some.inj h1)
  obtain ⟨ca, h1, h2⟩ := c.pen.ob
  have npa : W.pa ≠ c' := fun z => by
    have h3 := ex _ _ h1 (fun _ z => nomatch z)
    rw [z, m.cd] at h3
    exact codeO_dK _ (Option.some.inj h3)
  have npf : W.pa ≠ f := fun z => by rw [z, m.new] at h1; cases h1
  refine ⟨⟨⟨_, h1⟩, fun b u _ ht e => ex b u e ht, m.tb, ⟨le, fun b vs hu e e' => ?_⟩, ⟨fun b u e => ?_, ⟨?_, c.pen.ok, ca, ex _ _ h1 (fun _ z => nomatch z), le _ _ h2⟩, fun b u e => le _ _ (c.b0 b u e), fun b ps e => ?_, tbs⟩⟩, upd_same, by rw [upd_ne hcf, upd_same]⟩
  · rw [upd_ne (ne_of_none e' m.new), upd_ne (ncl b vs hu e')]; exact e
  · by_cases hb : b = f
    · subst hb; rw [upd_same] at e; cases e; exact m.fn
    · rw [upd_ne hb] at e
      by_cases hb2 : b = c'
      · subst hb2; rw [upd_same] at e; cases e; exact m.cd
      · rw [upd_ne hb2] at e
        exact ex b u (c.sub b u e) fun ps z => c.nt b ps (by rw [e, z])
  · rw [upd_ne npf, upd_ne npa]; exact c.pen.no
  · by_cases hb : b = f
    · subst hb; rw [upd_same] at e; exact lamO_ne ps (Option.some.inj e)
    · rw [upd_ne hb] at e
      by_cases hb2 : b = c'
      · subst hb2; rw [upd_same] at e; exact codeO_ne ps (Option.some.inj e)
      · rw [upd_ne hb2] at e; exact c.nt b ps e
theorem pe_lamD {c P : Addr} (L : LamOk X W c P) {d : LamD} {n : Nat} {pos : Pos} (hl : W.lam n d) (hq : d.qual = X.env.qual ++ "<lambda>") (hcl : d.cl = cloFrom X.env.cells d.scope.names []) (hdef : defaultsOf d.params X.env = ([], [])) (hfree : ∀ y ∈ d.scope.names, y.2 = .free → ∃ c, X.env.cells.lookup y.1 = some c) :
    PE X (.Lambda d.params d.body d.scope pos) (tD W Wx fun _ => M.pure (.clo n)) := ⟨fun pins s σ H Q I z => by
  obtain ⟨ρ, F, p, c0, en, g⟩ := z
  have ht := c0.tbs
  rw [L.tabs, ← hq] at ht
  refine lam_made (T := [(P, d.qual)]) I L.tb L.cd hq hcl (List.mem_singleton.mpr rfl) (fun p hp _ => by rw [List.mem_singleton.mp hp]) ht hdef hfree fun f c' H1 s' J m T1 => ?_
  obtain ⟨st, e1, e2⟩ := step_lam c0 m (by rw [L.tabs, ← hq]; exact T1)
  exact ⟨.ref f, H1, J, rfl, g _ H1 _ st (.clo hl e1 e2)⟩⟩
end
end DL
set_option maxHeartbeats 4000000
namespace DL
open PySem PySem.Spec PyProof.Rows L2 LamX NdefX

/-! ### a closure is called -/
abbrev LamD.nf (d : LamD) (c : Addr) : NF := ⟨"<lambda>", d.qual, d.params, [], d.scope, d.cl, c⟩
section
variable {W : Wd} {h : Sh} {P : Program} {w : World} {K : PySem.W.Frag} {mg : Str → Option Value} {base : Heap} {L : Nat} {G : Gt}
theorem clo_run (m : MOk W h P w K mg base L) (g : GOk W P w K mg base L G) {d : LamD} {f c' : Addr} {fr : List Str} {ws : List (Option V)} {b : IE} (SC : NScope fr [] fr d.scope)
    (hbind : ∀ pm cv ctv : Value, bindArgs (PySem.W.kla_fn "<lambda>" d.qual d.params d.body d.scope d.cl pm cv ctv) ⟨[], []⟩ = pure []) (hchk : chkE (scOf h G fr) d.scope b d.body = true)
    {A : Around} {outer : List Env} {s : Shared} {H : Hp} {Q : VK} {E : XK} (hq : Quiet (L + 1) A) (e0 : Env0 P w K mg base A outer s H) (hf : H f = some (LamO f d c')) (hc : H c' = some (CodeO c' d.qual)) (C : CellsAt d.cl fr ws s.heap H)
    {ρ : En} {F : Hp} {p : Pen} (cx : Ctx W H F p) (en : EnvOk W H F (startF fr [] ws) ρ) (gd : Good W (fun c dd _ H' => E c dd H') [] (rD W) H F (dE (tbOf G h) b ρ p) Q) :
    codeAny (model P w) A (.call (.ref f) ⟨[], []⟩) (CR (L2.CX P w) outer P w H s Q E) s := by
  obtain ⟨⟨pm, ctv, ho⟩, _, _⟩ := e0.hok f _ hf
  obtain ⟨⟨oc, vs, t, hoc, hdc, hvc⟩, _, _⟩ := e0.hok c' _ hc
  have lim : s.heap.NoLimit := e0.mod.nolimit.keeps fun b o e => (e0.bs b o e).1
  refine PySem.W.kla_callFunE hq.rm.depth ho rfl SC.co SC.gen rfl ⟨c', oc, vs, t, rfl, hoc, hdc, hvc⟩ ?_
  rw [hbind pm (.ref c') ctv]
  refine wpAny_pure (wpAny_newFunctionEnv SC.nocell (fun y hy => absurd hy (by simp)) (fun h₁ hns hsb => ⟨lim.fresh _ hsb, ?_⟩) SC.kind)
  show codeAny _ _ (.expr d.body (envF (d.nf c') f s.heap.objs.size)) _ _
  have kp : ∀ b o, s.heap.get? b = some o → h₁.get? b = some o := fun b o e => hsb.extBut b o (Nat.ne_of_lt (Heap.lt_size e)) (Heap.get?_push_of_some _ e)
  have I : Inv (ncx (L2.CX P w) P w K mg base fr (d.nf c') f A outer s H E) [] (startF fr [] ws) H { s with heap := h₁, toks := s.toks + 0 } :=
    inv_startN (ps := []) (us := []) (vs := []) SC hq.rm.hd e0 rfl .nil C hns kp
  have tk : Takes (ncx (L2.CX P w) P w K mg base fr (d.nf c') f A outer s H E) (fun c d _ H' => E c d H') := L2.takes_of rfl rfl rfl rfl
  have ok := xok_of (X := ncx (L2.CX P w) P w K mg base fr (d.nf c') f A outer s H E) m g rfl rfl rfl rfl rfl rfl SC.nd (fnb := fun _ => false) (fun _ z => by cases z) rfl (hq.deeper _)
  have pe := (sE b _ _ d.scope _ d.body ok tk hchk).pd
  refine PySem.W.kla_codeExpr (wpAny_mono (pe.run [] _ (startF fr [] ws) H Q I ⟨ρ, F, p, cx, en, ?_⟩) (fun v s' z => ?_) fun e s' z => z)
  · cases q : dE (tbOf G h) b ρ p with
    | bad => rw [q] at gd; exact gd
    | err x p1 => rw [q] at gd; exact fun cls dd H' F' s z => gd cls dd H' F' s z
    | ok x p1 => rw [q] at gd; exact gd
  · obtain ⟨x, H', J, rv, q⟩ := z
    exact ⟨x, H', J.os, J.bare, J.base, J.hok, rv, q⟩
end
end DL
set_option maxHeartbeats 4000000
namespace DL
open PySem PySem.Spec PyProof.Rows L2 LamX NdefX

/-! ### closures handed on: the captured cells are put to the ground -/
def baseC (base h : Heap) (cs : List Addr) : Heap := PySem.W.hideAll h ((List.range h.objs.size).filter fun b => (base.get? b).isNone && !cs.contains b)
theorem baseC_of {base h : Heap} {cs : List Addr} {b : Addr} {o : Obj} (e : (baseC base h cs).get? b = some o) : h.get? b = some o ∧ ((∃ o', base.get? b = some o') ∨ b ∈ cs) := by
  have h1 := PySem.W.of_hideAll _ e
  refine ⟨h1, ?_⟩
  cases q : base.get? b with
  | some o' => exact .inl ⟨o', rfl⟩
  | none =>
    by_cases hb : b ∈ cs
    · exact .inr hb
    · exfalso
      have : b ∈ (List.range h.objs.size).filter fun b => (base.get? b).isNone && !cs.contains b := by
        simp [List.mem_filter, Heap.lt_size h1, q, hb]
      have e' : (PySem.W.hideAll h ((List.range h.objs.size).filter fun b => (base.get? b).isNone && !cs.contains b)).get? b = some o := e
      rw [PySem.W.hideAll_none _ this] at e'
      cases e'
theorem baseC_to {base h : Heap} {cs : List Addr} {b : Addr} {o : Obj} (e : h.get? b = some o) (k : (∃ o', base.get? b = some o') ∨ b ∈ cs) : (baseC base h cs).get? b = some o := by
  refine PySem.W.hideAll_get _ e fun z => ?_
  have z2 := (List.mem_filter.mp z).2
  simp only [Bool.and_eq_true, Bool.not_eq_true'] at z2
  rcases k with ⟨o', k⟩ | k
  · rw [k] at z2; cases z2.1
  · have : cs.contains b = true := by simpa using k
    rw [this] at z2; cases z2.2
section
variable {X : Cx} {W : Wd}
/-- the frame's cells -/
def cellsAt (X : Cx) : List Addr := X.env.cells.filterMap fun p => X.env.cells.lookup p.1
theorem cellsAt_iff {c : Addr} : c ∈ cellsAt X ↔ ∃ x, X.env.cells.lookup x = some c := by
  constructor
  · intro h
    obtain ⟨p, _, h⟩ := List.mem_filterMap.mp h
    exact ⟨p.1, h⟩
  · rintro ⟨x, h⟩
    exact List.mem_filterMap.mpr ⟨(x, c), PySem.mem_of_lookup h, h⟩
/-- the ground with the frame's cells -/
theorem env0_cells {pins : List (Addr × Obj)} {σ : L2.St} {H : Hp} {s : Shared} (I : Inv X pins σ H s) (hst : X.stack = X.env :: X.outer) (hfn : ∀ x, X.fn x = true) :
    Env0 X.prog X.w X.K X.mg (baseC X.base s.heap (cellsAt X)) X.A X.stack s H := by
  have e0 := I.env0
  have kb : ∀ b o, X.base.get? b = some o → (baseC X.base s.heap (cellsAt X)).get? b = some o := fun b o e => baseC_to (e0.bs b o e).1 (.inl ⟨o, e⟩)
  refine ⟨e0.frames, ⟨e0.mod.kin.keeps kb, e0.mod.glob.keeps kb, ?_, e0.mod.nolimit.keeps kb⟩, fun b o e => ?_, ?_, funFrames_none e0.funs fun L hL => ?_, e0.frf, e0.hok, e0.bare⟩
  · obtain ⟨mb, h1, h2⟩ := e0.mod.blt
    exact ⟨mb, h1.keeps kb, h2⟩
  · obtain ⟨h1, h2⟩ := baseC_of e
    refine ⟨h1, ?_⟩
    rcases h2 with ⟨o', h2⟩ | h2
    · exact (e0.bs b o' h2).2
    · obtain ⟨x, hx⟩ := cellsAt_iff.mp h2
      exact I.freeC x b hx
  · show (PySem.W.hideAll _ _).objs.size ≤ _
    rw [PySem.W.hideAll_size]; exact Nat.le_refl _
  · cases q : (baseC X.base s.heap (cellsAt X)).get? L with
    | none => rfl
    | some o =>
      exfalso
      obtain ⟨h1, h2⟩ := baseC_of q
      rcases h2 with ⟨o', h2⟩ | h2
      · obtain ⟨h3, _⟩ := e0.funs.mem hL
        rw [h3] at h2; cases h2
      · obtain ⟨x, hx⟩ := cellsAt_iff.mp h2
        obtain ⟨v, oc, hoc, hdc⟩ := I.cell x L hx
        have hlo := X.env.locals
        rcases List.mem_cons.mp (I.stkSub _ hL) with e | e
        · obtain ⟨m, ⟨ob, es, ep, hob, hd, _⟩, _⟩ := I.loc
          rw [← e, hoc] at hob
          cases hob
          rw [hdc] at hd; cases hd
        · obtain ⟨_, o0, h4, _⟩ := I.ok.funs.mem e
          have h5 := I.ok.cab x L (hfn x) hx
          exact absurd (Heap.lt_size h4) (Nat.not_lt.mpr h5)
end
/-! the same world, another frozen ground -/
abbrev Wd.at (W : Wd) (F0 : Hp) : Wd := { W with F0 := F0 }
mutual
theorem Rd.re {W : Wd} {F0 F : Hp} : ∀ {v : V} {d : D}, DL.Rd W F v d → DL.Rd (W.at F0) F v d
  | _, _, .non => .non
  | _, _, .bl b => .bl b
  | _, _, .int i => .int i
  | _, _, .str x => .str x
  | _, _, .tup h r => .tup h (RdA.re r)
  | _, _, .lst h r => .lst h (RdA.re r)
  | _, _, .ins h1 h2 h3 h4 r => .ins h1 h2 h3 h4 (RdA.re r)
  | _, _, .dct h1 h2 r => .dct h1 h2 (RdA.re r)
  | _, _, .pen => .pen (W := W.at F0)
  | _, _, .clo h h1 h2 => .clo (W := W.at F0) h h1 h2
theorem RdA.re {W : Wd} {F0 F : Hp} : ∀ {vs : List V} {xs : List D}, RdA W F vs xs → RdA (W.at F0) F vs xs
  | _, _, .nil => .nil
  | _, _, .cons h r => .cons (Rd.re h) (RdA.re r)
end
mutual
theorem Rd.er {W : Wd} {F0 F : Hp} : ∀ {v : V} {d : D}, DL.Rd (W.at F0) F v d → DL.Rd W F v d
  | _, _, .non => .non
  | _, _, .bl b => .bl b
  | _, _, .int i => .int i
  | _, _, .str x => .str x
  | _, _, .tup h r => .tup h (RdA.er r)
  | _, _, .lst h r => .lst h (RdA.er r)
  | _, _, .ins h1 h2 h3 h4 r => .ins h1 h2 h3 h4 (RdA.er r)
  | _, _, .dct h1 h2 r => .dct h1 h2 (RdA.er r)
  | _, _, .pen => .pen (W := W)
  | _, _, .clo h h1 h2 => .clo (W := W) h h1 h2
theorem RdA.er {W : Wd} {F0 F : Hp} : ∀ {vs : List V} {xs : List D}, RdA (W.at F0) F vs xs → RdA W F vs xs
  | _, _, .nil => .nil
  | _, _, .cons h r => .cons (Rd.er h) (RdA.er r)
end
theorem Ctx.re {W : Wd} {H F : Hp} {p : Pen} (c : Ctx W H F p) : Ctx (W.at F) H F p := ⟨c.sub, ⟨c.pen.no, c.pen.ok, c.pen.ob⟩, Le.refl F, c.nt, c.tbs⟩
theorem Step.er {W : Wd} {H F H' F' F0 : Hp} {p p' : Pen} (c : Ctx W H F p) (s : Step (W.at F0) H F H' F' p') : Step W H F H' F' p' :=
  ⟨s.pk, s.ext, s.tb, s.new, ⟨s.ctx.sub, ⟨s.ctx.pen.no, s.ctx.pen.ok, s.ctx.pen.ob⟩, fun b o e => s.le b o (c.b0 b o e), s.ctx.nt, s.ctx.tbs⟩⟩
theorem ExcAt.er {W : Wd} {H F F0 : Hp} {e : Exc} {cls : Value} {dd : Option Addr} (x : ExcAt (W.at F0) H F e cls dd) : ExcAt W H F e cls dd := by
  obtain ⟨C, h1, h2, fs, h3, h4⟩ := x
  refine ⟨C, h1, h2, fs, fun k f hk => ?_, h4⟩
  obtain ⟨v, d, e1, e2, r⟩ := h3 k f hk
  exact ⟨v, d, e1, e2, r.er⟩
def capS : Option Slot → Slot
  | some (.shr d) => .shr d
  | _ => .un
def capE (js : List Nat) (ρ : En) : En := js.map fun j => capS ρ[j]?
/-- a closure's words at the maker's: its body's meaning by the maker's slots -/
structure CloD (X : Cx) (h : Sh) (G : Gt) (d : LamD) (m : En → M D) : Prop where
  mkd : ∃ (fr : List Str) (js : List Nat) (b : IE), (m = fun ρ => dE (tbOf G h) b (capE js ρ)) ∧ Caps X d.cl fr js ∧ NScope fr [] fr d.scope ∧ chkE (scOf h G fr) d.scope b d.body = true
  bind : ∀ pm cv ctv : Value, bindArgs (PySem.W.kla_fn "<lambda>" d.qual d.params d.body d.scope d.cl pm cv ctv) ⟨[], []⟩ = pure []
section
variable {X : Cx} {W : Wd} {h : Sh} {G : Gt} {L : Nat}
theorem clo_ground {pins : List (Addr × Obj)} {σ : L2.St} {H : Hp} {s : Shared} (I : Inv X pins σ H s) {F : Hp} {p : Pen} (c : Ctx W H F p) {ρ : En} (en : EnvOk W H F σ ρ) {clo0 : Nat → En → M D}
    (m : MOk (W.at F) h X.prog X.w X.K X.mg (baseC X.base s.heap (cellsAt X)) L) (g : GOk (W.at F) X.prog X.w X.K X.mg (baseC X.base s.heap (cellsAt X)) L G) (hl : ∀ n d, W.lam n d → CloD X h G d (clo0 n)) :
    CloOk (W.at F) X.prog X.w X.K X.mg (baseC X.base s.heap (cellsAt X)) (L + 1) (fun n => clo0 n ρ) := by
  intro n d hd A outer s2 H2 Q E f c' hq e0 hf hc hg
  obtain ⟨⟨fr, js, b, hm, caps, SC, hchk⟩, hbind⟩ := hl n d hd
  obtain ⟨F2, p2, cx, _, _, gd⟩ := hg
  have C1 := cells_of I caps
  have C2 : CellsAt d.cl fr (js.map (slotAt σ)) s2.heap H2 := by
    have at_ : ∀ y c, d.cl.lookup y = some c → ∀ v, s.heap.IsCell c v → H2 c = none ∧ s2.heap.IsCell c v := fun y c e v ⟨o, ho, hv⟩ => by
      have e1 := baseC_to (base := X.base) (cs := cellsAt X) ho (.inr (cellsAt_iff.mpr ⟨y, caps.sub y c e⟩))
      obtain ⟨e2, e3⟩ := e0.bs c o e1
      exact ⟨e3, o, e2, hv⟩
    refine ⟨C1.len, fun y c e => ?_, C1.inj, fun i y e => ?_⟩
    · obtain ⟨_, v, hv⟩ := C1.all y c e
      obtain ⟨h1, h2⟩ := at_ y c e v hv
      exact ⟨h1, v, h2⟩
    · obtain ⟨c, e1, e2⟩ := C1.has i y e
      refine ⟨c, e1, fun v ev => ?_⟩
      obtain ⟨u, r, hu⟩ := e2 v ev
      exact ⟨u, r, (at_ y c e1 _ hu).2⟩
  have hlen : (js.map (slotAt σ)).length = fr.length := C1.len
  have en2 : EnvOk (W.at F) H2 F2 (startF fr [] (js.map (slotAt σ))) (capE js ρ) := by
    have hs : startF fr [] (js.map (slotAt σ)) = js.map (slotAt σ) := by
      unfold startF
      simp only [List.map_nil, List.nil_append, List.length_nil, Nat.sub_zero, hlen, Nat.sub_self, List.replicate_zero, List.append_nil]
    rw [hs]
    have nown : ∀ (i : Nat) (xs : List D), (capE js ρ)[i]? ≠ some (Slot.own xs) := fun i xs z => by
      unfold capE at z
      rw [List.getElem?_map] at z
      cases q : js[i]? with
      | none => rw [q] at z; cases z
      | some j =>
        rw [q] at z
        have z : capS ρ[j]? = Slot.own xs := Option.some.inj z
        unfold capS at z
        split at z <;> cases z
    refine ⟨by simp [capE], fun i sl e => ?_, fun i j xs ys q e1 => absurd e1 (nown i xs)⟩
    unfold capE at e
    rw [List.getElem?_map] at e ⊢
    cases q : js[i]? with
    | none => rw [q] at e; cases e
    | some j =>
      rw [q] at e
      refine ⟨slotAt σ j, rfl, ?_⟩
      have e : capS ρ[j]? = sl := Option.some.inj e
      unfold capS at e
      split at e
      · rename_i dd hρ
        cases e
        obtain ⟨v, h1, h2⟩ := slot_shr en hρ
        exact ⟨v, slotAt_of h1, (h2.re).mono cx.b0⟩
      · cases e; trivial
  have gd' : Good (W.at F) (fun c dd _ H' => E c dd H') [] (rD (W.at F)) H2 F2 (dE (tbOf G h) b (capE js ρ) p2) Q := by
    have e1 : clo0 n ρ = dE (tbOf G h) b (capE js ρ) := by rw [hm]
    rw [← e1]; exact gd
  exact clo_run m g SC hbind hchk hq e0 hf hc C2 cx en2 gd'
theorem callC_of (hst : X.stack = X.env :: X.outer) (hfn : ∀ x, X.fn x = true) {L0 : Nat} (hq : Quiet L0 X.A) {x : Str} {n : Nat} {mC : (Nat → M D) → List D → M D} {clo0 : Nat → En → M D} (hl : ∀ n d, W.lam n d → CloD X h G d (clo0 n))
    (hG : ∀ F0 base', (∀ b o, X.base.get? b = some o → base'.get? b = some o) → MOk (W.at F0) h X.prog X.w X.K X.mg base' L ∧ GOk (W.at F0) X.prog X.w X.K X.mg base' L G)
    (hF : ∀ F0 base' clo, (∀ b o, X.base.get? b = some o → base'.get? b = some o) → CloOk (W.at F0) X.prog X.w X.K X.mg base' (L + 1) clo → FnD (W.at F0) X.prog X.w X.K X.mg base' L0 x n (mC clo)) :
    CallC X W x n (fun ρ xs => mC (fun k => clo0 k ρ) xs) := by
  intro Wx e es p0 pos ms tk hg hd ha hs hl2 hms
  have ns : noStars (e :: es) = true := by
    have : ∀ l : List Expr, l.all (fun e => match e with | .Starred _ _ => false | _ => true) = true → noStars l = true := fun l hl => by
      induction l with
      | nil => rfl
      | cons y l ih =>
        rw [List.all_cons] at hl
        obtain ⟨a1, a2⟩ := Bool.and_eq_true_iff.mp hl
        show (notStar y && noStars l) = true
        rw [ih a2]
        cases y <;> first | rfl | cases a1
    exact this _ hs
  obtain ⟨h1, h2⟩ := Bool.and_eq_true_iff.mp (show (notStar e && noStars es) = true from ns)
  obtain ⟨f, fd, ps, hn, hm, hk, hb, _⟩ := hF W.F0 X.base (fun _ => M.bad) (fun _ _ e => e) (fun n d _ A outer s H Q E f c' _ _ _ _ ⟨F, p, _, _, _, g⟩ => g.elim)
  refine ⟨fun pins s σ H Q I z => ?_⟩
  refine wpAny_Call_Name_kw (ld_glob I hg hm ?_ hd)
  refine PySem.W.callWith_K (h₀ := X.base) I.ok.mod.kin hk (thn (ha.run pos pins s σ H (fun vs H1 => ∃ ρ F1 p1 xs, Ctx W H1 F1 p1 ∧ EnvOk W H1 F1 σ ρ ∧ RdA W F1 vs xs ∧ xs.length = n ∧ Good W Wx σ (rD W) H1 F1 (mC (fun k => clo0 k ρ) xs p1) Q) I ?_) fun us s1 ⟨vs, H1, I1, r, q⟩ => ⟨I1.kIn, ?_⟩) (star_cons h1) (star_any h2)
  · obtain ⟨ρ, F, p, c, en, g⟩ := z
    exact ⟨ρ, F, p, c, en, good_bind (R := rA W) (f := fun xs => mC (fun k => clo0 k ρ) xs) g fun xs p1 vs H1 F1 e s r g1 => ⟨ρ, F1, p1, xs, s.ctx, en.step c s, r, hms _ _ _ _ e, g1⟩⟩
  · obtain ⟨ρ, F1, p1, xs, c1, en1, rx, hlen, gd⟩ := q
    have kb : ∀ b o, X.base.get? b = some o → (baseC X.base s1.heap (cellsAt X)).get? b = some o := fun b o e => baseC_to (I1.bs b o e).1 (.inl ⟨o, e⟩)
    obtain ⟨m1, g1⟩ := hG F1 _ kb
    have co := clo_ground I1 c1 en1 m1 g1 hl
    obtain ⟨f', fd', ps', hn', hm', hk', hb', FG⟩ := hF F1 _ _ kb co
    rw [hm] at hm'
    cases hm'
    have e0 := env0_cells I1 hst hfn
    have hl3 : us.length = ps'.length := by rw [← Vals.length r, rx.length, hlen, hn']
    have hb2 := hb' s1 us I1.kIn (by rw [List.append_nil]; exact hl3)
    rw [List.append_nil] at hb2
    have sp : spD (W.at F1) (mC (fun k => clo0 k ρ)) n vs H1 Q (WE Wx σ) := by
      refine ⟨by rw [rx.length]; exact hlen, xs, F1, p1, c1.re, rx.re, ?_⟩
      cases eo : mC (fun k => clo0 k ρ) xs p1 with
      | bad => rw [eo] at gd; exact gd
      | err x p2 => rw [eo] at gd; exact fun cls dd H' F' st q => gd cls dd H' F' (Step.er c1 st) q.er
      | ok x p2 => rw [eo] at gd; exact fun v H' F' st q => gd v H' F' (Step.er c1 st) (Rd.er q)
    refine wpAny_call (codeAny_mono (FG.run X.A X.stack s1 H1 ⟨us, []⟩ us vs Q (WE Wx σ) hq e0 hb2 r sp) fun res s' z => ?_)
    rcases res with e | (_ | _ | _ | u)
    · exact passAt tk σ pins H1 s1 e s' I1 z
    all_goals first | exact I1.after z | exact False.elim z
end
/-! ### an own class is made: __init__ ends in `self.f = e` -/
def pSet : Stmt → Option (Str × Str × Expr)
  | .Assign [.Attribute (.Name a _) g _] v _ => some (a, g, v)
  | _ => none
theorem pSet_inv {s : Stmt} {a g : Str} {v : Expr} (h : pSet s = some (a, g, v)) : ∃ p1 p2 p3, s = .Assign [.Attribute (.Name a p1) g p2] v p3 := by
  unfold pSet at h
  split at h
  · cases h; exact ⟨_, _, _, rfl⟩
  · cases h
def chkSets (S : Sc) (sc : Scope) (self : Str) : List (Nat × IE) → List Stmt → Bool
  | [], [] => true
  | (f, e) :: r, s :: st => (match pSet s with
    | some (a, g, v) => a == self && g == fname f && nmOk S sc 0 self && chkE S sc e v
    | none => false) && chkSets S sc self r st
  | _, _ => false
def chkIn (S : Sc) (sc : Scope) (fnb : Str → Bool) (self : Str) (sets : List (Nat × IE)) : ISs → List Stmt → Bool
  | .nil, st => chkSets S sc self sets st
  | .cons a as, st => if isGhost a then chkIn S sc fnb self sets as st else match st with
    | s :: r => chkS S sc fnb a s && chkIn S sc fnb self sets as r
    | [] => false
def dSets (T : Tb) : List (Nat × IE) → En → M (List D)
  | [], _ => M.pure []
  | (_, e) :: r, ρ => M.bind (dE T e ρ) fun d => M.bind (dSets T r ρ) fun ds => M.pure (d :: ds)
def isMe : Option Slot → Bool
  | some .me => true
  | _ => false
def outN (T : Tb) (c : Nat) (sets : List (Nat × IE)) (o : OS) : Out D := match o with
  | .ok .nx ρ p => if isMe ρ[0]? = true then (M.bind (dSets T sets ρ) fun ds => M.pure (.ins c ds)) p else .bad
  | .err e p => .err e p
  | _ => .bad
def envN (nl : Nat) (ds : List D) : En := .me :: env0 (nl - 1) ds
/-- what C(..) is worth; n: the parameters behind self -/
def runN (T : Tb) (b : ISs) (c : Nat) (sets : List (Nat × IE)) (nl n : Nat) (ds : List D) : M D := fun p => if ds.length = n then outN T c sets (dSs T b (envN nl ds) p) else .bad
section
variable {W : Wd} {S : Sc} {T : Tb} {L : Nat}
theorem tS_fz {Wx : WX} {i : Nat} {as : ISs} {D : Ends} {σ : L2.St} {H : Hp} (z : tS W Wx (dSs T (.cons (.fz i) as)) D σ H) : tS W Wx (dSs T as) D σ H := by
  obtain ⟨H0, F0, ρ, F, p, r, g⟩ := z
  have g' : SGood W Wx H0 F0 F ((bindK ((ownAt ρ i).map fun xs => ρ.set i (.shr (.lst xs))) p).seq fun ρ p => dSs T as ρ p) D := g
  cases e : ownAt ρ i with
  | none => rw [e] at g'; exact g'.elim
  | some xs =>
    rw [e] at g'
    have e2 : ρ[i]? = some (.own xs) := by
      unfold ownAt at e
      split at e
      · cases e; assumption
      · cases e
    obtain ⟨F1, l, r1⟩ := r.freeze e2
    exact ⟨H0, F0, _, F1, p, r1, SGood.mono g' l⟩
theorem step_ins {Hc F0 H F : Hp} {p : Pen} {a C d : Addr} {fs gs : List (Str × V)} (s : Step W Hc F0 H F p) (hc : Hc a = none) (hf : F a = none) (hh : H a = some (.ins C d fs)) : Step W Hc F0 (upd H a (.ins C d gs)) F p := by
  have hp : a ≠ W.pa := fun z => by
    obtain ⟨ca, e⟩ := s.ctx.pa
    rw [z, e] at hh; cases hh
  refine ⟨s.pk, fun b u h1 h2 h3 => ?_, fun b ps h => ?_, s.new, ⟨fun b u e => ?_, ⟨s.ctx.pen.no, s.ctx.pen.ok, ?_⟩, s.ctx.b0, s.ctx.nt, fun q hq => ?_⟩⟩
  · rw [upd_ne (ne_of_none h3 hc)]; exact s.ext b u h1 h2 h3
  · obtain ⟨ps', h'⟩ := s.tb b ps h
    exact ⟨ps', by rw [upd_ne (ne_of_none h hc)]; exact h'⟩
  · rw [upd_ne (ne_of_none e hf)]; exact s.ctx.sub b u e
  · obtain ⟨ca, h1, h2⟩ := s.ctx.pen.ob
    exact ⟨ca, by rw [upd_ne (Ne.symm hp)]; exact h1, h2⟩
  · obtain ⟨ps, h1, h2, h3⟩ := s.ctx.tbs q hq
    refine ⟨ps, by rw [upd_ne (fun z => by rw [z, hh] at h1; cases h1)]; exact h1, h2, fun pos cv hcv => ?_⟩
    obtain ⟨c, e, h⟩ := h3 pos cv hcv
    exact ⟨c, e, by rw [upd_ne (fun z => by rw [z, hh] at h; unfold LamX.CodeO at h; cases h)]; exact h⟩
theorem env_ins {H F : Hp} {σ : L2.St} {ρ : En} {a C d : Addr} {fs gs : List (Str × V)} (e : EnvOk W H F σ ρ) (hh : H a = some (.ins C d fs)) : EnvOk W (upd H a (.ins C d gs)) F σ ρ := by
  refine ⟨e.len, fun i s h => ?_, e.sep⟩
  obtain ⟨o, h1, h2⟩ := e.sl i s h
  refine ⟨o, h1, ?_⟩
  cases s with
  | un => trivial
  | me => exact h2
  | shr d => exact h2
  | own xs =>
    obtain ⟨q, vs, g1, g2, g3, g4⟩ := h2
    exact ⟨q, vs, g1, g2, by rw [upd_ne (fun z => by rw [z, hh] at g3; cases g3)]; exact g3, g4⟩
theorem putF_new {f : Str} {v : V} : ∀ {fs : List (Str × V)}, f ∉ fs.map (·.1) → putF f v fs = fs ++ [(f, v)]
  | [], _ => rfl
  | (g, x) :: r, h => by
    have h1 : ¬ (g = f) := fun z => h (by simp [z])
    show (if g = f then (g, v) :: r else (g, x) :: putF f v r) = _
    rw [if_neg h1, putF_new (fun z => h (by simp at z ⊢; exact .inr z))]
    rfl
/-- where one stands while the fields are laid -/
structure InRel (W : Wd) (Hc F0 : Hp) (σ : L2.St) (H : Hp) (ρ : En) (F : Hp) (p : Pen) (a d C : Addr) (fs : List (Str × V)) (xs : List D) : Prop where
  st : Step W Hc F0 H F p
  en : EnvOk W H F σ ρ
  s0 : σ[0]? = some (some (.ref a))
  ha : H a = some (.ins C d fs)
  hd : H d = some (.own a)
  fa : F a = none
  fd : F d = none
  ca : Hc a = none
  cd : Hc d = none
  ne : d ≠ a
  rd : RdA W F (fs.map (·.2)) xs
def tSets (W : Wd) (Wx : WX) (T : Tb) (c : Nat) (pre : List Nat) (sets : List (Nat × IE)) : TS := fun D σ H => ∃ Hc F0 ρ F p a d C fs xs, InRel W Hc F0 σ H ρ F p a d C fs xs ∧ W.cls c = some C ∧ fs.map (·.1) = pre.map fname ∧
  Good W Wx σ (rA W) Hc F0 (dSets T sets ρ p) (fun _ _ => True) ∧ ∀ ys p', dSets T sets ρ p = .ok ys p' → ∀ H' F' gs, InRel W Hc F0 σ H' ρ F' p' a d C gs (xs ++ ys) → gs.map (·.1) = (pre ++ sets.map (·.1)).map fname → D.nx σ H'
theorem good_true {α β : Type} {Wx : WX} {σ : L2.St} {R R' : Hp → Hp → β → α → Prop} {H F : Hp} {o : Out α} {Q : β → Hp → Prop} (h : Good W Wx σ R H F o (fun _ _ => True)) (q : ∀ d p', o = .ok d p' → ∀ v H' F', Step W H F H' F' p' → R' H' F' v d → Q v H') : Good W Wx σ R' H F o Q := by
  cases o with
  | bad => exact h
  | err e p => exact h
  | ok d p => exact fun v H' F' s r => q d p rfl v H' F' s r
theorem good_first {α β : Type} {Wx : WX} {σ : L2.St} {R : Hp → Hp → β → α → Prop} {H F : Hp} {γ δ : Type} {R2 : Hp → Hp → δ → γ → Prop} {o : Out α} {f : α → M γ} (h : Good W Wx σ R2 H F (o.bind f) (fun _ _ => True)) : Good W Wx σ R H F o (fun _ _ => True) := by
  cases o with
  | bad => exact h
  | err e p => exact h
  | ok d p => exact fun _ _ _ _ _ => trivial
theorem good_from {α β : Type} {Wx : WX} {σ : L2.St} {R : Hp → Hp → β → α → Prop} {Hc F0 H F : Hp} {p : Pen} {o : Out α} {Q : β → Hp → Prop} (s : Step W Hc F0 H F p) (h : Good W Wx σ R Hc F0 o Q) : Good W Wx σ R H F o Q := by
  cases o with
  | bad => exact h
  | err e p => exact fun cls dd H' F' s2 q => h cls dd H' F' (s.trans s2) q
  | ok d p => exact fun v H' F' s2 r => h v H' F' (s.trans s2) r
theorem cfl_len (c : Nat) : (cfl c).length ≤ 800 := by unfold cfl; split <;> decide
theorem pss_sets {X : Cx} {Wx : WX} {sc : Scope} {fnb : Str → Bool} {self : Str} {c : Nat} (so : SOk X W S T L sc fnb) (tk : Takes X Wx) (nd : ((cfl c).map fname).Nodup) : ∀ (sets : List (Nat × IE)) (pre : List Nat) (st : List Stmt), pre ++ sets.map (·.1) = cfl c → chkSets S sc self sets st = true → PSs X st (tSets W Wx T c pre sets)
  | [], pre, [], _, _ => pss_w pss_nil fun D σ H z => by
    obtain ⟨Hc, F0, ρ, F, p, a, d, C, fs, xs, r, h1, h2, h3, h4⟩ := z
    exact h4 [] p rfl H F fs (by simpa using r) (by simpa using h2)
  | [], _, _ :: _, _, h => by cases h
  | _ :: _, _, [], _, h => by cases h
  | (f, e) :: r, pre, s :: st, hp, h => by
    have h' : ((match pSet s with
      | some (a, g, v) => a == self && g == fname f && nmOk S sc 0 self && chkE S sc e v
      | none => false) && chkSets S sc self r st) = true := h
    obtain ⟨h1, h2⟩ := Bool.and_eq_true_iff.mp h'
    have ih := pss_sets so tk nd r (pre ++ [f]) st (by rw [List.append_assoc]; exact hp) h2
    cases q : pSet s with
    | none => rw [q] at h1; cases h1
    | some z =>
    obtain ⟨x, g, v⟩ := z
    rw [q] at h1
    obtain ⟨px, pg, pp, rfl⟩ := pSet_inv q
    have h1 : (x == self && g == fname f && nmOk S sc 0 self && chkE S sc e v) = true := h1
    simp only [Bool.and_eq_true, beq_iff_eq] at h1
    obtain ⟨⟨⟨e1, e2⟩, e3⟩, e4⟩ := h1
    subst e1 e2
    have pv0 : PE X (.Name x px) (tVar 0) := nm_of so.ok e3
    have pvv := (sE e X Wx sc fnb v so.ok tk e4).pd
    refine pss_w (pss_cons (ps_fld pv0 pvv (by cases v <;> rfl)) ih) fun D σ H z => ?_
    obtain ⟨Hc, F0, ρ, F, p, a, d, C, fs, xs, ir, hC, hfs, hg, hk⟩ := z
    have hg1 : Good W Wx σ (rD W) Hc F0 (dE T e ρ p) (fun _ _ => True) := good_first (R2 := rA W) (f := fun d => M.bind (dSets T r ρ) fun ds => M.pure (d :: ds)) hg
    refine ⟨ρ, F, p, ir.st.ctx, ir.en, good_true (R' := rD W) (good_from ir.st hg1) fun d1 p1 eo y H1 F1 s1 ry => ?_⟩
    have ext : ∀ b o, Fx o → H b = some o → H1 b = some o := fun b o hx e => s1.ext b o (fun z => by
      obtain ⟨ca, q⟩ := ir.st.ctx.pa
      rw [z, q] at e; cases e; exact hx.dK _ rfl) hx.tbl e
    have ha1 := ext a _ Fx.ins ir.ha
    have hd1 := ext d _ Fx.own ir.hd
    have fa1 := s1.new.fr a _ Fx.ins ir.fa ir.ha
    have fd1 := s1.new.fr d _ Fx.own ir.fd ir.hd
    have co := so.ok.cls c C hC
    have hfc : f ∈ cfl c := by rw [← hp]; simp
    have hnf : fname f ∉ fs.map (·.1) := fun z => by
      rw [hfs] at z
      rw [← hp] at nd
      simp only [List.map_append, List.map_cons] at nd
      have := (List.nodup_append.mp nd).2.2
      exact this _ z _ (List.mem_cons_self ..) rfl
    have hlen : fs.length < 1000 := by
      have l1 : fs.length = pre.length := by rw [← List.length_map (f := (·.1)), hfs, List.length_map]
      have l2 := cfl_len c
      have l3 : pre.length ≤ (cfl c).length := by rw [← hp]; simp
      omega
    refine ⟨_, ir.s0, a, C, d, fs, rfl, ha1, co.cl, co.no f hfc, hlen, ?_⟩
    rw [putF_new hnf]
    have ir2 : InRel W Hc F0 σ (upd H1 a (.ins C d (fs ++ [(fname f, y)]))) ρ F1 p1 a d C (fs ++ [(fname f, y)]) (xs ++ [d1]) :=
      ⟨step_ins (ir.st.trans s1) ir.ca fa1 ha1, env_ins (ir.en.step ir.st.ctx s1) ha1, ir.s0, upd_same, by rw [upd_ne ir.ne]; exact hd1, fa1, fd1, ir.ca, ir.cd, ir.ne, by
        rw [List.map_append]
        exact (ir.rd.mono s1.le).append (.cons ry .nil)⟩
    refine ⟨Hc, F0, ρ, F1, p1, a, d, C, _, _, ir2, hC, by simp [hfs], ?_, fun ys p' eys H' F' gs ir3 hgs => ?_⟩
    · have hg' : Good W Wx σ (rA W) Hc F0 ((M.bind (dSets T r ρ) fun ds => M.pure (d1 :: ds)) p1) (fun _ _ => True) := by
        have : dSets T ((f, e) :: r) ρ p = (M.bind (dSets T r ρ) fun ds => M.pure (d1 :: ds)) p1 := by
          show (dE T e ρ p).bind _ = _
          rw [eo]; rfl
        rw [this] at hg; exact hg
      exact good_first (R2 := rA W) (f := fun ds => M.pure (d1 :: ds)) hg'
    · have : dSets T ((f, e) :: r) ρ p = .ok (d1 :: ys) p' := by
        show (dE T e ρ p).bind _ = _
        rw [eo]
        show (dSets T r ρ p1).bind _ = _
        rw [eys]; rfl
      exact hk _ _ this H' F' gs (by rw [List.append_assoc] at ir3; exact ir3) (by rw [List.append_assoc] at hgs; exact hgs)
theorem sIn {X : Cx} {Wx : WX} {sc : Scope} {fnb : Str → Bool} {self : Str} {c : Nat} {sets : List (Nat × IE)} (so : SOk X W S T L sc fnb) (tk : Takes X Wx) (nd : ((cfl c).map fname).Nodup) (hs : sets.map (·.1) = cfl c) : ∀ (as : ISs) (st : List Stmt), chkIn S sc fnb self sets as st = true →
    PSs X st fun D σ H => tS W Wx (dSs T as) { D with nx := fun σ' H' => tSets W Wx T c [] sets D σ' H' } σ H
  | .nil, st, h => pss_w (pss_sets (T := T) so tk nd sets [] st hs h) fun D σ H z => by
    obtain ⟨H0, F0, ρ, F, p, r, g⟩ := z
    exact g σ H F r (Le.refl F)
  | .cons a as, st, h => by
    have h' : (if isGhost a then chkIn S sc fnb self sets as st else match st with
      | s :: r => chkS S sc fnb a s && chkIn S sc fnb self sets as r
      | [] => false) = true := by cases st <;> exact h
    by_cases hg : isGhost a = true
    · rw [if_pos hg] at h'
      cases a <;> try (cases hg; done)
      exact pss_w (sIn so tk nd hs as st h') fun D σ H z => tS_fz z
    · rw [if_neg hg] at h'
      cases st with
      | nil => cases h'
      | cons s st =>
        obtain ⟨h1, h2⟩ := Bool.and_eq_true_iff.mp (show (chkS S sc fnb a s && chkIn S sc fnb self sets as st) = true from h')
        refine pss_w (pss_cons (sS a (by simpa using hg) X Wx sc fnb s so tk h1) (sIn so tk nd hs as st h2)) fun D σ H z => ?_
        obtain ⟨H0, F0, ρ, F, p, r, g⟩ := z
        exact ⟨H0, F0, ρ, F, p, r, seq_good (D := { D with nx := fun σ' H' => tSets W Wx T c [] sets D σ' H' }) g fun ρ' p' σ' H' F' r' g' => ⟨H0, F0, ρ', F', p', r', g'⟩⟩
end
/-! the world of an instance that is being made -/
def Wd.mine (W : Wd) (a : Addr) : Wd := { W with me := a }
mutual
theorem Rd.to {W V : Wd} {F : Hp} (h0 : V.K = W.K) (h1 : V.cls = W.cls) (h2 : V.pa = W.pa) (h3 : V.lam = W.lam) : ∀ {v : L2.V} {d : D}, DL.Rd W F v d → DL.Rd V F v d
  | _, _, .non => .non
  | _, _, .bl b => .bl b
  | _, _, .int i => .int i
  | _, _, .str x => .str x
  | _, _, .tup h r => .tup (by rw [h0]; exact h) (RdA.to h0 h1 h2 h3 r)
  | _, _, .lst h r => .lst h (RdA.to h0 h1 h2 h3 r)
  | _, _, .ins a b c d r => .ins a b (by rw [h1]; exact c) d (RdA.to h0 h1 h2 h3 r)
  | _, _, .dct a b r => .dct a b (RdA.to h0 h1 h2 h3 r)
  | _, _, .pen => h2 ▸ .pen
  | _, _, .clo h a b => .clo (by rw [h3]; exact h) a b
theorem RdA.to {W V : Wd} {F : Hp} (h0 : V.K = W.K) (h1 : V.cls = W.cls) (h2 : V.pa = W.pa) (h3 : V.lam = W.lam) : ∀ {vs : List L2.V} {xs : List D}, RdA W F vs xs → RdA V F vs xs
  | _, _, .nil => .nil
  | _, _, .cons h r => .cons (Rd.to h0 h1 h2 h3 h) (RdA.to h0 h1 h2 h3 r)
end
section
variable {W : Wd} {a : Addr}
theorem Rd.mi {F : Hp} {v : V} {d : D} (h : DL.Rd W F v d) : DL.Rd (W.mine a) F v d := Rd.to (W := W) (V := W.mine a) rfl rfl rfl rfl h
theorem Rd.im {F : Hp} {v : V} {d : D} (h : DL.Rd (W.mine a) F v d) : DL.Rd W F v d := Rd.to (W := W.mine a) (V := W) rfl rfl rfl rfl h
theorem RdA.mi {F : Hp} {vs : List V} {ds : List D} (h : RdA W F vs ds) : RdA (W.mine a) F vs ds := RdA.to (W := W) (V := W.mine a) rfl rfl rfl rfl h
theorem RdA.im {F : Hp} {vs : List V} {ds : List D} (h : RdA (W.mine a) F vs ds) : RdA W F vs ds := RdA.to (W := W.mine a) (V := W) rfl rfl rfl rfl h
theorem Ctx.mi {H F : Hp} {p : Pen} (c : Ctx W H F p) : Ctx (W.mine a) H F p := ⟨c.sub, ⟨c.pen.no, c.pen.ok, c.pen.ob⟩, c.b0, c.nt, c.tbs⟩
theorem Ctx.im {H F : Hp} {p : Pen} (c : Ctx (W.mine a) H F p) : Ctx W H F p := ⟨c.sub, ⟨c.pen.no, c.pen.ok, c.pen.ob⟩, c.b0, c.nt, c.tbs⟩
theorem Step.im {H F H' F' : Hp} {p : Pen} (s : Step (W.mine a) H F H' F' p) : Step W H F H' F' p := ⟨s.pk, s.ext, s.tb, s.new, s.ctx.im⟩
theorem Step.mi {H F H' F' : Hp} {p : Pen} (s : Step W H F H' F' p) : Step (W.mine a) H F H' F' p := ⟨s.pk, s.ext, s.tb, s.new, s.ctx.mi⟩
theorem ExcAt.im {H F : Hp} {e : Exc} {cls : Value} {dd : Option Addr} (x : ExcAt (W.mine a) H F e cls dd) : ExcAt W H F e cls dd := by
  obtain ⟨C, h1, h2, fs, h3, h4⟩ := x
  refine ⟨C, h1, h2, fs, fun k f hk => ?_, h4⟩
  obtain ⟨v, d, e1, e2, r⟩ := h3 k f hk
  exact ⟨v, d, e1, e2, r.im⟩
/-- an object is frozen -/
theorem Step.frz {H F H' F' : Hp} {p : Pen} {q : Addr} {u : HO} (s : Step W H F H' F' p) (hn : H q = none) (hf : F' q = none) (hh : H' q = some u) (hu : Fx u) : Step W H F H' (upd F' q u) p := by
  have hq : q ≠ W.pa := fun z => by
    obtain ⟨ca, e⟩ := s.ctx.pa
    rw [z, e] at hh; cases hh; exact hu.dK _ rfl
  refine ⟨s.pk, s.ext, s.tb, ⟨fun b u e => by rw [upd_ne (ne_of_none (s.le b u e) hf)]; exact s.le b u e, fun b ws hu e e' => ?_⟩, ⟨fun b u e => ?_, ⟨?_, s.ctx.pen.ok, ?_⟩, fun b u e => by rw [upd_ne (ne_of_none (s.ctx.b0 b u e) hf)]; exact s.ctx.b0 b u e, fun b ps e => ?_, s.ctx.tbs⟩⟩
  · rw [upd_ne (ne_of_none e' hn)]; exact s.new.fr b ws hu e e'
  · by_cases hb : b = q
    · subst hb; rw [upd_same] at e; cases e; exact hh
    · rw [upd_ne hb] at e; exact s.ctx.sub b u e
  · rw [upd_ne (Ne.symm hq)]; exact s.ctx.pen.no
  · obtain ⟨ca, h1, h2⟩ := s.ctx.pen.ob
    exact ⟨ca, h1, by rw [upd_ne (fun z => by rw [z, hf] at h2; cases h2)]; exact h2⟩
  · by_cases hb : b = q
    · subst hb; rw [upd_same] at e; cases e; exact hu.tbl _ rfl
    · rw [upd_ne hb] at e; exact s.ctx.nt b ps e
end
section
variable {W : Wd} {h : Sh} {P : Program} {w : World} {K : PySem.W.Frag} {mg : Str → Option Value} {base : Heap} {L : Nat} {G : Gt}
theorem envN_ok {H F : Hp} {N : List Str} {vs : List V} {ds : List D} (r : RdA W F vs ds) (hN : 0 < N.length) : EnvOk W H F (L2.start N (.ref W.me :: vs)) (envN N.length ds) := by
  have e0 := env0_ok (H := H) (N := N.tail) r
  have hl : N.tail.length = N.length - 1 := by simp
  have es : L2.start N (.ref W.me :: vs) = some (.ref W.me) :: L2.start N.tail vs := by
    unfold L2.start
    simp only [List.map_cons, List.cons_append, List.length_cons, hl]
    rw [show N.length - (vs.length + 1) = N.length - 1 - vs.length from by omega]
  rw [es]
  unfold envN
  rw [hl] at e0
  refine ⟨by simp [e0.len], fun i s e => ?_, fun i j xs ys p e1 e2 e3 e4 => ?_⟩
  · cases i with
    | zero => simp at e; subst e; exact ⟨_, rfl, rfl⟩
    | succ i => simp at e; obtain ⟨o, h1, h2⟩ := e0.sl i s e; exact ⟨o, by simpa using h1, h2⟩
  · cases i with
    | zero => simp at e1
    | succ i => cases j with
      | zero => simp at e2
      | succ j => rw [e0.sep i j xs ys p (by simpa using e1) (by simpa using e2) (by simpa using e3) (by simpa using e4)]
theorem envN_own {nl : Nat} {ds : List D} {i : Nat} {xs : List D} (e : (envN nl ds)[i]? = some (.own xs)) : False := by
  cases i with
  | zero => simp [envN] at e
  | succ i =>
    have e : (env0 (nl - 1) ds)[i]? = some (.own xs) := by simpa [envN] using e
    unfold env0 at e
    have := List.mem_of_getElem? e
    rcases List.mem_append.mp this with z | z
    · obtain ⟨d, _, z⟩ := List.mem_map.mp z; cases z
    · have z := List.eq_of_mem_replicate z; cases z
/-- __init__ of an own class, by its text -/
theorem cls_sound (m : ∀ a, MOk (W.mine a) h P w K mg base L) (g : ∀ a, GOk (W.mine a) P w K mg base L G) (hL : 2 ≤ L) {c : Nat} {C f : Addr} (hC : W.cls c = some C) {name qual : Str} {params : Arguments} {body : List Stmt} {scope : Scope} {dV kV doc pm cdv ct oc : Value} {an od : Option Addr} {osl : Array (Option Value)} {N ps : List Str} {n : Nat} {ir : ISs} {self : Str} {sets : List (Nat × IE)}
    (lk : K.lookup f = some ⟨oc, od, .func (PySem.W.fnOf name qual params body scope dV kV doc pm an cdv ct), osl⟩) (hcd : PySem.W.codeIn K cdv qual = true) (FS : FnScope N ps scope) (hn : ps.length = n + 1) (hN : 0 < N.length) (hs : sets.map (·.1) = cfl c)
    (hchk : chkIn (scOf h G N) scope (fun _ => true) self sets ir body = true) : FnG P w K mg base (L + 1) f (PySem.W.fnOf name qual params body scope dV kV doc pm an cdv ct) ps (spN W C (runN (tbOf G h) ir c sets N.length n) n) := by
  refine fng_of lk hcd FS (fun vs H Q E z => ?_) fun A outer s H vs Q E hq z => ?_
  · obtain ⟨a, d, ws, Hc, rfl, h1, _⟩ := z
    rw [List.length_cons, h1, hn]
  obtain ⟨a, d, ws, Hc, rfl, h1, hH, ca, cd, ne, ds, F, p, cx, r, gd⟩ := z
  have tk : Takes (cxOf (L2.CX P w) P w K mg base N qual scope f cdv A outer s H E) (fun c d _ H' => E c d H') := L2.takes_of rfl rfl rfl rfl
  have po : PassesOwn (model P w) (cxOf (L2.CX P w) P w K mg base N qual scope f cdv A outer s H E).A (cxOf (L2.CX P w) P w K mg base N qual scope f cdv A outer s H E).env (cxOf (L2.CX P w) P w K mg base N qual scope f cdv A outer s H E).xe := L2.passes_of rfl
  have ok := xok_of (X := cxOf (L2.CX P w) P w K mg base N qual scope f cdv A outer s H E) (m a) (g a) rfl rfl rfl rfl rfl rfl FS.nd (fnb := fun _ => true) (fun _ _ => rfl) rfl hq
  have so : SOk (cxOf (L2.CX P w) P w K mg base N qual scope f cdv A outer s H E) (W.mine a) (scOf h G N) (tbOf G h) L scope (fun _ => true) := ⟨ok, FS.kind, po, fun c x e => by
    obtain ⟨k, rfl⟩ : ∃ k, L = k + 2 := ⟨L - 2, by omega⟩
    exact (m a).mkx _ k rfl rfl rfl rfl rfl hq rfl c x e⟩
  have st0 : Step W Hc F H F p := by
    have s1 := Step.lay0 cx (.own a) cd
    have s2 := Step.lay0 s1.ctx (a := a) (.ins C d []) (by rw [upd_ne (Ne.symm ne)]; exact ca)
    rw [hH]; exact s1.trans s2
  have fa := cx.freeF ca
  have fd := cx.freeF cd
  have ha : H a = some (.ins C d []) := by rw [hH, upd_same]
  have hd : H d = some (.own a) := by rw [hH, upd_ne ne, upd_same]
  have hd' : ds.length = n := by rw [← r.length]; exact h1
  refine ⟨_, sIn so tk ((ok.cls c C hC).nd) hs ir body hchk, H, F, envN N.length ds, F, p, ⟨Step.refl st0.ctx.mi, envN_ok (W := W.mine a) r.mi hN, fun i xs q e1 e2 => (envN_own e1).elim⟩, ?_⟩
  have gd' : Good W (fun c d _ H' => E c d H') [] (rD W) Hc F (if ds.length = n then outN (tbOf G h) c sets (dSs (tbOf G h) ir (envN N.length ds) p) else .bad) (fun v H' => v = .ref a → Q .non H') := gd
  rw [if_pos hd'] at gd'
  cases eo : dSs (tbOf G h) ir (envN N.length ds) p with
  | bad => rw [eo] at gd'; exact gd'
  | err e p1 => rw [eo] at gd'; exact fun cls dd σ' H' F' s x => gd' cls dd H' F' (st0.trans s.im) x.im
  | ok fl ρ p1 =>
    rw [eo] at gd'
    cases fl with
    | rt d => exact gd'.elim
    | brk => exact gd'.elim
    | cnt => exact gd'.elim
    | nx =>
      intro σ' H' F' rl _
      have hme : isMe ρ[0]? = true := by
        by_cases hm : isMe ρ[0]? = true
        · exact hm
        · have gd3 : Good W (fun c d _ H' => E c d H') [] (rD W) Hc F (if isMe ρ[0]? = true then (M.bind (dSets (tbOf G h) sets ρ) fun ds => M.pure (.ins c ds)) p1 else .bad) (fun v H' => v = .ref a → Q .non H') := gd'
          rw [if_neg hm] at gd3
          exact gd3.elim
      have gd' : Good W (fun c d _ H' => E c d H') [] (rD W) Hc F (if isMe ρ[0]? = true then (M.bind (dSets (tbOf G h) sets ρ) fun ds => M.pure (.ins c ds)) p1 else .bad) (fun v H' => v = .ref a → Q .non H') := gd'
      rw [if_pos hme] at gd'
      have gd2 : Good W (fun c d _ H' => E c d H') [] (rD W) Hc F ((M.bind (dSets (tbOf G h) sets ρ) fun ds => M.pure (.ins c ds)) p1) (fun v H' => v = .ref a → Q .non H') := gd'
      have keep : ∀ b o, Fx o → H b = some o → H' b = some o := fun b o hx e => rl.st.ext b o (fun z => by
        obtain ⟨cc, q⟩ := st0.ctx.pa
        have z' : b = W.pa := z
        rw [z', q] at e; cases e; exact hx.dK _ rfl) hx.tbl e
      have s0 : σ'[0]? = some (some (.ref a)) := by
        have e0 : ρ[0]? = some .me := by
          unfold isMe at hme
          split at hme
          · assumption
          · cases hme
        obtain ⟨o, e1, e2⟩ := rl.en.sl 0 _ e0
        rw [e1, show o = some (.ref a) from e2]
      refine ⟨Hc, F, ρ, F', p1, a, d, C, [], [], ⟨st0.mi.trans rl.st, rl.en, s0, keep _ _ Fx.ins ha, keep _ _ Fx.own hd, rl.st.new.fr a _ Fx.ins fa ha, rl.st.new.fr d _ Fx.own fd hd, ca, cd, ne, .nil⟩, hC, rfl, ?_, fun ys p' ey H2 F2 gs ir2 hgs => ?_⟩
      · cases ey : dSets (tbOf G h) sets ρ p1 with
        | bad =>
          have e3 : (M.bind (dSets (tbOf G h) sets ρ) fun ds => M.pure (D.ins c ds)) p1 = .bad := by show (dSets (tbOf G h) sets ρ p1).bind _ = _; rw [ey]; rfl
          rw [e3] at gd2; exact gd2
        | err e p2 =>
          have e3 : (M.bind (dSets (tbOf G h) sets ρ) fun ds => M.pure (D.ins c ds)) p1 = .err e p2 := by show (dSets (tbOf G h) sets ρ p1).bind _ = _; rw [ey]; rfl
          rw [e3] at gd2
          exact fun cls dd H' F' s x => gd2 cls dd H' F' s.im x.im
        | ok ys p2 => exact fun _ _ _ _ _ => trivial
      · have e3 : (M.bind (dSets (tbOf G h) sets ρ) fun ds => M.pure (D.ins c ds)) p1 = .ok (.ins c ys) p' := by show (dSets (tbOf G h) sets ρ p1).bind _ = _; rw [ey]; rfl
        rw [e3] at gd2
        have t1 := ir2.st.im.frz ir2.cd ir2.fd ir2.hd Fx.own
        have t2 := t1.frz ir2.ca (by rw [upd_ne (Ne.symm ne)]; exact ir2.fa) ir2.ha Fx.ins
        refine gd2 (.ref a) H2 _ t2 (.ins upd_same (by rw [upd_ne ne]; exact upd_same) hC (by simpa [hs] using hgs) ?_) rfl
        have le : Le F2 (upd (upd F2 d (.own a)) a (.ins C d gs)) := fun b u e => by
          rw [upd_ne (ne_of_none e ir2.fa), upd_ne (ne_of_none e ir2.fd)]; exact e
        exact (ir2.rd.im).mono le
end
end DL
set_option maxHeartbeats 4000000
namespace DL
open PySem PySem.Spec PyProof.Rows L2

/-! ### try, several clauses with a name -/
def wManyN (K : PySem.W.Frag) (Wout : WX) (i : Nat) (D : Ends) : List (Value × (Addr → Value → Option Addr → TS)) → WX
  | [] => Wout
  | (c, ts) :: r => fun cls d σ H => ∃ b, PySem.W.exmOne K cls c = some b ∧
      (b = true → ∀ a, H a = none → ts a cls d { nx := fun σ' H' => D.nx (σ'.set i none) H', rt := D.rt, bk := fun σ' H' => D.bk (σ'.set i none) H', ct := fun σ' H' => D.ct (σ'.set i none) H' } (σ.set i (some (.ref a))) H) ∧ (b = false → wManyN K Wout i D r cls d σ H)
inductive HdsN (X : Cx) (n : Str) : List ExceptHandler → List (Value × (Addr → Value → Option Addr → TS)) → Prop
  | nil : HdsN X n [] []
  | cons {x : Str} {c : Value} {ts : Addr → Value → Option Addr → TS} {b₀ : Stmt} {suite : List Stmt} {np pos' : Pos} {hds : List ExceptHandler} {l : List (Value × (Addr → Value → Option Addr → TS))} (hc : Names X x c)
      (hsuite : ∀ (a : Addr) (oe : Obj) (cls : Value) (d : Option Addr) (pn : List (Addr × Obj)), Zc cls d oe → (∃ vs, oe.data = .fields vs) → PSs (X.suite a ((a, oe) :: pn)) (b₀ :: suite) (ts a cls d)) (r : HdsN X n hds l) :
      HdsN X n (.ExceptHandler (some (.Name x np)) (some n) (b₀ :: suite) pos' :: hds) ((c, ts) :: l)
section
variable {X : Cx} {body : List Stmt} {h₀ : ExceptHandler} {hds : List ExceptHandler} {l : List (Value × (Addr → Value → Option Addr → TS))} {pos : Pos} {tb : WX → TS} {Wout : WX} {i : Nat} {n : Str}
theorem ps_try_manyN (hstk : X.stack = X.env :: X.outer) (hfrm : X.env.frame = some X.env.locals) (hN : X.N.Nodup) (hi : X.N[i]? = some n) (hln : X.env.kindOf n = some .local) (tkO : Takes X Wout)
    (hbody : ∀ (W : WX) (pn : List (Addr × Obj)) (xe : Value → Shared → Prop), Takes (X.tr pn xe) W → PassesOwn (model X.prog X.w) X.A X.env xe → PSs (X.tr pn xe) body (tb W))
    (hhds : HdsN X n (h₀ :: hds) l) : PS X (.Try body (h₀ :: hds) [] [] pos) (fun D σ H => tb (wManyN X.K Wout i D l) D σ H) := by
  refine ⟨fun pz s σ H D inv h => ?_⟩
  have okX := inv.ok
  have hframes : X.A.frames = some (X.env :: X.outer) := by rw [okX.frames, hstk]
  refine wpAny_Try_except ?_
  refine wpAny_mono ((hbody (wManyN X.K Wout i D l) (X.pn ++ pz) (fun e s₁ => wpAny (model X.prog X.w) X.A (noteFrame e X.env) (fun _ s₂ => wpAny (model X.prog X.w) X.A (setFlight e none) (fun _ s₃ =>
    wpAny (model X.prog X.w) X.A (handleBy e X.env (h₀ :: hds)) (SP X pz D) X.xe s₃) X.xe s₂) X.xe s₁) (fun u s' flown => ?_) PassesOwn.looking).run [] s σ H D (inv.toTry _) h) (fun f s1 hres => ?_) (fun e s1 he => he)
  · -- the catch
    obtain ⟨a, B, sI, pz2, σ', H', cls, d, rfl, J', nbelow, upS, skyX, noneA, osE, agE, w⟩ := flown
    have jB : Inv X pz σ' H' sI := J'.ofTry okX
    have skyY : Sky B (X.env :: X.outer) a (Zc cls d) X.env.locals s'.heap := by rw [← hstk]; exact skyX
    refine (show wpAny (model X.prog X.w) X.A (noteFrame (.ref a) X.env) _ _ _ from ?_)
    refine Sky.land Zc.steady hframes hfrm skyY fun hC flC upC => ?_
    have jC : Inv X pz σ' H' { s' with heap := hC } := jB.landed nbelow flC.1 (upS.trans upC) osE agE
    obtain ⟨oeC, vsC, heC, hzC, hdC⟩ := flC.there
    have offFr : ∀ {h : Heap} {o : Obj} {vs : Array Value}, h.FunFrames B (X.env :: X.outer) → h.get? a = some o → o.data = .fields vs → a ∉ frs (X.env :: X.outer) := fun {h o vs} ff e dd hm => by
      obtain ⟨_, oF, eF, hnf⟩ := ff.mem hm
      rw [e] at eF; cases eF
      exact hnf _ dd
    have nofr := offFr flC.2.2.1 heC hdC
    have neL : a ≠ X.env.locals := fun z => nofr (List.mem_filterMap.mpr ⟨X.env, List.mem_cons_self, by rw [hfrm, z]⟩)
    have neF : a ∉ X.fs := fun hm => by
      obtain ⟨ev, hev, q⟩ := List.mem_filterMap.mp hm
      exact nofr (List.mem_filterMap.mpr ⟨ev, List.mem_cons_of_mem _ hev, q⟩)
    have sC := jC.suite heC hdC noneA neL neF
    have walk : ∀ {hds' : List ExceptHandler} {l' : List (Value × (Addr → Value → Option Addr → TS))}, HdsN X n hds' l' → wManyN X.K Wout i D l' cls d σ' H' →
        wpAny (model X.prog X.w) X.A (handleBy (.ref a) X.env hds') (SP X pz D) X.xe { s' with heap := hC } := by
      intro hds' l' hk
      induction hk with
      | nil =>
        intro w
        refine wpAny_handleBy_nil ?_
        obtain ⟨k1, k2, k3, oe, vs, tB, oT, ts', he, hz, hd, h1, hr⟩ := id flC
        unfold PySem.passOn
        refine wpAny_bind (wpAny_field he hd h1 ?_)
        rw [if_neg (show ¬ ((Value.ref tB == Value.none) = true) from by simp)]
        have lands : wpAny (model X.prog X.w) X.A (setFlight (.ref a) X.env.frame) (fun _ s4 => wpAny (model X.prog X.w) X.A (throw (.ref a) : Sem Flow) (SP X pz D) X.xe s4) X.xe { s' with heap := hC } := by
          rw [hfrm]
          refine HandSPX.setFlight_upZ flC fun hD hh4 upD => wpAny_throw (tkO _ _ ?_)
          exact ⟨a, B, sI, pz, σ', H', cls, d, rfl, jB, nbelow, (upS.trans upC).trans upD, .inr (.inr (by rw [hstk]; exact hh4)), noneA, osE, agE, w⟩
        first
          | exact wpAny_bind (wpAny_pure (wpAny_bind lands))
          | exact wpAny_bind lands
      | @cons x c ts b₀ suite np pos' hdsR lR hc hsuite r ih =>
        intro w
        obtain ⟨b, hbool, hcaught, hmiss⟩ := w
        refine wpAny_handleBy_cons (codeAny_handlers_test ?_) (by intro w2; cases w2)
        have lookT : PySem.W.Looks (model X.prog X.w) hC (typeOf (.ref a)) cls := fun A Q E s k q => wpAny_typeOf_ref (k _ _ heC) (by rw [hzC.1]; exact q)
        have lookM := PySem.W.exm_one (M := model X.prog X.w) (jC.kIn) lookT hbool
        have seen : ∀ {Q : Value → Shared → Prop} {E : Value → Shared → Prop}, Q c { s' with heap := hC } → wpAny (model X.prog X.w) (X.A.mark (some (.ref a))) (eval (.Name x np) X.env) Q E { s' with heap := hC } := fun {Q E} q => by
          obtain ⟨hgl, hdbg, hm | ⟨hm, hv, hnn⟩⟩ := hc
          · exact ld_glob (X := X.suite a ((a, oeC) :: (X.pn ++ pz))) sC hgl hm q hdbg
          · exact ld_blt (X := X.suite a ((a, oeC) :: (X.pn ++ pz))) sC hgl hm hv q hnn hdbg
        refine seen (lookM.here ?_)
        cases b with
        | true =>
          refine codeAny_handlers_suite_as ?_
          refine HandSPX.lands_againZ flC fun hD flD upD => ?_
          have jD : Inv X pz σ' H' { s' with heap := hD } := jB.landed nbelow flD.1 ((upS.trans upC).trans upD) osE agE
          obtain ⟨oeD, vsD, heD, hzD, hdD⟩ := flD.there
          have sD := jD.suite heD hdD noneA neL neF
          refine store_ok (X := X.suite a ((a, oeD) :: (X.pn ++ pz))) (v := .ref a) sD hN hi (.inl hln) rfl (fun s5 sB => ?_) (.inr hln)
          refine wpAny_mono ((hsuite a oeD cls d (X.pn ++ pz) hzD ⟨_, hdD⟩).run [] s5 _ H' _ sB (hcaught rfl a noneA)) (fun f s6 hres => ?_) (fun _ _ z => False.elim z)
          have off : ∀ {σ6 : L2.St} {H6 : Hp} {Q : Shared → Prop}, Inv (X.suite a ((a, oeD) :: (X.pn ++ pz))) [] σ6 H6 s6 → (∀ s7, Inv X pz (σ6.set i none) H6 s7 → Q s7) →
              wpAny (model X.prog X.w) X.A (do bindName X.env n .none; unbindBehindTheSuite X.env n pos') (fun _ s7 => Q s7) X.xe s6 := fun {σ6 H6 Q} sE6 hq => gone_ok (sE6.unsuite okX) hN hi hln hq
          cases f with
          | next => obtain ⟨σ6, H6, sE6, q6⟩ := hres; exact off sE6 fun s7 jE => ⟨_, _, jE, q6⟩
          | brk => obtain ⟨σ6, H6, sE6, q6⟩ := hres; exact off sE6 fun s7 jE => ⟨_, _, jE, q6⟩
          | cont => obtain ⟨σ6, H6, sE6, q6⟩ := hres; exact off sE6 fun s7 jE => ⟨_, _, jE, q6⟩
          | ret u => obtain ⟨v6, σ6, H6, sE6, r6, q6⟩ := hres; exact off sE6 fun s7 jE => ⟨_, _, _, jE, r6, q6⟩
        | false =>
          show wpAny _ X.A (handleBy (.ref a) X.env hdsR) _ _ _
          exact ih (hmiss rfl)
    exact walk hhds w
  · cases f with
    | next =>
      obtain ⟨σ', H', J', q⟩ := hres
      exact wpAny_execs_nil ⟨σ', H', J'.ofTry okX, q⟩
    | brk =>
      obtain ⟨σ', H', J', q⟩ := hres
      exact ⟨σ', H', J'.ofTry okX, q⟩
    | cont =>
      obtain ⟨σ', H', J', q⟩ := hres
      exact ⟨σ', H', J'.ofTry okX, q⟩
    | ret u =>
      obtain ⟨v, σ', H', J', r, q⟩ := hres
      exact ⟨v, σ', H', J'.ofTry okX, r, q⟩
end
end DL
set_option maxHeartbeats 4000000
namespace DL
open PySem PySem.Spec PyProof.Rows L2

/-! ### the laws' _law_fault: an exception told by its fields -/
structure ExK (W : Wd) (K : PySem.W.Frag) : Prop where
  xf : ∀ e C, W.ecls e = some C → XfC K C
  no : ∀ e C, W.ecls e = some C → ∀ f ∈ efl e, PySem.W.findIn K (.ref C) f = some none
  one : ∀ e C k C', W.ecls e = some C → W.ecls k = some C' → PySem.W.exmOne K (.ref C) (.ref C') = some (e == k)
def chkFl (n : Str) : List Str → List Expr → Bool
  | [], [] => true
  | f :: fs, .Attribute (.Name x _) g _ :: es => x == n && f == g && chkFl n fs es
  | _, _ => false
def pHd : ExceptHandler → Option (Str × Str × Str × List Expr)
  | .ExceptHandler (some (.Name x _)) (some n) [.Return (some (.Tuple (.Constant (.str t) _ _ :: es) _ _)) _] _ => some (x, n, t, es)
  | _ => none
theorem pHd_inv {e : ExceptHandler} {x n t : Str} {es : List Expr} (h : pHd e = some (x, n, t, es)) : ∃ p1 k1 p2 k2 p3 p4 p5, e = .ExceptHandler (some (.Name x p1)) (some n) [.Return (some (.Tuple (.Constant (.str t) k1 p2 :: es) k2 p3)) p4] p5 := by
  unfold pHd at h
  split at h
  · cases h; exact ⟨_, _, _, _, _, _, _, rfl⟩
  · cases h
def chkHd (exn : Nat → Option Str) (sc : Scope) (n : Str) : List (Nat × Str) → List ExceptHandler → Bool
  | [], [] => true
  | (e, tag) :: r, hd :: hs => (match pHd hd with
    | some (x, m, t, es) => decide (exn e = some x) && glOk sc x && m == n && t == tag && chkFl n (efl e) es
    | none => false) && chkHd exn sc n r hs
  | _, _ => false
/-- what is told of an exception -/
def tellX : List (Nat × Str) → Exc → Option D
  | [], _ => none
  | (k, tag) :: r, e => if e.c = k then some (.tup (.str tag :: e.xs.take (efl e.c).length)) else tellX r e
def tFlds (a : Addr) (cls : Value) (d : Option Addr) (C : Addr) (i : Nat) : List Str → TA
  | [] => tNil
  | f :: fs => tCons (tXf a cls d C f (tVar i)) (tFlds a cls d C i fs)
section
variable {X : Cx} {W : Wd} {Wx : WX}
theorem pa_flds {a C : Addr} {oe : Obj} {cls : Value} {d : Option Addr} {pn : List (Addr × Obj)} {n : Str} {i : Nat} (T : XfC X.K C) (hz : Zc cls d oe) (hf : ∃ vs, oe.data = .fields vs) (hv : ∀ p, PE (X.suite a ((a, oe) :: pn)) (.Name n p) (tVar i)) :
    ∀ (fl : List Str) (es : List Expr), (∀ f ∈ fl, PySem.W.findIn X.K (.ref C) f = some none) → chkFl n fl es = true → PA (X.suite a ((a, oe) :: pn)) es (tFlds a cls d C i fl)
  | [], [], _, _ => pa_nil
  | [], _ :: _, _, h => by cases h
  | _ :: _, [], _, h => by cases h
  | f :: fs, e :: es, hno, h => by
    cases e <;> try (cases h; done)
    rename_i v g p1
    cases v <;> try (cases h; done)
    rename_i x p2
    have h' : (x == n && f == g && chkFl n fs es) = true := h
    simp only [Bool.and_eq_true, beq_iff_eq] at h'
    obtain ⟨⟨rfl, rfl⟩, h3⟩ := h'
    exact pa_cons (pe_xf T (hno _ List.mem_cons_self) hz hf (hv p2) rfl) (pa_flds T hz hf hv fs es (fun f hf => hno f (List.mem_cons_of_mem _ hf)) h3) rfl
theorem tFlds_ok {a dd C : Addr} {i : Nat} {σ : L2.St} {H : Hp} {fs : List (Str × V)} (h1 : σ[i]? = some (some (.ref a))) (h2 : H dd = some (.xd fs)) : ∀ {fl : List Str} {vs : List V} {Q : List V → Hp → Prop}, Paired (fun f v => fs.lookup f = some v) fl vs → Q vs H → tFlds a (.ref C) (some dd) C i fl σ H Q
  | _, _, _, .nil, q => q
  | _, _, _, .cons h r, q => ⟨.ref a, h1, rfl, rfl, dd, fs, _, rfl, h2, h, tFlds_ok h1 h2 r q⟩
theorem flds_of {F : Hp} {fs : List (Str × V)} : ∀ (fl : List Str) (xs : List D), (∀ (k : Nat) (f : Str), fl[k]? = some f → ∃ v d, fs.lookup f = some v ∧ xs[k]? = some d ∧ DL.Rd W F v d) → ∃ vs, Paired (fun f v => fs.lookup f = some v) fl vs ∧ RdA W F vs (xs.take fl.length)
  | [], xs, _ => ⟨[], .nil, by simp; exact .nil⟩
  | f :: fl, xs, h => by
    obtain ⟨v, d, h1, h2, h3⟩ := h 0 f rfl
    cases xs with
    | nil => cases h2
    | cons x xs =>
      cases h2
      obtain ⟨vs, p, r⟩ := flds_of fl xs fun k g hk => by
        obtain ⟨v', d', e1, e2, e3⟩ := h (k + 1) g hk
        exact ⟨v', d', e1, e2, e3⟩
      exact ⟨v :: vs, .cons h1 p, by simp; exact .cons h3 r⟩
abbrev hdTs (W : Wd) (i : Nat) (q : Nat × Str) : Value × (Addr → Value → Option Addr → TS) :=
  (.ref ((W.ecls q.1).getD 0), fun a cls d => tSeq (tRet (tTup (tCons (tC (.str q.2)) (tFlds a cls d ((W.ecls q.1).getD 0) i (efl q.1))))) tNext)
theorem hds_ok (ex : ExK W X.K) {exn : Nat → Option Str} (en : ∀ e x, exn e = some x → ∃ C, W.ecls e = some C ∧ X.mg x = some (.ref C)) {sc : Scope} (hs : X.env.scope = sc) {n : Str} {i : Nat} (hN : X.N[i]? = some n) (hln : sc.names.lookup n = some .local) (hd : (n == ("__debug__" : Str)) = false) (hcd : (n == ("__classdict__" : Str)) = false) :
    ∀ (r : List (Nat × Str)) (hds : List ExceptHandler), chkHd exn sc n r hds = true → HdsN X n hds (r.map (hdTs W i))
  | [], [], _ => .nil
  | [], _ :: _, h => by cases h
  | _ :: _, [], h => by cases h
  | (e, tag) :: r, hd0 :: hds, h => by
    have h' : ((match pHd hd0 with | some (x, m, t, es) => decide (exn e = some x) && glOk sc x && m == n && t == tag && chkFl n (efl e) es | none => false) && chkHd exn sc n r hds) = true := h
    obtain ⟨h1, h2⟩ := Bool.and_eq_true_iff.mp h'
    cases q : pHd hd0 with
    | none => rw [q] at h1; cases h1
    | some z =>
      obtain ⟨x, m, t, es⟩ := z
      rw [q] at h1
      have h1 : (decide (exn e = some x) && glOk sc x && m == n && t == tag && chkFl n (efl e) es) = true := h1
      simp only [Bool.and_eq_true, decide_eq_true_eq, beq_iff_eq] at h1
      obtain ⟨⟨⟨⟨a1, a2⟩, rfl⟩, rfl⟩, a5⟩ := h1
      obtain ⟨p1, k1, p2, k2, p3, p4, p5, rfl⟩ := pHd_inv q
      obtain ⟨C, hC, hm⟩ := en e x a1
      simp only [glOk, Bool.and_eq_true, isGl, decide_eq_true_eq, Bool.not_eq_true'] at a2
      have hC' : (W.ecls e).getD 0 = C := by rw [hC]; rfl
      refine .cons (c := .ref ((W.ecls e).getD 0)) ⟨by show X.env.scope.names.lookup x = _; rw [hs]; exact a2.1, a2.2, .inl (by rw [hC']; exact hm)⟩ (fun a oe cls d pn hz hf => ?_) (hds_ok ex en hs hN hln hd hcd r hds h2)
      have hv : ∀ p, PE (X.suite a ((a, oe) :: pn)) (.Name m p) (tVar i) := fun p => pe_var (X := X.suite a ((a, oe) :: pn)) hN (.inl (by show X.env.scope.names.lookup m = _; rw [hs]; exact hln)) hd hcd
      rw [hC']
      exact pss_cons (ps_ret (pe_tup (pa_cons pe_str (pa_flds (ex.xf e C hC) hz hf hv (efl e) es (ex.no e C hC) a5) rfl))) pss_nil
theorem many_of (ex : ExK W X.K) {i : Nat} {Wout : WX} {D : Ends} {σ : L2.St} {H F : Hp} {p : Pen} (c : Ctx W H F p) (hi : i < σ.length) {e : Exc} {cls : Value} {dd : Option Addr} (x : ExcAt W H F e cls dd) :
    ∀ (r : List (Nat × Str)), (∀ q ∈ r, ∃ C, W.ecls q.1 = some C) → (∀ dt, tellX r e = some dt → ∀ v H2 F2, Step W H F H2 F2 p → DL.Rd W F2 v dt → D.rt v H2) → (tellX r e = none → Wout cls dd σ H) → wManyN X.K Wout i D (r.map (hdTs W i)) cls dd σ H
  | [], _, _, h2 => h2 rfl
  | (k, tag) :: r, hr, h1, h2 => by
    obtain ⟨C, hC, hcls, fs, hfl, hdd⟩ := id x
    obtain ⟨C', hC'⟩ := hr (k, tag) List.mem_cons_self
    have hg : (W.ecls k).getD 0 = C' := by rw [show W.ecls k = some C' from hC']; rfl
    subst hcls
    refine ⟨e.c == k, by rw [hg]; exact ex.one _ _ _ _ hC hC', fun hb a ha => ?_, fun hb => ?_⟩
    · have hk : e.c = k := beq_iff_eq.mp hb
      subst hk
      rw [hC] at hC'
      cases hC'
      show tRet (tTup (tCons (tC (.str tag)) (tFlds a (.ref C) dd ((W.ecls e.c).getD 0) i (efl e.c)))) _ (σ.set i (some (.ref a))) H
      rw [hg]
      obtain ⟨vs, pv, rv⟩ := flds_of (efl e.c) e.xs hfl
      have fin : ∀ p2, H p2 = none → D.rt (.ref p2) (upd H p2 (.tup (V.str tag :: vs))) := fun p2 hp2 => by
        have st := Step.lay c (.tup (V.str tag :: vs)) hp2
        refine h1 _ (by unfold tellX; rw [if_pos rfl]) _ _ _ st (.tup (SqT.of upd_same) (.cons (.str tag) (rv.mono st.le)))
      have hlen : (V.str tag :: vs).length ≤ sizeLine := by
        have h3 := rv.length
        rw [List.length_take] at h3
        have h4 : (efl e.c).length ≤ 1000 := by unfold efl; split <;> decide
        rw [sizeLine_eq, List.length_cons]
        omega
      by_cases hne : efl e.c = []
      · rw [hne] at pv
        cases pv
        rw [hne]
        exact ⟨hlen, fin⟩
      · obtain ⟨d, rfl, hxd⟩ := hdd hne
        exact tFlds_ok (by rw [List.getElem?_set_self hi]) hxd pv ⟨hlen, fin⟩
    · have hk : e.c ≠ k := fun z => by rw [z] at hb; simp at hb
      exact many_of ex c hi x r (fun q hq => hr q (List.mem_cons_of_mem _ hq)) (fun dt hdt => h1 dt (by unfold tellX; rw [if_neg hk]; exact hdt)) (fun hn => h2 (by unfold tellX; rw [if_neg hk]; exact hn))
end
end DL
set_option maxHeartbeats 4000000
namespace DL
open PySem PySem.Spec PyProof.Rows L2

/-- what _law_fault is worth: the closure's exception, told -/
def mFault (r : List (Nat × Str)) (clo : Nat → M D) : List D → M D := fun ds p => match ds with
  | [.clo n] => match clo n p with
    | .ok _ p' => .ok .non p'
    | .err e p' => match tellX r e with
      | some dt => .ok dt p'
      | none => .err e p'
    | .bad => .bad
  | _ => .bad
def pTry : List Stmt → Option (Str × List ExceptHandler)
  | [.Try [.Expr (.Call (.Name x _) [] [] _) _] (h :: hds) [] [] _, .Return (some (.Constant .none _ _)) _] => some (x, h :: hds)
  | _ => none
theorem pTry_inv {b : List Stmt} {x : Str} {hs : List ExceptHandler} (h : pTry b = some (x, hs)) : ∃ h0 hds p1 p2 p3 p4 k p5 p6, hs = h0 :: hds ∧ b = [.Try [.Expr (.Call (.Name x p1) [] [] p2) p3] (h0 :: hds) [] [] p4, .Return (some (.Constant .none k p5)) p6] := by
  unfold pTry at h
  split at h
  · cases h; exact ⟨_, _, _, _, _, _, _, _, _, rfl, rfl⟩
  · cases h
/-- the look at the text of _law_fault -/
def chkFault (exn : Nat → Option Str) (sc : Scope) (a n : Str) (r : List (Nat × Str)) (b : List Stmt) : Bool := match pTry b with
  | some (x, hs) => x == a && chkHd exn sc n r hs && decide (sc.names.lookup n = some .local) && (visB sc a && !dbg a && !(a == "__classdict__") && !dbg n && !(n == "__classdict__"))
  | none => false
section
variable {W : Wd} {h : Sh} {P : Program} {w : World} {K : PySem.W.Frag} {mg : Str → Option Value} {base : Heap} {L : Nat} {G : Gt}
theorem fault_sound (m : MOk W h P w K mg base L) (ex : ExK W K) (en : ∀ e x, h.exn e = some x → ∃ C, W.ecls e = some C ∧ mg x = some (.ref C)) {f : Addr} {name qual : Str} {params : Arguments} {body : List Stmt} {scope : Scope} {dV kV doc pm cdv ct oc : Value} {an od : Option Addr} {osl : Array (Option Value)} {a n : Str} {r : List (Nat × Str)}
    (lk : K.lookup f = some ⟨oc, od, .func (PySem.W.fnOf name qual params body scope dV kV doc pm an cdv ct), osl⟩) (hcd : PySem.W.codeIn K cdv qual = true) (FS : FnScope [a, n] [a] scope) (hr : ∀ q ∈ r, ∃ C, W.ecls q.1 = some C)
    (hchk : chkFault h.exn scope a n r body = true) : FnG P w K mg base (L + 1) f (PySem.W.fnOf name qual params body scope dV kV doc pm an cdv ct) [a] (spD W (mFault r h.clo) 1) := by
  refine fng_of lk hcd FS (fun vs H Q E z => z.1) fun A outer s H vs Q E hq z => ?_
  obtain ⟨hv, ds, F, p, c, rr, gd⟩ := z
  have tk : Takes (cxOf (L2.CX P w) P w K mg base [a, n] qual scope f cdv A outer s H E) (fun c d _ H' => E c d H') := L2.takes_of rfl rfl rfl rfl
  cases q : pTry body with
  | none => unfold chkFault at hchk; rw [q] at hchk; cases hchk
  | some z =>
    obtain ⟨x, hs⟩ := z
    have hchk' : (x == a && chkHd h.exn scope n r hs && decide (scope.names.lookup n = some .local) && (visB scope a && !dbg a && !(a == "__classdict__") && !dbg n && !(n == "__classdict__"))) = true := by
      unfold chkFault at hchk; rw [q] at hchk; exact hchk
    obtain ⟨h0, hds, p1, p2, p3, p4, k, p5, p6, rfl, rfl⟩ := pTry_inv q
    simp only [Bool.and_eq_true, beq_iff_eq, decide_eq_true_eq, Bool.not_eq_true'] at hchk'
    obtain ⟨⟨⟨rfl, c2⟩, c3⟩, ⟨⟨⟨c4, c5⟩, c6⟩, c7⟩, c8⟩ := hchk'
    have hh := hds_ok (X := cxOf (L2.CX P w) P w K mg base [x, n] qual scope f cdv A outer s H E) ex en rfl (i := 1) rfl c3 c7 c8 r _ c2
    refine ⟨_, pss_cons (ps_try_manyN (i := 1) (n := n) rfl rfl FS.nd rfl c3 tk (tb := fun Wm => tSeq (tDrop (tD W Wm (dE (tbOf [] h) (.callV 0)))) tNext) (fun Wm pn xe tk2 _ => ?_) hh) (pss_cons (ps_ret pe_non) pss_nil), ?_⟩
    · have ok := xok_of (X := (cxOf (L2.CX P w) P w K mg base [x, n] qual scope f cdv A outer s H E).tr pn xe) (G := []) m gok_nil (N := [x, n]) rfl rfl rfl rfl rfl rfl FS.nd (fnb := fun _ => true) (fun _ _ => rfl) rfl hq
      have hn : nmOk (scOf h [] [x, n]) scope 0 x = true := by
        show (decide (([x, n] : List Str)[0]? = some x) && visB scope x && !dbg x && !(x == "__classdict__")) = true
        rw [c4, c5, c6]; simp
      exact pss_cons (ps_expr (sE (.callV 0) _ Wm scope _ (.Call (.Name x p1) [] [] p2) ok tk2 hn).pd (by rfl)) pss_nil
    · have hlen : ds.length = 1 := by rw [← rr.length]; exact hv
      rcases ds with _ | ⟨d, _ | ⟨_, _⟩⟩
      · cases hlen
      · cases d <;> try exact gd.elim
        rename_i nn
        have gd' : Good W (fun c d _ H' => E c d H') [] (rD W) H F (match h.clo nn p with | .ok _ p' => .ok .non p' | .err e p' => (match tellX r e with | some dt => .ok dt p' | none => .err e p') | .bad => .bad) Q := gd
        refine ⟨env0 2 [.clo nn], F, p, c, env0_ok (N := [x, n]) rr, ?_⟩
        show Good W _ _ (rD W) H F (h.clo nn p) _
        have hσ : 1 < (L2.start [x, n] vs).length := by
          unfold L2.start
          simp [hv]
        cases eo : h.clo nn p with
        | bad => rw [eo] at gd'; exact gd'
        | ok d2 p' =>
          rw [eo] at gd'
          exact fun v H' F' st _ => gd' .non H' F' st .non
        | err e p' =>
          rw [eo] at gd'
          intro cls dd H' F' st xx
          refine many_of ex st.ctx hσ xx r hr (fun dt hdt v H2 F2 st2 rv => ?_) fun hn => ?_
          · have g2 : Good W (fun c d _ H' => E c d H') [] (rD W) H F (match tellX r e with | some dt => .ok dt p' | none => .err e p') Q := gd'
            rw [hdt] at g2
            exact g2 v H2 F2 (st.trans st2) rv
          · have g2 : Good W (fun c d _ H' => E c d H') [] (rD W) H F (match tellX r e with | some dt => .ok dt p' | none => .err e p') Q := gd'
            rw [hn] at g2
            exact g2 cls dd H' F' st xx
      · cases hlen
end
end DL
set_option maxHeartbeats 4000000
namespace DL
open PySem PySem.Spec PyProof.Rows L2

/-! ### an own class of exceptions is made -/
/-- what the written part says of the base class at R, whose __init__ is ValueError's -/
structure BaseEx (K : PySem.W.Frag) (R : Addr) : Prop where
  ga : PySem.W.specialIn K (.ref R) "__getattribute__" = some (some (.builtin "type.__getattribute__"))
  ty : PySem.W.typeIn K (.ref R) = some (.type "type")
  rd : PySem.W.readsIn K R (.type "type") = true
  ini : PySem.W.findCls K (.ref R) (.type "type") "__init__" = some (.val (.builtin "ValueError.__init__"))
section
variable {X : Cx} {e : Expr} {es : List Expr} {ta : TA} {p1 p2 pos : Pos} {x : Str} {R : Addr}
theorem pe_reinit {pl : Sem Bool} (B : BaseEx X.K R) (hg : Gl X x) (hm : X.mg x = some (.ref R)) (hd : (x == ("__debug__" : Str)) = false) (ha : PA X (e :: es) ta) (h1 : notStar e = true) (h2 : noStars es = true)
    (hc : eval (.Call (.Attribute (.Name x p1) "__init__" p2) (e :: es) [] pos) X.env = (do
      let ov ← eval (.Name x p1) X.env
      standAt p2.atName
      let (f, first) ← holding [ov] (getMethod ov "__init__" pl)
      callWith pos f first (backTo pos (starEach (e :: es) X.env)) (backToKw pos (keywordEach [] X.env))) := by rfl) :
    PE X (.Call (.Attribute (.Name x p1) "__init__" p2) (e :: es) [] pos) (tVeI X.K ta) := ⟨fun pins s σ H Q I h => by
  obtain ⟨m, fr⟩ := I.fr
  refine PySem.W.methodCall_KW (ld_glob I hg hm (PySem.W.method_of_cls fr I.ok.mod.kin B.ga (PySem.W.cls_val fr I.ok.mod.kin B.ty B.rd B.ini (by decide +kernel) ?_)) hd) hc
  refine PyProof.Rows.callWith_method1 (first := []) (thn (ha.run pos pins _ σ H _ (I.tok _) h) fun us s1 z => ?_) (star_cons h1) (star_any h2)
  obtain ⟨vs, H1, I1, r1, a, C, ws, rfl, hl, T, ea, q⟩ := z
  cases r1 with
  | @cons _ u0 _ ur ra rw' =>
    cases (show u0 = Value.ref a from ra)
    exact oinit_ok T I1 ea (by rw [← Paired.length rw', sizeLine_eq]; omega) fun s' J => ⟨.non, H1, J, rfl, q⟩⟩
end
theorem upd_upd {H : Hp} {a : Addr} {o u : HO} : upd (upd H a o) a u = upd H a u := by
  funext b
  by_cases hb : b = a
  · subst hb; rw [upd_same, upd_same]
  · rw [upd_ne hb, upd_ne hb, upd_ne hb]
theorem upd_swap {H : Hp} {a b : Addr} {o u : HO} (h : a ≠ b) : upd (upd H a o) b u = upd (upd H b u) a o := by
  funext c
  by_cases h1 : c = a
  · subst h1; rw [upd_ne h, upd_same, upd_same]
  · by_cases h2 : c = b
    · subst h2; rw [upd_same, upd_ne h1, upd_same]
    · rw [upd_ne h2, upd_ne h1, upd_ne h1, upd_ne h2]
def tIni (K : PySem.W.Frag) : Nat → List Str → TS
  | _, [] => tNext
  | i, f :: fs => tSeq (tOst K f (tVar 0) (tVar i)) (tIni K (i + 1) fs)
def pAs : Stmt → Option (Str × Str × Str)
  | .Assign [.Attribute (.Name a _) g _] (.Name y _) _ => some (a, g, y)
  | _ => none
theorem pAs_inv {s : Stmt} {a g y : Str} (h : pAs s = some (a, g, y)) : ∃ p1 p2 p3 p4, s = .Assign [.Attribute (.Name a p1) g p2] (.Name y p3) p4 := by
  unfold pAs at h
  split at h
  · cases h; exact ⟨_, _, _, _, rfl⟩
  · cases h
def chkAs (N : List Str) (sc : Scope) (self : Str) : Nat → List Str → List Stmt → Bool
  | _, [], [] => true
  | i, f :: fs, s :: st => (match pAs s with
    | some (a, g, y) => a == self && g == f && decide (N[i]? = some y) && visB sc y && !dbg y && !(y == "__classdict__")
    | none => false) && chkAs N sc self (i + 1) fs st
  | _, _, _ => false
section
variable {X : Cx} {self : Str}
theorem pss_ini (hs : ∀ p, PE X (.Name self p) (tVar 0)) : ∀ (fs : List Str) (i : Nat) (st : List Stmt), chkAs X.N X.env.scope self i fs st = true → PSs X st (tIni X.K i fs)
  | [], _, [], _ => pss_nil
  | [], _, _ :: _, h => by cases h
  | f :: fs, i, [], h => by cases h
  | f :: fs, i, s :: st, h => by
    have h' : ((match pAs s with | some (a, g, y) => a == self && g == f && decide (X.N[i]? = some y) && visB X.env.scope y && !dbg y && !(y == "__classdict__") | none => false) && chkAs X.N X.env.scope self (i + 1) fs st) = true := h
    obtain ⟨h1, h2⟩ := Bool.and_eq_true_iff.mp h'
    cases q : pAs s with
    | none => rw [q] at h1; cases h1
    | some z =>
      obtain ⟨a, g, y⟩ := z
      rw [q] at h1
      obtain ⟨p1, p2, p3, p4, rfl⟩ := pAs_inv q
      simp only [Bool.and_eq_true, beq_iff_eq, decide_eq_true_eq, Bool.not_eq_true', dbg] at h1
      obtain ⟨⟨⟨⟨⟨ha, hgf⟩, h3⟩, h4⟩, h5⟩, h6⟩ := h1
      have ha := ha.symm
      have hgf := hgf.symm
      subst ha hgf
      have hv : Vis X.env.scope y := by
        unfold visB at h4
        unfold Vis
        split at h4
        · rename_i e; exact .inl e
        · rename_i e; exact .inr (.inl e)
        · rename_i e; exact .inr (.inr e)
        · cases h4
      exact pss_cons (ps_ost (hs p1) (pe_var h3 hv (by simpa using h5) (by simpa using h6)) (by rfl)) (pss_ini hs fs (i + 1) st h2)
theorem ini_old {K : PySem.W.Frag} {C a dx : Addr} {σ : L2.St} {D : Ends} (T : OexC K C) (h0 : σ[0]? = some (some (.ref a))) (hne : dx ≠ a) : ∀ (fs : List Str) (ws : List V) (i : Nat) (acc : List (Str × V)) (H : Hp), ws.length = fs.length → (∀ (k : Nat) (w : V), ws[k]? = some w → σ[i + k]? = some (some w)) → (∀ f ∈ fs, PySem.W.findIn K (.ref C) f = some none) →
    H a = some (exo a C (some dx)) → H dx = some (exd dx acc) → acc.length + fs.length ≤ 900 → D.nx σ (upd H dx (exd dx ((List.zip fs ws).reverse ++ acc))) → tIni K i fs D σ H
  | [], ws, i, acc, H, _, _, _, h1, h2, _, q => by
    have e : upd H dx (exd dx ((List.zip [] ws).reverse ++ acc)) = H := by
      funext b
      by_cases hb : b = dx
      · subst hb; rw [upd_same, h2]; simp
      · rw [upd_ne hb]
    rw [e] at q; exact q
  | f :: fs, [], i, acc, H, hl, _, _, _, _, _, _ => by cases hl
  | f :: fs, w :: ws, i, acc, H, hl, hσ, hno, h1, h2, hz, q => by
    refine ⟨w, hσ 0 w rfl, .ref a, h0, a, C, rfl, T, hno f List.mem_cons_self, .inr ⟨dx, acc, h1, h2, by simp at hz; omega, ?_⟩⟩
    refine ini_old T h0 hne fs ws (i + 1) ((f, w) :: acc) (upd H dx (exd dx ((f, w) :: acc))) (by simpa using hl) (fun k v e => by have := hσ (k + 1) v e; rwa [show i + (k + 1) = i + 1 + k from by omega] at this) (fun g hg => hno g (List.mem_cons_of_mem _ hg)) (by rw [upd_ne (Ne.symm hne)]; exact h1) upd_same (by simp at hz ⊢; omega) ?_
    rw [upd_upd]
    have e : (List.zip (f :: fs) (w :: ws)).reverse ++ acc = (List.zip fs ws).reverse ++ (f, w) :: acc := by simp
    rw [← e]; exact q
theorem ini_new {K : PySem.W.Frag} {C a : Addr} {σ : L2.St} {D : Ends} {H : Hp} (T : OexC K C) (h0 : σ[0]? = some (some (.ref a))) {f : Str} {fs : List Str} {w : V} {ws : List V} (hl : ws.length = fs.length) (hσ : ∀ (k : Nat) (v : V), (w :: ws)[k]? = some v → σ[1 + k]? = some (some v)) (hno : ∀ g ∈ f :: fs, PySem.W.findIn K (.ref C) g = some none)
    (h1 : H a = some (exo a C none)) (hz : fs.length ≤ 800) (q : ∀ dx, H dx = none → dx ≠ a → D.nx σ (upd (upd H dx (exd dx (List.zip (f :: fs) (w :: ws)).reverse)) a (exo a C (some dx)))) : tIni K 1 (f :: fs) D σ H := by
  refine ⟨w, hσ 0 w rfl, .ref a, h0, a, C, rfl, T, hno f List.mem_cons_self, .inl ⟨h1, fun dx hdx hne => ?_⟩⟩
  refine ini_old T h0 hne fs ws 2 [(f, w)] _ hl (fun k v e => by have := hσ (k + 1) v e; rwa [show 1 + (k + 1) = 2 + k from by omega] at this) (fun g hg => hno g (List.mem_cons_of_mem _ hg)) upd_same (by rw [upd_ne hne, upd_same]) (by simp; omega) ?_
  have e : (List.zip (f :: fs) (w :: ws)).reverse = (List.zip fs ws).reverse ++ [(f, w)] := by simp
  have q' := q dx hdx hne
  rw [e] at q'
  rw [upd_swap (Ne.symm hne), upd_upd]
  exact q'
end
end DL
set_option maxHeartbeats 4000000
namespace DL
open PySem PySem.Spec PyProof.Rows L2

/-! ### __init__ of an own class of exceptions -/
def pIni : List Stmt → Option (Str × Str × List Stmt)
  | .Expr (.Call (.Attribute (.Name x _) g q) [.Name a _, .Constant (.str _) _ _] [] r) _ :: st => if g = "__init__" ∧ (q.endLine == r.line) = true then some (x, a, st) else none
  | _ => none
theorem pIni_inv {b st : List Stmt} {x a : Str} (h : pIni b = some (x, a, st)) : ∃ p1 p2 p3 t k p4 p5 p6, (p2.endLine == p5.line) = true ∧ b = .Expr (.Call (.Attribute (.Name x p1) "__init__" p2) [.Name a p3, .Constant (.str t) k p4] [] p5) p6 :: st := by
  unfold pIni at h
  split at h
  · split at h
    · rename_i hg
      cases h
      obtain ⟨hg, hl⟩ := hg
      subst hg
      exact ⟨_, _, _, _, _, _, _, _, hl, rfl⟩
    · cases h
  · cases h
def chkIni (base self : Str) (N : List Str) (sc : Scope) (fl : List Str) (b : List Stmt) : Bool := match pIni b with
  | some (x, a, st) => x == base && a == self && glOk sc x && decide (N[0]? = some self) && visB sc self && !dbg self && !(self == "__classdict__") && chkAs N sc self 1 fl st
  | none => false
theorem eval_ini {x a t : Str} {k : Nat} {p1 p2 p3 p4 p5 : Pos} {env : Env} (hline : (p2.endLine == p5.line) = true) : eval (.Call (.Attribute (.Name x p1) "__init__" p2) [.Name a p3, .Constant (.str t) k p4] [] p5) env = (do
      let ov ← eval (.Name x p1) env
      standAt p2.atName
      let (f, first) ← holding [ov] (calleeOf true (.Name x p1) env ov "__init__")
      callWith p5 f first (backTo p5 (starEach [.Name a p3, .Constant (.str t) k p4] env)) (backToKw p5 (keywordEach [] env))) := by
  rw [arm_eval_Call]
  have hpos : methodCallPos true (.Name x p1) env p2 p5 = pure p5 := by unfold methodCallPos; simp [hline]
  have hform : methodCallForm 2 (backTo p5 (starEach [.Name a p3, .Constant (.str t) k p4] env)) (backToKw p5 (keywordEach [] env)) = true := rfl
  unfold methodCall
  show (do
    let ov ← eval (.Name x p1) env
    standAt p2.atName
    let (f, first) ← holding [ov] (calleeOf (methodCallForm 2 (backTo p5 (starEach [.Name a p3, .Constant (.str t) k p4] env)) (backToKw p5 (keywordEach [] env))) (.Name x p1) env ov "__init__")
    let callPos ← methodCallPos (methodCallForm 2 (backTo p5 (starEach [.Name a p3, .Constant (.str t) k p4] env)) (backToKw p5 (keywordEach [] env))) (.Name x p1) env p2 p5
    callWith callPos f first (backTo p5 (starEach [.Name a p3, .Constant (.str t) k p4] env)) (backToKw p5 (keywordEach [] env))) = _
  rw [hform, hpos]
  rfl
def spI (K : PySem.W.Frag) (C : Addr) (fl : List Str) : Sp := fun vs H Q E => ∃ a ws, vs = .ref a :: ws ∧ ws.length = fl.length ∧ H a = some (exo a C none) ∧ ∀ dx, H dx = none → dx ≠ a → Q .non (upd (upd H dx (exd dx (List.zip fl ws).reverse)) a (exo a C (some dx)))
section
variable {P : Program} {w : World} {K : PySem.W.Frag} {mg : Str → Option Value} {base : Heap} {L : Nat}
theorem init_ok {CX : CXT} {R C : Addr} {bs self : Str} (B : BaseEx K R) (hmg : mg bs = some (.ref R)) (T : OexC K C) {fl : List Str} (hno : ∀ f ∈ fl, PySem.W.findIn K (.ref C) f = some none) (hne : fl ≠ []) (hz : fl.length ≤ 800) {f : Addr} {name qual : Str} {params : Arguments} {body : List Stmt} {scope : Scope} {dV kV doc pm cdv ct oc : Value} {an od : Option Addr} {osl : Array (Option Value)} {N ps : List Str}
    (lk : K.lookup f = some ⟨oc, od, .func (PySem.W.fnOf name qual params body scope dV kV doc pm an cdv ct), osl⟩) (hcd : PySem.W.codeIn K cdv qual = true) (FS : FnScope N ps scope) (hps : ps.length = fl.length + 1)
    (hchk : chkIni bs self N scope fl body = true) : FnOk P w K mg base CX (L + 1) f (PySem.W.fnOf name qual params body scope dV kV doc pm an cdv ct) ps (spI K C fl) := by
  refine fn_of lk hcd FS (fun vs H Q E z => ?_) fun A outer s H vs Q E hr z => ?_
  · obtain ⟨a, ws, rfl, h1, _⟩ := z
    rw [List.length_cons, h1, hps]
  · obtain ⟨a, ws, rfl, h1, h2, h3⟩ := z
    cases q : pIni body with
    | none => unfold chkIni at hchk; rw [q] at hchk; cases hchk
    | some z =>
      obtain ⟨x, a', st⟩ := z
      have hc : (x == bs && a' == self && glOk scope x && decide (N[0]? = some self) && visB scope self && !dbg self && !(self == "__classdict__") && chkAs N scope self 1 fl st) = true := by
        unfold chkIni at hchk; rw [q] at hchk; exact hchk
      simp only [Bool.and_eq_true, beq_iff_eq, decide_eq_true_eq, Bool.not_eq_true', dbg, glOk, isGl] at hc
      obtain ⟨⟨⟨⟨⟨⟨⟨e1, e2⟩, e3, e3'⟩, e4⟩, e5⟩, e6⟩, e7⟩, e8⟩ := hc
      have e1 := e1.symm
      have e2 := e2.symm
      subst e1 e2
      obtain ⟨p1, p2, p3, t, k, p4, p5, p6, hline, rfl⟩ := pIni_inv q
      have hv : Vis scope self := by
        unfold visB at e5
        unfold Vis
        split at e5
        · rename_i e; exact .inl e
        · rename_i e; exact .inr (.inl e)
        · rename_i e; exact .inr (.inr e)
        · cases e5
      have hs : ∀ p, PE (cxOf CX P w K mg base N qual scope f cdv A outer s H E) (.Name self p) (tVar 0) := fun p => pe_var e4 hv (by simpa using e6) (by simpa using e7)
      refine ⟨_, pss_cons (ps_expr (pe_reinit (pl := _) B e3 hmg (by simpa using e3') (pa_cons (hs p3) (pa_cons pe_str pa_nil rfl) rfl) rfl rfl (eval_ini hline)) (by rfl)) (pss_ini hs fl 1 st e8), ?_⟩
      have hlt : 1 ≤ N.length := by
        obtain ⟨hl, _⟩ := List.getElem?_eq_some_iff.mp e4; omega
      have h0 : (L2.start N (.ref a :: ws))[0]? = some (some (.ref a)) := by
        unfold L2.start; simp
      have hσ : ∀ (k : Nat) (v : V), ws[k]? = some v → (L2.start N (.ref a :: ws))[1 + k]? = some (some v) := fun k v e => by
        unfold L2.start
        obtain ⟨hl, e'⟩ := List.getElem?_eq_some_iff.mp e
        rw [List.getElem?_append_left (by simp; omega), List.getElem?_map, show 1 + k = k + 1 from by omega, List.getElem?_cons_succ, e]; rfl
      refine ⟨_, h0, a, C, [.str t], rfl, by simp, T, h2, ?_⟩
      cases fl with
      | nil => exact absurd rfl hne
      | cons f0 fl => cases ws with
        | nil => cases h1
        | cons w0 ws => exact ini_new T h0 (by simpa using h1) hσ hno h2 (by simp at hz; omega) fun dx n1 n2 => h3 dx n1 n2
theorem efl_nodup (c : Nat) : (efl c).Nodup := by unfold efl; split <;> decide
theorem efl_len (c : Nat) : (efl c).length ≤ 800 := by unfold efl; split <;> decide
theorem zip_look : ∀ {fl : List Str} {vs : List V} {k : Nat} {f : Str} {v : V}, fl.Nodup → fl[k]? = some f → vs[k]? = some v → (List.zip fl vs).reverse.lookup f = some v
  | [], _, _, _, _, _, h, _ => by simp at h
  | _ :: _, [], _, _, _, _, _, h => by simp at h
  | g :: fl, u :: vs, 0, f, v, nd, h1, h2 => by
    simp at h1 h2
    subst h1 h2
    rw [List.zip_cons_cons, List.reverse_cons, List.lookup_append]
    have : (List.zip fl vs).reverse.lookup g = none := by
      rw [List.lookup_eq_none_iff]
      intro p hp
      have hp := (List.of_mem_zip (List.mem_reverse.mp hp)).1
      simp only [beq_eq_false_iff_ne, bne_iff_ne, ne_eq]
      intro e
      exact (List.nodup_cons.mp nd).1 (e ▸ hp)
    rw [this]; simp [List.lookup]
  | g :: fl, u :: vs, k + 1, f, v, nd, h1, h2 => by
    rw [List.zip_cons_cons, List.reverse_cons, List.lookup_append, zip_look (k := k) (List.nodup_cons.mp nd).2 (by simpa using h1) (by simpa using h2)]; rfl
end
theorem passes_no {P : Program} {w : World} {X : Cx} (hp : X.prog = P) (hw : X.w = w) : Passes (L2.CX P w) X (fun _ _ _ => False) := by
  subst hp hw
  exact L2.passes_call (W := WF) takes_no fun _ _ _ _ h => h
/-- what the module tells of an exception class of its own -/
structure ExMk (P : Program) (w : World) (K : PySem.W.Frag) (mg : Str → Option Value) (base : Heap) (L : Nat) (W : Wd) (c : Nat) (x : Str) : Prop where
  mkd : ∃ C fI fd ps, W.ecls c = some C ∧ mg x = some (.ref C) ∧ OexC K C ∧ PySem.W.findIn K (.ref C) "__init__" = some (some (.ref fI)) ∧ PySem.W.typeIn K (.ref fI) = some (.type "function") ∧ Binds K fd ps [] ∧ FnOk P w K mg base (L2.CX P w) L fI fd ps (spI K C (efl c))
theorem mk_ok {X : Cx} {W : Wd} {L : Nat} {c : Nat} {x : Str} (m : ExMk X.prog X.w X.K X.mg X.base L W c x) (hr : Room (L + 1) X.A) (hne : efl c ≠ []) : MkOk X W c x := by
  intro Wx e es p pos ms tk hg hd hs ha hl hms pins s σ H Q I z
  obtain ⟨C, fI, fd, ps, hC, hm, T, i1, i2, hb, F1⟩ := m.mkd
  obtain ⟨h1, h2⟩ := Bool.and_eq_true_iff.mp (show (notStar e && noStars es) = true from hs)
  refine pmk_oex (dvs := []) (ds := []) T i1 i2 F1 hr hb .nil (passes_no rfl rfl) hg hm ha hd (star_cons h1) (star_any h2) pins s σ H Q I ?_
  obtain ⟨ρ, F, q, cx, en, g⟩ := z
  refine ⟨ρ, F, q, cx, en, ?_⟩
  cases eo : ms ρ q with
  | bad => rw [eo] at g; exact g
  | err x p1 => rw [eo] at g; exact g
  | ok ds p1 =>
    rw [eo] at g
    intro vs H1 F1' st r
    have hvl : vs.length = (efl c).length := by rw [RdA.length r, hms _ _ _ _ eo, hl]
    have h8 := efl_len c
    refine ⟨by omega, fun a ha1 => ⟨a, vs, by rw [List.append_nil], hvl, upd_same, fun dx hdx hdne => ⟨rfl, dx, _, upd_same, by rw [upd_ne hdne, upd_same], by rw [upd_ne hdne] at hdx; exact hdx, ?_⟩⟩⟩
    rw [upd_ne hdne] at hdx
    have hH : upd (del (upd (upd (upd H1 a (exo a C none)) dx (exd dx (List.zip (efl c) vs).reverse)) a (exo a C (some dx))) a) dx (.xd (List.zip (efl c) vs).reverse) = upd H1 dx (.xd (List.zip (efl c) vs).reverse) := by
      funext b
      by_cases hb1 : b = dx
      · subst hb1; rw [upd_same, upd_same]
      · rw [upd_ne hb1, upd_ne hb1]
        by_cases hb2 : b = a
        · subst hb2; rw [del_same, ha1]
        · rw [del_ne hb2, upd_ne hb2, upd_ne hb1, upd_ne hb2]
    rw [hH]
    have s2 := Step.lay0 st.ctx (.xd (List.zip (efl c) vs).reverse) hdx
    refine g (.ref C) (some dx) _ F1' (st.trans s2) ⟨C, hC, rfl, _, fun k f hk => ?_, fun _ => ⟨dx, rfl, upd_same⟩⟩
    obtain ⟨hklt, _⟩ := List.getElem?_eq_some_iff.mp hk
    have hk2 : k < vs.length := by rw [hvl]; exact hklt
    have hv : vs[k]? = some (vs[k]'hk2) := List.getElem?_eq_getElem hk2
    obtain ⟨d, e1, e2⟩ := RdA.get r hv
    exact ⟨_, d, zip_look (efl_nodup c) hk hv, e1, e2⟩
end DL
set_option maxHeartbeats 4000000
namespace DL
open PySem PySem.Spec PyProof.Rows L2

/-! ### the laws' _law_pen -/
structure PenTx where
  f : Str
  c : Str
  s : Str
  i : Str
  l : Str
def pPen : List Stmt → Option PenTx
  | [.Assign [.Name f0 _] (.Constant (.int 0) _ _) _,
     .For (.Name c0 _) (.Name s0 _) [.Assign [.Name f1 _] (.BinOp (.Call (.Name i0 _) [.BinOp (.BinOp (.Name f2 _) .Mult (.Constant (.int 97) _ _) _) .Add (.Name c1 _) _] [] _) .Mod (.Constant (.int 999999733) _ _) _) _] [] _,
     .Return (some (.Dict [some (.Constant (.str k1) _ _), some (.Constant (.str k2) _ _), some (.Constant (.str k3) _ _), some (.Constant (.str k4) _ _), some (.Constant (.str k5) _ _)]
       [.Call (.Name l0 _) [.Name s1 _] [] _, .Constant (.int 0) _ _, .Constant (.int 0) _ _, .Constant (.int 0) _ _, .Name f3 _] _)) _] =>
    if f1 = f0 ∧ f2 = f0 ∧ f3 = f0 ∧ c1 = c0 ∧ s1 = s0 ∧ k1 = "cells" ∧ k2 = "at" ∧ k3 = "digits" ∧ k4 = "count" ∧ k5 = "fold" ∧ i0 = "int" ∧ l0 = "list" then some ⟨f0, c0, s0, i0, l0⟩ else none
  | _ => none
theorem pPen_inv {b : List Stmt} {t : PenTx} (h : pPen b = some t) : ∃ p1 q1 p2 p3 p4 p5 p6 p7 p8 p9 q2 p10 p11 p12 p13 p14 q3 p15 p16 p17 p18 r1 r2 r3 r4 r5 s1 s2 s3 s4 s5 p19 p20 p21 r6 s6 r7 s7 r8 s8 p22 p23 p24, b =
  [.Assign [.Name t.f p1] (.Constant (.int 0) q1 p2) p3,
   .For (.Name t.c p4) (.Name t.s p5) [.Assign [.Name t.f p6] (.BinOp (.Call (.Name "int" p7) [.BinOp (.BinOp (.Name t.f p8) .Mult (.Constant (.int 97) q2 p9) p10) .Add (.Name t.c p11) p12] [] p13) .Mod (.Constant (.int 999999733) q3 p14) p15) p16] [] p17,
   .Return (some (.Dict [some (.Constant (.str "cells") r1 s1), some (.Constant (.str "at") r2 s2), some (.Constant (.str "digits") r3 s3), some (.Constant (.str "count") r4 s4), some (.Constant (.str "fold") r5 s5)]
       [.Call (.Name "list" p18) [.Name t.s p19] [] p20, .Constant (.int 0) r6 s6, .Constant (.int 0) r7 s7, .Constant (.int 0) r8 s8, .Name t.f p21] p22)) p23] ∧ p24 = p1 := by
  unfold pPen at h
  split at h
  · split at h
    · rename_i hh
      cases h
      obtain ⟨rfl, rfl, rfl, rfl, rfl, rfl, rfl, rfl, rfl, rfl, rfl, rfl⟩ := hh
      exact ⟨_, _, _, _, _, _, _, _, _, _, _, _, _, _, _, _, _, _, _, _, _, _, _, _, _, _, _, _, _, _, _, _, _, _, _, _, _, _, _, _, _, _, _, rfl, rfl⟩
    · cases h
  · cases h
/-- script's numbers, a new pen of them -/
def spPen (K : PySem.W.Frag) : Sp := fun vs H Q E => ∃ (a : Addr) (ns : List Int), vs = [.ref a] ∧ SqL K H a (ns.map V.int) ∧ ∀ (q l : Addr) (fo : Int), 0 ≤ fo → fo < 999999733 → H q = none → H l = none → q ≠ l →
  Q (.ref q) (upd (upd H l (.lst (ns.map V.int))) q (.dK (penKvs l ⟨ns, 0, 0, 0, fo⟩)))
def chkPen (sc : Scope) (b : List Stmt) : Option PenTx := match pPen b with
  | some t => if sc.names.lookup t.s = some .local ∧ sc.names.lookup t.f = some .local ∧ sc.names.lookup t.c = some .local ∧ sc.names.lookup ("int" : Str) = some NameKind.globalImplicit ∧ sc.names.lookup ("list" : Str) = some NameKind.globalImplicit ∧
      dbg t.s = false ∧ dbg t.f = false ∧ dbg t.c = false ∧ (t.s == ("__classdict__" : Str)) = false ∧ (t.f == ("__classdict__" : Str)) = false ∧ (t.c == ("__classdict__" : Str)) = false then some t else none
  | none => none
section
variable {P : Program} {w : World} {K : PySem.W.Frag} {mg : Str → Option Value} {base : Heap} {L : Nat}
theorem pen_sound (mi : mg "int" = none) (ml : mg "list" = none) {f : Addr} {name qual : Str} {params : Arguments} {body : List Stmt} {scope : Scope} {dV kV doc pm cdv ct oc : Value} {an od : Option Addr} {osl : Array (Option Value)} {t : PenTx}
    (lk : K.lookup f = some ⟨oc, od, .func (PySem.W.fnOf name qual params body scope dV kV doc pm an cdv ct), osl⟩) (hcd : PySem.W.codeIn K cdv qual = true) (FS : FnScope [t.s, t.f, t.c] [t.s] scope) (hchk : chkPen scope body = some t) :
    FnG P w K mg base (L + 1) f (PySem.W.fnOf name qual params body scope dV kV doc pm an cdv ct) [t.s] (spPen K) := by
  refine fng_of lk hcd FS (fun vs H Q E z => ?_) fun A outer s H vs Q E hq z => ?_
  · obtain ⟨a, ns, rfl, _⟩ := z; rfl
  obtain ⟨a, ns, rfl, ha, hQ⟩ := z
  cases q : pPen body with
  | none => unfold chkPen at hchk; rw [q] at hchk; cases hchk
  | some t' =>
    unfold chkPen at hchk
    rw [q] at hchk
    simp only at hchk
    split at hchk
    · rename_i hc
      cases hchk
      obtain ⟨c1, c2, c3, c4, c5, c6, c7, c8, c9, c10, c11⟩ := hc
      obtain ⟨p1, q1, p2, p3, p4, p5, p6, p7, p8, p9, q2, p10, p11, p12, p13, p14, q3, p15, p16, p17, p18, r1, r2, r3, r4, r5, s1, s2, s3, s4, s5, p19, p20, p21, r6, s6, r7, s7, r8, s8, p22, p23, p24, rfl, _⟩ := pPen_inv q
      generalize hX : cxOf (L2.CX P w) P w K mg base [t.s, t.f, t.c] qual scope f cdv A outer s H E = X
      have hN : X.N = [t.s, t.f, t.c] := by rw [← hX]; rfl
      have hKX : X.K = K := by rw [← hX]; rfl
      have hsc : X.env.scope = scope := by rw [← hX]; rfl
      have hmg : X.mg = mg := by rw [← hX]; rfl
      have hc : X.calm = true := by rw [← hX]; rfl
      have po : PassesOwn (model X.prog X.w) X.A X.env X.xe := by rw [← hX]; exact L2.passes_of rfl
      have vS : ∀ p, PE X (.Name t.s p) (tVar 0) := fun p => pe_var (by rw [hN]; rfl) (.inl (by rw [hsc]; exact c1)) (by simpa [dbg] using c6) c9
      have vF : ∀ p, PE X (.Name t.f p) (tVar 1) := fun p => pe_var (by rw [hN]; rfl) (.inl (by rw [hsc]; exact c2)) (by simpa [dbg] using c7) c10
      have vC : ∀ p, PE X (.Name t.c p) (tVar 2) := fun p => pe_var (by rw [hN]; rfl) (.inl (by rw [hsc]; exact c3)) (by simpa [dbg] using c8) c11
      have gi : Gl X "int" := by show X.env.scope.names.lookup _ = _; rw [hsc]; exact c4
      have gl : Gl X "list" := by show X.env.scope.names.lookup _ = _; rw [hsc]; exact c5
      have nd : X.N.Nodup := by rw [hN]; exact FS.nd
      have setF : ∀ {e : Expr} {te : TE} {pos p : Pos}, PE X e te → notLC e = true → PS X (.Assign [.Name t.f p] e pos) (tAsg te (gName 1)) := fun he hn => ps_set nd (by rw [hN]; rfl) (.inl (by rw [hsc]; exact c2)) he (sw_no hn) (.inr (by rw [hsc]; exact c2))
      have bd : PS X (.Assign [.Name t.f p6] (.BinOp (.Call (.Name "int" p7) [.BinOp (.BinOp (.Name t.f p8) .Mult (.Constant (.int 97) q2 p9) p10) .Add (.Name t.c p11) p12] [] p13) .Mod (.Constant (.int 999999733) q3 p14) p15) p16) _ :=
        setF (pe_op op_mod (pe_callTy call_int1 gi (by rw [hmg]; exact mi) (by rfl) (pa_cons (pe_op op_add (pe_op op_mulW (vF p8) pe_int) (vC p11)) pa_nil rfl) (by decide) (by decide) rfl (by rfl)) pe_int) rfl
      have fr : PS X (.For (.Name t.c p4) (.Name t.s p5) _ [] p17) _ := ps_for po hc (pi_list (vS p5)) (pg_name (i := 2) nd (by rw [hN]; rfl) (.inl (by rw [hsc]; exact c3)) (.inr (by rw [hsc]; exact c3))) (pss_cons bd pss_nil) (fun _ => rfl)
      have rt : PS X (.Return (some (.Dict [some (.Constant (.str "cells") r1 s1), some (.Constant (.str "at") r2 s2), some (.Constant (.str "digits") r3 s3), some (.Constant (.str "count") r4 s4), some (.Constant (.str "fold") r5 s5)]
          [.Call (.Name "list" p18) [.Name t.s p19] [] p20, .Constant (.int 0) r6 s6, .Constant (.int 0) r7 s7, .Constant (.int 0) r8 s8, .Name t.f p21] p22)) p23) _ :=
        ps_ret (pe_disp (pps_cons pe_str (pe_callTy call_list_of gl (by rw [hmg]; exact ml) (by rfl) (pa_cons (vS p19) pa_nil rfl) (by decide) (by decide) rfl (by rfl)) (pps_cons pe_str pe_int (pps_cons pe_str pe_int (pps_cons pe_str pe_int (pps_cons pe_str (vF p21) pps_nil))))) rfl rfl (by simp) (by show 5 ≤ 15; omega))
      refine ⟨_, pss_cons (setF pe_int rfl) (pss_cons fr (pss_cons rt pss_nil)), ?_⟩
      show tFor (iList X.K (tVar 0)) (gName 2) _ _ [some (.ref a), some (.int 0), none] H
      refine ⟨.ref a, rfl, a, rfl, ⟨_, hKX ▸ ha⟩, for_list (xs := ns.map V.int) (fun _ σ' H' => H' = H ∧ ∃ fo c, σ' = [some (.ref a), some (.int fo), c] ∧ 0 ≤ fo ∧ fo < 999999733) ⟨rfl, 0, none, rfl, by decide, by decide⟩
        (fun i σ' H' _ z => by rw [z.1, hKX]; exact ha) (fun i x σ' H' hx z => ?_) (fun σ' H' z => ?_)⟩
      · obtain ⟨rfl, fo, c, rfl, h1, h2⟩ := z
        rw [List.getElem?_map] at hx
        cases e : ns[i]? with
        | none => rw [e] at hx; cases hx
        | some n =>
          rw [e] at hx
          cases hx
          have hm : fo.natAbs.log2 + (97 : Int).natAbs.log2 < 1000000 := by
            have h3 : fo.natAbs.log2 < 31 := by
              by_cases h0 : fo.natAbs = 0
              · rw [h0]; decide
              · exact (Nat.log2_lt h0).mpr (by omega)
            have h4 : (97 : Int).natAbs.log2 = 6 := by decide
            omega
          exact ⟨.int fo, rfl, fo, 97, rfl, rfl, hm, .int n, rfl, _, _, rfl, rfl, .inl ⟨_, rfl, _, _, rfl, rfl, (by show (0 : Int) < 999999733; decide), rfl, _, _, rfl, Int.emod_nonneg _ (by decide), Int.emod_lt_of_pos _ (by decide)⟩⟩
      · obtain ⟨rfl, fo, c, rfl, h1, h2⟩ := z
        intro p hp
        refine ⟨.ref a, rfl, a, ns.map V.int, rfl, .inl (hKX ▸ sqL_mono (fun b o e => by rw [upd_ne (ne_of_none e hp)]; exact e) ha), fun l hl => ⟨.int fo, rfl, ?_⟩⟩
        have hlp : l ≠ p := fun z => by rw [z, upd_same] at hl; cases hl
        rw [upd_ne hlp] at hl
        refine ⟨by rw [upd_ne (Ne.symm hlp), upd_same], [(.inr "cells", .ref l), (.inr "at", .int 0), (.inr "digits", .int 0), (.inr "count", .int 0), (.inr "fold", .int fo)], rfl, by simp, ?_⟩
        have e1 : upd (upd (upd H' p (.dK [])) l (.lst (ns.map V.int))) p (.dK (mergeK [] [(.inr "cells", .ref l), (.inr "at", .int 0), (.inr "digits", .int 0), (.inr "count", .int 0), (.inr "fold", .int fo)])) = upd (upd H' l (.lst (ns.map V.int))) p (.dK (penKvs l ⟨ns, 0, 0, 0, fo⟩)) := by
          rw [upd_swap (Ne.symm hlp), upd_upd]
          rfl
        rw [e1]
        exact hQ p l fo h1 h2 hp hl (Ne.symm hlp)
    · cases hchk
end
end DL
set_option maxHeartbeats 4000000
namespace DL
open PySem PySem.Spec PyProof.Rows L2 LamX

/-! ### the end: the law called -/
theorem law_callG {P : Program} {w : World} {K : PySem.W.Frag} {mg mb : Str → Option Value} {k : Nat} {fa a : Addr} {cs : List (Addr × Addr)} {fd : FuncData} {x : Str} {sp : Sp} {s₁ : Shared} {vs : List Value} {ns : List Int}
    (kIn : K.In s₁.heap) (hGl : s₁.heap.Ns mainGlobals mg) (hbt : s₁.heap.Ns builtinsNs mb) (hbo : ∀ x : Str, x ≠ "__name__" → mb x = bootBuiltins x) (hnl : s₁.heap.NoLimit) (hgen : s₁.gens = #[])
    (hTab : ∀ p ∈ cs, s₁.heap.get? p.2 = some { cls := .none, data := .fields #[] }) (hnoK : ∀ p ∈ cs, K.lookup p.2 = none) (hHd : ∀ p ∈ cs, PySem.W.CodeHd s₁.heap p.1 p.2)
    (hmod : ∃ (bm : Addr) (ob : Obj), mg "__builtins__" = some (.ref bm) ∧ bm ≠ builtinsNs ∧ s₁.heap.get? bm = some ob ∧ ob.cls = .type "module" ∧ ob.dict = some builtinsNs ∧ ob.data = .plain)
    (hsc : s₁.heap.get? a = some { cls := .type "list", data := .seq vs.toArray }) (hints : IntsAre vs ns) (hlen : ns.length ≤ sizeLine) (hq : Quiet k callerA)
    (hF : ∀ base : Heap, K.In base → base.Ns mainGlobals mg → (∀ p ∈ cs, TabB base mg p.1 p.2) → FnG P w K mg base k fa fd [x] sp) (hbd : ∀ (s : Shared) (u : Value), BindsTo s fd ⟨[u], []⟩ [(x, u)])
    (hspec : ∀ H : Hp, (∀ p ∈ cs, H p.2 = some (.tbl #[])) → SqL K H a (ns.map V.int) → sp [.ref a] H (fun v _ => v = .bl true) fun _ _ _ => False)
    :
    codeAny (model P w) callerA (.call (.ref fa) ⟨[.ref a], []⟩) (fun r s' => r = .ok (.ret (.bool true)) ∧ OldK s₁.heap s'.heap ∧ s'.os = s₁.os ∧ AllBare s'.gens) s₁ := by
  have rvs := vals_ints hints
  have lenI := hints.length
  have tabAt : ∀ b : Addr, b ∈ cs.map (·.2) → s₁.heap.get? b = some { cls := .none, data := .fields #[] } := fun b hbt => by
    obtain ⟨p, hp, e⟩ := List.mem_map.mp hbt
    rw [← e]
    exact hTab p hp
  have scT : a ∉ cs.map (·.2) := fun z => by
    have q := tabAt a z
    rw [hsc] at q
    have z' : Data.seq vs.toArray _ = Data.fields #[] := congrArg Obj.data (Option.some.inj q)
    cases z'
  have inT : ∀ p ∈ cs, p.2 ∈ cs.map (·.2) := fun p hp => List.mem_map.mpr ⟨p, hp, rfl⟩
  -- from an abstract heap in which nothing but the script and the tables may be tracked
  have main : ∀ H : Hp, (∀ p ∈ cs, H p.2 = some (.tbl #[])) → (∀ b, H b = none ∨ b ∈ cs.map (·.2) ∨ ∃ o xs, H b = some (.frz o (.lst xs))) → SqL K H a (ns.map V.int) → HOk P w H s₁.heap → (∀ b, H b ≠ none → b = a ∨ b ∈ cs.map (·.2)) → (H a ≠ none → K.lookup a = none) →
      codeAny (model P w) callerA (.call (.ref fa) ⟨[.ref a], []⟩) (fun r s' => r = .ok (.ret (.bool true)) ∧ OldK s₁.heap s'.heap ∧ s'.os = s₁.os ∧ AllBare s'.gens) s₁ := by
    intro H hHt honly hseq hobj hall hsk
    have grnd : ∀ {b : Addr} {o : Obj}, s₁.heap.get? b = some o → H b = none → (hidT s₁.heap H).get? b = some o := fun e n => hidT_get e n
    have offD : ∀ {b : Addr} {o : Obj}, s₁.heap.get? b = some o → (∀ vs n, o.data ≠ .seq vs n) → o.data ≠ .fields #[] → H b = none := fun {b o} e h1 h2 => by
      cases q : H b with
      | none => rfl
      | some u =>
        rcases hall b (by rw [q]; simp) with e' | e'
        · rw [e', hsc] at e
          cases e
          exact (h1 _ _ rfl).elim
        · rw [tabAt b e'] at e
          cases e
          exact (h2 rfl).elim
    have offA : ∀ {b : Addr} {o : Obj} {es : Array DictEntry} {ep : Nat}, s₁.heap.get? b = some o → o.data = .dict es ep → H b = none := fun {b o es ep} e d => by
      refine offD e (fun vs n z => ?_) fun z => ?_
      · rw [d] at z
        cases z
      · rw [d] at z
        cases z
    have nsG : ∀ {b : Addr} {m : Str → Option Value}, s₁.heap.Ns b m → (hidT s₁.heap H).Ns b m := fun {b m} ⟨o, es, ep, e, d, r⟩ => ⟨o, es, ep, grnd e (offA e d), d, r⟩
    have kG : K.In (hidT s₁.heap H) := fun b o e => grnd (kIn b o e) (by
      cases q : H b with
      | none => rfl
      | some u =>
        rcases hall b (by rw [q]; simp) with e' | e'
        · rw [e'] at e q
          rw [hsk (by rw [q]; simp)] at e
          cases e
        · obtain ⟨p, hp, ep⟩ := List.mem_map.mp e'
          rw [← ep, hnoK p hp] at e
          cases e)
    have mG : L2.Mod K mg (hidT s₁.heap H) := ⟨kG, nsG hGl, ⟨mb, nsG hbt, hbo⟩, let ⟨mc, h1, h2⟩ := hnl; ⟨mc, nsG h1, h2⟩⟩
    have tbG : ∀ p ∈ cs, TabB (hidT s₁.heap H) mg p.1 p.2 := fun p hp => by
      have tabP := hTab p hp
      refine ⟨?_, ?_, fun z => ?_⟩
      · obtain ⟨o, us, file, tf, flags, tg, inF, text, tt, e1, r1, r2, r3, r4, r5, r6, r7, r8, hne⟩ := hHd p hp
        refine ⟨o, us, file, tf, flags, tg, inF, text, tt, grnd e1 (offD e1 (fun vs n z => ?_) fun z => ?_), r1, r2, r3, r4, r5, r6, r7, r8, hne⟩
        · rw [r2] at z
          cases z
        · rw [r2] at z
          cases z
          simp at r3
      · obtain ⟨bm, ob, b1, b2, b3, b4, b5, b6⟩ := hmod
        have neG : bm ≠ mainGlobals := fun q => by
          obtain ⟨o, es, ep, e, hd, _⟩ := hGl
          rw [q, e] at b3
          cases b3
          rw [hd] at b6
          cases b6
        have neP : bm ≠ p.2 := fun q => by
          rw [q, tabP] at b3
          cases b3
          cases b6
        refine ⟨bm, ob, b1, b2, neG, neP, grnd b3 (offD b3 (fun vs n z => ?_) fun z => ?_), b4, b5, b6⟩
        · rw [b6] at z
          cases z
        · rw [b6] at z
          cases z
      · obtain ⟨o, es, ep, e, hd, _⟩ := hGl
        rw [z, tabP] at e
        cases e
        cases hd
    have env : Env0 P w K mg (hidT s₁.heap H) callerA [] s₁ H := ⟨rfl, mG, fun b o e => of_hidT e, Nat.le_of_eq (hidT_size _ _), trivial, fun b hbt => absurd (show b ∈ ([] : List Addr) from hbt) (by simp), hobj, .of_eq hgen⟩
    refine codeAny_mono ((hF _ kG (nsG hGl) tbG).run callerA [] s₁ H ⟨[.ref a], []⟩ [.ref a] [.ref a] _ _ hq env (hbd s₁ (.ref a)) (.cons rfl .nil) (hspec H hHt hseq)) fun r s' h => ?_
    cases r with
    | error e => obtain ⟨_, _, _, _, _, _, _, _, _, _, _, _, z⟩ := h; exact z.elim
    | ok fl =>
      cases fl with
      | next => exact False.elim h
      | brk => exact False.elim h
      | cont => exact False.elim h
      | ret u =>
        obtain ⟨v, H', os, bare, und, hok', r', q⟩ := h
        have q' : v = .bl true := q
        subst q'
        obtain rfl : u = Value.bool true := r'
        have kept : ∀ b o, b ∉ cs.map (·.2) → s₁.heap.get? b = some o → s'.heap.get? b = some o := fun b o nb e => by
          cases q : H b with
          | none => exact und.keep b o e q (by intro z; exact absurd (show b ∈ ([] : List Addr) from z) (by simp)) (by simp)
          | some u =>
            rcases honly b with z | z | ⟨ob, xs, z⟩
            · rw [q] at z; cases z
            · exact absurd z nb
            · have z2 := und.frzs b ob _ z
              obtain ⟨e1, _⟩ := hobj b _ z
              obtain ⟨e2, _⟩ := hok' b _ z2
              rw [e] at e1; cases e1
              exact e2
        have grew : ∀ p ∈ cs, ∃ extra : Array Value, s'.heap.get? p.2 = some { cls := .none, data := .fields extra } := fun p hp => by
          obtain ⟨extra, z⟩ := und.tbls p.2 #[] (hHt p hp)
          exact ⟨_, hok' p.2 _ z⟩
        refine ⟨rfl, ⟨fun b o e => ?_, fun b o e => ?_⟩, os, bare⟩
        · by_cases hbt : b ∈ cs.map (·.2)
          · obtain ⟨p, hp, ep⟩ := List.mem_map.mp hbt
            obtain ⟨extra, hm⟩ := grew p hp
            rw [← ep] at e ⊢
            rw [hTab p hp] at e
            cases e
            exact .inr (.inl ⟨((hHd p hp).tab (hTab p hp)).isCodeTable, rfl, #[], extra, rfl, by rw [Array.empty_append]; exact hm⟩)
          · exact .inl (kept b o hbt e)
        · by_cases hbt : b ∈ cs.map (·.2)
          · obtain ⟨p, hp, ep⟩ := List.mem_map.mp hbt
            obtain ⟨extra, hm⟩ := grew p hp
            rw [← ep]
            exact ⟨_, hm⟩
          · exact ⟨o, kept b o hbt e⟩
  cases hlk : K.lookup a with
  | some o =>
    have e := kIn a o hlk
    rw [hsc] at e
    cases e
    refine main (fun b => if b ∈ cs.map (·.2) then some (.tbl #[]) else none) (fun p hp => if_pos (inT p hp)) (fun b => ?_) (.inr ⟨_, vs.toArray, _, hlk, rfl, rfl, rfl, by rw [List.size_toArray, lenI]; exact hlen, by simpa using rvs⟩) (fun b u z => ?_) (fun b z => ?_) fun z => absurd (show (if a ∈ cs.map (·.2) then some (HO.tbl #[]) else none) = none from if_neg scT) z
    · by_cases hbt : b ∈ cs.map (·.2)
      · exact .inr (.inl hbt)
      · exact .inl (if_neg hbt)
    · by_cases hbt : b ∈ cs.map (·.2)
      · have z' := (if_pos hbt).symm.trans z
        cases z'
        exact tabAt b hbt
      · have z' := (if_neg hbt).symm.trans z
        cases z'
    · by_cases hbt : b ∈ cs.map (·.2)
      · exact .inr hbt
      · exact absurd (if_neg hbt) z
  | none =>
    refine main (fun b => if b = a then some (.frz { cls := .type "list", data := .seq vs.toArray } (.lst (ns.map V.int))) else if b ∈ cs.map (·.2) then some (.tbl #[]) else none) (fun p hp => (if_neg (show ¬ p.2 = a from fun z => scT (by rw [← z]; exact inT p hp))).trans (if_pos (inT p hp))) (fun b => ?_)
      (.inl (.inr ⟨{ cls := .type "list", data := .seq vs.toArray }, if_pos rfl⟩)) (fun b u z => ?_) (fun b z => ?_) fun _ => hlk
    · by_cases hbt : b = a
      · exact .inr (.inr ⟨_, _, if_pos hbt⟩)
      · by_cases hb2 : b ∈ cs.map (·.2)
        · exact .inr (.inl hb2)
        · exact .inl ((if_neg hbt).trans (if_neg hb2))
    · by_cases hbt : b = a
      · have z' := (if_pos hbt).symm.trans z
        cases z'
        rw [hbt]
        exact ⟨hsc, by rw [List.length_map]; exact hlen, vs, _, rvs, hsc⟩
      · have z1 := (if_neg hbt).symm.trans z
        by_cases hb2 : b ∈ cs.map (·.2)
        · have z' := (if_pos hb2).symm.trans z1
          cases z'
          exact tabAt b hb2
        · have z' := (if_neg hb2).symm.trans z1
          cases z'
    · by_cases hbt : b = a
      · exact .inl hbt
      · by_cases hb2 : b ∈ cs.map (·.2)
        · exact .inr hb2
        · exact absurd ((if_neg hbt).trans (if_neg hb2)) z
end DL
set_option maxHeartbeats 4000000
namespace DL
open PySem PySem.Spec PyProof.Rows L2 LamX

/-- what is known of the law's promise at the head's heap -/
def LawG (l : PySem.W.OpenLaw) (w : World) (K : PySem.W.Frag) (k n : Nat) (x : Str) (mg : Str → Option Value) (fa : Addr) (hp : Heap) : Prop :=
  ∃ (fd : FuncData) (cs : List (Addr × Addr)) (sp : Sp), (∀ p ∈ cs, hp.get? p.2 = some { cls := .none, data := .fields #[] }) ∧ (∀ p ∈ cs, K.lookup p.2 = none) ∧ (∀ p ∈ cs, PySem.W.CodeHd hp p.1 p.2) ∧ (∀ (s : Shared) (u : Value), BindsTo s fd ⟨[u], []⟩ [(x, u)]) ∧
    (∀ (H : Hp) (a : Addr) (ns : List Int), ns.length ≤ n → (∀ p ∈ cs, H p.2 = some (.tbl #[])) → SqL K H a (ns.map V.int) → sp [.ref a] H (fun v _ => v = .bl true) fun _ _ _ => False) ∧
    ∀ base : Heap, K.In base → base.Ns mainGlobals mg → (∀ p ∈ cs, TabB base mg p.1 p.2) → FnG l.prog w K mg base k fa fd [x] sp
theorem walk_ofG {l : PySem.W.OpenLaw} {n k : Nat} {q : Program} {loose : List Str} {XP : (Str → Option Value) → Heap → Prop} {YP : World → Heap → Prop} {d : DefRec} {K : Params → PySem.W.Frag} {x : Str}
    (hn : l.most = some n) (hn2 : n ≤ sizeLine) (hdf : d.params.defaults = []) (hr : Quiet k callerA) (hY : ∀ (w : World) (h : Heap), YP w h → (K w.params).In h)
    (F : ∀ (w : World) (mg : Str → Option Value) (fa : Addr) (h : Heap), YP w h → (K w.params).In h → h.Ns mainGlobals mg → mg d.name = some (.ref fa) → LawG l w (K w.params) k n x mg fa h) :
    PySem.W.WalkO q loose XP YP l.row.toRowW d [] (fun f vs => PySem.call f vs) := by
  refine Att.attach_call hn hdf fun w s₀ s₁ mg mb fa o pm cd doc a vs ns G Y ho hd hcd hmg hobj hints hlen hg => ?_
  have KX := hY w _ Y
  obtain ⟨fd, cs, sp, a1, a2, a3, a4, a5, a6⟩ := F w mg fa _ Y KX G.T.g hmg
  exact law_callG KX G.T.g G.T.b G.T.builtins G.T.nolimit hg a1 a2 a3 G.T.bmain hobj hints (Nat.le_trans hlen hn2) hr a6 a4 (fun H hH hS => a5 H a ns hlen hH hS)
theorem quiet_caller : Quiet 100 callerA := ⟨⟨rfl, by decide, by decide⟩, rfl⟩
end DL
set_option maxHeartbeats 4000000
namespace DL
open PySem PySem.Spec PyProof.Rows L2 LamX NdefX

/-! ### the law's own body -/
structure LamT where
  fr : List Str
  js : List Nat
  b : IE
def noPar : Arguments → Bool
  | ⟨[], [], none, [], [], none, []⟩ => true
  | _ => false
theorem noPar_ok {p : Arguments} (h : noPar p = true) : p = ⟨[], [], none, [], [], none, []⟩ := by
  unfold noPar at h
  split at h
  · rfl
  · cases h
theorem noPar_bind {params : Arguments} (h : noPar params = true) (name qual : Str) (body : Expr) (scope : Scope) (cl : List (Str × Addr)) (pm cv ctv : Value) : bindArgs (PySem.W.kla_fn name qual params body scope cl pm cv ctv) ⟨[], []⟩ = pure [] := by
  rw [noPar_ok h]; rfl
theorem noPar_def {params : Arguments} (h : noPar params = true) (env : Env) : defaultsOf params env = ([], []) := by
  rw [noPar_ok h]; rfl
/-- the look at a lambda of the law -/
def lamB (h : Sh) (G : Gt) (N : List Str) (sc : Scope) (t : LamT) (params : Arguments) (body : Expr) (s : Scope) : Bool :=
  noPar params && nscB t.fr [] t.fr s && (s.names.all fun y => match y.2 with
    | .free => (match sc.names.lookup y.1 with | some .cell => true | some .free => true | _ => false)
    | _ => true) && (t.fr.all fun y => s.names.any fun z => decide (z = (y, NameKind.free))) && decide (t.js.map (fun j => N[j]?) = t.fr.map some) && chkE (scOf h G t.fr) s t.b body
structure LamOkB (h : Sh) (G : Gt) (N : List Str) (sc : Scope) (t : LamT) (params : Arguments) (body : Expr) (s : Scope) : Prop where
  np : noPar params = true
  ns : NScope t.fr [] t.fr s
  fre : ∀ y ∈ s.names, y.2 = .free → sc.names.lookup y.1 = some .cell ∨ sc.names.lookup y.1 = some .free
  sup : ∀ y ∈ t.fr, (y, NameKind.free) ∈ s.names
  at_ : t.js.map (fun j => N[j]?) = t.fr.map some
  chk : chkE (scOf h G t.fr) s t.b body = true
theorem lamB_ok {h : Sh} {G : Gt} {N : List Str} {sc : Scope} {t : LamT} {params : Arguments} {body : Expr} {s : Scope} (k : lamB h G N sc t params body s = true) : LamOkB h G N sc t params body s := by
  unfold lamB at k
  simp only [Bool.and_eq_true, decide_eq_true_eq, List.all_eq_true, List.any_eq_true] at k
  obtain ⟨⟨⟨⟨⟨k1, k2⟩, k3⟩, k4⟩, k5⟩, k6⟩ := k
  refine ⟨k1, nscope_by k2, fun y hy e => ?_, fun y hy => ?_, k5, k6⟩
  · have z := k3 y hy
    rw [e] at z
    simp only at z
    split at z
    · rename_i q; exact .inl q
    · rename_i q; exact .inr q
    · cases z
  · obtain ⟨z, hz, e⟩ := k4 y hy
    rw [← e]; exact hz

abbrev Gct := List (Str × Nat × ((Nat → M D) → List D → M D))
section
variable (h : Sh) (G : Gt) (N : List Str) (sc : Scope) (lams : List LamT)
def lamAt : Nat → Expr → Bool := fun n e => match lams[n]? with
  | some t => (match e with
    | .Lambda a b s _ => lamB h G N sc t a b s
    | _ => false)
  | none => false
def scL (nm : List (Str × Nat)) : Sc := { scOf h G N with lam := lamAt h G N sc lams, fnC := fun k => nm[k]? }
def cloL (n : Nat) (ρ : En) : M D := match lams[n]? with
  | some t => dE (tbOf G h) t.b (capE t.js ρ)
  | none => M.bad
def tbL (Gc : Gct) : Tb := { tbOf G h with fnC := fun k ρ xs => match Gc[k]? with
  | some g => g.2.2 (fun n => cloL h G lams n ρ) xs
  | none => M.bad }
def nmL (Gc : Gct) : List (Str × Nat) := Gc.map fun g => (g.1, g.2.1)
end
/-- a world of the law's frame -/
def wdL (K : PySem.W.Frag) (cls ecls : Nat → Option Addr) (X : Cx) (h : Sh) (G : Gt) (N : List Str) (lams : List LamT) (P' q : Addr) : Wd where
  K := K
  cls := cls
  ecls := ecls
  pa := q
  lam := fun n d => ∃ t, lams[n]? = some t ∧ lamB h G N X.env.scope t d.params d.body d.scope = true ∧ d.qual = X.env.qual ++ "<lambda>" ∧ d.cl = cloFrom X.env.cells d.scope.names []
  F0 := fun _ => none
  tabs := [(P', X.env.qual ++ "<lambda>")]
/-- worlds of one program -/
structure Fits (K : PySem.W.Frag) (cls ecls : Nat → Option Addr) (W : Wd) : Prop where
  k : W.K = K
  c : W.cls = cls
  e : W.ecls = ecls
section
variable {X : Cx} {W : Wd} {h : Sh} {G : Gt} {L L0 : Nat} {N : List Str} {lams : List LamT} {cls ecls : Nat → Option Addr} {P' q : Addr} {Gc : Gct}
theorem cloD_of (ok : X.Ok) (hN : X.N = N) {n : Nat} {d : LamD} (hd : (wdL X.K cls ecls X h G N lams P' q).lam n d) : CloD X h G d (cloL h G lams n) := by
  obtain ⟨t, ht, hb, hq, hc⟩ := hd
  have k := lamB_ok hb
  refine ⟨⟨t.fr, t.js, t.b, ?_, ?_, k.ns, k.chk⟩, fun pm cv ctv => noPar_bind k.np _ _ _ _ _ _ _ _⟩
  · funext ρ
    unfold cloL
    rw [ht]
  · rw [hc]
    exact Caps.made ok k.fre k.sup (by rw [hN]; exact k.at_)
theorem xokL (ok : X.Ok) (hN : X.N = N) (nd : N.Nodup) (hc : X.calm = true) (hst : X.stack = X.env :: X.outer) (hfn : ∀ x, X.fn x = true) (hq : Quiet L0 X.A) (hL : L ≤ L0) {c : Addr} (tb : TabB X.base X.mg c P') (hcode : X.env.code = .ref c)
    (hG : ∀ W' base', Fits X.K cls ecls W' → (∀ b o, X.base.get? b = some o → base'.get? b = some o) → MOk W' h X.prog X.w X.K X.mg base' L ∧ GOk W' X.prog X.w X.K X.mg base' L G)
    (hF : ∀ W' base' clo, Fits X.K cls ecls W' → (∀ b o, X.base.get? b = some o → base'.get? b = some o) → CloOk W' X.prog X.w X.K X.mg base' (L + 1) clo → ∀ g ∈ Gc, FnD W' X.prog X.w X.K X.mg base' L0 g.1 g.2.1 (g.2.2 clo)) :
    XOk X (wdL X.K cls ecls X h G N lams P' q) (scL h G N X.env.scope lams (nmL Gc)) (tbL h G lams Gc) L0 X.env.scope (fun _ => true) := by
  have fit : Fits X.K cls ecls (wdL X.K cls ecls X h G N lams P' q) := ⟨rfl, rfl, rfl⟩
  obtain ⟨m, g⟩ := hG _ X.base fit fun _ _ e => e
  have k0 := xok_of (X := X) m g rfl rfl rfl rfl rfl hN nd (fnb := fun _ => true) (fun x _ => hfn x) hc (hq.mono hL)
  exact {
    hK := k0.hK
    hN := k0.hN
    nd := k0.nd
    scp := k0.scp
    fnb := k0.fnb
    calm := k0.calm
    q := hq
    free := k0.free
    sm := k0.sm
    gcd := k0.gcd
    fnl := k0.fnl
    fn := fun k m x n e1 e2 => (k0.fn k m x n e1 e2).mono hL
    clo := fun n d hd A outer s H Q E f c' hq' e0 hf hc' hg => k0.clo n d hd A outer s H Q E f c' (hq'.mono hL) e0 hf hc' hg
    lam := fun n a b s p hl Wx => by
      have hl : lamAt h G N X.env.scope lams n (.Lambda a b s p) = true := hl
      unfold lamAt at hl
      cases ht : lams[n]? with
      | none => rw [ht] at hl; cases hl
      | some t =>
        rw [ht] at hl
        have k := lamB_ok hl
        exact pe_lamD (W := wdL X.K cls ecls X h G N lams P' q) (c := c) (P := P') ⟨tb, hcode, rfl⟩ (d := ⟨X.env.qual ++ "<lambda>", a, b, s, cloFrom X.env.cells s.names []⟩) ⟨t, ht, hl, rfl, rfl⟩ rfl rfl (noPar_def k.np _) fun y hy e => ok.has _ (k.fre y hy e)
    fnC := fun k x n e => by
      have e : (nmL Gc)[k]? = some (x, n) := e
      unfold nmL at e
      rw [List.getElem?_map] at e
      cases hg : Gc[k]? with
      | none => rw [hg] at e; cases e
      | some y =>
        rw [hg] at e
        cases e
        have em : (tbL h G lams Gc).fnC k = fun ρ xs => y.2.2 (fun n => cloL h G lams n ρ) xs := by
          funext ρ xs
          show (match Gc[k]? with | some g => g.2.2 (fun n => cloL h G lams n ρ) xs | none => M.bad) = _
          rw [hg]
        rw [em]
        exact callC_of hst hfn hq (fun n d hd => cloD_of ok hN hd) (fun F0 base' kb => hG _ base' ⟨rfl, rfl, rfl⟩ kb) fun F0 base' clo kb co => hF _ base' clo ⟨rfl, rfl, rfl⟩ kb co _ (List.mem_of_getElem? hg)
    cls := k0.cls
    kc := k0.kc
    cn := k0.cn
    con := k0.con }
end
theorem pss_of_ok {X : Cx} {st : List Stmt} {t : TS} (h : X.Ok → PSs X st t) : PSs X st t := ⟨fun pins s σ H D I z => (h I.ok).run pins s σ H D I z⟩
theorem pss_ex {X : Cx} {st : List Stmt} {α : Type} {t : α → TS} (h : ∀ a, PSs X st (t a)) : PSs X st (fun D σ H => ∃ a, t a D σ H) := ⟨fun pins s σ H D I ⟨a, z⟩ => (h a).run pins s σ H D I z⟩
theorem pe_callG {X : Cx} {Wx : WX} {L : Nat} {x : Str} {f : Addr} {fd : FuncData} {ps : List Str} {sp : Sp} {e : Expr} {es : List Expr} {t : TA} {p0 pos : Pos} (hq : Quiet L X.A) (tk : Takes X Wx) (hm : X.mg x = some (.ref f)) (hk : PySem.W.keepIn X.K (.ref f) = true) (hb : L2.Binds X.K fd ps [])
    (G : FnG X.prog X.w X.K X.mg X.base L f fd ps sp) (hg : Gl X x) (hd : (x == ("__debug__" : Str)) = false) (hs : noStars (e :: es) = true) (h : PA X (e :: es) t) :
    PE X (.Call (.Name x p0) (e :: es) [] pos) (fun σ H Q => t σ H fun vs H1 => sp vs H1 Q (WE Wx σ)) := by
  obtain ⟨h1, h2⟩ := Bool.and_eq_true_iff.mp (show (notStar e && noStars es) = true from hs)
  refine ⟨fun pins s σ H Q I z => ?_⟩
  refine wpAny_Call_Name_kw (ld_glob I hg hm ?_ hd)
  refine PySem.W.callWith_K (h₀ := X.base) I.ok.mod.kin hk (thn (h.run pos pins s σ H (fun vs H1 => sp vs H1 Q (WE Wx σ)) I z) fun us s1 ⟨vs, H1, I1, r, q⟩ => ⟨I1.kIn, ?_⟩) (star_cons h1) (star_any h2)
  exact run_fng G hq hb tk I1 r q
end DL
set_option maxHeartbeats 4000000
namespace DL
open PySem PySem.Spec PyProof.Rows L2 LamX NdefX

/-! ### the law, sound -/
def pLaw : List Stmt → Option (Str × Str × Str × List Stmt)
  | .Assign [.Name p _] (.Call (.Name f _) [.Name s _] [] _) _ :: r => some (p, f, s, r)
  | _ => none
theorem pLaw_inv {b r : List Stmt} {p f s : Str} (h : pLaw b = some (p, f, s, r)) : ∃ p1 p2 p3 p4 p5, b = .Assign [.Name p p1] (.Call (.Name f p2) [.Name s p3] [] p4) p5 :: r := by
  unfold pLaw at h
  split at h
  · cases h; exact ⟨_, _, _, _, _, rfl⟩
  · cases h
/-- the look at the law's text: pf the pen's maker, x the script, j the pen's place -/
def chkLaw (S : Sc) (sc : Scope) (pf x : Str) (j : Nat) (ir : ISs) (b : List Stmt) : Bool := match pLaw b with
  | some (p, f, s, r) => f == pf && s == x && decide (j ≠ 0) && decide (S.N[0]? = some x) && decide (S.N[j]? = some p) && glOk sc f && nmOk S sc 0 s && locOk sc (fun _ => true) p && chkSs S sc (fun _ => true) ir r
  | none => false
def lawEnv (nl j : Nat) : En := (List.replicate nl Slot.un).set j (.shr .pen)
/-- the law's promise: its script, the table of its code, True -/
def spLaw (K : PySem.W.Frag) (n : Nat) (P' : Addr) : Sp := fun vs H Q E => ∃ (a : Addr) (ns : List Int), vs = [.ref a] ∧ SqL K H a (ns.map V.int) ∧ ns.length ≤ n ∧ H P' = some (.tbl #[]) ∧ ∀ H', Q (.bl true) H'
section
variable {W : Wd}
theorem env_un {H F : Hp} {σ : L2.St} {n : Nat} (hl : σ.length = n) : EnvOk W H F σ (List.replicate n .un) := by
  refine ⟨by simp [hl], fun i s e => ?_, fun i j xs ys p e1 => ?_⟩
  · have hs : s = .un := List.eq_of_mem_replicate (List.mem_of_getElem? e)
    obtain ⟨hlt, _⟩ := List.getElem?_eq_some_iff.mp e
    rw [List.length_replicate, ← hl] at hlt
    exact ⟨σ[i], List.getElem?_eq_getElem hlt, by rw [hs]; trivial⟩
  · have hs := List.eq_of_mem_replicate (List.mem_of_getElem? e1)
    cases hs
end
section
variable {P : Program} {w : World} {K : PySem.W.Frag} {mg : Str → Option Value} {base : Heap} {h : Sh} {G : Gt} {L L0 : Nat} {N : List Str} {lams : List LamT} {cls ecls : Nat → Option Addr} {P' : Addr} {Gc : Gct}
theorem law_sound (hL1 : 2 ≤ L) (hL : L ≤ L0)
    (hG : ∀ W' base', Fits K cls ecls W' → (∀ b o, base.get? b = some o → base'.get? b = some o) → MOk W' h P w K mg base' L ∧ GOk W' P w K mg base' L G)
    (hF : ∀ W' base' clo, Fits K cls ecls W' → (∀ b o, base.get? b = some o → base'.get? b = some o) → CloOk W' P w K mg base' (L + 1) clo → ∀ g ∈ Gc, FnD W' P w K mg base' L0 g.1 g.2.1 (g.2.2 clo))
    {pf : Str} {fp : Addr} {fdp : FuncData} {psp : List Str} (hmp : mg pf = some (.ref fp)) (hkp : PySem.W.keepIn K (.ref fp) = true) (hbp : L2.Binds K fdp psp []) (FP : FnG P w K mg base L0 fp fdp psp (spPen K))
    {f : Addr} {name : Str} {params : Arguments} {body : List Stmt} {scope : Scope} {dV kV doc pm ct oc : Value} {c : Addr} {an od : Option Addr} {osl : Array (Option Value)} {x : Str} {j n : Nat} {ir : ISs}
    (lk : K.lookup f = some ⟨oc, od, .func (PySem.W.fnOf name name params body scope dV kV doc pm an (.ref c) ct), osl⟩) (hcd : PySem.W.codeIn K (.ref c) name = true) (FS : FnScope N [x] scope) (tb : TabB base mg c P')
    (hchk : chkLaw (scL h G N scope lams (nmL Gc)) scope pf x j ir body = true) (hn : n ≤ 1000)
    (hlaw : ∀ (ns : List Int) (fo : Int), ns.length ≤ n → 0 ≤ fo → fo < 999999733 → ∃ ρ p', dSs (tbL h G lams Gc) ir (lawEnv N.length j) ⟨ns, 0, 0, 0, fo⟩ = .ok (.rt (.bl true)) ρ p') :
    FnG P w K mg base (L0 + 1) f (PySem.W.fnOf name name params body scope dV kV doc pm an (.ref c) ct) [x] (spLaw K n P') := by
  refine fng_of lk hcd FS (fun vs H Q E z => ?_) fun A outer s H vs Q E hq z => ?_
  · obtain ⟨a, ns, rfl, _⟩ := z; rfl
  obtain ⟨a, ns, rfl, hS, hln, hT, hQ⟩ := z
  cases q : pLaw body with
  | none => unfold chkLaw at hchk; rw [q] at hchk; cases hchk
  | some z =>
    obtain ⟨pn, f', s', rest⟩ := z
    have hc : (f' == pf && s' == x && decide (j ≠ 0) && decide (N[0]? = some x) && decide (N[j]? = some pn) && glOk scope f' && nmOk (scL h G N scope lams (nmL Gc)) scope 0 s' && locOk scope (fun _ => true) pn && chkSs (scL h G N scope lams (nmL Gc)) scope (fun _ => true) ir rest) = true := by
      unfold chkLaw at hchk; rw [q] at hchk; exact hchk
    simp only [Bool.and_eq_true, beq_iff_eq, decide_eq_true_eq] at hc
    obtain ⟨⟨⟨⟨⟨⟨⟨⟨e1, e2⟩, e3⟩, e4⟩, e5⟩, e6⟩, e7⟩, e8⟩, e9⟩ := hc
    subst e1 e2
    obtain ⟨p1, p2, p3, p4, p5, rfl⟩ := pLaw_inv q
    generalize hX : cxOf (L2.CX P w) P w K mg base N name scope f (.ref c) A outer s H E = X
    have hN : X.N = N := by rw [← hX]; rfl
    have hsc : X.env.scope = scope := by rw [← hX]; rfl
    have hfn : ∀ x, X.fn x = true := fun x => by rw [← hX]; rfl
    have hcl : X.calm = true := by rw [← hX]; rfl
    have hst : X.stack = X.env :: X.outer := by rw [← hX]; rfl
    have hcd' : X.env.code = .ref c := by rw [← hX]; rfl
    have hpr : X.prog = P := by rw [← hX]; rfl
    have hww : X.w = w := by rw [← hX]; rfl
    have hKX : X.K = K := by rw [← hX]; rfl
    have hmg : X.mg = mg := by rw [← hX]; rfl
    have hbs : X.base = base := by rw [← hX]; rfl
    have hqX : Quiet L0 X.A := by rw [← hX]; exact hq
    have tk : Takes X (fun c d _ H' => E c d H') := by rw [← hX]; exact L2.takes_of rfl rfl rfl rfl
    have po : PassesOwn (model X.prog X.w) X.A X.env X.xe := by rw [← hX]; exact L2.passes_of rfl
    subst hpr hww hKX hmg hbs
    obtain ⟨hgl1, hgl2⟩ := Bool.and_eq_true_iff.mp (show (isGl scope f' && !dbg f') = true from e6)
    have hgl : Gl X f' := by show X.env.scope.names.lookup _ = _; rw [hsc]; exact of_decide_eq_true hgl1
    have hdb : (f' == ("__debug__" : Str)) = false := by simpa [dbg] using hgl2
    have nm7 : (decide (N[0]? = some s') && visB scope s' && !dbg s' && !(s' == "__classdict__")) = true := e7
    simp only [Bool.and_eq_true, decide_eq_true_eq, Bool.not_eq_true'] at nm7
    obtain ⟨⟨⟨_, v1⟩, v2⟩, v3⟩ := nm7
    have hv : Vis X.env.scope s' := by
      rw [hsc]
      unfold visB at v1
      unfold Vis
      split at v1
      · rename_i e; exact .inl e
      · rename_i e; exact .inr (.inl e)
      · rename_i e; exact .inr (.inr e)
      · cases v1
    have vS : PE X (.Name s' p3) (tVar 0) := pe_var (by rw [hN]; exact e4) hv (by simpa [dbg] using v2) v3
    have nd : X.N.Nodup := by rw [hN]; exact FS.nd
    have hloc : L2.Loc X.env.scope pn := by
      rw [hsc]
      unfold locOk at e8
      unfold L2.Loc
      split at e8
      · rename_i e; exact .inl e
      · rename_i e; exact .inr e
      · cases e8
    have st1 := ps_set (pos := p5) (pos' := p1) nd (by rw [hN]; exact e5) hloc (pe_callG (Wx := fun c d _ H' => E c d H') (p0 := p2) (pos := p4) hqX tk hmp hkp hbp FP hgl hdb rfl (pa_cons vS pa_nil rfl)) (by rfl) (.inl (hfn pn))
    refine ⟨_, pss_of_ok fun ok => pss_cons st1 (pss_ex (t := fun q => tS (wdL X.K cls ecls X h G N lams P' q) (fun c d _ H' => E c d H') (dSs (tbL h G lams Gc) ir)) fun q => ?_), ?_⟩
    · have k := xokL (q := q) (P' := P') (lams := lams) (Gc := Gc) ok hN FS.nd hcl hst hfn hqX hL tb hcd' hG hF
      rw [hsc] at k
      obtain ⟨m, _⟩ := hG (wdL X.K cls ecls X h G N lams P' q) X.base ⟨rfl, rfl, rfl⟩ fun _ _ e => e
      have so : SOk X (wdL X.K cls ecls X h G N lams P' q) (scL h G N scope lams (nmL Gc)) (tbL h G lams Gc) L0 scope (fun _ => true) := ⟨k, FS.kind, po, fun c x e => by
        obtain ⟨k, rfl⟩ : ∃ k, L = k + 2 := ⟨L - 2, by omega⟩
        exact m.mkx X k rfl rfl rfl rfl rfl (hqX.mono hL) hcl c x e⟩
      exact sSs ir _ _ scope _ rest so tk e9
    · show tAsg _ (gName j) _ (L2.start N [.ref a]) H
      have h0 : (L2.start N [.ref a])[0]? = some (some (.ref a)) := by
        unfold L2.start; simp
      refine ⟨_, h0, a, ns, rfl, hS, fun q l fo f1 f2 nq nl hql => ?_⟩
      have hPl : P' ≠ l := ne_of_none hT nl
      have hPq : P' ≠ q := ne_of_none hT nq
      generalize hH1 : upd (upd H l (.lst (ns.map V.int))) q (.dK (penKvs l ⟨ns, 0, 0, 0, fo⟩)) = H1
      have hHq : H1 q = some (.dK (penKvs l ⟨ns, 0, 0, 0, fo⟩)) := by rw [← hH1, upd_same]
      have hHl : H1 l = some (.lst (ns.map V.int)) := by rw [← hH1, upd_ne (Ne.symm hql), upd_same]
      have hHP : H1 P' = some (.tbl #[]) := by rw [← hH1, upd_ne hPq, upd_ne hPl]; exact hT
      have cx : Ctx (wdL X.K cls ecls X h G N lams P' q) H1 (upd (fun _ => none) l (.lst (ns.map V.int))) ⟨ns, 0, 0, 0, fo⟩ := by
        refine ⟨fun b o e => ?_, ⟨?_, ⟨Int.le_refl 0, Int.le_refl 0, f1, (by show fo < 2147483648; omega), Nat.zero_le _, (by show ns.length ≤ 1000; omega)⟩, l, hHq, upd_same⟩, (fun b o e => nomatch e), fun b ps e => ?_, fun p hp => ?_⟩
        · by_cases hb : b = l
          · subst hb; rw [upd_same] at e; cases e; exact hHl
          · rw [upd_ne hb] at e; cases e
        · show upd (fun _ => none) l (HO.lst (ns.map V.int)) q = none
          rw [upd_ne hql]
        · by_cases hb : b = l
          · subst hb; rw [upd_same] at e; cases e
          · rw [upd_ne hb] at e; cases e
        · rw [List.mem_singleton.mp hp]
          exact ⟨#[], hHP, trivial, fun pos cv z => by cases z⟩
      obtain ⟨ρ, p', hρ⟩ := hlaw ns fo hln f1 f2
      refine ⟨q, H1, upd (fun _ => none) l (.lst (ns.map V.int)), lawEnv N.length j, upd (fun _ => none) l (.lst (ns.map V.int)), ⟨ns, 0, 0, 0, fo⟩, ⟨Step.refl cx, EnvOk.set (env_un ?_) j .pen, fun i xs q' e => ?_⟩, ?_⟩
      · unfold L2.start
        obtain ⟨hlt, _⟩ := List.getElem?_eq_some_iff.mp e4
        simp; omega
      · have hm := List.mem_of_getElem? e
        rcases List.mem_or_eq_of_mem_set hm with z | z
        · have z := List.eq_of_mem_replicate z; cases z
        · cases z
      · rw [hρ]
        exact fun v H' F' _ r => by cases r; exact hQ H'
end
end DL
set_option maxHeartbeats 4000000
namespace DL
open PySem PySem.Spec PyProof.Rows L2 LamX

/-! ### plain parameters -/
def plainB (p : Arguments) (ps : List Str) : Bool := match p with
  | ⟨[], as, none, [], [], none, []⟩ => decide (as.map (·.arg) = ps)
  | _ => false
theorem plainB_ok {p : Arguments} {ps : List Str} (h : plainB p ps = true) : ∃ as : List Arg, p = ⟨[], as, none, [], [], none, []⟩ ∧ as.map (·.arg) = ps := by
  unfold plainB at h
  split at h
  · exact ⟨_, rfl, of_decide_eq_true h⟩
  · cases h
theorem zip_some {α β : Type} [BEq α] [LawfulBEq α] : ∀ {ps : List α} {us : List β} {x : α}, us.length = ps.length → x ∈ ps → ((ps.zip us).lookup x).isSome = true
  | [], _, _, _, h => by cases h
  | p :: ps, [], _, h, _ => by cases h
  | p :: ps, u :: us, x, hl, hx => by
    rw [List.zip_cons_cons, List.lookup_cons]
    cases e : x == p with
    | true => rfl
    | false =>
      rcases List.mem_cons.mp hx with z | z
      · rw [z, beq_self_eq_true] at e; cases e
      · exact zip_some (by simpa using hl) z
theorem zip_fm {α β : Type} [BEq α] [LawfulBEq α] : ∀ {ps : List α} {us : List β}, us.length = ps.length → ps.Nodup → (ps.filterMap fun n => ((ps.zip us).lookup n).map (n, ·)) = ps.zip us
  | [], [], _, _ => rfl
  | [], _ :: _, h, _ => by cases h
  | p :: ps, [], h, _ => by cases h
  | p :: ps, u :: us, hl, nd => by
    obtain ⟨n1, n2⟩ := List.nodup_cons.mp nd
    have e1 : (((p :: ps).zip (u :: us)).lookup p).map (p, ·) = some (p, u) := by
      rw [List.zip_cons_cons, List.lookup_cons, beq_self_eq_true]; rfl
    rw [List.filterMap_cons, e1]
    have e2 : (ps.filterMap fun n => (((p :: ps).zip (u :: us)).lookup n).map (n, ·)) = ps.filterMap fun n => ((ps.zip us).lookup n).map (n, ·) := by
      have cg : ∀ l : List α, (∀ n ∈ l, n ∈ ps) → (l.filterMap fun n => (((p :: ps).zip (u :: us)).lookup n).map (n, ·)) = l.filterMap fun n => ((ps.zip us).lookup n).map (n, ·) := fun l => by
        induction l with
        | nil => intro _; rfl
        | cons n l ih =>
          intro hm
          have hn := hm n (List.mem_cons_self ..)
          rw [List.filterMap_cons, List.filterMap_cons, ih fun m h => hm m (List.mem_cons_of_mem _ h)]
          have this : (n == p) = false := by
            cases e : n == p with
            | false => rfl
            | true => exact absurd (eq_of_beq e ▸ hn) n1
          have e3 : ((p :: ps).zip (u :: us)).lookup n = (ps.zip us).lookup n := by
            rw [List.zip_cons_cons, List.lookup_cons, this]
          rw [e3]
      exact cg ps fun _ h => h
    rw [e2, zip_fm (by simpa using hl) n2]
    rfl
theorem bind_plain {name qual : Str} {params : Arguments} {ps : List Str} {body : List Stmt} {scope : Scope} (hp : plainB params ps = true) (nd : ps.Nodup) (kV doc pm : Value) (an : Option Addr) (cdv ct : Value) (us : List Value) (hl : us.length = ps.length) :
    bindArgs (PySem.W.fnOf name qual params body scope .none kV doc pm an cdv ct) ⟨us, []⟩ = pure (ps.zip us) := by
  obtain ⟨as, rfl, hm⟩ := plainB_ok hp
  have hm2 : List.map (fun x : Arg => x.arg) as = ps := hm
  have hlen : as.length = ps.length := by rw [← hm2]; simp
  have e1 : (ps.take ps.length).filter (fun n => ((ps.zip us).lookup n).isNone) = [] := by
    rw [List.filter_eq_nil_iff]
    intro x hx
    have := zip_some hl (List.mem_of_mem_take hx)
    cases q : (ps.zip us).lookup x with
    | none => rw [q] at this; cases this
    | some v => simp
  have e2 := zip_fm hl nd
  unfold bindArgs
  simp only [List.map_nil, List.nil_append, List.append_nil, hm2, List.forIn_nil, pure_bind, PySem.W.fnOf]
  have e3 : ¬ (us.length > ps.length) := by omega
  have e4 : (ps.filter fun n => ((ps.zip us).lookup n).isNone) = [] := by rw [← e1, List.take_length]
  have e5 : ∀ l : List Value, l = [] → ps.take (ps.length - l.length) = ps := fun l h => by rw [h]; simp
  simp [seqItems?, e3, e1, e2, hl]
  simp only [List.drop_nil, List.length_nil, Nat.sub_zero, List.take_length, e4]
  rfl
end DL
set_option maxHeartbeats 4000000
namespace DL
open PySem PySem.Spec PyProof.Rows L2 LamX

/-! ### the module's facts: one Bool over the written part -/
/-- the names of a law's text -/
structure HSpec where
  defs : List He.DefD
  glo : List Str
  free : List Str
  rt : Str
  exs : List (Nat × Str)
  cls : List (Nat × Str)
  gcd : Bool
  con : List (Str × D)
  mts : List (Nat × Str × Str) := []
def oexB (K : PySem.W.Frag) (C : Addr) : Bool := (match K.lookup C with
  | some ⟨.type t, _, .cls ⟨_, _, .ref C' :: bm, _, _, hd, _, _, _, _, del⟩, sl⟩ => decide (t = "type") && decide (C' = C) && hd && !del && PySem.HandSPX.refsVE bm && (match sl.toList with
    | [_, _, _, _, some (.builtin n), _] => decide (n = "ValueError.__new__")
    | _ => false)
  | _ => false) && He.eqO (PySem.W.findIn K (.ref C) "__setattr__") (some (some (.builtin "object.__setattr__"))) && decide (PySem.W.subIn K (.ref C) (.type "BaseException") = some true) &&
    decide (PySem.W.typeIn K (.ref C) = some (.type "type")) && PySem.W.keepIn K (.ref C)
theorem oexB_ok {K : PySem.W.Frag} {C : Addr} (h : oexB K C = true) : OexC K C := by
  unfold oexB at h
  simp only [Bool.and_eq_true] at h
  obtain ⟨⟨⟨⟨h1, h2⟩, h3⟩, h4⟩, h5⟩ := h
  refine ⟨?_, He.eqO_ok h2, of_decide_eq_true h3, of_decide_eq_true h4, h5⟩
  split at h1
  · rename_i t dd nm bs C' bm N q hd sn sub ab col del sl e
    simp only [Bool.and_eq_true, decide_eq_true_eq, Bool.not_eq_true'] at h1
    obtain ⟨⟨⟨⟨⟨e1, e2⟩, e3⟩, e4⟩, e5⟩, e6⟩ := h1
    subst e1 e2 e3 e4
    split at e6
    · rename_i k0 k1 k2 k3 n k5 es
      have e6 := of_decide_eq_true e6
      subst e6
      have hs : sl = #[k0, k1, k2, k3, some (.builtin "ValueError.__new__"), k5] := by
        rw [← Array.toList_inj, es]
      subst hs
      exact ⟨nm, q, N, bs, bm, sn, sub, ab, col, dd, k0, k1, k2, k3, k5, e, e5⟩
    · cases e6
  · cases h1
def baseB (K : PySem.W.Frag) (R : Addr) : Bool := decide (PySem.W.specialIn K (.ref R) "__getattribute__" = some (some (.builtin "type.__getattribute__"))) && decide (PySem.W.typeIn K (.ref R) = some (.type "type")) && PySem.W.readsIn K R (.type "type") &&
  (match PySem.W.findCls K (.ref R) (.type "type") "__init__" with
  | some (.val (.builtin n)) => decide (n = "ValueError.__init__")
  | _ => false)
theorem baseB_ok {K : PySem.W.Frag} {R : Addr} (h : baseB K R = true) : BaseEx K R := by
  unfold baseB at h
  simp only [Bool.and_eq_true, decide_eq_true_eq] at h
  obtain ⟨⟨⟨h1, h2⟩, h3⟩, h4⟩ := h
  refine ⟨h1, h2, h3, ?_⟩
  split at h4
  · rename_i n e
    rw [e, of_decide_eq_true h4]
  · cases h4
def fscB (N ps : List Str) (sc : Scope) : Bool := decide (sc.kind = .function) && !sc.isCoroutine && !sc.isGenerator && decide N.Nodup && decide (N.take ps.length = ps) && ps.all (fun x => decide (sc.names.lookup x = some .local) || decide (sc.names.lookup x = some .cell)) && sc.names.all (fun y => !decide (y.2 = .free))
theorem fscB_ok {N ps : List Str} {sc : Scope} (h : fscB N ps sc = true) : FnScope N ps sc := by
  unfold fscB at h
  simp only [Bool.and_eq_true, decide_eq_true_eq, Bool.not_eq_true', List.all_eq_true, Bool.or_eq_true] at h
  obtain ⟨⟨⟨⟨⟨⟨h1, h2⟩, h3⟩, h4⟩, h5⟩, h6⟩, h7⟩ := h
  exact ⟨h1, h2, h3, h4, h5, h6, fun y hy => by simpa using h7 y hy⟩
/-- an error class: its __init__, the fields -/
def exB (K : PySem.W.Frag) (e : Nat) (x : Str) : Bool := oexB K (He.ga K x) && xfB K (He.ga K x) && (efl e).all (fun f => He.eqO (PySem.W.findIn K (.ref (He.ga K x)) f) (some none)) &&
  He.eqO (PySem.W.findIn K (.ref (He.ga K x)) "__init__") (some (some (.ref (He.ma K (He.ga K x) "__init__")))) && decide (PySem.W.typeIn K (.ref (He.ma K (He.ga K x) "__init__")) = some (.type "function"))
/-- the look at an error's __init__ -/
def iniB (rt : Str) (e : Nat) (x : Str) (d : He.DefD) : Bool := decide (d.at_ = (x, some ("__init__" : Str))) && decide (d.dfl.length = 0) && (match d.params with
  | ⟨[], s :: as, none, [], [], none, []⟩ => plainB d.params (s.arg :: as.map (·.arg)) && fscB (s.arg :: as.map (·.arg)) (s.arg :: as.map (·.arg)) d.scope && decide (as.length = (efl e).length) && chkIni rt s.arg (s.arg :: as.map (·.arg)) d.scope (efl e) d.body
  | _ => false)
/-- it can be made -/
def mkB (K : PySem.W.Frag) (x : Str) : Bool := PySem.W.makesIn K (He.ga K x) && He.eqO (PySem.W.findIn K (.ref (He.ga K x)) "__init__") (some (some (.ref (He.ma K (He.ga K x) "__init__")))) && PySem.W.isFn K (.ref (He.ma K (He.ga K x) "__init__")) && PySem.W.keepIn K (.ref (He.ga K x))
theorem mkB_ok {K : PySem.W.Frag} {x : Str} (h : mkB K x = true) : Mk K (He.ga K x) (He.ma K (He.ga K x) "__init__") := by
  unfold mkB at h
  simp only [Bool.and_eq_true] at h
  obtain ⟨⟨⟨h1, h2⟩, h3⟩, h4⟩ := h
  exact ⟨h1, He.eqO_ok h2, h3, h4⟩
/-- a plain class -/
def clB (K : PySem.W.Frag) (c : Nat) (x : Str) : Bool := (He.Fa.cls x).ok K && (cfl c).all (fun f => He.eqO (PySem.W.findIn K (.ref (He.ga K x)) (fname f)) (some none)) && decide ((cfl c).map fname).Nodup &&
  decide (PySem.W.findIn K (.ref (He.ga K x)) "__class__" = some (some (.builtin "object.__class__"))) && decide (PySem.W.specialIn K (.builtin "object.__class__") "__get__" = some (some (.builtin "getset_descriptor.__get__"))) &&
  decide (PySem.W.takesIn K (.builtin "object.__class__") = some true) && decide (PySem.W.mroIn K (He.ga K x) (.type "object") = some true) && mkB K x &&
  (["NoneType", "bool", "int", "str", "list", "tuple", "dict"] : List String).all fun a => decide (PySem.W.kitOne K (.type a) (.ref (He.ga K x)) = some false) && decide (PySem.W.kitOne K (.ref (He.ga K x)) (.type a) = some false)
theorem clB_ok {K : PySem.W.Frag} {c : Nat} {x : Str} (h : clB K c x = true) : ClsOk K (He.ga K x) c := by
  unfold clB at h
  simp only [Bool.and_eq_true, decide_eq_true_eq, List.all_eq_true] at h
  obtain ⟨⟨⟨⟨⟨⟨⟨⟨h1, h2⟩, h3⟩, h4⟩, h5⟩, h6⟩, h7⟩, _⟩, h8⟩ := h
  exact ⟨He.cls_ok h1, fun f hf => He.eqO_ok (h2 f hf), h3, h4, h5, h6, h7, h8⟩
theorem clB_mk {K : PySem.W.Frag} {c : Nat} {x : Str} (h : clB K c x = true) : Mk K (He.ga K x) (He.ma K (He.ga K x) "__init__") := by
  unfold clB at h
  simp only [Bool.and_eq_true, decide_eq_true_eq, List.all_eq_true] at h
  obtain ⟨⟨⟨⟨⟨⟨⟨⟨h1, h2⟩, h3⟩, h4⟩, h5⟩, h6⟩, h7⟩, hm⟩, h8⟩ := h
  exact mkB_ok hm
/-- an own rule of == or != -/
def meB (K : PySem.W.Frag) (x mt : Str) : Bool := He.eqO (PySem.W.findIn K (.ref (He.ga K x)) mt) (some (some (.ref (He.ma K (He.ga K x) mt)))) && PySem.W.isFn K (.ref (He.ma K (He.ga K x) mt)) && bTys.all (fun a => PySem.W.notFirst K (He.ga K x) (.type a))
mutual
/-- a constant of the module -/
def rdB (K : PySem.W.Frag) : D → Value → Bool
  | .non, .none => true
  | .bl b, .bool c => b == c
  | .int i, .int j _ => decide (i = j)
  | .str x, .str y _ => decide (x = y)
  | .tup xs, .ref a => (match K.lookup a with
    | some ⟨.type c, _, .seq its _, _⟩ => decide (c = "tuple") && decide (its.size ≤ sizeLine) && rdBs K xs its.toList
    | _ => false)
  | _, _ => false
def rdBs (K : PySem.W.Frag) : List D → List Value → Bool
  | [], [] => true
  | d :: ds, u :: us => rdB K d u && rdBs K ds us
  | _, _ => false
end
mutual
theorem rdB_ok {W : Wd} : ∀ {d : D} {u : Value}, rdB W.K d u = true → ∃ v, RelV v u ∧ ∀ F, DL.Rd W F v d
  | .non, .none, _ => ⟨.non, rfl, fun _ => .non⟩
  | .bl b, .bool c, h => ⟨.bl b, by rw [eq_of_beq (show (b == c) = true from h)]; rfl, fun _ => .bl b⟩
  | .int i, .int j t, h => ⟨.int i, ⟨t, by rw [of_decide_eq_true h]⟩, fun _ => .int i⟩
  | .str x, .str y t, h => ⟨.str x, ⟨t, by rw [of_decide_eq_true h]⟩, fun _ => .str x⟩
  | .tup xs, .ref a, h => by
    unfold rdB at h
    split at h
    · rename_i c dd its n sl e
      simp only [Bool.and_eq_true, decide_eq_true_eq] at h
      obtain ⟨⟨h1, h2⟩, h3⟩ := h
      obtain ⟨vs, r, q⟩ := rdBs_ok h3
      exact ⟨.ref a, rfl, fun F => .tup (.inr ⟨_, its, n, e, congrArg Value.type h1, rfl, h2, r⟩) (q F)⟩
    · cases h
  | .non, .bool _, h | .non, .int _ _, h | .non, .str _ _, h | .non, .ref _, h | .non, .ellipsis, h | .non, .notImplemented, h | .non, .float _ _, h | .non, .bytes _ _, h | .non, .type _, h | .non, .builtin _, h => by unfold rdB at h; cases h
  | .bl _, .none, h | .bl _, .int _ _, h | .bl _, .str _ _, h | .bl _, .ref _, h | .bl _, .ellipsis, h | .bl _, .notImplemented, h | .bl _, .float _ _, h | .bl _, .bytes _ _, h | .bl _, .type _, h | .bl _, .builtin _, h => by unfold rdB at h; cases h
  | .int _, .none, h | .int _, .bool _, h | .int _, .str _ _, h | .int _, .ref _, h | .int _, .ellipsis, h | .int _, .notImplemented, h | .int _, .float _ _, h | .int _, .bytes _ _, h | .int _, .type _, h | .int _, .builtin _, h => by unfold rdB at h; cases h
  | .str _, .none, h | .str _, .bool _, h | .str _, .int _ _, h | .str _, .ref _, h | .str _, .ellipsis, h | .str _, .notImplemented, h | .str _, .float _ _, h | .str _, .bytes _ _, h | .str _, .type _, h | .str _, .builtin _, h => by unfold rdB at h; cases h
  | .tup _, .none, h | .tup _, .bool _, h | .tup _, .int _ _, h | .tup _, .str _ _, h | .tup _, .ellipsis, h | .tup _, .notImplemented, h | .tup _, .float _ _, h | .tup _, .bytes _ _, h | .tup _, .type _, h | .tup _, .builtin _, h => by unfold rdB at h; cases h
  | .lst _, u, h => by unfold rdB at h; cases h
  | .ins _ _, u, h => by unfold rdB at h; cases h
  | .dct _ _, u, h => by unfold rdB at h; cases h
  | .pen, u, h => by unfold rdB at h; cases h
  | .clo _, u, h => by unfold rdB at h; cases h
theorem rdBs_ok {W : Wd} : ∀ {ds : List D} {us : List Value}, rdBs W.K ds us = true → ∃ vs, Vals vs us ∧ ∀ F, RdA W F vs ds
  | [], [], _ => ⟨[], .nil, fun _ => .nil⟩
  | [], _ :: _, h => by unfold rdBs at h; cases h
  | _ :: _, [], h => by unfold rdBs at h; cases h
  | d :: ds, u :: us, h => by
    unfold rdBs at h
    obtain ⟨h1, h2⟩ := Bool.and_eq_true_iff.mp h
    obtain ⟨v, r1, q1⟩ := rdB_ok h1
    obtain ⟨vs, r2, q2⟩ := rdBs_ok h2
    exact ⟨v :: vs, .cons r1 r2, fun F => .cons (q1 F) (q2 F)⟩
end
end DL
set_option maxHeartbeats 4000000
namespace DL
open PySem PySem.Spec PyProof.Rows L2 LamX

/-! ### the facts, used -/
def okM (S : HSpec) (K : PySem.W.Frag) : Bool := S.glo.all (fun x => He.eqO (PySem.W.nsIn K mainGlobals x) (some (some (.ref (He.ga K x))))) && S.free.all (fun x => He.eqO (PySem.W.nsIn K mainGlobals x) (some none)) &&
  S.exs.all (fun p => exB K p.1 p.2) && S.exs.all (fun p => S.exs.all fun q => decide (PySem.W.exmOne K (.ref (He.ga K p.2)) (.ref (He.ga K q.2)) = some (p.1 == q.1))) && (S.exs.isEmpty || baseB K (He.ga K S.rt)) &&
  S.cls.all (fun p => clB K p.1 p.2) && S.cls.all (fun p => S.cls.all fun q => decide (PySem.W.kitOne K (.ref (He.ga K p.2)) (.ref (He.ga K q.2)) = some (p.1 == q.1))) &&
  (!S.gcd || He.eqO (PySem.W.nsIn K mainGlobals "gcd") (some (some (.builtin "math.gcd")))) && S.con.all (fun p => match PySem.W.nsIn K mainGlobals p.1 with
    | some (some u) => rdB K p.2 u
    | _ => false) && (K.lookup sysModules).isSome && S.defs.all (fun d => d.ok K) && S.mts.all (fun q => meB K q.2.1 q.2.2)
/-- the look at the text alone -/
def okT (S : HSpec) : Bool := S.exs.all (fun p => S.glo.contains p.2 && !(efl p.1).isEmpty && S.defs.any fun d => iniB S.rt p.1 p.2 d) && S.cls.all (fun p => S.glo.contains p.2) && (S.exs.isEmpty || S.glo.contains S.rt)
def shOf (S : HSpec) (mkr : Nat → List D → M D) : Sh := { con := S.con, cls := fun c => S.cls.lookup c, exn := fun c => S.exs.lookup c, fr := S.free, gcd := S.gcd, mkr := mkr, clo := fun _ => M.bad }
def clsF (S : HSpec) (K : PySem.W.Frag) : Nat → Option Addr := fun c => (S.cls.lookup c).map (He.ga K)
def exsF (S : HSpec) (K : PySem.W.Frag) : Nat → Option Addr := fun c => (S.exs.lookup c).map (He.ga K)
/-- all that the head says -/
structure Sure (S : HSpec) (K : PySem.W.Frag) : Prop where
  m : okM S K = true
  f : S.defs.map (fun d => He.fnW K d.at_) = S.defs.map He.DefD.val
  t : okT S = true
section
variable {S : HSpec} {K : PySem.W.Frag} {P : Program} {w : World} {mg : Str → Option Value} {base : Heap} {mkr : Nat → List D → M D}
theorem lookup_mem {α β : Type} [BEq α] [LawfulBEq α] : ∀ {l : List (α × β)} {a : α} {b : β}, l.lookup a = some b → (a, b) ∈ l
  | [], _, _, h => by cases h
  | (c, d) :: l, a, b, h => by
    rw [List.lookup_cons] at h
    cases e : a == c with
    | true => rw [e] at h; cases h; rw [eq_of_beq e]; exact List.mem_cons_self ..
    | false => rw [e] at h; exact List.mem_cons_of_mem _ (lookup_mem h)
structure OkM (S : HSpec) (K : PySem.W.Frag) : Prop where
  glo : ∀ x ∈ S.glo, PySem.W.nsIn K mainGlobals x = some (some (.ref (He.ga K x)))
  free : ∀ x ∈ S.free, PySem.W.nsIn K mainGlobals x = some none
  exs : ∀ p ∈ S.exs, exB K p.1 p.2 = true
  exm : ∀ p ∈ S.exs, ∀ q ∈ S.exs, PySem.W.exmOne K (.ref (He.ga K p.2)) (.ref (He.ga K q.2)) = some (p.1 == q.1)
  bas : S.exs ≠ [] → BaseEx K (He.ga K S.rt)
  cls : ∀ p ∈ S.cls, ClsOk K (He.ga K p.2) p.1
  mkc : ∀ p ∈ S.cls, Mk K (He.ga K p.2) (He.ma K (He.ga K p.2) "__init__")
  kit : ∀ p ∈ S.cls, ∀ q ∈ S.cls, PySem.W.kitOne K (.ref (He.ga K p.2)) (.ref (He.ga K q.2)) = some (p.1 == q.1)
  gcd : S.gcd = true → PySem.W.nsIn K mainGlobals "gcd" = some (some (.builtin "math.gcd"))
  con : ∀ p ∈ S.con, ∃ u, PySem.W.nsIn K mainGlobals p.1 = some (some u) ∧ rdB K p.2 u = true
  sm : ∃ o, K.lookup sysModules = some o
  defs : ∀ d ∈ S.defs, d.ok K = true
  mts : ∀ q ∈ S.mts, meB K q.2.1 q.2.2 = true
theorem Sure.ok (s : Sure S K) : OkM S K := by
  have h := s.m
  unfold okM at h
  simp only [Bool.and_eq_true, List.all_eq_true, decide_eq_true_eq, Bool.or_eq_true, Bool.not_eq_true', List.isEmpty_iff] at h
  obtain ⟨⟨⟨⟨⟨⟨⟨⟨⟨⟨⟨h1, h2⟩, h3⟩, h4⟩, h5⟩, h6⟩, h7⟩, h8⟩, h9⟩, h10⟩, h11⟩, h12⟩ := h
  refine ⟨fun x hx => He.eqO_ok (h1 x hx), fun x hx => He.eqO_ok (h2 x hx), h3, h4, fun hn => ?_, fun p hp => clB_ok (h6 p hp), fun p hp => clB_mk (h6 p hp), h7, fun hg => ?_, fun p hp => ?_, Option.isSome_iff_exists.mp h10, h11, h12⟩
  · rcases h5 with z | z
    · exact absurd z hn
    · exact baseB_ok z
  · rcases h8 with z | z
    · rw [hg] at z; cases z
    · exact He.eqO_ok z
  · have z := h9 p hp
    split at z
    · rename_i u e; exact ⟨u, e, z⟩
    · cases z
theorem Sure.funD (s : Sure S K) {d : He.DefD} (hd : d ∈ S.defs) : ∃ fd, FunD K d.name d.qual d.params d.body d.scope (d.dvs K) (d.kws K) (He.fAd K d.at_) fd := by
  obtain ⟨i, hi, rfl⟩ := List.getElem_of_mem hd
  have e2 : (S.defs.map fun d => He.fnW K d.at_)[i]? = (S.defs.map He.DefD.val)[i]? := by rw [s.f]
  rw [List.getElem?_map, List.getElem?_map, List.getElem?_eq_getElem hi] at e2
  exact He.DefD.funD (Option.some.inj e2) (s.ok.defs _ (List.getElem_mem hi))
/-- the look at a def: its parameters, its names, its body -/
structure DefOk (d : He.DefD) (N ps : List Str) : Prop where
  pl : plainB d.params ps = true
  fs : FnScope N ps d.scope
  df : d.dfl = []
  ps : ps.Nodup
def defNB (d : He.DefD) (N ps : List Str) : Bool := plainB d.params ps && fscB N ps d.scope && decide (d.dfl.length = 0)
theorem defNB_ok {d : He.DefD} {N ps : List Str} (h : defNB d N ps = true) : DefOk d N ps := by
  unfold defNB at h
  simp only [Bool.and_eq_true, decide_eq_true_eq] at h
  obtain ⟨⟨h1, h2⟩, h3⟩ := h
  have F := fscB_ok h2
  exact ⟨h1, F, List.length_eq_zero_iff.mp h3, by rw [← F.pre]; exact F.nd.sublist (List.take_sublist _ _)⟩
theorem DefOk.binds {d : He.DefD} {N ps : List Str} (o : DefOk d N ps) {fd : FuncData} {f : Addr} (F : FunD K d.name d.qual d.params d.body d.scope (d.dvs K) (d.kws K) f fd) : Binds K fd ps [] := by
  have e : d.dvs K = [] := by unfold He.DefD.dvs; rw [o.df]; rfl
  rw [e] at F
  exact F.bindsN fun kV doc pm an cdv ct us hl => bind_plain o.pl o.ps kV doc pm an cdv ct us hl
theorem DefOk.bindsA {d : He.DefD} {N ps : List Str} (o : DefOk d N ps) {fd : FuncData} {f : Addr} (F : FunD K d.name d.qual d.params d.body d.scope (d.dvs K) (d.kws K) f fd) (s : Shared) (us : List Value) (hl : us.length = ps.length) : BindsTo s fd ⟨us, []⟩ (ps.zip us) := by
  have e : d.dvs K = [] := by unfold He.DefD.dvs; rw [o.df]; rfl
  rw [e] at F
  exact F.bindsA (fun kV doc pm an cdv ct us hl => bind_plain o.pl o.ps kV doc pm an cdv ct us hl) s us hl
theorem exmk_of (s : Sure S K) (X : K.In base) (G : base.Ns mainGlobals mg) {W : Wd} (fit : Fits K (clsF S K) (exsF S K) W) {c : Nat} {x : Str} (h : S.exs.lookup c = some x) : ExMk P w K mg base 1 W c x ∧ efl c ≠ [] := by
  have ok := s.ok
  have hm := lookup_mem h
  have e := ok.exs _ hm
  have t := s.t
  unfold okT at t
  simp only [Bool.and_eq_true, List.all_eq_true, List.any_eq_true, Bool.or_eq_true, List.isEmpty_iff] at t
  obtain ⟨⟨t1, t2⟩, t3⟩ := t
  obtain ⟨⟨t4, t5⟩, d, hd, hi⟩ := t1 _ hm
  have hne : efl c ≠ [] := fun z => by
    have t5 : (!(efl c).isEmpty) = true := t5
    rw [z] at t5; cases t5
  have hrt : S.rt ∈ S.glo := by
    rcases t3 with z | z
    · rw [z] at hm; cases hm
    · simpa using z
  have hx : x ∈ S.glo := by simpa using t4
  unfold exB at e
  simp only [Bool.and_eq_true, List.all_eq_true, decide_eq_true_eq] at e
  obtain ⟨⟨⟨⟨e1, e2⟩, e3⟩, e4⟩, e5⟩ := e
  unfold iniB at hi
  simp only [Bool.and_eq_true, decide_eq_true_eq] at hi
  obtain ⟨⟨i1, i2⟩, i3⟩ := hi
  obtain ⟨fd, F⟩ := s.funD hd
  split at i3
  · rename_i sf as hp
    simp only [Bool.and_eq_true, decide_eq_true_eq] at i3
    obtain ⟨⟨⟨j1, j2⟩, j3⟩, j4⟩ := i3
    have FS := fscB_ok j2
    have o : DefOk d (sf.arg :: as.map (·.arg)) (sf.arg :: as.map (·.arg)) := ⟨j1, FS, List.length_eq_zero_iff.mp i2, FS.nd⟩
    have hb := o.binds F
    obtain ⟨oc, od, dV, kV, doc, pm, an, cdv, ct, osl, rfl, lk, hcd, _, _⟩ := F.ex
    have ef : He.fAd K d.at_ = He.ma K (He.ga K x) "__init__" := by rw [i1]; rfl
    have T := oexB_ok e1
    have FO := init_ok (P := P) (w := w) (mg := mg) (base := base) (L := 0) (CX := L2.CX P w) (self := sf.arg) (ok.bas (fun z => by rw [z] at hm; cases hm)) (PySem.W.mg_of X G (ok.glo _ hrt)) T (fun f hf => He.eqO_ok (e3 f hf)) hne (efl_len c) lk hcd FS (by simp; exact j3) j4
    rw [ef] at FO
    exact ⟨⟨_, _, _, _, by rw [fit.e]; unfold exsF; rw [h]; rfl, PySem.W.mg_of X G (ok.glo _ hx), T, He.eqO_ok e4, e5, hb, FO⟩, hne⟩
  · cases i3
theorem mok_of (s : Sure S K) (X : K.In base) (G : base.Ns mainGlobals mg) {W : Wd} (fit : Fits K (clsF S K) (exsF S K) W) (L : Nat) : MOk W (shOf S mkr) P w K mg base L := by
  have ok := s.ok
  have t := s.t
  unfold okT at t
  simp only [Bool.and_eq_true, List.all_eq_true] at t
  obtain ⟨⟨_, t2⟩, _⟩ := t
  have hc : ∀ c C, W.cls c = some C → ∃ x, (c, x) ∈ S.cls ∧ S.cls.lookup c = some x ∧ C = He.ga K x := fun c C e => by
    rw [fit.c] at e
    unfold clsF at e
    obtain ⟨x, e1, e2⟩ := Option.map_eq_some_iff.mp e
    exact ⟨x, lookup_mem e1, e1, e2.symm⟩
  refine ⟨fit.k, fun x hx => PySem.W.mg_none_of X G (ok.free x hx), ?_, fun hg => PySem.W.mg_of X G (ok.gcd hg), fun c C e => ?_, fun c C k C' e e' => ?_, fun c x e => ?_, fun p hp => ?_, ?_, fun X' k hp hw hk hm hb hq hcl c x e => ?_⟩
  · obtain ⟨o, e⟩ := ok.sm
    exact ⟨o, X _ _ e⟩
  · obtain ⟨x, h1, _, rfl⟩ := hc c C e
    exact ok.cls _ h1
  · obtain ⟨x, h1, _, rfl⟩ := hc c C e
    obtain ⟨y, h2, _, rfl⟩ := hc k C' e'
    exact ok.kit _ h1 _ h2
  · have e : S.cls.lookup c = some x := e
    have hm := lookup_mem e
    refine ⟨He.ga K x, by rw [fit.c]; unfold clsF; rw [e]; rfl, PySem.W.mg_of X G (ok.glo _ ?_)⟩
    simpa using t2 _ hm
  · obtain ⟨u, h1, h2⟩ := ok.con p hp
    rw [← fit.k] at h2
    obtain ⟨v, r, q⟩ := rdB_ok (W := W) h2
    exact ⟨v, u, PySem.W.mg_of X G h1, r, q⟩
  · exact fun n d _ A outer s H Q E f c' _ _ _ _ ⟨F, p, _, _, _, g⟩ => g.elim
  · subst hp hw hk hm hb
    obtain ⟨e1, e2⟩ := exmk_of (P := X'.prog) (w := X'.w) s X G fit e
    exact mk_ok e1 (hq.mono (by omega)).rm e2
theorem exk_of (s : Sure S K) {W : Wd} (fit : Fits K (clsF S K) (exsF S K) W) : ExK W K := by
  have ok := s.ok
  have hc : ∀ c C, W.ecls c = some C → ∃ x, (c, x) ∈ S.exs ∧ C = He.ga K x := fun c C e => by
    rw [fit.e] at e
    unfold exsF at e
    obtain ⟨x, e1, e2⟩ := Option.map_eq_some_iff.mp e
    exact ⟨x, lookup_mem e1, e2.symm⟩
  have he : ∀ c x, (c, x) ∈ S.exs → xfB K (He.ga K x) = true ∧ ∀ f ∈ efl c, PySem.W.findIn K (.ref (He.ga K x)) f = some none := fun c x hm => by
    have e := ok.exs _ hm
    unfold exB at e
    simp only [Bool.and_eq_true, List.all_eq_true, decide_eq_true_eq] at e
    obtain ⟨⟨⟨⟨e1, e2⟩, e3⟩, e4⟩, e5⟩ := e
    exact ⟨e2, fun f hf => He.eqO_ok (e3 f hf)⟩
  refine ⟨fun e C h => ?_, fun e C h f hf => ?_, fun e C k C' h h' => ?_⟩
  · obtain ⟨x, hm, rfl⟩ := hc e C h
    exact xfB_ok (he _ _ hm).1
  · obtain ⟨x, hm, rfl⟩ := hc e C h
    exact (he _ _ hm).2 f hf
  · obtain ⟨x, hm, rfl⟩ := hc e C h
    obtain ⟨y, hm', rfl⟩ := hc k C' h'
    exact ok.exm _ hm _ hm'
theorem exn_of (P : Program) (w : World) (s : Sure S K) (X : K.In base) (G : base.Ns mainGlobals mg) {W : Wd} (fit : Fits K (clsF S K) (exsF S K) W) : ∀ e x, (shOf S mkr).exn e = some x → ∃ C, W.ecls e = some C ∧ mg x = some (.ref C) := fun e x h => by
  have h : S.exs.lookup e = some x := h
  obtain ⟨⟨⟨C, _, _, _, h1, h2, _⟩⟩, _⟩ := exmk_of (P := P) (w := w) s X G fit h
  exact ⟨C, h1, h2⟩
/-- a def of the module, by its text -/
theorem fnd_of (s : Sure S K) (X : K.In base) (G : base.Ns mainGlobals mg) {W : Wd} {h : Sh} {Gt' : Gt} {L : Nat} (m : MOk W h P w K mg base L) (g : GOk W P w K mg base L Gt') (hL : 2 ≤ L) {d : He.DefD} {x : Str} {N ps : List Str} {ir : ISs}
    (hd : d ∈ S.defs) (hat : d.at_ = (x, none)) (hg : x ∈ S.glo) (o : defNB d N ps = true) (hchk : chkSs (scOf h Gt' N) d.scope (fun _ => true) ir d.body = true) : FnD W P w K mg base (L + 1) x ps.length (runF (tbOf Gt' h) ir N.length ps.length) := by
  obtain ⟨fd, F⟩ := s.funD hd
  have o := defNB_ok o
  have hb := o.binds F
  have kp := F.kp
  have ef : He.fAd K d.at_ = He.ga K x := by rw [hat]; rfl
  obtain ⟨oc, od, dV, kV, doc, pm, an, cdv, ct, osl, rfl, lk, hcd, _, _⟩ := F.ex
  rw [ef] at lk kp
  exact ⟨_, _, ps, rfl, PySem.W.mg_of X G (s.ok.glo _ hg), kp, hb, fn_sound m g hL lk hcd o.fs rfl hchk⟩
theorem fnx_of (s : Sure S K) (X : K.In base) (G : base.Ns mainGlobals mg) {W : Wd} {h : Sh} {Gt' : Gt} {L : Nat} (m : MOk W h P w K mg base L) (g : GOk W P w K mg base L Gt') (hL : 2 ≤ L) {d : He.DefD} {x : Str} {N ps : List Str} {ir : ISs}
    (hd : d ∈ S.defs) (hat : d.at_ = (x, none)) (hg : x ∈ S.glo) (hno : noM x = true) (o : defNB d N ps = true) (hchk : chkSs (scOf h Gt' N) d.scope (fun _ => true) ir d.body = true) : FnX W P w K mg base (L + 1) x ps.length (runF (tbOf Gt' h) ir N.length ps.length) := .inl ⟨hno, .inl (fnd_of s X G m g hL hd hat hg o hchk)⟩
theorem Fits.mine {W : Wd} (fit : Fits K (clsF S K) (exsF S K) W) (a : Addr) : Fits K (clsF S K) (exsF S K) (W.mine a) := ⟨fit.k, fit.c, fit.e⟩
/-- a class of the module, by its __init__'s text -/
theorem clx_of (s : Sure S K) (X : K.In base) (G : base.Ns mainGlobals mg) {W : Wd} (fit : Fits K (clsF S K) (exsF S K) W) {h : Sh} {Gt' : Gt} {L : Nat} (m : ∀ a, MOk (W.mine a) h P w K mg base L) (g : ∀ a, GOk (W.mine a) P w K mg base L Gt') (hL : 2 ≤ L) {d : He.DefD} {x self : Str} {N ps : List Str} {ir : ISs} {c n : Nat} {sets : List (Nat × IE)}
    (hd : d ∈ S.defs) (hat : d.at_ = (x, some ("__init__" : Str))) (hc : S.cls.lookup c = some x) (o : defNB d N ps = true) (hn : ps.length = n + 1) (hN : 0 < N.length) (hs : sets.map (·.1) = cfl c) (hg : x ∈ S.glo) (hno : noM x = true)
    (hchk : chkIn (scOf h Gt' N) d.scope (fun _ => true) self sets ir d.body = true) : FnX W P w K mg base (L + 2) x n (runN (tbOf Gt' h) ir c sets N.length n) := by
  obtain ⟨fd, F⟩ := s.funD hd
  have o := defNB_ok o
  have hb := o.binds F
  have ef : He.fAd K d.at_ = He.ma K (He.ga K x) "__init__" := by rw [hat]; rfl
  obtain ⟨oc, od, dV, kV, doc, pm, an, cdv, ct, osl, rfl, lk, hcd, _, _⟩ := F.ex
  rw [ef] at lk
  have hC : W.cls c = some (He.ga K x) := by rw [fit.c]; unfold clsF; rw [hc]; rfl
  exact .inl ⟨hno, .inr ⟨_, _, _, ps, L + 1, Nat.le_refl _, hn, PySem.W.mg_of X G (s.ok.glo _ hg), s.ok.mkc _ (lookup_mem hc), hb, cls_sound m g hL hC lk hcd o.fs hn hN hs hchk⟩⟩
/-- an own rule of == or !=, by its text -/
theorem met_of (s : Sure S K) (X : K.In base) (G : base.Ns mainGlobals mg) {W : Wd} (fit : Fits K (clsF S K) (exsF S K) W) {h : Sh} {Gt' : Gt} {L : Nat} (m : MOk W h P w K mg base L) (g : GOk W P w K mg base L Gt') (hL : 2 ≤ L) {d : He.DefD} {x mt : Str} {N ps : List Str} {ir : ISs} {c : Nat}
    (hd : d ∈ S.defs) (hat : d.at_ = (x, some mt)) (hm : (c, x, mt) ∈ S.mts) (hc : S.cls.lookup c = some x) (hno : noM mt = false) (o : defNB d N ps = true) (hn : ps.length = 2) (hchk : chkSs (scOf h Gt' N) d.scope (fun _ => true) ir d.body = true) : FnX W P w K mg base (L + 1) mt c (runF (tbOf Gt' h) ir N.length 2) := by
  obtain ⟨fd, F⟩ := s.funD hd
  have o := defNB_ok o
  have hb := o.binds F
  have ef : He.fAd K d.at_ = He.ma K (He.ga K x) mt := by rw [hat]; rfl
  obtain ⟨oc, od, dV, kV, doc, pm, an, cdv, ct, osl, rfl, lk, hcd, _, _⟩ := F.ex
  rw [ef] at lk
  have hC : W.cls c = some (He.ga K x) := by rw [fit.c]; unfold clsF; rw [hc]; rfl
  have e := s.ok.mts _ hm
  unfold meB at e
  simp only [Bool.and_eq_true, List.all_eq_true] at e
  obtain ⟨⟨e1, e2⟩, e3⟩ := e
  exact .inr ⟨hno, _, _, _, ps, hn, hC, He.eqO_ok e1, e2, e3, hb, fn_sound m g hL lk hcd o.fs hn hchk⟩
/-- `_law_fault` -/
theorem fault_of (s : Sure S K) (X : K.In base) (G : base.Ns mainGlobals mg) {W : Wd} {h : Sh} {L : Nat} (m : MOk W h P w K mg base L) (fit : Fits K (clsF S K) (exsF S K) W) (hex : h.exn = fun c => S.exs.lookup c) {d : He.DefD} {x a n : Str} {r : List (Nat × Str)}
    (hd : d ∈ S.defs) (hat : d.at_ = (x, none)) (hg : x ∈ S.glo) (o : defNB d [a, n] [a] = true) (hr : (r.all fun q => (S.exs.lookup q.1).isSome) = true) (hchk : chkFault h.exn d.scope a n r d.body = true) : FnD W P w K mg base (L + 1) x 1 (mFault r h.clo) := by
  obtain ⟨fd, F⟩ := s.funD hd
  have o := defNB_ok o
  have hb := o.binds F
  have kp := F.kp
  have ef : He.fAd K d.at_ = He.ga K x := by rw [hat]; rfl
  obtain ⟨oc, od, dV, kV, doc, pm, an, cdv, ct, osl, rfl, lk, hcd, _, _⟩ := F.ex
  rw [ef] at lk kp
  refine ⟨_, _, [a], rfl, PySem.W.mg_of X G (s.ok.glo _ hg), kp, hb, fault_sound m (exk_of s fit) (fun e y he => ?_) lk hcd o.fs (fun q hq => ?_) hchk⟩
  · rw [hex] at he
    exact exn_of P w (mkr := fun _ _ => M.bad) s X G fit e y he
  · obtain ⟨y, hy⟩ := Option.isSome_iff_exists.mp (List.all_eq_true.mp hr q hq)
    rw [fit.e]
    exact ⟨He.ga K y, by unfold exsF; rw [hy]; rfl⟩
end
end DL
set_option maxHeartbeats 4000000
namespace DL
open PySem PySem.Spec PyProof.Rows L2 LamX

section
variable {W : Wd} {P : Program} {w : World} {K : PySem.W.Frag} {mg : Str → Option Value} {base : Heap} {L L' : Nat} {G : Gt}
theorem gok_cons {x : Str} {n : Nat} {m : List D → M D} (f : FnX W P w K mg base L' x n m) (hl : L' ≤ L) (g : GOk W P w K mg base L G) : GOk W P w K mg base L ((x, n, m) :: G) := fun y hy => by
  rcases List.mem_cons.mp hy with e | hy
  · rw [e]; exact f.mono hl
  · exact g y hy
/-- a def that calls itself: its meaning by its depth -/
theorem fnx_rec {S : HSpec} (s : Sure S K) (X : K.In base) (G : base.Ns mainGlobals mg) {h : Sh} {L : Nat} {Gr : (List D → M D) → Gt} {x : Str} {N ps : List Str} {ir : ISs} (m : ∀ k, MOk W h P w K mg base (L + k)) (g : ∀ k mm, FnX W P w K mg base (L + k) x ps.length mm → GOk W P w K mg base (L + k) (Gr mm)) (hL : 2 ≤ L) {d : He.DefD}
    (hd : d ∈ S.defs) (hat : d.at_ = (x, none)) (hg : x ∈ S.glo) (hno : noM x = true) (o : defNB d N ps = true) (hchk : ∀ mm, chkSs (scOf h (Gr mm) N) d.scope (fun _ => true) ir d.body = true) {mr : Nat → List D → M D} (h0 : mr 0 = fun _ => M.bad) (hs : ∀ k, mr (k + 1) = runF (tbOf (Gr (mr k)) h) ir N.length ps.length) : ∀ k, FnX W P w K mg base (L + k) x ps.length (mr k)
  | 0 => by
    obtain ⟨fd, F⟩ := s.funD hd
    have o := defNB_ok o
    have hb := o.binds F
    have kp := F.kp
    have ef : He.fAd K d.at_ = He.ga K x := by rw [hat]; rfl
    rw [ef] at kp
    refine .inl ⟨hno, .inl ⟨_, _, ps, rfl, PySem.W.mg_of X G (s.ok.glo _ hg), kp, hb, ⟨fun vs H Q E z => z.1, fun A outer s H args us vs Q E _ _ _ _ z => ?_⟩⟩⟩
    obtain ⟨_, ds, F, p, _, _, gd⟩ := z
    rw [h0] at gd
    exact gd.elim
  | k + 1 => by
    rw [hs k]
    exact fnx_of s X G (L := L + k) (m k) (g k _ (fnx_rec s X G m g hL hd hat hg hno o hchk h0 hs k)) (Nat.le_trans hL (Nat.le_add_right _ _)) hd hat hg hno o (hchk _)
theorem FnD.mono {x : Str} {n : Nat} {m : List D → M D} (f : FnD W P w K mg base L x n m) (hl : L ≤ L') : FnD W P w K mg base L' x n m := by
  obtain ⟨a, fd, ps, h1, h2, h3, h4, h5⟩ := f
  exact ⟨a, fd, ps, h1, h2, h3, h4, h5.mono hl⟩
theorem CloOk.mono {clo : Nat → M D} (h : CloOk W P w K mg base L clo) (hl : L ≤ L') : CloOk W P w K mg base L' clo := fun n d hd A outer s H Q E f c' hq e0 hf hc' hg => h n d hd A outer s H Q E f c' (hq.mono hl) e0 hf hc' hg
end
/-! ### the head's Hook -/
def isTab : Obj → Bool
  | ⟨.none, none, .fields _, _⟩ => true
  | _ => false
def frN (g : Addr → Option Obj) (as : List Addr) : PySem.W.Frag := He.frG (fun a => match g a with
  | some o => if isTab o = true then none else some o
  | none => none) as
theorem frN_at {g : Addr → Option Obj} {as : List Addr} {a : Addr} {o : Obj} (h : (frN g as).lookup a = some o) : g a = some o ∧ isTab o = false := by
  have e : (match g a with
    | some o => if isTab o = true then none else some o
    | none => none) = some o := He.frG_at as h
  split at e
  · rename_i o' e'
    split at e
    · cases e
    · rename_i hn
      cases e
      exact ⟨e', by simpa using hn⟩
  · cases e
theorem frN_in {as : List Addr} {h : Heap} : (frN h.get? as).In h := fun _ _ e => (frN_at e).1
/-- what an object holds, as far as the facts look -/
def kids (o : Obj) : List Value := match o.data with
  | .seq its _ => its.toList
  | .dict es _ => es.toList.map fun e => e.val
  | .func fd => [fd.code]
  | .cls cd => [.ref cd.ns]
  | _ => []
def colV (g : Addr → Option Obj) : Nat → Value → List Addr
  | 0, _ => []
  | n + 1, v => match v with
    | .ref a => a :: (match g a with
      | some o => (kids o).flatMap (colV g n)
      | none => [])
    | _ => []
def asL (g : Addr → Option Obj) : List Addr := sysModules :: cStatics :: colV g 6 (.ref mainGlobals)
def forceK {β : Type} : List (Addr × Obj) → (List (Addr × Obj) → β) → β
  | [], k => k []
  | (a, o) :: r, k => forceK r fun r' => k ((a, o) :: r')
theorem forceK_eq {β : Type} : ∀ (l : List (Addr × Obj)) (k : List (Addr × Obj) → β), forceK l k = k l
  | [], _ => rfl
  | (a, o) :: r, k => forceK_eq r _
/-- the law's code object and its table, which is empty -/
def tabOf (g : Addr → Option Obj) (K : PySem.W.Frag) (x : Str) : Bool := match K.lookup (He.ga K x) with
  | some ⟨_, _, .func fd, _⟩ => (match fd.code with
    | .ref c => (match K.lookup c with
      | some ⟨.type t, _, .fields vs, _⟩ => decide (t = "code") && (match (vs[11]? : Option Value) with
        | some (Value.ref P) => (match vs.getD 11 .none with
          | .ref P' => decide (P' = P)
          | _ => false) && (match vs.getD 18 .none with
          | .str _ _ => true
          | _ => false) && (match vs.getD 7 .none with
          | .int _ _ => true
          | _ => false) && (match vs.getD 9 .none with
          | .bool _ => true
          | _ => false) && (match vs.getD 10 .none with
          | .int _ _ => true
          | _ => false) && !decide (c = P) && (match g P with
          | some ⟨.none, none, .fields us, sl⟩ => us.toList.isEmpty && sl.toList.isEmpty
          | _ => false)
        | _ => false)
      | _ => false)
    | _ => false)
  | _ => false
structure TabS (K : PySem.W.Frag) (h : Heap) (x : Str) : Prop where
  tb : ∃ oc od fd osl c P, K.lookup (He.ga K x) = some ⟨oc, od, .func fd, osl⟩ ∧ fd.code = .ref c ∧ h.get? P = some { cls := .none, data := .fields #[] } ∧ K.lookup P = none ∧ PySem.W.CodeHd h c P
theorem tabOf_ok {h : Heap} {as : List Addr} {x : Str} (e : tabOf h.get? (frN h.get? as) x = true) : TabS (frN h.get? as) h x := by
  unfold tabOf at e
  split at e
  · rename_i oc od fd osl e1
    split at e
    · rename_i c e2
      split at e
      · rename_i t dd vs sl e3
        obtain ⟨e4, e⟩ := Bool.and_eq_true_iff.mp e
        split at e
        · rename_i Q e5
          simp only [Bool.and_eq_true, Bool.not_eq_true', decide_eq_false_iff_not] at e
          obtain ⟨⟨⟨⟨⟨⟨e6, e7⟩, e8⟩, e9⟩, e10⟩, e11⟩, e12⟩ := e
          split at e6
          · rename_i P' e61
            split at e7
            · rename_i f1 f2 e71
              split at e8
              · rename_i f3 f4 e81
                split at e9
                · rename_i f5 e91
                  split at e10
                  · rename_i f6 f7 e101
                    split at e12
                    · rename_i us sl' e121
                      have hQ : h.get? Q = some { cls := .none, data := .fields #[] } := by
                        obtain ⟨z1, z2⟩ := Bool.and_eq_true_iff.mp e12
                        have z1 : us = #[] := by
                          rw [← Array.toList_inj]; simpa using z1
                        have z2 : sl' = #[] := by
                          rw [← Array.toList_inj]; simpa using z2
                        rw [e121, z1, z2]
                      have ht := of_decide_eq_true e4
                      have hp := of_decide_eq_true e6
                      subst ht hp
                      refine ⟨oc, od, fd, osl, c, P', e1, e2, hQ, ?_, ⟨_, vs, f1, f2, f3, f4, f5, f6, f7, (frN_at e3).1, rfl, rfl, e5, e61, e71, e81, e91, e101, e11⟩⟩
                      cases q : List.lookup P' (frN h.get? as) with
                      | none => rfl
                      | some o =>
                        obtain ⟨q1, q2⟩ := frN_at q
                        rw [hQ] at q1
                        cases q1
                        cases q2
                    · cases e12
                  · cases e10
                · cases e9
              · cases e8
            · cases e7
          · cases e6
        · cases e
      · cases e
    · cases e
  · cases e
abbrev AlL : Type := Bool × List He.FnW
def obsK (S : HSpec) (x : Str) (g : Addr → Option Obj) (K : PySem.W.Frag) : AlL := (okM S K && tabOf g K x, S.defs.map fun d => He.fnW K d.at_)
def obsL (S : HSpec) (x : Str) (g : Addr → Option Obj) : AlL := forceK (frN g (asL g)) (obsK S x g)
def valL (S : HSpec) : AlL := (true, S.defs.map He.DefD.val)
def hookL (S : HSpec) (x : Str) : PySem.W.Hook where
  α := AlL
  obs := fun s => obsL S x s.heap.get?
  val := fun _ => valL S
  says := fun _ h => ∃ K : PySem.W.Frag, K.In h ∧ (okM S K = true ∧ S.defs.map (fun d => He.fnW K d.at_) = S.defs.map He.DefD.val) ∧ TabS K h x
  of := fun _ s e => by
    unfold obsL at e
    rw [forceK_eq] at e
    have e1 : (okM S (frN s.heap.get? (asL s.heap.get?)) && tabOf s.heap.get? (frN s.heap.get? (asL s.heap.get?)) x) = true := congrArg (fun z : AlL => z.1) e
    have e2 : S.defs.map (fun d => He.fnW (frN s.heap.get? (asL s.heap.get?)) d.at_) = S.defs.map He.DefD.val := congrArg (fun z : AlL => z.2) e
    obtain ⟨a, b⟩ := Bool.and_eq_true_iff.mp e1
    exact ⟨_, frN_in, ⟨a, e2⟩, tabOf_ok b⟩
  keeps := fun _ h h' ⟨K, hK, c, ⟨oc, od, fd, osl, c', P, h1, h2, h3, h4, h5⟩⟩ k => ⟨K, PySem.W.Frag.In.keeps hK k, c, ⟨oc, od, fd, osl, c', P, h1, h2, k _ _ h3, h4, h5.keeps k⟩⟩
theorem obsL_eq {S : HSpec} {x : Str} (s : PySem.W.SharedT) : obsL S x (HandSHeadRun.getT s) = (hookL S x).obs s.abs := by
  have e : HandSHeadRun.getT s = s.abs.heap.get? := funext fun a => HandSHeadRun.getT_eq s a
  rw [e] <;> rfl
/-! ### a law's end over the Hook -/
theorem walk_ofX {l : PySem.W.OpenLaw} {n k : Nat} {q : Program} {loose : List Str} {XP : (Str → Option Value) → Heap → Prop} {YP : World → Heap → Prop} {d : DefRec} {x : Str}
    (hn : l.most = some n) (hn2 : n ≤ sizeLine) (hdf : d.params.defaults = []) (hr : Quiet k callerA)
    (F : ∀ (w : World) (mg : Str → Option Value) (fa : Addr) (h : Heap), YP w h → h.Ns mainGlobals mg → mg d.name = some (.ref fa) → ∃ K : PySem.W.Frag, K.In h ∧ LawG l w K k n x mg fa h) :
    PySem.W.WalkO q loose XP YP l.row.toRowW d [] (fun f vs => PySem.call f vs) := by
  refine Att.attach_call hn hdf fun w s₀ s₁ mg mb fa o pm cd doc a vs ns G Y ho hd hcd hmg hobj hints hlen hg => ?_
  obtain ⟨K, KX, fd, cs, sp, a1, a2, a3, a4, a5, a6⟩ := F w mg fa _ Y G.T.g hmg
  exact law_callG KX G.T.g G.T.b G.T.builtins G.T.nolimit hg a1 a2 a3 G.T.bmain hobj hints (Nat.le_trans hlen hn2) hr a6 a4 (fun H hH hS => a5 H a ns hlen hH hS)
end DL
set_option maxHeartbeats 0
namespace LK
open PySem PySem.Spec PyProof.Rows L2 DL
/-! ### the law's text -/
def top (i : Nat) : Stmt := PySem.Challenge.pw_webrooms_k32_boxes_made.main.body.getD i (.Pass ⟨0, 0, 0, 0⟩)
def dd (x : Str) (i : Nat) : He.DefD := ⟨(x, none), x, x, defArgs (top i), defBody (top i), defScope (top i), [], []⟩
def dm (x m q : Str) (i j : Nat) : He.DefD := ⟨(x, some m), m, q, defArgs (inClass (top i) j), defBody (inClass (top i) j), defScope (inClass (top i) j), [], []⟩
def names : List PySem.Str := (["RoomError", "BadNumber", "BadWeb", "BadRow", "BadTable", "BadLot", "Unlike", "TooMany", "is_whole", "in_tuples", "is_tuple_of", "is_pair", "lowest", "told", "lessened", "scaled"] : List PySem.Str) ++ (["parted", "FIELDS", "is_item", "item_of", "is_nothing", "less_items", "times_items", "over_items", "row_less", "MOST", "need_field", "is_row", "told_row", "loose_row", "is_table", "table_from"] : List PySem.Str) ++ (["steps", "reduced_of", "MOST_PORTS", "MOST_WIDTH", "MOST_ITEMS", "Box", "are_ports", "box_key", "_law_pen", "_law_draw", "_law_pick", "_law_gcd", "_law_q", "_law_plus", "_law_times", "_law_minus"] : List PySem.Str) ++ (["_law_share", "_law_number", "_law_handed", "_law_field", "_law_zero", "_law_is_zero", "_law_add", "_law_sub", "_law_mul", "_law_over", "_law_item", "_law_row", "_law_table", "_law_passed", "_law_passed_rows", "_law_reduced"] : List PySem.Str) ++ (["_law_widths", "_law_mix", "_law_fault", "_law_are_due", "_law_odd", "_law_span", "_law_drawn_box", "_law_case"] : List PySem.Str)
def S : HSpec where
  defs := ([dm "BadNumber" "__init__" "BadNumber.__init__" 3 0, dm "BadWeb" "__init__" "BadWeb.__init__" 4 0, dm "BadRow" "__init__" "BadRow.__init__" 5 0, dm "BadTable" "__init__" "BadTable.__init__" 6 0, dm "BadLot" "__init__" "BadLot.__init__" 7 0, dm "Unlike" "__init__" "Unlike.__init__" 8 0, dm "TooMany" "__init__" "TooMany.__init__" 9 0, dd "is_whole" 11, dd "in_tuples" 12, dd "is_tuple_of" 13, dd "is_pair" 15, dd "lowest" 16, dd "told" 17, dd "lessened" 18, dd "scaled" 19, dd "parted" 20] : List He.DefD) ++ ([dd "is_item" 23, dd "item_of" 24, dd "is_nothing" 25, dd "less_items" 26, dd "times_items" 27, dd "over_items" 28, dd "row_less" 29, dd "need_field" 32, dd "is_row" 33, dd "told_row" 34, dd "loose_row" 35, dd "is_table" 36, dd "table_from" 37, dd "steps" 38, dd "reduced_of" 39, dm "Box" "__init__" "Box.__init__" 44 0] : List He.DefD) ++ ([dm "Box" "__eq__" "Box.__eq__" 44 1, dm "Box" "__ne__" "Box.__ne__" 44 2, dd "are_ports" 45, dd "box_key" 46, dd "_law_pen" 48, dd "_law_draw" 49, dd "_law_pick" 50, dd "_law_gcd" 51, dd "_law_q" 52, dd "_law_plus" 53, dd "_law_times" 54, dd "_law_minus" 55, dd "_law_share" 56, dd "_law_number" 57, dd "_law_handed" 58, dd "_law_field" 59] : List He.DefD) ++ ([dd "_law_zero" 60, dd "_law_is_zero" 61, dd "_law_add" 62, dd "_law_sub" 63, dd "_law_mul" 64, dd "_law_over" 65, dd "_law_item" 66, dd "_law_row" 67, dd "_law_table" 68, dd "_law_passed" 69, dd "_law_passed_rows" 70, dd "_law_reduced" 71, dd "_law_widths" 72, dd "_law_mix" 73, dd "_law_fault" 74, dd "_law_are_due" 75] : List He.DefD) ++ ([dd "_law_odd" 76, dd "_law_span" 77, dd "_law_drawn_box" 78, dd "_law_case" 79, dd "law" 80] : List He.DefD)
  glo := (["RoomError", "BadNumber", "BadWeb", "BadRow", "BadTable", "BadLot", "Unlike", "TooMany", "is_whole", "in_tuples", "is_tuple_of", "is_pair", "lowest", "told", "lessened", "scaled"] : List PySem.Str) ++ (["parted", "is_item", "item_of", "is_nothing", "less_items", "times_items", "over_items", "row_less", "need_field", "is_row", "told_row", "loose_row", "is_table", "table_from", "steps", "reduced_of"] : List PySem.Str) ++ (["Box", "are_ports", "box_key", "_law_pen", "_law_draw", "_law_pick", "_law_gcd", "_law_q", "_law_plus", "_law_times", "_law_minus", "_law_share", "_law_number", "_law_handed", "_law_field", "_law_zero"] : List PySem.Str) ++ (["_law_is_zero", "_law_add", "_law_sub", "_law_mul", "_law_over", "_law_item", "_law_row", "_law_table", "_law_passed", "_law_passed_rows", "_law_reduced", "_law_widths", "_law_mix", "_law_fault", "_law_are_due", "_law_odd"] : List PySem.Str) ++ (["_law_span", "_law_drawn_box", "_law_case", "law"] : List PySem.Str)
  free := ["len", "tuple", "sum", "all", "int", "abs", "min", "repr", "isinstance", "list", "range", "zip", "bool"]
  rt := "RoomError"
  exs := [(0, "BadNumber"), (1, "BadWeb"), (2, "BadRow"), (3, "BadTable"), (4, "BadLot"), (5, "Unlike"), (6, "TooMany")]
  cls := [(14, "Box")]
  gcd := true
  con := ([("FIELDS", .tup [.int 0, .int 2, .int 3, .int 5, .int 7]), ("MOST", .int 24), ("MOST_PORTS", .int 6), ("MOST_WIDTH", .int 4), ("MOST_ITEMS", .int 12)] : List (PySem.Str × D))
  mts := [(14, "Box", "__eq__"), (14, "Box", "__ne__")]
abbrev R : PySem.W.OpenRow := PySem.W.OpenLaw.row PySem.Challenge.rw_webrooms_k32_boxes_made
abbrev hk : PySem.W.Hook := hookL S "law"
def ob (s : PySem.W.SharedT) : AlL := obsL S "law" (HandSHeadRun.getT s)
theorem ob_eq (s : PySem.W.SharedT) : ob s = hk.obs s.abs := obsL_eq s
theorem run (w : World) : HandSHeadRun.RunEqI R (PySem.W.view R.prog [0, 80]) hk ob 60000 names w := by
  unfold HandSHeadRun.RunEqI; kernel_rfl
end LK
set_option maxHeartbeats 1000000
namespace DL
open PySem PySem.Spec PyProof.Rows

/-! ### what a computation leaves -/
def Wo {α : Type} (o : Out α) (Q : α → Pen → Prop) (E : Exc → Pen → Prop) : Prop := match o with
  | .ok a p => Q a p
  | .err e p => E e p
  | .bad => False
def Ws (o : OS) (Q : Fl → En → Pen → Prop) (E : Exc → Pen → Prop) : Prop := match o with
  | .ok f ρ p => Q f ρ p
  | .err e p => E e p
  | .bad => False
def noE : Exc → Pen → Prop := fun _ _ => False
/-! what is done next: words that are not looked into until they have all that they ask -/
@[irreducible] def cO {α β : Type} (f : α → M β) (Q : β → Pen → Prop) (E : Exc → Pen → Prop) : α → Pen → Prop := fun a p => Wo (f a p) Q E
@[irreducible] def cE {α : Type} (k : α → Pen → OS) (Q : Fl → En → Pen → Prop) (E : Exc → Pen → Prop) : α → Pen → Prop := fun a p => Ws (k a p) Q E
@[irreducible] def cS (k : En → Pen → OS) (Q : Fl → En → Pen → Prop) (E : Exc → Pen → Prop) : Fl → En → Pen → Prop := fun f ρ p => match f with
  | .nx => Ws (k ρ p) Q E
  | f => Q f ρ p
def fnQ (Q : D → Pen → Prop) : Fl → En → Pen → Prop := fun f _ p => match f with
  | .nx => Q .non p
  | .rt d => Q d p
  | _ => False
section
variable {α β : Type} {E : Exc → Pen → Prop}
theorem Wo_ok {a : α} {p : Pen} {Q : α → Pen → Prop} : Wo (.ok a p) Q E = Q a p := rfl
theorem Wo_err {e : Exc} {p : Pen} {Q : α → Pen → Prop} : Wo (.err e p) Q E = E e p := rfl
theorem Wo_bad {Q : α → Pen → Prop} : Wo (.bad : Out α) Q E = False := rfl
theorem Ws_ok {f : Fl} {ρ : En} {p : Pen} {Q : Fl → En → Pen → Prop} : Ws (.ok f ρ p) Q E = Q f ρ p := rfl
theorem Ws_err {e : Exc} {p : Pen} {Q : Fl → En → Pen → Prop} : Ws (.err e p) Q E = E e p := rfl
theorem Ws_bad {Q : Fl → En → Pen → Prop} : Ws .bad Q E = False := rfl
theorem Wo_bind {o : Out α} {f : α → M β} {Q : β → Pen → Prop} : Wo (o.bind f) Q E = Wo o (cO f Q E) E := by cases o <;> first | rfl | (show _ = cO f Q E _ _; unfold cO; rfl)
theorem Ws_ofE {o : Out α} {k : α → Pen → OS} {Q : Fl → En → Pen → Prop} : Ws (ofE o k) Q E = Wo o (cE k Q E) E := by cases o <;> first | rfl | (show _ = cE k Q E _ _; unfold cE; rfl)
theorem Ws_seq {o : OS} {k : En → Pen → OS} {Q : Fl → En → Pen → Prop} : Ws (o.seq k) Q E = Ws o (cS k Q E) E := by
  cases o with
  | ok f ρ p => cases f <;> (show _ = cS k Q E _ _ _; unfold cS; rfl)
  | err e p => rfl
  | bad => rfl
theorem cO_app {f : α → M β} {Q : β → Pen → Prop} {a : α} {p : Pen} : cO f Q E a p = Wo (f a p) Q E := by unfold cO; rfl
theorem cE_app {k : α → Pen → OS} {Q : Fl → En → Pen → Prop} {a : α} {p : Pen} : cE k Q E a p = Ws (k a p) Q E := by unfold cE; rfl
theorem cS_nx {k : En → Pen → OS} {Q : Fl → En → Pen → Prop} {ρ : En} {p : Pen} : cS k Q E .nx ρ p = Ws (k ρ p) Q E := by unfold cS; rfl
theorem cS_rt {k : En → Pen → OS} {Q : Fl → En → Pen → Prop} {d : D} {ρ : En} {p : Pen} : cS k Q E (.rt d) ρ p = Q (.rt d) ρ p := by unfold cS; rfl
theorem cS_brk {k : En → Pen → OS} {Q : Fl → En → Pen → Prop} {ρ : En} {p : Pen} : cS k Q E .brk ρ p = Q .brk ρ p := by unfold cS; rfl
theorem cS_cnt {k : En → Pen → OS} {Q : Fl → En → Pen → Prop} {ρ : En} {p : Pen} : cS k Q E .cnt ρ p = Q .cnt ρ p := by unfold cS; rfl
theorem fnQ_nx {Q : D → Pen → Prop} {ρ : En} {p : Pen} : fnQ Q .nx ρ p = Q .non p := rfl
theorem fnQ_rt {Q : D → Pen → Prop} {d : D} {ρ : En} {p : Pen} : fnQ Q (.rt d) ρ p = Q d p := rfl
theorem Wo_outF {o : OS} {Q : D → Pen → Prop} : Wo (outF o) Q E = Ws o (fnQ Q) E := by
  cases o with
  | ok f ρ p => cases f <;> rfl
  | err e p => rfl
  | bad => rfl
theorem Wo_runF {T : Tb} {b : ISs} {nl n : Nat} {ds : List D} {p : Pen} {Q : D → Pen → Prop} (h : ds.length = n) (k : Ws (dSs T b (env0 nl ds) p) (fnQ Q) E) : Wo (runF T b nl n ds p) Q E := by
  unfold runF
  rw [if_pos h, Wo_outF]
  exact k
theorem Wo_ofO {a : α} {p : Pen} {Q : α → Pen → Prop} : Wo (ofO (some a) p) Q E = Q a p := rfl
theorem Wo_ofN {p : Pen} {Q : α → Pen → Prop} : Wo (ofO (none : Option α) p) Q E = False := rfl
theorem Wo_pure {a : α} {p : Pen} {Q : α → Pen → Prop} : Wo (M.pure a p) Q E = Q a p := rfl
theorem Wo_Mbad {p : Pen} {Q : α → Pen → Prop} : Wo ((M.bad : M α) p) Q E = False := rfl
theorem Wo.mono {o : Out α} {Q Q' : α → Pen → Prop} {E' : Exc → Pen → Prop} (h : Wo o Q E) (k : ∀ a p, Q a p → Q' a p) (k' : ∀ e p, E e p → E' e p) : Wo o Q' E' := by
  cases o with
  | ok a p => exact k _ _ h
  | err e p => exact k' _ _ h
  | bad => exact h
theorem Wo.im {o : Out α} {Q Q' : α → Pen → Prop} (h : Wo o Q noE) (k : ∀ a p, Q a p → Q' a p) : Wo o Q' E := h.mono k fun _ _ z => z.elim
theorem Ws.mono {o : OS} {Q Q' : Fl → En → Pen → Prop} {E' : Exc → Pen → Prop} (h : Ws o Q E) (k : ∀ f ρ p, Q f ρ p → Q' f ρ p) (k' : ∀ e p, E e p → E' e p) : Ws o Q' E' := by
  cases o with
  | ok f ρ p => exact k _ _ _ h
  | err e p => exact k' _ _ h
  | bad => exact h
theorem Wo.ok_of {o : Out α} {Q : α → Pen → Prop} (h : Wo o Q noE) : ∃ a p, o = .ok a p ∧ Q a p := by
  cases o with
  | ok a p => exact ⟨a, p, rfl, h⟩
  | err e p => exact h.elim
  | bad => exact h.elim
theorem Ws.ok_of {o : OS} {Q : Fl → En → Pen → Prop} (h : Ws o Q noE) : ∃ f ρ p, o = .ok f ρ p ∧ Q f ρ p := by
  cases o with
  | ok f ρ p => exact ⟨f, ρ, p, rfl, h⟩
  | err e p => exact h.elim
  | bad => exact h.elim
/-- an equation of a def that draws nothing and raises nothing -/
theorem eq_of_W {o : Out α} {a : α} {p : Pen} (h : Wo o (fun b q => b = a ∧ q = p) noE) : o = .ok a p := by
  obtain ⟨b, q, e, rfl, rfl⟩ := h.ok_of
  exact e
theorem eq_of_X {o : Out α} {x : Exc} {p : Pen} (h : Wo o (fun _ _ => False) (fun e q => e = x ∧ q = p)) : o = .err x p := by
  cases o with
  | ok a q => exact h.elim
  | err e q => obtain ⟨rfl, rfl⟩ := h; rfl
  | bad => exact h.elim
/-! ### loops -/
theorem Ws_loop {bd : D → En → Option En} {f : En → Pen → OS} {Q : Fl → En → Pen → Prop} (I : Nat → En → Pen → Prop) : ∀ (xs : List D) (i : Nat) {ρ : En} {p : Pen}, I i ρ p →
    (∀ j x ρ p, xs[j]? = some x → I (i + j) ρ p → ∃ ρ1, bd x ρ = some ρ1 ∧ Ws (f ρ1 p) (fun fl ρ2 p2 => match fl with
      | .nx => I (i + j + 1) ρ2 p2
      | .cnt => I (i + j + 1) ρ2 p2
      | .brk => Q .nx ρ2 p2
      | .rt d => Q (.rt d) ρ2 p2) E) → (∀ ρ p, I (i + xs.length) ρ p → Q .nx ρ p) → Ws (loopL bd f xs ρ p) Q E
  | [], i, ρ, p, h0, _, he => he ρ p h0
  | x :: xs, i, ρ, p, h0, hs, he => by
    obtain ⟨ρ1, e1, w⟩ := hs 0 x ρ p rfl h0
    unfold loopL
    rw [e1]
    simp only
    cases eo : f ρ1 p with
    | bad => rw [eo] at w; exact w
    | err e p1 => rw [eo] at w; exact w
    | ok fl ρ2 p2 =>
      rw [eo] at w
      have rec_ : I (i + 1) ρ2 p2 → Ws (loopL bd f xs ρ2 p2) Q E := fun h => Ws_loop I xs (i + 1) h (fun j y ρ p hj hI => by
        have := hs (j + 1) y ρ p (by simpa using hj) (by rw [show i + (j + 1) = i + 1 + j from by omega]; exact hI)
        rw [show i + (j + 1) = i + 1 + j from by omega] at this
        exact this) (fun ρ p hI => he ρ p (by rw [List.length_cons, show i + (xs.length + 1) = i + 1 + xs.length from by omega]; exact hI))
      cases fl with
      | nx => exact rec_ w
      | cnt => exact rec_ w
      | brk => exact w
      | rt d => exact w
theorem Wo_comp {f : D → M (Option D)} {Q : List D → Pen → Prop} (I : Nat → List D → Pen → Prop) : ∀ (xs : List D) (i : Nat) (acc : List D) {p : Pen}, I i acc p →
    (∀ j x acc p, xs[j]? = some x → I (i + j) acc p → Wo (f x p) (fun o p2 => match o with
      | some y => I (i + j + 1) (acc ++ [y]) p2
      | none => I (i + j + 1) acc p2) noE) → (∀ ys p, I (i + xs.length) (acc ++ ys) p → Q ys p) → Wo (compL f xs p) Q E
  | [], i, acc, p, h0, _, he => he [] p (by rw [List.append_nil]; exact h0)
  | x :: xs, i, acc, p, h0, hs, he => by
    have w := hs 0 x acc p rfl h0
    unfold compL
    cases eo : f x p with
    | bad => rw [eo] at w; exact w.elim
    | err e p1 => rw [eo] at w; exact w.elim
    | ok o p1 =>
      rw [eo] at w
      have st : ∀ j y a p, xs[j]? = some y → I (i + 1 + j) a p → Wo (f y p) (fun o p2 => match o with
          | some y => I (i + 1 + j + 1) (a ++ [y]) p2
          | none => I (i + 1 + j + 1) a p2) noE := fun j y a p hj hI => by
        have := hs (j + 1) y a p (by simpa using hj) (by rw [show i + (j + 1) = i + 1 + j from by omega]; exact hI)
        rw [show i + (j + 1) = i + 1 + j from by omega] at this
        exact this
      have hl : i + (x :: xs).length = i + 1 + xs.length := by rw [List.length_cons]; omega
      rw [hl] at he
      cases o with
      | some y =>
        show Wo ((compL f xs p1).bind fun ys => M.pure (y :: ys)) Q E
        rw [Wo_bind]
        exact Wo_comp I xs (i + 1) (acc ++ [y]) w st fun ys p hI => by rw [cO_app]; exact he (y :: ys) p (by rw [List.append_cons]; exact hI)
      | none => exact Wo_comp I xs (i + 1) acc w st he
/-- a comprehension that draws nothing -/
theorem comp_pure {f : D → M (Option D)} (g : D → Option D) : ∀ (xs : List D) (p : Pen), (∀ x ∈ xs, f x p = .ok (g x) p) → compL f xs p = .ok (xs.filterMap g) p
  | [], p, _ => rfl
  | x :: xs, p, h => by
    unfold compL
    rw [h x (List.mem_cons_self ..)]
    have r := comp_pure g xs p fun y hy => h y (List.mem_cons_of_mem _ hy)
    cases e : g x with
    | none => simp only [List.filterMap_cons, e]; exact r
    | some y => simp only [List.filterMap_cons, e]; rw [r]; rfl
theorem comp_map {f : D → M (Option D)} (g : D → D) (xs : List D) (p : Pen) (h : ∀ x ∈ xs, f x p = .ok (some (g x)) p) : compL f xs p = .ok (xs.map g) p := by
  rw [comp_pure (fun x => some (g x)) xs p h, List.filterMap_eq_map']
end

/-! ### the meanings, one word at a time -/
section
variable {T : Tb} {vw : Bool} {ρ : En} {p : Pen}
def k1 (o : D → Option D) : D → M D := fun x => ofO (o x)
def kB1 (T : Tb) (g : D → D → Option D) (b : IE) (ρ : En) : D → M D := fun x p => (dM T true b ρ p).bind (kB2 g x)
  where kB2 (g : D → D → Option D) (x : D) : D → M D := fun y => ofO (g x y)
def kX1 (T : Tb) (b : IE) (ρ : En) : D → M D := fun x p => (dM T false b ρ p).bind (kB1.kB2 opIdx x)
def kBl (f : Bool → M D) : D → M D
  | .bl b => f b
  | _ => M.bad
def fAnd (T : Tb) (b : IE) (ρ : En) : Bool → M D
  | true => dM T false b ρ
  | false => M.pure (.bl false)
def fOr (T : Tb) (b : IE) (ρ : En) : Bool → M D
  | true => M.pure (.bl true)
  | false => dM T false b ρ
def fNot : Bool → M D := fun k => M.pure (.bl (!k))
def kTrO {α : Type} (f : Bool → M α) : Option Bool → M α
  | some b => f b
  | none => M.bad
def kTr {α : Type} (f : Bool → M α) : D → M α := fun x p => kTrO f (truth x) p
def fIf (T : Tb) (a b : IE) (ρ : En) : Bool → M D
  | true => dM T false a ρ
  | false => dM T false b ρ
def kTup : List D → M D := fun xs => M.pure (.tup xs)
def kLst : List D → M D := fun xs => M.pure (.lst xs)
def kCons1 (T : Tb) (vw : Bool) (as : IEs) (ρ : En) : D → M (List D) := fun x p => (dMs T vw as ρ p).bind (kCons2 x)
  where kCons2 (x : D) : List D → M (List D) := fun xs => M.pure (x :: xs)
def kCall (m : Option (List D → M D)) : List D → M D := fun xs p => match m with
  | some m => m xs p
  | none => .bad
def kBlt (b : Blt) : List D → M D := fun xs => ofO (opBlt b xs)
def kIsN : D → M D := fun x => M.pure (.bl (isNon x))
def kNotN : D → M D := fun x => M.pure (.bl (!isNon x))
def kIsB (b : Bool) : D → M D := fun x => M.pure (.bl (isBl b x))
def kCh1 (T : Tb) (op op' : Cm) (b c : IE) (ρ : En) : D → M D := fun x p => (dM T false b ρ p).bind (kCh2 T op op' c ρ x)
  where
  kCh2 (T : Tb) (op op' : Cm) (c : IE) (ρ : En) (x : D) : D → M D := fun y p => (ofO (opCmp op x y) p).bind (kCh3 T op' c ρ y)
  kCh3 (T : Tb) (op' : Cm) (c : IE) (ρ : En) (y : D) : Bool → M D
    | true => fun p => (dM T false c ρ p).bind (kB1.kB2 (fun y z => (opCmp op' y z).map .bl) y)
    | false => M.pure (.bl false)
def kSl1 (T : Tb) (lo hi : IEs) (ρ : En) : D → M D := fun x p => (dO T lo ρ p).bind (kSl2 T hi ρ x)
  where
  kSl2 (T : Tb) (hi : IEs) (ρ : En) (x : D) : Option Int → M D := fun l p => (dO T hi ρ p).bind (kSl3 x l)
  kSl3 (x : D) (l : Option Int) : Option Int → M D := fun h => ofO (opSlc x l h)
def kOi : D → M (Option Int) := fun x => ofO ((intOf x).map some)
def getS (ρ : En) (i : Nat) : M D := fun p => match ρ[i]? with
  | some (.shr d) => .ok d p
  | _ => .bad
def getO (ρ : En) (i : Nat) : M D := fun p => match ρ[i]? with
  | some (.own xs) => .ok (.lst xs) p
  | _ => .bad
def getP (ρ : En) (i : Nat) (k : PK) : M D := fun p => match ρ[i]? with
  | some (.shr .pen) => .ok (pgetD k p) p
  | _ => .bad
theorem d_var {i : Nat} : dM T vw (.var i) ρ p = getS ρ i p := by
  unfold dM getS
  cases h : ρ[i]? with
  | none => rfl
  | some s => cases s <;> rfl
theorem d_own {i : Nat} : dM T true (.own i) ρ p = getO ρ i p := by
  unfold dM getO
  cases h : ρ[i]? with
  | none => rfl
  | some s => cases s <;> rfl
theorem d_int {i : Int} : dM T vw (.int i) ρ p = .ok (.int i) p := by unfold dM; rfl
theorem d_str {i : Str} : dM T vw (.str i) ρ p = .ok (.str i) p := by unfold dM; rfl
theorem d_bl {i : Bool} : dM T vw (.bl i) ρ p = .ok (.bl i) p := by unfold dM; rfl
theorem d_non : dM T vw .non ρ p = .ok .non p := by unfold dM; rfl
theorem d_dct0 : dM T vw .dct0 ρ p = .ok (.dct [] []) p := by unfold dM; rfl
theorem d_con {k : Nat} : dM T vw (.con k) ρ p = ofO T.con[k]? p := by unfold dM; rfl
theorem d_bin {op : Op} {a b : IE} : dM T vw (.bin op a b) ρ p = (dM T true a ρ p).bind (kB1 T (opBin op) b ρ) := by rw [dM]; rfl
theorem d_neg {a : IE} : dM T vw (.neg a) ρ p = (dM T false a ρ p).bind (k1 fun x => (intOf x).map fun i => .int (-i)) := by rw [dM]; rfl
theorem d_cmp {op : Cm} {a b : IE} : dM T vw (.cmp op a b) ρ p = (dM T true a ρ p).bind (kB1 T (fun x y => (opCmp op x y).map .bl) b ρ) := by rw [dM]; rfl
theorem d_isN {a : IE} : dM T vw (.isN a) ρ p = (dM T false a ρ p).bind kIsN := by rw [dM]; rfl
theorem d_notN {a : IE} : dM T vw (.notN a) ρ p = (dM T false a ρ p).bind kNotN := by rw [dM]; rfl
theorem d_isB {a : IE} {b : Bool} : dM T vw (.isB a b) ρ p = (dM T false a ρ p).bind (kIsB b) := by rw [dM]; rfl
theorem kCh3_eq {T : Tb} {op' : Cm} {c : IE} {ρ : En} {y : D} {k : Bool} : kCh1.kCh3 T op' c ρ y k = (if k = true then M.bind (dM T false c ρ) fun z => ofO ((opCmp op' y z).map .bl) else M.pure (.bl false)) := by cases k <;> rfl
theorem d_chain {op op' : Cm} {a b c : IE} : dM T vw (.chain op op' a b c) ρ p = (dM T false a ρ p).bind (kCh1 T op op' b c ρ) := by
  rw [dM]
  show (dM T false a ρ p).bind _ = _
  congr 1
  funext x p
  show (dM T false b ρ p).bind _ = (dM T false b ρ p).bind _
  congr 1
  funext y p
  show (ofO (opCmp op x y) p).bind _ = (ofO (opCmp op x y) p).bind _
  congr 1
  funext k
  exact kCh3_eq.symm
theorem kBl_eq {f g : Bool → M D} (h : ∀ k, f k = g k) : (fun x => M.bind (ofO (blOf x)) f) = kBl g := by
  funext x p
  cases x <;> first | rfl | skip
  exact congrFun (h _) p
theorem kTr_eq {α : Type} {f g : Bool → M α} (h : ∀ k, f k = g k) : (fun x => M.bind (ofO (truth x)) f) = kTr g := by
  funext x p
  unfold kTr
  cases e : truth x with
  | none => rfl
  | some b => exact congrFun (h b) p
theorem d_and {a b : IE} : dM T vw (.and a b) ρ p = (dM T false a ρ p).bind (kBl (fAnd T b ρ)) := by
  rw [dM, ← kBl_eq (f := fun k => if k = true then dM T false b ρ else M.pure (.bl false)) fun k => by cases k <;> rfl]; rfl
theorem d_or {a b : IE} : dM T vw (.or a b) ρ p = (dM T false a ρ p).bind (kBl (fOr T b ρ)) := by
  rw [dM, ← kBl_eq (f := fun k => if k = true then M.pure (.bl true) else dM T false b ρ) fun k => by cases k <;> rfl]; rfl
theorem d_not {a : IE} : dM T vw (.not a) ρ p = (dM T false a ρ p).bind (kBl fNot) := by
  rw [dM, show (kBl fNot) = _ from (kBl_eq (f := fun k => M.pure (.bl (!k))) (g := fNot) fun k => rfl).symm]; rfl
theorem bind_assoc' {α β γ : Type} {o : Out α} {f : α → M β} {g : β → M γ} : (o.bind f).bind g = o.bind fun a p => (f a p).bind g := by cases o <;> rfl
theorem d_ifE {t a b : IE} : dM T vw (.ifE t a b) ρ p = (dM T false t ρ p).bind (kTr (fIf T a b ρ)) := by
  rw [dM, ← kTr_eq (f := fun k => if k = true then dM T false a ρ else dM T false b ρ) fun k => by cases k <;> rfl]
  show ((dM T false t ρ p).bind _).bind _ = _
  rw [bind_assoc']
  rfl
theorem d_tup {as : IEs} : dM T vw (.tup as) ρ p = (dMs T false as ρ p).bind kTup := by rw [dM]; rfl
theorem d_idx {a i : IE} : dM T vw (.idx a i) ρ p = (dM T true a ρ p).bind (kX1 T i ρ) := by rw [dM]; rfl
theorem d_slc {a : IE} {lo hi : IEs} : dM T vw (.slc a lo hi) ρ p = (dM T true a ρ p).bind (kSl1 T lo hi ρ) := by rw [dM]; rfl
theorem d_fld {a : IE} {f : Nat} : dM T vw (.fld a f) ρ p = (dM T false a ρ p).bind (k1 (opFld f)) := by rw [dM]; rfl
theorem d_call {k : Nat} {as : IEs} : dM T vw (.call k as) ρ p = (dMs T false as ρ p).bind (kCall T.fn[k]?) := by
  rw [dM]
  show (dMs T false as ρ p).bind _ = _
  congr 1
  funext xs p
  unfold kCall
  cases T.fn[k]? <;> rfl
theorem d_mk {k : Nat} {as : IEs} : dM T vw (.mk k as) ρ p = (dMs T false as ρ p).bind (T.mkr k) := by rw [dM]; rfl
theorem d_blt {b : Blt} {as : IEs} : dM T vw (.blt b as) ρ p = (dMs T true as ρ p).bind (kBlt b) := by rw [dM]; rfl
theorem d_bits {a : IE} : dM T vw (.bits a) ρ p = (dM T false a ρ p).bind (k1 fun x => (intOf x).map fun i => .int (Builtin.Int.intBits i : Nat)) := by rw [dM]; rfl
theorem d_pget {i : Nat} {k : PK} : dM T vw (.pget i k) ρ p = getP ρ i k p := by
  unfold dM getP isPen
  cases h : ρ[i]? with
  | none => rfl
  | some s => cases s with
    | shr d => cases d <;> rfl
    | _ => rfl
theorem d_lam {n : Nat} : dM T vw (.lam n) ρ p = .ok (.clo n) p := by unfold dM; rfl
theorem d_callC {k : Nat} {as : IEs} : dM T vw (.callC k as) ρ p = (dMs T false as ρ p).bind (T.fnC k ρ) := by rw [dM]; rfl
theorem d_isi {a : IE} {t : Ty} : dM T vw (.isi a t) ρ p = (dM T false a ρ p).bind (k1 fun x => (isTy x t).map .bl) := by rw [dM]; rfl
theorem d_isiT {a : IE} {ts : List Ty} : dM T vw (.isiT a ts) ρ p = (dM T false a ρ p).bind (k1 fun x => (anyTy x ts).map .bl) := by rw [dM]; rfl
theorem d_frz {l : IL} : dM T vw (.frz l) ρ p = (dL T l ρ p).bind kLst := by rw [dM]; rfl
def kM3 : D → M D := fun r => ofO ((blOf r).map .bl)
def kM1 (T : Tb) (c k : Nat) (b : IE) (ρ : En) : D → M D := fun x p => (dM T false b ρ p).bind (kM2 T c k x)
  where kM2 (T : Tb) (c k : Nat) (x : D) : D → M D := fun y => mcK c (fnAt T.fn k) x y
theorem d_mcmp {ne : Bool} {c k : Nat} {a b : IE} : dM T vw (.mcmp ne c k a b) ρ p = (dM T false a ρ p).bind (kM1 T c k b ρ) := by rw [dM]; rfl
def kNotB (b : Bool) : D → M D := fun x => M.pure (.bl (!isBl b x))
theorem d_notB {a : IE} {b : Bool} : dM T vw (.notB a b) ρ p = (dM T false a ρ p).bind (kNotB b) := by rw [dM]; rfl
theorem mcK_ok {c : Nat} {m : List D → M D} {x y : D} (h : eqOk c x y = true) : mcK c m x y p = (m [x, y] p).bind kM3 := by unfold mcK; rw [if_pos h]; rfl
theorem eqOk_ins {c : Nat} {xs : List D} {y : D} (h : (match y with | .ins e _ => e == c | .clo _ => false | _ => true) = true) : eqOk c (.ins c xs) y = true := by
  cases y <;> first | (cases h; done) | (show (c == c) = true; simp) | (show (c == c && _) = true; simpa using h)
theorem mcK_ins {c : Nat} {m : List D → M D} {xs ys : List D} : mcK c m (.ins c xs) (.ins c ys) p = (m [.ins c xs, .ins c ys] p).bind kM3 := mcK_ok (eqOk_ins (by simp))
theorem mcK_tup {c : Nat} {m : List D → M D} {xs ys : List D} : mcK c m (.ins c xs) (.tup ys) p = (m [.ins c xs, .tup ys] p).bind kM3 := mcK_ok (eqOk_ins rfl)
theorem mcK_int {c : Nat} {m : List D → M D} {xs : List D} {j : Int} : mcK c m (.ins c xs) (.int j) p = (m [.ins c xs, .int j] p).bind kM3 := mcK_ok (eqOk_ins rfl)
theorem mcK_non {c : Nat} {m : List D → M D} {xs : List D} : mcK c m (.ins c xs) .non p = (m [.ins c xs, .non] p).bind kM3 := mcK_ok (eqOk_ins rfl)
theorem kM3_b {b : Bool} : kM3 (.bl b) p = .ok (.bl b) p := rfl
theorem fnAt_z {m : List D → M D} {l : List (List D → M D)} : fnAt (m :: l) 0 = m := rfl
theorem fnAt_s {m : List D → M D} {l : List (List D → M D)} {k : Nat} : fnAt (m :: l) (k + 1) = fnAt l k := rfl
theorem ds_nil : dMs T vw .nil ρ p = .ok [] p := by rw [dMs]; rfl
theorem ds_cons {a : IE} {as : IEs} : dMs T vw (.cons a as) ρ p = (dM T vw a ρ p).bind (kCons1 T vw as ρ) := by rw [dMs]; rfl
theorem do_nil : dO T .nil ρ p = .ok none p := by rw [dO]; rfl
theorem do_cons {a : IE} {as : IEs} : dO T (.cons a as) ρ p = (dM T false a ρ p).bind kOi := by rw [dO]; rfl
def kComp (T : Tb) (tg : Tg) (t : IEs) (e : IE) (ρ : En) : List D → M (List D) := fun xs => compL (turnC tg (fun ρ1 => dTs T t ρ1) (fun ρ1 => dM T false e ρ1) ρ) xs
def k1L (o : D → Option (List D)) : D → M (List D) := fun x => ofO (o x)
def kL1 (T : Tb) (vw : Bool) (g : D → D → Option (List D)) (b : IE) (ρ : En) : D → M (List D) := fun x p => (dM T vw b ρ p).bind (kL2 g x)
  where kL2 (g : D → D → Option (List D)) (x : D) : D → M (List D) := fun y => ofO (g x y)
theorem l_disp {as : IEs} : dL T (.disp as) ρ p = dMs T false as ρ p := by rw [dL]
theorem l_comp {tg : Tg} {it : IIt} {t : IEs} {e : IE} : dL T (.comp tg it t e) ρ p = (dI T true it ρ p).bind (kComp T tg t e ρ) := by rw [dL]; rfl
theorem l_ofSeq {a : IE} : dL T (.ofSeq a) ρ p = (dM T true a ρ p).bind (k1L seqOf) := by rw [dL]; rfl
theorem l_ofRng {a : IE} : dL T (.ofRng a) ρ p = (dM T false a ρ p).bind (k1L rng1D) := by rw [dL]; rfl
theorem l_rep {a n : IE} : dL T (.rep a n) ρ p = (dM T true a ρ p).bind (kL1 T false repD n ρ) := by rw [dL]; rfl
theorem l_cat {a b : IE} : dL T (.cat a b) ρ p = (dM T true a ρ p).bind (kL1 T true catD b ρ) := by rw [dL]; rfl
theorem i_seq {a : IE} : dI T vw (.seq a) ρ p = (dM T vw a ρ p).bind (k1L seqOf) := by rw [dI]; rfl
theorem i_rng1 {a : IE} : dI T vw (.rng1 a) ρ p = (dM T false a ρ p).bind (k1L rng1D) := by rw [dI]; rfl
theorem i_rng2 {a b : IE} : dI T vw (.rng2 a b) ρ p = (dM T false a ρ p).bind (kL1 T false rng2D b ρ) := by rw [dI]; rfl
theorem i_zip2 {a b : IE} : dI T vw (.zip2 a b) ρ p = (dM T vw a ρ p).bind (kL1 T vw zipD b ρ) := by rw [dI]; rfl
def kI3 (T : Tb) (vw : Bool) (b c : IE) (ρ : En) : D → M (List D) := fun x p => (dM T vw b ρ p).bind (kI3b T vw c ρ x)
  where
  kI3b (T : Tb) (vw : Bool) (c : IE) (ρ : En) (x : D) : D → M (List D) := fun y p => (dM T vw c ρ p).bind (kI3c x y)
  kI3c (x y : D) : D → M (List D) := fun z => ofO (zip3D x y z)
theorem i_zip3 {a b c : IE} : dI T vw (.zip3 a b c) ρ p = (dM T vw a ρ p).bind (kI3 T vw b c ρ) := by rw [dI]; rfl
theorem l_ofRng2 {a b : IE} : dL T (.ofRng2 a b) ρ p = (dM T false a ρ p).bind (kL1 T false rng2D b ρ) := by rw [dL]; rfl
theorem i_enum {a : IE} : dI T vw (.enum a) ρ p = (dM T vw a ρ p).bind (k1L enumD) := by rw [dI]; rfl
/-- a comprehension's turn -/
def turnE (T : Tb) (t : IEs) (e : IE) (ρ : En) : M (Option D) := match t with
  | .nil => fun p => (dM T false e ρ p).bind fun y => M.pure (some y)
  | .cons a _ => fun p => (dM T false a ρ p).bind (kTr (fun k => match k with
    | true => fun p => (dM T false e ρ p).bind fun y => M.pure (some y)
    | false => M.pure none))
theorem turn_eq {T : Tb} {tg : Tg} {t : IEs} {e : IE} {ρ ρ1 : En} {x : D} {p : Pen} (h : bindT tg x (killE tg.slots ρ) = some ρ1) : turnC tg (fun ρ1 => dTs T t ρ1) (fun ρ1 => dM T false e ρ1) ρ x p = turnE T t e ρ1 p := by
  unfold turnC
  rw [h]
  cases t with
  | nil =>
    show ((dTs T .nil ρ1 p).bind _) = _
    rw [dTs]
    rfl
  | cons a as =>
    show ((dTs T (.cons a as) ρ1 p).bind _) = _
    rw [dTs]
    show ((dM T false a ρ1 p).bind _).bind _ = (dM T false a ρ1 p).bind _
    rw [bind_assoc']
    congr 1
    funext x p
    unfold kTr
    cases e : truth x with
    | none => rfl
    | some b => cases b <;> rfl
/-! statements -/
def kAsg (i : Nat) (ρ : En) : D → Pen → OS := fun d p => .ok .nx (ρ.set i (.shr d)) p
def kAsgL (i : Nat) (ρ : En) : List D → Pen → OS := fun xs p => .ok .nx (ρ.set i (.own xs)) p
def kUnp (tg : Tg) (ρ : En) : D → Pen → OS := fun d p => bindK (bindT tg d ρ) p
def kPar (is : List Nat) (ρ : En) : List D → Pen → OS := fun ds p => bindK (setAll is ds ρ) p
def kStI1 (T : Tb) (i : Nat) (j : IE) (ρ : En) : D → Pen → OS := fun d p => withO (ownAt ρ i) (kStI2 T i j ρ d p)
  where
  kStI2 (T : Tb) (i : Nat) (j : IE) (ρ : En) (d : D) (p : Pen) : List D → OS := fun xs => ofE (dM T false j ρ p) (kStI3 i ρ xs d)
  kStI3 (i : Nat) (ρ : En) (xs : List D) (d : D) : D → Pen → OS := fun k p => bindK (putX ρ i xs k d) p
def kApp1 (T : Tb) (i : Nat) (e : IE) (ρ : En) (p : Pen) : List D → OS := fun xs => ofE (dM T false e ρ p) (kApp2 i ρ xs)
  where kApp2 (i : Nat) (ρ : En) (xs : List D) : D → Pen → OS := fun d p => bindK (appX ρ i xs d) p
def kPsO (ρ : En) : Option Pen → OS
  | some p => .ok .nx ρ p
  | none => .bad
def kPset (i : Nat) (k : PK) (ρ : En) : D → Pen → OS := fun d p => match ρ[i]? with
  | some (.shr .pen) => kPsO ρ (pputD k d p)
  | _ => .bad
def kRet (ρ : En) : D → Pen → OS := fun d p => .ok (.rt d) ρ p
def kRetO (ρ : En) (p : Pen) : List D → OS := fun xs => .ok (.rt (.lst xs)) ρ p
def kRaise (c : Nat) : List D → Pen → OS := fun ds p => .err ⟨c, ds⟩ p
def kIfO (T : Tb) (a b : ISs) (ρ : En) (p : Pen) : Option Bool → OS
  | some true => dSs T a ρ p
  | some false => dSs T b ρ p
  | none => .bad
def kIfS (T : Tb) (a b : ISs) (ρ : En) : D → Pen → OS := fun x p => kIfO T a b ρ p (truth x)
def kFor (T : Tb) (tg : Tg) (b : ISs) (ρ : En) : List D → Pen → OS := fun xs p => loopL (bindT tg) (fun ρ p => dSs T b ρ p) xs ρ p
theorem s_asg {i : Nat} {e : IE} : dS T (.asg i e) ρ p = ofE (dM T false e ρ p) (kAsg i ρ) := by rw [dS]; rfl
theorem s_asgL {i : Nat} {l : IL} : dS T (.asgL i l) ρ p = ofE (dL T l ρ p) (kAsgL i ρ) := by rw [dS]; rfl
theorem s_unp {tg : Tg} {e : IE} : dS T (.unp tg e) ρ p = ofE (dM T false e ρ p) (kUnp tg ρ) := by rw [dS]; rfl
theorem s_par {is : List Nat} {es : IEs} : dS T (.par is es) ρ p = ofE (dMs T false es ρ p) (kPar is ρ) := by rw [dS]; rfl
theorem s_stI {i : Nat} {j e : IE} : dS T (.stI i j e) ρ p = ofE (dM T false e ρ p) (kStI1 T i j ρ) := by rw [dS]; rfl
theorem s_app {i : Nat} {e : IE} : dS T (.app i e) ρ p = withO (ownAt ρ i) (kApp1 T i e ρ p) := by rw [dS]; rfl
theorem s_pset {i : Nat} {k : PK} {e : IE} : dS T (.pset i k e) ρ p = ofE (dM T false e ρ p) (kPset i k ρ) := by
  rw [dS]
  show ofE (dM T false e ρ p) _ = _
  congr 1
  funext d p1
  unfold kPset isPen
  cases h : ρ[i]? with
  | none => rfl
  | some s => cases s with
    | shr d => cases d <;> rfl
    | _ => rfl
theorem s_ret {e : IE} : dS T (.ret e) ρ p = ofE (dM T false e ρ p) (kRet ρ) := by rw [dS]; rfl
theorem s_retO {i : Nat} : dS T (.retO i) ρ p = withO (ownAt ρ i) (kRetO ρ p) := by rw [dS]; rfl
theorem s_retN : dS T .retN ρ p = .ok (.rt .non) ρ p := by rw [dS]
theorem s_raise {c : Nat} {as : IEs} : dS T (.raise c as) ρ p = ofE (dMs T false as ρ p) (kRaise c) := by rw [dS]; rfl
theorem s_brk : dS T .brk ρ p = .ok .brk ρ p := by rw [dS]
theorem s_cnt : dS T .cnt ρ p = .ok .cnt ρ p := by rw [dS]
theorem s_pass : dS T .pass ρ p = .ok .nx ρ p := by rw [dS]
def kEx (ρ : En) : D → Pen → OS := fun _ p => .ok .nx ρ p
def kParX (is : List Nat) (ρ : En) : List Slot → Pen → OS := fun ss p => bindK (setAllS is ss ρ) p
def kXs (T : Tb) (ρ : En) (xs : List IX) : Slot → M (List Slot) := fun s p => (dXs T ρ xs p).bind (kXs2 s)
  where kXs2 (s : Slot) : List Slot → M (List Slot) := fun ss => M.pure (s :: ss)
def kXe : D → M Slot := fun d => M.pure (.shr d)
def kXl : List D → M Slot := fun xs => M.pure (.own xs)
theorem x_e {a : IE} : dX T ρ (.e a) p = (dM T false a ρ p).bind kXe := rfl
theorem x_l {a : IL} : dX T ρ (.l a) p = (dL T a ρ p).bind kXl := rfl
theorem xs_nil : dXs T ρ [] p = .ok [] p := rfl
theorem xs_cons {x : IX} {xs : List IX} : dXs T ρ (x :: xs) p = (dX T ρ x p).bind (kXs T ρ xs) := rfl
theorem s_ex {e : IE} : dS T (.ex e) ρ p = ofE (dM T false e ρ p) (kEx ρ) := by rw [dS]; rfl
theorem s_parX {is : List Nat} {xs : List IX} : dS T (.parX is xs) ρ p = ofE (dXs T ρ xs p) (kParX is ρ) := by rw [dS]; rfl
theorem s_parU {is : List Nat} {xs : List IX} : dS T (.parU is xs) ρ p = ofE (dXs T ρ xs p) (kParX is ρ) := by rw [dS]; rfl
theorem s_stI2 {i : Nat} {j1 j2 e : IE} : dS T (.stI2 i j1 j2 e) ρ p = ofE (dM T false e ρ p) (st2K T i j1 j2 ρ) := by rw [dS]
def kSt2a (T : Tb) (i : Nat) (j1 j2 : IE) (ρ : En) (d1 d2 : D) (p : Pen) : List D → OS := fun xs => ofE (dM T false j1 ρ p) (kSt2b T i j2 ρ d1 d2 xs)
  where
  kSt2b (T : Tb) (i : Nat) (j2 : IE) (ρ : En) (d1 d2 : D) (xs : List D) : D → Pen → OS := fun k1 p => withN (putX ρ i xs k1 d1) (kSt2c T i j2 d2 p)
  kSt2c (T : Tb) (i : Nat) (j2 : IE) (d2 : D) (p : Pen) : En → OS := fun ρ2 => withO (ownAt ρ2 i) (kSt2d T i j2 d2 p ρ2)
  kSt2d (T : Tb) (i : Nat) (j2 : IE) (d2 : D) (p : Pen) (ρ2 : En) : List D → OS := fun ys => ofE (dM T false j2 ρ2 p) (kStI1.kStI3 i ρ2 ys d2)
theorem st2K_eq {i : Nat} {j1 j2 : IE} {d1 d2 : D} : st2K T i j1 j2 ρ (.tup [d1, d2]) p = withO (ownAt ρ i) (kSt2a T i j1 j2 ρ d1 d2 p) := rfl
theorem withN_some {ρ1 : En} {k : En → OS} : withN (some ρ1) k = k ρ1 := rfl
theorem s_fz {i : Nat} : dS T (.fz i) ρ p = bindK (fzO ρ i) p := by rw [dS]
theorem s_if {t : IE} {a b : ISs} : dS T (.ifS t a b) ρ p = ofE (dM T false t ρ p) (kIfS T a b ρ) := by
  rw [dS]
  unfold dT
  show ofE ((dM T false t ρ p).bind _) _ = _
  cases dM T false t ρ p with
  | bad => rfl
  | err e p => rfl
  | ok x p1 =>
    show ofE ((ofO (truth x)) p1) _ = kIfS T a b ρ x p1
    unfold kIfS
    cases truth x with
    | none => rfl
    | some k => cases k <;> rfl
theorem s_for {tg : Tg} {it : IIt} {b : ISs} : dS T (.for_ tg it b) ρ p = ofE (dI T false it ρ p) (kFor T tg b ρ) := by rw [dS]; rfl
theorem ss_nil : dSs T .nil ρ p = .ok .nx ρ p := by rw [dSs]
theorem ss_cons {a : IS} {as : ISs} : dSs T (.cons a as) ρ p = (dS T a ρ p).seq (dSs T as) := by rw [dSs]
theorem kIfO_t {T : Tb} {a b : ISs} {ρ : En} {p : Pen} : kIfO T a b ρ p (some true) = dSs T a ρ p := rfl
theorem kIfO_f {T : Tb} {a b : ISs} {ρ : En} {p : Pen} : kIfO T a b ρ p (some false) = dSs T b ρ p := rfl
theorem kTrO_s {α : Type} {f : Bool → M α} {b : Bool} {p : Pen} : kTrO f (some b) p = f b p := rfl
theorem kBl_b {f : Bool → M D} {b : Bool} {p : Pen} : kBl f (.bl b) p = f b p := rfl
theorem fAnd_t {T : Tb} {b : IE} {ρ : En} {p : Pen} : fAnd T b ρ true p = dM T false b ρ p := rfl
theorem fAnd_f {T : Tb} {b : IE} {ρ : En} {p : Pen} : fAnd T b ρ false p = .ok (.bl false) p := rfl
theorem fOr_t {T : Tb} {b : IE} {ρ : En} {p : Pen} : fOr T b ρ true p = .ok (.bl true) p := rfl
theorem fOr_f {T : Tb} {b : IE} {ρ : En} {p : Pen} : fOr T b ρ false p = dM T false b ρ p := rfl
theorem fNot_e {b : Bool} {p : Pen} : fNot b p = .ok (.bl (!b)) p := rfl
theorem fIf_t {T : Tb} {a b : IE} {ρ : En} {p : Pen} : fIf T a b ρ true p = dM T false a ρ p := rfl
theorem fIf_f {T : Tb} {a b : IE} {ρ : En} {p : Pen} : fIf T a b ρ false p = dM T false b ρ p := rfl
theorem kCh3_t {T : Tb} {op : Cm} {c : IE} {ρ : En} {y : D} {p : Pen} : kCh1.kCh3 T op c ρ y true p = (dM T false c ρ p).bind (kB1.kB2 (fun y z => (opCmp op y z).map .bl) y) := rfl
theorem kCh3_f {T : Tb} {op : Cm} {c : IE} {ρ : En} {y : D} {p : Pen} : kCh1.kCh3 T op c ρ y false p = .ok (.bl false) p := rfl
theorem kPsO_s {ρ : En} {p : Pen} : kPsO ρ (some p) = .ok .nx ρ p := rfl
theorem withO_some {xs : List D} {k : List D → OS} : withO (some xs) k = k xs := rfl
theorem withO_none {k : List D → OS} : withO none k = .bad := rfl
theorem bindK_some {ρ : En} {p : Pen} : bindK (some ρ) p = .ok .nx ρ p := rfl
theorem bindK_none {p : Pen} : bindK none p = .bad := rfl
end
end DL
namespace DL
open PySem PySem.Spec PyProof.Rows
def lpQ (J : En → Pen → Prop) (Q : Fl → En → Pen → Prop) : Fl → En → Pen → Prop := fun f ρ p => match f with
  | .nx => J ρ p
  | .cnt => J ρ p
  | .brk => Q .nx ρ p
  | .rt d => Q (.rt d) ρ p
section
variable {J : En → Pen → Prop} {Q : Fl → En → Pen → Prop} {ρ : En} {p : Pen} {E : Exc → Pen → Prop}
theorem lpQ_nx : lpQ J Q .nx ρ p = J ρ p := rfl
theorem lpQ_cnt : lpQ J Q .cnt ρ p = J ρ p := rfl
theorem lpQ_brk : lpQ J Q .brk ρ p = Q .nx ρ p := rfl
theorem lpQ_rt {d : D} : lpQ J Q (.rt d) ρ p = Q (.rt d) ρ p := rfl
theorem Ws_for {T : Tb} {tg : Tg} {b : ISs} {xs : List D} (I : Nat → En → Pen → Prop) (h0 : I 0 ρ p)
    (hs : ∀ j x ρ p, xs[j]? = some x → I j ρ p → ∃ ρ1, bindT tg x ρ = some ρ1 ∧ Ws (dSs T b ρ1 p) (lpQ (I (j + 1)) Q) E) (he : ∀ ρ p, I xs.length ρ p → Q .nx ρ p) : Ws (kFor T tg b ρ xs p) Q E := by
  refine Ws_loop I xs 0 h0 (fun j x ρ p hx hI => ?_) (fun ρ p hI => he ρ p (by rw [Nat.zero_add] at hI; exact hI))
  rw [Nat.zero_add] at hI ⊢
  obtain ⟨ρ1, e, w⟩ := hs j x ρ p hx hI
  refine ⟨ρ1, e, w.mono (fun f ρ p z => ?_) fun _ _ z => z⟩
  cases f <;> exact z
end
end DL
set_option maxHeartbeats 1000000
namespace DL
open PySem PySem.Spec PyProof.Rows

/-! ### small numbers -/
/-- below 2 ^ n, without its sign -/
def Sm (n : Nat) (i : Int) : Prop := i.natAbs < 2 ^ n
instance {n : Nat} {i : Int} : Decidable (Sm n i) := inferInstanceAs (Decidable (i.natAbs < 2 ^ n))
theorem Sm.mono {m n : Nat} {i : Int} (h : Sm m i) (k : m ≤ n) : Sm n i := Nat.lt_of_lt_of_le h (Nat.pow_le_pow_right (by decide +kernel) k)
theorem Sm.log {n : Nat} {i : Int} (h : Sm n i) (k : 0 < n) : i.natAbs.log2 < n := by
  by_cases h0 : i.natAbs = 0
  · rw [h0]; simpa using k
  · exact (Nat.log2_lt h0).mpr h
theorem Sm.mul {m n : Nat} {i j : Int} (h : Sm m i) (k : Sm n j) : Sm (m + n) (i * j) := by
  unfold Sm at *
  rw [Int.natAbs_mul, Nat.pow_add]
  by_cases h0 : j.natAbs = 0
  · rw [h0]; simpa using Nat.mul_pos (Nat.pow_pos (n := m) (by decide : 0 < 2)) (Nat.pow_pos (n := n) (by decide : 0 < 2))
  · exact Nat.mul_lt_mul_of_lt_of_le h (Nat.le_of_lt k) (Nat.pos_of_ne_zero h0 |> fun z => by omega)
theorem Sm.add {n : Nat} {i j : Int} (h : Sm n i) (k : Sm n j) : Sm (n + 1) (i + j) := by
  unfold Sm at *
  have := Int.natAbs_add_le i j
  rw [Nat.pow_succ]; omega
theorem Sm.neg {n : Nat} {i : Int} (h : Sm n i) : Sm n (-i) := by
  unfold Sm at *
  rw [Int.natAbs_neg]; exact h
theorem Sm.sub {n : Nat} {i j : Int} (h : Sm n i) (k : Sm n j) : Sm (n + 1) (i - j) := by
  rw [Int.sub_eq_add_neg]; exact h.add k.neg
theorem sm_le {n : Nat} {i : Int} {b : Nat} (h : i.natAbs ≤ b) (k : b < 2 ^ n) : Sm n i := Nat.lt_of_le_of_lt h k
theorem mulOk_of {m n : Nat} {i j : Int} (h : Sm m i) (k : Sm n j) (hm : m + n ≤ 999998) : mulOk i j = true := by
  have h1 := (h.mono (Nat.le_succ m)).log (Nat.succ_pos m)
  have h2 := (k.mono (Nat.le_succ n)).log (Nat.succ_pos n)
  unfold mulOk
  exact decide_eq_true (by omega)
theorem divOk_of {n : Nat} {j : Int} (h : Sm n j) (hn : n ≤ 8999) (h0 : j ≠ 0) : divOk j = true := by
  have h1 := (h.mono (Nat.le_succ n)).log (Nat.succ_pos n)
  unfold divOk
  exact decide_eq_true ⟨h0, by omega⟩
theorem powOk_of {i j : Int} (h0 : 0 ≤ j) (h1 : j ≤ 1000000) (h : Sm 64 i) : powOk i j = true := decide_eq_true ⟨h0, h1, h⟩
theorem sm_natAbs_le {n : Nat} {i j : Int} (h : Sm n j) (k : i.natAbs ≤ j.natAbs) : Sm n i := Nat.lt_of_le_of_lt k h

/-! ### the operators, at their data -/
@[simp] theorem opMul {i j : Int} (h : mulOk i j = true) : opBin .mul (.int i) (.int j) = some (.int (i * j)) := by
  show (if mulOk i j = true then _ else _) = _
  rw [if_pos h]
@[simp] theorem opDiv {i j : Int} (h : divOk j = true) : opBin .fdiv (.int i) (.int j) = some (.int (i.fdiv j)) := by
  show (if divOk j = true then _ else _) = _
  rw [if_pos h]
@[simp] theorem opMod {i j : Int} (h : j ≠ 0) : opBin .mod (.int i) (.int j) = some (.int (i.fmod j)) := by
  show (if j ≠ 0 then _ else _) = _
  rw [if_pos h]
@[simp] theorem opPow {i j : Int} (h : powOk i j = true) : opBin .pow (.int i) (.int j) = some (.int (i ^ j.toNat)) := by
  show (if powOk i j = true then _ else _) = _
  rw [if_pos h]
@[simp] theorem opAdd {i j : Int} : opBin .add (.int i) (.int j) = some (.int (i + j)) := rfl
@[simp] theorem opSub {i j : Int} : opBin .sub (.int i) (.int j) = some (.int (i - j)) := rfl
theorem eqv_int {i j : Int} : D.eqv (.int i) (.int j) = some (decide (i = j)) := by
  unfold D.eqv D.toPy
  show some (PyData.eqv (.int i) (.int j)) = _
  unfold PyData.eqv
  by_cases h : i = j
  · subst h; simp
  · simp [h]
@[simp] theorem cmpEqI {i j : Int} : opCmp .eq (.int i) (.int j) = some (decide (i = j)) := eqv_int
@[simp] theorem cmpNeI {i j : Int} : opCmp .ne (.int i) (.int j) = some (!decide (i = j)) := by
  show (D.eqv (.int i) (.int j)).map (!·) = _
  rw [eqv_int]; rfl
@[simp] theorem cmpLt {i j : Int} : opCmp .lt (.int i) (.int j) = some (decide (i < j)) := rfl
@[simp] theorem cmpLe {i j : Int} : opCmp .le (.int i) (.int j) = some (decide (i ≤ j)) := rfl
@[simp] theorem cmpGt {i j : Int} : opCmp .gt (.int i) (.int j) = some (decide (j < i)) := rfl
@[simp] theorem cmpGe {i j : Int} : opCmp .ge (.int i) (.int j) = some (decide (j ≤ i)) := rfl

/-! ### what repr shows -/
structure RC (n k : Nat) (d : D) : Prop where
  ex : ∃ y, d.toPyR = some y ∧ y.showable = true ∧ y.shown.length ≤ n ∧ PyData.strOk y.shown = true ∧ y.depth ≤ k
structure RCs (n k m : Nat) (ds : List D) : Prop where
  ex : ∃ ys, D.toPysR ds = some ys ∧ PyData.showableAll ys = true ∧ ys.length = ds.length ∧ ((PyData.shownAll ys).map fun t => t.length + 2).sum ≤ m ∧ (∀ t ∈ PyData.shownAll ys, PyData.strOk t = true) ∧ PyData.depthAll ys ≤ k
theorem RC.mono {n k n' k' : Nat} {d : D} (h : RC n k d) (h1 : n ≤ n') (h2 : k ≤ k') : RC n' k' d := by
  obtain ⟨y, e, a, b, c, f⟩ := h
  exact ⟨y, e, a, Nat.le_trans b h1, c, Nat.le_trans f h2⟩
theorem rc_non : RC 4 0 .non := ⟨.none, rfl, rfl, by decide +kernel, by decide +kernel, Nat.le_refl 0⟩
theorem rc_bl (b : Bool) : RC 5 0 (.bl b) := ⟨.bool b, rfl, rfl, by cases b <;> decide +kernel, by cases b <;> decide +kernel, Nat.le_refl 0⟩
theorem strOk_app {a b : Str} (h : PyData.strOk a = true) (k : PyData.strOk b = true) : PyData.strOk (a ++ b) = true := by
  unfold PyData.strOk at *
  show (a.cps ++ b.cps).all _ = true
  rw [Array.all_append, h, k]; rfl
theorem strOk_ofString (s : String) : PyData.strOk (Str.ofString s) = true := by
  rw [Str.ofString_eq_toList]
  unfold PyData.strOk
  have : ∀ c : Char, c.toNat < 1114112 := fun c => by
    rcases c.valid with h | ⟨_, h⟩
    · exact Nat.lt_trans h (by decide +kernel)
    · exact h
  simp only [List.all_toArray, List.all_map, List.all_eq_true, Function.comp, decide_eq_true_eq]
  exact fun c _ => this c
theorem rc_int {i : Int} (h : Sm 1920 i) : RC 1921 0 (.int i) := by
  have hl := h.log (by decide +kernel)
  refine ⟨.int i, rfl, decide_eq_true hl, ?_, ?_, Nat.le_refl 0⟩
  · show (Str.ofString (toString i)).length ≤ 1921
    rw [PySem.ofString_length]
    exact PySem.int_text_length_le (by decide +kernel) hl
  · exact strOk_ofString _
theorem rc_str {x : Str} {n : Nat} (h : (reprText x).length ≤ n) (k : PyData.strOk (reprText x) = true) : RC n 0 (.str x) := ⟨.str x, rfl, rfl, h, k, Nat.le_refl 0⟩
theorem rcs_nil (n k : Nat) : RCs n k 0 [] := ⟨[], by simp [D.toPysR], by simp [PyData.showableAll], rfl, by simp [PyData.shownAll], by simp [PyData.shownAll], by simp [PyData.depthAll]⟩
theorem rcs_cons {n k m : Nat} {d : D} {ds : List D} (h : RC n k d) (r : RCs n k m ds) : RCs n k (n + 2 + m) (d :: ds) := by
  obtain ⟨y, e1, a1, b1, c1, f1⟩ := h
  obtain ⟨ys, e2, a2, l2, b2, c2, f2⟩ := r
  refine ⟨y :: ys, ?_, ?_, by simp [l2], ?_, ?_, ?_⟩
  · unfold D.toPysR; rw [e1, e2]
  · unfold PyData.showableAll; rw [a1, a2]; rfl
  · unfold PyData.shownAll; simp only [List.map_cons, List.sum_cons]; omega
  · unfold PyData.shownAll
    intro t ht
    rcases List.mem_cons.mp ht with rfl | ht
    · exact c1
    · exact c2 t ht
  · unfold PyData.depthAll; exact Nat.max_le.mpr ⟨f1, f2⟩
theorem rcs_all {n k : Nat} : ∀ {ds : List D}, (∀ d ∈ ds, RC n k d) → RCs n k (ds.length * (n + 2)) ds
  | [], _ => by simpa using rcs_nil n k
  | d :: ds, h => by
    have := rcs_cons (h d (List.mem_cons_self ..)) (rcs_all fun x hx => h x (List.mem_cons_of_mem _ hx))
    rw [List.length_cons, Nat.succ_mul, Nat.add_comm]
    exact this
theorem textFrom_ok : ∀ (ts : List Str) (k : Nat) (acc : Str), PyData.strOk acc = true → (∀ t ∈ ts, PyData.strOk t = true) → PyData.strOk (textFrom k acc ts) = true ∧ (textFrom k acc ts).length ≤ acc.length + (ts.map fun t => t.length + 2).sum
  | [], k, acc, h, _ => ⟨h, by simp [textFrom]⟩
  | t :: ts, k, acc, h, ht => by
    unfold textFrom
    have hs : PyData.strOk ((if k > 0 then ", " else "" : String) : Str) = true := strOk_ofString _
    obtain ⟨h1, h2⟩ := textFrom_ok ts (k + 1) (acc ++ ((if k > 0 then ", " else "" : String) : Str) ++ t) (strOk_app (strOk_app h hs) (ht t (List.mem_cons_self ..))) fun x hx => ht x (List.mem_cons_of_mem _ hx)
    refine ⟨h1, Nat.le_trans h2 ?_⟩
    have hl : ((if k > 0 then ", " else "" : String) : Str).length ≤ 2 := by split <;> decide +kernel
    rw [PySem.strLen_append, PySem.strLen_append, List.map_cons, List.sum_cons]
    omega
theorem join_ok : ∀ (ts : List Str), (∀ t ∈ ts, PyData.strOk t = true) → PyData.strOk (Str.join ", " ts) = true ∧ (Str.join ", " ts).length ≤ (ts.map fun t => t.length + 2).sum
  | [], _ => ⟨by decide +kernel, by decide +kernel⟩
  | [x], h => ⟨h x (List.mem_cons_self ..), by show x.length ≤ _; simp⟩
  | x :: y :: r, h => by
    obtain ⟨h1, h2⟩ := join_ok (y :: r) fun t ht => h t (List.mem_cons_of_mem _ ht)
    have e : Str.join ", " (x :: y :: r) = x ++ (", " : Str) ++ Str.join ", " (y :: r) := rfl
    rw [e]
    refine ⟨strOk_app (strOk_app (h x (List.mem_cons_self ..)) (by decide +kernel)) h1, ?_⟩
    rw [PySem.strLen_append, PySem.strLen_append, List.map_cons, List.sum_cons]
    have : (", " : Str).length = 2 := by decide +kernel
    omega
theorem rc_lst {n k m : Nat} {ds : List D} (r : RCs n k m ds) : RC (m + 2) (k + 1) (.lst ds) := by
  obtain ⟨ys, e2, a2, l2, b2, c2, f2⟩ := r
  obtain ⟨h1, h2⟩ := textFrom_ok (PyData.shownAll ys) 0 "[" (by decide +kernel) c2
  refine ⟨.list ys, by unfold D.toPyR; rw [e2]; rfl, a2, ?_, ?_, ?_⟩
  · show (textFrom 0 "[" (PyData.shownAll ys) ++ ("]" : Str)).length ≤ _
    rw [PySem.strLen_append]
    have e1 : ("[" : Str).length = 1 := by decide +kernel
    have e3 : ("]" : Str).length = 1 := by decide +kernel
    omega
  · exact strOk_app h1 (by decide +kernel)
  · show PyData.depthAll ys + 1 ≤ k + 1; omega
theorem rc_tup {n k m : Nat} {ds : List D} (r : RCs n k m ds) : RC (m + 3) (k + 1) (.tup ds) := by
  obtain ⟨ys, e2, a2, l2, b2, c2, f2⟩ := r
  obtain ⟨h1, h2⟩ := join_ok (PyData.shownAll ys) c2
  refine ⟨.tuple ys, by unfold D.toPyR; rw [e2]; rfl, a2, ?_, ?_, ?_⟩
  · show (("(" : Str) ++ Str.join ", " (PyData.shownAll ys) ++ ((if (PyData.shownAll ys).length == 1 then ",)" else ")" : String) : Str)).length ≤ _
    rw [PySem.strLen_append, PySem.strLen_append]
    have e1 : ("(" : Str).length = 1 := by decide +kernel
    have e3 : ((if (PyData.shownAll ys).length == 1 then ",)" else ")" : String) : Str).length ≤ 2 := by split <;> decide +kernel
    omega
  · exact strOk_app (strOk_app (by decide +kernel) h1) (strOk_ofString _)
  · show PyData.depthAll ys + 1 ≤ k + 1; omega
theorem rc_dct0 : RC 2 1 (.dct [] []) := ⟨.dict [], rfl, rfl, by decide +kernel, by decide +kernel, by decide +kernel⟩
/-- a value's text -/
def reprOf (d : D) : Str := ((d.toPyR).map PyData.shown).getD ""
theorem repr_ok {n k : Nat} {d : D} (h : RC n k d) (hn : n ≤ line) (hk : k ≤ 64) : opBlt .repr [d] = some (.str (reprOf d)) ∧ PyData.strOk (reprOf d) = true := by
  obtain ⟨y, e, a, b, c, f⟩ := h
  have e1 : reprOf d = y.shown := by unfold reprOf; rw [e]; rfl
  refine ⟨?_, by rw [e1]; exact c⟩
  show (d.toPyR.bind fun y => if y.showable = true ∧ y.shown.length ≤ line ∧ y.depth ≤ 64 then some (D.str y.shown) else none) = _
  rw [e, e1]
  show (if _ then _ else _) = _
  rw [if_pos ⟨a, Nat.le_trans b hn, Nat.le_trans f hk⟩]
theorem eqv_str {s : Str} (h : PyData.strOk s = true) : D.eqv (.str s) (.str s) = some true := by
  unfold D.eqv D.toPy
  show (if (SeqAt.shaped (.str s) && SeqAt.shaped (.str s)) = true then some (PyData.eqv (.str s) (.str s)) else none) = _
  have h1 : SeqAt.shaped (.str s) = true := by
    unfold SeqAt.shaped
    show (PyData.strOk s && decide ((0 : Nat) ≤ 64)) = true
    rw [h]; rfl
  rw [h1]
  show some (PyData.eqv (.str s) (.str s)) = _
  unfold PyData.eqv
  simp
end DL
namespace DL
open PySem PySem.Spec PyProof.Rows
theorem idx_tup {xs : List D} {i : Int} : opIdx (.tup xs) (.int i) = L2.atI xs i := rfl
theorem idx_lst {xs : List D} {i : Int} : opIdx (.lst xs) (.int i) = L2.atI xs i := rfl
theorem slc_tup {xs : List D} {a b : Option Int} : opSlc (.tup xs) a b = some (.tup (cutD xs a b)) := rfl
theorem slc_lst {xs : List D} {a b : Option Int} : opSlc (.lst xs) a b = some (.lst (cutD xs a b)) := rfl
theorem seq_tup {xs : List D} : seqOf (.tup xs) = some xs := rfl
theorem seq_lst {xs : List D} : seqOf (.lst xs) = some xs := rfl
theorem len_tup {xs : List D} : opBlt .len [.tup xs] = some (.int xs.length) := rfl
theorem len_lst {xs : List D} : opBlt .len [.lst xs] = some (.int xs.length) := rfl
theorem tuple_tup {xs : List D} : opBlt .tuple [.tup xs] = some (.tup xs) := rfl
theorem tuple_lst {xs : List D} : opBlt .tuple [.lst xs] = some (.tup xs) := rfl
theorem int_int {i : Int} : opBlt .int [.int i] = some (.int i) := rfl
theorem abs_int {i : Int} : opBlt .abs [.int i] = some (.int (if i < 0 then -i else i)) := rfl
theorem gcd_int {i j : Int} : opBlt .gcd [.int i, .int j] = some (.int ((Nat.gcd i.natAbs j.natAbs : Nat) : Int)) := rfl
theorem min_int {i j : Int} : opBlt .min [.int i, .int j] = some (.int (if j < i then j else i)) := rfl
theorem max_int {i j : Int} : opBlt .max [.int i, .int j] = some (.int (if j > i then j else i)) := rfl
theorem truth_bl {b : Bool} : truth (.bl b) = some b := rfl
theorem truth_int {i : Int} : truth (.int i) = some (i != 0) := rfl
theorem truth_tup {xs : List D} : truth (.tup xs) = some (!xs.isEmpty) := rfl
theorem truth_lst {xs : List D} : truth (.lst xs) = some (!xs.isEmpty) := rfl
theorem truth_non : truth .non = some false := rfl
theorem intOf_int {i : Int} : intOf (.int i) = some i := rfl
theorem isBl_bl {b c : Bool} : isBl b (.bl c) = (c == b) := rfl
end DL
namespace DL
open PySem PySem.Spec PyProof.Rows
theorem rng1_int {i : Int} (h1 : i ≤ 16777216) (h2 : -16777216 ≤ i) : rng1D (.int i) = some (rngD 0 i) := by
  show (if i ≤ (line : Int) ∧ -(line : Int) ≤ i then _ else _) = _
  rw [if_pos ⟨h1, h2⟩]
theorem rng2_int {i j : Int} (h1 : i ≤ 16777216) (h2 : -16777216 ≤ i) (h3 : j ≤ 16777216) (h4 : -16777216 ≤ j) (h5 : j - i ≤ 16777216) : rng2D (.int i) (.int j) = some (rngD i j) := by
  show (if -(line : Int) ≤ i ∧ i ≤ (line : Int) ∧ -(line : Int) ≤ j ∧ j ≤ (line : Int) ∧ j - i ≤ (line : Int) then _ else _) = _
  rw [if_pos ⟨h2, h1, h4, h3, h5⟩]
theorem rngD_len {a b : Int} : (rngD a b).length = (b - a).toNat := by unfold rngD; simp
theorem rngD_at {a b : Int} {j : Nat} {x : D} (h : (rngD a b)[j]? = some x) : x = .int (a + j) ∧ (j : Int) < b - a := by
  unfold rngD at h
  rw [List.getElem?_map] at h
  obtain ⟨k, hk, rfl⟩ := Option.map_eq_some_iff.mp h
  obtain ⟨h1, h2⟩ := List.getElem?_eq_some_iff.mp hk
  rw [List.getElem_range] at h2
  rw [List.length_range] at h1
  subst h2
  exact ⟨rfl, by omega⟩
end DL
namespace DL
open PySem PySem.Spec PyProof.Rows
theorem cmpNeS {s : Str} (h : PyData.strOk s = true) : opCmp .ne (.str s) (.str s) = some false := by
  show (D.eqv (.str s) (.str s)).map (!·) = _
  rw [eqv_str h]; rfl
theorem cmpEqS {s : Str} (h : PyData.strOk s = true) : opCmp .eq (.str s) (.str s) = some true := eqv_str h
end DL
namespace DL
open PySem PySem.Spec PyProof.Rows
/-- a closed value's text, looked at -/
def rcB (n k : Nat) (d : D) : Bool := match d.toPyR with
  | some y => y.showable && decide (y.shown.length ≤ n) && PyData.strOk y.shown && decide (y.depth ≤ k)
  | none => false
theorem rc_of_B {n k : Nat} {d : D} (h : rcB n k d = true) : RC n k d := by
  unfold rcB at h
  split at h
  · rename_i y e
    simp only [Bool.and_eq_true, decide_eq_true_eq] at h
    obtain ⟨⟨⟨h1, h2⟩, h3⟩, h4⟩ := h
    exact ⟨y, e, h1, h2, h3, h4⟩
  · cases h
theorem strOk_const {s : Str} (h : PyData.strOk (reprText s) = true) {n : Nat} (hn : (reprText s).length ≤ n) : RC n 0 (.str s) := rc_str hn h
/-- raises x, by its parts -/
theorem Wo.ex {α : Type} {o : Out α} {x : Exc} {p : Pen} {Q : α → Pen → Prop} {E : Exc → Pen → Prop} (h : o = .err x p) (k : E x p) : Wo o Q E := by rw [h]; exact k
end DL
namespace DL
theorem bq_tt : (true == true) = true := rfl
theorem bq_tf : (true == false) = false := rfl
theorem bq_ft : (false == true) = false := rfl
theorem bq_ff : (false == false) = true := rfl
end DL
set_option maxHeartbeats 1000000
namespace DL
open PySem PySem.Spec PyProof.Rows

/-! ### ratios -/
def qd (q : Rat) : D := .tup [.int q.num, .int (q.den : Int)]
/-- small, above and below -/
structure QS (n : Nat) (q : Rat) : Prop where
  nu : Sm n q.num
  de : Sm n (q.den : Int)
theorem QS.mono {m n : Nat} {q : Rat} (h : QS m q) (k : m ≤ n) : QS n q := ⟨h.nu.mono k, h.de.mono k⟩
theorem den_pos (q : Rat) : 0 < (q.den : Int) := Int.natCast_pos.mpr q.den_pos
theorem den_ne (q : Rat) : (q.den : Int) ≠ 0 := Int.ne_of_gt (den_pos q)
/-- the greatest common divisor with the sign of b -/
def gsg (t b : Int) : Int := if 0 < b then (Nat.gcd t.natAbs b.natAbs : Nat) else -(Nat.gcd t.natAbs b.natAbs : Nat)
theorem gsg_ne {t b : Int} (h : b ≠ 0) : gsg t b ≠ 0 := by
  have hg : Nat.gcd t.natAbs b.natAbs ≠ 0 := fun z => by
    have := Nat.eq_zero_of_gcd_eq_zero_right z
    omega
  unfold gsg
  split <;> omega
theorem gsg_nat {t b : Int} : (gsg t b).natAbs = Nat.gcd t.natAbs b.natAbs := by
  unfold gsg
  split <;> omega
theorem gsg_sm {n : Nat} {t b : Int} (h : b ≠ 0) (k : Sm n b) : Sm n (gsg t b) := by
  unfold Sm at *
  rw [gsg_nat]
  have : Nat.gcd t.natAbs b.natAbs ≤ b.natAbs := Nat.gcd_le_right _ (by omega)
  omega
theorem fdiv_exact {x g : Int} (hg : g ≠ 0) (h : g ∣ x) : x.fdiv g = x / g := by
  obtain ⟨y, rfl⟩ := h
  rw [Int.mul_fdiv_cancel_left _ hg, Int.mul_ediv_cancel_left _ hg]
theorem gsg_dvd_l (t b : Int) : gsg t b ∣ t := by
  have h : ((Nat.gcd t.natAbs b.natAbs : Nat) : Int) ∣ t := Int.ofNat_dvd_left.mpr (Nat.gcd_dvd_left _ _)
  unfold gsg
  split
  · exact h
  · exact Int.neg_dvd.mpr h
theorem gsg_dvd_r (t b : Int) : gsg t b ∣ b := by
  have h : ((Nat.gcd t.natAbs b.natAbs : Nat) : Int) ∣ b := Int.ofNat_dvd_left.mpr (Nat.gcd_dvd_right _ _)
  unfold gsg
  split
  · exact h
  · exact Int.neg_dvd.mpr h
theorem gcd_comm' (t b : Int) : b.gcd t = Nat.gcd t.natAbs b.natAbs := by
  show Nat.gcd b.natAbs t.natAbs = _
  exact Nat.gcd_comm _ _
theorem low_num {t b : Int} (h : b ≠ 0) : t.fdiv (gsg t b) = (Rat.divInt t b).num := by
  rw [fdiv_exact (gsg_ne h) (gsg_dvd_l t b), Rat.num_divInt, gcd_comm']
  unfold gsg
  by_cases hb : 0 < b
  · rw [if_pos hb, Int.sign_eq_one_of_pos hb, Int.one_mul]
  · have hn : b < 0 := by omega
    rw [if_neg hb, Int.sign_eq_neg_one_of_neg hn, Int.ediv_neg, Int.neg_mul, Int.one_mul, Int.neg_ediv_of_dvd (Int.ofNat_dvd_left.mpr (Nat.gcd_dvd_left _ _))]
theorem low_den {t b : Int} (h : b ≠ 0) : b.fdiv (gsg t b) = ((Rat.divInt t b).den : Int) := by
  rw [fdiv_exact (gsg_ne h) (gsg_dvd_r t b), Rat.den_divInt, if_neg h, gcd_comm']
  unfold gsg
  by_cases hb : 0 < b
  · rw [if_pos hb]
    have : b = (b.natAbs : Int) := by omega
    rw [Int.natCast_ediv, ← this]
  · have hn : b = -(b.natAbs : Int) := by omega
    have hd : ((Nat.gcd t.natAbs b.natAbs : Nat) : Int) ∣ (b.natAbs : Int) := Int.natCast_dvd_natCast.mpr (Nat.gcd_dvd_right _ _)
    rw [if_neg hb, Int.ediv_neg, Int.natCast_ediv]
    generalize ((Nat.gcd t.natAbs b.natAbs : Nat) : Int) = g at *
    generalize (b.natAbs : Int) = c at *
    rw [hn, Int.neg_ediv_of_dvd hd, Int.neg_neg]
theorem qs_divInt {n : Nat} {t b : Int} (h : b ≠ 0) (ht : Sm n t) (hb : Sm n b) : QS n (Rat.divInt t b) := by
  constructor
  · rw [← low_num h, fdiv_exact (gsg_ne h) (gsg_dvd_l t b)]
    exact sm_natAbs_le ht (by rw [Int.natAbs_ediv_of_dvd (gsg_dvd_l t b)]; exact Nat.div_le_self _ _)
  · rw [← low_den h, fdiv_exact (gsg_ne h) (gsg_dvd_r t b)]
    exact sm_natAbs_le hb (by rw [Int.natAbs_ediv_of_dvd (gsg_dvd_r t b)]; exact Nat.div_le_self _ _)
theorem low_eq {t b : Int} (h : b ≠ 0) : D.tup [.int (t.fdiv (gsg t b)), .int (b.fdiv (gsg t b))] = qd (Rat.divInt t b) := by
  rw [low_num h, low_den h]; rfl
theorem rat_self (q : Rat) : Rat.divInt q.num q.den = q := Rat.num_divInt_den q
/-! Euclid's steps -/
def euclid : Nat → Int → Int → Int
  | 0, a, _ => a
  | n + 1, a, b => if b = 0 then a else euclid n b (a.fmod b)
theorem euclid_ok : ∀ (n : Nat) (a b : Int), 0 ≤ a → 0 ≤ b → 2 * b.natAbs.log2 + 3 ≤ n → euclid n a b = (Nat.gcd a.natAbs b.natAbs : Nat)
  | 0, _, _, _, _, h => by omega
  | n + 1, a, b, ha, hb, h => by
    unfold euclid
    by_cases h0 : b = 0
    · rw [if_pos h0, h0]; simp; omega
    · rw [if_neg h0]
      have hb' : 0 < b := by omega
      have hr1 : 0 ≤ a.fmod b := Int.fmod_nonneg_of_pos _ hb'
      have hr2 : a.fmod b < b := Int.fmod_lt_of_pos _ hb'
      have hg : Nat.gcd b.natAbs (a.fmod b).natAbs = Nat.gcd a.natAbs b.natAbs := by
        rw [Int.fmod_eq_emod_of_nonneg _ hb]
        have e : (a % b).natAbs = a.natAbs % b.natAbs := by
          rw [Int.natAbs_emod_of_nonneg ha]
        rw [e, Nat.gcd_comm a.natAbs b.natAbs, Nat.gcd_rec b.natAbs a.natAbs, Nat.gcd_comm]
      cases n with
      | zero => omega
      | succ n =>
        unfold euclid
        by_cases h1 : a.fmod b = 0
        · rw [if_pos h1]
          rw [h1] at hg
          rw [← hg]; simp; omega
        · rw [if_neg h1]
          have hp : 0 < a.fmod b := by omega
          have hs1 : 0 ≤ b.fmod (a.fmod b) := Int.fmod_nonneg_of_pos _ hp
          have hg2 : Nat.gcd (a.fmod b).natAbs (b.fmod (a.fmod b)).natAbs = Nat.gcd b.natAbs (a.fmod b).natAbs := by
            rw [Int.fmod_eq_emod_of_nonneg _ hr1]
            rw [Int.natAbs_emod_of_nonneg hb, Nat.gcd_comm b.natAbs, Nat.gcd_rec (a.fmod b).natAbs b.natAbs, Nat.gcd_comm]
          have hlt : 2 * (b.fmod (a.fmod b)).natAbs < b.natAbs := by
            rw [Int.fmod_eq_emod_of_nonneg _ hr1, Int.natAbs_emod_of_nonneg hb]
            have h3 : (a.fmod b).natAbs < b.natAbs := by omega
            have h4 : 0 < (a.fmod b).natAbs := by omega
            have h5 := Nat.mod_add_div b.natAbs (a.fmod b).natAbs
            have h6 : b.natAbs % (a.fmod b).natAbs < (a.fmod b).natAbs := Nat.mod_lt _ h4
            have h7 : 1 ≤ b.natAbs / (a.fmod b).natAbs := Nat.div_pos (Nat.le_of_lt h3) h4
            have h8 : (a.fmod b).natAbs * 1 ≤ (a.fmod b).natAbs * (b.natAbs / (a.fmod b).natAbs) := Nat.mul_le_mul_left _ h7
            omega
          by_cases h9 : b.fmod (a.fmod b) = 0
          · cases n with
            | zero =>
              exfalso
              have : 0 < b.natAbs.log2 := by
                rw [Nat.log2_def]
                have : 2 ≤ b.natAbs := by omega
                rw [if_pos this]; omega
              omega
            | succ n =>
              unfold euclid
              rw [if_pos h9]
              rw [h9] at hg2
              rw [← hg, ← hg2]; simp; omega
          · have hlog : (b.fmod (a.fmod b)).natAbs.log2 + 1 ≤ b.natAbs.log2 := by
              have h10 : (b.fmod (a.fmod b)).natAbs ≠ 0 := by omega
              have h11 : b.natAbs ≠ 0 := by omega
              rw [Nat.le_log2 h11, Nat.pow_succ]
              have := Nat.log2_self_le h10
              omega
            rw [euclid_ok n _ _ hr1 hs1 (by omega), hg2, hg]
end DL
namespace DL
open PySem PySem.Spec PyProof.Rows
theorem idx_qd0 {q : Rat} : opIdx (qd q) (.int 0) = some (.int q.num) := rfl
theorem idx_qd1 {q : Rat} : opIdx (qd q) (.int 1) = some (.int q.den) := rfl
theorem rat_add (a b : Rat) : Rat.divInt (a.num * b.den + b.num * a.den) (a.den * b.den) = a + b := by
  rw [← Rat.divInt_add_divInt _ _ (den_ne a) (den_ne b), rat_self, rat_self]
theorem rat_mul (a b : Rat) : Rat.divInt (a.num * b.num) (a.den * b.den) = a * b := by
  rw [← Rat.divInt_mul_divInt, rat_self, rat_self]
theorem rat_sub (a b : Rat) : Rat.divInt (a.num * b.den - b.num * a.den) (a.den * b.den) = a - b := by
  rw [Rat.sub_eq_add_neg, ← rat_add]
  congr 1
  rw [Rat.neg_num, Rat.neg_den, Int.neg_mul, Int.sub_eq_add_neg]
theorem rat_div (a b : Rat) : Rat.divInt (a.num * b.den) (a.den * b.num) = a / b := by
  rw [Rat.div_def, Rat.inv_def]
  conv => rhs; rw [← rat_self a]
  rw [Rat.divInt_mul_divInt]
theorem den_mul_ne (a b : Rat) : (a.den : Int) * (b.den : Int) ≠ 0 := Int.mul_ne_zero (den_ne a) (den_ne b)
section
variable {n : Nat} {a b : Rat}
theorem sm_addn (ha : QS n a) (hb : QS n b) : Sm (2 * n + 1) (a.num * b.den + b.num * a.den) := by
  rw [Nat.two_mul]; exact (ha.nu.mul hb.de).add (hb.nu.mul ha.de)
theorem sm_subn (ha : QS n a) (hb : QS n b) : Sm (2 * n + 1) (a.num * b.den - b.num * a.den) := by
  rw [Nat.two_mul]; exact (ha.nu.mul hb.de).sub (hb.nu.mul ha.de)
theorem sm_den (ha : QS n a) (hb : QS n b) : Sm (2 * n + 1) ((a.den : Int) * b.den) := (ha.de.mul hb.de).mono (by omega)
theorem sm_num (ha : QS n a) (hb : QS n b) : Sm (2 * n + 1) (a.num * b.num) := (ha.nu.mul hb.nu).mono (by omega)
theorem sm_nd (ha : QS n a) (hb : QS n b) : Sm (2 * n + 1) (a.num * b.den) := (ha.nu.mul hb.de).mono (by omega)
theorem sm_dn (ha : QS n a) (hb : QS n b) : Sm (2 * n + 1) ((a.den : Int) * b.num) := (ha.de.mul hb.nu).mono (by omega)
theorem qs_add (ha : QS n a) (hb : QS n b) : QS (2 * n + 1) (a + b) := by
  rw [← rat_add]; exact qs_divInt (den_mul_ne a b) (sm_addn ha hb) (sm_den ha hb)
theorem qs_sub (ha : QS n a) (hb : QS n b) : QS (2 * n + 1) (a - b) := by
  rw [← rat_sub]; exact qs_divInt (den_mul_ne a b) (sm_subn ha hb) (sm_den ha hb)
theorem qs_mul (ha : QS n a) (hb : QS n b) : QS (2 * n + 1) (a * b) := by
  rw [← rat_mul]; exact qs_divInt (den_mul_ne a b) (sm_num ha hb) (sm_den ha hb)
theorem num_ne (h : b ≠ 0) : b.num ≠ 0 := fun z => h (Rat.num_eq_zero.mp z)
theorem den_num_ne (h : b ≠ 0) : (a.den : Int) * b.num ≠ 0 := Int.mul_ne_zero (den_ne a) (num_ne h)
theorem qs_div (ha : QS n a) (hb : QS n b) (h : b ≠ 0) : QS (2 * n + 1) (a / b) := by
  rw [← rat_div]; exact qs_divInt (den_num_ne h) (sm_nd ha hb) (sm_dn ha hb)
theorem rc_qd (h : QS n a) (hn : n ≤ 1920) : RC 3849 1 (qd a) := rc_tup (rcs_cons (rc_int (h.nu.mono hn)) (rcs_cons (rc_int (h.de.mono hn)) (rcs_nil _ _)))
end
theorem at0 {α : Type} {x : α} {xs : List α} : L2.atI (x :: xs) 0 = some x := L2.atI_nat (j := 0) rfl
theorem at1 {α : Type} {x y : α} {xs : List α} : L2.atI (x :: y :: xs) 1 = some y := L2.atI_nat (j := 1) rfl
theorem at2 {α : Type} {x y z : α} {xs : List α} : L2.atI (x :: y :: z :: xs) 2 = some z := L2.atI_nat (j := 2) rfl
theorem at3 {α : Type} {x y z u : α} {xs : List α} : L2.atI (x :: y :: z :: u :: xs) 3 = some u := L2.atI_nat (j := 3) rfl
structure PenB (k : Nat) (p : Pen) : Prop where
  ok : PenOk p
  ct : p.count + k ≤ 1099511627776
theorem PenB.mono {j k : Nat} {p : Pen} (h : PenB k p) (l : j ≤ k) : PenB j p := ⟨h.ok, by have := h.ct; omega⟩
inductive Hd (n : Nat) (q : Rat) : D → Prop
  | whole {i : Int} : q = Rat.divInt i 1 → i = q.num → q.den = 1 → Hd n q (.int i)
  | tup {i j : Int} : 0 < j → Sm n j → Rat.divInt i j = q → Hd n q (.tup [.int i, .int j])
  | lst {i j : Int} : 0 < j → Sm n j → Rat.divInt i j = q → Hd n q (.lst [.int i, .int j])
def resF : OS → Option D
  | .ok (.rt d) _ _ => some d
  | _ => none
theorem ws_of_res {o : OS} {d : D} {E : Exc → Pen → Prop} (h : resF o = some d) : Ws o (fun f _ _ => f = .rt d) E := by
  cases o with
  | ok f ρ p => cases f <;> first | (cases h; done) | (cases h; rfl)
  | err e p => cases h
  | bad => cases h
end DL
set_option maxHeartbeats 1000000
namespace DL
open PySem PySem.Spec PyProof.Rows

/-! ### fields, as the programs know them -/
class Fd (C : Type) extends Lean.Grind.Field C where
  deq : DecidableEq C
  fl : Int
  enc : C → D
  /-- small -/
  Sz : Nat → C → Prop
  /-- a common denominator -/
  Cm : Type
  ok : Nat → Cm → Prop
  In : Nat → Cm → C → Prop
  sz_mono : ∀ {m n : Nat} {x : C}, Sz m x → m ≤ n → Sz n x
  in_sz : ∀ {n : Nat} {d : Cm} {x : C}, ok n d → In n d x → Sz n x
  ok_mono : ∀ {m n : Nat} {d : Cm}, ok m d → m ≤ n → ok n d
  in_mono : ∀ {m n : Nat} {d : Cm} {x : C}, In m d x → m ≤ n → In n d x
  in_zero : ∀ {n : Nat} {d : Cm}, In n d 0
  in_one : ∀ {n : Nat} {d : Cm}, ok n d → In n d 1
  in_neg : ∀ {n : Nat} {d : Cm} {x : C}, In n d x → In n d (0 - x)
  piv : ∀ {n : Nat} {d : Cm} {q : C}, ok n d → In n d q → q ≠ 0 → ∃ e, ok (2 * n + 1) e ∧ (∀ x, In n d x → In (2 * n + 1) e x) ∧ (∀ x, In n d x → In (2 * n + 1) e (x / q)) ∧
    (∀ x y z, In n d x → In n d y → In n d z → In (2 * n + 1) e (x - y * (z / q)) ∧ Sz (2 * n + 1) (y * (z / q)))
  cmul : Cm → Cm → Cm
  /-- of what is drawn -/
  dr : Cm
  ok_dr : ok 3 dr
  ok_mul : ∀ {m n : Nat} {d e : Cm}, ok m d → ok n e → ok (m + n) (cmul d e)
  in_mul : ∀ {m n : Nat} {d e : Cm} {x y : C}, In m d x → In n e y → In (m + n) (cmul d e) (x * y)
  in_add : ∀ {n : Nat} {d : Cm} {x y : C}, In n d x → In n d y → In (n + 1) d (x + y)
  in_sub : ∀ {n : Nat} {d : Cm} {x y : C}, In n d x → In n d y → In (n + 1) d (x - y)
  in_l : ∀ {m n : Nat} {d e : Cm} {x : C}, In m d x → ok n e → In (m + n) (cmul d e) x
  in_r : ∀ {m n : Nat} {d e : Cm} {x : C}, ok m d → In n e x → In (m + n) (cmul d e) x
  sz_add : ∀ {n : Nat} {x y : C}, Sz n x → Sz n y → Sz (2 * n + 1) (x + y)
  sz_sub : ∀ {n : Nat} {x y : C}, Sz n x → Sz n y → Sz (2 * n + 1) (x - y)
  sz_mul : ∀ {n : Nat} {x y : C}, Sz n x → Sz n y → Sz (2 * n + 1) (x * y)
  sz_div : ∀ {n : Nat} {x y : C}, Sz n x → Sz n y → Sz (2 * n + 1) (x / y)
  /-- as it may be passed -/
  hd : C → D → Prop
  toPy : C → PyData
  py : ∀ x, (enc x).toPy = some (toPy x)
  inj : ∀ {x y : C}, enc x = enc y → x = y
instance fdDeq {C : Type} [i : Fd C] : DecidableEq C := i.deq
/-! ratios -/
def RIn (n : Nat) (d : Int) (x : Rat) : Prop := ∃ N : Int, Sm n N ∧ x * d = N
def ROk (n : Nat) (d : Int) : Prop := d ≠ 0 ∧ Sm n d
theorem rin_sz {n : Nat} {d : Int} {x : Rat} (ho : ROk n d) (h : RIn n d x) : QS n x := by
  obtain ⟨N, h1, h2⟩ := h
  have hd : (d : Rat) ≠ 0 := by
    intro z; exact ho.1 (by exact_mod_cast z)
  have e : x = Rat.divInt N d := by
    rw [Rat.divInt_eq_div, ← h2]
    rw [Rat.mul_div_cancel hd]
  rw [e]
  exact qs_divInt ho.1 h1 ho.2
theorem rin_piv {n : Nat} {d : Int} {q : Rat} (ho : ROk n d) (h : RIn n d q) (h0 : q ≠ 0) : ∃ e, ROk (2 * n + 1) e ∧ (∀ x, RIn n d x → RIn (2 * n + 1) e x) ∧ (∀ x, RIn n d x → RIn (2 * n + 1) e (x / q)) ∧
    (∀ x y z, RIn n d x → RIn n d y → RIn n d z → RIn (2 * n + 1) e (x - y * (z / q)) ∧ QS (2 * n + 1) (y * (z / q))) := by
  obtain ⟨Q, q1, q2⟩ := h
  have hd : (d : Rat) ≠ 0 := by
    intro z; exact ho.1 (by exact_mod_cast z)
  have hQ : Q ≠ 0 := by
    intro z
    rw [z] at q2
    have : q * (d : Rat) = 0 := by simpa using q2
    rcases Rat.mul_eq_zero.mp this with z | z
    · exact h0 z
    · exact hd z
  have s2 : ∀ {i j : Int}, Sm n i → Sm n j → Sm (2 * n) (i * j) := fun a b => (a.mul b).mono (by omega)
  have ok2 : ROk (2 * n + 1) (d * Q) := ⟨Int.mul_ne_zero ho.1 hQ, (s2 ho.2 q1).mono (by omega)⟩
  have eq1 : ∀ (x : Rat) (X : Int), x * d = X → x / q * ((d * Q : Int) : Rat) = ((X * d : Int) : Rat) := fun x X hx => by
    have : (Q : Rat) = q * d := q2.symm
    rw [Rat.intCast_mul, Rat.intCast_mul, this, ← hx]
    grind
  refine ⟨d * Q, ok2, fun x hx => ?_, fun x hx => ?_, fun x y z hx hy hz => ?_⟩
  · obtain ⟨X, x1, x2⟩ := hx
    refine ⟨X * Q, (s2 x1 q1).mono (by omega), ?_⟩
    rw [Rat.intCast_mul, Rat.intCast_mul, ← x2]; grind
  · obtain ⟨X, x1, x2⟩ := hx
    exact ⟨X * d, (s2 x1 ho.2).mono (by omega), eq1 x X x2⟩
  · obtain ⟨X, x1, x2⟩ := hx
    obtain ⟨Y, y1, y2⟩ := hy
    obtain ⟨Z, z1, z2⟩ := hz
    have e3 : y * (z / q) * ((d * Q : Int) : Rat) = ((Y * Z : Int) : Rat) := by
      have : (Q : Rat) = q * d := q2.symm
      rw [Rat.intCast_mul, Rat.intCast_mul, this, ← y2, ← z2]
      grind
    have r3 : RIn (2 * n + 1) (d * Q) (y * (z / q)) := ⟨Y * Z, (s2 y1 z1).mono (by omega), e3⟩
    refine ⟨⟨X * Q - Y * Z, (s2 x1 q1).sub (s2 y1 z1), ?_⟩, rin_sz ok2 r3⟩
    have e4 : x * ((d * Q : Int) : Rat) = ((X * Q : Int) : Rat) := by
      rw [Rat.intCast_mul, Rat.intCast_mul, ← x2]; grind
    rw [Rat.intCast_sub, ← e3, ← e4]; grind
theorem qd_inj {x y : Rat} (h : qd x = qd y) : x = y := by
  unfold qd at h
  injection h with h
  injection h with h1 h2
  injection h1 with h1
  injection h2 with h2 _
  injection h2 with h2
  exact Rat.ext h1 (by exact_mod_cast h2)
instance fdRat : Fd Rat where
  deq := inferInstance
  fl := 0
  enc := qd
  Sz := QS
  Cm := Int
  ok := ROk
  In := RIn
  sz_mono := QS.mono
  in_sz := rin_sz
  ok_mono := fun h k => ⟨h.1, h.2.mono k⟩
  in_mono := fun h k => let ⟨N, a, b⟩ := h; ⟨N, a.mono k, b⟩
  in_zero := fun {n d} => ⟨0, Nat.two_pow_pos n, by grind⟩
  in_one := fun {n d} h => ⟨d, h.2, by grind⟩
  in_neg := fun h => let ⟨N, a, b⟩ := h; ⟨-N, a.neg, by rw [Rat.intCast_neg, ← b]; grind⟩
  piv := rin_piv
  cmul := fun d e => d * e
  dr := 6
  ok_dr := ⟨by decide, by decide⟩
  ok_mul := fun h k => ⟨Int.mul_ne_zero h.1 k.1, h.2.mul k.2⟩
  in_mul := fun {m n d e x y} h k => by
    obtain ⟨N, a, b⟩ := h
    obtain ⟨M, a', b'⟩ := k
    exact ⟨N * M, a.mul a', by rw [Rat.intCast_mul, Rat.intCast_mul, ← b, ← b']; grind⟩
  in_add := fun {n d x y} h k => by
    obtain ⟨N, a, b⟩ := h
    obtain ⟨M, a', b'⟩ := k
    exact ⟨N + M, a.add a', by rw [Rat.intCast_add, ← b, ← b']; grind⟩
  in_sub := fun {n d x y} h k => by
    obtain ⟨N, a, b⟩ := h
    obtain ⟨M, a', b'⟩ := k
    exact ⟨N - M, a.sub a', by rw [Rat.intCast_sub, ← b, ← b']; grind⟩
  in_l := fun {m n d e x} h k => by
    obtain ⟨N, a, b⟩ := h
    exact ⟨N * e, a.mul k.2, by rw [Rat.intCast_mul, Rat.intCast_mul, ← b]; grind⟩
  in_r := fun {m n d e x} k h => by
    obtain ⟨N, a, b⟩ := h
    exact ⟨d * N, k.2.mul a, by rw [Rat.intCast_mul, Rat.intCast_mul, ← b]; grind⟩
  sz_add := qs_add
  sz_sub := qs_sub
  sz_mul := qs_mul
  sz_div := fun {n x y} h k => by
    by_cases h0 : y = 0
    · subst h0
      have : x / 0 = 0 := by grind
      rw [this]
      exact ⟨Nat.two_pow_pos _, Nat.one_lt_two_pow (by omega)⟩
    · exact qs_div h k h0
  hd := Hd 4000
  toPy := fun q => .tuple [.int q.num, .int q.den]
  py := fun q => rfl
  inj := qd_inj
/-! residues -/
section
variable {m : Nat} [NeZero m]
@[reducible] def zpowF (inv : Fin m → Fin m) (a : Fin m) : Int → Fin m
  | .ofNat n => a ^ n
  | .negSucc n => inv (a ^ (n + 1))
@[reducible] def finField (inv : Fin m → Fin m) (h01 : (0 : Fin m) ≠ 1) (h0 : inv 0 = 0) (h1 : ∀ a : Fin m, a ≠ 0 → a * inv a = 1) (hi : ∀ a, inv (inv a) = a) (hone : inv 1 = 1) : Lean.Grind.Field (Fin m) :=
  { (inferInstance : Lean.Grind.CommRing (Fin m)) with
    inv := inv
    div := fun a b => a * inv b
    zpow := ⟨zpowF inv⟩
    div_eq_mul_inv := fun _ _ => rfl
    zero_ne_one := h01
    inv_zero := h0
    mul_inv_cancel := fun {a} h => h1 a h
    zpow_zero := fun a => Lean.Grind.Semiring.pow_zero a
    zpow_succ := fun a n => Lean.Grind.Semiring.pow_succ a n
    zpow_neg := fun a n => by
      cases n with
      | ofNat n => cases n with
        | zero =>
          have e : a ^ (0 : Nat) = 1 := Lean.Grind.Semiring.pow_zero a
          show a ^ (0 : Nat) = inv (a ^ (0 : Nat))
          rw [e, hone]
        | succ n => rfl
      | negSucc n => show a ^ (n + 1) = inv (inv (a ^ (n + 1))); rw [hi] }
@[reducible] def finFd (F : Lean.Grind.Field (Fin m)) : Fd (Fin m) :=
  { F with
    deq := inferInstance
    fl := m
    enc := fun x => .int x.val
    Sz := fun _ _ => True
    Cm := Unit
    ok := fun _ _ => True
    In := fun _ _ _ => True
    sz_mono := fun _ _ => trivial
    in_sz := fun _ _ => trivial
    ok_mono := fun _ _ => trivial
    in_mono := fun _ _ => trivial
    in_zero := trivial
    in_one := fun _ => trivial
    in_neg := fun _ => trivial
    cmul := fun _ _ => ()
    dr := ()
    ok_dr := trivial
    ok_mul := fun _ _ => trivial
    in_mul := fun _ _ => trivial
    in_add := fun _ _ => trivial
    in_sub := fun _ _ => trivial
    in_l := fun _ _ => trivial
    in_r := fun _ _ => trivial
    piv := fun _ _ _ => ⟨(), trivial, fun _ _ => trivial, fun _ _ => trivial, fun _ _ _ _ _ _ => ⟨trivial, trivial⟩⟩
    sz_add := fun _ _ => trivial
    sz_sub := fun _ _ => trivial
    sz_mul := fun _ _ => trivial
    sz_div := fun _ _ => trivial
    hd := fun x d => d = .int x.val
    toPy := fun x => .int x.val
    py := fun _ => rfl
    inj := fun h => by
      injection h with h
      exact Fin.ext (by exact_mod_cast h) }
end
@[reducible] def fd2 : Fd (Fin 2) := finFd (finField (fun a => a) (by decide) (by decide) (by decide) (by decide) (by decide))
@[reducible] def fd3 : Fd (Fin 3) := finFd (finField (fun a => a) (by decide) (by decide) (by decide) (by decide) (by decide))
@[reducible] def fd5 : Fd (Fin 5) := finFd (finField (fun a => a ^ 3) (by decide) (by decide) (by decide) (by decide) (by decide))
@[reducible] def fd7 : Fd (Fin 7) := finFd (finField (fun a => a ^ 5) (by decide) (by decide) (by decide) (by decide) (by decide))
/-- the fields that the programs know -/
inductive KindF : (C : Type) → Fd C → Prop
  | rat : KindF Rat fdRat
  | f2 : KindF (Fin 2) fd2
  | f3 : KindF (Fin 3) fd3
  | f5 : KindF (Fin 5) fd5
  | f7 : KindF (Fin 7) fd7
section
theorem fin_sub {m : Nat} (h : m = 2 ∨ m = 3 ∨ m = 5 ∨ m = 7) (a b : Fin m) : ((a.val : Int) - b.val).fmod m = ((a - b : Fin m).val : Int) := by
  rcases h with rfl | rfl | rfl | rfl <;> revert a b <;> decide
theorem fin_add {m : Nat} (h : m = 2 ∨ m = 3 ∨ m = 5 ∨ m = 7) (a b : Fin m) : ((a.val : Int) + b.val).fmod m = ((a + b : Fin m).val : Int) := by
  rcases h with rfl | rfl | rfl | rfl <;> revert a b <;> decide
theorem fin_mul {m : Nat} (h : m = 2 ∨ m = 3 ∨ m = 5 ∨ m = 7) (a b : Fin m) : ((a.val : Int) * b.val).fmod m = ((a * b : Fin m).val : Int) := by
  rcases h with rfl | rfl | rfl | rfl <;> revert a b <;> decide
end
abbrev Pm (m : Nat) : Prop := m = 2 ∨ m = 3 ∨ m = 5 ∨ m = 7
theorem Pm.ne {m : Nat} (h : Pm m) : (m : Int) ≠ 0 := by rcases h with rfl | rfl | rfl | rfl <;> decide
theorem Pm.le {m : Nat} (h : Pm m) : (m : Int) ≤ 7 ∧ 0 < (m : Int) := by rcases h with rfl | rfl | rfl | rfl <;> decide
theorem Pm.dec {m : Nat} (h : Pm m) : decide ((m : Int) = 0) = false := decide_eq_false h.ne
/-- what is found by trying all -/
def overL (m a b : Nat) : List Nat := (List.range m).filter fun t => decide (((t : Int) * b).fmod m = a)
theorem over2 : ∀ a b : Fin 2, b ≠ 0 → (overL 2 a.val b.val)[0]? = some (a * b).val := by decide
theorem over3 : ∀ a b : Fin 3, b ≠ 0 → (overL 3 a.val b.val)[0]? = some (a * b).val := by decide
theorem over5 : ∀ a b : Fin 5, b ≠ 0 → (overL 5 a.val b.val)[0]? = some (a * b ^ 3).val := by decide
theorem over7 : ∀ a b : Fin 7, b ≠ 0 → (overL 7 a.val b.val)[0]? = some (a * b ^ 5).val := by decide +kernel
end DL
set_option maxHeartbeats 1000000
namespace DL
open PySem PySem.Spec PyProof.Rows

/-! ### comprehensions over what is told by a list of any kind -/
theorem comp_mapA {α : Type} {f : D → M (Option D)} {p : Pen} (φ ψ : α → D) : ∀ (L : List α), (∀ a ∈ L, f (φ a) p = .ok (some (ψ a)) p) → compL f (L.map φ) p = .ok (L.map ψ) p
  | [], _ => rfl
  | a :: L, h => by
    rw [List.map_cons]
    unfold compL
    rw [h a (List.mem_cons_self ..)]
    simp only
    rw [comp_mapA φ ψ L fun b hb => h b (List.mem_cons_of_mem _ hb)]
    rfl
theorem comp_filA {α : Type} {f : D → M (Option D)} {p : Pen} (φ ψ : α → D) (c : α → Bool) : ∀ (L : List α), (∀ a ∈ L, f (φ a) p = .ok (if c a = true then some (ψ a) else none) p) → compL f (L.map φ) p = .ok ((L.filter c).map ψ) p
  | [], _ => rfl
  | a :: L, h => by
    rw [List.map_cons]
    unfold compL
    rw [h a (List.mem_cons_self ..)]
    have r := comp_filA φ ψ c L fun b hb => h b (List.mem_cons_of_mem _ hb)
    by_cases hc : c a = true
    · simp only [hc, if_true, List.filter_cons_of_pos, List.map_cons]
      rw [r]; rfl
    · simp only [hc, if_false, Bool.false_eq_true, List.filter_cons]
      exact r
theorem zip_maps {α β : Type} {φ : α → D} {ψ : β → D} : ∀ (xs : List α) (ys : List β), List.zipWith (fun u v => D.tup [u, v]) (xs.map φ) (ys.map ψ) = (List.zip xs ys).map fun q => .tup [φ q.1, ψ q.2]
  | [], _ => by simp
  | _ :: _, [] => by simp
  | x :: xs, y :: ys => by simp [zip_maps xs ys]
theorem zipD_ll {α β : Type} {φ : α → D} {ψ : β → D} (xs : List α) (ys : List β) : zipD (.lst (xs.map φ)) (.lst (ys.map ψ)) = some ((List.zip xs ys).map fun q => .tup [φ q.1, ψ q.2]) := congrArg some (zip_maps xs ys)
theorem zipD_tt {α β : Type} {φ : α → D} {ψ : β → D} (xs : List α) (ys : List β) : zipD (.tup (xs.map φ)) (.tup (ys.map ψ)) = some ((List.zip xs ys).map fun q => .tup [φ q.1, ψ q.2]) := congrArg some (zip_maps xs ys)
theorem zipD_tl {α β : Type} {φ : α → D} {ψ : β → D} (xs : List α) (ys : List β) : zipD (.tup (xs.map φ)) (.lst (ys.map ψ)) = some ((List.zip xs ys).map fun q => .tup [φ q.1, ψ q.2]) := congrArg some (zip_maps xs ys)
/-! ### rows -/
section
variable {C : Type} [i : Fd C]
def rowSub (a : List C) (y : C) (b : List C) : List C := (List.zip a b).map fun q => q.1 - y * q.2
abbrev encs (r : List C) : List D := r.map Fd.enc
def RSz (n : Nat) (r : List C) : Prop := ∀ x ∈ r, Fd.Sz n x
/-! ### reduced tables, as the programs reckon them -/
def rowAt (R : List (List C)) (k : Nat) : List C := R.getD k []
def ent (R : List (List C)) (k c : Nat) : C := (rowAt R k).getD c 0
/-- the rows from t on that have an item at c -/
def founds (R : List (List C)) (t c : Nat) : List Nat := ((List.range (R.length - t)).map (t + ·)).filter fun k => decide (ent R k c ≠ 0)
def clr (q : List C) (c : Nat) (r : List C) : List C := if r.getD c 0 = 0 then r else rowSub r (r.getD c 0) q
/-- the rows before j are cleared by the row t -/
def clrs (t c : Nat) (R : List (List C)) : Nat → List (List C)
  | 0 => R
  | j + 1 => if j = t then clrs t c R j else (clrs t c R j).set j (clr (rowAt R t) c (rowAt (clrs t c R j) j))
def swp (R : List (List C)) (t k : Nat) : List (List C) := (R.set t (rowAt R k)).set k (rowAt R t)
def nrm (R : List (List C)) (t c : Nat) : List (List C) := R.set t ((rowAt R t).map (· / ent R t c))
def stepR (s : List (List C) × List Nat) (c : Nat) : List (List C) × List Nat := match founds s.1 s.2.length c with
  | [] => s
  | k :: _ => (clrs s.2.length c (nrm (swp s.1 s.2.length k) s.2.length c) s.1.length, s.2 ++ [c])
def rrefN (R : List (List C)) : Nat → List (List C) × List Nat
  | 0 => (R, [])
  | j + 1 => stepR (rrefN R j) j
/-- the rows are so long -/
def Rl (w : Nat) (R : List (List C)) : Prop := ∀ r ∈ R, r.length = w
theorem rowAt_mem {R : List (List C)} {k : Nat} (h : k < R.length) : rowAt R k ∈ R := by
  unfold rowAt; rw [List.getD_eq_getElem?_getD, List.getElem?_eq_getElem h]; exact List.getElem_mem h
theorem rowAt_get {R : List (List C)} {k : Nat} (h : k < R.length) : R[k]? = some (rowAt R k) := by
  unfold rowAt; rw [List.getD_eq_getElem?_getD, List.getElem?_eq_getElem h]; rfl
theorem at_map {α : Type} {f : α → D} {xs : List α} {k : Nat} {x : α} (h : xs[k]? = some x) : L2.atI (xs.map f) (k : Int) = some (f x) := L2.atI_nat (by rw [List.getElem?_map, h]; rfl)
theorem at_row {f : List C → D} {R : List (List C)} {k : Nat} (h : k < R.length) : L2.atI (R.map f) (k : Int) = some (f (rowAt R k)) := at_map (rowAt_get h)
theorem getD_get {r : List C} {c : Nat} (h : c < r.length) : r[c]? = some (r.getD c 0) := by
  rw [List.getD_eq_getElem?_getD, List.getElem?_eq_getElem h]; rfl
theorem at_enc {r : List C} {c : Nat} (h : c < r.length) : L2.atI (encs r) (c : Int) = some (Fd.enc (r.getD c 0)) := at_map (getD_get h)
theorem clrs_len {t c : Nat} {R : List (List C)} : ∀ j, (clrs t c R j).length = R.length
  | 0 => rfl
  | j + 1 => by
    unfold clrs
    split
    · exact clrs_len j
    · rw [List.length_set]; exact clrs_len j
theorem swp_len {t k : Nat} {R : List (List C)} : (swp R t k).length = R.length := by simp [swp]
theorem nrm_len {t c : Nat} {R : List (List C)} : (nrm R t c).length = R.length := by simp [nrm]
theorem step_len {s : List (List C) × List Nat} {c : Nat} : (stepR s c).1.length = s.1.length := by
  unfold stepR
  split
  · rfl
  · simp only [clrs_len, nrm_len, swp_len]
theorem rref_len {R : List (List C)} : ∀ j, (rrefN R j).1.length = R.length
  | 0 => rfl
  | j + 1 => by unfold rrefN; rw [step_len, rref_len j]
theorem rowAt_set {R : List (List C)} {j k : Nat} {r : List C} : rowAt (R.set j r) k = if j = k ∧ k < R.length then r else rowAt R k := by
  unfold rowAt
  rw [List.getD_eq_getElem?_getD, List.getD_eq_getElem?_getD, List.getElem?_set]
  by_cases h : j = k
  · subst h
    by_cases h2 : j < R.length
    · simp [h2]
    · simp [h2]
  · simp [h]
theorem clrs_row {t c : Nat} {R : List (List C)} {k : Nat} (hk : k < R.length) : ∀ j, rowAt (clrs t c R j) k = if k < j ∧ k ≠ t then clr (rowAt R t) c (rowAt R k) else rowAt R k
  | 0 => by simp [clrs]
  | j + 1 => by
    unfold clrs
    by_cases hj : j = t
    · rw [if_pos hj, clrs_row hk j]
      by_cases h1 : k < j ∧ k ≠ t
      · rw [if_pos h1, if_pos ⟨by omega, h1.2⟩]
      · rw [if_neg h1, if_neg (by omega)]
    · rw [if_neg hj, rowAt_set, clrs_len, clrs_row hk j]
      by_cases h0 : j = k
      · subst h0
        rw [if_pos ⟨rfl, hk⟩, if_pos ⟨Nat.lt_succ_self _, hj⟩, clrs_row hk j, if_neg (by omega)]
      · rw [if_neg (fun z => h0 z.1)]
        by_cases h1 : k < j ∧ k ≠ t
        · rw [if_pos h1, if_pos ⟨by omega, h1.2⟩]
        · rw [if_neg h1, if_neg (by omega)]
theorem clrs_succ {t c : Nat} {R : List (List C)} {j : Nat} (hj : j < R.length) : clrs t c R (j + 1) = if j = t then clrs t c R j else (clrs t c R j).set j (clr (rowAt R t) c (rowAt R j)) := by
  have e : rowAt (clrs t c R j) j = rowAt R j := by rw [clrs_row hj j, if_neg (fun z => Nat.lt_irrefl j z.1)]
  rw [clrs, e]
theorem ixN_at {n j : Nat} (h : j < n) : L2.ixN n (j : Int) = some j := by
  unfold L2.ixN
  rw [if_pos (by omega), if_pos (by omega)]; rfl
theorem clr_eq {q r : List C} {c : Nat} : (if r.getD c 0 = 0 then r else rowSub r (r.getD c 0) q) = clr q c r := rfl
theorem map_set' {α β : Type} (f : α → β) (xs : List α) (j : Nat) (x : α) : (xs.map f).set j (f x) = (xs.set j x).map f := (List.map_set ..).symm
abbrev lrows (R : List (List C)) : List D := R.map fun r => .lst (encs r)
abbrev trows (R : List (List C)) : List D := R.map fun r => .tup (encs r)
end
abbrev hds (H : List Nat) : List D := H.map fun t : Nat => .int (t : Int)
theorem rngD_nat (t n : Nat) : rngD (t : Int) (n : Int) = hds ((List.range (n - t)).map (t + ·)) := by
  unfold rngD hds
  rw [List.map_map, show ((n : Int) - t).toNat = n - t from by omega]
  rfl
theorem founds_lt {C : Type} [i : Fd C] {R : List (List C)} {t c k : Nat} (h : k ∈ founds R t c) : t ≤ k ∧ k < R.length ∧ ent R k c ≠ 0 := by
  unfold founds at h
  obtain ⟨h1, h2⟩ := List.mem_filter.mp h
  obtain ⟨j, hj, rfl⟩ := List.mem_map.mp h1
  have := List.mem_range.mp hj
  exact ⟨by omega, by omega, by simpa using h2⟩
section
variable {C : Type} [i : Fd C]
theorem swp_mem {R : List (List C)} {t k : Nat} (ht : t < R.length) (hk : k < R.length) {r : List C} (h : r ∈ swp R t k) : r ∈ R := by
  unfold swp at h
  rcases List.mem_or_eq_of_mem_set h with h | rfl
  · rcases List.mem_or_eq_of_mem_set h with h | rfl
    · exact h
    · exact rowAt_mem hk
  · exact rowAt_mem ht
theorem swp_t {R : List (List C)} {t k : Nat} (ht : t < R.length) (hk : k < R.length) : rowAt (swp R t k) t = rowAt R k := by
  unfold swp
  rw [rowAt_set]
  by_cases h : k = t
  · subst h; rw [if_pos ⟨rfl, by simpa using ht⟩]
  · rw [if_neg (fun z => h z.1), rowAt_set, if_pos ⟨rfl, ht⟩]
end
end DL
set_option maxHeartbeats 1000000
namespace DL
open PySem PySem.Spec PyProof.Rows

/-! ### reduced tables: what they are, how long their numbers grow -/
section
variable {C : Type} [i : Fd C]
/-! ### a step, by its rows -/
def nxt (R : List (List C)) (t k c : Nat) : List (List C) := clrs t c (nrm (swp R t k) t c) R.length
theorem step_nil {R : List (List C)} {H : List Nat} {c : Nat} (h : founds R H.length c = []) : stepR (R, H) c = (R, H) := by unfold stepR; simp only [h]
theorem step_cons {R : List (List C)} {H r : List Nat} {c k : Nat} (h : founds R H.length c = k :: r) : stepR (R, H) c = (nxt R H.length k c, H ++ [c]) := by unfold stepR; simp only [h]; rfl
theorem founds_mem {R : List (List C)} {t c k : Nat} : k ∈ founds R t c ↔ t ≤ k ∧ k < R.length ∧ ent R k c ≠ 0 := by
  unfold founds
  rw [List.mem_filter]
  constructor
  · rintro ⟨h1, h2⟩
    obtain ⟨j, hj, rfl⟩ := List.mem_map.mp h1
    have := List.mem_range.mp hj
    exact ⟨by omega, by omega, by simpa using h2⟩
  · rintro ⟨h1, h2, h3⟩
    exact ⟨List.mem_map.mpr ⟨k - t, List.mem_range.mpr (by omega), by omega⟩, by simpa using h3⟩
theorem swp_row {R : List (List C)} {t k j : Nat} (ht : t < R.length) (hk : k < R.length) (hj : j < R.length) : rowAt (swp R t k) j = if j = t then rowAt R k else if j = k then rowAt R t else rowAt R j := by
  unfold swp
  rw [rowAt_set, List.length_set, rowAt_set]
  by_cases h1 : k = j
  · subst h1
    rw [if_pos ⟨rfl, hj⟩]
    by_cases h2 : k = t
    · subst h2; simp
    · rw [if_neg h2, if_pos rfl]
  · rw [if_neg (fun z => h1 z.1)]
    by_cases h2 : t = j
    · subst h2; rw [if_pos ⟨rfl, hj⟩, if_pos rfl]
    · rw [if_neg (fun z => h2 z.1), if_neg (Ne.symm h2), if_neg (Ne.symm h1)]
theorem nxt_len {R : List (List C)} {t k c : Nat} : (nxt R t k c).length = R.length := by
  unfold nxt; rw [clrs_len, nrm_len, swp_len]
/-- the row with the new head -/
def pvt (R : List (List C)) (k c : Nat) : List C := (rowAt R k).map (· / ent R k c)
theorem ent_swp_t {R : List (List C)} {t k c : Nat} (ht : t < R.length) (hk : k < R.length) : ent (swp R t k) t c = ent R k c := by
  unfold ent; rw [swp_row ht hk ht, if_pos rfl]
theorem nrm_row {R : List (List C)} {t k c j : Nat} (ht : t < R.length) (hk : k < R.length) (hj : j < R.length) : rowAt (nrm (swp R t k) t c) j = if j = t then pvt R k c else rowAt (swp R t k) j := by
  unfold nrm
  rw [rowAt_set, swp_len, swp_row ht hk ht, if_pos rfl, ent_swp_t ht hk]
  by_cases h : t = j
  · rw [if_pos ⟨h, hj⟩, if_pos h.symm]; rfl
  · rw [if_neg (fun z => h z.1), if_neg (Ne.symm h)]
theorem nxt_row {R : List (List C)} {t k c j : Nat} (ht : t < R.length) (hk : k < R.length) (hj : j < R.length) : rowAt (nxt R t k c) j = if j = t then pvt R k c else clr (pvt R k c) c (rowAt (swp R t k) j) := by
  unfold nxt
  rw [clrs_row (by rw [nrm_len, swp_len]; exact hj), nrm_row ht hk hj, nrm_row ht hk ht, if_pos rfl]
  by_cases h : j = t
  · rw [if_neg (fun z => z.2 h), if_pos h, if_pos h]
  · rw [if_pos ⟨hj, h⟩, if_neg h, if_neg h]
theorem rowSub_len {a b : List C} {y : C} (h : a.length = b.length) : (rowSub a y b).length = a.length := by
  unfold rowSub; simp [h]
theorem rowSub_get {a b : List C} {y : C} {c : Nat} (h : a.length = b.length) : (rowSub a y b).getD c 0 = a.getD c 0 - y * b.getD c 0 := by
  unfold rowSub
  by_cases hc : c < a.length
  · have hb : c < b.length := by omega
    have e1 : a[c]? = some a[c] := List.getElem?_eq_getElem hc
    have e2 : b[c]? = some b[c] := List.getElem?_eq_getElem hb
    have e3 : (List.zip a b)[c]? = some (a[c], b[c]) := by rw [List.getElem?_eq_getElem (by simp; omega)]; simp
    simp only [List.getD_eq_getElem?_getD, List.getElem?_map, e1, e2, e3]; rfl
  · have e1 : a[c]? = none := List.getElem?_eq_none (by omega)
    have e2 : b[c]? = none := List.getElem?_eq_none (by omega)
    have e3 : (List.zip a b)[c]? = none := List.getElem?_eq_none (by simp; omega)
    simp only [List.getD_eq_getElem?_getD, List.getElem?_map, e1, e2, e3]
    simp; grind
theorem map_get {a : List C} {h : C} {c : Nat} : (a.map (· / h)).getD c 0 = a.getD c 0 / h := by
  rw [List.getD_eq_getElem?_getD, List.getElem?_map, List.getD_eq_getElem?_getD]
  cases a[c]? with
  | none => simp; grind
  | some x => rfl
theorem clr_len {q r : List C} {c : Nat} (h : r.length = q.length) : (clr q c r).length = r.length := by
  unfold clr; split
  · rfl
  · exact rowSub_len h
theorem clr_get {q r : List C} {c x : Nat} (h : r.length = q.length) : (clr q c r).getD x 0 = r.getD x 0 - r.getD c 0 * q.getD x 0 := by
  unfold clr
  split
  · rename_i h0; rw [h0]; grind
  · exact rowSub_get h
theorem swp_rl {R : List (List C)} {w t k : Nat} (h : Rl w R) (ht : t < R.length) (hk : k < R.length) : Rl w (swp R t k) := fun r hr => h r (swp_mem ht hk hr)
theorem rl_at {R : List (List C)} {w k : Nat} (h : Rl w R) (hk : k < R.length) : (rowAt R k).length = w := h _ (rowAt_mem hk)
theorem mem_row {R : List (List C)} {r : List C} (h : r ∈ R) : ∃ k, k < R.length ∧ rowAt R k = r := by
  obtain ⟨k, hk, e⟩ := List.getElem_of_mem h
  exact ⟨k, hk, by unfold rowAt; rw [List.getD_eq_getElem?_getD, List.getElem?_eq_getElem hk]; exact e⟩
theorem rl_of {R : List (List C)} {w : Nat} (h : ∀ k, k < R.length → (rowAt R k).length = w) : Rl w R := fun r hr => by
  obtain ⟨k, hk, rfl⟩ := mem_row hr
  exact h k hk
theorem pvt_len {R : List (List C)} {k c : Nat} : (pvt R k c).length = (rowAt R k).length := by unfold pvt; simp
theorem nxt_rl {R : List (List C)} {w t k c : Nat} (h : Rl w R) (ht : t < R.length) (hk : k < R.length) : Rl w (nxt R t k c) := by
  refine rl_of fun j hj => ?_
  rw [nxt_len] at hj
  rw [nxt_row ht hk hj]
  have h1 : (rowAt (swp R t k) j).length = w := rl_at (swp_rl h ht hk) (by rw [swp_len]; exact hj)
  have h2 : (pvt R k c).length = w := by rw [pvt_len]; exact rl_at h hk
  split
  · exact h2
  · rw [clr_len (by omega), h1]
theorem nxt_ent {R : List (List C)} {w t k c j x : Nat} (h : Rl w R) (ht : t < R.length) (hk : k < R.length) (hj : j < R.length) :
    ent (nxt R t k c) j x = if j = t then ent R k x / ent R k c else ent (swp R t k) j x - ent (swp R t k) j c * (ent R k x / ent R k c) := by
  unfold ent
  rw [nxt_row ht hk hj]
  have h1 : (rowAt (swp R t k) j).length = w := rl_at (swp_rl h ht hk) (by rw [swp_len]; exact hj)
  have h2 : (pvt R k c).length = w := by rw [pvt_len]; exact rl_at h hk
  split
  · exact map_get
  · rw [clr_get (by omega)]
    unfold pvt
    rw [map_get]; rfl
theorem step_rl {s : List (List C) × List Nat} {w c : Nat} (h : Rl w s.1) : Rl w (stepR s c).1 := by
  obtain ⟨R, H⟩ := s
  cases hf : founds R H.length c with
  | nil => rw [step_nil hf]; exact h
  | cons k r =>
    rw [step_cons hf]
    obtain ⟨h1, h2, _⟩ := founds_mem.mp (hf ▸ List.mem_cons_self .. : k ∈ founds R H.length c)
    exact nxt_rl h (Nat.lt_of_le_of_lt h1 h2) h2
theorem rref_rl {R : List (List C)} {w : Nat} (h : Rl w R) : ∀ j, Rl w (rrefN R j).1
  | 0 => h
  | j + 1 => step_rl (rref_rl h j)
/-! ### reduced as far as the columns before j -/
structure Red (w j : Nat) (R : List (List C)) (H : List Nat) : Prop where
  rl : Rl w R
  tall : H.length ≤ R.length
  lt : ∀ k, k < H.length → H.getD k 0 < j
  asc : ∀ k l, k < l → l < H.length → H.getD k 0 < H.getD l 0
  one : ∀ k, k < H.length → ∀ n, n < R.length → ent R n (H.getD k 0) = if n = k then 1 else 0
  low : ∀ n, H.length ≤ n → n < R.length → ∀ c, c < j → ent R n c = 0
  left : ∀ k, k < H.length → ∀ c, c < H.getD k 0 → ent R k c = 0
theorem getD_app {H : List Nat} {c k : Nat} : (H ++ [c]).getD k 0 = if k < H.length then H.getD k 0 else if k = H.length then c else 0 := by
  rw [List.getD_eq_getElem?_getD, List.getD_eq_getElem?_getD]
  by_cases h : k < H.length
  · rw [if_pos h, List.getElem?_append_left h]
  · rw [if_neg h, List.getElem?_append_right (by omega)]
    by_cases h2 : k = H.length
    · subst h2; simp
    · rw [if_neg h2, List.getElem?_eq_none (by simp; omega)]; rfl
theorem red_step {w j : Nat} {R : List (List C)} {H : List Nat} (h : Red w j R H) (hj : j < w) : Red w (j + 1) (stepR (R, H) j).1 (stepR (R, H) j).2 := by
  cases hf : founds R H.length j with
  | nil =>
    rw [step_nil hf]
    refine ⟨h.rl, h.tall, fun k hk => Nat.lt_succ_of_lt (h.lt k hk), h.asc, h.one, fun n hn hl c hc => ?_, h.left⟩
    by_cases he : c = j
    · subst he
      refine Classical.byContradiction fun z => ?_
      have : n ∈ founds R H.length c := founds_mem.mpr ⟨hn, hl, z⟩
      rw [hf] at this; cases this
    · exact h.low n hn hl c (by omega)
  | cons k0 r =>
    rw [step_cons hf]
    obtain ⟨h1, h2, h3⟩ := founds_mem.mp (hf ▸ List.mem_cons_self .. : k0 ∈ founds R H.length j)
    have ht : H.length < R.length := by omega
    have sE : ∀ n, n < R.length → ∀ c, ent (swp R H.length k0) n c = if n = H.length then ent R k0 c else if n = k0 then ent R H.length c else ent R n c := fun n hn c => by
      unfold ent; rw [swp_row ht h2 hn]; split
      · rfl
      · split <;> rfl
    have E := fun {n x : Nat} (hn : n < R.length) => nxt_ent (c := j) (x := x) h.rl ht h2 hn
    have hlen : (H ++ [j]).length = H.length + 1 := by simp
    have z0 : ∀ k, k < H.length → ent R k0 (H.getD k 0) = 0 := fun k hk => by rw [h.one k hk k0 h2, if_neg (by omega)]
    refine ⟨nxt_rl h.rl ht h2, by rw [hlen, nxt_len]; omega, fun k hk => ?_, fun k l hkl hl => ?_, fun k hk n hn => ?_, fun n hn hl c hc => ?_, fun k hk c hc => ?_⟩
    · rw [getD_app]
      split
      · exact Nat.lt_succ_of_lt (h.lt k (by assumption))
      · split <;> omega
    · rw [hlen] at hl
      rw [getD_app, getD_app, if_pos (by omega)]
      by_cases hl2 : l < H.length
      · rw [if_pos hl2]; exact h.asc k l hkl hl2
      · rw [if_neg hl2, if_pos (by omega)]; exact h.lt k (by omega)
    · rw [nxt_len] at hn
      rw [hlen] at hk
      rw [getD_app]
      by_cases hk2 : k < H.length
      · rw [if_pos hk2, E hn, z0 k hk2, sE n hn]
        by_cases e : n = H.length
        · rw [if_pos e, if_neg (by omega)]; grind
        · rw [if_neg e, if_neg e, h.one k hk2 H.length ht, h.one k hk2 n hn]
          by_cases e2 : n = k0
          · rw [if_pos e2, if_neg (by omega), if_neg (by omega)]; grind
          · rw [if_neg e2]; grind
      · rw [if_neg hk2, if_pos (by omega), E hn]
        have : k = H.length := by omega
        subst this
        by_cases e : n = H.length
        · rw [if_pos e, if_pos e]; grind
        · rw [if_neg e, if_neg e]; grind
    · rw [hlen] at hn
      rw [nxt_len] at hl
      rw [E hl, if_neg (by omega)]
      by_cases e : c = j
      · subst e; grind
      · have hcj : c < j := by omega
        have e1 : ent R k0 c = 0 := h.low k0 h1 h2 c hcj
        have e2 : ent (swp R H.length k0) n c = 0 := by
          rw [sE n hl, if_neg (by omega)]
          split
          · exact h.low _ (Nat.le_refl _) ht c hcj
          · exact h.low n (by omega) hl c hcj
        rw [e1, e2]; grind
    · rw [hlen] at hk
      rw [getD_app] at hc
      by_cases hk2 : k < H.length
      · rw [if_pos hk2] at hc
        have hcj : c < j := Nat.lt_trans hc (h.lt k hk2)
        have e1 : ent R k0 c = 0 := h.low k0 h1 h2 c hcj
        rw [E (by omega), if_neg (by omega), e1, sE k (by omega), if_neg (by omega), if_neg (by omega), h.left k hk2 c hc]; grind
      · rw [if_neg hk2, if_pos (by omega)] at hc
        have : k = H.length := by omega
        subst this
        have e1 : ent R k0 c = 0 := h.low k0 h1 h2 c hc
        rw [E ht, if_pos rfl, e1]; grind
theorem red_rref {w : Nat} {R : List (List C)} (h : Rl w R) : ∀ j, j ≤ w → Red w j (rrefN R j).1 (rrefN R j).2
  | 0, _ => ⟨h, Nat.zero_le _, fun k hk => absurd hk (Nat.not_lt_zero k), fun k l _ hl => absurd hl (Nat.not_lt_zero l), fun k hk => absurd hk (Nat.not_lt_zero k), fun n _ _ c hc => absurd hc (Nat.not_lt_zero c), fun k hk => absurd hk (Nat.not_lt_zero k)⟩
  | j + 1, hj => red_step (red_rref h j (by omega)) (by omega)
/-! ### dots -/
def dot : List C → List C → C
  | a :: as, b :: bs => a * b + dot as bs
  | _, _ => 0
theorem dot_sub {v : List C} {y : C} : ∀ {a b u : List C}, a.length = b.length → dot (rowSub a y b) u = dot a u - y * dot b u
  | [], [], u, _ => by cases u <;> simp [rowSub, dot] <;> grind
  | a :: as, b :: bs, [], _ => by simp [rowSub, dot]; grind
  | a :: as, b :: bs, u :: us, h => by
    have ih := dot_sub (v := v) (y := y) (a := as) (b := bs) (u := us) (by simpa using h)
    have e : rowSub (a :: as) y (b :: bs) = (a - y * b) :: rowSub as y bs := rfl
    rw [e]
    simp only [dot, ih]; grind
theorem dot_div {h : C} : ∀ {a u : List C}, dot (a.map (· / h)) u = dot a u / h
  | [], u => by cases u <;> simp [dot] <;> grind
  | a :: as, [] => by simp [dot]; grind
  | a :: as, u :: us => by simp only [List.map_cons, dot, dot_div (a := as) (u := us)]; grind
/-- all dots are 0 -/
def Ker (R : List (List C)) (v : List C) : Prop := ∀ k, k < R.length → dot (rowAt R k) v = 0
theorem ker_swp {R : List (List C)} {t k : Nat} (ht : t < R.length) (hk : k < R.length) {v : List C} : Ker (swp R t k) v ↔ Ker R v := by
  constructor
  · intro h j hj
    by_cases h1 : j = k
    · have := h t (by rw [swp_len]; exact ht)
      rw [swp_row ht hk ht, if_pos rfl] at this
      rw [h1]; exact this
    · by_cases h2 : j = t
      · have := h k (by rw [swp_len]; exact hk)
        rw [swp_row ht hk hk] at this
        by_cases h3 : k = t
        · omega
        · rw [if_neg h3, if_pos rfl] at this; rw [h2]; exact this
      · have := h j (by rw [swp_len]; exact hj)
        rw [swp_row ht hk hj, if_neg h2, if_neg h1] at this
        exact this
  · intro h j hj
    rw [swp_len] at hj
    rw [swp_row ht hk hj]
    split
    · exact h k hk
    · split
      · exact h t ht
      · exact h j hj
theorem ker_nxt {R : List (List C)} {w t k c : Nat} (hw : Rl w R) (ht : t < R.length) (hk : k < R.length) (h0 : ent R k c ≠ 0) {v : List C} : Ker (nxt R t k c) v ↔ Ker R v := by
  rw [← ker_swp ht hk]
  have hq : dot (pvt R k c) v = dot (rowAt R k) v / ent R k c := dot_div
  have hs : ∀ j, j < R.length → dot (clr (pvt R k c) c (rowAt (swp R t k) j)) v = dot (rowAt (swp R t k) j) v - (rowAt (swp R t k) j).getD c 0 * dot (pvt R k c) v := fun j hj => by
    unfold clr
    have h1 : (rowAt (swp R t k) j).length = w := rl_at (swp_rl hw ht hk) (by rw [swp_len]; exact hj)
    have h2 : (pvt R k c).length = w := by rw [pvt_len]; exact rl_at hw hk
    split
    · rename_i h; rw [h]; grind
    · exact dot_sub (v := v) (by omega)
  constructor
  · intro h j hj
    rw [swp_len] at hj
    have ht' := h t (by rw [nxt_len]; exact ht)
    rw [nxt_row ht hk ht, if_pos rfl] at ht'
    by_cases e : j = t
    · subst e
      rw [swp_row ht hk ht, if_pos rfl]
      rw [hq] at ht'
      have : dot (rowAt R k) v = dot (rowAt R k) v / ent R k c * ent R k c := by grind
      rw [this, ht']; grind
    · have := h j (by rw [nxt_len]; exact hj)
      rw [nxt_row ht hk hj, if_neg e, hs j hj, ht'] at this
      grind
  · intro h j hj
    rw [nxt_len] at hj
    have ht' := h t (by rw [swp_len]; exact ht)
    rw [swp_row ht hk ht, if_pos rfl] at ht'
    have hq0 : dot (pvt R k c) v = 0 := by rw [hq, ht']; grind
    rw [nxt_row ht hk hj]
    split
    · exact hq0
    · rw [hs j hj, hq0, h j (by rw [swp_len]; exact hj)]; grind
theorem ker_step {s : List (List C) × List Nat} {w c : Nat} (h : Rl w s.1) {v : List C} : Ker (stepR s c).1 v ↔ Ker s.1 v := by
  obtain ⟨R, H⟩ := s
  cases hf : founds R H.length c with
  | nil => rw [step_nil hf]
  | cons k r =>
    rw [step_cons hf]
    obtain ⟨h1, h2, h3⟩ := founds_mem.mp (hf ▸ List.mem_cons_self .. : k ∈ founds R H.length c)
    exact ker_nxt h (Nat.lt_of_le_of_lt h1 h2) h2 h3
theorem ker_rref {R : List (List C)} {w : Nat} (h : Rl w R) {v : List C} : ∀ j, Ker (rrefN R j).1 v ↔ Ker R v
  | 0 => Iff.rfl
  | j + 1 => (ker_step (rref_rl h j)).trans (ker_rref h j)
/-! ### how long the numbers grow -/
/-- so many signs after k heads -/
def bt (n k : Nat) : Nat := (n + 1) * 2 ^ k - 1
theorem bt_zero {n : Nat} : bt n 0 = n := by unfold bt; simp
theorem bt_succ {n k : Nat} : bt n (k + 1) = 2 * bt n k + 1 := by
  unfold bt
  have : 0 < (n + 1) * 2 ^ k := Nat.mul_pos (Nat.succ_pos n) (Nat.two_pow_pos k)
  rw [Nat.pow_succ, ← Nat.mul_assoc]; omega
theorem bt_mono {n m k l : Nat} (h : n ≤ m) (h2 : k ≤ l) : bt n k ≤ bt m l := by
  unfold bt
  have h1 : (n + 1) * 2 ^ k ≤ (m + 1) * 2 ^ l := Nat.mul_le_mul (by omega) (Nat.pow_le_pow_right (by decide) h2)
  omega
theorem bt_bt {n k l : Nat} : bt (bt n k) l = bt n (k + l) := by
  unfold bt
  have : 0 < (n + 1) * 2 ^ k := Nat.mul_pos (Nat.succ_pos n) (Nat.two_pow_pos k)
  rw [show (n + 1) * 2 ^ k - 1 + 1 = (n + 1) * 2 ^ k from by omega, Nat.mul_assoc, ← Nat.pow_add]
theorem bt_ge {n k : Nat} : n ≤ bt n k := by
  have := bt_mono (Nat.le_refl n) (Nat.zero_le k)
  rw [bt_zero] at this; exact this
/-- all items have a common denominator -/
def AllIn (n : Nat) (d : Fd.Cm C) (R : List (List C)) : Prop := ∀ r ∈ R, ∀ x ∈ r, Fd.In n d x
theorem AllIn.mono {m n : Nat} {d : Fd.Cm C} {R : List (List C)} (h : AllIn m d R) (k : m ≤ n) : AllIn n d R := fun r hr x hx => Fd.in_mono (h r hr x hx) k
theorem AllIn.take {n j : Nat} {d : Fd.Cm C} {R : List (List C)} (h : AllIn n d R) : AllIn n d (R.take j) := fun r hr => h r (List.mem_of_mem_take hr)
theorem in_getD {n : Nat} {d : Fd.Cm C} {r : List C} (h : ∀ x ∈ r, Fd.In n d x) {c : Nat} : Fd.In n d (r.getD c 0) := by
  rw [List.getD_eq_getElem?_getD]
  cases e : r[c]? with
  | none => exact Fd.in_zero
  | some x => exact h x (List.mem_of_getElem? e)
theorem rowAt_in {n : Nat} {d : Fd.Cm C} {R : List (List C)} (h : AllIn n d R) {k : Nat} : ∀ x ∈ rowAt R k, Fd.In n d x := by
  unfold rowAt
  rw [List.getD_eq_getElem?_getD]
  cases e : R[k]? with
  | none => exact fun x hx => by cases hx
  | some r => exact h r (List.mem_of_getElem? e)
theorem mem_rowSub {a b : List C} {y z : C} (h : z ∈ rowSub a y b) : ∃ u ∈ a, ∃ v ∈ b, z = u - y * v := by
  unfold rowSub at h
  obtain ⟨⟨u, v⟩, hq, rfl⟩ := List.mem_map.mp h
  exact ⟨u, (List.of_mem_zip hq).1, v, (List.of_mem_zip hq).2, rfl⟩
theorem nxt_in {n : Nat} {d : Fd.Cm C} {R : List (List C)} {t k c : Nat} (ho : Fd.ok n d) (h : AllIn n d R) (ht : t < R.length) (hk : k < R.length) (h0 : ent R k c ≠ 0) :
    ∃ e, Fd.ok (2 * n + 1) e ∧ AllIn (2 * n + 1) e (nxt R t k c) ∧ (∀ x, Fd.In n d x → Fd.In (2 * n + 1) e x) ∧ AllIn (2 * n + 1) e (nrm (swp R t k) t c) ∧ (∀ j, j < R.length → ∀ v ∈ pvt R k c, Fd.Sz (2 * n + 1) (ent (swp R t k) j c * v)) := by
  obtain ⟨e, h1, h2, h3, h4⟩ := Fd.piv ho (in_getD (rowAt_in h (k := k)) (c := c)) h0
  have hs : ∀ j, j < R.length → ∀ x ∈ rowAt (swp R t k) j, Fd.In n d x := fun j hj x hx => by
    rw [swp_row ht hk hj] at hx
    split at hx
    · exact rowAt_in h x hx
    · split at hx <;> exact rowAt_in h x hx
  have hp : ∀ v ∈ pvt R k c, Fd.In (2 * n + 1) e v := fun v hv => by
    obtain ⟨z, hz, rfl⟩ := List.mem_map.mp hv
    exact h3 z (rowAt_in h z hz)
  refine ⟨e, h1, fun r hr x hx => ?_, h2, fun r hr x hx => ?_, fun j hj v hv => ?_⟩
  · obtain ⟨j, hj, rfl⟩ := mem_row hr
    rw [nxt_len] at hj
    rw [nxt_row ht hk hj] at hx
    split at hx
    · exact hp x hx
    · unfold clr at hx
      split at hx
      · exact h2 x (hs j hj x hx)
      · obtain ⟨u, hu, v, hv, rfl⟩ := mem_rowSub hx
        obtain ⟨z, hz, rfl⟩ := List.mem_map.mp hv
        exact (h4 u _ z (hs j hj u hu) (in_getD (hs j hj)) (rowAt_in h z hz)).1
  · obtain ⟨j, hj, rfl⟩ := mem_row hr
    rw [nrm_len, swp_len] at hj
    rw [nrm_row ht hk hj] at hx
    split at hx
    · exact hp x hx
    · exact h2 x (hs j hj x hx)
  · obtain ⟨z, hz, rfl⟩ := List.mem_map.mp hv
    exact (h4 0 _ z Fd.in_zero (in_getD (hs j hj)) (rowAt_in h z hz)).2
/-- the numbers of a reduced table -/
theorem rref_in {n w : Nat} {d : Fd.Cm C} {R : List (List C)} (ho : Fd.ok n d) (h : AllIn n d R) : ∀ j, ∃ e, Fd.ok (bt n (rrefN R j).2.length) e ∧ AllIn (bt n (rrefN R j).2.length) e (rrefN R j).1
  | 0 => ⟨d, by rw [show (rrefN R 0).2.length = 0 from rfl, bt_zero]; exact ho, by rw [show (rrefN R 0).2.length = 0 from rfl, bt_zero]; exact h⟩
  | j + 1 => by
    obtain ⟨e, h1, h2⟩ := rref_in (w := w) ho h j
    show ∃ e, Fd.ok (bt n (stepR (rrefN R j) j).2.length) e ∧ AllIn (bt n (stepR (rrefN R j) j).2.length) e (stepR (rrefN R j) j).1
    revert h1 h2
    generalize rrefN R j = s
    obtain ⟨S, H⟩ := s
    intro h1 h2
    cases hf : founds S H.length j with
    | nil => rw [step_nil hf]; exact ⟨e, h1, h2⟩
    | cons k r =>
      rw [step_cons hf]
      obtain ⟨k1, k2, k3⟩ := founds_mem.mp (hf ▸ List.mem_cons_self .. : k ∈ founds S H.length j)
      obtain ⟨f, f1, f2, _⟩ := nxt_in h1 h2 (Nat.lt_of_le_of_lt k1 k2) k2 k3
      have : (H ++ [j]).length = H.length + 1 := by simp
      exact ⟨f, by rw [this, bt_succ]; exact f1, by rw [this, bt_succ]; exact f2⟩
/-! ### what is told of a table -/
def redN (R : List (List C)) (w : Nat) : List (List C) := (rrefN R w).1.take (rrefN R w).2.length
def headsN (R : List (List C)) (w : Nat) : List Nat := (rrefN R w).2
def unitN (w p : Nat) : List C := (List.range w).map fun k => if k = p then 1 else 0
def freesN (H : List Nat) (w : Nat) : List Nat := (List.range w).filter fun f => !H.contains f
def kerRow (T : List (List C)) (H : List Nat) (w f : Nat) : List C := (List.zip T H).foldl (fun row q => row.set q.2 (0 - q.1.getD f 0)) (unitN w f)
def kerRows (R : List (List C)) (w : Nat) : List (List C) := (freesN (headsN R w) w).map (kerRow (redN R w) (headsN R w) w)
def kerN (R : List (List C)) (w : Nat) : List (List C) := redN (kerRows R w) w
theorem headsN_asc {R : List (List C)} {w : Nat} (h : Rl w R) : Red w w (rrefN R w).1 (headsN R w) := red_rref h w (Nat.le_refl w)
theorem asc_le : ∀ {H : List Nat} {w : Nat}, (∀ k, k < H.length → H.getD k 0 < w) → (∀ k l, k < l → l < H.length → H.getD k 0 < H.getD l 0) → H.length ≤ w := fun {H w} h1 h2 => by
  have : ∀ k, k < H.length → k ≤ H.getD k 0 := by
    intro k
    induction k with
    | zero => intro _; omega
    | succ k ih => intro hk; have := ih (by omega); have := h2 k (k + 1) (by omega) hk; omega
  cases e : H.length with
  | zero => omega
  | succ m => have a := this m (by omega); have b := h1 m (by omega); omega
theorem Red.wide {w j : Nat} {R : List (List C)} {H : List Nat} (h : Red w j R H) : H.length ≤ j := asc_le h.lt h.asc
theorem redN_len {R : List (List C)} {w : Nat} (h : Rl w R) : (redN R w).length = (headsN R w).length := by
  unfold redN
  rw [List.length_take]
  have := (headsN_asc h).tall
  unfold headsN at *
  omega
theorem redN_rl {R : List (List C)} {w : Nat} (h : Rl w R) : Rl w (redN R w) := fun r hr => rref_rl h w r (List.mem_of_mem_take hr)
theorem headsN_lt {R : List (List C)} {w : Nat} (h : Rl w R) {x : Nat} (hx : x ∈ headsN R w) : x < w := by
  obtain ⟨k, hk, rfl⟩ := List.getElem_of_mem hx
  have := (headsN_asc h).lt k hk
  rwa [List.getD_eq_getElem?_getD, List.getElem?_eq_getElem hk] at this
theorem unit_len {w p : Nat} : (unitN w p : List C).length = w := by unfold unitN; simp
theorem unit_get {w p k : Nat} (hk : k < w) : (unitN w p : List C).getD k 0 = if k = p then 1 else 0 := by
  unfold unitN
  rw [List.getD_eq_getElem?_getD, List.getElem?_map, List.getElem?_range hk]; rfl
theorem kerFold_len {f w : Nat} : ∀ (L : List (List C × Nat)) (row : List C), row.length = w → (L.foldl (fun row q => row.set q.2 (0 - q.1.getD f 0)) row).length = w
  | [], row, h => h
  | q :: L, row, h => kerFold_len L _ (by rw [List.length_set]; exact h)
theorem kerRow_len {T : List (List C)} {H : List Nat} {w f : Nat} : (kerRow T H w f).length = w := kerFold_len _ _ unit_len
theorem kerRows_rl {R : List (List C)} {w : Nat} : Rl w (kerRows R w) := fun r hr => by
  obtain ⟨f, _, rfl⟩ := List.mem_map.mp hr
  exact kerRow_len
theorem kerFold_in {n f : Nat} {d : Fd.Cm C} : ∀ (L : List (List C × Nat)) (row : List C), (∀ q ∈ L, ∀ x ∈ q.1, Fd.In n d x) → (∀ x ∈ row, Fd.In n d x) → ∀ x ∈ L.foldl (fun row q => row.set q.2 (0 - q.1.getD f 0)) row, Fd.In n d x
  | [], row, _, h => h
  | q :: L, row, hL, h => kerFold_in L _ (fun q hq => hL q (List.mem_cons_of_mem _ hq)) fun x hx => by
    rcases List.mem_or_eq_of_mem_set hx with hx | rfl
    · exact h x hx
    · exact Fd.in_neg (in_getD (hL q (List.mem_cons_self ..)))
theorem unit_in {n w p : Nat} {d : Fd.Cm C} (ho : Fd.ok n d) : ∀ x ∈ (unitN w p : List C), Fd.In n d x := fun x hx => by
  obtain ⟨k, _, rfl⟩ := List.mem_map.mp hx
  by_cases h : k = p
  · rw [if_pos h]; exact Fd.in_one ho
  · rw [if_neg h]; exact Fd.in_zero
theorem redN_in {n w : Nat} {d : Fd.Cm C} {R : List (List C)} (ho : Fd.ok n d) (h : AllIn n d R) : ∃ e, Fd.ok (bt n (headsN R w).length) e ∧ AllIn (bt n (headsN R w).length) e (redN R w) := by
  obtain ⟨e, h1, h2⟩ := rref_in (w := w) ho h w
  exact ⟨e, h1, h2.take⟩
theorem kerRows_in {n w : Nat} {d : Fd.Cm C} {R : List (List C)} (ho : Fd.ok n d) (h : AllIn n d R) : ∃ e, Fd.ok (bt n (headsN R w).length) e ∧ AllIn (bt n (headsN R w).length) e (kerRows R w) := by
  obtain ⟨e, h1, h2⟩ := redN_in (w := w) ho h
  refine ⟨e, h1, fun r hr => ?_⟩
  obtain ⟨f, _, rfl⟩ := List.mem_map.mp hr
  exact kerFold_in _ _ (fun q hq => h2 _ (List.of_mem_zip hq).1) (unit_in h1)
/-! ### tables of two parts -/
theorem step_take {S : List (List C)} {H : List Nat} {a w c : Nat} (hS : Rl w S) (ha : a ≤ w) (hc : c < a) : stepR (S.map (·.take a), H) c = ((stepR (S, H) c).1.map (·.take a), (stepR (S, H) c).2) := by
  have eA : ∀ k x, x < a → ent (S.map (·.take a)) k x = ent S k x := fun k x hx => by
    unfold ent rowAt
    simp only [List.getD_eq_getElem?_getD, List.getElem?_map]
    cases S[k]? with
    | none => rfl
    | some r => simp [hx]
  have eF : founds (S.map (·.take a)) H.length c = founds S H.length c := by
    unfold founds
    rw [List.length_map]
    exact List.filter_congr fun k _ => by rw [eA k c hc]
  cases hf : founds S H.length c with
  | nil => rw [step_nil hf, step_nil (eF.trans hf)]
  | cons k r =>
    rw [step_cons hf, step_cons (eF.trans hf)]
    obtain ⟨k1, k2, k3⟩ := founds_mem.mp (hf ▸ List.mem_cons_self .. : k ∈ founds S H.length c)
    have ht : H.length < S.length := Nat.lt_of_le_of_lt k1 k2
    have hl : (S.map (·.take a)).length = S.length := List.length_map ..
    have rA : ∀ k, rowAt (S.map (·.take a)) k = (rowAt S k).take a := fun k => by
      unfold rowAt
      simp only [List.getD_eq_getElem?_getD, List.getElem?_map]
      cases S[k]? <;> simp
    have hp : pvt (S.map (·.take a)) k c = (pvt S k c).take a := by
      unfold pvt
      rw [rA, eA k c hc, List.map_take]
    congr 1
    refine List.ext_getElem? fun j => ?_
    by_cases hj : j < S.length
    · rw [rowAt_get (by rw [nxt_len, hl]; exact hj), List.getElem?_map, rowAt_get (by rw [nxt_len]; exact hj)]
      simp only [Option.map_some]
      rw [nxt_row (by rw [hl]; exact ht) (by rw [hl]; exact k2) (by rw [hl]; exact hj), nxt_row ht k2 hj, hp]
      congr 1
      have sA : rowAt (swp (S.map (·.take a)) H.length k) j = (rowAt (swp S H.length k) j).take a := by
        rw [swp_row (by rw [hl]; exact ht) (by rw [hl]; exact k2) (by rw [hl]; exact hj), swp_row ht k2 hj]
        split
        · exact rA _
        · split <;> exact rA _
      rw [sA]
      generalize rowAt (swp S H.length k) j = u
      split
      · rfl
      · unfold clr
        have : (u.take a).getD c 0 = u.getD c 0 := by simp [List.getD_eq_getElem?_getD, hc]
        rw [this]
        split
        · rfl
        · unfold rowSub
          rw [← List.map_take]
          simp [List.zip, List.take_zipWith]
    · rw [List.getElem?_eq_none (by rw [nxt_len, hl]; omega), List.getElem?_eq_none (by rw [List.length_map, nxt_len]; omega)]
theorem rref_take {S : List (List C)} {a w : Nat} (hS : Rl w S) (ha : a ≤ w) : ∀ j, j ≤ a → rrefN (S.map (·.take a)) j = ((rrefN S j).1.map (·.take a), (rrefN S j).2)
  | 0, _ => rfl
  | j + 1, hj => by
    have ih := rref_take hS ha j (by omega)
    show stepR (rrefN (S.map (·.take a)) j) j = _
    rw [ih, step_take (rref_rl hS j) ha (by omega)]; rfl
/-! ### dots with units -/
theorem dot_comm : ∀ {a b : List C}, dot a b = dot b a
  | [], [] => rfl
  | [], _ :: _ => rfl
  | _ :: _, [] => rfl
  | a :: as, b :: bs => by simp only [dot, dot_comm (a := as) (b := bs)]; grind
theorem dot_app : ∀ {x u y v : List C}, x.length = u.length → dot (x ++ y) (u ++ v) = dot x u + dot y v
  | [], [], y, v, _ => by simp [dot]; grind
  | a :: x, b :: u, y, v, h => by
    simp only [List.cons_append, dot, dot_app (x := x) (u := u) (y := y) (v := v) (by simpa using h)]; grind
theorem dot_neg : ∀ {x u : List C}, dot x (u.map (0 - ·)) = 0 - dot x u
  | [], u => by cases u <;> simp [dot] <;> grind
  | a :: x, [] => by simp [dot]; grind
  | a :: x, b :: u => by simp only [List.map_cons, dot, dot_neg (x := x) (u := u)]; grind
theorem dot_zero : ∀ {x u : List C}, (∀ c, x.getD c 0 = 0) → dot x u = 0
  | [], u, _ => by cases u <;> rfl
  | a :: x, [], _ => rfl
  | a :: x, b :: u, h => by
    have h0 := h 0
    have := dot_zero (x := x) (u := u) fun c => h (c + 1)
    simp only [List.getD_cons_zero] at h0
    simp only [dot, this, h0]; grind
theorem dot_delta : ∀ {x u : List C} {q : Nat}, x.length = u.length → (∀ c, x.getD c 0 = if c = q then 1 else 0) → dot x u = u.getD q 0
  | [], [], q, _, _ => by simp [dot]
  | a :: x, b :: u, 0, h, hx => by
    have h0 := hx 0
    simp only [List.getD_cons_zero, if_true] at h0
    have := dot_zero (x := x) (u := u) fun c => by have := hx (c + 1); simpa using this
    simp only [dot, this, h0, List.getD_cons_zero]; grind
  | a :: x, b :: u, q + 1, h, hx => by
    have h0 := hx 0
    simp only [List.getD_cons_zero] at h0
    rw [if_neg (by omega)] at h0
    have := dot_delta (x := x) (u := u) (q := q) (by simpa using h) fun c => by have := hx (c + 1); simpa using this
    simp only [dot, this, h0, List.getD_cons_succ]; grind
theorem dot_unit {u : List C} {w i : Nat} (h : u.length = w) (hi : i < w) : dot (unitN w i) u = u.getD i 0 := by
  refine dot_delta (by rw [unit_len, h]) fun c => ?_
  by_cases hc : c < w
  · exact unit_get hc
  · rw [List.getD_eq_getElem?_getD, List.getElem?_eq_none (by rw [unit_len]; omega), if_neg (by omega)]; rfl
/-! ### products and inverses -/
def colN (T : List (List C)) (k : Nat) : List C := T.map (·.getD k 0)
def colsN (T : List (List C)) (w : Nat) : List (List C) := (List.range w).map (colN T)
def prodN (A B : List (List C)) (w : Nat) : List (List C) := A.map fun r => (colsN B w).map (dot r)
def augN (R : List (List C)) (n : Nat) : List (List C) := (List.range n).map fun k => rowAt R k ++ unitN n k
def invN (R : List (List C)) (n : Nat) : List (List C) := (redN (augN R n) n).map (·.drop n)
theorem aug_len {R : List (List C)} {n : Nat} : (augN R n).length = n := by unfold augN; simp
theorem aug_row {R : List (List C)} {n k : Nat} (hk : k < n) : rowAt (augN R n) k = rowAt R k ++ unitN n k := by
  unfold augN rowAt
  rw [List.getD_eq_getElem?_getD, List.getElem?_map, List.getElem?_range hk]; rfl
theorem aug_rl {R : List (List C)} {n : Nat} (h : Rl n R) (hl : R.length = n) : Rl (n + n) (augN R n) := fun r hr => by
  unfold augN at hr
  obtain ⟨k, hk, rfl⟩ := List.mem_map.mp hr
  rw [List.length_append, unit_len, rl_at h (by rw [hl]; exact List.mem_range.mp hk)]
theorem aug_take {R : List (List C)} {n : Nat} (h : Rl n R) (hl : R.length = n) : (augN R n).map (·.take n) = R := by
  refine List.ext_getElem? fun j => ?_
  by_cases hj : j < n
  · rw [List.getElem?_map, rowAt_get (by rw [aug_len]; exact hj), rowAt_get (by rw [hl]; exact hj), aug_row hj]
    have := rl_at h (k := j) (by rw [hl]; exact hj)
    simp only [Option.map_some]
    rw [List.take_append_of_le_length (by omega), List.take_of_length_le (by omega)]
  · rw [List.getElem?_eq_none (by rw [List.length_map, aug_len]; omega), List.getElem?_eq_none (by omega)]
theorem aug_heads {R : List (List C)} {n : Nat} (h : Rl n R) (hl : R.length = n) : headsN (augN R n) n = headsN R n := by
  have := rref_take (aug_rl h hl) (by omega : n ≤ n + n) n (Nat.le_refl n)
  rw [aug_take h hl] at this
  unfold headsN; rw [this]
theorem full_heads {H : List Nat} {w : Nat} (h1 : ∀ k, k < H.length → H.getD k 0 < w) (h2 : ∀ k l, k < l → l < H.length → H.getD k 0 < H.getD l 0) (hl : H.length = w) : ∀ k, k < w → H.getD k 0 = k := by
  have lo : ∀ k, k < H.length → k ≤ H.getD k 0 := by
    intro k
    induction k with
    | zero => intro _; omega
    | succ k ih => intro hk; have := ih (by omega); have := h2 k (k + 1) (by omega) hk; omega
  have hi : ∀ j k, k + j + 1 = w → H.getD k 0 ≤ k := by
    intro j
    induction j with
    | zero => intro k hk; have := h1 k (by omega); omega
    | succ j ih => intro k hk; have a := ih (k + 1) (by omega); have b := h2 k (k + 1) (by omega) (by omega); omega
  intro k hk
  have a := lo k (by omega)
  have b := hi (w - k - 1) k (by omega)
  omega
theorem inv_prod {R : List (List C)} {n : Nat} (h : Rl n R) (hl : R.length = n) (hf : (headsN (augN R n) n).length = n) : prodN R (invN R n) n = (List.range n).map (unitN n) := by
  have hA := aug_rl h hl
  have hR := red_rref hA n (by omega)
  have hH := full_heads hR.lt hR.asc hf
  have hlen : (rrefN (augN R n) n).1.length = n := by rw [rref_len, aug_len]
  have hfin : redN (augN R n) n = (rrefN (augN R n) n).1 := by
    unfold redN
    unfold headsN at hf
    rw [hf, List.take_of_length_le (by omega)]
  have hrl := rref_rl hA n
  have hB : ∀ k, k < n → rowAt (invN R n) k = (rowAt (rrefN (augN R n) n).1 k).drop n := fun k hk => by
    unfold invN
    rw [hfin]
    unfold rowAt
    simp only [List.getD_eq_getElem?_getD, List.getElem?_map]
    rw [List.getElem?_eq_getElem (by omega)]; rfl
  have hBl : (invN R n).length = n := by unfold invN; rw [List.length_map, hfin, hlen]
  have hcol : ∀ j, (colN (invN R n) j).length = n := fun j => by unfold colN; rw [List.length_map, hBl]
  have key : ∀ j, j < n → ∀ k, k < n → dot (rowAt R k) (colN (invN R n) j) = if k = j then 1 else 0 := by
    intro j hj
    have hker : Ker (rrefN (augN R n) n).1 ((colN (invN R n) j).map (0 - ·) ++ unitN n j) := by
      intro k hk
      rw [hlen] at hk
      have hrow : (rowAt (rrefN (augN R n) n).1 k).length = n + n := rl_at hrl (by omega)
      have e1 : rowAt (rrefN (augN R n) n).1 k = (rowAt (rrefN (augN R n) n).1 k).take n ++ (rowAt (rrefN (augN R n) n).1 k).drop n := (List.take_append_drop ..).symm
      rw [e1, dot_app (by simp [hcol, hrow]), dot_neg, dot_delta (q := k) (by simp [hcol, hrow]) (fun c => ?_), dot_comm, dot_unit (by simp [hrow]) hj]
      · have : (colN (invN R n) j).getD k 0 = (rowAt (invN R n) k).getD j 0 := by
          unfold colN rowAt
          simp only [List.getD_eq_getElem?_getD, List.getElem?_map]
          rw [List.getElem?_eq_getElem (by omega)]; rfl
        rw [this, hB k hk]; grind
      · by_cases hc : c < n
        · have e2 : ((rowAt (rrefN (augN R n) n).1 k).take n).getD c 0 = ent (rrefN (augN R n) n).1 k c := by
            unfold ent; simp [List.getD_eq_getElem?_getD, hc]
          have e3 := hR.one c (by unfold headsN at hf; omega) k (by omega)
          rw [show List.getD (rrefN (augN R n) n).2 c 0 = c from hH c hc] at e3
          rw [e2, e3]
          by_cases e : k = c
          · subst e; rw [if_pos rfl]
          · rw [if_neg e, if_neg (fun z => e z.symm)]
        · rw [List.getD_eq_getElem?_getD, List.getElem?_eq_none (by simp [hrow]; omega), if_neg (by omega)]; rfl
    have hk2 := (ker_rref hA n).mp hker
    intro k hk
    have := hk2 k (by rw [aug_len]; exact hk)
    rw [aug_row hk, dot_app (by rw [List.length_map, hcol, rl_at h (by omega)]), dot_neg, dot_unit unit_len hk, unit_get hk] at this
    split at this
    · rw [if_pos (by assumption)]; grind
    · rw [if_neg (by assumption)]; grind
  refine List.ext_getElem? fun k => ?_
  by_cases hk : k < n
  · unfold prodN colsN
    rw [List.getElem?_map, rowAt_get (by omega), List.getElem?_map, List.getElem?_range hk]
    simp only [Option.map_some]
    congr 1
    unfold unitN
    rw [List.map_map]
    refine List.map_congr_left fun j hj => ?_
    have := key j (List.mem_range.mp hj) k hk
    simp only [Function.comp]
    rw [this]
    by_cases e : k = j
    · rw [if_pos e, if_pos e.symm]
    · rw [if_neg e, if_neg (fun z => e z.symm)]
  · rw [List.getElem?_eq_none (by unfold prodN; rw [List.length_map]; omega), List.getElem?_eq_none (by simp; omega)]
/-! ### the numbers of sums -/
theorem dot_in {n m : Nat} {d e : Fd.Cm C} (hd : Fd.ok n d) (he : Fd.ok m e) : ∀ {a b : List C}, (∀ x ∈ a, Fd.In n d x) → (∀ x ∈ b, Fd.In m e x) → Fd.In (n + m + a.length) (Fd.cmul d e) (dot a b)
  | [], b, _, _ => by cases b <;> exact Fd.in_zero
  | a :: as, [], _, _ => Fd.in_zero
  | a :: as, b :: bs, ha, hb => by
    have h1 := Fd.in_mul (ha a (List.mem_cons_self ..)) (hb b (List.mem_cons_self ..))
    have h2 := dot_in hd he (fun x hx => ha x (List.mem_cons_of_mem _ hx)) (fun x hx => hb x (List.mem_cons_of_mem _ hx))
    exact Fd.in_add (Fd.in_mono h1 (Nat.le_add_right _ _)) h2
theorem dot_take_succ : ∀ {j : Nat} {x y : List C} {u v : C}, x[j]? = some u → y[j]? = some v → dot (x.take (j + 1)) (y.take (j + 1)) = dot (x.take j) (y.take j) + u * v
  | 0, a :: x, b :: y, u, v, h, k => by
    simp at h k
    subst h k
    simp [dot]; grind
  | j + 1, a :: x, b :: y, u, v, h, k => by
    have := dot_take_succ (j := j) (x := x) (y := y) (u := u) (v := v) (by simpa using h) (by simpa using k)
    simp only [List.take_succ_cons, dot] at this ⊢
    rw [this]; grind
  | _, [], _, _, _, h, _ => by simp at h
  | _, _ :: _, [], _, _, _, k => by simp at k
theorem dot_take_zip : ∀ {x y : List C}, dot (x.take (List.zip x y).length) (y.take (List.zip x y).length) = dot x y
  | [], y => by cases y <;> rfl
  | _ :: _, [] => rfl
  | a :: x, b :: y => by simp only [List.zip_cons_cons, List.length_cons, List.take_succ_cons, dot, dot_take_zip (x := x) (y := y)]
theorem frees_len {w : Nat} : ∀ {H : List Nat}, (∀ k, k < H.length → H.getD k 0 < w) → (∀ k l, k < l → l < H.length → H.getD k 0 < H.getD l 0) → (freesN H w).length + H.length ≤ w := by
  have key : ∀ (m : Nat) (H : List Nat) (w : Nat), H.length = m → (∀ k, k < H.length → H.getD k 0 < w) → (∀ k l, k < l → l < H.length → H.getD k 0 < H.getD l 0) → m ≤ ((List.range w).filter fun f => H.contains f).length := by
    intro m
    induction m with
    | zero => intros; omega
    | succ m ih =>
      intro H w hl h1 h2
      have hlast := h1 m (by omega)
      have hp := ih (H.take m) (H.getD m 0) (by simp; omega) (fun k hk => by
        have hk' : k < m := by simp at hk; omega
        have := h2 k m hk' (by omega)
        simpa [List.getD_eq_getElem?_getD, List.getElem?_take, hk'] using this) (fun k l hkl hl2 => by
        have hl' : l < m := by simp at hl2; omega
        have hk' : k < m := by omega
        have := h2 k l hkl (by omega)
        simpa [List.getD_eq_getElem?_getD, List.getElem?_take, hk', hl'] using this)
      have e1 : ((List.range (H.getD m 0)).filter fun f => (H.take m).contains f).length ≤ ((List.range (H.getD m 0)).filter fun f => H.contains f).length := by
        rw [← List.countP_eq_length_filter, ← List.countP_eq_length_filter]
        exact List.countP_mono_left fun x _ hx => by
          simp only [List.contains_iff_mem] at hx ⊢
          exact List.mem_of_mem_take hx
      have e2 : ((List.range (H.getD m 0 + 1)).filter fun f => H.contains f).length = ((List.range (H.getD m 0)).filter fun f => H.contains f).length + 1 := by
        rw [List.range_succ, List.filter_append, List.length_append]
        congr 1
        have : H.contains (H.getD m 0) = true := by
          simp only [List.contains_iff_mem]
          rw [List.getD_eq_getElem?_getD, List.getElem?_eq_getElem (by omega)]
          exact List.getElem_mem _
        simp only [List.filter_cons, this, if_true, List.filter_nil, List.length_cons, List.length_nil]
      have e3 : ((List.range (H.getD m 0 + 1)).filter fun f => H.contains f).length ≤ ((List.range w).filter fun f => H.contains f).length := ((List.range_sublist.mpr (by omega)).filter _).length_le
      omega
  intro H h1 h2
  have h := key H.length H w rfl h1 h2
  have e : (freesN H w).length + ((List.range w).filter fun f => H.contains f).length = w := by
    unfold freesN
    have : ∀ L : List Nat, (L.filter fun f => !H.contains f).length + (L.filter fun f => H.contains f).length = L.length := by
      intro L
      induction L with
      | nil => rfl
      | cons a L ih =>
        simp only [List.filter_cons]
        cases H.contains a
        · simp only [Bool.not_false, if_true, Bool.false_eq_true, if_false, List.length_cons]; omega
        · simp only [Bool.not_true, if_true, Bool.false_eq_true, if_false, List.length_cons]; omega
    rw [this, List.length_range]
  omega
theorem kerRows_len {R : List (List C)} {w : Nat} (h : Rl w R) : (kerRows R w).length + (headsN R w).length ≤ w := by
  unfold kerRows
  rw [List.length_map]
  have := headsN_asc h
  exact frees_len this.lt this.asc
end
end DL
set_option maxHeartbeats 1000000
namespace DL
open PySem PySem.Spec PyProof.Rows

/-! ### comprehensions, as they stand -/
section
variable {α β γ : Type} {T : Tb} {tg : Tg} {t : IEs} {e : IE} {ρ : En} {p : Pen} {Q : List D → Pen → Prop} {E : Exc → Pen → Prop}
/-- what a turn asks -/
def TurnA (T : Tb) (tg : Tg) (t : IEs) (e : IE) (ρ : En) (x : D) (p : Pen) (Q : Option D → Pen → Prop) : Prop :=
  ∃ ρ1, bindT tg x (killE tg.slots ρ) = some ρ1 ∧ Wo (turnE T t e ρ1 p) Q noE
theorem TurnA.wo {x : D} {R : Option D → Pen → Prop} (h : TurnA T tg t e ρ x p R) : Wo (turnC tg (fun ρ1 => dTs T t ρ1) (fun ρ1 => dM T false e ρ1) ρ x p) R noE := by
  obtain ⟨ρ1, h1, h2⟩ := h
  rw [turn_eq h1]; exact h2
theorem W_map (φ ψ : α → D) (L : List α) (h : ∀ a ∈ L, TurnA T tg t e ρ (φ a) p fun o q => o = some (ψ a) ∧ q = p) (k : Q (L.map ψ) p) : Wo (kComp T tg t e ρ (L.map φ) p) Q E := by
  unfold kComp
  rw [comp_mapA φ ψ L fun a ha => eq_of_W (h a ha).wo]
  exact k
theorem W_fil (φ ψ : α → D) (c : α → Bool) (L : List α) (h : ∀ a ∈ L, TurnA T tg t e ρ (φ a) p fun o q => o = (if c a = true then some (ψ a) else none) ∧ q = p) (k : Q ((L.filter c).map ψ) p) : Wo (kComp T tg t e ρ (L.map φ) p) Q E := by
  unfold kComp
  rw [comp_filA φ ψ c L fun a ha => eq_of_W (h a ha).wo]
  exact k
/-- a list goes with another one, item by item -/
inductive A2 (P : α → β → Prop) : List α → List β → Prop
  | nil : A2 P [] []
  | cons {a : α} {b : β} {as : List α} {bs : List β} : P a b → A2 P as bs → A2 P (a :: as) (b :: bs)
theorem A2.len {P : α → β → Prop} {as : List α} {bs : List β} (h : A2 P as bs) : bs.length = as.length := by
  induction h with
  | nil => rfl
  | cons _ _ ih => simp [ih]
theorem A2.all {P : α → β → Prop} {R : β → Prop} {as : List α} {bs : List β} (h : A2 P as bs) (k : ∀ a b, a ∈ as → P a b → R b) : ∀ b ∈ bs, R b := by
  induction h with
  | nil => intro b hb; cases hb
  | cons h1 _ ih =>
    intro b hb
    rcases List.mem_cons.mp hb with rfl | hb
    · exact k _ _ (List.mem_cons_self ..) h1
    · exact ih (fun a b ha => k a b (List.mem_cons_of_mem _ ha)) b hb
theorem A2.map {P : α → β → Prop} {u : α → γ} {v : β → γ} {as : List α} {bs : List β} (h : A2 P as bs) (k : ∀ a b, a ∈ as → P a b → v b = u a) : bs.map v = as.map u := by
  induction h with
  | nil => rfl
  | cons h1 _ ih => simp only [List.map_cons]; rw [k _ _ (List.mem_cons_self ..) h1, ih fun a b ha => k a b (List.mem_cons_of_mem _ ha)]
theorem A2.map2 {P : α → β → Prop} {u : α → γ} {v : β → γ} {as : List α} {bs : List β} (h : A2 P as bs) (k : ∀ a b, P a b → v b = u a) : bs.map v = as.map u := h.map fun a b _ z => k a b z
theorem comp_draw {f : D → M (Option D)} (φ : α → D) (g : β → D) (P : α → β → Prop) (c : Nat) : ∀ (L : List α) (k : Nat) (p : Pen), PenB (k + c * L.length) p →
    (∀ a ∈ L, ∀ k' q, PenB (k' + c) q → Wo (f (φ a) q) (fun o q' => ∃ b, o = some (g b) ∧ P a b ∧ PenB k' q') noE) →
    Wo (compL f (L.map φ) p) (fun ds q => ∃ bs, ds = bs.map g ∧ A2 P L bs ∧ PenB k q) noE
  | [], k, p, hp, _ => ⟨[], rfl, .nil, hp⟩
  | a :: L, k, p, hp, h => by
    rw [List.map_cons]
    unfold compL
    have w := h a (List.mem_cons_self ..) (k + c * L.length) p (by rw [List.length_cons, Nat.mul_succ] at hp; exact hp.mono (by omega))
    cases eo : f (φ a) p with
    | bad => rw [eo] at w; exact w.elim
    | err e q => rw [eo] at w; exact w.elim
    | ok o q =>
      rw [eo] at w
      obtain ⟨b, rfl, hb, hq⟩ := w
      show Wo ((compL f (L.map φ) q).bind fun ys => M.pure (g b :: ys)) _ noE
      rw [Wo_bind]
      refine (comp_draw φ g P c L k q hq fun a ha => h a (List.mem_cons_of_mem _ ha)).im fun ds q2 => ?_
      rintro ⟨bs, rfl, h2, hq2⟩
      rw [cO_app]
      exact ⟨b :: bs, rfl, .cons hb h2, hq2⟩
/-- each item draws so often -/
theorem W_draw (φ : α → D) (g : β → D) (P : α → β → Prop) (c k : Nat) (L : List α) (hp : PenB (k + c * L.length) p)
    (h : ∀ a ∈ L, ∀ k' q, PenB (k' + c) q → TurnA T tg t e ρ (φ a) q fun o q' => ∃ b, o = some (g b) ∧ P a b ∧ PenB k' q') (hQ : ∀ bs q, A2 P L bs → PenB k q → Q (bs.map g) q) : Wo (kComp T tg t e ρ (L.map φ) p) Q E := by
  unfold kComp
  refine (comp_draw φ g P c L k p hp fun a ha k' q hq => (h a ha k' q hq).wo).im fun ds q => ?_
  rintro ⟨bs, rfl, h2, hq⟩
  exact hQ bs q h2 hq
end
theorem zipD_seq {α β : Type} {φ : α → D} {ψ : β → D} {a b : D} {xs : List α} {ys : List β} (ha : seqOf a = some (xs.map φ)) (hb : seqOf b = some (ys.map ψ)) : zipD a b = some ((List.zip xs ys).map fun q => .tup [φ q.1, ψ q.2]) := by
  unfold zipD
  rw [ha, hb]
  exact congrArg some (zip_maps xs ys)
theorem rng0 (n : Nat) : rngD 0 (n : Int) = hds (List.range n) := by
  have := rngD_nat 0 n
  simpa using this
theorem rng1N {n : Nat} (h : n ≤ 16777216) : rng1D (.int (n : Int)) = some (hds (List.range n)) := by
  rw [rng1_int (by omega) (by omega), rng0]
theorem hdsR_at {w j : Nat} {x : D} (h : (hds (List.range w))[j]? = some x) : x = .int (j : Int) ∧ j < w := by
  rw [List.getElem?_map] at h
  obtain ⟨a, ha, rfl⟩ := Option.map_eq_some_iff.mp h
  obtain ⟨h1, h2⟩ := List.getElem?_eq_some_iff.mp ha
  rw [List.getElem_range] at h2
  rw [List.length_range] at h1
  subst h2
  exact ⟨rfl, h1⟩
/-! ### closed values looked at -/
theorem blsD_map {α : Type} {f : α → Bool} : ∀ {L : List α}, blsD (L.map fun a => .bl (f a)) = some (L.map f)
  | [] => rfl
  | a :: L => by simp only [List.map_cons, blsD, blsD_map (L := L), Option.map_some]
theorem all_lst {α : Type} {f : α → Bool} {L : List α} : opBlt .all [.lst (L.map fun a => .bl (f a))] = some (.bl (L.all f)) := by
  show (blsD _).map _ = _
  rw [blsD_map]
  simp [List.all_map, Function.comp_def]
theorem any_lst {α : Type} {f : α → Bool} {L : List α} : opBlt .any [.lst (L.map fun a => .bl (f a))] = some (.bl (L.any f)) := by
  show (blsD _).map _ = _
  rw [blsD_map]
  simp [List.any_map, Function.comp_def]
theorem intsD_map {α : Type} {f : α → Int} : ∀ {L : List α}, intsD (L.map fun a => .int (f a)) = some (L.map f)
  | [] => rfl
  | a :: L => by simp only [List.map_cons, intsD, intsD_map (L := L), Option.map_some]
theorem sum_lst {α : Type} {f : α → Int} {L : List α} : opBlt .sum [.lst (L.map fun a => .int (f a))] = some (.int (L.map f).sum) := by
  show (intsD _).map _ = _
  rw [intsD_map]; rfl
theorem sum_tup {α : Type} {f : α → Int} {L : List α} : opBlt .sum [.tup (L.map fun a => .int (f a))] = some (.int (L.map f).sum) := by
  show (intsD _).map _ = _
  rw [intsD_map]; rfl
theorem cut_to {xs : List D} {n : Nat} (h : n ≤ xs.length) : cutD xs none (some (n : Int)) = xs.take n := by
  unfold cutD
  rw [HT.sIx_none, HT.sIx_nat]
  simp
theorem cut_from {xs : List D} {n : Nat} (h : n ≤ xs.length) : cutD xs (some (n : Int)) none = xs.drop n := by
  unfold cutD
  rw [HT.sIx_none, HT.sIx_nat, Nat.min_eq_left h, List.take_of_length_le (by simp)]
end DL
set_option maxHeartbeats 1000000
namespace DL
open PySem PySem.Spec PyProof.Rows

/-! ### data of numbers, None, tuples and lists: equal just if the same -/
inductive Pl : Nat → D → Prop
  | int {k : Nat} {i : Int} : Pl k (.int i)
  | non {k : Nat} : Pl k .non
  | tup {k : Nat} {xs : List D} : (∀ x ∈ xs, Pl k x) → Pl (k + 1) (.tup xs)
  | lst {k : Nat} {xs : List D} : (∀ x ∈ xs, Pl k x) → Pl (k + 1) (.lst xs)
def PlF (k : Nat) (a b : D) : Prop := ∃ x y, a.toPy = some x ∧ b.toPy = some y ∧ x.canLay0 = true ∧ y.canLay0 = true ∧ x.depth ≤ k ∧ y.depth ≤ k ∧ (PyData.eqv x y = true ↔ a = b)
def PlFs (k : Nat) (a b : List D) : Prop := ∃ x y, D.toPys a = some x ∧ D.toPys b = some y ∧ PyData.canLayAll0 x = true ∧ PyData.canLayAll0 y = true ∧ PyData.depthAll x ≤ k ∧ PyData.depthAll y ≤ k ∧ (PyData.eqvAll x y = true ↔ a = b)
theorem pl_list {k : Nat} (ih : ∀ a b, Pl k a → Pl k b → PlF k a b) : ∀ (xs ys : List D), (∀ x ∈ xs, Pl k x) → (∀ x ∈ ys, Pl k x) → PlFs k xs ys
  | [], [], _, _ => ⟨[], [], by simp [D.toPys], by simp [D.toPys], by simp [PyData.canLayAll0], by simp [PyData.canLayAll0], by simp [PyData.depthAll], by simp [PyData.depthAll], by simp [PyData.eqvAll]⟩
  | x :: xs, [], hx, hy => by
    obtain ⟨a, b, e1, e2, c1, c2, d1, d2, _⟩ := ih x x (hx x (List.mem_cons_self ..)) (hx x (List.mem_cons_self ..))
    obtain ⟨a', b', e1', e2', c1', c2', d1', d2', _⟩ := pl_list ih xs [] (fun z hz => hx z (List.mem_cons_of_mem _ hz)) (fun z hz => by cases hz)
    refine ⟨a :: a', [], by simp [D.toPys, e1, e1'], by simp [D.toPys], by simp [PyData.canLayAll0, c1, c1'], by simp [PyData.canLayAll0], ?_, by simp [PyData.depthAll], by simp [PyData.eqvAll]⟩
    unfold PyData.depthAll; exact Nat.max_le.mpr ⟨d1, d1'⟩
  | [], y :: ys, hx, hy => by
    obtain ⟨a, b, e1, e2, c1, c2, d1, d2, _⟩ := ih y y (hy y (List.mem_cons_self ..)) (hy y (List.mem_cons_self ..))
    obtain ⟨a', b', e1', e2', c1', c2', d1', d2', _⟩ := pl_list ih [] ys (fun z hz => by cases hz) (fun z hz => hy z (List.mem_cons_of_mem _ hz))
    refine ⟨[], a :: b', by simp [D.toPys], by simp [D.toPys, e1, e2'], by simp [PyData.canLayAll0], by simp [PyData.canLayAll0, c1, c2'], by simp [PyData.depthAll], ?_, by simp [PyData.eqvAll]⟩
    unfold PyData.depthAll; exact Nat.max_le.mpr ⟨d1, d2'⟩
  | x :: xs, y :: ys, hx, hy => by
    obtain ⟨a, b, e1, e2, c1, c2, d1, d2, f⟩ := ih x y (hx x (List.mem_cons_self ..)) (hy y (List.mem_cons_self ..))
    obtain ⟨a', b', e1', e2', c1', c2', d1', d2', f'⟩ := pl_list ih xs ys (fun z hz => hx z (List.mem_cons_of_mem _ hz)) (fun z hz => hy z (List.mem_cons_of_mem _ hz))
    refine ⟨a :: a', b :: b', by simp [D.toPys, e1, e1'], by simp [D.toPys, e2, e2'], by simp [PyData.canLayAll0, c1, c1'], by simp [PyData.canLayAll0, c2, c2'], ?_, ?_, ?_⟩
    · unfold PyData.depthAll; exact Nat.max_le.mpr ⟨d1, d1'⟩
    · unfold PyData.depthAll; exact Nat.max_le.mpr ⟨d2, d2'⟩
    · unfold PyData.eqvAll
      rw [Bool.and_eq_true, f, f']
      simp
theorem pl_tup {k : Nat} {xs : List D} : Pl k (.tup xs) → ∃ j, k = j + 1 ∧ ∀ x ∈ xs, Pl j x
  | .tup h => ⟨_, rfl, h⟩
theorem pl_lst {k : Nat} {xs : List D} : Pl k (.lst xs) → ∃ j, k = j + 1 ∧ ∀ x ∈ xs, Pl j x
  | .lst h => ⟨_, rfl, h⟩
/-- one value alone -/
theorem pl_self {k : Nat} (ih : ∀ a b, Pl k a → Pl k b → PlF k a b) {xs : List D} (h : ∀ x ∈ xs, Pl k x) : ∃ ys, D.toPys xs = some ys ∧ PyData.canLayAll0 ys = true ∧ PyData.depthAll ys ≤ k := by
  obtain ⟨a, b, e1, _, c1, _, d1, _⟩ := pl_list ih xs [] h (fun z hz => by cases hz)
  exact ⟨a, e1, c1, d1⟩
theorem pl_one : ∀ (k : Nat) (a : D), (∀ j, j < k → ∀ a b, Pl j a → Pl j b → PlF j a b) → Pl k a → ∃ x, a.toPy = some x ∧ x.canLay0 = true ∧ x.depth ≤ k ∧ (match a with
    | .int i => x = .int i
    | .non => x = .none
    | .tup xs => ∃ ys, x = .tuple ys ∧ D.toPys xs = some ys
    | .lst xs => ∃ ys, x = .list ys ∧ D.toPys xs = some ys
    | _ => False)
  | k, .int i, _, _ => ⟨.int i, by simp [D.toPy], by simp [PyData.canLay0], by simp [PyData.depth], rfl⟩
  | k, .non, _, _ => ⟨.none, by simp [D.toPy], by simp [PyData.canLay0], by simp [PyData.depth], rfl⟩
  | k, .tup xs, ih, h => by
    obtain ⟨j, rfl, hx⟩ := pl_tup h
    obtain ⟨ys, e, c, d⟩ := pl_self (ih j (Nat.lt_succ_self j)) hx
    exact ⟨.tuple ys, by simp [D.toPy, e], by simp [PyData.canLay0, c], by simp [PyData.depth]; exact d, ys, rfl, e⟩
  | k, .lst xs, ih, h => by
    obtain ⟨j, rfl, hx⟩ := pl_lst h
    obtain ⟨ys, e, c, d⟩ := pl_self (ih j (Nat.lt_succ_self j)) hx
    exact ⟨.list ys, by simp [D.toPy, e], by simp [PyData.canLay0, c], by simp [PyData.depth]; exact d, ys, rfl, e⟩
  | k, .bl b, _, h => by cases h
  | k, .str b, _, h => by cases h
  | k, .ins b c, _, h => by cases h
  | k, .dct b c, _, h => by cases h
  | k, .pen, _, h => by cases h
  | k, .clo b, _, h => by cases h
theorem plF_all : ∀ (k : Nat) (a b : D), Pl k a → Pl k b → PlF k a b := by
  intro k
  induction k using Nat.strongRecOn with
  | _ k ih =>
    intro a b ha hb
    obtain ⟨x, e1, c1, d1, m1⟩ := pl_one k a (fun j hj => ih j hj) ha
    obtain ⟨y, e2, c2, d2, m2⟩ := pl_one k b (fun j hj => ih j hj) hb
    refine ⟨x, y, e1, e2, c1, c2, d1, d2, ?_⟩
    have go : ∀ (xs ys : List D) (xs' ys' : List PyData), D.toPys xs = some xs' → D.toPys ys = some ys' → (∃ j, j < k ∧ (∀ z ∈ xs, Pl j z) ∧ (∀ z ∈ ys, Pl j z)) → (PyData.eqvAll xs' ys' = true ↔ xs = ys) := by
      rintro xs ys xs' ys' g1 g2 ⟨j, hj, z1, z2⟩
      obtain ⟨a', b', g3, g4, _, _, _, _, f⟩ := pl_list (ih j hj) xs ys z1 z2
      rw [g1] at g3
      rw [g2] at g4
      cases g3; cases g4
      exact f
    cases a with
    | int i => cases b with
      | int j => cases m1; cases m2; simp [PyData.eqv]
      | non => cases m1; cases m2; simp [PyData.eqv]
      | tup xs => cases m1; obtain ⟨ys, rfl, _⟩ := m2; simp [PyData.eqv]
      | lst xs => cases m1; obtain ⟨ys, rfl, _⟩ := m2; simp [PyData.eqv]
      | _ => cases hb
    | non => cases b with
      | int j => cases m1; cases m2; simp [PyData.eqv]
      | non => cases m1; cases m2; simp [PyData.eqv]
      | tup xs => cases m1; obtain ⟨ys, rfl, _⟩ := m2; simp [PyData.eqv]
      | lst xs => cases m1; obtain ⟨ys, rfl, _⟩ := m2; simp [PyData.eqv]
      | _ => cases hb
    | tup xs =>
      obtain ⟨xs', rfl, g1⟩ := m1
      cases b with
      | int j => cases m2; simp [PyData.eqv]
      | non => cases m2; simp [PyData.eqv]
      | tup ys =>
        obtain ⟨ys', rfl, g2⟩ := m2
        obtain ⟨j, rfl, z1⟩ := pl_tup ha
        obtain ⟨j', e', z2⟩ := pl_tup hb
        cases e'
        have := go xs ys xs' ys' g1 g2 ⟨j, Nat.lt_succ_self j, z1, z2⟩
        simp only [PyData.eqv, this, D.tup.injEq]
      | lst ys => obtain ⟨ys', rfl, g2⟩ := m2; simp [PyData.eqv]
      | _ => cases hb
    | lst xs =>
      obtain ⟨xs', rfl, g1⟩ := m1
      cases b with
      | int j => cases m2; simp [PyData.eqv]
      | non => cases m2; simp [PyData.eqv]
      | lst ys =>
        obtain ⟨ys', rfl, g2⟩ := m2
        obtain ⟨j, rfl, z1⟩ := pl_lst ha
        obtain ⟨j', e', z2⟩ := pl_lst hb
        cases e'
        have := go xs ys xs' ys' g1 g2 ⟨j, Nat.lt_succ_self j, z1, z2⟩
        simp only [PyData.eqv, this, D.lst.injEq]
      | tup ys => obtain ⟨ys', rfl, g2⟩ := m2; simp [PyData.eqv]
      | _ => cases hb
    | _ => cases ha
theorem Pl.mono {j k : Nat} {d : D} (h : Pl j d) : j ≤ k → Pl k d := by
  induction h generalizing k with
  | int => intro _; exact .int
  | non => intro _; exact .non
  | tup _ ih => intro hk; obtain ⟨m, rfl⟩ : ∃ m, k = m + 1 := ⟨k - 1, by omega⟩; exact .tup fun x hx => ih x hx (by omega)
  | lst _ ih => intro hk; obtain ⟨m, rfl⟩ : ∃ m, k = m + 1 := ⟨k - 1, by omega⟩; exact .lst fun x hx => ih x hx (by omega)
theorem eqv_pl {a b : D} (ha : Pl 64 a) (hb : Pl 64 b) : ∃ c, D.eqv a b = some c ∧ (c = true ↔ a = b) := by
  obtain ⟨x, y, e1, e2, c1, c2, d1, d2, f⟩ := plF_all 64 a b ha hb
  refine ⟨PyData.eqv x y, ?_, f⟩
  unfold D.eqv
  rw [e1, e2]
  show (if _ then _ else _) = _
  rw [if_pos]
  unfold SeqAt.shaped
  rw [c1, c2, decide_eq_true d1, decide_eq_true d2]; rfl
theorem eqP_t {a : D} (ha : Pl 64 a) : opCmp .eq a a = some true := by
  obtain ⟨c, e, f⟩ := eqv_pl ha ha
  rw [f.mpr rfl] at e; exact e
theorem eqP_f {a b : D} (ha : Pl 64 a) (hb : Pl 64 b) (h : a ≠ b) : opCmp .eq a b = some false := by
  obtain ⟨c, e, f⟩ := eqv_pl ha hb
  cases c with
  | true => exact absurd (f.mp rfl) h
  | false => exact e
theorem neP_t {a : D} (ha : Pl 64 a) : opCmp .ne a a = some false := by
  show (D.eqv a a).map _ = _
  rw [show D.eqv a a = some true from eqP_t ha]; rfl
theorem neP_f {a b : D} (ha : Pl 64 a) (hb : Pl 64 b) (h : a ≠ b) : opCmp .ne a b = some true := by
  show (D.eqv a b).map _ = _
  rw [show D.eqv a b = some false from eqP_f ha hb h]; rfl
theorem mem_pl {x : D} (hx : Pl 63 x) : ∀ {ds : List D}, (∀ d ∈ ds, Pl 63 d) → ∃ c, memD x ds = some c ∧ (c = true ↔ x ∈ ds) := by
  intro ds hd
  have hx' := plF_all 63 x x hx hx
  obtain ⟨y, _, e1, _, c1, _, d1, _, _⟩ := hx'
  have : ∀ (ds : List D), (∀ d ∈ ds, Pl 63 d) → ∃ ys, D.toPys ds = some ys ∧ PyData.canLayAll0 ys = true ∧ PyData.depthAll ys ≤ 63 ∧ ((ys.any fun z => PyData.eqv z y) = true ↔ x ∈ ds) := by
    intro ds
    induction ds with
    | nil => intro _; exact ⟨[], by simp [D.toPys], by simp [PyData.canLayAll0], by simp [PyData.depthAll], by simp⟩
    | cons d ds ih =>
      intro h
      obtain ⟨ys, g1, g2, g3, g4⟩ := ih fun z hz => h z (List.mem_cons_of_mem _ hz)
      obtain ⟨z, y', k1, k2, k3, k4, k5, k6, k7⟩ := plF_all 63 d x (h d (List.mem_cons_self ..)) hx
      rw [e1] at k2
      cases k2
      refine ⟨z :: ys, by simp [D.toPys, k1, g1], by simp [PyData.canLayAll0, k3, g2], ?_, ?_⟩
      · unfold PyData.depthAll; exact Nat.max_le.mpr ⟨k5, g3⟩
      · simp only [List.any_cons, Bool.or_eq_true, g4, k7, List.mem_cons]
        constructor
        · rintro (rfl | h); exact .inl rfl; exact .inr h
        · rintro (rfl | h); exact .inl rfl; exact .inr h
  obtain ⟨ys, g1, g2, g3, g4⟩ := this ds hd
  refine ⟨ys.any fun z => PyData.eqv z y, ?_, g4⟩
  unfold memD
  rw [e1, g1]
  show (if _ then _ else _) = _
  rw [if_pos]
  have s1 : SeqAt.shaped y = true := by
    unfold SeqAt.shaped
    rw [c1, decide_eq_true (show y.depth ≤ 64 by omega)]; rfl
  have s2 : SeqAt.shaped (.list ys) = true := by
    unfold SeqAt.shaped
    have h1 : (PyData.list ys).canLay0 = true := by simp only [PyData.canLay0, g2]
    have h2 : (PyData.list ys).depth ≤ 64 := by simp only [PyData.depth]; omega
    rw [h1, decide_eq_true h2]; rfl
  rw [s1, s2]; rfl
section
variable {x : D} {ds : List D}
theorem inP (hx : Pl 63 x) (hd : ∀ d ∈ ds, Pl 63 d) {q : D} (hq : seqOf q = some ds) {b : Bool} (h : b = true ↔ x ∈ ds) : opCmp .in_ x q = some b ∧ opCmp .nin x q = some (!b) := by
  obtain ⟨c, e, f⟩ := mem_pl hx hd
  have : c = b := by
    cases c <;> cases b <;> simp_all
  subst this
  cases q with
  | tup xs => cases hq; exact ⟨e, by show (memD x ds).map _ = _; rw [e]; rfl⟩
  | lst xs => cases hq; exact ⟨e, by show (memD x ds).map _ = _; rw [e]; rfl⟩
  | _ => cases hq
end
theorem pl_hds {k : Nat} {H : List Nat} : ∀ d ∈ hds H, Pl k d := fun d hd => by
  obtain ⟨t, _, rfl⟩ := List.mem_map.mp hd
  exact .int
theorem mem_hds {t : Nat} {H : List Nat} : D.int (t : Int) ∈ hds H ↔ t ∈ H := by
  constructor
  · intro h
    obtain ⟨u, hu, e⟩ := List.mem_map.mp h
    injection e with e
    have : u = t := by exact_mod_cast e
    exact this ▸ hu
  · intro h; exact List.mem_map.mpr ⟨t, h, rfl⟩
/-- a number in a row of numbers -/
theorem nin_hds {t : Nat} {H : List Nat} {q : D} (hq : seqOf q = some (hds H)) : opCmp .nin (.int (t : Int)) q = some (!H.contains t) ∧ opCmp .in_ (.int (t : Int)) q = some (H.contains t) := by
  have h : H.contains t = true ↔ D.int (t : Int) ∈ hds H := by rw [mem_hds]; simp
  exact ⟨(inP .int pl_hds hq h).2, (inP .int pl_hds hq h).1⟩
/-- a list that is not empty -/
theorem ne_nil_hds {F : List Nat} : opCmp .ne (.lst (hds F)) (.lst []) = some (!F.isEmpty) := by
  cases F with
  | nil => exact neP_t (.lst (k := 63) fun x hx => by cases hx)
  | cons a F => exact neP_f (.lst (k := 63) pl_hds) (.lst (k := 63) fun x hx => by cases hx) (by simp [hds])
section
variable {C : Type} [i : Fd C]
theorem pl_enc (k : KindF C i) {x : C} {j : Nat} : Pl (j + 1) (Fd.enc x) := by
  cases k with
  | rat =>
    refine .tup fun d hd => ?_
    simp only [List.mem_cons, List.not_mem_nil, or_false] at hd
    rcases hd with rfl | rfl
    · exact .int
    · exact .int
  | f2 => exact .int
  | f3 => exact .int
  | f5 => exact .int
  | f7 => exact .int
theorem pl_encs (k : KindF C i) {r : List C} {j : Nat} : ∀ d ∈ encs r, Pl (j + 1) d := fun d hd => by
  obtain ⟨x, _, rfl⟩ := List.mem_map.mp hd
  exact pl_enc k
theorem pl_trows (k : KindF C i) {R : List (List C)} {j : Nat} : ∀ d ∈ trows R, Pl (j + 2) d := fun d hd => by
  obtain ⟨x, _, rfl⟩ := List.mem_map.mp hd
  exact .tup (pl_encs k)
theorem encs_inj : ∀ {a b : List C}, encs a = encs b → a = b
  | [], [], _ => rfl
  | [], _ :: _, h => by cases h
  | _ :: _, [], h => by cases h
  | x :: a, y :: b, h => by
    simp only [List.map_cons, List.cons.injEq] at h
    rw [Fd.inj h.1, encs_inj h.2]
theorem trows_inj : ∀ {a b : List (List C)}, trows a = trows b → a = b
  | [], [], _ => rfl
  | [], _ :: _, h => by cases h
  | _ :: _, [], h => by cases h
  | x :: a, y :: b, h => by
    simp only [List.map_cons, List.cons.injEq, D.tup.injEq] at h
    rw [encs_inj h.1, trows_inj h.2]
/-- what is shown of an item -/
theorem rc_enc (k : KindF C i) {n : Nat} {x : C} (h : Fd.Sz n x) (hn : n ≤ 1920) : RC 3849 1 (Fd.enc x) := by
  cases k with
  | rat => exact rc_qd h hn
  | f2 => exact (rc_int (sm_le (b := 7) (by have := x.isLt; omega) (by decide +kernel))).mono (by decide) (by decide)
  | f3 => exact (rc_int (sm_le (b := 7) (by have := x.isLt; omega) (by decide +kernel))).mono (by decide) (by decide)
  | f5 => exact (rc_int (sm_le (b := 7) (by have := x.isLt; omega) (by decide +kernel))).mono (by decide) (by decide)
  | f7 => exact (rc_int (sm_le (b := 7) (by have := x.isLt; omega) (by decide +kernel))).mono (by decide) (by decide)
theorem rc_row (k : KindF C i) {n : Nat} {r : List C} (h : RSz n r) (hn : n ≤ 1920) : RC (r.length * 3851 + 3) 2 (.tup (encs r)) := by
  have := rcs_all (n := 3849) (k := 1) (ds := encs r) fun d hd => by
    obtain ⟨x, hx, rfl⟩ := List.mem_map.mp hd
    exact rc_enc k (h x hx) hn
  rw [List.length_map] at this
  exact rc_tup this
theorem rc_rows (k : KindF C i) {n w : Nat} {R : List (List C)} (h : ∀ r ∈ R, RSz n r ∧ r.length ≤ w) (hn : n ≤ 1920) : RC (R.length * (w * 3851 + 5) + 3) 3 (.tup (trows R)) := by
  have := rcs_all (n := w * 3851 + 3) (k := 2) (ds := trows R) fun d hd => by
    obtain ⟨x, hx, rfl⟩ := List.mem_map.mp hd
    exact (rc_row k (h x hx).1 hn).mono (Nat.add_le_add_right (Nat.mul_le_mul_right _ (h x hx).2) _) (Nat.le_refl _)
  rw [List.length_map] at this
  exact rc_tup this
end
end DL
set_option maxHeartbeats 1000000
namespace DL
open PySem PySem.Spec PyProof.Rows

/-! ### rows and tables, as they may be passed -/
section
variable {C : Type} [i : Fd C]
theorem kind_fl (k : KindF C i) : Fd.fl C = 0 ∨ Fd.fl C = 2 ∨ Fd.fl C = 3 ∨ Fd.fl C = 5 ∨ Fd.fl C = 7 := by
  cases k with
  | rat => exact .inl rfl
  | f2 => exact .inr (.inl rfl)
  | f3 => exact .inr (.inr (.inl rfl))
  | f5 => exact .inr (.inr (.inr (.inl rfl)))
  | f7 => exact .inr (.inr (.inr (.inr rfl)))
theorem unit_set {w j : Nat} : (List.replicate w (0 : C)).set j 1 = unitN w j := by
  refine List.ext_getElem? fun n => ?_
  unfold unitN
  rw [List.getElem?_set, List.getElem?_map]
  by_cases h : n < w
  · rw [List.getElem?_range h]
    by_cases e : j = n
    · subst e; simp [h]
    · simp [e, Ne.symm e, h]
  · have e1 : (List.range w)[n]? = none := List.getElem?_eq_none (by simp; omega)
    have e2 : (List.replicate w (0 : C))[n]? = none := List.getElem?_eq_none (by simp; omega)
    rw [e1, e2]
    split
    · simp; omega
    · rfl
theorem encs_unit_set {w j : Nat} : (encs (List.replicate w (0 : C))).set j (Fd.enc (1 : C)) = encs (unitN w j : List C) := by
  rw [← unit_set]; simp [encs, List.map_set]
/-- a row as it may be passed -/
def Hrow (r : List C) (d : D) : Prop := ∃ L : List (C × D), L.map (·.1) = r ∧ (∀ q ∈ L, Fd.hd q.1 q.2) ∧ (d = .tup (L.map (·.2)) ∨ d = .lst (L.map (·.2)))
/-- a row with its items in a tuple -/
def Trow (r : List C) (d : D) : Prop := ∃ L : List (C × D), L.map (·.1) = r ∧ (∀ q ∈ L, Fd.hd q.1 q.2) ∧ d = .tup (L.map (·.2))
/-- a table as it may be passed -/
def Htab (R : List (List C)) (d : D) : Prop := ∃ L : List (List C × D), L.map (·.1) = R ∧ (∀ q ∈ L, Hrow q.1 q.2) ∧ (d = .tup (L.map (·.2)) ∨ d = .lst (L.map (·.2)))
def Ttab (R : List (List C)) (d : D) : Prop := ∃ L : List (List C × D), L.map (·.1) = R ∧ (∀ q ∈ L, Trow q.1 q.2) ∧ d = .tup (L.map (·.2))
theorem hd_enc (k : KindF C i) {n : Nat} {x : C} (h : Fd.Sz n x) (hn : n ≤ 4000) : Fd.hd x (Fd.enc x) := by
  cases k with
  | rat => exact .tup (den_pos x) (h.de.mono hn) (rat_self x)
  | f2 => exact rfl
  | f3 => exact rfl
  | f5 => exact rfl
  | f7 => exact rfl
theorem hrow_enc (k : KindF C i) {n : Nat} {r : List C} (h : RSz n r) (hn : n ≤ 4000) : Hrow r (.tup (encs r)) :=
  ⟨r.map fun x => (x, Fd.enc x), by simp [Function.comp_def], fun q hq => by
    obtain ⟨x, hx, rfl⟩ := List.mem_map.mp hq
    exact hd_enc k (h x hx) hn, .inl (by simp [encs, Function.comp_def])⟩
theorem htab_enc (k : KindF C i) {n : Nat} {R : List (List C)} (h : ∀ r ∈ R, RSz n r) (hn : n ≤ 4000) : Htab R (.tup (trows R)) :=
  ⟨R.map fun r => (r, .tup (encs r)), by simp [Function.comp_def], fun q hq => by
    obtain ⟨x, hx, rfl⟩ := List.mem_map.mp hq
    exact hrow_enc k (h x hx) hn, .inl (by simp [trows, Function.comp_def])⟩
end
theorem Hd.mono {m n : Nat} {q : Rat} {d : D} (h : Hd m q d) (k : m ≤ n) : Hd n q d := by
  cases h with
  | whole a b c => exact .whole a b c
  | tup a b c => exact .tup a (b.mono k) c
  | lst a b c => exact .lst a (b.mono k) c
theorem opAddT {a b : List D} (h : a.length + b.length ≤ 16777216) : opBin .add (.tup a) (.tup b) = some (.tup (a ++ b)) := by
  show (if a.length + b.length ≤ line then _ else _) = _
  rw [if_pos (show a.length + b.length ≤ line from h)]
theorem opMulT {x : D} {w : Nat} (h : w ≤ 1000) : opBin .mul (.tup [x]) (.int (w : Int)) = some (.tup (List.replicate w x)) := by
  show (if 0 ≤ (w : Int) ∧ (w : Int) ≤ 1000 ∧ [x].length ≤ 1000 ∧ [x] ≠ [] then some (D.tup (List.replicate (w : Int).toNat [x]).flatten) else none) = _
  rw [if_pos ⟨by omega, by omega, by simp, by simp⟩, Int.toNat_natCast]
  simp
theorem zip_snds {α : Type} {L L' : List (α × D)} (h : L'.length = L.length) : L.map (·.2) = (List.zip L L').map (fun t => t.1.2) ∧ L'.map (·.2) = (List.zip L L').map (fun t => t.2.2) := by
  constructor
  · rw [show (fun t : (α × D) × (α × D) => t.1.2) = (fun q : α × D => q.2) ∘ Prod.fst from rfl, ← List.map_map, List.map_fst_zip (by omega)]
  · rw [show (fun t : (α × D) × (α × D) => t.2.2) = (fun q : α × D => q.2) ∘ Prod.snd from rfl, ← List.map_map, List.map_snd_zip (by omega)]
end DL
set_option maxHeartbeats 1000000
namespace DL
open PySem PySem.Spec PyProof.Rows

section
variable {C : Type} [i : Fd C] {n m w : Nat} {d e : Fd.Cm C} {R : List (List C)}
theorem kerN_rl : Rl w (kerN R w) := redN_rl kerRows_rl
theorem heads_le {R : List (List C)} (h : Rl w R) : (headsN R w).length ≤ w ∧ (headsN R w).length ≤ R.length := ⟨(headsN_asc h).wide, by have := (headsN_asc h).tall; rw [rref_len] at this; exact this⟩
theorem kerN_in (hw : Rl w R) (ho : Fd.ok n d) (h : AllIn n d R) : ∃ e, Fd.ok (bt n w) e ∧ AllIn (bt n w) e (kerN R w) := by
  obtain ⟨e, h1, h2⟩ := kerRows_in (w := w) ho h
  obtain ⟨f, h3, h4⟩ := redN_in (w := w) h1 h2
  rw [bt_bt] at h3 h4
  have hl := kerRows_len hw
  have hh := (heads_le (kerRows_rl (R := R) (w := w))).2
  have hb : bt n ((headsN R w).length + (headsN (kerRows R w) w).length) ≤ bt n w := bt_mono (Nat.le_refl n) (by omega)
  exact ⟨f, Fd.ok_mono h3 hb, h4.mono hb⟩
theorem redN_in' (hw : Rl w R) (ho : Fd.ok n d) (h : AllIn n d R) : ∃ e, Fd.ok (bt n w) e ∧ AllIn (bt n w) e (redN R w) := by
  obtain ⟨f, h3, h4⟩ := redN_in (w := w) ho h
  have hb : bt n (headsN R w).length ≤ bt n w := bt_mono (Nat.le_refl n) (heads_le hw).1
  exact ⟨f, Fd.ok_mono h3 hb, h4.mono hb⟩
theorem augN_in {s : Nat} (hd : Fd.ok n d) (h : AllIn n d R) : AllIn n d (augN R s) := fun r hr x hx => by
  obtain ⟨k, _, rfl⟩ := List.mem_map.mp hr
  rcases List.mem_append.mp hx with hx | hx
  · exact rowAt_in h x hx
  · exact unit_in hd x hx
theorem invN_in {s : Nat} (hw : Rl s R) (hs : R.length = s) (hd : Fd.ok n d) (h : AllIn n d R) : ∃ e, Fd.ok (bt n s) e ∧ AllIn (bt n s) e (invN R s) := by
  obtain ⟨f, h3, h4⟩ := redN_in (w := s) hd (augN_in (s := s) hd h)
  have hle : (headsN (augN R s) s).length ≤ s := (red_rref (aug_rl hw hs) s (by omega)).wide
  have hb : bt n (headsN (augN R s) s).length ≤ bt n s := bt_mono (Nat.le_refl n) hle
  refine ⟨f, Fd.ok_mono h3 hb, fun r hr x hx => ?_⟩
  obtain ⟨r', hr', rfl⟩ := List.mem_map.mp hr
  exact Fd.in_mono (h4 r' hr' x (List.mem_of_mem_drop hx)) hb
theorem invN_rl {s : Nat} (hw : Rl s R) (hs : R.length = s) : Rl s (invN R s) := fun r hr => by
  obtain ⟨r', hr', rfl⟩ := List.mem_map.mp hr
  have := rref_rl (aug_rl hw hs) s r' (List.mem_of_mem_take hr')
  rw [List.length_drop, this]; omega
theorem colsN_in {B : List (List C)} (h : AllIn n d B) : AllIn n d (colsN B w) := fun r hr x hx => by
  obtain ⟨t, _, rfl⟩ := List.mem_map.mp hr
  obtain ⟨q, hq, rfl⟩ := List.mem_map.mp hx
  exact in_getD (h q hq)
theorem prodN_in {A B : List (List C)} {L : Nat} (hd : Fd.ok n d) (he : Fd.ok m e) (hA : AllIn n d A) (hB : AllIn m e B) (hL : ∀ r ∈ A, r.length ≤ L) : AllIn (n + m + L) (Fd.cmul d e) (prodN A B w) := fun r hr x hx => by
  obtain ⟨a, ha, rfl⟩ := List.mem_map.mp hr
  obtain ⟨c, hc, rfl⟩ := List.mem_map.mp hx
  exact Fd.in_mono (dot_in hd he (hA a ha) (colsN_in hB c hc)) (by have := hL a ha; omega)
theorem prodN_rl {A B : List (List C)} : Rl w (prodN A B w) := fun r hr => by
  obtain ⟨a, ha, rfl⟩ := List.mem_map.mp hr
  simp [colsN]
theorem allin_sz (ho : Fd.ok n d) (h : AllIn n d R) : ∀ r ∈ R, RSz n r := fun r hr x hx => Fd.in_sz ho (h r hr x hx)
theorem rc_tab (k : KindF C i) (ho : Fd.ok n d) (h : AllIn n d R) (hw : Rl w R) (hn : n ≤ 1920) : RC (R.length * (w * 3851 + 5) + 3) 3 (.tup (trows R)) :=
  rc_rows k (fun r hr => ⟨allin_sz ho h r hr, Nat.le_of_eq (hw r hr)⟩) hn
end
theorem eqv_bl {a b : Bool} : D.eqv (.bl a) (.bl b) = some (a == b) := by
  cases a <;> cases b <;> rfl
theorem neB {a b : Bool} : opCmp .ne (.bl a) (.bl b) = some (!(a == b)) := by cases a <;> cases b <;> rfl
theorem eqB {a b : Bool} : opCmp .eq (.bl a) (.bl b) = some (a == b) := eqv_bl
theorem isT_tup {xs : List D} : isTy (.tup xs) .tuple = some true := rfl
theorem isT_non : isTy .non .tuple = some false := rfl
end DL
set_option maxHeartbeats 1000000
namespace DL
open PySem PySem.Spec PyProof.Rows

section
variable {C : Type} [i : Fd C]
/-! ### kernels -/
theorem dot_set : ∀ {u row : List C} {h : Nat} {x : C}, h < row.length → row.length = u.length → dot u (row.set h x) = dot u row + u.getD h 0 * (x - row.getD h 0)
  | [], [], h, x, hl, _ => by simp at hl
  | a :: u, b :: row, 0, x, _, _ => by simp only [List.set_cons_zero, dot, List.getD_cons_zero]; grind
  | a :: u, b :: row, h + 1, x, hl, hl2 => by
    have := dot_set (u := u) (row := row) (h := h) (x := x) (by simpa using hl) (by simpa using hl2)
    simp only [List.set_cons_succ, dot, List.getD_cons_succ, this]; grind
  | [], _ :: _, _, _, _, h => by simp at h
def sumL (u : List C) (f : Nat) : List (List C × Nat) → C
  | [] => 0
  | q :: L => u.getD q.2 0 * (0 - q.1.getD f 0) + sumL u f L
theorem getD_set {row : List C} {h k : Nat} {x : C} (n : h ≠ k) : (row.set h x).getD k 0 = row.getD k 0 := by
  rw [List.getD_eq_getElem?_getD, List.getD_eq_getElem?_getD, List.getElem?_set_ne n]
theorem dot_fold {u : List C} {f w : Nat} (hu : u.length = w) : ∀ (L : List (List C × Nat)) (row : List C), row.length = w → (∀ q ∈ L, q.2 < w) → (L.map (·.2)).Nodup → (∀ q ∈ L, row.getD q.2 0 = 0) →
    dot u (L.foldl (fun row q => row.set q.2 (0 - q.1.getD f 0)) row) = dot u row + sumL u f L
  | [], row, _, _, _, _ => by simp only [List.foldl_nil, sumL]; grind
  | q :: L, row, hr, hw, hn, h0 => by
    have hq := hw q (List.mem_cons_self ..)
    have hn' := List.nodup_cons.mp (show (q.2 :: L.map (·.2)).Nodup from hn)
    rw [List.foldl_cons, dot_fold hu L _ (by rw [List.length_set]; exact hr) (fun p hp => hw p (List.mem_cons_of_mem _ hp)) hn'.2 (fun p hp => ?_), dot_set (by omega) (by omega), h0 q (List.mem_cons_self ..)]
    · simp only [sumL]; grind
    · rw [getD_set]
      · exact h0 p (List.mem_cons_of_mem _ hp)
      · intro e
        exact hn'.1 (e ▸ List.mem_map.mpr ⟨p, hp, rfl⟩)
/-- a reduced table without rows of 0 -/
structure Redu (w : Nat) (T : List (List C)) (H : List Nat) : Prop where
  rl : Rl w T
  len : T.length = H.length
  lt : ∀ k, k < H.length → H.getD k 0 < w
  asc : ∀ k l, k < l → l < H.length → H.getD k 0 < H.getD l 0
  one : ∀ k, k < H.length → ∀ n, n < H.length → ent T n (H.getD k 0) = if n = k then 1 else 0
  left : ∀ k, k < H.length → ∀ c, c < H.getD k 0 → ent T k c = 0
theorem rowAt_take {T : List (List C)} {n k : Nat} (h : k < n) : rowAt (T.take n) k = rowAt T k := by
  unfold rowAt
  rw [List.getD_eq_getElem?_getD, List.getD_eq_getElem?_getD, List.getElem?_take, if_pos h]
theorem redu_of {w : Nat} {R : List (List C)} (h : Rl w R) : Redu w (redN R w) (headsN R w) := by
  have hR := headsN_asc h
  have e : ∀ k c, k < (headsN R w).length → ent (redN R w) k c = ent (rrefN R w).1 k c := fun k c hk => by
    unfold ent redN; rw [rowAt_take (show k < (rrefN R w).2.length from hk)]
  refine ⟨redN_rl h, redN_len h, hR.lt, hR.asc, fun k hk n hn => ?_, fun k hk c hc => ?_⟩
  · rw [e n _ hn]; exact hR.one k hk n (Nat.lt_of_lt_of_le hn hR.tall)
  · rw [e k c hk]; exact hR.left k hk c hc
section
variable {w : Nat} {T : List (List C)} {H : List Nat}
theorem Redu.nd (h : Redu w T H) : H.Nodup := by
  rw [List.nodup_iff_pairwise_ne, List.pairwise_iff_getElem]
  intro i j hi hj hij
  have := h.asc i j hij hj
  rw [List.getD_eq_getElem?_getD, List.getD_eq_getElem?_getD, List.getElem?_eq_getElem hi, List.getElem?_eq_getElem hj] at this
  exact Nat.ne_of_lt this
theorem zip_snd_nd (h : Redu w T H) : ((List.zip T H).map (·.2)).Nodup := by
  have : (List.zip T H).map (·.2) = H := by
    show (List.zip T H).map Prod.snd = H
    exact List.map_snd_zip (by rw [h.len]; exact Nat.le_refl _)
  rw [this]; exact h.nd
theorem mem_heads (h : Redu w T H) {x : Nat} (hx : x ∈ H) : ∃ k, k < H.length ∧ H.getD k 0 = x := by
  obtain ⟨k, hk, e⟩ := List.getElem_of_mem hx
  exact ⟨k, hk, by rw [List.getD_eq_getElem?_getD, List.getElem?_eq_getElem hk]; exact e⟩
theorem dot_kerRow (h : Redu w T H) {u : List C} {f : Nat} (hu : u.length = w) (hf : f < w) (hn : f ∉ H) : dot u (kerRow T H w f) = u.getD f 0 + sumL u f (List.zip T H) := by
  unfold kerRow
  rw [dot_fold (w := w) hu (List.zip T H) _ unit_len (fun q hq => ?_) (zip_snd_nd h) (fun q hq => ?_), dot_comm, dot_unit hu hf]
  · have := (List.of_mem_zip hq).2
    obtain ⟨k, hk, e⟩ := mem_heads h this
    rw [← e]; exact h.lt k hk
  · have := (List.of_mem_zip hq).2
    obtain ⟨k, hk, e⟩ := mem_heads h this
    rw [unit_get (by rw [← e]; exact h.lt k hk), if_neg]
    intro z; exact hn (z ▸ this)
theorem sumL_zero {u : List C} {f : Nat} : ∀ {L : List (List C × Nat)}, (∀ q ∈ L, u.getD q.2 0 = 0 ∨ q.1.getD f 0 = 0) → sumL u f L = 0
  | [], _ => rfl
  | q :: L, h => by
    have := sumL_zero (u := u) (f := f) (L := L) fun p hp => h p (List.mem_cons_of_mem _ hp)
    rcases h q (List.mem_cons_self ..) with z | z
    · simp only [sumL, this, z]; grind
    · simp only [sumL, this, z]; grind
theorem zip_mem (h : Redu w T H) {q : List C × Nat} (hq : q ∈ List.zip T H) : ∃ k, k < H.length ∧ q = (rowAt T k, H.getD k 0) := by
  obtain ⟨k, hk, e⟩ := List.getElem_of_mem hq
  have hk' : k < T.length ∧ k < H.length := by have := hk; rw [List.length_zip] at this; omega
  refine ⟨k, hk'.2, ?_⟩
  rw [← e, List.getElem_zip]
  unfold rowAt
  rw [List.getD_eq_getElem?_getD, List.getD_eq_getElem?_getD, List.getElem?_eq_getElem hk'.1, List.getElem?_eq_getElem hk'.2]; rfl
theorem sumL_one {u : List C} {f l : Nat} : ∀ {L : List (List C × Nat)}, l < L.length → (∀ k, k < L.length → u.getD (L.getD k ([], 0)).2 0 = if k = l then 1 else 0) → sumL u f L = 0 - (L.getD l ([], 0)).1.getD f 0
  | [], hl, _ => by simp at hl
  | q :: L, hl, h => by
    cases l with
    | zero =>
      have h0 := h 0 (by simp)
      simp only [List.getD_cons_zero, if_true] at h0
      have : sumL u f L = 0 := sumL_zero fun p hp => by
        obtain ⟨k, hk, e⟩ := List.getElem_of_mem hp
        have := h (k + 1) (by simpa using hk)
        have e2 : L.getD k ([], 0) = p := by rw [List.getD_eq_getElem?_getD, List.getElem?_eq_getElem hk]; exact e
        rw [if_neg (by omega), List.getD_cons_succ, e2] at this
        exact .inl this
      simp only [sumL, this, h0, List.getD_cons_zero]; grind
    | succ l =>
      have h0 := h 0 (by simp)
      rw [if_neg (by omega), List.getD_cons_zero] at h0
      have := sumL_one (u := u) (f := f) (l := l) (L := L) (by simpa using hl) fun k hk => by
        have := h (k + 1) (by simpa using hk)
        rw [List.getD_cons_succ] at this
        rw [this]
        by_cases e : k = l
        · rw [if_pos e, if_pos (by omega)]
        · rw [if_neg e, if_neg (by omega)]
      simp only [sumL, this, h0, List.getD_cons_succ]; grind
theorem zip_getD (h : Redu w T H) {k : Nat} (hk : k < H.length) : (List.zip T H).getD k ([], 0) = (rowAt T k, H.getD k 0) := by
  have hk' : k < T.length := by rw [h.len]; exact hk
  rw [List.getD_eq_getElem?_getD, List.getElem?_eq_getElem (by simp; omega), Option.getD_some, List.getElem_zip]
  unfold rowAt
  rw [List.getD_eq_getElem?_getD, List.getD_eq_getElem?_getD, List.getElem?_eq_getElem hk', List.getElem?_eq_getElem hk]; rfl
/-- the rows of the kernel -/
theorem kerRow_ker (h : Redu w T H) {f : Nat} (hf : f < w) (hn : f ∉ H) : Ker T (kerRow T H w f) := fun l hl => by
  have hl' : l < H.length := by rw [← h.len]; exact hl
  rw [dot_kerRow h (rl_at h.rl hl) hf hn, sumL_one (l := l) (by simp; omega) (fun k hk => ?_), zip_getD h hl']
  · show (rowAt T l).getD f 0 + (0 - (rowAt T l).getD f 0) = 0
    grind
  · have hk' : k < H.length := by have := hk; rw [List.length_zip] at this; omega
    rw [zip_getD h hk']
    have := h.one k hk' l hl'
    show ent T l (H.getD k 0) = _
    rw [this]
    by_cases e : l = k
    · rw [if_pos e, if_pos e.symm]
    · rw [if_neg e, if_neg (fun z => e z.symm)]
/-- what goes to 0 with all of the kernel, and is 0 at the heads as far as they are not, is 0 -/
theorem zero_at (h : Redu w T H) {u : List C} (hu : u.length = w) (hk : ∀ z, z.length = w → Ker T z → dot u z = 0) {f : Nat} (hf : f < w) (hn : f ∉ H) (h0 : ∀ k, k < H.length → u.getD (H.getD k 0) 0 = 0 ∨ ent T k f = 0) : u.getD f 0 = 0 := by
  have h1 := hk _ kerRow_len (kerRow_ker h hf hn)
  rw [dot_kerRow h hu hf hn, sumL_zero (fun q hq => ?_)] at h1
  · have : u.getD f 0 + 0 = u.getD f 0 := by grind
    rw [this] at h1; exact h1
  · obtain ⟨k, hk', rfl⟩ := zip_mem h hq
    exact h0 k hk'
/-! ### a reduced table, and rows that come of it, reduced once more -/
def clN (T : List (List C)) (H : List Nat) (v : List C) : Nat → List C
  | 0 => v
  | t + 1 => clr (rowAt T t) (H.getD t 0) (clN T H v t)
theorem clN_len (h : Redu w T H) {v : List C} (hv : v.length = w) : ∀ t, t ≤ H.length → (clN T H v t).length = w
  | 0, _ => hv
  | t + 1, ht => by
    have := clN_len h hv t (by omega)
    unfold clN
    rw [clr_len (by rw [this, rl_at h.rl (by rw [h.len]; omega)]), this]
theorem clN_get (h : Redu w T H) {v : List C} (hv : v.length = w) {t c : Nat} (ht : t < H.length) : (clN T H v (t + 1)).getD c 0 = (clN T H v t).getD c 0 - (clN T H v t).getD (H.getD t 0) 0 * ent T t c := by
  rw [clN, clr_get (by rw [clN_len h hv t (by omega), rl_at h.rl (by rw [h.len]; omega)])]; rfl
theorem clN_head (h : Redu w T H) {v : List C} (hv : v.length = w) : ∀ t, t ≤ H.length → ∀ k, k < t → (clN T H v t).getD (H.getD k 0) 0 = 0
  | 0, _, k, hk => by omega
  | t + 1, ht, k, hk => by
    rw [clN_get h hv (by omega)]
    by_cases e : k = t
    · subst e
      rw [h.one k (by omega) k (by omega), if_pos rfl]; grind
    · rw [clN_head h hv t (by omega) k (by omega), h.one k (by omega) t (by omega), if_neg (fun z => e z.symm)]; grind
theorem clN_dot (h : Redu w T H) {v z : List C} (hv : v.length = w) (hz : Ker T z) : ∀ t, t ≤ H.length → dot (clN T H v t) z = dot v z
  | 0, _ => rfl
  | t + 1, ht => by
    have hl := clN_len h hv t (by omega)
    have hr := rl_at h.rl (k := t) (by rw [h.len]; omega)
    have h0 := hz t (by rw [h.len]; omega)
    unfold clN clr
    split
    · exact clN_dot h hv hz t (by omega)
    · rw [dot_sub (v := z) (by omega), h0, clN_dot h hv hz t (by omega)]; grind
/-- rows that come of the table -/
def Comes (T : List (List C)) (w : Nat) (v : List C) : Prop := v.length = w ∧ ∀ z, z.length = w → Ker T z → dot v z = 0
theorem clN_at (h : Redu w T H) {v : List C} (hv : Comes T w v) {t f : Nat} (ht : t ≤ H.length) (hf : f < w) (hn : f ∉ H) (hlt : ∀ k, t ≤ k → k < H.length → f < H.getD k 0) : (clN T H v t).getD f 0 = 0 := by
  refine zero_at h (clN_len h hv.1 t ht) (fun z hz k => by rw [clN_dot h hv.1 k t ht]; exact hv.2 z hz k) hf hn fun k hk => ?_
  by_cases e : k < t
  · exact .inl (clN_head h hv.1 t ht k e)
  · exact .inr (h.left k hk f (hlt k (by omega) hk))
end
theorem rowAt_app {A B : List (List C)} {k : Nat} : rowAt (A ++ B) k = if k < A.length then rowAt A k else rowAt B (k - A.length) := by
  unfold rowAt
  rw [List.getD_eq_getElem?_getD, List.getD_eq_getElem?_getD, List.getD_eq_getElem?_getD]
  split
  · rename_i h; rw [List.getElem?_append_left h]
  · rename_i h; rw [List.getElem?_append_right (by omega)]
theorem rows_ext {A B : List (List C)} (hl : A.length = B.length) (h : ∀ k, k < A.length → rowAt A k = rowAt B k) : A = B := by
  refine List.ext_getElem? fun k => ?_
  by_cases hk : k < A.length
  · rw [rowAt_get hk, rowAt_get (by omega), h k hk]
  · rw [List.getElem?_eq_none (by omega), List.getElem?_eq_none (by omega)]
theorem rowAt_map {A : List (List C)} {f : List C → List C} {k : Nat} (hk : k < A.length) : rowAt (A.map f) k = f (rowAt A k) := by
  unfold rowAt
  rw [List.getD_eq_getElem?_getD, List.getD_eq_getElem?_getD, List.getElem?_map, List.getElem?_eq_getElem hk]; rfl
section
variable {w : Nat} {T M : List (List C)} {H : List Nat}
theorem founds_first {S : List (List C)} {t c : Nat} (ht : t < S.length) (h : ent S t c ≠ 0) : ∃ r, founds S t c = t :: r := by
  unfold founds
  obtain ⟨m, hm⟩ : ∃ m, S.length - t = m + 1 := ⟨S.length - t - 1, by omega⟩
  rw [hm, List.range_succ_eq_map, List.map_cons, List.filter_cons, if_pos (by simpa using h)]
  exact ⟨_, rfl⟩
theorem map_one {r : List C} : r.map (· / (1 : C)) = r := by
  have : (fun x : C => x / 1) = id := by funext x; simp; grind
  rw [this, List.map_id]
theorem again_at (h : Redu w T H) (hM : ∀ v ∈ M, Comes T w v) : ∀ j, j ≤ w → ∃ t, t ≤ H.length ∧ (∀ k, k < t → H.getD k 0 < j) ∧ (∀ k, t ≤ k → k < H.length → j ≤ H.getD k 0) ∧ rrefN (T ++ M) j = (T ++ M.map (fun v => clN T H v t), H.take t)
  | 0, _ => ⟨0, Nat.zero_le _, fun k hk => by omega, fun k _ _ => Nat.zero_le _, by
    show (T ++ M, []) = _
    have : M.map (fun v => clN T H v 0) = M := by
      show M.map (fun v => v) = M
      exact List.map_id' M
    rw [this, List.take_zero]⟩
  | j + 1, hj => by
    obtain ⟨t, ht, h1, h2, e⟩ := again_at h hM j (by omega)
    show ∃ t, t ≤ H.length ∧ _ ∧ _ ∧ stepR (rrefN (T ++ M) j) j = _
    rw [e]
    have hMl : ∀ v ∈ M, v.length = w := fun v hv => (hM v hv).1
    have hS : Rl w (T ++ M.map (fun v => clN T H v t)) := fun r hr => by
      rcases List.mem_append.mp hr with hr | hr
      · exact h.rl r hr
      · obtain ⟨v, hv, rfl⟩ := List.mem_map.mp hr
        exact clN_len h (hMl v hv) t ht
    have htk : (H.take t).length = t := by rw [List.length_take]; omega
    have hSl : (T ++ M.map (fun v => clN T H v t)).length = H.length + M.length := by rw [List.length_append, List.length_map, h.len]
    by_cases hh : t < H.length ∧ H.getD t 0 = j
    · obtain ⟨htl, hj0⟩ := hh
      have e1 : ent (T ++ M.map (fun v => clN T H v t)) t j = 1 := by
        unfold ent
        rw [rowAt_app, if_pos (by rw [h.len]; exact htl), ← hj0]
        have := h.one t htl t htl
        rw [if_pos rfl] at this; exact this
      obtain ⟨r, hf⟩ := founds_first (S := T ++ M.map (fun v => clN T H v t)) (t := t) (c := j) (by omega) (by rw [e1]; grind)
      refine ⟨t + 1, htl, fun k hk => ?_, fun k hk hkl => ?_, ?_⟩
      · by_cases e : k = t
        · rw [e, hj0]; omega
        · have := h1 k (by omega); omega
      · have := h.asc t k (by omega) hkl; omega
      · rw [step_cons (k := t) (r := r) (by rw [htk]; exact hf), htk]
        have hp : pvt (T ++ M.map (fun v => clN T H v t)) t j = rowAt T t := by
          unfold pvt
          rw [e1, map_one, rowAt_app, if_pos (by rw [h.len]; exact htl)]
        congr 1
        · refine rows_ext (by rw [nxt_len, hSl, List.length_append, List.length_map, h.len]) fun k hk => ?_
          rw [nxt_len, hSl] at hk
          rw [nxt_row (by omega) (by omega) (by omega), hp, swp_row (by omega) (by omega) (by omega), rowAt_app (A := T) (B := M.map fun v => clN T H v (t + 1)), h.len]
          by_cases hkt : k = t
          · rw [if_pos hkt, if_pos (by omega), hkt]
          · rw [if_neg hkt, if_neg hkt, if_neg hkt, rowAt_app, h.len]
            by_cases hkr : k < H.length
            · rw [if_pos hkr, if_pos hkr]
              unfold clr
              rw [if_pos]
              have := h.one t htl k hkr
              rw [if_neg hkt, hj0] at this; exact this
            · rw [if_neg hkr, if_neg hkr, rowAt_map (by omega), rowAt_map (by omega)]
              rw [clN, hj0]
        · have : H[t]? = some j := by
            rw [List.getD_eq_getElem?_getD, List.getElem?_eq_getElem htl, Option.getD_some] at hj0
            rw [List.getElem?_eq_getElem htl, hj0]
          rw [List.take_succ, this]; rfl
    · have hgt : ∀ k, t ≤ k → k < H.length → j < H.getD k 0 := fun k hk hkl => by
        have a := h2 k hk hkl
        by_cases e : k = t
        · have : H.getD k 0 ≠ j := fun z => hh ⟨by omega, by rw [← e]; exact z⟩
          omega
        · have := h.asc t k (by omega) hkl
          have := h2 t (Nat.le_refl t) (by omega)
          omega
      have hn : j ∉ H := fun z => by
        obtain ⟨k, hk, e⟩ := mem_heads h z
        by_cases hkt : k < t
        · have := h1 k hkt; omega
        · have := hgt k (by omega) hk; omega
      have hf : founds (T ++ M.map (fun v => clN T H v t)) t j = [] := by
        refine List.eq_nil_iff_forall_not_mem.mpr fun k hk => ?_
        obtain ⟨k1, k2, k3⟩ := founds_mem.mp hk
        refine k3 ?_
        unfold ent
        rw [rowAt_app, h.len]
        split
        · exact h.left k (by assumption) j (hgt k k1 (by assumption))
        · rename_i hkr
          rw [rowAt_map (by omega)]
          exact clN_at h (hM _ (rowAt_mem (by omega))) ht (by omega) hn fun k hk hkl => hgt k hk hkl
      refine ⟨t, ht, fun k hk => by have := h1 k hk; omega, fun k hk hkl => hgt k hk hkl, ?_⟩
      rw [step_nil (by rw [htk]; exact hf)]
/-- reduced again, a table stays as it is -/
theorem again (h : Redu w T H) (hM : ∀ v ∈ M, Comes T w v) : redN (T ++ M) w = T ∧ headsN (T ++ M) w = H := by
  obtain ⟨t, ht, h1, h2, e⟩ := again_at h hM w (Nat.le_refl w)
  have hte : t = H.length := by
    rcases Nat.lt_or_ge t H.length with z | z
    · have := h2 t (Nat.le_refl t) z
      have := h.lt t z
      omega
    · omega
  subst hte
  unfold redN headsN
  rw [e]
  simp only [List.take_length]
  exact ⟨by rw [← h.len, List.take_left'] <;> rfl, trivial⟩
theorem clN_headv (h : Redu w T H) {v : List C} (hv : v.length = w) : ∀ t, t ≤ H.length → ∀ k, t ≤ k → k < H.length → (clN T H v t).getD (H.getD k 0) 0 = v.getD (H.getD k 0) 0
  | 0, _, k, _, _ => rfl
  | t + 1, ht, k, hk, hkl => by
    rw [clN_get h hv (by omega), clN_headv h hv t (by omega) k (by omega) hkl, h.one k hkl t (by omega), if_neg (by omega)]; grind
theorem clN_in {n m : Nat} {d e : Fd.Cm C} (h : Redu w T H) (hd : Fd.ok m d) (he : Fd.ok n e) (hT : AllIn n e T) {v : List C} (hv : v.length = w) (hi : ∀ x ∈ v, Fd.In m d x) : ∀ t, t ≤ H.length → ∀ c, Fd.In (m + n + t) (Fd.cmul d e) ((clN T H v t).getD c 0)
  | 0, _, c => by
    show Fd.In (m + n) (Fd.cmul d e) (v.getD c 0)
    exact Fd.in_l (in_getD hi) he
  | t + 1, ht, c => by
    rw [clN_get h hv (by omega), clN_headv h hv t (by omega) t (Nat.le_refl t) (by omega)]
    exact Fd.in_sub (clN_in h hd he hT hv hi t (by omega) c) (Fd.in_mono (Fd.in_mul (in_getD hi) (in_getD (rowAt_in hT))) (Nat.le_add_right _ _))
theorem mem_getD {r : List C} {x : C} (h : x ∈ r) : ∃ c, r.getD c 0 = x := by
  obtain ⟨c, hc, e⟩ := List.getElem_of_mem h
  exact ⟨c, by rw [List.getD_eq_getElem?_getD, List.getElem?_eq_getElem hc]; exact e⟩
theorem again_in {n m : Nat} {d e : Fd.Cm C} (h : Redu w T H) (hM : ∀ v ∈ M, Comes T w v) (hd : Fd.ok m d) (he : Fd.ok n e) (hT : AllIn n e T) (hi : AllIn m d M) : ∀ j, j ≤ w → AllIn (m + n + H.length) (Fd.cmul d e) (rrefN (T ++ M) j).1 := fun j hj r hr x hx => by
  obtain ⟨t, ht, h1, h2, e'⟩ := again_at h hM j hj
  rw [e'] at hr
  rcases List.mem_append.mp hr with hr | hr
  · exact Fd.in_mono (Fd.in_r hd (hT r hr x hx)) (by omega)
  · obtain ⟨v, hv, rfl⟩ := List.mem_map.mp hr
    obtain ⟨c, rfl⟩ := mem_getD hx
    exact Fd.in_mono (clN_in h hd he hT (hM v hv).1 (hi v hv) t ht c) (by omega)
/-- the rows that a table is made of come of what is left of it -/
theorem comes_red {R : List (List C)} (hR : Rl w R) {v : List C} (hv : v ∈ R) : Comes (redN R w) w v := by
  refine ⟨hR v hv, fun z hz hk => ?_⟩
  obtain ⟨k, hk', rfl⟩ := mem_row hv
  refine (ker_rref hR w).mp (fun l hl => ?_) k hk'
  have hRd := headsN_asc hR
  by_cases hlt : l < (headsN R w).length
  · have := hk l (by rw [redN_len hR]; exact hlt)
    unfold redN at this
    rwa [rowAt_take (show l < (rrefN R w).2.length from hlt)] at this
  · refine dot_zero fun c => ?_
    by_cases hc : c < w
    · exact hRd.low l (by omega) hl c hc
    · rw [List.getD_eq_getElem?_getD, List.getElem?_eq_none (by rw [rl_at (rref_rl hR w) hl]; omega)]; rfl
end
section
variable {n m : Nat}
/-- the numbers stay small while a table is reduced -/
def StepsOk (R : List (List C)) (w : Nat) : Prop := ∀ j, j < w → ∃ (n : Nat) (d : Fd.Cm C), Fd.ok n d ∧ AllIn n d (rrefN R j).1 ∧ ((rrefN R j).2.length < R.length → 4 * n + 3 ≤ 8999)
theorem steps_ok {R : List (List C)} {w : Nat} {d : Fd.Cm C} (hw : Rl w R) (hd : Fd.ok n d) (hin : AllIn n d R) (hn : bt n (w + 1) ≤ 8999) : StepsOk R w := fun j hj => by
  have hR := red_rref hw j (by omega)
  obtain ⟨e, h1, h2⟩ := rref_in (w := w) hd hin j
  have hwide := hR.wide
  refine ⟨_, e, h1, h2, fun ht => ?_⟩
  have : bt n ((rrefN R j).2.length + 2) ≤ bt n (w + 1) := bt_mono (Nat.le_refl n) (by omega)
  rw [bt_succ, bt_succ] at this
  omega
theorem again_ok {T M : List (List C)} {H : List Nat} {w : Nat} {d e : Fd.Cm C} (h : Redu w T H) (hM : ∀ v ∈ M, Comes T w v) (hd : Fd.ok m d) (he : Fd.ok n e) (hT : AllIn n e T) (hi : AllIn m d M) (hn : 4 * (m + n + H.length) + 3 ≤ 8999) : StepsOk (T ++ M) w := fun j hj =>
  ⟨_, Fd.cmul d e, Fd.ok_mono (Fd.ok_mul hd he) (Nat.le_add_right _ _), again_in h hM hd he hT hi j (by omega), fun _ => hn⟩
end
theorem dot_addm {y : C} : ∀ {a b u : List C}, a.length = b.length → dot ((List.zip a b).map fun q => q.1 + y * q.2) u = dot a u + y * dot b u
  | [], [], u, _ => by cases u <;> simp [dot] <;> grind
  | a :: as, b :: bs, [], _ => by simp [dot]; grind
  | a :: as, b :: bs, u :: us, h => by
    have ih := dot_addm (y := y) (a := as) (b := bs) (u := us) (by simpa using h)
    simp only [List.zip_cons_cons, List.map_cons, dot, ih]; grind
end
/-! ### own classes made -/
def inQ (T : Tb) (c : Nat) (sets : List (Nat × IE)) (Q : D → Pen → Prop) (E : Exc → Pen → Prop) : Fl → En → Pen → Prop := fun f ρ p => match f with
  | .nx => isMe ρ[0]? = true ∧ Wo (dSets T sets ρ p) (fun ds q => Q (.ins c ds) q) E
  | _ => False
@[irreducible] def kIns (c : Nat) (Q : D → Pen → Prop) : List D → Pen → Prop := fun ds q => Q (.ins c ds) q
theorem kIns_app {c : Nat} {Q : D → Pen → Prop} {ds : List D} {q : Pen} : kIns c Q ds q = Q (.ins c ds) q := by unfold kIns; rfl
theorem inQ_nx {T : Tb} {c : Nat} {sets : List (Nat × IE)} {Q : D → Pen → Prop} {E : Exc → Pen → Prop} {ρ : En} {p : Pen} : inQ T c sets Q E .nx (.me :: ρ) p = Wo (dSets T sets (.me :: ρ) p) (kIns c Q) E := by
  unfold inQ kIns
  exact propext ⟨fun h => h.2, fun h => ⟨rfl, h⟩⟩
theorem Wo_runN {T : Tb} {b : ISs} {c : Nat} {sets : List (Nat × IE)} {nl n : Nat} {ds : List D} {p : Pen} {Q : D → Pen → Prop} {E : Exc → Pen → Prop} (h : ds.length = n) (k : Ws (dSs T b (envN nl ds) p) (inQ T c sets Q E) E) : Wo (runN T b c sets nl n ds p) Q E := by
  unfold runN
  rw [if_pos h]
  unfold outN
  cases e : dSs T b (envN nl ds) p with
  | bad => rw [e] at k; exact k
  | err x q => rw [e] at k; exact k
  | ok f ρ q =>
    rw [e] at k
    cases f with
    | nx =>
      obtain ⟨h1, h2⟩ := k
      simp only
      rw [if_pos h1]
      show Wo ((dSets T sets ρ q).bind fun ds => M.pure (.ins c ds)) Q E
      rw [Wo_bind]
      refine h2.mono (fun ds q2 z => ?_) fun _ _ z => z
      rw [cO_app]; exact z
    | _ => exact k.elim
def kSets (T : Tb) (r : List (Nat × IE)) (ρ : En) : D → M (List D) := fun d p => (dSets T r ρ p).bind (kSets2 d)
  where kSets2 (d : D) : List D → M (List D) := fun ds => M.pure (d :: ds)
theorem sets_nil {T : Tb} {ρ : En} {p : Pen} : dSets T [] ρ p = .ok [] p := rfl
theorem sets_cons {T : Tb} {f : Nat} {e : IE} {r : List (Nat × IE)} {ρ : En} {p : Pen} : dSets T ((f, e) :: r) ρ p = (dM T false e ρ p).bind (kSets T r ρ) := rfl
theorem envN_eq {nl : Nat} {ds : List D} : envN nl ds = .me :: env0 (nl - 1) ds := rfl
theorem hds_sum {F : List Nat} : (F.map fun t : Nat => (t : Int)).sum = ((F.sum : Nat) : Int) := by
  induction F with
  | nil => rfl
  | cons a F ih => simp only [List.map_cons, List.sum_cons, ih]; omega
theorem sum_hds_l {F : List Nat} : opBlt .sum [.lst (hds F)] = some (.int ((F.sum : Nat) : Int)) := by rw [sum_lst, hds_sum]
theorem sum_hds_t {F : List Nat} : opBlt .sum [.tup (hds F)] = some (.int ((F.sum : Nat) : Int)) := by rw [sum_tup, hds_sum]
end DL
set_option maxHeartbeats 0
namespace LK
open PySem PySem.Spec PyProof.Rows L2 DL
def mkr : Nat → List D → M D := fun _ _ => M.bad
def sh : Sh := shOf S mkr
/-! ### the defs in the small language -/
def N_l_draw : List Str := ["pen", "many", "cell", "digit", "blend"]
def i_l_draw_4 : ISs := .cons (.ret (.bin .mod (.bin .fdiv (.blt .int (.cons (.bin .mod (.bin .pow (.var 4) (.int 29)) (.int 2305843009213693951)) .nil)) (.int 128)) (.var 1))) .nil
def i_l_draw_3 : ISs := .cons (.asg 4 (.bin .add (.bin .add (.pget 0 .fold) (.bin .mul (.pget 0 .count) (.int 7873))) (.int 71))) i_l_draw_4
def i_l_draw_2 : ISs := .cons (.ifS (.cmp .gt (.pget 0 .digits) (.int 0)) (.cons (.asg 3 (.bin .mod (.blt .int (.cons (.pget 0 .digits) .nil)) (.var 1))) (.cons (.pset 0 .digits (.bin .fdiv (.pget 0 .digits) (.var 1))) (.cons (.ret (.var 3)) .nil))) .nil) i_l_draw_3
def i_l_draw_1 : ISs := .cons (.ifS (.and (.cmp .eq (.pget 0 .digits) (.int 0)) (.cmp .lt (.pget 0 .at_) (.blt .len (.cons (.pget 0 .cells) .nil)))) (.cons (.asg 2 (.idx (.pget 0 .cells) (.pget 0 .at_))) (.cons (.pset 0 .at_ (.bin .add (.pget 0 .at_) (.int 1))) (.cons (.ifS (.cmp .ge (.var 2) (.bin .pow (.int 10) (.int 18))) (.cons (.pset 0 .digits (.bin .sub (.var 2) (.bin .pow (.int 10) (.int 18)))) .nil) (.cons (.pset 0 .fold (.bin .mod (.blt .int (.cons (.bin .add (.bin .mul (.pget 0 .fold) (.int 40993)) (.var 2)) .nil)) (.int 2147483477))) .nil)) .nil))) .nil) i_l_draw_2
def i_l_draw : ISs := .cons (.pset 0 .count (.bin .add (.pget 0 .count) (.int 1))) i_l_draw_1
def G_l_draw : Gt := []
theorem tf_l_draw : (tbOf G_l_draw sh).fn = [] := rfl
def m_l_draw : List D → M D := runF (tbOf G_l_draw sh) i_l_draw 5 2
def N_l_pick : List Str := ["pen", "some"]
def i_l_pick : ISs := .cons (.ret (.idx (.var 1) (.call 0 (.cons (.var 0) (.cons (.blt .len (.cons (.var 1) .nil)) .nil))))) .nil
def G_l_pick : Gt := [("_law_draw", 2, m_l_draw)]
theorem tf_l_pick : (tbOf G_l_pick sh).fn = [m_l_draw] := rfl
def m_l_pick : List D → M D := runF (tbOf G_l_pick sh) i_l_pick 2 2
def N_l_field : List Str := ["pen"]
def i_l_field : ISs := .cons (.ret (.call 0 (.cons (.var 0) (.cons (.frz (.disp (.cons (.int 0) (.cons (.int 2) (.cons (.int 2) (.cons (.int 3) (.cons (.int 5) (.cons (.int 7) .nil)))))))) .nil)))) .nil
def G_l_field : Gt := [("_law_pick", 2, m_l_pick)]
theorem tf_l_field : (tbOf G_l_field sh).fn = [m_l_pick] := rfl
def m_l_field : List D → M D := runF (tbOf G_l_field sh) i_l_field 1 1
def N_l_widths : List Str := ["pen", "many", "most", "total", "found", "k"]
def i_l_widths_b1 : ISs := .cons (.app 4 (.blt .min (.cons (.call 0 (.cons (.var 0) (.cons (.bin .add (.var 2) (.int 1)) .nil))) (.cons (.bin .sub (.var 3) (.blt .sum (.cons (.own 4) .nil))) .nil)))) .nil
def i_l_widths_2 : ISs := .cons (.ret (.blt .tuple (.cons (.own 4) .nil))) .nil
def i_l_widths_1 : ISs := .cons (.for_ (.n 5) (.rng1 (.var 1)) i_l_widths_b1) i_l_widths_2
def i_l_widths : ISs := .cons (.asgL 4 (.disp .nil)) i_l_widths_1
def G_l_widths : Gt := [("_law_draw", 2, m_l_draw)]
theorem tf_l_widths : (tbOf G_l_widths sh).fn = [m_l_draw] := rfl
def m_l_widths : List D → M D := runF (tbOf G_l_widths sh) i_l_widths 6 4
def N_l_gcd : List Str := ["one", "two", "lap"]
def i_l_gcd_b1_1 : ISs := .cons (.par [0, 1] (.cons (.var 1) (.cons (.bin .mod (.blt .int (.cons (.var 0) .nil)) (.var 1)) .nil))) .nil
def i_l_gcd_b1 : ISs := .cons (.ifS (.cmp .eq (.var 1) (.int 0)) (.cons .brk .nil) .nil) i_l_gcd_b1_1
def i_l_gcd_2 : ISs := .cons (.ret (.var 0)) .nil
def i_l_gcd_1 : ISs := .cons (.for_ (.n 2) (.rng1 (.bin .add (.int 4) (.bin .mul (.int 2) (.bits (.blt .int (.cons (.var 1) .nil)))))) i_l_gcd_b1) i_l_gcd_2
def i_l_gcd : ISs := .cons (.par [0, 1] (.cons (.blt .abs (.cons (.var 0) .nil)) (.cons (.blt .abs (.cons (.var 1) .nil)) .nil))) i_l_gcd_1
def G_l_gcd : Gt := []
theorem tf_l_gcd : (tbOf G_l_gcd sh).fn = [] := rfl
def m_l_gcd : List D → M D := runF (tbOf G_l_gcd sh) i_l_gcd 3 2
def N_l_q : List Str := ["top", "bottom", "by"]
def i_l_q_2 : ISs := .cons (.ret (.tup (.cons (.bin .fdiv (.var 0) (.var 2)) (.cons (.bin .fdiv (.var 1) (.var 2)) .nil)))) .nil
def i_l_q_1 : ISs := .cons (.asg 2 (.ifE (.cmp .lt (.var 1) (.int 0)) (.neg (.var 2)) (.var 2))) i_l_q_2
def i_l_q : ISs := .cons (.asg 2 (.call 0 (.cons (.var 0) (.cons (.var 1) .nil)))) i_l_q_1
def G_l_q : Gt := [("_law_gcd", 2, m_l_gcd)]
theorem tf_l_q : (tbOf G_l_q sh).fn = [m_l_gcd] := rfl
def m_l_q : List D → M D := runF (tbOf G_l_q sh) i_l_q 3 2
def N_l_number : List Str := ["pen", "most", "top"]
def i_l_number_1 : ISs := .cons (.ret (.call 1 (.cons (.var 2) (.cons (.call 2 (.cons (.var 0) (.cons (.frz (.disp (.cons (.int 1) (.cons (.int 1) (.cons (.int 1) (.cons (.int 2) (.cons (.int 3) .nil))))))) .nil))) .nil)))) .nil
def i_l_number : ISs := .cons (.asg 2 (.bin .sub (.call 0 (.cons (.var 0) (.cons (.bin .add (.bin .mul (.int 2) (.var 1)) (.int 1)) .nil))) (.var 1))) i_l_number_1
def G_l_number : Gt := [("_law_draw", 2, m_l_draw), ("_law_q", 2, m_l_q), ("_law_pick", 2, m_l_pick)]
theorem tf_l_number : (tbOf G_l_number sh).fn = [m_l_draw, m_l_q, m_l_pick] := rfl
def m_l_number : List D → M D := runF (tbOf G_l_number sh) i_l_number 3 2
def N_l_item : List Str := ["pen", "field"]
def i_l_item : ISs := .cons (.ret (.ifE (.cmp .eq (.var 1) (.int 0)) (.call 0 (.cons (.var 0) (.cons (.int 3) .nil))) (.call 1 (.cons (.var 0) (.cons (.var 1) .nil))))) .nil
def G_l_item : Gt := [("_law_number", 2, m_l_number), ("_law_draw", 2, m_l_draw)]
theorem tf_l_item : (tbOf G_l_item sh).fn = [m_l_number, m_l_draw] := rfl
def m_l_item : List D → M D := runF (tbOf G_l_item sh) i_l_item 2 2
def N_l_row : List Str := ["pen", "field", "long", "k"]
def i_l_row : ISs := .cons (.ret (.blt .tuple (.cons (.frz (.comp (.n 3) (.rng1 (.var 2)) .nil (.call 0 (.cons (.var 0) (.cons (.var 1) .nil))))) .nil))) .nil
def G_l_row : Gt := [("_law_item", 2, m_l_item)]
theorem tf_l_row : (tbOf G_l_row sh).fn = [m_l_item] := rfl
def m_l_row : List D → M D := runF (tbOf G_l_row sh) i_l_row 4 3
def N_l_table : List Str := ["pen", "field", "tall", "wide", "k"]
def i_l_table : ISs := .cons (.ret (.blt .tuple (.cons (.frz (.comp (.n 4) (.rng1 (.var 2)) .nil (.call 0 (.cons (.var 0) (.cons (.var 1) (.cons (.var 3) .nil)))))) .nil))) .nil
def G_l_table : Gt := [("_law_row", 3, m_l_row)]
theorem tf_l_table : (tbOf G_l_table sh).fn = [m_l_row] := rfl
def m_l_table : List D → M D := runF (tbOf G_l_table sh) i_l_table 5 4
def N_l_drawn_box : List Str := ["pen", "field", "widths", "rows"]
def i_l_drawn_box_2 : ISs := .cons (.ret (.tup (.cons (.var 2) (.cons (.var 3) .nil)))) .nil
def i_l_drawn_box_1 : ISs := .cons (.asg 3 (.call 2 (.cons (.var 0) (.cons (.var 1) (.cons (.call 1 (.cons (.var 0) (.cons (.bin .add (.blt .sum (.cons (.var 2) .nil)) (.int 2)) .nil))) (.cons (.blt .sum (.cons (.var 2) .nil)) .nil)))))) i_l_drawn_box_2
def i_l_drawn_box : ISs := .cons (.asg 2 (.call 0 (.cons (.var 0) (.cons (.call 1 (.cons (.var 0) (.cons (.int 5) .nil))) (.cons (.int 3) (.cons (.int 7) .nil)))))) i_l_drawn_box_1
def G_l_drawn_box : Gt := [("_law_widths", 4, m_l_widths), ("_law_draw", 2, m_l_draw), ("_law_table", 4, m_l_table)]
theorem tf_l_drawn_box : (tbOf G_l_drawn_box sh).fn = [m_l_widths, m_l_draw, m_l_table] := rfl
def m_l_drawn_box : List D → M D := runF (tbOf G_l_drawn_box sh) i_l_drawn_box 4 2
def N_is_whole : List Str := ["value"]
def i_is_whole : ISs := .cons (.ret (.and (.isi (.var 0) .int) (.not (.isi (.var 0) .bool)))) .nil
def G_is_whole : Gt := []
theorem tf_is_whole : (tbOf G_is_whole sh).fn = [] := rfl
def m_is_whole : List D → M D := runF (tbOf G_is_whole sh) i_is_whole 1 1
def N_need_field : List Str := ["field"]
def i_need_field : ISs := .cons (.ifS (.or (.not (.call 0 (.cons (.var 0) .nil))) (.cmp .nin (.var 0) (.con 0))) (.cons (.raise 0 (.cons (.str "field") (.cons (.var 0) .nil))) .nil) .nil) .nil
def G_need_field : Gt := [("is_whole", 1, m_is_whole)]
theorem tf_need_field : (tbOf G_need_field sh).fn = [m_is_whole] := rfl
def m_need_field : List D → M D := runF (tbOf G_need_field sh) i_need_field 1 1
def N_in_tuples : List Str := ["value", "item"]
def i_in_tuples_1 : ISs := .cons (.ret (.blt .tuple (.cons (.frz (.comp (.n 1) (.seq (.var 0)) .nil (.call 0 (.cons (.var 1) .nil)))) .nil))) .nil
def i_in_tuples : ISs := .cons (.ifS (.not (.isiT (.var 0) [.tuple, .list])) (.cons (.ret (.var 0)) .nil) .nil) i_in_tuples_1
def G_in_tuples (mm : List D → M D) : Gt := [("in_tuples", 1, mm)]
theorem tf_in_tuples (mm : List D → M D) : (tbOf (G_in_tuples mm) sh).fn = [mm] := rfl
def mr_in_tuples : Nat → List D → M D
  | 0 => fun _ => M.bad
  | k + 1 => runF (tbOf (G_in_tuples (mr_in_tuples k)) sh) i_in_tuples 2 1
def m_in_tuples : List D → M D := mr_in_tuples 8
def N_lowest : List Str := ["top", "bottom", "by"]
def i_lowest_1 : ISs := .cons (.ret (.tup (.cons (.bin .fdiv (.var 0) (.var 2)) (.cons (.bin .fdiv (.var 1) (.var 2)) .nil)))) .nil
def i_lowest : ISs := .cons (.asg 2 (.ifE (.cmp .gt (.var 1) (.int 0)) (.blt .gcd (.cons (.var 0) (.cons (.var 1) .nil))) (.neg (.blt .gcd (.cons (.var 0) (.cons (.var 1) .nil)))))) i_lowest_1
def G_lowest : Gt := []
theorem tf_lowest : (tbOf G_lowest sh).fn = [] := rfl
def m_lowest : List D → M D := runF (tbOf G_lowest sh) i_lowest 3 2
def N_parted : List Str := ["one", "other"]
def i_parted : ISs := .cons (.ret (.call 0 (.cons (.bin .mul (.idx (.var 0) (.int 0)) (.idx (.var 1) (.int 1))) (.cons (.bin .mul (.idx (.var 0) (.int 1)) (.idx (.var 1) (.int 0))) .nil)))) .nil
def G_parted : Gt := [("lowest", 2, m_lowest)]
theorem tf_parted : (tbOf G_parted sh).fn = [m_lowest] := rfl
def m_parted : List D → M D := runF (tbOf G_parted sh) i_parted 2 2
def N_over_items : List Str := ["field", "one", "other", "item"]
def i_over_items_1 : ISs := .cons (.ret (.idx (.frz (.comp (.n 3) (.rng1 (.var 0)) (.cons (.cmp .eq (.bin .mod (.bin .mul (.var 3) (.var 2)) (.var 0)) (.var 1)) .nil) (.var 3))) (.int 0))) .nil
def i_over_items : ISs := .cons (.ifS (.cmp .eq (.var 0) (.int 0)) (.cons (.ret (.call 0 (.cons (.var 1) (.cons (.var 2) .nil)))) .nil) .nil) i_over_items_1
def G_over_items : Gt := [("parted", 2, m_parted)]
theorem tf_over_items : (tbOf G_over_items sh).fn = [m_parted] := rfl
def m_over_items : List D → M D := runF (tbOf G_over_items sh) i_over_items 4 3
def N_is_nothing : List Str := ["field", "item"]
def i_is_nothing : ISs := .cons (.ret (.ifE (.cmp .eq (.var 0) (.int 0)) (.cmp .eq (.idx (.var 1) (.int 0)) (.int 0)) (.cmp .eq (.var 1) (.int 0)))) .nil
def G_is_nothing : Gt := []
theorem tf_is_nothing : (tbOf G_is_nothing sh).fn = [] := rfl
def m_is_nothing : List D → M D := runF (tbOf G_is_nothing sh) i_is_nothing 2 2
def N_lessened : List Str := ["one", "other"]
def i_lessened : ISs := .cons (.ret (.call 0 (.cons (.bin .sub (.bin .mul (.idx (.var 0) (.int 0)) (.idx (.var 1) (.int 1))) (.bin .mul (.idx (.var 1) (.int 0)) (.idx (.var 0) (.int 1)))) (.cons (.bin .mul (.idx (.var 0) (.int 1)) (.idx (.var 1) (.int 1))) .nil)))) .nil
def G_lessened : Gt := [("lowest", 2, m_lowest)]
theorem tf_lessened : (tbOf G_lessened sh).fn = [m_lowest] := rfl
def m_lessened : List D → M D := runF (tbOf G_lessened sh) i_lessened 2 2
def N_less_items : List Str := ["field", "one", "other"]
def i_less_items : ISs := .cons (.ret (.ifE (.cmp .eq (.var 0) (.int 0)) (.call 0 (.cons (.var 1) (.cons (.var 2) .nil))) (.bin .mod (.bin .sub (.var 1) (.var 2)) (.var 0)))) .nil
def G_less_items : Gt := [("lessened", 2, m_lessened)]
theorem tf_less_items : (tbOf G_less_items sh).fn = [m_lessened] := rfl
def m_less_items : List D → M D := runF (tbOf G_less_items sh) i_less_items 3 3
def N_scaled : List Str := ["one", "other"]
def i_scaled : ISs := .cons (.ret (.call 0 (.cons (.bin .mul (.idx (.var 0) (.int 0)) (.idx (.var 1) (.int 0))) (.cons (.bin .mul (.idx (.var 0) (.int 1)) (.idx (.var 1) (.int 1))) .nil)))) .nil
def G_scaled : Gt := [("lowest", 2, m_lowest)]
theorem tf_scaled : (tbOf G_scaled sh).fn = [m_lowest] := rfl
def m_scaled : List D → M D := runF (tbOf G_scaled sh) i_scaled 2 2
def N_times_items : List Str := ["field", "one", "other"]
def i_times_items : ISs := .cons (.ret (.ifE (.cmp .eq (.var 0) (.int 0)) (.call 0 (.cons (.var 1) (.cons (.var 2) .nil))) (.bin .mod (.bin .mul (.var 1) (.var 2)) (.var 0)))) .nil
def G_times_items : Gt := [("scaled", 2, m_scaled)]
theorem tf_times_items : (tbOf G_times_items sh).fn = [m_scaled] := rfl
def m_times_items : List D → M D := runF (tbOf G_times_items sh) i_times_items 3 3
def N_row_less : List Str := ["field", "row", "by", "other", "a", "b"]
def i_row_less_1 : ISs := .cons (.ret (.frz (.comp (.t [.n 4, .n 5]) (.zip2 (.var 1) (.var 3)) .nil (.call 1 (.cons (.var 0) (.cons (.var 4) (.cons (.call 2 (.cons (.var 0) (.cons (.var 2) (.cons (.var 5) .nil)))) .nil))))))) .nil
def i_row_less : ISs := .cons (.ifS (.call 0 (.cons (.var 0) (.cons (.var 2) .nil))) (.cons (.ret (.var 1)) .nil) .nil) i_row_less_1
def G_row_less : Gt := [("is_nothing", 2, m_is_nothing), ("less_items", 3, m_less_items), ("times_items", 3, m_times_items)]
theorem tf_row_less : (tbOf G_row_less sh).fn = [m_is_nothing, m_less_items, m_times_items] := rfl
def m_row_less : List D → M D := runF (tbOf G_row_less sh) i_row_less 6 4
def N_steps : List Str := ["field", "table", "wide", "rows", "heads", "row", "column", "tall", "found", "k", "head", "item"]
def i_steps_b1 : ISs := .cons (.ifS (.cmp .ne (.var 9) (.var 7)) (.cons (.stI 3 (.var 9) (.call 2 (.cons (.var 0) (.cons (.idx (.own 3) (.var 9)) (.cons (.idx (.idx (.own 3) (.var 9)) (.var 6)) (.cons (.idx (.own 3) (.var 7)) .nil)))))) .nil) .nil) .nil
def i_steps_b2_2 : ISs := .cons (.ifS (.cmp .gt (.blt .len (.cons (.own 8) .nil)) (.int 0)) (.cons (.stI2 3 (.var 7) (.idx (.own 8) (.int 0)) (.tup (.cons (.idx (.own 3) (.idx (.own 8) (.int 0))) (.cons (.idx (.own 3) (.var 7)) .nil)))) (.cons (.asg 10 (.idx (.idx (.own 3) (.var 7)) (.var 6))) (.cons (.stI 3 (.var 7) (.frz (.comp (.n 11) (.seq (.idx (.own 3) (.var 7))) .nil (.call 1 (.cons (.var 0) (.cons (.var 11) (.cons (.var 10) .nil))))))) (.cons (.for_ (.n 9) (.rng1 (.blt .len (.cons (.own 3) .nil))) i_steps_b1) (.cons (.app 4 (.var 6)) .nil))))) .nil) .nil
def i_steps_b2_1 : ISs := .cons (.asgL 8 (.comp (.n 9) (.rng2 (.var 7) (.blt .len (.cons (.own 3) .nil))) (.cons (.not (.call 0 (.cons (.var 0) (.cons (.idx (.idx (.own 3) (.var 9)) (.var 6)) .nil)))) .nil) (.var 9))) i_steps_b2_2
def i_steps_b2 : ISs := .cons (.asg 7 (.blt .len (.cons (.own 4) .nil))) i_steps_b2_1
def i_steps_2 : ISs := .cons (.ret (.tup (.cons (.blt .tuple (.cons (.frz (.comp (.n 5) (.seq (.slc (.own 3) .nil (.cons (.blt .len (.cons (.own 4) .nil)) .nil))) .nil (.blt .tuple (.cons (.var 5) .nil)))) .nil)) (.cons (.blt .tuple (.cons (.own 4) .nil)) .nil)))) .nil
def i_steps_1 : ISs := .cons (.for_ (.n 6) (.rng1 (.var 2)) i_steps_b2) i_steps_2
def i_steps : ISs := .cons (.parU [3, 4] [.l (.comp (.n 5) (.seq (.var 1)) .nil (.frz (.ofSeq (.var 5)))), .l (.disp .nil)]) i_steps_1
def G_steps : Gt := [("is_nothing", 2, m_is_nothing), ("over_items", 3, m_over_items), ("row_less", 4, m_row_less)]
theorem tf_steps : (tbOf G_steps sh).fn = [m_is_nothing, m_over_items, m_row_less] := rfl
def m_steps : List D → M D := runF (tbOf G_steps sh) i_steps 12 3
def N_reduced_of : List Str := ["field", "table", "wide"]
def i_reduced_of : ISs := .cons (.ret (.idx (.call 0 (.cons (.var 0) (.cons (.var 1) (.cons (.var 2) .nil)))) (.int 0))) .nil
def G_reduced_of : Gt := [("steps", 3, m_steps)]
theorem tf_reduced_of : (tbOf G_reduced_of sh).fn = [m_steps] := rfl
def m_reduced_of : List D → M D := runF (tbOf G_reduced_of sh) i_reduced_of 3 3
def N_are_ports : List Str := ["value", "item"]
def i_are_ports_1 : ISs := .cons (.ret (.and (.blt .all (.cons (.frz (.comp (.n 1) (.seq (.var 0)) .nil (.chain .le .le (.int 0) (.var 1) (.con 3)))) .nil)) (.cmp .le (.blt .sum (.cons (.var 0) .nil)) (.con 4)))) .nil
def i_are_ports : ISs := .cons (.ifS (.or (.not (.isi (.var 0) .tuple)) (.or (.cmp .gt (.blt .len (.cons (.var 0) .nil)) (.con 2)) (.not (.blt .all (.cons (.frz (.comp (.n 1) (.seq (.var 0)) .nil (.call 0 (.cons (.var 1) .nil)))) .nil))))) (.cons (.ret (.bl false)) .nil) .nil) i_are_ports_1
def G_are_ports : Gt := [("is_whole", 1, m_is_whole)]
theorem tf_are_ports : (tbOf G_are_ports sh).fn = [m_is_whole] := rfl
def m_are_ports : List D → M D := runF (tbOf G_are_ports sh) i_are_ports 2 1
def N_is_tuple_of : List Str := ["value", "many"]
def i_is_tuple_of : ISs := .cons (.ret (.and (.isi (.var 0) .tuple) (.cmp .eq (.blt .len (.cons (.var 0) .nil)) (.var 1)))) .nil
def G_is_tuple_of : Gt := []
theorem tf_is_tuple_of : (tbOf G_is_tuple_of sh).fn = [] := rfl
def m_is_tuple_of : List D → M D := runF (tbOf G_is_tuple_of sh) i_is_tuple_of 2 2
def N_is_pair : List Str := ["value"]
def i_is_pair_1 : ISs := .cons (.ret (.and (.call 0 (.cons (.idx (.var 0) (.int 0)) .nil)) (.and (.call 0 (.cons (.idx (.var 0) (.int 1)) .nil)) (.cmp .gt (.idx (.var 0) (.int 1)) (.int 0))))) .nil
def i_is_pair : ISs := .cons (.ifS (.or (.not (.isiT (.var 0) [.tuple, .list])) (.cmp .ne (.blt .len (.cons (.var 0) .nil)) (.int 2))) (.cons (.ret (.bl false)) .nil) .nil) i_is_pair_1
def G_is_pair : Gt := [("is_whole", 1, m_is_whole)]
theorem tf_is_pair : (tbOf G_is_pair sh).fn = [m_is_whole] := rfl
def m_is_pair : List D → M D := runF (tbOf G_is_pair sh) i_is_pair 1 1
def N_is_item : List Str := ["field", "value"]
def i_is_item_1 : ISs := .cons (.ret (.and (.call 0 (.cons (.var 1) .nil)) (.chain .le .lt (.int 0) (.var 1) (.var 0)))) .nil
def i_is_item : ISs := .cons (.ifS (.cmp .eq (.var 0) (.int 0)) (.cons (.ret (.or (.call 0 (.cons (.var 1) .nil)) (.call 1 (.cons (.var 1) .nil)))) .nil) .nil) i_is_item_1
def G_is_item : Gt := [("is_whole", 1, m_is_whole), ("is_pair", 1, m_is_pair)]
theorem tf_is_item : (tbOf G_is_item sh).fn = [m_is_whole, m_is_pair] := rfl
def m_is_item : List D → M D := runF (tbOf G_is_item sh) i_is_item 2 2
def N_is_row : List Str := ["field", "value", "long", "item"]
def i_is_row : ISs := .cons (.ret (.and (.call 0 (.cons (.var 1) (.cons (.var 2) .nil))) (.blt .all (.cons (.frz (.comp (.n 3) (.seq (.var 1)) .nil (.call 1 (.cons (.var 0) (.cons (.var 3) .nil))))) .nil)))) .nil
def G_is_row : Gt := [("is_tuple_of", 2, m_is_tuple_of), ("is_item", 2, m_is_item)]
theorem tf_is_row : (tbOf G_is_row sh).fn = [m_is_tuple_of, m_is_item] := rfl
def m_is_row : List D → M D := runF (tbOf G_is_row sh) i_is_row 4 3
def N_is_table : List Str := ["field", "value", "wide", "row"]
def i_is_table : ISs := .cons (.ret (.and (.isi (.var 1) .tuple) (.blt .all (.cons (.frz (.comp (.n 3) (.seq (.var 1)) .nil (.call 0 (.cons (.var 0) (.cons (.var 3) (.cons (.var 2) .nil)))))) .nil)))) .nil
def G_is_table : Gt := [("is_row", 3, m_is_row)]
theorem tf_is_table : (tbOf G_is_table sh).fn = [m_is_row] := rfl
def m_is_table : List D → M D := runF (tbOf G_is_table sh) i_is_table 4 3
def N_loose_row : List Str := ["field", "value", "item"]
def i_loose_row_1 : ISs := .cons (.ret (.blt .tuple (.cons (.frz (.comp (.n 2) (.seq (.var 1)) .nil (.call 0 (.cons (.var 2) .nil)))) .nil))) .nil
def i_loose_row : ISs := .cons (.ifS (.not (.isiT (.var 1) [.tuple, .list])) (.cons (.ret (.var 1)) .nil) .nil) i_loose_row_1
def G_loose_row : Gt := [("in_tuples", 1, m_in_tuples)]
theorem tf_loose_row : (tbOf G_loose_row sh).fn = [m_in_tuples] := rfl
def m_loose_row : List D → M D := runF (tbOf G_loose_row sh) i_loose_row 3 2
def N_told : List Str := ["ratio"]
def i_told_2 : ISs := .cons (.ret (.call 2 (.cons (.idx (.var 0) (.int 0)) (.cons (.idx (.var 0) (.int 1)) .nil)))) .nil
def i_told_1 : ISs := .cons (.ifS (.not (.call 1 (.cons (.var 0) .nil))) (.cons (.raise 2 (.cons (.var 0) .nil)) .nil) .nil) i_told_2
def i_told : ISs := .cons (.ifS (.call 0 (.cons (.var 0) .nil)) (.cons (.ret (.tup (.cons (.var 0) (.cons (.int 1) .nil)))) .nil) .nil) i_told_1
def G_told : Gt := [("is_whole", 1, m_is_whole), ("is_pair", 1, m_is_pair), ("lowest", 2, m_lowest)]
theorem tf_told : (tbOf G_told sh).fn = [m_is_whole, m_is_pair, m_lowest] := rfl
def m_told : List D → M D := runF (tbOf G_told sh) i_told 1 1
def N_item_of : List Str := ["field", "value"]
def i_item_of : ISs := .cons (.ret (.ifE (.cmp .eq (.var 0) (.int 0)) (.call 0 (.cons (.var 1) .nil)) (.var 1))) .nil
def G_item_of : Gt := [("told", 1, m_told)]
theorem tf_item_of : (tbOf G_item_of sh).fn = [m_told] := rfl
def m_item_of : List D → M D := runF (tbOf G_item_of sh) i_item_of 2 2
def N_told_row : List Str := ["field", "row", "item"]
def i_told_row : ISs := .cons (.ret (.blt .tuple (.cons (.frz (.comp (.n 2) (.seq (.var 1)) .nil (.call 0 (.cons (.var 0) (.cons (.var 2) .nil))))) .nil))) .nil
def G_told_row : Gt := [("item_of", 2, m_item_of)]
theorem tf_told_row : (tbOf G_told_row sh).fn = [m_item_of] := rfl
def m_told_row : List D → M D := runF (tbOf G_told_row sh) i_told_row 3 2
def N_table_from : List Str := ["field", "table", "wide", "made", "row"]
def i_table_from_3 : ISs := .cons (.ret (.blt .tuple (.cons (.frz (.comp (.n 4) (.seq (.var 3)) .nil (.call 2 (.cons (.var 0) (.cons (.var 4) .nil))))) .nil))) .nil
def i_table_from_2 : ISs := .cons (.ifS (.not (.call 1 (.cons (.var 0) (.cons (.var 3) (.cons (.var 2) .nil))))) (.cons (.raise 3 (.cons (.var 1) .nil)) .nil) .nil) i_table_from_3
def i_table_from_1 : ISs := .cons (.asg 3 (.blt .tuple (.cons (.frz (.comp (.n 4) (.seq (.var 1)) .nil (.call 0 (.cons (.var 0) (.cons (.var 4) .nil))))) .nil))) i_table_from_2
def i_table_from : ISs := .cons (.ifS (.or (.not (.isiT (.var 1) [.tuple, .list])) (.cmp .gt (.blt .len (.cons (.var 1) .nil)) (.con 1))) (.cons (.raise 3 (.cons (.var 1) .nil)) .nil) .nil) i_table_from_1
def G_table_from : Gt := [("loose_row", 2, m_loose_row), ("is_table", 3, m_is_table), ("told_row", 2, m_told_row)]
theorem tf_table_from : (tbOf G_table_from sh).fn = [m_loose_row, m_is_table, m_told_row] := rfl
def m_table_from : List D → M D := runF (tbOf G_table_from sh) i_table_from 5 3
def N_Box : List Str := ["self", "field", "widths", "rows", "some"]
def i_Box_2 : ISs := .cons (.ifS (.not (.call 2 (.cons (.var 4) .nil))) (.cons (.raise 2 (.cons (.var 2) .nil)) .nil) .nil) .nil
def i_Box_1 : ISs := .cons (.asg 4 (.call 1 (.cons (.var 2) .nil))) i_Box_2
def i_Box : ISs := .cons (.ex (.call 0 (.cons (.var 1) .nil))) i_Box_1
def G_Box : Gt := [("need_field", 1, m_need_field), ("in_tuples", 1, m_in_tuples), ("are_ports", 1, m_are_ports), ("reduced_of", 3, m_reduced_of), ("table_from", 3, m_table_from)]
theorem tf_Box : (tbOf G_Box sh).fn = [m_need_field, m_in_tuples, m_are_ports, m_reduced_of, m_table_from] := rfl
def q_Box : List (Nat × IE) := [(0, .var 1), (1, .var 4), (5, .call 3 (.cons (.var 1) (.cons (.call 4 (.cons (.var 1) (.cons (.var 3) (.cons (.blt .sum (.cons (.var 4) .nil)) .nil)))) (.cons (.blt .sum (.cons (.var 4) .nil)) .nil))))]
def m_Box : List D → M D := runN (tbOf G_Box sh) i_Box 14 q_Box 5 3
def N_l_handed : List Str := ["pen", "ratio", "by"]
def i_l_handed_2 : ISs := .cons (.ret (.call 1 (.cons (.var 0) (.cons (.frz (.disp (.cons (.tup (.cons (.bin .mul (.idx (.var 1) (.int 0)) (.var 2)) (.cons (.bin .mul (.idx (.var 1) (.int 1)) (.var 2)) .nil))) (.cons (.frz (.disp (.cons (.bin .mul (.idx (.var 1) (.int 0)) (.var 2)) (.cons (.bin .mul (.idx (.var 1) (.int 1)) (.var 2)) .nil)))) .nil)))) .nil)))) .nil
def i_l_handed_1 : ISs := .cons (.asg 2 (.call 1 (.cons (.var 0) (.cons (.frz (.disp (.cons (.int 1) (.cons (.int 1) (.cons (.int 2) (.cons (.int 5) .nil)))))) .nil)))) i_l_handed_2
def i_l_handed : ISs := .cons (.ifS (.and (.cmp .eq (.idx (.var 1) (.int 1)) (.int 1)) (.cmp .eq (.call 0 (.cons (.var 0) (.cons (.int 2) .nil))) (.int 0))) (.cons (.ret (.idx (.var 1) (.int 0))) .nil) .nil) i_l_handed_1
def G_l_handed : Gt := [("_law_draw", 2, m_l_draw), ("_law_pick", 2, m_l_pick)]
theorem tf_l_handed : (tbOf G_l_handed sh).fn = [m_l_draw, m_l_pick] := rfl
def m_l_handed : List D → M D := runF (tbOf G_l_handed sh) i_l_handed 3 2
def N_l_passed : List Str := ["pen", "field", "row", "items", "item"]
def i_l_passed_2 : ISs := .cons (.ret (.call 1 (.cons (.var 0) (.cons (.frz (.disp (.cons (.blt .tuple (.cons (.var 3) .nil)) (.cons (.var 3) .nil)))) .nil)))) .nil
def i_l_passed_1 : ISs := .cons (.fz 3) i_l_passed_2
def i_l_passed : ISs := .cons (.asgL 3 (.comp (.n 4) (.seq (.var 2)) .nil (.ifE (.cmp .eq (.var 1) (.int 0)) (.call 0 (.cons (.var 0) (.cons (.var 4) .nil))) (.var 4)))) i_l_passed_1
def G_l_passed : Gt := [("_law_handed", 2, m_l_handed), ("_law_pick", 2, m_l_pick)]
theorem tf_l_passed : (tbOf G_l_passed sh).fn = [m_l_handed, m_l_pick] := rfl
def m_l_passed : List D → M D := runF (tbOf G_l_passed sh) i_l_passed 5 3
def N_l_passed_rows : List Str := ["pen", "field", "rows", "made", "row"]
def i_l_passed_rows_2 : ISs := .cons (.ret (.call 1 (.cons (.var 0) (.cons (.frz (.disp (.cons (.blt .tuple (.cons (.var 3) .nil)) (.cons (.var 3) .nil)))) .nil)))) .nil
def i_l_passed_rows_1 : ISs := .cons (.fz 3) i_l_passed_rows_2
def i_l_passed_rows : ISs := .cons (.asgL 3 (.comp (.n 4) (.seq (.var 2)) .nil (.call 0 (.cons (.var 0) (.cons (.var 1) (.cons (.var 4) .nil)))))) i_l_passed_rows_1
def G_l_passed_rows : Gt := [("_law_passed", 3, m_l_passed), ("_law_pick", 2, m_l_pick)]
theorem tf_l_passed_rows : (tbOf G_l_passed_rows sh).fn = [m_l_passed, m_l_pick] := rfl
def m_l_passed_rows : List D → M D := runF (tbOf G_l_passed_rows sh) i_l_passed_rows 5 3
def N_l_zero : List Str := ["field"]
def i_l_zero : ISs := .cons (.ret (.ifE (.cmp .eq (.var 0) (.int 0)) (.tup (.cons (.int 0) (.cons (.int 1) .nil))) (.int 0))) .nil
def G_l_zero : Gt := []
theorem tf_l_zero : (tbOf G_l_zero sh).fn = [] := rfl
def m_l_zero : List D → M D := runF (tbOf G_l_zero sh) i_l_zero 1 1
def N_l_plus : List Str := ["one", "two"]
def i_l_plus : ISs := .cons (.ret (.call 0 (.cons (.bin .add (.bin .mul (.idx (.var 0) (.int 0)) (.idx (.var 1) (.int 1))) (.bin .mul (.idx (.var 1) (.int 0)) (.idx (.var 0) (.int 1)))) (.cons (.bin .mul (.idx (.var 0) (.int 1)) (.idx (.var 1) (.int 1))) .nil)))) .nil
def G_l_plus : Gt := [("_law_q", 2, m_l_q)]
theorem tf_l_plus : (tbOf G_l_plus sh).fn = [m_l_q] := rfl
def m_l_plus : List D → M D := runF (tbOf G_l_plus sh) i_l_plus 2 2
def N_l_add : List Str := ["field", "one", "two"]
def i_l_add : ISs := .cons (.ret (.ifE (.cmp .eq (.var 0) (.int 0)) (.call 0 (.cons (.var 1) (.cons (.var 2) .nil))) (.bin .mod (.blt .int (.cons (.bin .add (.var 1) (.var 2)) .nil)) (.var 0)))) .nil
def G_l_add : Gt := [("_law_plus", 2, m_l_plus)]
theorem tf_l_add : (tbOf G_l_add sh).fn = [m_l_plus] := rfl
def m_l_add : List D → M D := runF (tbOf G_l_add sh) i_l_add 3 3
def N_l_times : List Str := ["one", "two"]
def i_l_times : ISs := .cons (.ret (.call 0 (.cons (.bin .mul (.idx (.var 0) (.int 0)) (.idx (.var 1) (.int 0))) (.cons (.bin .mul (.idx (.var 0) (.int 1)) (.idx (.var 1) (.int 1))) .nil)))) .nil
def G_l_times : Gt := [("_law_q", 2, m_l_q)]
theorem tf_l_times : (tbOf G_l_times sh).fn = [m_l_q] := rfl
def m_l_times : List D → M D := runF (tbOf G_l_times sh) i_l_times 2 2
def N_l_mul : List Str := ["field", "one", "two"]
def i_l_mul : ISs := .cons (.ret (.ifE (.cmp .eq (.var 0) (.int 0)) (.call 0 (.cons (.var 1) (.cons (.var 2) .nil))) (.bin .mod (.blt .int (.cons (.bin .mul (.var 1) (.var 2)) .nil)) (.var 0)))) .nil
def G_l_mul : Gt := [("_law_times", 2, m_l_times)]
theorem tf_l_mul : (tbOf G_l_mul sh).fn = [m_l_times] := rfl
def m_l_mul : List D → M D := runF (tbOf G_l_mul sh) i_l_mul 3 3
def N_l_mix : List Str := ["pen", "field", "rows", "long", "total", "row", "by", "a", "b"]
def i_l_mix_b1_1 : ISs := .cons (.asg 4 (.blt .tuple (.cons (.frz (.comp (.t [.n 7, .n 8]) (.zip2 (.var 4) (.var 5)) .nil (.call 2 (.cons (.var 1) (.cons (.var 7) (.cons (.call 3 (.cons (.var 1) (.cons (.var 6) (.cons (.var 8) .nil)))) .nil)))))) .nil))) .nil
def i_l_mix_b1 : ISs := .cons (.asg 6 (.call 1 (.cons (.var 0) (.cons (.var 1) .nil)))) i_l_mix_b1_1
def i_l_mix_2 : ISs := .cons (.ret (.var 4)) .nil
def i_l_mix_1 : ISs := .cons (.for_ (.n 5) (.seq (.var 2)) i_l_mix_b1) i_l_mix_2
def i_l_mix : ISs := .cons (.asg 4 (.bin .mul (.tup (.cons (.call 0 (.cons (.var 1) .nil)) .nil)) (.var 3))) i_l_mix_1
def G_l_mix : Gt := [("_law_zero", 1, m_l_zero), ("_law_item", 2, m_l_item), ("_law_add", 3, m_l_add), ("_law_mul", 3, m_l_mul)]
theorem tf_l_mix : (tbOf G_l_mix sh).fn = [m_l_zero, m_l_item, m_l_add, m_l_mul] := rfl
def m_l_mix : List D → M D := runF (tbOf G_l_mix sh) i_l_mix 9 4
def N_l_is_zero : List Str := ["item"]
def i_l_is_zero : ISs := .cons (.ret (.cmp .in_ (.var 0) (.tup (.cons (.int 0) (.cons (.tup (.cons (.int 0) (.cons (.int 1) .nil))) .nil))))) .nil
def G_l_is_zero : Gt := []
theorem tf_l_is_zero : (tbOf G_l_is_zero sh).fn = [] := rfl
def m_l_is_zero : List D → M D := runF (tbOf G_l_is_zero sh) i_l_is_zero 1 1
def N_l_share : List Str := ["one", "two"]
def i_l_share : ISs := .cons (.ret (.call 0 (.cons (.bin .mul (.idx (.var 0) (.int 0)) (.idx (.var 1) (.int 1))) (.cons (.bin .mul (.idx (.var 0) (.int 1)) (.idx (.var 1) (.int 0))) .nil)))) .nil
def G_l_share : Gt := [("_law_q", 2, m_l_q)]
theorem tf_l_share : (tbOf G_l_share sh).fn = [m_l_q] := rfl
def m_l_share : List D → M D := runF (tbOf G_l_share sh) i_l_share 2 2
def N_l_over : List Str := ["field", "one", "two", "item"]
def i_l_over_1 : ISs := .cons (.ret (.idx (.frz (.comp (.n 3) (.rng1 (.var 0)) (.cons (.cmp .eq (.bin .mod (.blt .int (.cons (.bin .mul (.var 3) (.var 2)) .nil)) (.var 0)) (.var 1)) .nil) (.var 3))) (.int 0))) .nil
def i_l_over : ISs := .cons (.ifS (.cmp .eq (.var 0) (.int 0)) (.cons (.ret (.call 0 (.cons (.var 1) (.cons (.var 2) .nil)))) .nil) .nil) i_l_over_1
def G_l_over : Gt := [("_law_share", 2, m_l_share)]
theorem tf_l_over : (tbOf G_l_over sh).fn = [m_l_share] := rfl
def m_l_over : List D → M D := runF (tbOf G_l_over sh) i_l_over 4 3
def N_l_minus : List Str := ["one", "two"]
def i_l_minus : ISs := .cons (.ret (.call 0 (.cons (.bin .sub (.bin .mul (.idx (.var 0) (.int 0)) (.idx (.var 1) (.int 1))) (.bin .mul (.idx (.var 1) (.int 0)) (.idx (.var 0) (.int 1)))) (.cons (.bin .mul (.idx (.var 0) (.int 1)) (.idx (.var 1) (.int 1))) .nil)))) .nil
def G_l_minus : Gt := [("_law_q", 2, m_l_q)]
theorem tf_l_minus : (tbOf G_l_minus sh).fn = [m_l_q] := rfl
def m_l_minus : List D → M D := runF (tbOf G_l_minus sh) i_l_minus 2 2
def N_l_sub : List Str := ["field", "one", "two"]
def i_l_sub : ISs := .cons (.ret (.ifE (.cmp .eq (.var 0) (.int 0)) (.call 0 (.cons (.var 1) (.cons (.var 2) .nil))) (.bin .mod (.blt .int (.cons (.bin .sub (.var 1) (.var 2)) .nil)) (.var 0)))) .nil
def G_l_sub : Gt := [("_law_minus", 2, m_l_minus)]
theorem tf_l_sub : (tbOf G_l_sub sh).fn = [m_l_minus] := rfl
def m_l_sub : List D → M D := runF (tbOf G_l_sub sh) i_l_sub 3 3
def N_l_reduced : List Str := ["field", "table", "wide", "rows", "heads", "row", "column", "tall", "found", "k", "by", "item", "n", "a", "b"]
def i_l_reduced_b1 : ISs := .cons (.ifS (.and (.cmp .ne (.var 12) (.var 7)) (.not (.call 0 (.cons (.idx (.idx (.own 3) (.var 12)) (.var 6)) .nil)))) (.cons (.asg 10 (.idx (.idx (.own 3) (.var 12)) (.var 6))) (.cons (.stI 3 (.var 12) (.blt .tuple (.cons (.frz (.comp (.t [.n 13, .n 14]) (.zip2 (.idx (.own 3) (.var 12)) (.idx (.own 3) (.var 7))) .nil (.call 2 (.cons (.var 0) (.cons (.var 13) (.cons (.call 3 (.cons (.var 0) (.cons (.var 10) (.cons (.var 14) .nil)))) .nil)))))) .nil))) .nil)) .nil) .nil
def i_l_reduced_b2_2 : ISs := .cons (.ifS (.cmp .ne (.own 8) (.frz (.disp .nil))) (.cons (.asg 9 (.idx (.own 8) (.int 0))) (.cons (.stI2 3 (.var 7) (.var 9) (.tup (.cons (.idx (.own 3) (.var 9)) (.cons (.idx (.own 3) (.var 7)) .nil)))) (.cons (.asg 10 (.idx (.idx (.own 3) (.var 7)) (.var 6))) (.cons (.stI 3 (.var 7) (.blt .tuple (.cons (.frz (.comp (.n 11) (.seq (.idx (.own 3) (.var 7))) .nil (.call 1 (.cons (.var 0) (.cons (.var 11) (.cons (.var 10) .nil)))))) .nil))) (.cons (.for_ (.n 12) (.rng1 (.blt .len (.cons (.own 3) .nil))) i_l_reduced_b1) (.cons (.app 4 (.var 6)) .nil)))))) .nil) .nil
def i_l_reduced_b2_1 : ISs := .cons (.asgL 8 (.comp (.n 9) (.rng2 (.var 7) (.blt .len (.cons (.own 3) .nil))) (.cons (.not (.call 0 (.cons (.idx (.idx (.own 3) (.var 9)) (.var 6)) .nil))) .nil) (.var 9))) i_l_reduced_b2_2
def i_l_reduced_b2 : ISs := .cons (.asg 7 (.blt .len (.cons (.own 4) .nil))) i_l_reduced_b2_1
def i_l_reduced_3 : ISs := .cons (.ret (.tup (.cons (.blt .tuple (.cons (.slc (.own 3) .nil (.cons (.blt .len (.cons (.var 4) .nil)) .nil)) .nil)) (.cons (.var 4) .nil)))) .nil
def i_l_reduced_2 : ISs := .cons (.fz 4) i_l_reduced_3
def i_l_reduced_1 : ISs := .cons (.for_ (.n 6) (.rng1 (.var 2)) i_l_reduced_b2) i_l_reduced_2
def i_l_reduced : ISs := .cons (.parU [3, 4] [.l (.comp (.n 5) (.seq (.var 1)) .nil (.blt .tuple (.cons (.var 5) .nil))), .l (.disp .nil)]) i_l_reduced_1
def G_l_reduced : Gt := [("_law_is_zero", 1, m_l_is_zero), ("_law_over", 3, m_l_over), ("_law_sub", 3, m_l_sub), ("_law_mul", 3, m_l_mul)]
theorem tf_l_reduced : (tbOf G_l_reduced sh).fn = [m_l_is_zero, m_l_over, m_l_sub, m_l_mul] := rfl
def m_l_reduced : List D → M D := runF (tbOf G_l_reduced sh) i_l_reduced 15 3
def N_l_span : List Str := ["field", "rows", "wide"]
def i_l_span : ISs := .cons (.ret (.idx (.call 0 (.cons (.var 0) (.cons (.var 1) (.cons (.var 2) .nil)))) (.int 0))) .nil
def G_l_span : Gt := [("_law_reduced", 3, m_l_reduced)]
theorem tf_l_span : (tbOf G_l_span sh).fn = [m_l_reduced] := rfl
def m_l_span : List D → M D := runF (tbOf G_l_span sh) i_l_span 3 3
def N_l_odd : List Str := ["pen"]
def i_l_odd : ISs := .cons (.ret (.call 0 (.cons (.var 0) (.cons (.frz (.disp (.cons .non (.cons (.int 0) (.cons (.int 5) (.cons (.str "x") (.cons (.tup .nil) (.cons (.tup (.cons (.tup .nil) .nil)) (.cons (.tup (.cons (.int 1) (.cons (.int 2) .nil))) (.cons .dct0 (.cons (.bl true) .nil))))))))))) .nil)))) .nil
def G_l_odd : Gt := [("_law_pick", 2, m_l_pick)]
theorem tf_l_odd : (tbOf G_l_odd sh).fn = [m_l_pick] := rfl
def m_l_odd : List D → M D := runF (tbOf G_l_odd sh) i_l_odd 1 1
def N_box_key : List Str := ["box"]
def i_box_key : ISs := .cons (.ret (.tup (.cons (.fld (.var 0) 0) (.cons (.fld (.var 0) 1) (.cons (.fld (.var 0) 5) .nil))))) .nil
def G_box_key : Gt := []
theorem tf_box_key : (tbOf G_box_key sh).fn = [] := rfl
def m_box_key : List D → M D := runF (tbOf G_box_key sh) i_box_key 1 1
def N_Box_eq : List Str := ["self", "other"]
def i_Box_eq : ISs := .cons (.ret (.and (.isi (.var 1) (.cls 14)) (.cmp .eq (.call 0 (.cons (.var 0) .nil)) (.call 0 (.cons (.var 1) .nil))))) .nil
def G_Box_eq : Gt := [("box_key", 1, m_box_key)]
theorem tf_Box_eq : (tbOf G_Box_eq sh).fn = [m_box_key] := rfl
def m_Box_eq : List D → M D := runF (tbOf G_Box_eq sh) i_Box_eq 2 2
def N_Box_ne : List Str := ["self", "other"]
def i_Box_ne : ISs := .cons (.ret (.not (.mcmp false 14 0 (.var 0) (.var 1)))) .nil
def G_Box_ne : Gt := [("__eq__", 14, m_Box_eq)]
theorem tf_Box_ne : (tbOf G_Box_ne sh).fn = [m_Box_eq] := rfl
def m_Box_ne : List D → M D := runF (tbOf G_Box_ne sh) i_Box_ne 2 2
def N_l_case : List Str := ["pen", "field", "widths", "rows", "wide", "box", "mixed", "lap", "other", "due"]
def i_l_case_11 : ISs := .cons (.ret (.and (.isB (.mcmp false 14 7 (.var 5) (.call 2 (.cons (.var 1) (.cons (.bin .add (.var 2) (.tup (.cons (.int 0) .nil))) (.cons (.fld (.var 5) 5) .nil))))) false) (.mcmp true 14 8 (.var 5) (.call 9 (.cons (.var 0) .nil))))) .nil
def i_l_case_10 : ISs := .cons (.ifS (.or (.mcmp false 14 7 (.var 5) (.call 2 (.cons (.ifE (.cmp .ne (.var 1) (.int 2)) (.int 2) (.int 3)) (.cons (.var 2) (.cons (.tup .nil) .nil))))) (.or (.mcmp false 14 7 (.var 5) (.int 5)) (.mcmp false 14 7 (.var 5) (.fld (.var 5) 5)))) (.cons (.ret (.bl false)) .nil) .nil) i_l_case_11
def i_l_case_9 : ISs := .cons (.ifS (.or (.cmp .ne (.mcmp false 14 7 (.var 5) (.var 8)) (.var 9)) (.or (.cmp .eq (.mcmp true 14 8 (.var 5) (.var 8)) (.var 9)) (.not (.mcmp false 14 7 (.var 5) (.call 2 (.cons (.var 1) (.cons (.var 2) (.cons (.bin .add (.fld (.var 5) 5) (.blt .tuple (.cons (.var 6) .nil))) .nil)))))))) (.cons (.ret (.bl false)) .nil) .nil) i_l_case_10
def i_l_case_8 : ISs := .cons (.asg 9 (.cmp .eq (.call 5 (.cons (.var 1) (.cons (.var 6) (.cons (.var 4) .nil)))) (.fld (.var 5) 5))) i_l_case_9
def i_l_case_7 : ISs := .cons (.fz 6) i_l_case_8
def i_l_case_6 : ISs := .cons (.asg 8 (.call 2 (.cons (.var 1) (.cons (.var 2) (.cons (.blt .tuple (.cons (.own 6) .nil)) .nil))))) i_l_case_7
def i_l_case_5 : ISs := .cons (.asgL 6 (.comp (.n 7) (.rng1 (.int 3)) .nil (.call 6 (.cons (.var 0) (.cons (.var 1) (.cons (.var 3) (.cons (.var 4) .nil))))))) i_l_case_6
def i_l_case_4 : ISs := .cons (.ifS (.cmp .ne (.blt .repr (.cons (.tup (.cons (.fld (.var 5) 0) (.cons (.fld (.var 5) 1) (.cons (.fld (.var 5) 5) .nil)))) .nil)) (.blt .repr (.cons (.tup (.cons (.var 1) (.cons (.var 2) (.cons (.call 5 (.cons (.var 1) (.cons (.var 3) (.cons (.var 4) .nil)))) .nil)))) .nil))) (.cons (.ret (.bl false)) .nil) .nil) i_l_case_5
def i_l_case_3 : ISs := .cons (.asg 5 (.call 2 (.cons (.var 1) (.cons (.call 3 (.cons (.var 0) (.cons (.frz (.disp (.cons (.var 2) (.cons (.frz (.ofSeq (.var 2))) .nil)))) .nil))) (.cons (.call 4 (.cons (.var 0) (.cons (.var 1) (.cons (.var 3) .nil)))) .nil))))) i_l_case_4
def i_l_case_2 : ISs := .cons (.asg 4 (.blt .sum (.cons (.var 2) .nil))) i_l_case_3
def i_l_case_1 : ISs := .cons (.unp (.t [.n 2, .n 3]) (.call 1 (.cons (.var 0) (.cons (.var 1) .nil)))) i_l_case_2
def i_l_case : ISs := .cons (.asg 1 (.call 0 (.cons (.var 0) .nil))) i_l_case_1
def G_l_case : Gt := [("_law_field", 1, m_l_field), ("_law_drawn_box", 2, m_l_drawn_box), ("Box", 3, m_Box), ("_law_pick", 2, m_l_pick), ("_law_passed_rows", 3, m_l_passed_rows), ("_law_span", 3, m_l_span), ("_law_mix", 4, m_l_mix), ("__eq__", 14, m_Box_eq), ("__ne__", 14, m_Box_ne), ("_law_odd", 1, m_l_odd)]
theorem tf_l_case : (tbOf G_l_case sh).fn = [m_l_field, m_l_drawn_box, m_Box, m_l_pick, m_l_passed_rows, m_l_span, m_l_mix, m_Box_eq, m_Box_ne, m_l_odd] := rfl
def m_l_case : List D → M D := runF (tbOf G_l_case sh) i_l_case 10 1
def r_l_fault : List (Nat × Str) := [(4, "lot"), (0, "number"), (2, "row"), (3, "table"), (1, "web"), (6, "many"), (5, "unlike")]
def m_l_fault (clo : Nat → M D) : List D → M D := mFault r_l_fault clo
def N_l_are_due : List Str := ["tries", "work", "due"]
def i_l_are_due : ISs := .cons (.ret (.blt .all (.cons (.frz (.comp (.t [.n 1, .n 2]) (.seq (.var 0)) .nil (.cmp .eq (.blt .repr (.cons (.call 0 (.cons (.var 1) .nil)) .nil)) (.blt .repr (.cons (.var 2) .nil))))) .nil))) .nil
def G_l_are_due (clo : Nat → M D) : Gt := [("_law_fault", 1, m_l_fault clo)]
theorem tf_l_are_due (clo : Nat → M D) : (tbOf (G_l_are_due clo) { sh with clo := clo }).fn = [m_l_fault clo] := rfl
def m_l_are_due (clo : Nat → M D) : List D → M D := runF (tbOf (G_l_are_due clo) { sh with clo := clo }) i_l_are_due 3 1
def N_law : List Str := ["script", "pen", "lap", "few", "widths", "rows", "tries"]
def lams : List LamT := [⟨["few", "widths", "rows"], [3, 4, 5], .call 2 (.cons (.var 0) (.cons (.var 1) (.cons (.var 2) .nil)))⟩, ⟨["widths", "rows"], [4, 5], .call 2 (.cons (.int 2) (.cons (.var 0) (.cons (.var 1) .nil)))⟩, ⟨["rows"], [5], .call 2 (.cons (.int 2) (.cons (.tup (.cons (.int 1) (.cons (.int 1) .nil))) (.cons (.var 0) .nil)))⟩]
def G_law : Gt := [("_law_case", 1, m_l_case), ("_law_pick", 2, m_l_pick), ("Box", 3, m_Box)]
def Gc : Gct := [("_law_fault", 1, m_l_fault), ("_law_are_due", 1, m_l_are_due)]
def i_law_b1 : ISs := .cons (.ifS (.not (.call 0 (.cons (.var 1) .nil))) (.cons (.ret (.bl false)) .nil) .nil) .nil
def i_law_8 : ISs := .cons (.ret (.callC 1 (.cons (.var 6) .nil))) .nil
def i_law_7 : ISs := .cons (.fz 6) i_law_8
def i_law_6 : ISs := .cons (.app 6 (.tup (.cons (.lam 2) (.cons (.tup (.cons (.str "table") (.cons (.var 5) .nil))) .nil)))) i_law_7
def i_law_5 : ISs := .cons (.app 6 (.tup (.cons (.lam 1) (.cons (.tup (.cons (.str "row") (.cons (.var 4) .nil))) .nil)))) i_law_6
def i_law_4 : ISs := .cons (.asgL 6 (.disp (.cons (.tup (.cons (.lam 0) (.cons (.tup (.cons (.str "number") (.cons (.str "field") (.cons (.var 3) .nil)))) .nil))) .nil))) i_law_5
def i_law_3 : ISs := .cons (.asg 5 (.call 1 (.cons (.var 1) (.cons (.frz (.disp (.cons .non (.cons (.int 5) (.cons (.tup (.cons (.tup (.cons (.int 0) .nil)) .nil)) (.cons (.tup (.cons (.tup (.cons (.int 0) (.cons (.int 1) (.cons (.int 0) .nil)))) .nil)) (.cons (.tup (.cons (.tup (.cons (.int 0) (.cons (.int 2) .nil))) .nil)) (.cons (.tup (.cons (.tup (.cons (.int 0) (.cons .non .nil))) .nil)) (.cons (.tup (.cons .non .nil)) (.cons (.tup (.cons (.tup (.cons (.int 0) (.cons (.bl true) .nil))) .nil)) (.cons (.str "01") (.cons (.bin .mul (.tup (.cons (.tup (.cons (.int 0) (.cons (.int 0) .nil))) .nil)) (.int 25)) (.cons (.tup (.cons (.tup (.cons (.int 0) (.cons (.neg (.int 1)) .nil))) .nil)) .nil))))))))))))) .nil)))) i_law_4
def i_law_2 : ISs := .cons (.asg 4 (.call 1 (.cons (.var 1) (.cons (.frz (.disp (.cons .non (.cons (.int 5) (.cons (.tup (.cons (.int 5) .nil)) (.cons (.tup (.cons (.neg (.int 1)) .nil)) (.cons (.tup (.cons (.bl true) .nil)) (.cons (.tup (.cons (.str "1") .nil)) (.cons (.bin .mul (.tup (.cons (.int 1) .nil)) (.int 7)) (.cons (.tup (.cons (.int 4) (.cons (.int 4) (.cons (.int 4) (.cons (.int 1) .nil))))) (.cons (.str "1") (.cons (.tup (.cons (.tup (.cons (.int 1) .nil)) .nil)) .nil)))))))))))) .nil)))) i_law_3
def i_law_1 : ISs := .cons (.asg 3 (.call 1 (.cons (.var 1) (.cons (.frz (.disp (.cons (.int 1) (.cons (.int 4) (.cons (.int 11) (.cons .non (.cons (.bl true) (.cons (.str "2") (.cons (.neg (.int 1)) .nil))))))))) .nil)))) i_law_2
def i_law : ISs := .cons (.for_ (.n 2) (.rng1 (.int 4)) i_law_b1) i_law_1
def T_law : Tb := tbL sh G_law lams Gc
theorem tf_law : T_law.fn = [m_l_case, m_l_pick, m_Box] := rfl
theorem tc_law : T_law.con = [.tup [.int 0, .int 2, .int 3, .int 5, .int 7], .int 24, .int 6, .int 4, .int 12] := rfl
theorem tc_sh (G : Gt) : (tbOf G sh).con = [.tup [.int 0, .int 2, .int 3, .int 5, .int 7], .int 24, .int 6, .int 4, .int 12] := rfl
/-! ### the looks -/
theorem o_l_draw : defNB (dd "_law_draw" 49) N_l_draw ["pen", "many"] = true := by decide +kernel
theorem c_l_draw : chkSs (scOf sh G_l_draw N_l_draw) (dd "_law_draw" 49).scope (fun _ => true) i_l_draw (dd "_law_draw" 49).body = true := by decide +kernel
theorem o_l_pick : defNB (dd "_law_pick" 50) N_l_pick ["pen", "some"] = true := by decide +kernel
theorem c_l_pick : chkSs (scOf sh G_l_pick N_l_pick) (dd "_law_pick" 50).scope (fun _ => true) i_l_pick (dd "_law_pick" 50).body = true := by decide +kernel
theorem o_l_field : defNB (dd "_law_field" 59) N_l_field ["pen"] = true := by decide +kernel
theorem c_l_field : chkSs (scOf sh G_l_field N_l_field) (dd "_law_field" 59).scope (fun _ => true) i_l_field (dd "_law_field" 59).body = true := by decide +kernel
theorem o_l_widths : defNB (dd "_law_widths" 72) N_l_widths ["pen", "many", "most", "total"] = true := by decide +kernel
theorem c_l_widths : chkSs (scOf sh G_l_widths N_l_widths) (dd "_law_widths" 72).scope (fun _ => true) i_l_widths (dd "_law_widths" 72).body = true := by decide +kernel
theorem o_l_gcd : defNB (dd "_law_gcd" 51) N_l_gcd ["one", "two"] = true := by decide +kernel
theorem c_l_gcd : chkSs (scOf sh G_l_gcd N_l_gcd) (dd "_law_gcd" 51).scope (fun _ => true) i_l_gcd (dd "_law_gcd" 51).body = true := by decide +kernel
theorem o_l_q : defNB (dd "_law_q" 52) N_l_q ["top", "bottom"] = true := by decide +kernel
theorem c_l_q : chkSs (scOf sh G_l_q N_l_q) (dd "_law_q" 52).scope (fun _ => true) i_l_q (dd "_law_q" 52).body = true := by decide +kernel
theorem o_l_number : defNB (dd "_law_number" 57) N_l_number ["pen", "most"] = true := by decide +kernel
theorem c_l_number : chkSs (scOf sh G_l_number N_l_number) (dd "_law_number" 57).scope (fun _ => true) i_l_number (dd "_law_number" 57).body = true := by decide +kernel
theorem o_l_item : defNB (dd "_law_item" 66) N_l_item ["pen", "field"] = true := by decide +kernel
theorem c_l_item : chkSs (scOf sh G_l_item N_l_item) (dd "_law_item" 66).scope (fun _ => true) i_l_item (dd "_law_item" 66).body = true := by decide +kernel
theorem o_l_row : defNB (dd "_law_row" 67) N_l_row ["pen", "field", "long"] = true := by decide +kernel
theorem c_l_row : chkSs (scOf sh G_l_row N_l_row) (dd "_law_row" 67).scope (fun _ => true) i_l_row (dd "_law_row" 67).body = true := by decide +kernel
theorem o_l_table : defNB (dd "_law_table" 68) N_l_table ["pen", "field", "tall", "wide"] = true := by decide +kernel
theorem c_l_table : chkSs (scOf sh G_l_table N_l_table) (dd "_law_table" 68).scope (fun _ => true) i_l_table (dd "_law_table" 68).body = true := by decide +kernel
theorem o_l_drawn_box : defNB (dd "_law_drawn_box" 78) N_l_drawn_box ["pen", "field"] = true := by decide +kernel
theorem c_l_drawn_box : chkSs (scOf sh G_l_drawn_box N_l_drawn_box) (dd "_law_drawn_box" 78).scope (fun _ => true) i_l_drawn_box (dd "_law_drawn_box" 78).body = true := by decide +kernel
theorem o_is_whole : defNB (dd "is_whole" 11) N_is_whole ["value"] = true := by decide +kernel
theorem c_is_whole : chkSs (scOf sh G_is_whole N_is_whole) (dd "is_whole" 11).scope (fun _ => true) i_is_whole (dd "is_whole" 11).body = true := by decide +kernel
theorem o_need_field : defNB (dd "need_field" 32) N_need_field ["field"] = true := by decide +kernel
theorem c_need_field : chkSs (scOf sh G_need_field N_need_field) (dd "need_field" 32).scope (fun _ => true) i_need_field (dd "need_field" 32).body = true := by decide +kernel
theorem o_in_tuples : defNB (dd "in_tuples" 12) N_in_tuples ["value"] = true := by decide +kernel
theorem c_in_tuples (mm : List D → M D) : chkSs (scOf sh (G_in_tuples mm) N_in_tuples) (dd "in_tuples" 12).scope (fun _ => true) i_in_tuples (dd "in_tuples" 12).body = true := by kernel_rfl
theorem o_lowest : defNB (dd "lowest" 16) N_lowest ["top", "bottom"] = true := by decide +kernel
theorem c_lowest : chkSs (scOf sh G_lowest N_lowest) (dd "lowest" 16).scope (fun _ => true) i_lowest (dd "lowest" 16).body = true := by decide +kernel
theorem o_parted : defNB (dd "parted" 20) N_parted ["one", "other"] = true := by decide +kernel
theorem c_parted : chkSs (scOf sh G_parted N_parted) (dd "parted" 20).scope (fun _ => true) i_parted (dd "parted" 20).body = true := by decide +kernel
theorem o_over_items : defNB (dd "over_items" 28) N_over_items ["field", "one", "other"] = true := by decide +kernel
theorem c_over_items : chkSs (scOf sh G_over_items N_over_items) (dd "over_items" 28).scope (fun _ => true) i_over_items (dd "over_items" 28).body = true := by decide +kernel
theorem o_is_nothing : defNB (dd "is_nothing" 25) N_is_nothing ["field", "item"] = true := by decide +kernel
theorem c_is_nothing : chkSs (scOf sh G_is_nothing N_is_nothing) (dd "is_nothing" 25).scope (fun _ => true) i_is_nothing (dd "is_nothing" 25).body = true := by decide +kernel
theorem o_lessened : defNB (dd "lessened" 18) N_lessened ["one", "other"] = true := by decide +kernel
theorem c_lessened : chkSs (scOf sh G_lessened N_lessened) (dd "lessened" 18).scope (fun _ => true) i_lessened (dd "lessened" 18).body = true := by decide +kernel
theorem o_less_items : defNB (dd "less_items" 26) N_less_items ["field", "one", "other"] = true := by decide +kernel
theorem c_less_items : chkSs (scOf sh G_less_items N_less_items) (dd "less_items" 26).scope (fun _ => true) i_less_items (dd "less_items" 26).body = true := by decide +kernel
theorem o_scaled : defNB (dd "scaled" 19) N_scaled ["one", "other"] = true := by decide +kernel
theorem c_scaled : chkSs (scOf sh G_scaled N_scaled) (dd "scaled" 19).scope (fun _ => true) i_scaled (dd "scaled" 19).body = true := by decide +kernel
theorem o_times_items : defNB (dd "times_items" 27) N_times_items ["field", "one", "other"] = true := by decide +kernel
theorem c_times_items : chkSs (scOf sh G_times_items N_times_items) (dd "times_items" 27).scope (fun _ => true) i_times_items (dd "times_items" 27).body = true := by decide +kernel
theorem o_row_less : defNB (dd "row_less" 29) N_row_less ["field", "row", "by", "other"] = true := by decide +kernel
theorem c_row_less : chkSs (scOf sh G_row_less N_row_less) (dd "row_less" 29).scope (fun _ => true) i_row_less (dd "row_less" 29).body = true := by decide +kernel
theorem o_steps : defNB (dd "steps" 38) N_steps ["field", "table", "wide"] = true := by decide +kernel
theorem c_steps : chkSs (scOf sh G_steps N_steps) (dd "steps" 38).scope (fun _ => true) i_steps (dd "steps" 38).body = true := by decide +kernel
theorem o_reduced_of : defNB (dd "reduced_of" 39) N_reduced_of ["field", "table", "wide"] = true := by decide +kernel
theorem c_reduced_of : chkSs (scOf sh G_reduced_of N_reduced_of) (dd "reduced_of" 39).scope (fun _ => true) i_reduced_of (dd "reduced_of" 39).body = true := by decide +kernel
theorem o_are_ports : defNB (dd "are_ports" 45) N_are_ports ["value"] = true := by decide +kernel
theorem c_are_ports : chkSs (scOf sh G_are_ports N_are_ports) (dd "are_ports" 45).scope (fun _ => true) i_are_ports (dd "are_ports" 45).body = true := by decide +kernel
theorem o_is_tuple_of : defNB (dd "is_tuple_of" 13) N_is_tuple_of ["value", "many"] = true := by decide +kernel
theorem c_is_tuple_of : chkSs (scOf sh G_is_tuple_of N_is_tuple_of) (dd "is_tuple_of" 13).scope (fun _ => true) i_is_tuple_of (dd "is_tuple_of" 13).body = true := by decide +kernel
theorem o_is_pair : defNB (dd "is_pair" 15) N_is_pair ["value"] = true := by decide +kernel
theorem c_is_pair : chkSs (scOf sh G_is_pair N_is_pair) (dd "is_pair" 15).scope (fun _ => true) i_is_pair (dd "is_pair" 15).body = true := by decide +kernel
theorem o_is_item : defNB (dd "is_item" 23) N_is_item ["field", "value"] = true := by decide +kernel
theorem c_is_item : chkSs (scOf sh G_is_item N_is_item) (dd "is_item" 23).scope (fun _ => true) i_is_item (dd "is_item" 23).body = true := by decide +kernel
theorem o_is_row : defNB (dd "is_row" 33) N_is_row ["field", "value", "long"] = true := by decide +kernel
theorem c_is_row : chkSs (scOf sh G_is_row N_is_row) (dd "is_row" 33).scope (fun _ => true) i_is_row (dd "is_row" 33).body = true := by decide +kernel
theorem o_is_table : defNB (dd "is_table" 36) N_is_table ["field", "value", "wide"] = true := by decide +kernel
theorem c_is_table : chkSs (scOf sh G_is_table N_is_table) (dd "is_table" 36).scope (fun _ => true) i_is_table (dd "is_table" 36).body = true := by decide +kernel
theorem o_loose_row : defNB (dd "loose_row" 35) N_loose_row ["field", "value"] = true := by decide +kernel
theorem c_loose_row : chkSs (scOf sh G_loose_row N_loose_row) (dd "loose_row" 35).scope (fun _ => true) i_loose_row (dd "loose_row" 35).body = true := by decide +kernel
theorem o_told : defNB (dd "told" 17) N_told ["ratio"] = true := by decide +kernel
theorem c_told : chkSs (scOf sh G_told N_told) (dd "told" 17).scope (fun _ => true) i_told (dd "told" 17).body = true := by decide +kernel
theorem o_item_of : defNB (dd "item_of" 24) N_item_of ["field", "value"] = true := by decide +kernel
theorem c_item_of : chkSs (scOf sh G_item_of N_item_of) (dd "item_of" 24).scope (fun _ => true) i_item_of (dd "item_of" 24).body = true := by decide +kernel
theorem o_told_row : defNB (dd "told_row" 34) N_told_row ["field", "row"] = true := by decide +kernel
theorem c_told_row : chkSs (scOf sh G_told_row N_told_row) (dd "told_row" 34).scope (fun _ => true) i_told_row (dd "told_row" 34).body = true := by decide +kernel
theorem o_table_from : defNB (dd "table_from" 37) N_table_from ["field", "table", "wide"] = true := by decide +kernel
theorem c_table_from : chkSs (scOf sh G_table_from N_table_from) (dd "table_from" 37).scope (fun _ => true) i_table_from (dd "table_from" 37).body = true := by decide +kernel
theorem o_Box : defNB (dm "Box" "__init__" "Box.__init__" 44 0) N_Box ["self", "field", "widths", "rows"] = true := by decide +kernel
theorem c_Box : chkIn (scOf sh G_Box N_Box) (dm "Box" "__init__" "Box.__init__" 44 0).scope (fun _ => true) "self" q_Box i_Box (dm "Box" "__init__" "Box.__init__" 44 0).body = true := by decide +kernel
theorem o_l_handed : defNB (dd "_law_handed" 58) N_l_handed ["pen", "ratio"] = true := by decide +kernel
theorem c_l_handed : chkSs (scOf sh G_l_handed N_l_handed) (dd "_law_handed" 58).scope (fun _ => true) i_l_handed (dd "_law_handed" 58).body = true := by decide +kernel
theorem o_l_passed : defNB (dd "_law_passed" 69) N_l_passed ["pen", "field", "row"] = true := by decide +kernel
theorem c_l_passed : chkSs (scOf sh G_l_passed N_l_passed) (dd "_law_passed" 69).scope (fun _ => true) i_l_passed (dd "_law_passed" 69).body = true := by decide +kernel
theorem o_l_passed_rows : defNB (dd "_law_passed_rows" 70) N_l_passed_rows ["pen", "field", "rows"] = true := by decide +kernel
theorem c_l_passed_rows : chkSs (scOf sh G_l_passed_rows N_l_passed_rows) (dd "_law_passed_rows" 70).scope (fun _ => true) i_l_passed_rows (dd "_law_passed_rows" 70).body = true := by decide +kernel
theorem o_l_zero : defNB (dd "_law_zero" 60) N_l_zero ["field"] = true := by decide +kernel
theorem c_l_zero : chkSs (scOf sh G_l_zero N_l_zero) (dd "_law_zero" 60).scope (fun _ => true) i_l_zero (dd "_law_zero" 60).body = true := by decide +kernel
theorem o_l_plus : defNB (dd "_law_plus" 53) N_l_plus ["one", "two"] = true := by decide +kernel
theorem c_l_plus : chkSs (scOf sh G_l_plus N_l_plus) (dd "_law_plus" 53).scope (fun _ => true) i_l_plus (dd "_law_plus" 53).body = true := by decide +kernel
theorem o_l_add : defNB (dd "_law_add" 62) N_l_add ["field", "one", "two"] = true := by decide +kernel
theorem c_l_add : chkSs (scOf sh G_l_add N_l_add) (dd "_law_add" 62).scope (fun _ => true) i_l_add (dd "_law_add" 62).body = true := by decide +kernel
theorem o_l_times : defNB (dd "_law_times" 54) N_l_times ["one", "two"] = true := by decide +kernel
theorem c_l_times : chkSs (scOf sh G_l_times N_l_times) (dd "_law_times" 54).scope (fun _ => true) i_l_times (dd "_law_times" 54).body = true := by decide +kernel
theorem o_l_mul : defNB (dd "_law_mul" 64) N_l_mul ["field", "one", "two"] = true := by decide +kernel
theorem c_l_mul : chkSs (scOf sh G_l_mul N_l_mul) (dd "_law_mul" 64).scope (fun _ => true) i_l_mul (dd "_law_mul" 64).body = true := by decide +kernel
theorem o_l_mix : defNB (dd "_law_mix" 73) N_l_mix ["pen", "field", "rows", "long"] = true := by decide +kernel
theorem c_l_mix : chkSs (scOf sh G_l_mix N_l_mix) (dd "_law_mix" 73).scope (fun _ => true) i_l_mix (dd "_law_mix" 73).body = true := by decide +kernel
theorem o_l_is_zero : defNB (dd "_law_is_zero" 61) N_l_is_zero ["item"] = true := by decide +kernel
theorem c_l_is_zero : chkSs (scOf sh G_l_is_zero N_l_is_zero) (dd "_law_is_zero" 61).scope (fun _ => true) i_l_is_zero (dd "_law_is_zero" 61).body = true := by decide +kernel
theorem o_l_share : defNB (dd "_law_share" 56) N_l_share ["one", "two"] = true := by decide +kernel
theorem c_l_share : chkSs (scOf sh G_l_share N_l_share) (dd "_law_share" 56).scope (fun _ => true) i_l_share (dd "_law_share" 56).body = true := by decide +kernel
theorem o_l_over : defNB (dd "_law_over" 65) N_l_over ["field", "one", "two"] = true := by decide +kernel
theorem c_l_over : chkSs (scOf sh G_l_over N_l_over) (dd "_law_over" 65).scope (fun _ => true) i_l_over (dd "_law_over" 65).body = true := by decide +kernel
theorem o_l_minus : defNB (dd "_law_minus" 55) N_l_minus ["one", "two"] = true := by decide +kernel
theorem c_l_minus : chkSs (scOf sh G_l_minus N_l_minus) (dd "_law_minus" 55).scope (fun _ => true) i_l_minus (dd "_law_minus" 55).body = true := by decide +kernel
theorem o_l_sub : defNB (dd "_law_sub" 63) N_l_sub ["field", "one", "two"] = true := by decide +kernel
theorem c_l_sub : chkSs (scOf sh G_l_sub N_l_sub) (dd "_law_sub" 63).scope (fun _ => true) i_l_sub (dd "_law_sub" 63).body = true := by decide +kernel
theorem o_l_reduced : defNB (dd "_law_reduced" 71) N_l_reduced ["field", "table", "wide"] = true := by decide +kernel
theorem c_l_reduced : chkSs (scOf sh G_l_reduced N_l_reduced) (dd "_law_reduced" 71).scope (fun _ => true) i_l_reduced (dd "_law_reduced" 71).body = true := by decide +kernel
theorem o_l_span : defNB (dd "_law_span" 77) N_l_span ["field", "rows", "wide"] = true := by decide +kernel
theorem c_l_span : chkSs (scOf sh G_l_span N_l_span) (dd "_law_span" 77).scope (fun _ => true) i_l_span (dd "_law_span" 77).body = true := by decide +kernel
theorem o_l_odd : defNB (dd "_law_odd" 76) N_l_odd ["pen"] = true := by decide +kernel
theorem c_l_odd : chkSs (scOf sh G_l_odd N_l_odd) (dd "_law_odd" 76).scope (fun _ => true) i_l_odd (dd "_law_odd" 76).body = true := by decide +kernel
theorem o_box_key : defNB (dd "box_key" 46) N_box_key ["box"] = true := by decide +kernel
theorem c_box_key : chkSs (scOf sh G_box_key N_box_key) (dd "box_key" 46).scope (fun _ => true) i_box_key (dd "box_key" 46).body = true := by decide +kernel
theorem o_Box_eq : defNB (dm "Box" "__eq__" "Box.__eq__" 44 1) N_Box_eq ["self", "other"] = true := by decide +kernel
theorem c_Box_eq : chkSs (scOf sh G_Box_eq N_Box_eq) (dm "Box" "__eq__" "Box.__eq__" 44 1).scope (fun _ => true) i_Box_eq (dm "Box" "__eq__" "Box.__eq__" 44 1).body = true := by decide +kernel
theorem o_Box_ne : defNB (dm "Box" "__ne__" "Box.__ne__" 44 2) N_Box_ne ["self", "other"] = true := by decide +kernel
theorem c_Box_ne : chkSs (scOf sh G_Box_ne N_Box_ne) (dm "Box" "__ne__" "Box.__ne__" 44 2).scope (fun _ => true) i_Box_ne (dm "Box" "__ne__" "Box.__ne__" 44 2).body = true := by decide +kernel
theorem o_l_case : defNB (dd "_law_case" 79) N_l_case ["pen"] = true := by decide +kernel
theorem c_l_case : chkSs (scOf sh G_l_case N_l_case) (dd "_law_case" 79).scope (fun _ => true) i_l_case (dd "_law_case" 79).body = true := by decide +kernel
theorem o_l_fault : defNB (dd "_law_fault" 74) ["work", "fault"] ["work"] = true := by decide +kernel
theorem c_l_fault : chkFault sh.exn (dd "_law_fault" 74).scope "work" "fault" r_l_fault (dd "_law_fault" 74).body = true := by decide +kernel
theorem o_l_are_due : defNB (dd "_law_are_due" 75) N_l_are_due ["tries"] = true := by decide +kernel
theorem c_l_are_due (clo : Nat → M D) : chkSs (scOf { sh with clo := clo } (G_l_are_due clo) N_l_are_due) (dd "_law_are_due" 75).scope (fun _ => true) i_l_are_due (dd "_law_are_due" 75).body = true := by kernel_rfl
theorem o_law : defNB (dd "law" 80) N_law ["script"] = true := by decide +kernel
theorem c_law : chkLaw (scL sh G_law N_law (dd "law" 80).scope lams (nmL Gc)) (dd "law" 80).scope "_law_pen" "script" 1 i_law (dd "law" 80).body = true := by decide +kernel
theorem o_pen : defNB (dd "_law_pen" 48) ["script", "fold", "cell"] ["script"] = true := by decide +kernel
theorem c_pen : chkPen (dd "_law_pen" 48).scope (dd "_law_pen" 48).body = some ⟨"fold", "cell", "script", "int", "list"⟩ := by kernel_rfl
theorem t_S : okT S = true := by decide +kernel
/-! ### the defs are worth their meanings -/
section
variable {K : PySem.W.Frag} {P : Program} {w : World} {mg : Str → Option Value} {base : Heap}
theorem mo_all (s : Sure S K) (X : K.In base) (G : base.Ns mainGlobals mg) {W : Wd} (fit : Fits K (clsF S K) (exsF S K) W) (L : Nat) : MOk W sh P w K mg base L := mok_of (mkr := mkr) s X G fit L
theorem f_l_draw (s : Sure S K) (X : K.In base) (G : base.Ns mainGlobals mg) {W : Wd} (fit : Fits K (clsF S K) (exsF S K) W) : FnX W P w K mg base 3 "_law_draw" 2 m_l_draw := fnx_of s X G (mo_all s X G fit 2) (show GOk W P w K mg base 2 G_l_draw from gok_nil) (by decide) (d := dd "_law_draw" 49) (List.mem_of_getElem? (i := 37) rfl) rfl (by decide +kernel) (by decide +kernel) o_l_draw c_l_draw
theorem f_l_pick (s : Sure S K) (X : K.In base) (G : base.Ns mainGlobals mg) {W : Wd} (fit : Fits K (clsF S K) (exsF S K) W) : FnX W P w K mg base 4 "_law_pick" 2 m_l_pick := fnx_of s X G (mo_all s X G fit 3) (show GOk W P w K mg base 3 G_l_pick from gok_cons (f_l_draw s X G fit) (by decide) (gok_nil)) (by decide) (d := dd "_law_pick" 50) (List.mem_of_getElem? (i := 38) rfl) rfl (by decide +kernel) (by decide +kernel) o_l_pick c_l_pick
theorem f_l_field (s : Sure S K) (X : K.In base) (G : base.Ns mainGlobals mg) {W : Wd} (fit : Fits K (clsF S K) (exsF S K) W) : FnX W P w K mg base 5 "_law_field" 1 m_l_field := fnx_of s X G (mo_all s X G fit 4) (show GOk W P w K mg base 4 G_l_field from gok_cons (f_l_pick s X G fit) (by decide) (gok_nil)) (by decide) (d := dd "_law_field" 59) (List.mem_of_getElem? (i := 47) rfl) rfl (by decide +kernel) (by decide +kernel) o_l_field c_l_field
theorem f_l_widths (s : Sure S K) (X : K.In base) (G : base.Ns mainGlobals mg) {W : Wd} (fit : Fits K (clsF S K) (exsF S K) W) : FnX W P w K mg base 4 "_law_widths" 4 m_l_widths := fnx_of s X G (mo_all s X G fit 3) (show GOk W P w K mg base 3 G_l_widths from gok_cons (f_l_draw s X G fit) (by decide) (gok_nil)) (by decide) (d := dd "_law_widths" 72) (List.mem_of_getElem? (i := 60) rfl) rfl (by decide +kernel) (by decide +kernel) o_l_widths c_l_widths
theorem f_l_gcd (s : Sure S K) (X : K.In base) (G : base.Ns mainGlobals mg) {W : Wd} (fit : Fits K (clsF S K) (exsF S K) W) : FnX W P w K mg base 3 "_law_gcd" 2 m_l_gcd := fnx_of s X G (mo_all s X G fit 2) (show GOk W P w K mg base 2 G_l_gcd from gok_nil) (by decide) (d := dd "_law_gcd" 51) (List.mem_of_getElem? (i := 39) rfl) rfl (by decide +kernel) (by decide +kernel) o_l_gcd c_l_gcd
theorem f_l_q (s : Sure S K) (X : K.In base) (G : base.Ns mainGlobals mg) {W : Wd} (fit : Fits K (clsF S K) (exsF S K) W) : FnX W P w K mg base 4 "_law_q" 2 m_l_q := fnx_of s X G (mo_all s X G fit 3) (show GOk W P w K mg base 3 G_l_q from gok_cons (f_l_gcd s X G fit) (by decide) (gok_nil)) (by decide) (d := dd "_law_q" 52) (List.mem_of_getElem? (i := 40) rfl) rfl (by decide +kernel) (by decide +kernel) o_l_q c_l_q
theorem f_l_number (s : Sure S K) (X : K.In base) (G : base.Ns mainGlobals mg) {W : Wd} (fit : Fits K (clsF S K) (exsF S K) W) : FnX W P w K mg base 5 "_law_number" 2 m_l_number := fnx_of s X G (mo_all s X G fit 4) (show GOk W P w K mg base 4 G_l_number from gok_cons (f_l_draw s X G fit) (by decide) (gok_cons (f_l_q s X G fit) (by decide) (gok_cons (f_l_pick s X G fit) (by decide) (gok_nil)))) (by decide) (d := dd "_law_number" 57) (List.mem_of_getElem? (i := 45) rfl) rfl (by decide +kernel) (by decide +kernel) o_l_number c_l_number
theorem f_l_item (s : Sure S K) (X : K.In base) (G : base.Ns mainGlobals mg) {W : Wd} (fit : Fits K (clsF S K) (exsF S K) W) : FnX W P w K mg base 6 "_law_item" 2 m_l_item := fnx_of s X G (mo_all s X G fit 5) (show GOk W P w K mg base 5 G_l_item from gok_cons (f_l_number s X G fit) (by decide) (gok_cons (f_l_draw s X G fit) (by decide) (gok_nil))) (by decide) (d := dd "_law_item" 66) (List.mem_of_getElem? (i := 54) rfl) rfl (by decide +kernel) (by decide +kernel) o_l_item c_l_item
theorem f_l_row (s : Sure S K) (X : K.In base) (G : base.Ns mainGlobals mg) {W : Wd} (fit : Fits K (clsF S K) (exsF S K) W) : FnX W P w K mg base 7 "_law_row" 3 m_l_row := fnx_of s X G (mo_all s X G fit 6) (show GOk W P w K mg base 6 G_l_row from gok_cons (f_l_item s X G fit) (by decide) (gok_nil)) (by decide) (d := dd "_law_row" 67) (List.mem_of_getElem? (i := 55) rfl) rfl (by decide +kernel) (by decide +kernel) o_l_row c_l_row
theorem f_l_table (s : Sure S K) (X : K.In base) (G : base.Ns mainGlobals mg) {W : Wd} (fit : Fits K (clsF S K) (exsF S K) W) : FnX W P w K mg base 8 "_law_table" 4 m_l_table := fnx_of s X G (mo_all s X G fit 7) (show GOk W P w K mg base 7 G_l_table from gok_cons (f_l_row s X G fit) (by decide) (gok_nil)) (by decide) (d := dd "_law_table" 68) (List.mem_of_getElem? (i := 56) rfl) rfl (by decide +kernel) (by decide +kernel) o_l_table c_l_table
theorem f_l_drawn_box (s : Sure S K) (X : K.In base) (G : base.Ns mainGlobals mg) {W : Wd} (fit : Fits K (clsF S K) (exsF S K) W) : FnX W P w K mg base 9 "_law_drawn_box" 2 m_l_drawn_box := fnx_of s X G (mo_all s X G fit 8) (show GOk W P w K mg base 8 G_l_drawn_box from gok_cons (f_l_widths s X G fit) (by decide) (gok_cons (f_l_draw s X G fit) (by decide) (gok_cons (f_l_table s X G fit) (by decide) (gok_nil)))) (by decide) (d := dd "_law_drawn_box" 78) (List.mem_of_getElem? (i := 66) rfl) rfl (by decide +kernel) (by decide +kernel) o_l_drawn_box c_l_drawn_box
theorem f_is_whole (s : Sure S K) (X : K.In base) (G : base.Ns mainGlobals mg) {W : Wd} (fit : Fits K (clsF S K) (exsF S K) W) : FnX W P w K mg base 3 "is_whole" 1 m_is_whole := fnx_of s X G (mo_all s X G fit 2) (show GOk W P w K mg base 2 G_is_whole from gok_nil) (by decide) (d := dd "is_whole" 11) (List.mem_of_getElem? (i := 7) rfl) rfl (by decide +kernel) (by decide +kernel) o_is_whole c_is_whole
theorem f_need_field (s : Sure S K) (X : K.In base) (G : base.Ns mainGlobals mg) {W : Wd} (fit : Fits K (clsF S K) (exsF S K) W) : FnX W P w K mg base 4 "need_field" 1 m_need_field := fnx_of s X G (mo_all s X G fit 3) (show GOk W P w K mg base 3 G_need_field from gok_cons (f_is_whole s X G fit) (by decide) (gok_nil)) (by decide) (d := dd "need_field" 32) (List.mem_of_getElem? (i := 23) rfl) rfl (by decide +kernel) (by decide +kernel) o_need_field c_need_field
theorem f_in_tuples (s : Sure S K) (X : K.In base) (G : base.Ns mainGlobals mg) {W : Wd} (fit : Fits K (clsF S K) (exsF S K) W) : FnX W P w K mg base 10 "in_tuples" 1 m_in_tuples := fnx_rec s X G (L := 2) (mr := mr_in_tuples) (Gr := G_in_tuples) (h := sh) (N := N_in_tuples) (ps := ["value"]) (ir := i_in_tuples) (fun k => mo_all s X G fit _) (fun k mm hm => show GOk W P w K mg base (2 + k) (G_in_tuples mm) from gok_cons hm (Nat.le_refl _) (gok_nil)) (by decide) (d := dd "in_tuples" 12) (List.mem_of_getElem? (i := 8) rfl) rfl (by decide +kernel) (by decide +kernel) o_in_tuples c_in_tuples rfl (fun _ => rfl) 8
theorem f_lowest (s : Sure S K) (X : K.In base) (G : base.Ns mainGlobals mg) {W : Wd} (fit : Fits K (clsF S K) (exsF S K) W) : FnX W P w K mg base 3 "lowest" 2 m_lowest := fnx_of s X G (mo_all s X G fit 2) (show GOk W P w K mg base 2 G_lowest from gok_nil) (by decide) (d := dd "lowest" 16) (List.mem_of_getElem? (i := 11) rfl) rfl (by decide +kernel) (by decide +kernel) o_lowest c_lowest
theorem f_parted (s : Sure S K) (X : K.In base) (G : base.Ns mainGlobals mg) {W : Wd} (fit : Fits K (clsF S K) (exsF S K) W) : FnX W P w K mg base 4 "parted" 2 m_parted := fnx_of s X G (mo_all s X G fit 3) (show GOk W P w K mg base 3 G_parted from gok_cons (f_lowest s X G fit) (by decide) (gok_nil)) (by decide) (d := dd "parted" 20) (List.mem_of_getElem? (i := 15) rfl) rfl (by decide +kernel) (by decide +kernel) o_parted c_parted
theorem f_over_items (s : Sure S K) (X : K.In base) (G : base.Ns mainGlobals mg) {W : Wd} (fit : Fits K (clsF S K) (exsF S K) W) : FnX W P w K mg base 5 "over_items" 3 m_over_items := fnx_of s X G (mo_all s X G fit 4) (show GOk W P w K mg base 4 G_over_items from gok_cons (f_parted s X G fit) (by decide) (gok_nil)) (by decide) (d := dd "over_items" 28) (List.mem_of_getElem? (i := 21) rfl) rfl (by decide +kernel) (by decide +kernel) o_over_items c_over_items
theorem f_is_nothing (s : Sure S K) (X : K.In base) (G : base.Ns mainGlobals mg) {W : Wd} (fit : Fits K (clsF S K) (exsF S K) W) : FnX W P w K mg base 3 "is_nothing" 2 m_is_nothing := fnx_of s X G (mo_all s X G fit 2) (show GOk W P w K mg base 2 G_is_nothing from gok_nil) (by decide) (d := dd "is_nothing" 25) (List.mem_of_getElem? (i := 18) rfl) rfl (by decide +kernel) (by decide +kernel) o_is_nothing c_is_nothing
theorem f_lessened (s : Sure S K) (X : K.In base) (G : base.Ns mainGlobals mg) {W : Wd} (fit : Fits K (clsF S K) (exsF S K) W) : FnX W P w K mg base 4 "lessened" 2 m_lessened := fnx_of s X G (mo_all s X G fit 3) (show GOk W P w K mg base 3 G_lessened from gok_cons (f_lowest s X G fit) (by decide) (gok_nil)) (by decide) (d := dd "lessened" 18) (List.mem_of_getElem? (i := 13) rfl) rfl (by decide +kernel) (by decide +kernel) o_lessened c_lessened
theorem f_less_items (s : Sure S K) (X : K.In base) (G : base.Ns mainGlobals mg) {W : Wd} (fit : Fits K (clsF S K) (exsF S K) W) : FnX W P w K mg base 5 "less_items" 3 m_less_items := fnx_of s X G (mo_all s X G fit 4) (show GOk W P w K mg base 4 G_less_items from gok_cons (f_lessened s X G fit) (by decide) (gok_nil)) (by decide) (d := dd "less_items" 26) (List.mem_of_getElem? (i := 19) rfl) rfl (by decide +kernel) (by decide +kernel) o_less_items c_less_items
theorem f_scaled (s : Sure S K) (X : K.In base) (G : base.Ns mainGlobals mg) {W : Wd} (fit : Fits K (clsF S K) (exsF S K) W) : FnX W P w K mg base 4 "scaled" 2 m_scaled := fnx_of s X G (mo_all s X G fit 3) (show GOk W P w K mg base 3 G_scaled from gok_cons (f_lowest s X G fit) (by decide) (gok_nil)) (by decide) (d := dd "scaled" 19) (List.mem_of_getElem? (i := 14) rfl) rfl (by decide +kernel) (by decide +kernel) o_scaled c_scaled
theorem f_times_items (s : Sure S K) (X : K.In base) (G : base.Ns mainGlobals mg) {W : Wd} (fit : Fits K (clsF S K) (exsF S K) W) : FnX W P w K mg base 5 "times_items" 3 m_times_items := fnx_of s X G (mo_all s X G fit 4) (show GOk W P w K mg base 4 G_times_items from gok_cons (f_scaled s X G fit) (by decide) (gok_nil)) (by decide) (d := dd "times_items" 27) (List.mem_of_getElem? (i := 20) rfl) rfl (by decide +kernel) (by decide +kernel) o_times_items c_times_items
theorem f_row_less (s : Sure S K) (X : K.In base) (G : base.Ns mainGlobals mg) {W : Wd} (fit : Fits K (clsF S K) (exsF S K) W) : FnX W P w K mg base 6 "row_less" 4 m_row_less := fnx_of s X G (mo_all s X G fit 5) (show GOk W P w K mg base 5 G_row_less from gok_cons (f_is_nothing s X G fit) (by decide) (gok_cons (f_less_items s X G fit) (by decide) (gok_cons (f_times_items s X G fit) (by decide) (gok_nil)))) (by decide) (d := dd "row_less" 29) (List.mem_of_getElem? (i := 22) rfl) rfl (by decide +kernel) (by decide +kernel) o_row_less c_row_less
theorem f_steps (s : Sure S K) (X : K.In base) (G : base.Ns mainGlobals mg) {W : Wd} (fit : Fits K (clsF S K) (exsF S K) W) : FnX W P w K mg base 7 "steps" 3 m_steps := fnx_of s X G (mo_all s X G fit 6) (show GOk W P w K mg base 6 G_steps from gok_cons (f_is_nothing s X G fit) (by decide) (gok_cons (f_over_items s X G fit) (by decide) (gok_cons (f_row_less s X G fit) (by decide) (gok_nil)))) (by decide) (d := dd "steps" 38) (List.mem_of_getElem? (i := 29) rfl) rfl (by decide +kernel) (by decide +kernel) o_steps c_steps
theorem f_reduced_of (s : Sure S K) (X : K.In base) (G : base.Ns mainGlobals mg) {W : Wd} (fit : Fits K (clsF S K) (exsF S K) W) : FnX W P w K mg base 8 "reduced_of" 3 m_reduced_of := fnx_of s X G (mo_all s X G fit 7) (show GOk W P w K mg base 7 G_reduced_of from gok_cons (f_steps s X G fit) (by decide) (gok_nil)) (by decide) (d := dd "reduced_of" 39) (List.mem_of_getElem? (i := 30) rfl) rfl (by decide +kernel) (by decide +kernel) o_reduced_of c_reduced_of
theorem f_are_ports (s : Sure S K) (X : K.In base) (G : base.Ns mainGlobals mg) {W : Wd} (fit : Fits K (clsF S K) (exsF S K) W) : FnX W P w K mg base 4 "are_ports" 1 m_are_ports := fnx_of s X G (mo_all s X G fit 3) (show GOk W P w K mg base 3 G_are_ports from gok_cons (f_is_whole s X G fit) (by decide) (gok_nil)) (by decide) (d := dd "are_ports" 45) (List.mem_of_getElem? (i := 34) rfl) rfl (by decide +kernel) (by decide +kernel) o_are_ports c_are_ports
theorem f_is_tuple_of (s : Sure S K) (X : K.In base) (G : base.Ns mainGlobals mg) {W : Wd} (fit : Fits K (clsF S K) (exsF S K) W) : FnX W P w K mg base 3 "is_tuple_of" 2 m_is_tuple_of := fnx_of s X G (mo_all s X G fit 2) (show GOk W P w K mg base 2 G_is_tuple_of from gok_nil) (by decide) (d := dd "is_tuple_of" 13) (List.mem_of_getElem? (i := 9) rfl) rfl (by decide +kernel) (by decide +kernel) o_is_tuple_of c_is_tuple_of
theorem f_is_pair (s : Sure S K) (X : K.In base) (G : base.Ns mainGlobals mg) {W : Wd} (fit : Fits K (clsF S K) (exsF S K) W) : FnX W P w K mg base 4 "is_pair" 1 m_is_pair := fnx_of s X G (mo_all s X G fit 3) (show GOk W P w K mg base 3 G_is_pair from gok_cons (f_is_whole s X G fit) (by decide) (gok_nil)) (by decide) (d := dd "is_pair" 15) (List.mem_of_getElem? (i := 10) rfl) rfl (by decide +kernel) (by decide +kernel) o_is_pair c_is_pair
theorem f_is_item (s : Sure S K) (X : K.In base) (G : base.Ns mainGlobals mg) {W : Wd} (fit : Fits K (clsF S K) (exsF S K) W) : FnX W P w K mg base 5 "is_item" 2 m_is_item := fnx_of s X G (mo_all s X G fit 4) (show GOk W P w K mg base 4 G_is_item from gok_cons (f_is_whole s X G fit) (by decide) (gok_cons (f_is_pair s X G fit) (by decide) (gok_nil))) (by decide) (d := dd "is_item" 23) (List.mem_of_getElem? (i := 16) rfl) rfl (by decide +kernel) (by decide +kernel) o_is_item c_is_item
theorem f_is_row (s : Sure S K) (X : K.In base) (G : base.Ns mainGlobals mg) {W : Wd} (fit : Fits K (clsF S K) (exsF S K) W) : FnX W P w K mg base 6 "is_row" 3 m_is_row := fnx_of s X G (mo_all s X G fit 5) (show GOk W P w K mg base 5 G_is_row from gok_cons (f_is_tuple_of s X G fit) (by decide) (gok_cons (f_is_item s X G fit) (by decide) (gok_nil))) (by decide) (d := dd "is_row" 33) (List.mem_of_getElem? (i := 24) rfl) rfl (by decide +kernel) (by decide +kernel) o_is_row c_is_row
theorem f_is_table (s : Sure S K) (X : K.In base) (G : base.Ns mainGlobals mg) {W : Wd} (fit : Fits K (clsF S K) (exsF S K) W) : FnX W P w K mg base 7 "is_table" 3 m_is_table := fnx_of s X G (mo_all s X G fit 6) (show GOk W P w K mg base 6 G_is_table from gok_cons (f_is_row s X G fit) (by decide) (gok_nil)) (by decide) (d := dd "is_table" 36) (List.mem_of_getElem? (i := 27) rfl) rfl (by decide +kernel) (by decide +kernel) o_is_table c_is_table
theorem f_loose_row (s : Sure S K) (X : K.In base) (G : base.Ns mainGlobals mg) {W : Wd} (fit : Fits K (clsF S K) (exsF S K) W) : FnX W P w K mg base 11 "loose_row" 2 m_loose_row := fnx_of s X G (mo_all s X G fit 10) (show GOk W P w K mg base 10 G_loose_row from gok_cons (f_in_tuples s X G fit) (by decide) (gok_nil)) (by decide) (d := dd "loose_row" 35) (List.mem_of_getElem? (i := 26) rfl) rfl (by decide +kernel) (by decide +kernel) o_loose_row c_loose_row
theorem f_told (s : Sure S K) (X : K.In base) (G : base.Ns mainGlobals mg) {W : Wd} (fit : Fits K (clsF S K) (exsF S K) W) : FnX W P w K mg base 5 "told" 1 m_told := fnx_of s X G (mo_all s X G fit 4) (show GOk W P w K mg base 4 G_told from gok_cons (f_is_whole s X G fit) (by decide) (gok_cons (f_is_pair s X G fit) (by decide) (gok_cons (f_lowest s X G fit) (by decide) (gok_nil)))) (by decide) (d := dd "told" 17) (List.mem_of_getElem? (i := 12) rfl) rfl (by decide +kernel) (by decide +kernel) o_told c_told
theorem f_item_of (s : Sure S K) (X : K.In base) (G : base.Ns mainGlobals mg) {W : Wd} (fit : Fits K (clsF S K) (exsF S K) W) : FnX W P w K mg base 6 "item_of" 2 m_item_of := fnx_of s X G (mo_all s X G fit 5) (show GOk W P w K mg base 5 G_item_of from gok_cons (f_told s X G fit) (by decide) (gok_nil)) (by decide) (d := dd "item_of" 24) (List.mem_of_getElem? (i := 17) rfl) rfl (by decide +kernel) (by decide +kernel) o_item_of c_item_of
theorem f_told_row (s : Sure S K) (X : K.In base) (G : base.Ns mainGlobals mg) {W : Wd} (fit : Fits K (clsF S K) (exsF S K) W) : FnX W P w K mg base 7 "told_row" 2 m_told_row := fnx_of s X G (mo_all s X G fit 6) (show GOk W P w K mg base 6 G_told_row from gok_cons (f_item_of s X G fit) (by decide) (gok_nil)) (by decide) (d := dd "told_row" 34) (List.mem_of_getElem? (i := 25) rfl) rfl (by decide +kernel) (by decide +kernel) o_told_row c_told_row
theorem f_table_from (s : Sure S K) (X : K.In base) (G : base.Ns mainGlobals mg) {W : Wd} (fit : Fits K (clsF S K) (exsF S K) W) : FnX W P w K mg base 12 "table_from" 3 m_table_from := fnx_of s X G (mo_all s X G fit 11) (show GOk W P w K mg base 11 G_table_from from gok_cons (f_loose_row s X G fit) (by decide) (gok_cons (f_is_table s X G fit) (by decide) (gok_cons (f_told_row s X G fit) (by decide) (gok_nil)))) (by decide) (d := dd "table_from" 37) (List.mem_of_getElem? (i := 28) rfl) rfl (by decide +kernel) (by decide +kernel) o_table_from c_table_from
theorem f_Box (s : Sure S K) (X : K.In base) (G : base.Ns mainGlobals mg) {W : Wd} (fit : Fits K (clsF S K) (exsF S K) W) : FnX W P w K mg base 14 "Box" 3 m_Box := clx_of s X G fit (h := sh) (Gt' := G_Box) (N := N_Box) (ps := ["self", "field", "widths", "rows"]) (ir := i_Box) (c := 14) (self := "self") (sets := q_Box) (fun a => mo_all s X G (fit.mine a) 12) (fun a => show GOk (W.mine a) P w K mg base 12 G_Box from gok_cons (f_need_field s X G (fit.mine a)) (by decide) (gok_cons (f_in_tuples s X G (fit.mine a)) (by decide) (gok_cons (f_are_ports s X G (fit.mine a)) (by decide) (gok_cons (f_reduced_of s X G (fit.mine a)) (by decide) (gok_cons (f_table_from s X G (fit.mine a)) (by decide) (gok_nil)))))) (by decide) (d := dm "Box" "__init__" "Box.__init__" 44 0) (List.mem_of_getElem? (i := 31) rfl) rfl (by decide +kernel) o_Box rfl (by decide) rfl (by decide +kernel) (by decide +kernel) c_Box
theorem f_l_handed (s : Sure S K) (X : K.In base) (G : base.Ns mainGlobals mg) {W : Wd} (fit : Fits K (clsF S K) (exsF S K) W) : FnX W P w K mg base 5 "_law_handed" 2 m_l_handed := fnx_of s X G (mo_all s X G fit 4) (show GOk W P w K mg base 4 G_l_handed from gok_cons (f_l_draw s X G fit) (by decide) (gok_cons (f_l_pick s X G fit) (by decide) (gok_nil))) (by decide) (d := dd "_law_handed" 58) (List.mem_of_getElem? (i := 46) rfl) rfl (by decide +kernel) (by decide +kernel) o_l_handed c_l_handed
theorem f_l_passed (s : Sure S K) (X : K.In base) (G : base.Ns mainGlobals mg) {W : Wd} (fit : Fits K (clsF S K) (exsF S K) W) : FnX W P w K mg base 6 "_law_passed" 3 m_l_passed := fnx_of s X G (mo_all s X G fit 5) (show GOk W P w K mg base 5 G_l_passed from gok_cons (f_l_handed s X G fit) (by decide) (gok_cons (f_l_pick s X G fit) (by decide) (gok_nil))) (by decide) (d := dd "_law_passed" 69) (List.mem_of_getElem? (i := 57) rfl) rfl (by decide +kernel) (by decide +kernel) o_l_passed c_l_passed
theorem f_l_passed_rows (s : Sure S K) (X : K.In base) (G : base.Ns mainGlobals mg) {W : Wd} (fit : Fits K (clsF S K) (exsF S K) W) : FnX W P w K mg base 7 "_law_passed_rows" 3 m_l_passed_rows := fnx_of s X G (mo_all s X G fit 6) (show GOk W P w K mg base 6 G_l_passed_rows from gok_cons (f_l_passed s X G fit) (by decide) (gok_cons (f_l_pick s X G fit) (by decide) (gok_nil))) (by decide) (d := dd "_law_passed_rows" 70) (List.mem_of_getElem? (i := 58) rfl) rfl (by decide +kernel) (by decide +kernel) o_l_passed_rows c_l_passed_rows
theorem f_l_zero (s : Sure S K) (X : K.In base) (G : base.Ns mainGlobals mg) {W : Wd} (fit : Fits K (clsF S K) (exsF S K) W) : FnX W P w K mg base 3 "_law_zero" 1 m_l_zero := fnx_of s X G (mo_all s X G fit 2) (show GOk W P w K mg base 2 G_l_zero from gok_nil) (by decide) (d := dd "_law_zero" 60) (List.mem_of_getElem? (i := 48) rfl) rfl (by decide +kernel) (by decide +kernel) o_l_zero c_l_zero
theorem f_l_plus (s : Sure S K) (X : K.In base) (G : base.Ns mainGlobals mg) {W : Wd} (fit : Fits K (clsF S K) (exsF S K) W) : FnX W P w K mg base 5 "_law_plus" 2 m_l_plus := fnx_of s X G (mo_all s X G fit 4) (show GOk W P w K mg base 4 G_l_plus from gok_cons (f_l_q s X G fit) (by decide) (gok_nil)) (by decide) (d := dd "_law_plus" 53) (List.mem_of_getElem? (i := 41) rfl) rfl (by decide +kernel) (by decide +kernel) o_l_plus c_l_plus
theorem f_l_add (s : Sure S K) (X : K.In base) (G : base.Ns mainGlobals mg) {W : Wd} (fit : Fits K (clsF S K) (exsF S K) W) : FnX W P w K mg base 6 "_law_add" 3 m_l_add := fnx_of s X G (mo_all s X G fit 5) (show GOk W P w K mg base 5 G_l_add from gok_cons (f_l_plus s X G fit) (by decide) (gok_nil)) (by decide) (d := dd "_law_add" 62) (List.mem_of_getElem? (i := 50) rfl) rfl (by decide +kernel) (by decide +kernel) o_l_add c_l_add
theorem f_l_times (s : Sure S K) (X : K.In base) (G : base.Ns mainGlobals mg) {W : Wd} (fit : Fits K (clsF S K) (exsF S K) W) : FnX W P w K mg base 5 "_law_times" 2 m_l_times := fnx_of s X G (mo_all s X G fit 4) (show GOk W P w K mg base 4 G_l_times from gok_cons (f_l_q s X G fit) (by decide) (gok_nil)) (by decide) (d := dd "_law_times" 54) (List.mem_of_getElem? (i := 42) rfl) rfl (by decide +kernel) (by decide +kernel) o_l_times c_l_times
theorem f_l_mul (s : Sure S K) (X : K.In base) (G : base.Ns mainGlobals mg) {W : Wd} (fit : Fits K (clsF S K) (exsF S K) W) : FnX W P w K mg base 6 "_law_mul" 3 m_l_mul := fnx_of s X G (mo_all s X G fit 5) (show GOk W P w K mg base 5 G_l_mul from gok_cons (f_l_times s X G fit) (by decide) (gok_nil)) (by decide) (d := dd "_law_mul" 64) (List.mem_of_getElem? (i := 52) rfl) rfl (by decide +kernel) (by decide +kernel) o_l_mul c_l_mul
theorem f_l_mix (s : Sure S K) (X : K.In base) (G : base.Ns mainGlobals mg) {W : Wd} (fit : Fits K (clsF S K) (exsF S K) W) : FnX W P w K mg base 7 "_law_mix" 4 m_l_mix := fnx_of s X G (mo_all s X G fit 6) (show GOk W P w K mg base 6 G_l_mix from gok_cons (f_l_zero s X G fit) (by decide) (gok_cons (f_l_item s X G fit) (by decide) (gok_cons (f_l_add s X G fit) (by decide) (gok_cons (f_l_mul s X G fit) (by decide) (gok_nil))))) (by decide) (d := dd "_law_mix" 73) (List.mem_of_getElem? (i := 61) rfl) rfl (by decide +kernel) (by decide +kernel) o_l_mix c_l_mix
theorem f_l_is_zero (s : Sure S K) (X : K.In base) (G : base.Ns mainGlobals mg) {W : Wd} (fit : Fits K (clsF S K) (exsF S K) W) : FnX W P w K mg base 3 "_law_is_zero" 1 m_l_is_zero := fnx_of s X G (mo_all s X G fit 2) (show GOk W P w K mg base 2 G_l_is_zero from gok_nil) (by decide) (d := dd "_law_is_zero" 61) (List.mem_of_getElem? (i := 49) rfl) rfl (by decide +kernel) (by decide +kernel) o_l_is_zero c_l_is_zero
theorem f_l_share (s : Sure S K) (X : K.In base) (G : base.Ns mainGlobals mg) {W : Wd} (fit : Fits K (clsF S K) (exsF S K) W) : FnX W P w K mg base 5 "_law_share" 2 m_l_share := fnx_of s X G (mo_all s X G fit 4) (show GOk W P w K mg base 4 G_l_share from gok_cons (f_l_q s X G fit) (by decide) (gok_nil)) (by decide) (d := dd "_law_share" 56) (List.mem_of_getElem? (i := 44) rfl) rfl (by decide +kernel) (by decide +kernel) o_l_share c_l_share
theorem f_l_over (s : Sure S K) (X : K.In base) (G : base.Ns mainGlobals mg) {W : Wd} (fit : Fits K (clsF S K) (exsF S K) W) : FnX W P w K mg base 6 "_law_over" 3 m_l_over := fnx_of s X G (mo_all s X G fit 5) (show GOk W P w K mg base 5 G_l_over from gok_cons (f_l_share s X G fit) (by decide) (gok_nil)) (by decide) (d := dd "_law_over" 65) (List.mem_of_getElem? (i := 53) rfl) rfl (by decide +kernel) (by decide +kernel) o_l_over c_l_over
theorem f_l_minus (s : Sure S K) (X : K.In base) (G : base.Ns mainGlobals mg) {W : Wd} (fit : Fits K (clsF S K) (exsF S K) W) : FnX W P w K mg base 5 "_law_minus" 2 m_l_minus := fnx_of s X G (mo_all s X G fit 4) (show GOk W P w K mg base 4 G_l_minus from gok_cons (f_l_q s X G fit) (by decide) (gok_nil)) (by decide) (d := dd "_law_minus" 55) (List.mem_of_getElem? (i := 43) rfl) rfl (by decide +kernel) (by decide +kernel) o_l_minus c_l_minus
theorem f_l_sub (s : Sure S K) (X : K.In base) (G : base.Ns mainGlobals mg) {W : Wd} (fit : Fits K (clsF S K) (exsF S K) W) : FnX W P w K mg base 6 "_law_sub" 3 m_l_sub := fnx_of s X G (mo_all s X G fit 5) (show GOk W P w K mg base 5 G_l_sub from gok_cons (f_l_minus s X G fit) (by decide) (gok_nil)) (by decide) (d := dd "_law_sub" 63) (List.mem_of_getElem? (i := 51) rfl) rfl (by decide +kernel) (by decide +kernel) o_l_sub c_l_sub
theorem f_l_reduced (s : Sure S K) (X : K.In base) (G : base.Ns mainGlobals mg) {W : Wd} (fit : Fits K (clsF S K) (exsF S K) W) : FnX W P w K mg base 7 "_law_reduced" 3 m_l_reduced := fnx_of s X G (mo_all s X G fit 6) (show GOk W P w K mg base 6 G_l_reduced from gok_cons (f_l_is_zero s X G fit) (by decide) (gok_cons (f_l_over s X G fit) (by decide) (gok_cons (f_l_sub s X G fit) (by decide) (gok_cons (f_l_mul s X G fit) (by decide) (gok_nil))))) (by decide) (d := dd "_law_reduced" 71) (List.mem_of_getElem? (i := 59) rfl) rfl (by decide +kernel) (by decide +kernel) o_l_reduced c_l_reduced
theorem f_l_span (s : Sure S K) (X : K.In base) (G : base.Ns mainGlobals mg) {W : Wd} (fit : Fits K (clsF S K) (exsF S K) W) : FnX W P w K mg base 8 "_law_span" 3 m_l_span := fnx_of s X G (mo_all s X G fit 7) (show GOk W P w K mg base 7 G_l_span from gok_cons (f_l_reduced s X G fit) (by decide) (gok_nil)) (by decide) (d := dd "_law_span" 77) (List.mem_of_getElem? (i := 65) rfl) rfl (by decide +kernel) (by decide +kernel) o_l_span c_l_span
theorem f_l_odd (s : Sure S K) (X : K.In base) (G : base.Ns mainGlobals mg) {W : Wd} (fit : Fits K (clsF S K) (exsF S K) W) : FnX W P w K mg base 5 "_law_odd" 1 m_l_odd := fnx_of s X G (mo_all s X G fit 4) (show GOk W P w K mg base 4 G_l_odd from gok_cons (f_l_pick s X G fit) (by decide) (gok_nil)) (by decide) (d := dd "_law_odd" 76) (List.mem_of_getElem? (i := 64) rfl) rfl (by decide +kernel) (by decide +kernel) o_l_odd c_l_odd
theorem f_box_key (s : Sure S K) (X : K.In base) (G : base.Ns mainGlobals mg) {W : Wd} (fit : Fits K (clsF S K) (exsF S K) W) : FnX W P w K mg base 3 "box_key" 1 m_box_key := fnx_of s X G (mo_all s X G fit 2) (show GOk W P w K mg base 2 G_box_key from gok_nil) (by decide) (d := dd "box_key" 46) (List.mem_of_getElem? (i := 35) rfl) rfl (by decide +kernel) (by decide +kernel) o_box_key c_box_key
theorem f_Box_eq (s : Sure S K) (X : K.In base) (G : base.Ns mainGlobals mg) {W : Wd} (fit : Fits K (clsF S K) (exsF S K) W) : FnX W P w K mg base 4 "__eq__" 14 m_Box_eq := met_of s X G fit (mo_all s X G fit 3) (show GOk W P w K mg base 3 G_Box_eq from gok_cons (f_box_key s X G fit) (by decide) (gok_nil)) (by decide) (d := dm "Box" "__eq__" "Box.__eq__" 44 1) (List.mem_of_getElem? (i := 32) rfl) rfl (by decide +kernel) (by decide +kernel) (by decide +kernel) o_Box_eq rfl c_Box_eq
theorem f_Box_ne (s : Sure S K) (X : K.In base) (G : base.Ns mainGlobals mg) {W : Wd} (fit : Fits K (clsF S K) (exsF S K) W) : FnX W P w K mg base 5 "__ne__" 14 m_Box_ne := met_of s X G fit (mo_all s X G fit 4) (show GOk W P w K mg base 4 G_Box_ne from gok_cons (f_Box_eq s X G fit) (by decide) (gok_nil)) (by decide) (d := dm "Box" "__ne__" "Box.__ne__" 44 2) (List.mem_of_getElem? (i := 33) rfl) rfl (by decide +kernel) (by decide +kernel) (by decide +kernel) o_Box_ne rfl c_Box_ne
theorem f_l_case (s : Sure S K) (X : K.In base) (G : base.Ns mainGlobals mg) {W : Wd} (fit : Fits K (clsF S K) (exsF S K) W) : FnX W P w K mg base 15 "_law_case" 1 m_l_case := fnx_of s X G (mo_all s X G fit 14) (show GOk W P w K mg base 14 G_l_case from gok_cons (f_l_field s X G fit) (by decide) (gok_cons (f_l_drawn_box s X G fit) (by decide) (gok_cons (f_Box s X G fit) (by decide) (gok_cons (f_l_pick s X G fit) (by decide) (gok_cons (f_l_passed_rows s X G fit) (by decide) (gok_cons (f_l_span s X G fit) (by decide) (gok_cons (f_l_mix s X G fit) (by decide) (gok_cons (f_Box_eq s X G fit) (by decide) (gok_cons (f_Box_ne s X G fit) (by decide) (gok_cons (f_l_odd s X G fit) (by decide) (gok_nil))))))))))) (by decide) (d := dd "_law_case" 79) (List.mem_of_getElem? (i := 67) rfl) rfl (by decide +kernel) (by decide +kernel) o_l_case c_l_case
theorem gok (s : Sure S K) (X : K.In base) (G : base.Ns mainGlobals mg) {W : Wd} (fit : Fits K (clsF S K) (exsF S K) W) : GOk W P w K mg base 15 G_law := gok_cons (f_l_case s X G fit) (by decide) (gok_cons (f_l_pick s X G fit) (by decide) (gok_cons (f_Box s X G fit) (by decide) (gok_nil)))
theorem mo_clo (s : Sure S K) (X : K.In base) (G : base.Ns mainGlobals mg) {W : Wd} (fit : Fits K (clsF S K) (exsF S K) W) (clo : Nat → M D) (hc : CloOk W P w K mg base 16 clo) (L : Nat) (hl : 16 ≤ L) : MOk W { sh with clo := clo } P w K mg base L := { mo_all s X G fit L with clo := hc.mono hl }
theorem f_l_fault (s : Sure S K) (X : K.In base) (G : base.Ns mainGlobals mg) {W : Wd} (fit : Fits K (clsF S K) (exsF S K) W) (clo : Nat → M D) (hc : CloOk W P w K mg base 16 clo) : FnD W P w K mg base 17 "_law_fault" 1 (m_l_fault clo) := fault_of s X G (mo_clo s X G fit clo hc 16 (by decide)) fit rfl (d := dd "_law_fault" 74) (List.mem_of_getElem? (i := 62) rfl) rfl (by decide +kernel) o_l_fault (by decide +kernel) c_l_fault
theorem f_l_are_due (s : Sure S K) (X : K.In base) (G : base.Ns mainGlobals mg) {W : Wd} (fit : Fits K (clsF S K) (exsF S K) W) (clo : Nat → M D) (hc : CloOk W P w K mg base 16 clo) : FnD W P w K mg base 18 "_law_are_due" 1 (m_l_are_due clo) := fnd_of s X G (mo_clo s X G fit clo hc 17 (by decide)) (show GOk W P w K mg base 17 (G_l_are_due clo) from gok_cons (Or.inl ⟨by decide +kernel, Or.inl (f_l_fault s X G fit clo hc)⟩) (by decide) (gok_nil)) (by decide) (d := dd "_law_are_due" 75) (List.mem_of_getElem? (i := 63) rfl) rfl (by decide +kernel) o_l_are_due (c_l_are_due clo)
theorem gcok (s : Sure S K) (X : K.In base) (G : base.Ns mainGlobals mg) {W : Wd} (fit : Fits K (clsF S K) (exsF S K) W) (clo : Nat → M D) (hc : CloOk W P w K mg base 16 clo) : ∀ g ∈ Gc, FnD W P w K mg base 18 g.1 g.2.1 (g.2.2 clo) := by
  intro g hg
  unfold Gc at hg
  simp only [List.mem_cons, List.not_mem_nil, or_false] at hg
  rcases hg with rfl | rfl
  · exact (f_l_fault s X G fit clo hc).mono (by decide)
  · exact (f_l_are_due s X G fit clo hc).mono (by decide)
end
/-! ### the head, the end -/
def PlainLaw : Prop := ∀ (ns : List Int) (fo : Int), ns.length ≤ 63 → 0 ≤ fo → fo < 999999733 → ∃ ρ p', dSs T_law i_law (lawEnv 7 1) ⟨ns, 0, 0, 0, fo⟩ = .ok (.rt (.bl true)) ρ p'
theorem law_at (hlaw : PlainLaw) {w : World} {mg : Str → Option Value} {fa : Addr} {h : Heap} (Y : hk.says w h) (G : h.Ns mainGlobals mg) (hmg : mg ("law" : Str) = some (.ref fa)) :
    ∃ K : PySem.W.Frag, K.In h ∧ LawG PySem.Challenge.rw_webrooms_k32_boxes_made w K 19 63 "script" mg fa h := by
  obtain ⟨K, KX, ⟨y1, y2⟩, ⟨oc0, od0, fd0, osl0, c, P', t1, t2, t3, t4, t5⟩⟩ := Y
  have s : Sure S K := ⟨y1, y2, t_S⟩
  refine ⟨K, KX, ?_⟩
  obtain ⟨fd, F⟩ := s.funD (d := dd "law" 80) (List.mem_of_getElem? (i := 68) rfl)
  have o := defNB_ok o_law
  have hba := o.bindsA F
  obtain ⟨fdp, Fp⟩ := s.funD (d := dd "_law_pen" 48) (List.mem_of_getElem? (i := 36) rfl)
  have op := defNB_ok o_pen
  have hbp := op.binds Fp
  have kpp := Fp.kp
  obtain ⟨ocp, odp, dVp, kVp, docp, pmp, anp, cdvp, ctp, oslp, rfl, lkp, hcdp, _, _⟩ := Fp.ex
  obtain ⟨oc, od, dV, kV, doc, pm, an, cdv, ct, osl, rfl, lk, hcd, _, _⟩ := F.ex
  have lk' : K.lookup (He.ga K "law") = _ := lk
  rw [t1] at lk'
  have hcv : cdv = .ref c := by
    cases lk'
    exact t2
  subst hcv
  have hfa : He.ga K "law" = fa := by
    have e := PySem.W.mg_of KX G (s.ok.glo "law" (by decide +kernel))
    rw [hmg] at e
    cases e
    rfl
  refine ⟨_, [(c, P')], spLaw K 63 P', fun p hp => ?_, fun p hp => ?_, fun p hp => ?_, fun s' u => hba s' [u] rfl, fun H a ns hl hT hS => ⟨a, ns, rfl, hS, hl, hT _ (List.mem_singleton.mpr rfl), fun _ => rfl⟩, fun base kb Gb tb => ?_⟩
  · rw [List.mem_singleton.mp hp]; exact t3
  · rw [List.mem_singleton.mp hp]; exact t4
  · rw [List.mem_singleton.mp hp]; exact t5
  · have T := tb _ (List.mem_singleton.mpr rfl)
    rw [← hfa]
    have FP := pen_sound (P := PySem.Challenge.rw_webrooms_k32_boxes_made.prog) (w := w) (K := K) (mg := mg) (base := base) (L := 17) (PySem.W.mg_none_of kb Gb (s.ok.free "int" (by decide +kernel))) (PySem.W.mg_none_of kb Gb (s.ok.free "list" (by decide +kernel))) lkp hcdp op.fs c_pen
    refine law_sound (L := 15) (L0 := 18) (h := sh) (G := G_law) (Gc := Gc) (lams := lams) (cls := clsF S K) (ecls := exsF S K) (by decide) (by decide) (fun W' base' fit kb' => ?_) (fun W' base' clo fit kb' hc => ?_) (PySem.W.mg_of kb Gb (s.ok.glo "_law_pen" (by decide +kernel))) kpp hbp FP lk hcd o.fs T c_law (by decide) hlaw
    · have X' := PySem.W.Frag.In.keeps kb kb'
      have G' := Gb.keeps kb'
      exact ⟨mo_all s X' G' fit _, gok s X' G' fit⟩
    · exact gcok s (PySem.W.Frag.In.keeps kb kb') (Gb.keeps kb') fit clo hc
end LK
set_option maxHeartbeats 1000000
namespace LK
open PySem PySem.Spec PyProof.Rows DL
theorem con_0 (G : Gt) : (tbOf G sh).con[0]? = some (.tup [.int 0, .int 2, .int 3, .int 5, .int 7]) := rfl
theorem con_1 (G : Gt) : (tbOf G sh).con[1]? = some (.int 24) := rfl
theorem con_2 (G : Gt) : (tbOf G sh).con[2]? = some (.int 6) := rfl
theorem con_3 (G : Gt) : (tbOf G sh).con[3]? = some (.int 4) := rfl
theorem con_4 (G : Gt) : (tbOf G sh).con[4]? = some (.int 12) := rfl
theorem con_5 (G : Gt) : (tbOf G sh).con[5]? = none := rfl
theorem con_6 (G : Gt) : (tbOf G sh).con[6]? = none := rfl
theorem con_7 (G : Gt) : (tbOf G sh).con[7]? = none := rfl
theorem con_8 (G : Gt) : (tbOf G sh).con[8]? = none := rfl
theorem con_9 (G : Gt) : (tbOf G sh).con[9]? = none := rfl
theorem con_10 (G : Gt) : (tbOf G sh).con[10]? = none := rfl
theorem con_11 (G : Gt) : (tbOf G sh).con[11]? = none := rfl
local macro_rules | `(tactic| simp_arith [$a,*]) => `(tactic| simp -implicitDefEqProofs only [Ws_ok, Ws_err, Ws_bad, Ws_seq, Ws_ofE, Wo_ok, Wo_err, Wo_bad, Wo_bind, Wo_pure, Wo_ofO, Wo_ofN, Wo_Mbad, cO_app, cE_app, cS_nx, cS_rt, cS_brk, cS_cnt, fnQ_nx, fnQ_rt, lpQ_nx, lpQ_cnt, lpQ_brk, lpQ_rt, d_var, d_own, d_int, d_str, d_bl, d_non, d_dct0, d_con, d_bin, d_neg, d_cmp, d_isN, d_notN, d_isB, d_chain, d_and, d_or, d_not, d_ifE, d_tup, d_idx, d_slc, d_fld, d_call, d_mk, d_blt, d_bits, d_pget, d_lam, d_callC, d_isi, d_isiT, d_frz, d_mcmp, d_notB, kM1, kM1.kM2, kNotB, mcK_ins, mcK_tup, mcK_int, mcK_non, kM3_b, fnAt_z, fnAt_s, ds_nil, ds_cons, do_nil, do_cons, l_disp, l_comp, l_ofSeq, l_ofRng, l_rep, l_cat, i_seq, i_rng1, i_rng2, i_zip2, i_enum, s_asg, s_asgL, s_unp, s_par, s_stI, s_app, s_pset, s_ret, s_retO, s_retN, s_raise, s_brk, s_cnt, s_pass, s_ex, s_parX, s_parU, s_stI2, st2K_eq, withN_some, x_e, x_l, xs_nil, xs_cons, kEx, kParX, kXs, kXs.kXs2, kXe, kXl, setAllS, kSt2a, kSt2a.kSt2b, kSt2a.kSt2c, kSt2a.kSt2d, i_zip3, l_ofRng2, kI3, kI3.kI3b, kI3.kI3c, s_fz, s_if, s_for, ss_nil, ss_cons, withO_some, withO_none, bindK_some, bindK_none, k1, kB1, kB1.kB2, kX1, kBl_b, fAnd_t, fAnd_f, fOr_t, fOr_f, fNot_e, kTr, kTrO_s, fIf_t, fIf_f, kTup, kLst, kCons1, kCons1.kCons2, kCall, kBlt, kIsN, kNotN, kIsB, kCh1, kCh1.kCh2, kCh3_t, kCh3_f, kSl1, kSl1.kSl2, kSl1.kSl3, kOi, getS, getO, getP, k1L, kL1, kL1.kL2, kAsg, kAsgL, kUnp, kPar, kStI1, kStI1.kStI2, kStI1.kStI3, kApp1, kApp1.kApp2, kPset, kRet, kRetO, kRaise, kIfS, kIfO_t, kIfO_f, kPsO_s, pgetD, pputD, idx_tup, idx_lst, slc_tup, slc_lst, seq_tup, seq_lst, len_tup, len_lst, tuple_tup, tuple_lst, int_int, abs_int, gcd_int, min_int, max_int, truth_bl, truth_int, truth_tup, truth_lst, truth_non, intOf_int, isBl_bl, isNon, ownAt, setAll, bindT, bindTs, putX, appX, fzO, isTy, anyTy, opAdd, opSub, opMul, opDiv, opMod, opPow, cmpEqI, cmpNeI, cmpLt, cmpLe, cmpGt, cmpGe, Option.bind, Option.map, List.set_cons_zero, List.set_cons_succ, List.getElem?_cons_zero, List.getElem?_cons_succ, List.getElem?_nil, List.map_cons, List.map_nil, List.length_map, env0, List.length_cons, List.length_nil, Nat.reduceAdd, Nat.reduceSub, List.replicate_succ, List.replicate_zero, List.cons_append, List.nil_append, List.append_nil, if_true, if_false, decide_true, decide_false, Bool.not_true, Bool.not_false, Bool.false_eq_true, true_and, and_true, and_self, Int.reduceEq, Int.reduceNe, Int.reduceLT, Int.reduceLE, Int.reduceGT, Int.reduceGE, ne_eq, not_false_eq_true, not_true_eq_false, line, con_0, con_1, con_2, con_3, con_4, con_5, con_6, con_7, con_8, con_9, con_10, con_11, inQ_nx, kIns_app, kSets, kSets.kSets2, sets_nil, sets_cons, envN_eq, bq_tt, bq_tf, bq_ft, bq_ff, Nat.reduceLT, $a,*])
local macro_rules | `(tactic| simp_arith! [$a,*]) => `(tactic| simp -implicitDefEqProofs only [Ws_ok, Ws_err, Ws_bad, Ws_seq, Ws_ofE, Wo_ok, Wo_err, Wo_bad, Wo_bind, Wo_pure, Wo_ofO, Wo_ofN, Wo_Mbad, cO_app, cE_app, cS_nx, cS_rt, cS_brk, cS_cnt, fnQ_nx, fnQ_rt, lpQ_nx, lpQ_cnt, lpQ_brk, lpQ_rt, d_var, d_own, d_int, d_str, d_bl, d_non, d_dct0, d_con, d_bin, d_neg, d_cmp, d_isN, d_notN, d_isB, d_chain, d_and, d_or, d_not, d_ifE, d_tup, d_idx, d_slc, d_fld, d_call, d_mk, d_blt, d_bits, d_pget, d_lam, d_callC, d_isi, d_isiT, d_frz, d_mcmp, d_notB, kM1, kM1.kM2, kNotB, mcK_ins, mcK_tup, mcK_int, mcK_non, kM3_b, fnAt_z, fnAt_s, ds_nil, ds_cons, do_nil, do_cons, l_disp, l_comp, l_ofSeq, l_ofRng, l_rep, l_cat, i_seq, i_rng1, i_rng2, i_zip2, i_enum, s_asg, s_asgL, s_unp, s_par, s_stI, s_app, s_pset, s_ret, s_retO, s_retN, s_raise, s_brk, s_cnt, s_pass, s_ex, s_parX, s_parU, s_stI2, st2K_eq, withN_some, x_e, x_l, xs_nil, xs_cons, kEx, kParX, kXs, kXs.kXs2, kXe, kXl, setAllS, kSt2a, kSt2a.kSt2b, kSt2a.kSt2c, kSt2a.kSt2d, i_zip3, l_ofRng2, kI3, kI3.kI3b, kI3.kI3c, s_fz, s_if, s_for, ss_nil, ss_cons, withO_some, withO_none, bindK_some, bindK_none, k1, kB1, kB1.kB2, kX1, kBl_b, fAnd_t, fAnd_f, fOr_t, fOr_f, fNot_e, kTr, kTrO_s, fIf_t, fIf_f, kTup, kLst, kCons1, kCons1.kCons2, kCall, kBlt, kIsN, kNotN, kIsB, kCh1, kCh1.kCh2, kCh3_t, kCh3_f, kSl1, kSl1.kSl2, kSl1.kSl3, kOi, getS, getO, getP, k1L, kL1, kL1.kL2, kAsg, kAsgL, kUnp, kPar, kStI1, kStI1.kStI2, kStI1.kStI3, kApp1, kApp1.kApp2, kPset, kRet, kRetO, kRaise, kIfS, kIfO_t, kIfO_f, kPsO_s, pgetD, pputD, idx_tup, idx_lst, slc_tup, slc_lst, seq_tup, seq_lst, len_tup, len_lst, tuple_tup, tuple_lst, int_int, abs_int, gcd_int, min_int, max_int, truth_bl, truth_int, truth_tup, truth_lst, truth_non, intOf_int, isBl_bl, isNon, ownAt, setAll, bindT, bindTs, putX, appX, fzO, isTy, anyTy, opAdd, opSub, opMul, opDiv, opMod, opPow, cmpEqI, cmpNeI, cmpLt, cmpLe, cmpGt, cmpGe, Option.bind, Option.map, List.set_cons_zero, List.set_cons_succ, List.getElem?_cons_zero, List.getElem?_cons_succ, List.getElem?_nil, List.map_cons, List.map_nil, List.length_map, env0, List.length_cons, List.length_nil, Nat.reduceAdd, Nat.reduceSub, List.replicate_succ, List.replicate_zero, List.cons_append, List.nil_append, List.append_nil, if_true, if_false, decide_true, decide_false, Bool.not_true, Bool.not_false, Bool.false_eq_true, true_and, and_true, and_self, Int.reduceEq, Int.reduceNe, Int.reduceLT, Int.reduceLE, Int.reduceGT, Int.reduceGE, ne_eq, not_false_eq_true, not_true_eq_false, line, con_0, con_1, con_2, con_3, con_4, con_5, con_6, con_7, con_8, con_9, con_10, con_11, inQ_nx, kIns_app, kSets, kSets.kSets2, sets_nil, sets_cons, envN_eq, bq_tt, bq_tf, bq_ft, bq_ff, Nat.reduceLT, turnE, killE, Tg.slots, Tg.slotss, $a,*])
theorem w_draw {many : Int} {k : Nat} {p : Pen} (hm : 0 < many) (hs : Sm 200 many) (hp : PenB (k + 1) p) : Wo (m_l_draw [.pen, .int many] p) (fun d p' => ∃ r : Int, d = .int r ∧ 0 ≤ r ∧ r < many ∧ PenB k p') noE := by
  have hm0 : many ≠ 0 := by omega
  have fin : ∀ i : Int, 0 ≤ i.fmod many ∧ i.fmod many < many := fun i => ⟨Int.fmod_nonneg_of_pos _ hm, Int.fmod_lt_of_pos _ hm⟩
  have tail : ∀ (s : Slot) (q : Pen), PenOk q → q.count + k ≤ 1099511627776 → Ws (dSs (tbOf G_l_draw sh) i_l_draw_2 [.shr .pen, .shr (.int many), s, .un, .un] q) (fnQ fun d p' => ∃ r : Int, d = .int r ∧ 0 ≤ r ∧ r < many ∧ PenB k p') noE := by
    intro s q hq hc
    obtain ⟨h1, h2, h3, h4, h5, h6⟩ := hq
    by_cases hd : 0 < q.digits
    · have c1 : 0 ≤ q.digits.fdiv many := Int.fdiv_nonneg h1 (Int.le_of_lt hm)
      simp_arith [i_l_draw_2, hd, hm0, c1, divOk_of hs (by decide) hm0]
      exact ⟨_, rfl, (fin _).1, (fin _).2, ⟨c1, h2, h3, h4, h5, h6⟩, hc⟩
    · have s1 : Sm 31 q.fold := sm_le (b := 2147483647) (by omega) (by decide)
      have s2 : Sm 41 q.count := sm_le (b := 1099511627776) (by omega) (by decide)
      have s3 : Sm 64 (q.fold + q.count * 7873 + 71) := sm_le (b := 2147483648 + 1099511627776 * 7873 + 71) (by omega) (by decide)
      simp_arith [i_l_draw_2, i_l_draw_3, i_l_draw_4, hd, hm0, mulOk_of s2 (show Sm 13 7873 from by decide) (by decide), powOk_of (i := q.fold + q.count * 7873 + 71) (j := 29) (by decide) (by decide) s3, divOk_of (show Sm 8 128 from by decide) (by decide) (by decide : (128 : Int) ≠ 0)]
      exact ⟨_, rfl, (fin _).1, (fin _).2, ⟨h1, h2, h3, h4, h5, h6⟩, hc⟩
  obtain ⟨⟨h1, h2, h3, h4, h5, h6⟩, hc⟩ := hp
  have c1 : 0 ≤ p.count + 1 := by omega
  have h2' : 0 ≤ (p.count + 1) := c1
  have c2 : p.count + 1 + k ≤ 1099511627776 := by omega
  refine Wo_runF rfl ?_
  by_cases hd : p.digits = 0
  · by_cases ha : (p.at_ : Int) < p.cells.length
    · have ha' : p.at_ < p.cells.length := by omega
      have e1 : L2.atI (p.cells.map D.int) (p.at_ : Int) = some (.int p.cells[p.at_]) := L2.atI_nat (by rw [List.getElem?_map, List.getElem?_eq_getElem ha']; rfl)
      have c3 : (0 : Int) ≤ (p.at_ : Int) + 1 := by omega
      have c4 : (p.at_ : Int) + 1 ≤ p.cells.length := by omega
      have c5 : ((p.at_ : Int) + 1).toNat ≤ p.cells.length := by omega
      have s1 : Sm 31 p.fold := sm_le (b := 2147483647) (by omega) (by decide)
      have po : powOk 10 18 = true := by decide
      by_cases hge : (10 : Int) ^ Int.toNat 18 ≤ p.cells[p.at_]
      · have c6 : 0 ≤ p.cells[p.at_] - 10 ^ Int.toNat 18 := by omega
        simp_arith [i_l_draw, i_l_draw_1, c1, hd, ha, e1, c3, c4, po, hge, c6]
        exact tail _ ⟨p.cells, ((p.at_ : Int) + 1).toNat, p.cells[p.at_] - 10 ^ Int.toNat 18, p.count + 1, p.fold⟩ ⟨c6, h2', h3, h4, c5, h6⟩ c2
      · have c6 : 0 ≤ (p.fold * 40993 + p.cells[p.at_]).fmod 2147483477 := Int.fmod_nonneg_of_pos _ (by decide)
        have c7 : (p.fold * 40993 + p.cells[p.at_]).fmod 2147483477 < 2147483648 := Int.lt_trans (Int.fmod_lt_of_pos _ (by decide)) (by decide)
        simp_arith [i_l_draw, i_l_draw_1, c1, hd, ha, e1, c3, c4, po, hge, mulOk_of s1 (show Sm 16 40993 from by decide) (by decide), c6, c7]
        exact tail _ ⟨p.cells, ((p.at_ : Int) + 1).toNat, 0, p.count + 1, (p.fold * 40993 + p.cells[p.at_]).fmod 2147483477⟩ ⟨Int.le_refl 0, h2', c6, c7, c5, h6⟩ c2
    · simp_arith [i_l_draw, i_l_draw_1, c1, hd, ha]
      exact tail _ { p with digits := 0, count := p.count + 1 } ⟨Int.le_refl 0, h2', h3, h4, h5, h6⟩ c2
  · simp_arith [i_l_draw, i_l_draw_1, c1, hd]
    exact tail _ { p with count := p.count + 1 } ⟨h1, h2', h3, h4, h5, h6⟩ c2
theorem w_drawN {many k : Nat} {p : Pen} (hm : 0 < many) (hs : many ≤ 1000000) (hp : PenB (k + 1) p) : Wo (m_l_draw [.pen, .int (many : Int)] p) (fun d p' => (∃ r : Nat, d = .int (r : Int) ∧ r < many) ∧ PenB k p') noE := by
  refine (w_draw (many := (many : Int)) (by omega) (sm_le (b := 1000000) (by omega) (by decide)) hp).im fun d q => ?_
  rintro ⟨r, rfl, h1, h2, hq⟩
  exact ⟨⟨r.toNat, by rw [Int.toNat_of_nonneg h1], by omega⟩, hq⟩
theorem w_pick {xs : List D} {k : Nat} {p : Pen} (h0 : xs ≠ []) (hl : xs.length < 1000) (hp : PenB (k + 1) p) : Wo (m_l_pick [.pen, .lst xs] p) (fun d p' => d ∈ xs ∧ PenB k p') noE := by
  have hpos : 0 < xs.length := List.length_pos_iff.mpr h0
  refine Wo_runF rfl ?_
  simp_arith [i_l_pick, tf_l_pick]
  refine (w_draw (many := xs.length) (k := k) (by omega) (sm_le (b := 1000) (by omega) (by decide)) hp).im fun d q => ?_
  rintro ⟨r, rfl, h1, h2, hq⟩
  obtain ⟨j, rfl⟩ : ∃ j : Nat, r = j := ⟨r.toNat, by omega⟩
  have hj : j < xs.length := by omega
  have e : L2.atI xs (j : Int) = some xs[j] := L2.atI_nat (List.getElem?_eq_getElem hj)
  simp_arith [e]
  exact ⟨List.getElem_mem hj, hq⟩
theorem w_field {k : Nat} {p : Pen} (hp : PenB (k + 1) p) : Wo (m_l_field [.pen] p) (fun d p' => (∃ (C : Type) (i : Fd C), KindF C i ∧ d = .int (Fd.fl C)) ∧ PenB k p') noE := by
  refine Wo_runF rfl ?_
  simp_arith [i_l_field, tf_l_field]
  refine (w_pick (k := k) (by decide) (by decide) hp).im fun d q2 => ?_
  rintro ⟨hd, hq2⟩
  simp_arith []
  refine ⟨?_, hq2⟩
  simp only [List.mem_cons, List.not_mem_nil, or_false] at hd
  rcases hd with rfl | rfl | rfl | rfl | rfl | rfl
  · exact ⟨Rat, fdRat, .rat, rfl⟩
  · exact ⟨Fin 2, fd2, .f2, rfl⟩
  · exact ⟨Fin 2, fd2, .f2, rfl⟩
  · exact ⟨Fin 3, fd3, .f3, rfl⟩
  · exact ⟨Fin 5, fd5, .f5, rfl⟩
  · exact ⟨Fin 7, fd7, .f7, rfl⟩
theorem w_widths {many most total k : Nat} {p : Pen} (h1 : most ≤ 1000) (h2 : total ≤ 1000) (hm : many ≤ 1000) (hp : PenB (k + many) p) : Wo (m_l_widths [.pen, .int (many : Int), .int (most : Int), .int (total : Int)] p) (fun d p' => (∃ ws : List Nat, d = .tup (hds ws) ∧ ws.length = many ∧ (∀ x ∈ ws, x ≤ most) ∧ ws.sum ≤ total) ∧ PenB k p') noE := by
  refine Wo_runF rfl ?_
  simp_arith [i_l_widths, i_l_widths_1, tf_l_widths, rng1N (show many ≤ 16777216 by omega)]
  refine Ws_for (fun j ρ q => PenB (k + (many - j)) q ∧ ∃ (ws : List Nat), (ws.length = j ∧ (∀ x ∈ ws, x ≤ most) ∧ ws.sum ≤ total) ∧ ∃ s5, ρ = [.shr .pen, .shr (.int (many : Int)), .shr (.int (most : Int)), .shr (.int (total : Int)), .own (hds ws), s5])
    ⟨by simpa using hp, [], ⟨rfl, (fun x hx => by cases hx), Nat.zero_le _⟩, _, rfl⟩ ?_ ?_
  · rintro j x ρ q hx ⟨hq, ws, ⟨hw1, hw2, hw3⟩, s5, rfl⟩
    obtain ⟨rfl, hj⟩ := hdsR_at hx
    refine ⟨_, rfl, ?_⟩
    have e1 : ((most : Int) + 1) = ((most + 1 : Nat) : Int) := by omega
    simp_arith [i_l_widths_b1, tf_l_widths, e1]
    refine (w_drawN (many := most + 1) (k := k + (many - (j + 1))) (by omega) (by omega) (hq.mono (by omega))).im fun d q2 hz => ?_
    obtain ⟨⟨r, rfl, hr⟩, hq2⟩ := hz
    have e2 : (if (total : Int) - (ws.sum : Nat) < (r : Int) then (total : Int) - (ws.sum : Nat) else (r : Int)) = ((min r (total - ws.sum) : Nat) : Int) := by
      split <;> omega
    simp_arith [sum_hds_l, e2]
    rw [if_pos (show ws.length < 16777216 by omega)]
    simp_arith []
    refine ⟨hq2, ws ++ [min r (total - ws.sum)], ⟨by simp [hw1], fun x hx => ?_, by rw [List.sum_append]; simp; omega⟩, .shr (.int j), by simp [hds]⟩
    rcases List.mem_append.mp hx with hx | hx
    · exact hw2 x hx
    · rw [List.mem_singleton.mp hx]; omega
  · rintro ρ q ⟨hq, ws, ⟨hw1, hw2, hw3⟩, s5, rfl⟩
    rw [show (hds (List.range many)).length = many from by simp [hds]] at hw1
    simp_arith [i_l_widths_2]
    exact ⟨⟨ws, rfl, hw1, hw2, hw3⟩, hq.mono (by omega)⟩
section
variable {p : Pen} {n m : Nat} {a b : Rat} {x y : D}
theorem e_lgcd {i j : Int} (hj : Sm 100000 j) : m_l_gcd [.int i, .int j] p = .ok (.int ((Nat.gcd i.natAbs j.natAbs : Nat) : Int)) p := by
  generalize ha' : (if i < 0 then -i else i) = a'
  generalize hb' : (if j < 0 then -j else j) = b'
  have ha0 : 0 ≤ a' ∧ a'.natAbs = i.natAbs := by rw [← ha']; split <;> omega
  have hb0 : 0 ≤ b' ∧ b'.natAbs = j.natAbs := by rw [← hb']; split <;> omega
  have hl : b'.natAbs.log2 < 100000 := by rw [hb0.2]; exact hj.log (by decide)
  have hbits : (Builtin.Int.intBits b' : Int) ≤ 100001 := by unfold Builtin.Int.intBits; split <;> omega
  have hbits0 : 2 * b'.natAbs.log2 + 3 ≤ (4 + 2 * (Builtin.Int.intBits b' : Int) - 0).toNat := by
    unfold Builtin.Int.intBits
    split
    · rename_i h0
      have : b' = 0 := by simpa using h0
      rw [this]; decide
    · omega
  have hm := mulOk_of (show Sm 2 2 from by decide) (sm_le (i := (Builtin.Int.intBits b' : Int)) (b := 100001) (n := 17) (by omega) (by decide)) (by decide)
  have hr : rng1D (.int (4 + 2 * (Builtin.Int.intBits b' : Int))) = some (rngD 0 (4 + 2 * (Builtin.Int.intBits b' : Int))) := rng1_int (by omega) (by omega)
  refine eq_of_W (Wo_runF rfl ?_)
  simp_arith [i_l_gcd, i_l_gcd_1, tf_l_gcd, ha', hb', hm, hr]
  have hG : euclid (rngD 0 (4 + 2 * (Builtin.Int.intBits b' : Int))).length a' b' = ((Nat.gcd i.natAbs j.natAbs : Nat) : Int) := by
    rw [rngD_len, euclid_ok _ _ _ ha0.1 hb0.1 hbits0, ha0.2, hb0.2]
  generalize (rngD 0 (4 + 2 * (Builtin.Int.intBits b' : Int))) = xs at *
  refine Ws_for (fun k ρ q => q = p ∧ ∃ a b s, ρ = [.shr (.int a), .shr (.int b), s] ∧ euclid (xs.length - k) a b = ((Nat.gcd i.natAbs j.natAbs : Nat) : Int)) ⟨rfl, _, _, _, rfl, hG⟩ ?_ ?_
  · rintro k x ρ q hx ⟨rfl, a, b, s, rfl, hab⟩
    have hk : k < xs.length := (List.getElem?_eq_some_iff.mp hx).1
    obtain ⟨m, hm'⟩ : ∃ m, xs.length - k = m + 1 := ⟨xs.length - k - 1, by omega⟩
    have hm2 : xs.length - (k + 1) = m := by omega
    rw [hm'] at hab
    unfold euclid at hab
    refine ⟨_, rfl, ?_⟩
    by_cases h0 : b = 0
    · subst h0
      rw [if_pos rfl] at hab
      simp_arith [i_l_gcd_b1, i_l_gcd_2, hab]
    · rw [if_neg h0] at hab
      simp_arith [i_l_gcd_b1, i_l_gcd_b1_1, h0]
      exact ⟨_, _, _, rfl, by rw [hm2]; exact hab⟩
  · rintro ρ q ⟨rfl, a, b, s, rfl, hab⟩
    rw [Nat.sub_self] at hab
    unfold euclid at hab
    simp_arith [i_l_gcd_2, hab]
end
section
variable {p : Pen} {n m : Nat} {a b : Rat} {x y : D}
theorem e_lq {t b : Int} (h : b ≠ 0) (hb : Sm n b) (hn : n ≤ 8999) : m_l_q [.int t, .int b] p = .ok (qd (Rat.divInt t b)) p := by
  have hd := divOk_of (gsg_sm (t := t) h hb) hn (gsg_ne h)
  have e := e_lgcd (p := p) (i := t) (hb.mono (by omega : n ≤ 100000))
  refine eq_of_W (Wo_runF rfl ?_)
  rw [← low_eq h]
  by_cases h0 : 0 < b
  · have hg : gsg t b = ((Nat.gcd t.natAbs b.natAbs : Nat) : Int) := by unfold gsg; rw [if_pos h0]
    have h1 : ¬ b < 0 := by omega
    rw [hg] at hd ⊢
    simp_arith [i_l_q, i_l_q_1, i_l_q_2, tf_l_q, h1, e, hd]
  · have hg : gsg t b = -((Nat.gcd t.natAbs b.natAbs : Nat) : Int) := by unfold gsg; rw [if_neg h0]
    have h1 : b < 0 := by omega
    rw [hg] at hd ⊢
    simp_arith [i_l_q, i_l_q_1, i_l_q_2, tf_l_q, h1, e, hd]
end
theorem w_number {most : Int} {k : Nat} {p : Pen} (h0 : 0 ≤ most) (hm : most ≤ 99999) (hp : PenB (k + 2) p) : Wo (m_l_number [.pen, .int most] p) (fun d p' => ∃ q, d = qd q ∧ QS 17 q ∧ (∃ t c : Int, q = Rat.divInt t c ∧ t.natAbs ≤ most.natAbs ∧ (c = 1 ∨ c = 2 ∨ c = 3)) ∧ PenB k p') noE := by
  have m1 := mulOk_of (show Sm 2 2 from by decide) (sm_le (i := most) (b := 99999) (n := 17) (by omega) (by decide)) (by decide)
  refine Wo_runF rfl ?_
  simp_arith [i_l_number, i_l_number_1, tf_l_number, m1]
  refine (w_draw (many := 2 * most + 1) (k := k + 1) (by omega) (sm_le (b := 200000) (by omega) (by decide)) hp).im fun d q => ?_
  rintro ⟨r, rfl, h1, h2, hq⟩
  simp_arith []
  refine (w_pick (k := k) (by decide) (by decide) hq).im fun d q2 => ?_
  rintro ⟨hd, hq2⟩
  have : ∃ c : Int, d = .int c ∧ 0 < c ∧ c ≤ 3 ∧ (c = 1 ∨ c = 2 ∨ c = 3) := by
    simp only [List.mem_cons, List.not_mem_nil, or_false] at hd
    rcases hd with rfl | rfl | rfl | rfl | rfl <;> exact ⟨_, rfl, by decide, by decide, by decide⟩
  obtain ⟨c, rfl, c1, c2, c3⟩ := this
  have hs : Sm 17 c := sm_le (b := 3) (by omega) (by decide)
  simp_arith [tf_l_number, e_lq (p := q2) (t := r - most) (b := c) (Int.ne_of_gt c1) hs (by decide)]
  exact ⟨_, rfl, qs_divInt (Int.ne_of_gt c1) (sm_le (b := 99999) (by omega) (by decide)) hs, ⟨r - most, c, rfl, by omega, c3⟩, hq2⟩
theorem rin_drawn {t c : Int} (h1 : t.natAbs ≤ 3) (h2 : c = 1 ∨ c = 2 ∨ c = 3) : RIn 5 6 (Rat.divInt t c) := by
  rcases h2 with rfl | rfl | rfl
  · refine ⟨t * 6, sm_le (b := 18) (by omega) (by decide), ?_⟩
    rw [Rat.divInt_eq_div, Rat.intCast_mul]; grind
  · refine ⟨t * 3, sm_le (b := 9) (by omega) (by decide), ?_⟩
    rw [Rat.divInt_eq_div, Rat.intCast_mul]; grind
  · refine ⟨t * 2, sm_le (b := 6) (by omega) (by decide), ?_⟩
    rw [Rat.divInt_eq_div, Rat.intCast_mul]; grind
theorem p_item {m : Nat} [NeZero m] (h : Pm m) {k : Nat} {p : Pen} (hp : PenB (k + 2) p) : Wo (m_l_item [.pen, .int m] p) (fun d p' => (∃ x : Fin m, d = .int x.val) ∧ PenB k p') noE := by
  refine Wo_runF rfl ?_
  have hm := h.le
  simp_arith [i_l_item, tf_l_item, h.dec]
  refine (w_draw (many := (m : Int)) (k := k + 1) hm.2 (sm_le (b := 7) (by omega) (by decide)) hp).im fun d q => ?_
  rintro ⟨r, rfl, h1, h2, hq⟩
  simp_arith []
  refine ⟨⟨⟨r.toNat, by omega⟩, ?_⟩, hq.mono (by omega)⟩
  show D.int r = D.int ((r.toNat : Nat) : Int)
  rw [Int.toNat_of_nonneg h1]
theorem w_item {C : Type} [i : Fd C] (kf : KindF C i) {k : Nat} {p : Pen} (hp : PenB (k + 2) p) : Wo (m_l_item [.pen, .int (Fd.fl C)] p) (fun d p' => (∃ x : C, d = Fd.enc x ∧ Fd.In 5 Fd.dr x) ∧ PenB k p') noE := by
  cases kf with
  | rat =>
    show Wo (m_l_item [.pen, .int 0] p) _ _
    refine Wo_runF rfl ?_
    simp_arith [i_l_item, tf_l_item]
    refine (w_number (most := 3) (k := k) (by decide) (by decide) hp).im fun d q => ?_
    rintro ⟨x, rfl, _, ⟨t, c, rfl, h1, h2⟩, hq⟩
    simp_arith []
    exact ⟨⟨_, rfl, rin_drawn h1 h2⟩, hq⟩
  | f2 => exact (p_item (.inl rfl) hp).im fun d q ⟨⟨x, hx⟩, hq⟩ => ⟨⟨x, hx, trivial⟩, hq⟩
  | f3 => exact (p_item (.inr (.inl rfl)) hp).im fun d q ⟨⟨x, hx⟩, hq⟩ => ⟨⟨x, hx, trivial⟩, hq⟩
  | f5 => exact (p_item (.inr (.inr (.inl rfl))) hp).im fun d q ⟨⟨x, hx⟩, hq⟩ => ⟨⟨x, hx, trivial⟩, hq⟩
  | f7 => exact (p_item (.inr (.inr (.inr rfl))) hp).im fun d q ⟨⟨x, hx⟩, hq⟩ => ⟨⟨x, hx, trivial⟩, hq⟩
section
variable {p : Pen} {k : Nat} {C : Type} [i : Fd C]
theorem w_row (kf : KindF C i) {w : Nat} (hw : w ≤ 1000) (hp : PenB (k + 2 * w) p) : Wo (m_l_row [.pen, .int (Fd.fl C), .int w] p) (fun d p' => (∃ r : List C, d = .tup (encs r) ∧ r.length = w ∧ ∀ x ∈ r, Fd.In 5 Fd.dr x) ∧ PenB k p') noE := by
  refine Wo_runF rfl ?_
  simp_arith [i_l_row, tf_l_row, rng1N (show w ≤ 16777216 by omega)]
  refine W_draw (fun t : Nat => .int (t : Int)) (fun x : C => Fd.enc x) (fun _ x => Fd.In 5 Fd.dr x) 2 k (List.range w) (by rw [List.length_range]; exact hp) (fun t ht k' q hq => ⟨_, rfl, ?_⟩) fun bs q hb hq => ?_
  · simp_arith! [tf_l_row]
    refine (w_item kf (k := k') hq).im fun d q2 => ?_
    rintro ⟨⟨x, rfl, hx⟩, hq2⟩
    simp_arith! []
    exact ⟨x, rfl, hx, hq2⟩
  · simp_arith []
    exact ⟨⟨bs, rfl, by rw [hb.len, List.length_range], hb.all fun _ _ _ h => h⟩, hq⟩
end
section
variable {p : Pen} {k : Nat} {C : Type} [i : Fd C]
theorem w_table (kf : KindF C i) {t w : Nat} (ht : t ≤ 1000) (hw : w ≤ 1000) (hp : PenB (k + 2 * w * t) p) : Wo (m_l_table [.pen, .int (Fd.fl C), .int t, .int w] p) (fun d p' => (∃ R : List (List C), d = .tup (trows R) ∧ R.length = t ∧ Rl w R ∧ AllIn 5 Fd.dr R) ∧ PenB k p') noE := by
  refine Wo_runF rfl ?_
  simp_arith [i_l_table, tf_l_table, rng1N (show t ≤ 16777216 by omega)]
  refine W_draw (fun t : Nat => .int (t : Int)) (fun r : List C => .tup (encs r)) (fun _ r => r.length = w ∧ ∀ x ∈ r, Fd.In 5 Fd.dr x) (2 * w) k (List.range t) (by rw [List.length_range]; exact hp) (fun t ht k' q hq => ⟨_, rfl, ?_⟩) fun bs q hb hq => ?_
  · simp_arith! [tf_l_table]
    refine (w_row kf (k := k') hw hq).im fun d q2 => ?_
    rintro ⟨⟨x, rfl, hx⟩, hq2⟩
    simp_arith! []
    exact ⟨x, rfl, hx, hq2⟩
  · simp_arith []
    exact ⟨⟨bs, rfl, by rw [hb.len, List.length_range], hb.all fun _ _ _ h => h.1, hb.all fun _ _ _ h => h.2⟩, hq⟩
end
section
variable {p : Pen} {k : Nat} {C : Type} [i : Fd C]
theorem w_drawn_box (kf : KindF C i) (hp : PenB (k + 200) p) : Wo (m_l_drawn_box [.pen, .int (Fd.fl C)] p) (fun d p' => (∃ (ws : List Nat) (R : List (List C)), d = .tup [.tup (hds ws), .tup (trows R)] ∧ ws.length ≤ 4 ∧ (∀ x ∈ ws, x ≤ 3) ∧ ws.sum ≤ 7 ∧ R.length ≤ 8 ∧ Rl ws.sum R ∧ AllIn 5 Fd.dr R) ∧ PenB k p') noE := by
  refine Wo_runF rfl ?_
  simp_arith [i_l_drawn_box, tf_l_drawn_box]
  refine (w_drawN (many := 5) (k := k + 199) (by decide) (by decide) hp).im fun d q1 hz => ?_
  obtain ⟨⟨m, rfl, hm⟩, hq1⟩ := hz
  simp_arith [tf_l_drawn_box]
  refine (w_widths (many := m) (most := 3) (total := 7) (k := k + 190) (by decide) (by decide) (by omega) (hq1.mono (by omega))).im fun d q2 hz => ?_
  obtain ⟨⟨ws, rfl, hw1, hw2, hw3⟩, hq2⟩ := hz
  have e1 : ((ws.sum : Nat) : Int) + 2 = ((ws.sum + 2 : Nat) : Int) := by omega
  simp_arith [i_l_drawn_box_1, tf_l_drawn_box, sum_hds_t, e1]
  refine (w_drawN (many := ws.sum + 2) (k := k + 189) (by omega) (by omega) (hq2.mono (by omega))).im fun d q3 hz => ?_
  obtain ⟨⟨t, rfl, ht⟩, hq3⟩ := hz
  have nl : 2 * ws.sum * t ≤ 14 * 8 := Nat.mul_le_mul (by omega) (by omega)
  simp_arith [tf_l_drawn_box, sum_hds_t]
  refine (w_table kf (k := k) (t := t) (w := ws.sum) (by omega) (by omega) (hq3.mono (by omega))).im fun d q4 hz => ?_
  obtain ⟨⟨R, rfl, hR1, hR2, hR3⟩, hq4⟩ := hz
  simp_arith [i_l_drawn_box_2]
  exact ⟨⟨ws, R, rfl, by omega, hw2, hw3, by omega, hR2, hR3⟩, hq4⟩
end
section
variable {p : Pen} {n m : Nat} {a b : Rat} {x y : D}
theorem e_whole {i : Int} : m_is_whole [.int i] p = .ok (.bl true) p := rfl
theorem e_whole_t {xs : List D} : m_is_whole [.tup xs] p = .ok (.bl false) p := rfl
theorem e_whole_l {xs : List D} : m_is_whole [.lst xs] p = .ok (.bl false) p := rfl
end
section
variable {p : Pen} {n m : Nat} {C : Type} [i : Fd C]
theorem e_need_field (k : KindF C i) : m_need_field [.int (Fd.fl C)] p = .ok .non p := by
  rcases kind_fl k with h | h | h | h | h <;> rw [h] <;> rfl
end
section
variable {p : Pen} {n m : Nat} {C : Type} [i : Fd C]
theorem e_in_tuples_hd {q : Rat} {d : D} (h : Hd n q d) : ∃ d', (∀ p, m_in_tuples [d] p = .ok d' p) ∧ Hd n q d' := by
  cases h with
  | whole h1 h2 h3 => exact ⟨_, fun p => rfl, .whole h1 h2 h3⟩
  | tup h1 h2 h3 => exact ⟨_, fun p => rfl, .tup h1 h2 h3⟩
  | lst h1 h2 h3 => exact ⟨_, fun p => rfl, .tup h1 h2 h3⟩
theorem e_in_tuples_it (k : KindF C i) {x : C} {d : D} (h : Fd.hd x d) : ∃ d', (∀ p, m_in_tuples [d] p = .ok d' p) ∧ Fd.hd x d' := by
  cases k with
  | rat => exact e_in_tuples_hd h
  | f2 => cases h; exact ⟨_, fun p => rfl, rfl⟩
  | f3 => cases h; exact ⟨_, fun p => rfl, rfl⟩
  | f5 => cases h; exact ⟨_, fun p => rfl, rfl⟩
  | f7 => cases h; exact ⟨_, fun p => rfl, rfl⟩
theorem e_in_tuples_w {ws : List Nat} {d : D} (h : seqOf d = some (hds ws)) : m_in_tuples [d] p = .ok (.tup (hds ws)) p := by
  have e8 : m_in_tuples = runF (tbOf (G_in_tuples (mr_in_tuples 7)) sh) i_in_tuples 2 1 := rfl
  have h7 : ∀ (t : Nat) (q : Pen), mr_in_tuples 7 [.int (t : Int)] q = .ok (.int (t : Int)) q := fun t q => rfl
  cases d with
  | tup xs =>
    cases h
    rw [e8]
    refine eq_of_W (Wo_runF rfl ?_)
    simp_arith [i_in_tuples, i_in_tuples_1, tf_in_tuples]
    refine W_map (fun t : Nat => .int (t : Int)) (fun t => .int (t : Int)) ws (fun t ht => ⟨_, rfl, ?_⟩) ?_
    · simp_arith! [tf_in_tuples, h7]
    simp_arith []
  | lst xs =>
    cases h
    rw [e8]
    refine eq_of_W (Wo_runF rfl ?_)
    simp_arith [i_in_tuples, i_in_tuples_1, tf_in_tuples]
    refine W_map (fun t : Nat => .int (t : Int)) (fun t => .int (t : Int)) ws (fun t ht => ⟨_, rfl, ?_⟩) ?_
    · simp_arith! [tf_in_tuples, h7]
    simp_arith []
  | _ => cases h
end
section
variable {p : Pen} {n m : Nat} {a b : Rat} {x y : D}
theorem e_lowest {t b : Int} (h : b ≠ 0) (hb : Sm n b) (hn : n ≤ 8999) : m_lowest [.int t, .int b] p = .ok (qd (Rat.divInt t b)) p := by
  have hd := divOk_of (gsg_sm (t := t) h hb) hn (gsg_ne h)
  refine eq_of_W (Wo_runF rfl ?_)
  rw [← low_eq h]
  by_cases h0 : 0 < b
  · have hg : gsg t b = ((Nat.gcd t.natAbs b.natAbs : Nat) : Int) := by unfold gsg; rw [if_pos h0]
    rw [hg] at hd ⊢
    simp_arith [i_lowest, i_lowest_1, h0, hd]
  · have hg : gsg t b = -((Nat.gcd t.natAbs b.natAbs : Nat) : Int) := by unfold gsg; rw [if_neg h0]
    rw [hg] at hd ⊢
    simp_arith [i_lowest, i_lowest_1, h0, hd]
end
section
variable {p : Pen} {n m : Nat} {a b : Rat} {x y : D}
theorem e_parted (ha : QS n a) (hb : QS n b) (h0 : b ≠ 0) (hn : 2 * n + 1 ≤ 8999) : m_parted [qd a, qd b] p = .ok (qd (a / b)) p := by
  refine eq_of_W (Wo_runF rfl ?_)
  have h1 := mulOk_of ha.nu hb.de (by omega)
  have h3 := mulOk_of ha.de hb.nu (by omega)
  have e := e_lowest (p := p) (t := a.num * b.den) (den_num_ne (a := a) h0) (sm_dn ha hb) hn
  rw [rat_div] at e
  simp_arith [i_parted, tf_parted, idx_qd0, idx_qd1, h1, h3, e]
end
section
variable {p : Pen} {n : Nat} {C : Type} [i : Fd C]
theorem p_over_items {m : Nat} (h : Pm m) {a b q : Fin m} (hq : (overL m a.val b.val)[0]? = some q.val) : m_over_items [.int m, .int a.val, .int b.val] p = .ok (.int q.val) p := by
  have hr : rng1D (.int (m : Int)) = some (rngD 0 m) := rng1_int (by have := h.le; omega) (by have := h.le; omega)
  have hg : compL (turnC (.n 3) (fun ρ1 => dTs (tbOf G_over_items sh) (.cons (.cmp .eq (.bin .mod (.bin .mul (.var 3) (.var 2)) (.var 0)) (.var 1)) .nil) ρ1) (fun ρ1 => dM (tbOf G_over_items sh) false (.var 3) ρ1) [.shr (.int m), .shr (.int a.val), .shr (.int b.val), .un]) (rngD 0 m) p = .ok ((overL m a.val b.val).map fun t : Nat => .int (t : Int)) p := by
    rw [comp_pure (fun x => match x with | .int t => if decide ((t * b.val).fmod m = (a.val : Int)) = true then some (.int t) else none | _ => none)]
    · unfold rngD overL
      rw [List.filterMap_map, show ((m : Int) - 0).toNat = m from by omega]
      congr 1
      induction List.range m with
      | nil => rfl
      | cons x xs ih =>
        simp only [List.filterMap_cons, List.filter_cons, Function.comp]
        by_cases hc : decide (((0 + (x : Int)) * b.val).fmod m = (a.val : Int)) = true
        · rw [if_pos hc]
          have hc' : decide (((x : Int) * b.val).fmod m = (a.val : Int)) = true := by rw [Int.zero_add] at hc; exact hc
          rw [if_pos hc', ih]; simp
        · rw [if_neg hc]
          have hc' : ¬ decide (((x : Int) * b.val).fmod m = (a.val : Int)) = true := by rw [Int.zero_add] at hc; exact hc
          rw [if_neg hc', ih]
    · intro x hx
      obtain ⟨t, ht, rfl⟩ := List.mem_map.mp hx
      have htm : (0 + (t : Int)) ≤ 7 := by have := List.mem_range.mp ht; have := h.le; omega
      have m1 : mulOk (0 + (t : Int)) b.val = true := mulOk_of (sm_le (b := 7) (n := 3) (by omega) (by decide)) (sm_le (i := (b.val : Int)) (b := 7) (n := 3) (by have := b.isLt; have := h.le; omega) (by decide)) (by decide)
      rw [turn_eq (ρ1 := [.shr (.int m), .shr (.int a.val), .shr (.int b.val), .shr (.int (0 + (t : Int)))]) rfl]
      refine eq_of_W ?_
      by_cases hc : decide (((0 + (t : Int)) * b.val).fmod m = (a.val : Int)) = true
      · simp_arith [turnE, m1, h.ne, hc]
      · have hc2 : decide (((0 + (t : Int)) * b.val).fmod m = (a.val : Int)) = false := by simpa using hc
        simp_arith [turnE, m1, h.ne, hc2]
  have e0 : L2.atI ((overL m a.val b.val).map fun t : Nat => D.int (t : Int)) 0 = some (.int q.val) := L2.atI_nat (j := 0) (by rw [List.getElem?_map, hq]; rfl)
  refine eq_of_W (Wo_runF rfl ?_)
  simp_arith [i_over_items, i_over_items_1, tf_over_items, h.ne, h.dec, hr, kComp, hg, e0]
theorem e_over_items (k : KindF C i) {a b : C} (ha : Fd.Sz n a) (hb : Fd.Sz n b) (h0 : b ≠ 0) (hn : 2 * n + 1 ≤ 8999) : m_over_items [.int (Fd.fl C), Fd.enc a, Fd.enc b] p = .ok (Fd.enc (a / b)) p := by
  cases k with
  | rat =>
    show m_over_items [.int 0, qd a, qd b] p = .ok (qd (a / b)) p
    refine eq_of_W (Wo_runF rfl ?_)
    simp_arith [i_over_items, tf_over_items, e_parted ha hb h0 hn]
  | f2 => exact p_over_items (.inl rfl) (over2 a b h0)
  | f3 => exact p_over_items (.inr (.inl rfl)) (over3 a b h0)
  | f5 => exact p_over_items (.inr (.inr (.inl rfl))) (over5 a b h0)
  | f7 => exact p_over_items (.inr (.inr (.inr rfl))) (over7 a b h0)
end
section
variable {p : Pen} {n : Nat} {C : Type} [i : Fd C]
theorem p_is_nothing {m : Nat} (h : Pm m) (a : Fin m) (z : Bool) (hz : decide ((a.val : Int) = 0) = z) : m_is_nothing [.int m, .int a.val] p = .ok (.bl z) p := by
  refine eq_of_W (Wo_runF rfl ?_)
  simp_arith [i_is_nothing, tf_is_nothing, h.ne, h.dec, hz]
theorem e_is_nothing (k : KindF C i) {a : C} : m_is_nothing [.int (Fd.fl C), Fd.enc a] p = .ok (.bl (decide (a = 0))) p := by
  cases k with
  | rat =>
    show m_is_nothing [.int 0, qd a] p = .ok (.bl (decide (a = 0))) p
    have e : decide (a = 0) = decide (a.num = 0) := decide_eq_decide.mpr ⟨fun z => by rw [z]; rfl, fun z => Rat.num_eq_zero.mp z⟩
    rw [e]
    refine eq_of_W (Wo_runF rfl ?_)
    simp_arith [i_is_nothing, tf_is_nothing, idx_qd0]
  | f2 => exact p_is_nothing (.inl rfl) a _ (by revert a; decide)
  | f3 => exact p_is_nothing (.inr (.inl rfl)) a _ (by revert a; decide)
  | f5 => exact p_is_nothing (.inr (.inr (.inl rfl))) a _ (by revert a; decide)
  | f7 => exact p_is_nothing (.inr (.inr (.inr rfl))) a _ (by revert a; decide)
end
section
variable {p : Pen} {n m : Nat} {a b : Rat} {x y : D}
theorem e_lessened (ha : QS n a) (hb : QS n b) (hn : 2 * n + 1 ≤ 8999) : m_lessened [qd a, qd b] p = .ok (qd (a - b)) p := by
  refine eq_of_W (Wo_runF rfl ?_)
  have h1 := mulOk_of ha.nu hb.de (by omega)
  have h2 := mulOk_of hb.nu ha.de (by omega)
  have h3 := mulOk_of ha.de hb.de (by omega)
  have e := e_lowest (p := p) (t := a.num * b.den - b.num * a.den) (den_mul_ne a b) (sm_den ha hb) hn
  rw [rat_sub] at e
  simp_arith [i_lessened, tf_lessened, idx_qd0, idx_qd1, h1, h2, h3, e]
end
section
variable {p : Pen} {n : Nat} {C : Type} [i : Fd C]
theorem p_less_items {m : Nat} (h : Pm m) (a b : Fin m) : m_less_items [.int m, .int a.val, .int b.val] p = .ok (.int (a - b : Fin m).val) p := by
  have m1 : mulOk a.val b.val = true := mulOk_of (sm_le (i := (a.val : Int)) (b := 7) (n := 3) (by have := a.isLt; have := h.le; omega) (by decide)) (sm_le (i := (b.val : Int)) (b := 7) (n := 3) (by have := b.isLt; have := h.le; omega) (by decide)) (by decide)
  refine eq_of_W (Wo_runF rfl ?_)
  simp_arith [i_less_items, tf_less_items, h.ne, h.dec, m1, fin_sub h]
theorem e_less_items (k : KindF C i) {a b : C} (ha : Fd.Sz n a) (hb : Fd.Sz n b) (hn : 2 * n + 1 ≤ 8999) : m_less_items [.int (Fd.fl C), Fd.enc a, Fd.enc b] p = .ok (Fd.enc (a - b)) p := by
  cases k with
  | rat =>
    show m_less_items [.int 0, qd a, qd b] p = .ok (qd (a - b)) p
    refine eq_of_W (Wo_runF rfl ?_)
    simp_arith [i_less_items, tf_less_items, e_lessened ha hb hn]
  | f2 => exact p_less_items (.inl rfl) a b
  | f3 => exact p_less_items (.inr (.inl rfl)) a b
  | f5 => exact p_less_items (.inr (.inr (.inl rfl))) a b
  | f7 => exact p_less_items (.inr (.inr (.inr rfl))) a b
end
section
variable {p : Pen} {n m : Nat} {a b : Rat} {x y : D}
theorem e_scaled (ha : QS n a) (hb : QS n b) (hn : 2 * n + 1 ≤ 8999) : m_scaled [qd a, qd b] p = .ok (qd (a * b)) p := by
  refine eq_of_W (Wo_runF rfl ?_)
  have h1 := mulOk_of ha.nu hb.nu (by omega)
  have h3 := mulOk_of ha.de hb.de (by omega)
  have e := e_lowest (p := p) (t := a.num * b.num) (den_mul_ne a b) (sm_den ha hb) hn
  rw [rat_mul] at e
  simp_arith [i_scaled, tf_scaled, idx_qd0, idx_qd1, h1, h3, e]
end
section
variable {p : Pen} {n : Nat} {C : Type} [i : Fd C]
theorem p_times_items {m : Nat} (h : Pm m) (a b : Fin m) : m_times_items [.int m, .int a.val, .int b.val] p = .ok (.int (a * b : Fin m).val) p := by
  have m1 : mulOk a.val b.val = true := mulOk_of (sm_le (i := (a.val : Int)) (b := 7) (n := 3) (by have := a.isLt; have := h.le; omega) (by decide)) (sm_le (i := (b.val : Int)) (b := 7) (n := 3) (by have := b.isLt; have := h.le; omega) (by decide)) (by decide)
  refine eq_of_W (Wo_runF rfl ?_)
  simp_arith [i_times_items, tf_times_items, h.ne, h.dec, m1, fin_mul h]
theorem e_times_items (k : KindF C i) {a b : C} (ha : Fd.Sz n a) (hb : Fd.Sz n b) (hn : 2 * n + 1 ≤ 8999) : m_times_items [.int (Fd.fl C), Fd.enc a, Fd.enc b] p = .ok (Fd.enc (a * b)) p := by
  cases k with
  | rat =>
    show m_times_items [.int 0, qd a, qd b] p = .ok (qd (a * b)) p
    refine eq_of_W (Wo_runF rfl ?_)
    simp_arith [i_times_items, tf_times_items, e_scaled ha hb hn]
  | f2 => exact p_times_items (.inl rfl) a b
  | f3 => exact p_times_items (.inr (.inl rfl)) a b
  | f5 => exact p_times_items (.inr (.inr (.inl rfl))) a b
  | f7 => exact p_times_items (.inr (.inr (.inr rfl))) a b
end
section
variable {p : Pen} {n m : Nat} {C : Type} [i : Fd C]
theorem e_row_less (k : KindF C i) {row other : List C} {y : C} (h1 : RSz m row) (h2 : RSz n other) (h3 : Fd.Sz n y) (h4 : ∀ v ∈ other, Fd.Sz m (y * v)) (hn : 2 * n + 1 ≤ 8999) (hm : 2 * m + 1 ≤ 8999) :
    m_row_less [.int (Fd.fl C), .lst (encs row), Fd.enc y, .lst (encs other)] p = .ok (.lst (encs (if y = 0 then row else rowSub row y other))) p := by
  have hz := e_is_nothing (p := p) k (a := y)
  by_cases h0 : y = 0
  · rw [if_pos h0]
    have hz' : m_is_nothing [.int (Fd.fl C), Fd.enc y] p = .ok (.bl true) p := by rw [hz, decide_eq_true h0]
    refine eq_of_W (Wo_runF rfl ?_)
    simp_arith [i_row_less, tf_row_less, hz']
  · rw [if_neg h0]
    have hz' : m_is_nothing [.int (Fd.fl C), Fd.enc y] p = .ok (.bl false) p := by rw [hz, decide_eq_false h0]
    have hg : compL (turnC (.t [.n 4, .n 5]) (fun ρ1 => dTs (tbOf G_row_less sh) .nil ρ1) (fun ρ1 => dM (tbOf G_row_less sh) false (.call 1 (.cons (.var 0) (.cons (.var 4) (.cons (.call 2 (.cons (.var 0) (.cons (.var 2) (.cons (.var 5) .nil)))) .nil)))) ρ1)
        [.shr (.int (Fd.fl C)), .shr (.lst (encs row)), .shr (Fd.enc y), .shr (.lst (encs other)), .un, .un]) ((List.zip row other).map fun q => .tup [Fd.enc q.1, Fd.enc q.2]) p = .ok ((List.zip row other).map fun q => Fd.enc (q.1 - y * q.2)) p := by
      refine comp_mapA _ _ _ fun q hq => ?_
      obtain ⟨u, v⟩ := q
      have hu := (List.of_mem_zip hq).1
      have hv := (List.of_mem_zip hq).2
      rw [turn_eq (ρ1 := [.shr (.int (Fd.fl C)), .shr (.lst (encs row)), .shr (Fd.enc y), .shr (.lst (encs other)), .shr (Fd.enc u), .shr (Fd.enc v)]) rfl]
      refine eq_of_W ?_
      simp_arith [turnE, tf_row_less, e_times_items k h3 (h2 v hv) hn, e_less_items k (h1 u hu) (h4 v hv) hm]
    refine eq_of_W (Wo_runF rfl ?_)
    simp_arith [i_row_less, i_row_less_1, tf_row_less, hz', zipD_ll, kComp, hg]
    simp [encs, rowSub, List.map_map, Function.comp_def]
end
section
variable {p : Pen} {n m : Nat} {C : Type} [i : Fd C]
/-- the inner loop: the rows before j are cleared -/
theorem w_steps_b1 (k : KindF C i) {R : List (List C)} {w t c : Nat} {s1 s2 s4 s5 s8 s9 s10 s11 : Slot} (hw : Rl w R) (hc : c < w) (ht : t < R.length) (hs : ∀ j, j < R.length → RSz n (rowAt R t) ∧ RSz n (rowAt R j) ∧ ∀ v ∈ rowAt R t, Fd.Sz n ((rowAt R j).getD c 0 * v)) (hn : 2 * n + 1 ≤ 8999)
    {Q : Fl → En → Pen → Prop} {E : Exc → Pen → Prop} (hQ : ∀ s, Q .nx [.shr (.int (Fd.fl C)), s1, s2, .own (lrows (clrs t c R R.length)), s4, s5, .shr (.int c), .shr (.int t), s8, s, s10, s11] p) :
    Ws (kFor (tbOf G_steps sh) (.n 9) i_steps_b1 [.shr (.int (Fd.fl C)), s1, s2, .own (lrows R), s4, s5, .shr (.int c), .shr (.int t), s8, s9, s10, s11] (rngD 0 R.length) p) Q E := by
  refine Ws_for (fun j ρ q => q = p ∧ ∃ s, ρ = [.shr (.int (Fd.fl C)), s1, s2, .own (lrows (clrs t c R j)), s4, s5, .shr (.int c), .shr (.int t), s8, s, s10, s11]) ⟨rfl, s9, rfl⟩ ?_ ?_
  · rintro j x ρ q hx ⟨rfl, s, rfl⟩
    obtain ⟨rfl, hj⟩ := rngD_at hx
    have hj' : j < R.length := by omega
    rw [Int.zero_add]
    refine ⟨_, rfl, ?_⟩
    by_cases hjt : j = t
    · have e1 : decide ((j : Int) = (t : Int)) = true := by simp [hjt]
      simp_arith [i_steps_b1, e1]
      rw [clrs_succ hj', if_pos hjt]
      exact ⟨_, rfl⟩
    · have e1 : decide ((j : Int) = (t : Int)) = false := by simp; omega
      have hjl : j < (clrs t c R j).length := by rw [clrs_len]; exact hj'
      have htl : t < (clrs t c R j).length := by rw [clrs_len]; exact ht
      have r1 : rowAt (clrs t c R j) j = rowAt R j := by rw [clrs_row hj', if_neg (by omega)]
      have r2 : rowAt (clrs t c R j) t = rowAt R t := by rw [clrs_row ht, if_neg (by omega)]
      have a1 := at_row (f := fun r => D.lst (encs r)) hjl
      have a2 := at_row (f := fun r => D.lst (encs r)) htl
      rw [r1] at a1
      rw [r2] at a2
      have a3 := at_enc (r := rowAt R j) (c := c) (by rw [hw _ (rowAt_mem hj')]; exact hc)
      obtain ⟨z1, z2, z4⟩ := hs j hj'
      have z5 : Fd.Sz n ((rowAt R j).getD c 0) := z2 _ (by
        rw [List.getD_eq_getElem?_getD, List.getElem?_eq_getElem (by rw [hw _ (rowAt_mem hj')]; exact hc)]
        exact List.getElem_mem _)
      have e2 := e_row_less (p := q) k (row := rowAt R j) (other := rowAt R t) (y := (rowAt R j).getD c 0) z2 z1 z5 z4 hn hn
      have e3 : L2.ixN (clrs t c R j).length (j : Int) = some j := ixN_at hjl
      simp_arith [i_steps_b1, e1, tf_steps, a1, a2, a3, e2, e3, clr_eq, List.map_set]
      rw [clrs_succ hj', if_neg hjt]
      exact ⟨.shr (.int j), by simp only [lrows, List.map_set]⟩
  · rintro ρ q ⟨rfl, s, rfl⟩
    rw [rngD_len, show ((R.length : Int) - 0).toNat = R.length from by omega]
    exact hQ s
theorem swp_rows {R : List (List C)} {t k : Nat} : ((lrows R).set t (.lst (encs (rowAt R k)))).set k (.lst (encs (rowAt R t))) = lrows (swp R t k) := by
  simp [lrows, swp, List.map_set]
theorem nrm_rows {R : List (List C)} {t c : Nat} : (lrows R).set t (.lst ((rowAt R t).map fun x => Fd.enc (x / (rowAt R t).getD c 0))) = lrows (nrm R t c) := by
  unfold lrows nrm ent
  rw [List.map_set]
  simp [encs, Function.comp_def]
theorem w_steps_b2 (k : KindF C i) {R : List (List C)} {H : List Nat} {w c : Nat} {d : Fd.Cm C} {s1 s2 s5 s7 s8 s9 s10 s11 : Slot} (hw : Rl w R) (hc : c < w) (hd : Fd.ok n d) (hin : AllIn n d R) (hn : H.length < R.length → 4 * n + 3 ≤ 8999) (hl : R.length ≤ 1000) (hH : H.length ≤ 1000)
    {Q : Fl → En → Pen → Prop} {E : Exc → Pen → Prop} (hQ : ∀ s7 s8 s9 s10 s11, Q .nx [.shr (.int (Fd.fl C)), s1, s2, .own (lrows (stepR (R, H) c).1), .own (hds (stepR (R, H) c).2), s5, .shr (.int c), s7, s8, s9, s10, s11] p) :
    Ws (dSs (tbOf G_steps sh) i_steps_b2 [.shr (.int (Fd.fl C)), s1, s2, .own (lrows R), .own (hds H), s5, .shr (.int c), s7, s8, s9, s10, s11] p) Q E := by
  have hr : rng2D (.int (H.length : Int)) (.int (R.length : Int)) = some (hds ((List.range (R.length - H.length)).map (H.length + ·))) := by
    rw [rng2_int (by omega) (by omega) (by omega) (by omega) (by omega), rngD_nat]
  simp_arith [i_steps_b2, i_steps_b2_1, tf_steps, hr]
  refine W_fil _ (fun t : Nat => .int (t : Int)) (fun a => decide (ent R a c ≠ 0)) _ (fun a ha => ?_) ?_
  · obtain ⟨j, hj, rfl⟩ := List.mem_map.mp ha
    have hlt : H.length + j < R.length := by have := List.mem_range.mp hj; omega
    refine ⟨_, rfl, ?_⟩
    have a1 := at_row (f := fun r => D.lst (encs r)) hlt
    have a3 := at_enc (r := rowAt R (H.length + j)) (c := c) (by rw [hw _ (rowAt_mem hlt)]; exact hc)
    have e := e_is_nothing (p := p) k (a := (rowAt R (H.length + j)).getD c 0)
    by_cases h0 : (rowAt R (H.length + j)).getD c 0 = 0
    · rw [decide_eq_true h0] at e
      have h1 : decide (ent R (H.length + j) c ≠ 0) = false := decide_eq_false (fun z => z h0)
      simp_arith! [tf_steps, a1, a3, e, h1]
    · rw [decide_eq_false h0] at e
      have h1 : decide (ent R (H.length + j) c ≠ 0) = true := decide_eq_true h0
      simp_arith! [tf_steps, a1, a3, e, h1]
  have hfo : ((List.range (R.length - H.length)).map (H.length + ·)).filter (fun a => decide (ent R a c ≠ 0)) = founds R H.length c := rfl
  rw [hfo]
  cases hf : founds R H.length c with
  | nil =>
    rw [step_nil hf] at hQ
    have hz : decide ((0 : Int) < ((0 : Nat) : Int)) = false := rfl
    simp_arith [i_steps_b2_2, hz]
    exact hQ _ _ _ _ _
  | cons k0 rest =>
    obtain ⟨k1, k2, k3⟩ := founds_mem.mp (hf ▸ List.mem_cons_self .. : k0 ∈ founds R H.length c)
    have ht : H.length < R.length := by omega
    rw [step_cons hf] at hQ
    have hn := hn ht
    obtain ⟨e, f1, f2, f3, f4, f5⟩ := nxt_in hd hin ht k2 k3
    have hpos : decide ((0 : Int) < ((rest.length + 1 : Nat) : Int)) = true := decide_eq_true (by omega)
    have a1 := at_row (f := fun r => D.lst (encs r)) k2
    have a2 := at_row (f := fun r => D.lst (encs r)) ht
    have x1 := ixN_at ht
    have x2 := ixN_at k2
    have htt := swp_row ht k2 ht
    rw [if_pos rfl] at htt
    have hsw := ent_swp_t (c := c) ht k2
    unfold nxt at hQ
    have hl0 : (swp R H.length k0).length = R.length := swp_len
    have hpq := nrm_row (c := c) ht k2 ht
    rw [if_pos rfl] at hpq
    have hR1 : ∀ r ∈ swp R H.length k0, ∀ x ∈ r, Fd.In n d x := fun r hr => hin r (swp_mem ht k2 hr)
    have hrl1 : Rl w (swp R H.length k0) := swp_rl hw ht k2
    have hnl : (nrm (swp R H.length k0) H.length c).length = R.length := by rw [nrm_len, swp_len]
    have hq2 : ∀ j, j < R.length → (rowAt (nrm (swp R H.length k0) H.length c) j).getD c 0 = if j = H.length then 1 else ent (swp R H.length k0) j c := fun j hj => by
      rw [nrm_row ht k2 hj]
      split
      · unfold pvt; rw [map_get]
        show ent R k0 c / ent R k0 c = 1
        grind
      · rfl
    have hrlN : Rl w (nrm (swp R H.length k0) H.length c) := rl_of fun j hj => by
      rw [nrm_row ht k2 (by omega)]
      split
      · rw [pvt_len]; exact rl_at hw k2
      · exact rl_at hrl1 (by omega)
    generalize hRn : swp R H.length k0 = R1 at f4 f5 hQ htt hsw hl0 hpq hR1 hrl1 hnl hq2 hrlN
    have ht1 : H.length < R1.length := by omega
    have b1 := at_row (f := fun r => D.lst (encs r)) ht1
    have y1 := ixN_at ht1
    have hlr : c < (rowAt R1 H.length).length := by rw [hrl1 _ (rowAt_mem ht1)]; exact hc
    have b2 := at_enc hlr
    have hmem : (rowAt R1 H.length).getD c 0 ∈ rowAt R1 H.length := List.mem_of_getElem? (getD_get hlr)
    have z1 : RSz n (rowAt R1 H.length) := fun x hx => Fd.in_sz hd (hR1 _ (rowAt_mem ht1) x hx)
    have hh0 : (rowAt R1 H.length).getD c 0 ≠ 0 := by
      have : (rowAt R1 H.length).getD c 0 = ent R k0 c := hsw
      rw [this]; exact k3
    have hr1 : rng1D (.int ((nrm R1 H.length c).length : Int)) = some (rngD 0 (nrm R1 H.length c).length) := rng1_int (by omega) (by omega)
    simp_arith [i_steps_b2_2, hpos, at0, a1, a2, x1, x2, swp_rows, List.length_set, hRn, b1, y1, b2]
    refine W_map _ (fun x => Fd.enc (x / (rowAt R1 H.length).getD c 0)) _ (fun x hx => ?_) ?_
    · refine ⟨_, rfl, ?_⟩
      simp_arith! [tf_steps, e_over_items k (z1 x hx) (z1 _ hmem) hh0 (by omega)]
    simp_arith [b1, y1, nrm_rows, hr1]
    refine w_steps_b1 (n := 2 * n + 1) k (w := w) hrlN hc (by omega) (fun j hj => ⟨fun x hx => Fd.in_sz f1 (f4 _ (rowAt_mem (by omega)) x hx), fun x hx => Fd.in_sz f1 (f4 _ (rowAt_mem hj) x hx), fun v hv => ?_⟩) (by omega) fun s => ?_
    · rw [hpq] at hv
      rw [hq2 j (by omega)]
      split
      · have hvv : v ∈ rowAt (nrm R1 H.length c) H.length := by rw [hpq]; exact hv
        have : (1 : C) * v = v := by grind
        rw [this]; exact Fd.in_sz f1 (f4 _ (rowAt_mem (by omega)) v hvv)
      · exact f5 j (by omega) v hv
    · rw [show (nrm R1 H.length c).length = R.length from hnl]
      simp_arith [List.length_map]
      rw [if_pos (show H.length < 16777216 from by omega)]
      simp_arith []
      have := hQ (.shr (.int H.length)) (.own (hds (k0 :: rest))) s
      simpa [hds] using this _ _
theorem e_stepsG (k : KindF C i) {R : List (List C)} {W w : Nat} {tb : D} (htb : seqOf tb = some (trows R)) (hw : Rl W R) (hwW : w ≤ W) (hst : ∀ j, j < w → ∃ (n : Nat) (d : Fd.Cm C), Fd.ok n d ∧ AllIn n d (rrefN R j).1 ∧ ((rrefN R j).2.length < R.length → 4 * n + 3 ≤ 8999)) (hl : R.length ≤ 1000) (hww : w ≤ 1000) :
    m_steps [.int (Fd.fl C), tb, .int w] p = .ok (.tup [.tup (trows (redN R w)), .tup (hds (headsN R w))]) p := by
  refine eq_of_W (Wo_runF rfl ?_)
  simp_arith [i_steps, tf_steps, htb]
  refine W_map (fun r => .tup (encs r)) (fun r => .lst (encs r)) R (fun r hr => ⟨_, rfl, ?_⟩) ?_
  · simp_arith! []
  simp_arith [setAllS, i_steps_1, rng1N (show w ≤ 16777216 from by omega)]
  refine Ws_for (fun j ρ q => q = p ∧ ∃ s5 s6 s7 s8 s9 s10 s11, ρ = [.shr (.int (Fd.fl C)), .shr tb, .shr (.int w), .own (lrows (rrefN R j).1), .own (hds (rrefN R j).2), s5, s6, s7, s8, s9, s10, s11]) ⟨rfl, _, _, _, _, _, _, _, rfl⟩ ?_ ?_
  · rintro j x ρ q hx ⟨rfl, s5, s6, s7, s8, s9, s10, s11, rfl⟩
    obtain ⟨rfl, hj⟩ := hdsR_at hx
    have hR := red_rref hw j (by omega)
    obtain ⟨n, e, h1, h2, h3⟩ := hst j hj
    have hwide := hR.wide
    have hlen := rref_len (R := R) j
    refine ⟨_, rfl, ?_⟩
    refine w_steps_b2 k (w := W) (R := (rrefN R j).1) (H := (rrefN R j).2) (c := j) (d := e) (rref_rl hw j) (by omega) h1 h2 (fun ht => h3 (by omega)) (by omega) (by omega) fun s7 s8 s9 s10 s11 => ?_
    exact ⟨rfl, _, _, s7, s8, s9, s10, s11, rfl⟩
  · rintro ρ q ⟨rfl, s5, s6, s7, s8, s9, s10, s11, rfl⟩
    rw [show (hds (List.range w)).length = w from by simp [hds]]
    have hR := red_rref hw w hwW
    have ec : cutD (lrows (rrefN R w).1) none (some (((rrefN R w).2.length : Nat) : Int)) = lrows (redN R w) := by
      rw [cut_to (by rw [List.length_map]; exact hR.tall), ← List.map_take]; rfl
    simp_arith [i_steps_2, ec]
    refine W_map (fun r => .lst (encs r)) (fun r => .tup (encs r)) (redN R w) (fun r hr => ⟨_, rfl, ?_⟩) ?_
    · simp_arith! []
    simp_arith []
    rfl
theorem e_stepsW (k : KindF C i) {R : List (List C)} {W w : Nat} {d : Fd.Cm C} {tb : D} (htb : seqOf tb = some (trows R)) (hw : Rl W R) (hwW : w ≤ W) (hd : Fd.ok n d) (hin : AllIn n d R) (hn : bt n (min R.length w + 1) ≤ 8999) (hl : R.length ≤ 1000) (hww : w ≤ 1000) :
    m_steps [.int (Fd.fl C), tb, .int w] p = .ok (.tup [.tup (trows (redN R w)), .tup (hds (headsN R w))]) p := e_stepsG k htb hw hwW (fun j hj => by
    have hR := red_rref hw j (by omega)
    obtain ⟨e, h1, h2⟩ := rref_in (w := W) hd hin j
    have hwide := hR.wide
    have hlen := rref_len (R := R) j
    refine ⟨_, e, h1, h2, fun ht => ?_⟩
    have : bt n ((rrefN R j).2.length + 2) ≤ bt n (min R.length w + 1) := bt_mono (Nat.le_refl n) (by omega)
    rw [bt_succ, bt_succ] at this
    omega) hl hww
theorem e_steps (k : KindF C i) {R : List (List C)} {w : Nat} {d : Fd.Cm C} {tb : D} (htb : seqOf tb = some (trows R)) (hw : Rl w R) (hd : Fd.ok n d) (hin : AllIn n d R) (hn : bt n (min R.length w + 1) ≤ 8999) (hl : R.length ≤ 1000) (hww : w ≤ 1000) :
    m_steps [.int (Fd.fl C), tb, .int w] p = .ok (.tup [.tup (trows (redN R w)), .tup (hds (headsN R w))]) p := e_stepsW k htb hw (Nat.le_refl w) hd hin hn hl hww
end
section
variable {p : Pen} {n m : Nat} {C : Type} [i : Fd C]
theorem e_reduced_of (k : KindF C i) {R : List (List C)} {w : Nat} {d : Fd.Cm C} {tb : D} (htb : seqOf tb = some (trows R)) (hw : Rl w R) (hd : Fd.ok n d) (hin : AllIn n d R) (hn : bt n (min R.length w + 1) ≤ 8999) (hl : R.length ≤ 1000) (hww : w ≤ 1000) :
    m_reduced_of [.int (Fd.fl C), tb, .int w] p = .ok (.tup (trows (redN R w))) p := by
  refine eq_of_W (Wo_runF rfl ?_)
  simp_arith [i_reduced_of, tf_reduced_of, e_steps k htb hw hd hin hn hl hww, at0]
theorem e_reduced_ofG (k : KindF C i) {R : List (List C)} {w : Nat} {tb : D} (htb : seqOf tb = some (trows R)) (hw : Rl w R) (hs : StepsOk R w) (hl : R.length ≤ 1000) (hww : w ≤ 1000) :
    m_reduced_of [.int (Fd.fl C), tb, .int w] p = .ok (.tup (trows (redN R w))) p := by
  refine eq_of_W (Wo_runF rfl ?_)
  simp_arith [i_reduced_of, tf_reduced_of, e_stepsG k htb hw (Nat.le_refl w) hs hl hww, at0]
end
section
variable {p : Pen} {n m : Nat} {C : Type} [i : Fd C]
theorem e_are_ports {ws : List Nat} (h1 : ws.length ≤ 6) (h2 : ∀ x ∈ ws, x ≤ 4) (h3 : ws.sum ≤ 12) : m_are_ports [.tup (hds ws)] p = .ok (.bl true) p := by
  have c1 : decide ((6 : Int) < (ws.length : Int)) = false := decide_eq_false (by omega)
  have ha : ∀ L : List Nat, (L.all fun _ => true) = true := by simp
  have c2 : decide (((ws.sum : Nat) : Int) ≤ 12) = true := decide_eq_true (by omega)
  refine eq_of_W (Wo_runF rfl ?_)
  simp_arith [i_are_ports, i_are_ports_1, tf_are_ports, c1]
  refine W_map (fun t : Nat => .int (t : Int)) (fun t => .bl ((fun _ => true) t)) ws (fun t ht => ⟨_, rfl, ?_⟩) ?_
  · simp_arith! [tf_are_ports, e_whole]
  simp_arith [all_lst, ha]
  refine W_map (fun t : Nat => .int (t : Int)) (fun t => .bl ((fun _ => true) t)) ws (fun t ht => ⟨_, rfl, ?_⟩) ?_
  · have d1 : decide ((0 : Int) ≤ (t : Int)) = true := decide_eq_true (by omega)
    have d2 : decide ((t : Int) ≤ 4) = true := decide_eq_true (by have := h2 t ht; omega)
    simp_arith! [d1, d2]
  simp_arith [all_lst, ha, sum_hds_t, c2]
end
section
variable {p : Pen} {n m : Nat} {C : Type} [i : Fd C]
theorem e_is_tuple_of {xs : List D} {w : Nat} : m_is_tuple_of [.tup xs, .int w] p = .ok (.bl (decide (xs.length = w))) p := by
  refine eq_of_W (Wo_runF rfl ?_)
  have : decide ((xs.length : Int) = (w : Int)) = decide (xs.length = w) := by
    by_cases h : xs.length = w
    · simp [h]
    · rw [decide_eq_false h]; simp; omega
  simp_arith [i_is_tuple_of, tf_is_tuple_of, this, isTy]
end
section
variable {p : Pen} {n m : Nat} {a b : Rat} {x y : D}
theorem e_pair_t {i j : Int} (h : 0 < j) : m_is_pair [.tup [.int i, .int j]] p = .ok (.bl true) p := by
  have e : m_is_pair [.tup [.int i, .int j]] p = .ok (.bl (decide (0 < j))) p := rfl
  rw [e, decide_eq_true h]
theorem e_pair_l {i j : Int} (h : 0 < j) : m_is_pair [.lst [.int i, .int j]] p = .ok (.bl true) p := by
  have e : m_is_pair [.lst [.int i, .int j]] p = .ok (.bl (decide (0 < j))) p := rfl
  rw [e, decide_eq_true h]
end
section
variable {p : Pen} {n m : Nat} {C : Type} [i : Fd C]
theorem p_is_item {m : Nat} (h : Pm m) (a : Fin m) : m_is_item [.int m, .int a.val] p = .ok (.bl true) p := by
  have h1 : decide ((0 : Int) ≤ (a.val : Int)) = true := decide_eq_true (by omega)
  have h2 : decide ((a.val : Int) < (m : Int)) = true := decide_eq_true (by have := a.isLt; omega)
  refine eq_of_W (Wo_runF rfl ?_)
  simp_arith [i_is_item, i_is_item_1, tf_is_item, h.dec, e_whole, h1, h2]
theorem e_is_item (k : KindF C i) {x : C} {d : D} (h : Fd.hd x d) : m_is_item [.int (Fd.fl C), d] p = .ok (.bl true) p := by
  cases k with
  | rat =>
    show m_is_item [.int 0, d] p = _
    cases h with
    | whole h1 h2 h3 => rfl
    | @tup i j h1 h2 h3 =>
      refine eq_of_W (Wo_runF rfl ?_)
      simp_arith [i_is_item, tf_is_item, e_whole_t, e_pair_t h1]
    | @lst i j h1 h2 h3 =>
      refine eq_of_W (Wo_runF rfl ?_)
      simp_arith [i_is_item, tf_is_item, e_whole_l, e_pair_l h1]
  | f2 => cases h; exact p_is_item (.inl rfl) x
  | f3 => cases h; exact p_is_item (.inr (.inl rfl)) x
  | f5 => cases h; exact p_is_item (.inr (.inr (.inl rfl))) x
  | f7 => cases h; exact p_is_item (.inr (.inr (.inr rfl))) x
end
section
variable {p : Pen} {n m : Nat} {C : Type} [i : Fd C]
theorem e_is_row (k : KindF C i) {r : List C} {d : D} {w : Nat} (h : Trow r d) (hw : r.length = w) : m_is_row [.int (Fd.fl C), d, .int w] p = .ok (.bl true) p := by
  obtain ⟨L, h1, h2, rfl⟩ := h
  have hl : decide (L.length = w) = true := decide_eq_true (by rw [← hw, ← h1, List.length_map])
  refine eq_of_W (Wo_runF rfl ?_)
  simp_arith [i_is_row, tf_is_row, e_is_tuple_of, hl]
  refine W_map (fun q : C × D => q.2) (fun q => .bl ((fun _ => true) q)) L (fun q hq => ⟨_, rfl, ?_⟩) ?_
  · simp_arith! [tf_is_row, e_is_item k (h2 q hq)]
  simp_arith [all_lst]
  simp
end
section
variable {p : Pen} {n m : Nat} {C : Type} [i : Fd C]
theorem e_is_table (k : KindF C i) {R : List (List C)} {d : D} {w : Nat} (h : Ttab R d) (hw : Rl w R) : m_is_table [.int (Fd.fl C), d, .int w] p = .ok (.bl true) p := by
  obtain ⟨L, h1, h2, rfl⟩ := h
  refine eq_of_W (Wo_runF rfl ?_)
  simp_arith [i_is_table, tf_is_table, isTy]
  refine W_map (fun q : List C × D => q.2) (fun q => .bl ((fun _ => true) q)) L (fun q hq => ⟨_, rfl, ?_⟩) ?_
  · simp_arith! [tf_is_table, e_is_row k (w := w) (h2 q hq) (hw _ (h1 ▸ List.mem_map.mpr ⟨q, hq, rfl⟩))]
  simp_arith [all_lst]
  simp
end
section
variable {p : Pen} {n m : Nat} {C : Type} [i : Fd C]
theorem hd_tuples (k : KindF C i) : ∀ (L : List (C × D)), (∀ q ∈ L, Fd.hd q.1 q.2) → ∃ L' : List (C × D), L'.map (·.1) = L.map (·.1) ∧ (∀ q ∈ L', Fd.hd q.1 q.2) ∧ (∀ p, ∀ t ∈ List.zip L L', m_in_tuples [t.1.2] p = .ok t.2.2 p) ∧ L'.length = L.length
  | [], _ => ⟨[], rfl, (fun _ h => by cases h), (fun _ _ h => by cases h), rfl⟩
  | q :: L, h => by
    obtain ⟨L', h1, h2, h3, h4⟩ := hd_tuples k L fun q hq => h q (List.mem_cons_of_mem _ hq)
    obtain ⟨d', g1, g2⟩ := e_in_tuples_it k (h q (List.mem_cons_self ..))
    refine ⟨(q.1, d') :: L', by simp [h1], fun z hz => ?_, fun p t ht => ?_, by simp [h4]⟩
    · rcases List.mem_cons.mp hz with rfl | hz
      · exact g2
      · exact h2 z hz
    · rw [List.zip_cons_cons] at ht
      rcases List.mem_cons.mp ht with rfl | ht
      · exact g1 p
      · exact h3 p t ht
theorem e_loose_row (k : KindF C i) {f : D} {r : List C} {d : D} (h : Hrow r d) : ∃ d', (∀ p, m_loose_row [f, d] p = .ok d' p) ∧ Trow r d' := by
  obtain ⟨L, h1, h2, h3⟩ := h
  obtain ⟨L', g1, g2, g3, g4⟩ := hd_tuples k L h2
  refine ⟨.tup (L'.map (·.2)), fun p => ?_, L', g1.trans h1, g2, rfl⟩
  have hL : L.map (·.2) = (List.zip L L').map fun t => t.1.2 := by
    rw [show (fun t : (C × D) × (C × D) => t.1.2) = (fun q : C × D => q.2) ∘ Prod.fst from rfl, ← List.map_map, List.map_fst_zip (by omega)]
  have hL' : L'.map (·.2) = (List.zip L L').map fun t => t.2.2 := by
    rw [show (fun t : (C × D) × (C × D) => t.2.2) = (fun q : C × D => q.2) ∘ Prod.snd from rfl, ← List.map_map, List.map_snd_zip (by omega)]
  rcases h3 with rfl | rfl
  all_goals
    refine eq_of_W (Wo_runF rfl ?_)
    simp_arith [i_loose_row, i_loose_row_1, tf_loose_row]
    rw [hL]
    refine W_map (fun t : (C × D) × (C × D) => t.1.2) (fun t => t.2.2) (List.zip L L') (fun t ht => ⟨_, rfl, ?_⟩) ?_
    · simp_arith! [tf_loose_row, g3 p t ht]
    simp_arith []
    rw [hL']
end
section
variable {p : Pen} {n m : Nat} {a b : Rat} {x y : D}
theorem e_told {q : Rat} {d : D} (h : Hd n q d) (hn : n ≤ 8999) : m_told [d] p = .ok (qd q) p := by
  cases h with
  | whole h1 h2 h3 =>
    have e : ∀ i : Int, m_told [.int i] p = .ok (.tup [.int i, .int 1]) p := fun i => rfl
    rw [e, h2]
    unfold qd
    rw [h3]; rfl
  | @tup i j h1 h2 h3 =>
    subst h3
    refine eq_of_W (Wo_runF rfl ?_)
    simp_arith [i_told, i_told_1, i_told_2, tf_told, e_whole_t, e_pair_t h1, at0, at1, e_lowest (Int.ne_of_gt h1) h2 hn]
  | @lst i j h1 h2 h3 =>
    subst h3
    refine eq_of_W (Wo_runF rfl ?_)
    simp_arith [i_told, i_told_1, i_told_2, tf_told, e_whole_l, e_pair_l h1, at0, at1, e_lowest (Int.ne_of_gt h1) h2 hn]
end
section
variable {p : Pen} {n m : Nat} {C : Type} [i : Fd C]
theorem e_item_of (k : KindF C i) {x : C} {d : D} (h : Fd.hd x d) : m_item_of [.int (Fd.fl C), d] p = .ok (Fd.enc x) p := by
  cases k with
  | rat =>
    show m_item_of [.int 0, d] p = .ok (qd x) p
    refine eq_of_W (Wo_runF rfl ?_)
    simp_arith [i_item_of, tf_item_of, e_told h (by decide : 4000 ≤ 8999)]
  | f2 => cases h; rfl
  | f3 => cases h; rfl
  | f5 => cases h; rfl
  | f7 => cases h; rfl
end
section
variable {p : Pen} {n m : Nat} {C : Type} [i : Fd C]
theorem e_told_row (k : KindF C i) {r : List C} {d : D} (h : Trow r d) : m_told_row [.int (Fd.fl C), d] p = .ok (.tup (encs r)) p := by
  obtain ⟨L, h1, h2, rfl⟩ := h
  refine eq_of_W (Wo_runF rfl ?_)
  simp_arith [i_told_row, tf_told_row]
  refine W_map (fun q : C × D => q.2) (fun q => Fd.enc q.1) L (fun q hq => ⟨_, rfl, ?_⟩) ?_
  · simp_arith! [tf_told_row, e_item_of k (h2 q hq)]
  simp_arith []
  rw [← h1]; simp [encs]
end
section
variable {p : Pen} {n m : Nat} {C : Type} [i : Fd C]
theorem row_tuples (k : KindF C i) {f : D} : ∀ (L : List (List C × D)), (∀ q ∈ L, Hrow q.1 q.2) → ∃ L' : List (List C × D), L'.map (·.1) = L.map (·.1) ∧ (∀ q ∈ L', Trow q.1 q.2) ∧ (∀ p, ∀ t ∈ List.zip L L', m_loose_row [f, t.1.2] p = .ok t.2.2 p) ∧ L'.length = L.length
  | [], _ => ⟨[], rfl, (fun _ h => by cases h), (fun _ _ h => by cases h), rfl⟩
  | q :: L, h => by
    obtain ⟨L', h1, h2, h3, h4⟩ := row_tuples k (f := f) L fun q hq => h q (List.mem_cons_of_mem _ hq)
    obtain ⟨d', g1, g2⟩ := e_loose_row k (f := f) (h q (List.mem_cons_self ..))
    refine ⟨(q.1, d') :: L', by simp [h1], fun z hz => ?_, fun p t ht => ?_, by simp [h4]⟩
    · rcases List.mem_cons.mp hz with rfl | hz
      · exact g2
      · exact h2 z hz
    · rw [List.zip_cons_cons] at ht
      rcases List.mem_cons.mp ht with rfl | ht
      · exact g1 p
      · exact h3 p t ht
theorem e_table_from (k : KindF C i) {R : List (List C)} {d : D} {w : Nat} (h : Htab R d) (hw : Rl w R) (hl : R.length ≤ 24) : m_table_from [.int (Fd.fl C), d, .int w] p = .ok (.tup (trows R)) p := by
  obtain ⟨L, h1, h2, h3⟩ := h
  obtain ⟨L', g1, g2, g3, g4⟩ := row_tuples k (f := .int (Fd.fl C)) L h2
  obtain ⟨z1, z2⟩ := zip_snds g4
  have hT : Ttab R (.tup (L'.map (·.2))) := ⟨L', g1.trans h1, g2, rfl⟩
  have hlen : decide ((24 : Int) < (L.length : Int)) = false := decide_eq_false (by rw [← h1, List.length_map] at hl; omega)
  rcases h3 with rfl | rfl
  all_goals
    refine eq_of_W (Wo_runF rfl ?_)
    simp_arith [i_table_from, i_table_from_1, tf_table_from, hlen]
    rw [z1]
    refine W_map (fun t : (List C × D) × (List C × D) => t.1.2) (fun t => t.2.2) (List.zip L L') (fun t ht => ⟨_, rfl, ?_⟩) ?_
    · simp_arith! [tf_table_from, g3 p t ht]
    rw [← z2]
    simp_arith [i_table_from_2, i_table_from_3, tf_table_from, e_is_table k hT hw]
    refine W_map (fun q : List C × D => q.2) (fun q => .tup (encs q.1)) L' (fun q hq => ⟨_, rfl, ?_⟩) ?_
    · simp_arith! [tf_table_from, e_told_row k (g2 q hq)]
    simp_arith []
    rw [← h1, ← g1]; simp [trows]
end
section
variable {p : Pen} {n m : Nat} {C : Type} [i : Fd C]
/-- a box -/
abbrev bx (C : Type) [i : Fd C] (ws : List Nat) (T : List (List C)) : D := .ins 14 [.int (Fd.fl C), .tup (hds ws), .tup (trows T)]
theorem e_Box (k : KindF C i) {ws : List Nat} {wd t : D} {R : List (List C)} (hwd : seqOf wd = some (hds ws)) (h1 : ws.length ≤ 6) (h2 : ∀ x ∈ ws, x ≤ 4) (h3 : ws.sum ≤ 12) (ht : Htab R t) (hw : Rl ws.sum R) (hl : R.length ≤ 24) (hs : StepsOk R ws.sum) :
    m_Box [.int (Fd.fl C), wd, t] p = .ok (bx C ws (redN R ws.sum)) p := by
  refine eq_of_W (Wo_runN rfl ?_)
  simp_arith [i_Box, i_Box_1, i_Box_2, q_Box, tf_Box, e_need_field k, e_in_tuples_w hwd, e_are_ports h1 h2 h3, sum_hds_t, e_table_from k ht hw hl, e_reduced_ofG k (tb := .tup (trows R)) rfl hw hs (by omega) (by omega)]
end
theorem w_handed {q : Rat} {k : Nat} {p : Pen} (hq : QS 24 q) (hp : PenB (k + 3) p) : Wo (m_l_handed [.pen, qd q] p) (fun d p' => Hd 30 q d ∧ PenB k p') noE := by
  refine Wo_runF rfl ?_
  have rest : ∀ (p : Pen), PenB (k + 2) p → Ws (dSs (tbOf G_l_handed sh) i_l_handed_1 [.shr .pen, .shr (qd q), .un] p) (fnQ fun d p' => Hd 30 q d ∧ PenB k p') noE := by
    intro p hp
    simp_arith [i_l_handed_1, tf_l_handed]
    refine (w_pick (k := k + 1) (by decide) (by decide) hp).im fun d q2 => ?_
    rintro ⟨hd, hq2⟩
    have : ∃ c : Int, d = .int c ∧ 0 < c ∧ c ≤ 5 := by
      simp only [List.mem_cons, List.not_mem_nil, or_false] at hd
      rcases hd with rfl | rfl | rfl | rfl <;> exact ⟨_, rfl, by decide, by decide⟩
    obtain ⟨c, rfl, c1, c2⟩ := this
    have sc : Sm 3 c := sm_le (b := 5) (by omega) (by decide)
    have m1 := mulOk_of hq.nu sc (by decide)
    have m2 := mulOk_of hq.de sc (by decide)
    simp_arith [i_l_handed_2, idx_qd0, idx_qd1, m1, m2]
    refine (w_pick (k := k) (by simp) (by simp) hq2).im fun d q3 => ?_
    rintro ⟨hd, hq3⟩
    have e : Rat.divInt (q.num * c) (q.den * c) = q := by
      rw [Rat.divInt_mul_right (Int.ne_of_gt c1), rat_self]
    have hpos : 0 < (q.den : Int) * c := Int.mul_pos (den_pos q) c1
    have hs : Sm 30 ((q.den : Int) * c) := (hq.de.mul sc).mono (by decide)
    simp only [List.mem_cons, List.not_mem_nil, or_false] at hd
    rcases hd with rfl | rfl
    · simp_arith []
      exact ⟨.tup hpos hs e, hq3⟩
    · simp_arith []
      exact ⟨.lst hpos hs e, hq3⟩
  by_cases h1 : (q.den : Int) = 1
  · simp_arith [i_l_handed, tf_l_handed, idx_qd1, h1]
    refine (w_draw (many := 2) (k := k + 2) (by decide) (by decide) hp).im fun d q2 => ?_
    rintro ⟨r, rfl, r1, r2, hq2⟩
    by_cases h2 : r = 0
    · simp_arith [h2, idx_qd0]
      refine ⟨.whole (i := q.num) ?_ rfl (by omega), hq2.mono (by omega)⟩
      rw [← h1, rat_self]
    · simp_arith [h2]
      exact rest _ hq2
  · simp_arith [i_l_handed, tf_l_handed, idx_qd1, h1]
    exact rest _ (hp.mono (by omega))
section
variable {p : Pen} {k : Nat} {C : Type} [i : Fd C]
theorem w_passed (kf : KindF C i) {r : List C} {dr : D} (hdr : seqOf dr = some (encs r)) (hr : RSz 24 r) (hp : PenB (k + 1 + 3 * r.length) p) : Wo (m_l_passed [.pen, .int (Fd.fl C), dr] p) (fun d p' => Hrow r d ∧ PenB k p') noE := by
  refine Wo_runF rfl ?_
  simp_arith [i_l_passed, tf_l_passed, hdr]
  refine W_draw (fun x : C => Fd.enc x) (fun y : C × D => y.2) (fun x y => y.1 = x ∧ Fd.hd y.1 y.2) 3 (k + 1) r hp (fun x hx k' q hq => ⟨_, rfl, ?_⟩) fun bs q hb hq => ?_
  · have hx := hr x hx
    cases kf with
    | rat =>
      have hfl : Fd.fl Rat = 0 := rfl
      simp_arith! [tf_l_passed, hfl]
      refine (w_handed (k := k') hx hq).im fun d q2 => ?_
      rintro ⟨h1, hq2⟩
      simp_arith! []
      exact ⟨(x, d), rfl, ⟨rfl, Hd.mono h1 (by decide)⟩, hq2⟩
    | f2 =>
      have hfl : @Fd.fl (Fin 2) fd2 = 2 := rfl
      simp_arith! [tf_l_passed, hfl]
      exact ⟨(x, _), rfl, ⟨rfl, rfl⟩, hq.mono (by omega)⟩
    | f3 =>
      have hfl : @Fd.fl (Fin 3) fd3 = 3 := rfl
      simp_arith! [tf_l_passed, hfl]
      exact ⟨(x, _), rfl, ⟨rfl, rfl⟩, hq.mono (by omega)⟩
    | f5 =>
      have hfl : @Fd.fl (Fin 5) fd5 = 5 := rfl
      simp_arith! [tf_l_passed, hfl]
      exact ⟨(x, _), rfl, ⟨rfl, rfl⟩, hq.mono (by omega)⟩
    | f7 =>
      have hfl : @Fd.fl (Fin 7) fd7 = 7 := rfl
      simp_arith! [tf_l_passed, hfl]
      exact ⟨(x, _), rfl, ⟨rfl, rfl⟩, hq.mono (by omega)⟩
  · simp_arith [fzO, i_l_passed_1, i_l_passed_2, tf_l_passed]
    refine (w_pick (k := k) (by simp) (by simp) hq).im fun d q2 => ?_
    rintro ⟨hd, hq2⟩
    simp_arith []
    refine ⟨⟨bs, ?_, hb.all fun a b _ h => h.2, ?_⟩, hq2⟩
    · have := hb.map2 (u := fun x => x) (v := fun y : C × D => y.1) fun a b h => h.1
      simpa using this
    · simpa using hd
end
section
variable {p : Pen} {k : Nat} {C : Type} [i : Fd C]
theorem w_passed_rows (kf : KindF C i) {R : List (List C)} {w : Nat} {dr : D} (hdr : seqOf dr = some (trows R)) (hw : ∀ r ∈ R, r.length ≤ w) (hr : ∀ r ∈ R, RSz 24 r) (hp : PenB (k + 1 + (3 * w + 1) * R.length) p) : Wo (m_l_passed_rows [.pen, .int (Fd.fl C), dr] p) (fun d p' => Htab R d ∧ PenB k p') noE := by
  refine Wo_runF rfl ?_
  simp_arith [i_l_passed_rows, tf_l_passed_rows, hdr]
  refine W_draw (fun x : List C => .tup (encs x)) (fun y : List C × D => y.2) (fun x y => y.1 = x ∧ Hrow y.1 y.2) (3 * w + 1) (k + 1) R hp (fun x hx k' q hq => ⟨_, rfl, ?_⟩) fun bs q hb hq => ?_
  · have h1 := hw x hx
    simp_arith! [tf_l_passed_rows]
    refine (w_passed kf (k := k') (r := x) (dr := .tup (encs x)) rfl (hr x hx) (hq.mono (by omega))).im fun d q2 => ?_
    rintro ⟨h1, hq2⟩
    simp_arith! []
    exact ⟨(x, d), rfl, ⟨rfl, h1⟩, hq2⟩
  · simp_arith [fzO, i_l_passed_rows_1, i_l_passed_rows_2, tf_l_passed_rows]
    refine (w_pick (k := k) (by simp) (by simp) hq).im fun d q2 => ?_
    rintro ⟨hd, hq2⟩
    simp_arith []
    refine ⟨⟨bs, ?_, hb.all fun a b _ h => h.2, ?_⟩, hq2⟩
    · have := hb.map2 (u := fun x => x) (v := fun y : List C × D => y.1) fun a b h => h.1
      simpa using this
    · simpa using hd
end
section
variable {p : Pen} {n : Nat} {C : Type} [i : Fd C]
theorem e_l_zero (k : KindF C i) : m_l_zero [.int (Fd.fl C)] p = .ok (Fd.enc (0 : C)) p := by
  cases k <;> rfl
end
section
variable {p : Pen} {n m : Nat} {a b : Rat} {x y : D}
theorem e_lplus (ha : QS n a) (hb : QS n b) (hn : 2 * n + 1 ≤ 8999) : m_l_plus [qd a, qd b] p = .ok (qd (a + b)) p := by
  refine eq_of_W (Wo_runF rfl ?_)
  have h1 := mulOk_of ha.nu hb.de (by omega)
  have h2 := mulOk_of hb.nu ha.de (by omega)
  have h3 := mulOk_of ha.de hb.de (by omega)
  have e := e_lq (p := p) (t := a.num * b.den + b.num * a.den) (den_mul_ne a b) (sm_den ha hb) hn
  rw [rat_add] at e
  simp_arith [i_l_plus, tf_l_plus, idx_qd0, idx_qd1, h1, h2, h3, e]
end
section
variable {p : Pen} {n : Nat} {C : Type} [i : Fd C]
theorem p_l_add {m : Nat} (h : Pm m) (a b : Fin m) : m_l_add [.int m, .int a.val, .int b.val] p = .ok (.int (a + b : Fin m).val) p := by
  have m1 : mulOk a.val b.val = true := mulOk_of (sm_le (i := (a.val : Int)) (b := 7) (n := 3) (by have := a.isLt; have := h.le; omega) (by decide)) (sm_le (i := (b.val : Int)) (b := 7) (n := 3) (by have := b.isLt; have := h.le; omega) (by decide)) (by decide)
  refine eq_of_W (Wo_runF rfl ?_)
  simp_arith [i_l_add, tf_l_add, h.ne, h.dec, m1, fin_add h]
theorem e_l_add (k : KindF C i) {a b : C} (ha : Fd.Sz n a) (hb : Fd.Sz n b) (hn : 2 * n + 1 ≤ 8999) : m_l_add [.int (Fd.fl C), Fd.enc a, Fd.enc b] p = .ok (Fd.enc (a + b)) p := by
  cases k with
  | rat =>
    show m_l_add [.int 0, qd a, qd b] p = .ok (qd (a + b)) p
    refine eq_of_W (Wo_runF rfl ?_)
    simp_arith [i_l_add, tf_l_add, e_lplus ha hb hn]
  | f2 => exact p_l_add (.inl rfl) a b
  | f3 => exact p_l_add (.inr (.inl rfl)) a b
  | f5 => exact p_l_add (.inr (.inr (.inl rfl))) a b
  | f7 => exact p_l_add (.inr (.inr (.inr rfl))) a b
end
section
variable {p : Pen} {n m : Nat} {a b : Rat} {x y : D}
theorem e_ltimes (ha : QS n a) (hb : QS n b) (hn : 2 * n + 1 ≤ 8999) : m_l_times [qd a, qd b] p = .ok (qd (a * b)) p := by
  refine eq_of_W (Wo_runF rfl ?_)
  have h1 := mulOk_of ha.nu hb.nu (by omega)
  have h3 := mulOk_of ha.de hb.de (by omega)
  have e := e_lq (p := p) (t := a.num * b.num) (den_mul_ne a b) (sm_den ha hb) hn
  rw [rat_mul] at e
  simp_arith [i_l_times, tf_l_times, idx_qd0, idx_qd1, h1, h3, e]
end
section
variable {p : Pen} {n : Nat} {C : Type} [i : Fd C]
theorem p_l_mul {m : Nat} (h : Pm m) (a b : Fin m) : m_l_mul [.int m, .int a.val, .int b.val] p = .ok (.int (a * b : Fin m).val) p := by
  have m1 : mulOk a.val b.val = true := mulOk_of (sm_le (i := (a.val : Int)) (b := 7) (n := 3) (by have := a.isLt; have := h.le; omega) (by decide)) (sm_le (i := (b.val : Int)) (b := 7) (n := 3) (by have := b.isLt; have := h.le; omega) (by decide)) (by decide)
  refine eq_of_W (Wo_runF rfl ?_)
  simp_arith [i_l_mul, tf_l_mul, h.ne, h.dec, m1, fin_mul h]
theorem e_l_mul (k : KindF C i) {a b : C} (ha : Fd.Sz n a) (hb : Fd.Sz n b) (hn : 2 * n + 1 ≤ 8999) : m_l_mul [.int (Fd.fl C), Fd.enc a, Fd.enc b] p = .ok (Fd.enc (a * b)) p := by
  cases k with
  | rat =>
    show m_l_mul [.int 0, qd a, qd b] p = .ok (qd (a * b)) p
    refine eq_of_W (Wo_runF rfl ?_)
    simp_arith [i_l_mul, tf_l_mul, e_ltimes ha hb hn]
  | f2 => exact p_l_mul (.inl rfl) a b
  | f3 => exact p_l_mul (.inr (.inl rfl)) a b
  | f5 => exact p_l_mul (.inr (.inr (.inl rfl))) a b
  | f7 => exact p_l_mul (.inr (.inr (.inr rfl))) a b
end
section
variable {p : Pen} {k n : Nat} {C : Type} [i : Fd C]
theorem w_mixC (kf : KindF C i) {R : List (List C)} {w : Nat} {d : Fd.Cm C} {t : D} (ht : seqOf t = some (trows R)) (hw : Rl w R) (hd : Fd.ok n d) (hin : AllIn n d R) (hww : w ≤ 1000) (hn : 2 * (5 + n + R.length) + 1 ≤ 8999) (hp : PenB (k + 2 * R.length) p) :
    Wo (m_l_mix [.pen, .int (Fd.fl C), t, .int w] p) (fun v p' => (∃ r : List C, v = .tup (encs r) ∧ r.length = w ∧ (∀ x ∈ r, Fd.In (5 + n + R.length) (Fd.cmul Fd.dr d) x) ∧ ∀ z, (∀ r ∈ R, dot r z = 0) → dot r z = 0) ∧ PenB k p') noE := by
  refine Wo_runF rfl ?_
  have hok : Fd.ok (5 + n) (Fd.cmul (Fd.dr : Fd.Cm C) d) := Fd.ok_mono (Fd.ok_mul Fd.ok_dr hd) (by omega)
  have e0 := opMulT (x := Fd.enc (0 : C)) (w := w) hww
  simp_arith [i_l_mix, i_l_mix_1, tf_l_mix, e_l_zero kf, e0, ht]
  refine Ws_for (fun j ρ q => PenB (k + 2 * (R.length - j)) q ∧ ∃ (r : List C), (r.length = w ∧ (∀ x ∈ r, Fd.In (5 + n + j) (Fd.cmul Fd.dr d) x) ∧ ∀ z, (∀ r ∈ R, dot r z = 0) → dot r z = 0) ∧ ∃ s5 s6 s7 s8, ρ = [.shr .pen, .shr (.int (Fd.fl C)), .shr t, .shr (.int w), .shr (.tup (encs r)), s5, s6, s7, s8])
    ⟨by simpa using hp, List.replicate w 0, ⟨by simp, (fun x hx => by rw [List.eq_of_mem_replicate hx]; exact Fd.in_zero), fun z _ => dot_zero fun c => by
      rw [List.getD_eq_getElem?_getD, List.getElem?_replicate]; split <;> rfl⟩, _, _, _, _, by simp [encs]; exact ⟨rfl, rfl, rfl, rfl⟩⟩ ?_ ?_
  · rintro j x ρ q hx ⟨hq, r, ⟨hr1, hr2, hr3⟩, s5, s6, s7, s8, rfl⟩
    rw [List.getElem?_map] at hx
    obtain ⟨row, hrow, rfl⟩ := Option.map_eq_some_iff.mp hx
    have hj : j < R.length := (List.getElem?_eq_some_iff.mp hrow).1
    have hmem := List.mem_of_getElem? hrow
    refine ⟨_, rfl, ?_⟩
    simp_arith [i_l_mix_b1, tf_l_mix]
    refine (w_item kf (k := k + 2 * (R.length - (j + 1))) (hq.mono (by omega))).im fun v q2 => ?_
    rintro ⟨⟨y, rfl, hy⟩, hq2⟩
    simp_arith [i_l_mix_b1_1, tf_l_mix, zipD_tt]
    have okj : Fd.ok (5 + n + R.length) (Fd.cmul (Fd.dr : Fd.Cm C) d) := Fd.ok_mono hok (by omega)
    refine W_map (fun q => .tup [Fd.enc q.1, Fd.enc q.2]) (fun q => Fd.enc (q.1 + y * q.2)) (List.zip r row) (fun uv hq => ?_) ?_
    · obtain ⟨u, v⟩ := uv
      refine ⟨_, rfl, ?_⟩
      have hu := hr2 u (List.of_mem_zip hq).1
      have hv := hin row hmem v (List.of_mem_zip hq).2
      have zu : Fd.Sz (5 + n + R.length) u := Fd.in_sz okj (Fd.in_mono hu (by omega))
      have zy : Fd.Sz (5 + n + R.length) y := Fd.sz_mono (Fd.in_sz (Fd.ok_mono Fd.ok_dr (by omega)) hy) (by omega)
      have zv : Fd.Sz (5 + n + R.length) v := Fd.sz_mono (Fd.in_sz hd hv) (by omega)
      have zm : Fd.Sz (5 + n + R.length) (y * v) := Fd.in_sz okj (Fd.in_mono (Fd.in_mul hy hv) (by omega))
      simp_arith! [tf_l_mix, e_l_mul kf zy zv hn, e_l_add kf zu zm hn]
    simp_arith []
    refine ⟨hq2, (List.zip r row).map (fun q => q.1 + y * q.2), ⟨by simp [hr1, hw row hmem], fun x hx => ?_, fun z hz => by rw [dot_addm (by rw [hr1, hw row hmem]), hr3 z hz, hz row hmem]; grind⟩, _, _, _, _, by simp [encs, Function.comp_def]; exact ⟨rfl, rfl, rfl, rfl⟩⟩
    obtain ⟨⟨u, v⟩, hz, rfl⟩ := List.mem_map.mp hx
    have hu := hr2 u (List.of_mem_zip hz).1
    have hv := hin row hmem v (List.of_mem_zip hz).2
    exact Fd.in_mono (Fd.in_add hu (Fd.in_mono (Fd.in_mul hy hv) (by omega))) (by omega)
  · rintro ρ q ⟨hq, r, ⟨hr1, hr2, hr3⟩, s5, s6, s7, s8, rfl⟩
    simp_arith [i_l_mix_2]
    rw [List.length_map] at hq hr2
    exact ⟨⟨r, rfl, hr1, hr2, hr3⟩, hq.mono (by omega)⟩
theorem w_mix (kf : KindF C i) {R : List (List C)} {w : Nat} {d : Fd.Cm C} {t : D} (ht : seqOf t = some (trows R)) (hw : Rl w R) (hd : Fd.ok n d) (hin : AllIn n d R) (hww : w ≤ 1000) (hn : 2 * (5 + n + R.length) + 1 ≤ 8999) (hp : PenB (k + 2 * R.length) p) :
    Wo (m_l_mix [.pen, .int (Fd.fl C), t, .int w] p) (fun v p' => (∃ r : List C, v = .tup (encs r) ∧ r.length = w ∧ ∀ x ∈ r, Fd.In (5 + n + R.length) (Fd.cmul Fd.dr d) x) ∧ PenB k p') noE := (w_mixC kf ht hw hd hin hww hn hp).im fun v q hz => ⟨let ⟨r, a, b, c, _⟩ := hz.1; ⟨r, a, b, c⟩, hz.2⟩
end
section
variable {p : Pen} {n : Nat} {C : Type} [i : Fd C]
theorem z_mem_int (j : Int) : opCmp .in_ (.int j) (.tup [.int 0, .tup [.int 0, .int 1]]) = some (decide (j = 0)) := by
  show (if (SeqAt.shaped (.int j) && SeqAt.shaped (.list [.int 0, .tuple [.int 0, .int 1]])) = true then some ([PyData.int 0, .tuple [.int 0, .int 1]].any fun z => PyData.eqv z (.int j)) else none) = _
  rw [if_pos (by rfl)]
  by_cases h : j = 0
  · subst h; rfl
  · have e : PyData.eqv (.int 0) (.int j) = false := by simp [PyData.eqv]; omega
    have e2 : PyData.eqv (.tuple [.int 0, .int 1]) (.int j) = false := rfl
    simp [List.any_cons, e, e2, h]
theorem z_mem_qd (a : Rat) : opCmp .in_ (qd a) (.tup [.int 0, .tup [.int 0, .int 1]]) = some (decide (a = 0)) := by
  show (if (SeqAt.shaped (.tuple [.int a.num, .int a.den]) && SeqAt.shaped (.list [.int 0, .tuple [.int 0, .int 1]])) = true then some ([PyData.int 0, .tuple [.int 0, .int 1]].any fun z => PyData.eqv z (.tuple [.int a.num, .int a.den])) else none) = _
  rw [if_pos (by rfl)]
  by_cases h : a = 0
  · subst h; rfl
  · have hn : a.num ≠ 0 := fun z => h (Rat.num_eq_zero.mp z)
    have e : PyData.eqv (.int 0) (.tuple [.int a.num, .int a.den]) = false := rfl
    have e2 : PyData.eqv (.tuple [.int 0, .int 1]) (.tuple [.int a.num, .int a.den]) = false := by
      simp [PyData.eqv, PyData.eqvAll]; intro z; exact absurd z.symm hn
    simp [List.any_cons, e, e2, h]
theorem e_l_is_zero (k : KindF C i) {a : C} : m_l_is_zero [Fd.enc a] p = .ok (.bl (decide (a = 0))) p := by
  have main : ∀ (d : D) (z : Bool), opCmp .in_ d (.tup [.int 0, .tup [.int 0, .int 1]]) = some z → m_l_is_zero [d] p = .ok (.bl z) p := by
    intro d z h
    refine eq_of_W (Wo_runF rfl ?_)
    simp_arith [i_l_is_zero, tf_l_is_zero, h]
  refine main _ _ ?_
  cases k with
  | rat => exact z_mem_qd a
  | f2 => exact (z_mem_int _).trans (by revert a; decide)
  | f3 => exact (z_mem_int _).trans (by revert a; decide)
  | f5 => exact (z_mem_int _).trans (by revert a; decide)
  | f7 => exact (z_mem_int _).trans (by revert a; decide)
end
section
variable {p : Pen} {n m : Nat} {a b : Rat} {x y : D}
theorem e_lshare (ha : QS n a) (hb : QS n b) (h0 : b ≠ 0) (hn : 2 * n + 1 ≤ 8999) : m_l_share [qd a, qd b] p = .ok (qd (a / b)) p := by
  refine eq_of_W (Wo_runF rfl ?_)
  have h1 := mulOk_of ha.nu hb.de (by omega)
  have h3 := mulOk_of ha.de hb.nu (by omega)
  have e := e_lq (p := p) (t := a.num * b.den) (den_num_ne (a := a) h0) (sm_dn ha hb) hn
  rw [rat_div] at e
  simp_arith [i_l_share, tf_l_share, idx_qd0, idx_qd1, h1, h3, e]
end
section
variable {p : Pen} {n : Nat} {C : Type} [i : Fd C]
theorem p_l_over {m : Nat} (h : Pm m) {a b q : Fin m} (hq : (overL m a.val b.val)[0]? = some q.val) : m_l_over [.int m, .int a.val, .int b.val] p = .ok (.int q.val) p := by
  have hr : rng1D (.int (m : Int)) = some (rngD 0 m) := rng1_int (by have := h.le; omega) (by have := h.le; omega)
  have hg : compL (turnC (.n 3) (fun ρ1 => dTs (tbOf G_l_over sh) (.cons (.cmp .eq (.bin .mod (.blt .int (.cons (.bin .mul (.var 3) (.var 2)) .nil)) (.var 0)) (.var 1)) .nil) ρ1) (fun ρ1 => dM (tbOf G_l_over sh) false (.var 3) ρ1) [.shr (.int m), .shr (.int a.val), .shr (.int b.val), .un]) (rngD 0 m) p = .ok ((overL m a.val b.val).map fun t : Nat => .int (t : Int)) p := by
    rw [comp_pure (fun x => match x with | .int t => if decide ((t * b.val).fmod m = (a.val : Int)) = true then some (.int t) else none | _ => none)]
    · unfold rngD overL
      rw [List.filterMap_map, show ((m : Int) - 0).toNat = m from by omega]
      congr 1
      induction List.range m with
      | nil => rfl
      | cons x xs ih =>
        simp only [List.filterMap_cons, List.filter_cons, Function.comp]
        by_cases hc : decide (((0 + (x : Int)) * b.val).fmod m = (a.val : Int)) = true
        · rw [if_pos hc]
          have hc' : decide (((x : Int) * b.val).fmod m = (a.val : Int)) = true := by rw [Int.zero_add] at hc; exact hc
          rw [if_pos hc', ih]; simp
        · rw [if_neg hc]
          have hc' : ¬ decide (((x : Int) * b.val).fmod m = (a.val : Int)) = true := by rw [Int.zero_add] at hc; exact hc
          rw [if_neg hc', ih]
    · intro x hx
      obtain ⟨t, ht, rfl⟩ := List.mem_map.mp hx
      have htm : (0 + (t : Int)) ≤ 7 := by have := List.mem_range.mp ht; have := h.le; omega
      have m1 : mulOk (0 + (t : Int)) b.val = true := mulOk_of (sm_le (b := 7) (n := 3) (by omega) (by decide)) (sm_le (i := (b.val : Int)) (b := 7) (n := 3) (by have := b.isLt; have := h.le; omega) (by decide)) (by decide)
      rw [turn_eq (ρ1 := [.shr (.int m), .shr (.int a.val), .shr (.int b.val), .shr (.int (0 + (t : Int)))]) rfl]
      refine eq_of_W ?_
      by_cases hc : decide (((0 + (t : Int)) * b.val).fmod m = (a.val : Int)) = true
      · simp_arith [turnE, m1, h.ne, hc]
      · have hc2 : decide (((0 + (t : Int)) * b.val).fmod m = (a.val : Int)) = false := by simpa using hc
        simp_arith [turnE, m1, h.ne, hc2]
  have e0 : L2.atI ((overL m a.val b.val).map fun t : Nat => D.int (t : Int)) 0 = some (.int q.val) := L2.atI_nat (j := 0) (by rw [List.getElem?_map, hq]; rfl)
  refine eq_of_W (Wo_runF rfl ?_)
  simp_arith [i_l_over, i_l_over_1, tf_l_over, h.ne, h.dec, hr, kComp, hg, e0]
theorem e_l_over (k : KindF C i) {a b : C} (ha : Fd.Sz n a) (hb : Fd.Sz n b) (h0 : b ≠ 0) (hn : 2 * n + 1 ≤ 8999) : m_l_over [.int (Fd.fl C), Fd.enc a, Fd.enc b] p = .ok (Fd.enc (a / b)) p := by
  cases k with
  | rat =>
    show m_l_over [.int 0, qd a, qd b] p = .ok (qd (a / b)) p
    refine eq_of_W (Wo_runF rfl ?_)
    simp_arith [i_l_over, tf_l_over, e_lshare ha hb h0 hn]
  | f2 => exact p_l_over (.inl rfl) (over2 a b h0)
  | f3 => exact p_l_over (.inr (.inl rfl)) (over3 a b h0)
  | f5 => exact p_l_over (.inr (.inr (.inl rfl))) (over5 a b h0)
  | f7 => exact p_l_over (.inr (.inr (.inr rfl))) (over7 a b h0)
end
section
variable {p : Pen} {n m : Nat} {a b : Rat} {x y : D}
theorem e_lminus (ha : QS n a) (hb : QS n b) (hn : 2 * n + 1 ≤ 8999) : m_l_minus [qd a, qd b] p = .ok (qd (a - b)) p := by
  refine eq_of_W (Wo_runF rfl ?_)
  have h1 := mulOk_of ha.nu hb.de (by omega)
  have h2 := mulOk_of hb.nu ha.de (by omega)
  have h3 := mulOk_of ha.de hb.de (by omega)
  have e := e_lq (p := p) (t := a.num * b.den - b.num * a.den) (den_mul_ne a b) (sm_den ha hb) hn
  rw [rat_sub] at e
  simp_arith [i_l_minus, tf_l_minus, idx_qd0, idx_qd1, h1, h2, h3, e]
end
section
variable {p : Pen} {n : Nat} {C : Type} [i : Fd C]
theorem p_l_sub {m : Nat} (h : Pm m) (a b : Fin m) : m_l_sub [.int m, .int a.val, .int b.val] p = .ok (.int (a - b : Fin m).val) p := by
  have m1 : mulOk a.val b.val = true := mulOk_of (sm_le (i := (a.val : Int)) (b := 7) (n := 3) (by have := a.isLt; have := h.le; omega) (by decide)) (sm_le (i := (b.val : Int)) (b := 7) (n := 3) (by have := b.isLt; have := h.le; omega) (by decide)) (by decide)
  refine eq_of_W (Wo_runF rfl ?_)
  simp_arith [i_l_sub, tf_l_sub, h.ne, h.dec, m1, fin_sub h]
theorem e_l_sub (k : KindF C i) {a b : C} (ha : Fd.Sz n a) (hb : Fd.Sz n b) (hn : 2 * n + 1 ≤ 8999) : m_l_sub [.int (Fd.fl C), Fd.enc a, Fd.enc b] p = .ok (Fd.enc (a - b)) p := by
  cases k with
  | rat =>
    show m_l_sub [.int 0, qd a, qd b] p = .ok (qd (a - b)) p
    refine eq_of_W (Wo_runF rfl ?_)
    simp_arith [i_l_sub, tf_l_sub, e_lminus ha hb hn]
  | f2 => exact p_l_sub (.inl rfl) a b
  | f3 => exact p_l_sub (.inr (.inl rfl)) a b
  | f5 => exact p_l_sub (.inr (.inr (.inl rfl))) a b
  | f7 => exact p_l_sub (.inr (.inr (.inr rfl))) a b
end
section
variable {p : Pen} {n m : Nat} {C : Type} [i : Fd C]
theorem w_l_reduced_b1 (k : KindF C i) {R : List (List C)} {w t c : Nat} {s1 s2 s4 s5 s8 s9 s10 s11 s12 s13 s14 : Slot} (hw : Rl w R) (hc : c < w) (ht : t < R.length) (hs : ∀ j, j < R.length → RSz n (rowAt R t) ∧ RSz n (rowAt R j) ∧ ∀ v ∈ rowAt R t, Fd.Sz n ((rowAt R j).getD c 0 * v)) (hn : 2 * n + 1 ≤ 8999)
    {Q : Fl → En → Pen → Prop} {E : Exc → Pen → Prop} (hQ : ∀ s10 s12 s13 s14, Q .nx [.shr (.int (Fd.fl C)), s1, s2, .own (trows (clrs t c R R.length)), s4, s5, .shr (.int c), .shr (.int t), s8, s9, s10, s11, s12, s13, s14] p) :
    Ws (kFor (tbOf G_l_reduced sh) (.n 12) i_l_reduced_b1 [.shr (.int (Fd.fl C)), s1, s2, .own (trows R), s4, s5, .shr (.int c), .shr (.int t), s8, s9, s10, s11, s12, s13, s14] (hds (List.range R.length)) p) Q E := by
  refine Ws_for (fun j ρ q => q = p ∧ ∃ s10 s12 s13 s14, ρ = [.shr (.int (Fd.fl C)), s1, s2, .own (trows (clrs t c R j)), s4, s5, .shr (.int c), .shr (.int t), s8, s9, s10, s11, s12, s13, s14]) ⟨rfl, _, _, _, _, rfl⟩ ?_ ?_
  · rintro j x ρ q hx ⟨rfl, s10, s12, s13, s14, rfl⟩
    obtain ⟨rfl, hj'⟩ := hdsR_at hx
    refine ⟨_, rfl, ?_⟩
    by_cases hjt : j = t
    · have e1 : decide ((j : Int) = (t : Int)) = true := by simp [hjt]
      simp_arith [i_l_reduced_b1, e1]
      rw [clrs_succ hj', if_pos hjt]
      exact ⟨_, _, _, _, rfl⟩
    · have e1 : decide ((j : Int) = (t : Int)) = false := by simp; omega
      have hjl : j < (clrs t c R j).length := by rw [clrs_len]; exact hj'
      have htl : t < (clrs t c R j).length := by rw [clrs_len]; exact ht
      have r1 : rowAt (clrs t c R j) j = rowAt R j := by rw [clrs_row hj', if_neg (by omega)]
      have r2 : rowAt (clrs t c R j) t = rowAt R t := by rw [clrs_row ht, if_neg (by omega)]
      have a1 := at_row (f := fun r => D.tup (encs r)) hjl
      have a2 := at_row (f := fun r => D.tup (encs r)) htl
      rw [r1] at a1
      rw [r2] at a2
      have a3 := at_enc (r := rowAt R j) (c := c) (by rw [hw _ (rowAt_mem hj')]; exact hc)
      have e0 := e_l_is_zero (p := q) k (a := (rowAt R j).getD c 0)
      obtain ⟨z1, z2, z4⟩ := hs j hj'
      have z5 : Fd.Sz n ((rowAt R j).getD c 0) := z2 _ (by
        rw [List.getD_eq_getElem?_getD, List.getElem?_eq_getElem (by rw [hw _ (rowAt_mem hj')]; exact hc)]
        exact List.getElem_mem _)
      have e3 : L2.ixN (clrs t c R j).length (j : Int) = some j := ixN_at hjl
      by_cases h0 : (rowAt R j).getD c 0 = 0
      · rw [decide_eq_true h0] at e0
        simp_arith [i_l_reduced_b1, e1, tf_l_reduced, a1, a2, a3, e0]
        rw [clrs_succ hj', if_neg hjt]
        refine ⟨s10, .shr (.int j), s13, s14, ?_⟩
        have : clr (rowAt R t) c (rowAt R j) = rowAt R j := by unfold clr; rw [if_pos h0]
        rw [this]
        have e5 : (clrs t c R j).set j (rowAt R j) = clrs t c R j := by
          rw [← r1]
          unfold rowAt
          rw [List.getD_eq_getElem?_getD, List.getElem?_eq_getElem hjl]
          exact List.set_getElem_self hjl
        rw [e5]
      · rw [decide_eq_false h0] at e0
        simp_arith [i_l_reduced_b1, e1, tf_l_reduced, a1, a2, a3, e0, zipD_tt]
        refine W_map (fun q => .tup [Fd.enc q.1, Fd.enc q.2]) (fun q => Fd.enc (q.1 - (rowAt R j).getD c 0 * q.2)) (List.zip (rowAt R j) (rowAt R t)) (fun uv hq => ?_) ?_
        · obtain ⟨u, v⟩ := uv
          refine ⟨_, rfl, ?_⟩
          have hu := (List.of_mem_zip hq).1
          have hv := (List.of_mem_zip hq).2
          simp_arith! [tf_l_reduced, e_l_mul k z5 (z1 v hv) hn, e_l_sub k (z2 u hu) (z4 v hv) hn]
        simp_arith [e3]
        rw [clrs_succ hj', if_neg hjt]
        refine ⟨.shr (Fd.enc ((rowAt R j).getD c 0)), .shr (.int j), s13, s14, ?_⟩
        have : clr (rowAt R t) c (rowAt R j) = rowSub (rowAt R j) ((rowAt R j).getD c 0) (rowAt R t) := by unfold clr; rw [if_neg h0]
        rw [this]
        simp only [trows, List.map_set, rowSub, encs, List.map_map, Function.comp_def]
  · rintro ρ q ⟨rfl, s10, s12, s13, s14, rfl⟩
    rw [show (hds (List.range R.length)).length = R.length from by simp [hds]]
    exact hQ _ _ _ _
theorem swp_trows {R : List (List C)} {t k : Nat} : ((trows R).set t (.tup (encs (rowAt R k)))).set k (.tup (encs (rowAt R t))) = trows (swp R t k) := by
  simp [trows, swp, List.map_set]
theorem nrm_trows {R : List (List C)} {t c : Nat} : (trows R).set t (.tup ((rowAt R t).map fun x => Fd.enc (x / (rowAt R t).getD c 0))) = trows (nrm R t c) := by
  unfold trows nrm ent
  rw [List.map_set]
  simp [encs, Function.comp_def]
theorem w_l_reduced_b2 (k : KindF C i) {R : List (List C)} {H : List Nat} {w c : Nat} {d : Fd.Cm C} {s1 s2 s5 s7 s8 s9 s10 s11 s12 s13 s14 : Slot} (hw : Rl w R) (hc : c < w) (hd : Fd.ok n d) (hin : AllIn n d R) (hn : H.length < R.length → 4 * n + 3 ≤ 8999) (hl : R.length ≤ 1000) (hH : H.length ≤ 1000)
    {Q : Fl → En → Pen → Prop} {E : Exc → Pen → Prop} (hQ : ∀ s7 s8 s9 s10 s11 s12 s13 s14, Q .nx [.shr (.int (Fd.fl C)), s1, s2, .own (trows (stepR (R, H) c).1), .own (hds (stepR (R, H) c).2), s5, .shr (.int c), s7, s8, s9, s10, s11, s12, s13, s14] p) :
    Ws (dSs (tbOf G_l_reduced sh) i_l_reduced_b2 [.shr (.int (Fd.fl C)), s1, s2, .own (trows R), .own (hds H), s5, .shr (.int c), s7, s8, s9, s10, s11, s12, s13, s14] p) Q E := by
  have hr : rng2D (.int (H.length : Int)) (.int (R.length : Int)) = some (hds ((List.range (R.length - H.length)).map (H.length + ·))) := by
    rw [rng2_int (by omega) (by omega) (by omega) (by omega) (by omega), rngD_nat]
  simp_arith [i_l_reduced_b2, i_l_reduced_b2_1, tf_l_reduced, hr]
  refine W_fil _ (fun t : Nat => .int (t : Int)) (fun a => decide (ent R a c ≠ 0)) _ (fun a ha => ?_) ?_
  · obtain ⟨j, hj, rfl⟩ := List.mem_map.mp ha
    have hlt : H.length + j < R.length := by have := List.mem_range.mp hj; omega
    refine ⟨_, rfl, ?_⟩
    have a1 := at_row (f := fun r => D.tup (encs r)) hlt
    have a3 := at_enc (r := rowAt R (H.length + j)) (c := c) (by rw [hw _ (rowAt_mem hlt)]; exact hc)
    have e := e_l_is_zero (p := p) k (a := (rowAt R (H.length + j)).getD c 0)
    by_cases h0 : (rowAt R (H.length + j)).getD c 0 = 0
    · rw [decide_eq_true h0] at e
      have h1 : decide (ent R (H.length + j) c ≠ 0) = false := decide_eq_false (fun z => z h0)
      simp_arith! [tf_l_reduced, a1, a3, e, h1]
    · rw [decide_eq_false h0] at e
      have h1 : decide (ent R (H.length + j) c ≠ 0) = true := decide_eq_true h0
      simp_arith! [tf_l_reduced, a1, a3, e, h1]
  have hfo : ((List.range (R.length - H.length)).map (H.length + ·)).filter (fun a => decide (ent R a c ≠ 0)) = founds R H.length c := rfl
  rw [hfo]
  have hne := ne_nil_hds (F := founds R H.length c)
  cases hf : founds R H.length c with
  | nil =>
    rw [step_nil hf] at hQ
    rw [hf] at hne
    simp only [hds, List.map_nil, List.isEmpty_nil, Bool.not_true] at hne
    simp_arith [i_l_reduced_b2_2, hne]
    exact hQ _ _ _ _ _ _ _ _
  | cons k0 rest =>
    obtain ⟨k1, k2, k3⟩ := founds_mem.mp (hf ▸ List.mem_cons_self .. : k0 ∈ founds R H.length c)
    have ht : H.length < R.length := by omega
    rw [step_cons hf] at hQ
    rw [hf] at hne
    have hn := hn ht
    obtain ⟨e, f1, f2, f3, f4, f5⟩ := nxt_in hd hin ht k2 k3
    have a1 := at_row (f := fun r => D.tup (encs r)) k2
    have a2 := at_row (f := fun r => D.tup (encs r)) ht
    have x1 := ixN_at ht
    have x2 := ixN_at k2
    have htt := swp_row ht k2 ht
    rw [if_pos rfl] at htt
    have hsw := ent_swp_t (c := c) ht k2
    unfold nxt at hQ
    have hl0 : (swp R H.length k0).length = R.length := swp_len
    have hpq := nrm_row (c := c) ht k2 ht
    rw [if_pos rfl] at hpq
    have hR1 : ∀ r ∈ swp R H.length k0, ∀ x ∈ r, Fd.In n d x := fun r hr => hin r (swp_mem ht k2 hr)
    have hrl1 : Rl w (swp R H.length k0) := swp_rl hw ht k2
    have hnl : (nrm (swp R H.length k0) H.length c).length = R.length := by rw [nrm_len, swp_len]
    have hq2 : ∀ j, j < R.length → (rowAt (nrm (swp R H.length k0) H.length c) j).getD c 0 = if j = H.length then 1 else ent (swp R H.length k0) j c := fun j hj => by
      rw [nrm_row ht k2 hj]
      split
      · unfold pvt; rw [map_get]
        show ent R k0 c / ent R k0 c = 1
        grind
      · rfl
    have hrlN : Rl w (nrm (swp R H.length k0) H.length c) := rl_of fun j hj => by
      rw [nrm_row ht k2 (by omega)]
      split
      · rw [pvt_len]; exact rl_at hw k2
      · exact rl_at hrl1 (by omega)
    generalize hRn : swp R H.length k0 = R1 at f4 f5 hQ htt hsw hl0 hpq hR1 hrl1 hnl hq2 hrlN
    have ht1 : H.length < R1.length := by omega
    have b1 := at_row (f := fun r => D.tup (encs r)) ht1
    have y1 := ixN_at ht1
    have hlr : c < (rowAt R1 H.length).length := by rw [hrl1 _ (rowAt_mem ht1)]; exact hc
    have b2 := at_enc hlr
    have hmem : (rowAt R1 H.length).getD c 0 ∈ rowAt R1 H.length := List.mem_of_getElem? (getD_get hlr)
    have z1 : RSz n (rowAt R1 H.length) := fun x hx => Fd.in_sz hd (hR1 _ (rowAt_mem ht1) x hx)
    have hh0 : (rowAt R1 H.length).getD c 0 ≠ 0 := by
      have : (rowAt R1 H.length).getD c 0 = ent R k0 c := hsw
      rw [this]; exact k3
    have hr1 : rng1D (.int ((nrm R1 H.length c).length : Int)) = some (hds (List.range (nrm R1 H.length c).length)) := rng1N (by omega)
    rw [show hds (k0 :: rest) = D.int (k0 : Int) :: hds rest from rfl] at hne
    simp_arith [i_l_reduced_b2_2, hne, List.isEmpty_cons, at0, a1, a2, x1, x2, swp_trows, List.length_set, hRn, b1, y1, b2]
    refine W_map _ (fun x => Fd.enc (x / (rowAt R1 H.length).getD c 0)) _ (fun x hx => ?_) ?_
    · refine ⟨_, rfl, ?_⟩
      simp_arith! [tf_l_reduced, e_l_over k (z1 x hx) (z1 _ hmem) hh0 (by omega)]
    simp_arith [b1, y1, nrm_trows, hr1]
    refine w_l_reduced_b1 (n := 2 * n + 1) k (w := w) hrlN hc (by omega) (fun j hj => ⟨fun x hx => Fd.in_sz f1 (f4 _ (rowAt_mem (by omega)) x hx), fun x hx => Fd.in_sz f1 (f4 _ (rowAt_mem hj) x hx), fun v hv => ?_⟩) (by omega) fun s10 s12 s13 s14 => ?_
    · rw [hpq] at hv
      rw [hq2 j (by omega)]
      split
      · have hvv : v ∈ rowAt (nrm R1 H.length c) H.length := by rw [hpq]; exact hv
        have : (1 : C) * v = v := by grind
        rw [this]; exact Fd.in_sz f1 (f4 _ (rowAt_mem (by omega)) v hvv)
      · exact f5 j (by omega) v hv
    · rw [show (nrm R1 H.length c).length = R.length from hnl]
      simp_arith [List.length_map]
      rw [if_pos (show H.length < 16777216 from by omega)]
      simp_arith []
      have := hQ (.shr (.int H.length)) (.own (hds (k0 :: rest))) (.shr (.int k0)) s10 s11 s12 s13 s14
      simpa [hds] using this
theorem e_l_reducedW (k : KindF C i) {R : List (List C)} {W w : Nat} {d : Fd.Cm C} {tb : D} (htb : seqOf tb = some (trows R)) (hw : Rl W R) (hwW : w ≤ W) (hd : Fd.ok n d) (hin : AllIn n d R) (hn : bt n (min R.length w + 1) ≤ 8999) (hl : R.length ≤ 1000) (hww : w ≤ 1000) :
    m_l_reduced [.int (Fd.fl C), tb, .int w] p = .ok (.tup [.tup (trows (redN R w)), .lst (hds (headsN R w))]) p := by
  refine eq_of_W (Wo_runF rfl ?_)
  simp_arith [i_l_reduced, tf_l_reduced, htb]
  refine W_map (fun r => .tup (encs r)) (fun r => .tup (encs r)) R (fun r hr => ⟨_, rfl, ?_⟩) ?_
  · simp_arith! []
  simp_arith [setAllS, i_l_reduced_1, rng1N (show w ≤ 16777216 from by omega)]
  refine Ws_for (fun j ρ q => q = p ∧ ∃ s5 s6 s7 s8 s9 s10 s11 s12 s13 s14, ρ = [.shr (.int (Fd.fl C)), .shr tb, .shr (.int w), .own (trows (rrefN R j).1), .own (hds (rrefN R j).2), s5, s6, s7, s8, s9, s10, s11, s12, s13, s14]) ⟨rfl, _, _, _, _, _, _, _, _, _, _, rfl⟩ ?_ ?_
  · rintro j x ρ q hx ⟨rfl, s5, s6, s7, s8, s9, s10, s11, s12, s13, s14, rfl⟩
    obtain ⟨rfl, hj⟩ := hdsR_at hx
    have hR := red_rref hw j (by omega)
    obtain ⟨e, h1, h2⟩ := rref_in (w := W) hd hin j
    have hwide := hR.wide
    have hlen := rref_len (R := R) j
    refine ⟨_, rfl, ?_⟩
    refine w_l_reduced_b2 k (w := W) (R := (rrefN R j).1) (H := (rrefN R j).2) (c := j) (d := e) (rref_rl hw j) (by omega) h1 h2 (fun ht => ?_) (by omega) (by omega) fun s7 s8 s9 s10 s11 s12 s13 s14 => ?_
    · have : bt n ((rrefN R j).2.length + 2) ≤ bt n (min R.length w + 1) := bt_mono (Nat.le_refl n) (by omega)
      rw [bt_succ, bt_succ] at this
      omega
    · exact ⟨rfl, _, _, s7, s8, s9, s10, s11, s12, s13, s14, rfl⟩
  · rintro ρ q ⟨rfl, s5, s6, s7, s8, s9, s10, s11, s12, s13, s14, rfl⟩
    rw [show (hds (List.range w)).length = w from by simp [hds]]
    have hR := red_rref hw w hwW
    have ec : cutD (trows (rrefN R w).1) none (some (((rrefN R w).2.length : Nat) : Int)) = trows (redN R w) := by
      rw [cut_to (by rw [List.length_map]; exact hR.tall), ← List.map_take]; rfl
    simp_arith [i_l_reduced_2, i_l_reduced_3, ec]
    rfl
theorem e_l_reduced (k : KindF C i) {R : List (List C)} {w : Nat} {d : Fd.Cm C} {tb : D} (htb : seqOf tb = some (trows R)) (hw : Rl w R) (hd : Fd.ok n d) (hin : AllIn n d R) (hn : bt n (min R.length w + 1) ≤ 8999) (hl : R.length ≤ 1000) (hww : w ≤ 1000) :
    m_l_reduced [.int (Fd.fl C), tb, .int w] p = .ok (.tup [.tup (trows (redN R w)), .lst (hds (headsN R w))]) p := e_l_reducedW k htb hw (Nat.le_refl w) hd hin hn hl hww
end
section
variable {p : Pen} {n m : Nat} {C : Type} [i : Fd C]
theorem e_l_span (k : KindF C i) {R : List (List C)} {w : Nat} {d : Fd.Cm C} {tb : D} (htb : seqOf tb = some (trows R)) (hw : Rl w R) (hd : Fd.ok n d) (hin : AllIn n d R) (hn : bt n (min R.length w + 1) ≤ 8999) (hl : R.length ≤ 1000) (hww : w ≤ 1000) :
    m_l_span [.int (Fd.fl C), tb, .int w] p = .ok (.tup (trows (redN R w))) p := by
  refine eq_of_W (Wo_runF rfl ?_)
  simp_arith [i_l_span, tf_l_span, e_l_reduced k htb hw hd hin hn hl hww, at0]
end
section
variable {p : Pen} {n m : Nat} {C : Type} [i : Fd C]
theorem fld_b0 {a b c : D} : opFld 0 (.ins 14 [a, b, c]) = some a := rfl
theorem fld_b1 {a b c : D} : opFld 1 (.ins 14 [a, b, c]) = some b := rfl
theorem fld_b5 {a b c : D} : opFld 5 (.ins 14 [a, b, c]) = some c := rfl
theorem e_box_key {a b c : D} : m_box_key [.ins 14 [a, b, c]] p = .ok (.tup [a, b, c]) p := by
  refine eq_of_W (Wo_runF rfl ?_)
  simp_arith [i_box_key, tf_box_key, fld_b0, fld_b1, fld_b5]
end
section
variable {p : Pen} {n m : Nat} {C : Type} [i : Fd C]
theorem e_eq_box {a b c a' b' c' : D} {z : Bool} (h : opCmp .eq (.tup [a, b, c]) (.tup [a', b', c']) = some z) : m_Box_eq [.ins 14 [a, b, c], .ins 14 [a', b', c']] p = .ok (.bl z) p := by
  have hi : isTy (.ins 14 [a', b', c']) (.cls 14) = some true := rfl
  refine eq_of_W (Wo_runF rfl ?_)
  simp_arith [i_Box_eq, tf_Box_eq, e_box_key, hi, h, beq_self_eq_true]
theorem e_eq_other {x d : D} (h : isTy d (.cls 14) = some false) : m_Box_eq [x, d] p = .ok (.bl false) p := by
  cases d with
  | ins c ys =>
    have : (c == 14) = false := Option.some.inj h
    refine eq_of_W (Wo_runF rfl ?_)
    simp_arith [i_Box_eq, tf_Box_eq, this]
  | clo n => cases h
  | _ => rfl
end
section
variable {p : Pen} {n m : Nat} {C : Type} [i : Fd C]
theorem e_ne_box {xs : List D} {d : D} {z : Bool} (he : eqOk 14 (.ins 14 xs) d = true) (h : ∀ p, m_Box_eq [.ins 14 xs, d] p = .ok (.bl z) p) : m_Box_ne [.ins 14 xs, d] p = .ok (.bl (!z)) p := by
  refine eq_of_W (Wo_runF rfl ?_)
  simp_arith [i_Box_ne, tf_Box_ne, mcK_ok he, h]
end
theorem e_fault {clo : Nat → M D} {n : Nat} {e : Exc} {p : Pen} {d : D} (h : clo n p = .err e p) (ht : tellX r_l_fault e = some d) : m_l_fault clo [.clo n] p = .ok d p := by
  unfold m_l_fault mFault
  simp only [h, ht]
structure Due (clo : Nat → M D) (p : Pen) (x : D) : Prop where
  ex : ∃ n e d, x = .tup [.clo n, d] ∧ clo n p = .err e p ∧ tellX r_l_fault e = some d ∧ RC 1000 10 d
theorem e_are_due {clo : Nat → M D} {xs : List D} {p : Pen} (h : ∀ x ∈ xs, Due clo p x) : m_l_are_due clo [.lst xs] p = .ok (.bl true) p := by
  refine eq_of_W (Wo_runF rfl ?_)
  simp_arith [i_l_are_due]
  unfold kComp
  rw [comp_map (fun _ => D.bl true) xs p fun x hx => ?_]
  · have e : opBlt .all [.lst (xs.map fun _ => D.bl true)] = some (.bl true) := by
      show (Option.bind (some (xs.map fun _ => D.bl true)) fun xs => (blsD xs).map fun ns => D.bl (ns.all id)) = _
      have : ∀ xs : List D, blsD (xs.map fun _ => D.bl true) = some (xs.map fun _ => true) := fun xs => by
        induction xs with
        | nil => rfl
        | cons x xs ih => show (blsD (xs.map fun _ => D.bl true)).map (true :: ·) = _; rw [ih]; rfl
      show (blsD (xs.map fun _ => D.bl true)).map _ = _
      rw [this]
      simp
    simp_arith [e]
  · obtain ⟨n, e, d, rfl, h1, h2, h3⟩ := h x hx
    obtain ⟨r1, r2⟩ := repr_ok h3 (by decide) (by decide)
    rw [turn_eq rfl]
    refine eq_of_W ?_
    simp_arith [turnE, killE, Tg.slots, Tg.slotss, tf_l_are_due, e_fault h1 h2, r1, cmpEqS r2]
section
variable {p : Pen} {n m : Nat} {C : Type} [i : Fd C]
theorem w_odd {k : Nat} {xs : List D} (hp : PenB (k + 1) p) : Wo (m_l_odd [.pen] p) (fun d p' => ((∀ q, m_Box_ne [.ins 14 xs, d] q = .ok (.bl true) q) ∧ eqOk 14 (.ins 14 xs) d = true) ∧ PenB k p') noE := by
  refine Wo_runF rfl ?_
  simp_arith [i_l_odd, tf_l_odd]
  refine (w_pick (k := k) (by decide) (by decide) hp).im fun d q hz => ?_
  simp_arith []
  refine ⟨?_, hz.2⟩
  have hd := hz.1
  have go : ∀ d : D, eqOk 14 (.ins 14 xs) d = true → isTy d (.cls 14) = some false → (∀ q, m_Box_ne [.ins 14 xs, d] q = .ok (.bl true) q) ∧ eqOk 14 (.ins 14 xs) d = true := fun d h1 h2 => ⟨fun q => e_ne_box h1 fun p => e_eq_other h2, h1⟩
  simp only [List.mem_cons, List.not_mem_nil, or_false] at hd
  rcases hd with rfl | rfl | rfl | rfl | rfl | rfl | rfl | rfl | rfl <;> exact go _ rfl rfl
end
section
variable {C : Type} [i : Fd C]
theorem pl_bx (kf : KindF C i) {f : Int} {ws : List Nat} {T : List (List C)} : Pl 64 (.tup [.int f, .tup (hds ws), .tup (trows T)]) := .tup (k := 63) fun d hd => by
  simp only [List.mem_cons, List.not_mem_nil, or_false] at hd
  rcases hd with rfl | rfl | rfl
  · exact .int
  · exact .tup (k := 62) pl_hds
  · exact .tup (k := 62) (pl_trows kf (j := 60))
theorem rc_hds {ws : List Nat} (h : ∀ x ∈ ws, x ≤ 1000000) : RC (ws.length * 1923 + 3) 1 (.tup (hds ws)) := by
  have := rcs_all (n := 1921) (k := 0) (ds := hds ws) fun d hd => by
    obtain ⟨x, hx, rfl⟩ := List.mem_map.mp hd
    exact rc_int (sm_le (b := 1000000) (by have := h x hx; omega) (by decide +kernel))
  rw [List.length_map] at this
  exact rc_tup this
theorem w_case_b (kf : KindF C i) {s2 s3 s4 s5 s6 s7 s8 s9 : Slot} {k : Nat} {p : Pen} (hp : PenB (k + 900) p) : Ws (dSs (tbOf G_l_case sh) i_l_case_1 [.shr .pen, .shr (.int (Fd.fl C)), s2, s3, s4, s5, s6, s7, s8, s9] p) (fnQ fun d p' => d = .bl true ∧ PenB k p') noE := by
  simp_arith [i_l_case_1, tf_l_case]
  refine (w_drawn_box kf (k := k + 700) (hp.mono (by omega))).im fun d q1 hz => ?_
  obtain ⟨⟨ws, R, rfl, hw1, hw2, hw3, hR1, hR2, hR3⟩, hq1⟩ := hz
  simp_arith [bindTs, bindT, i_l_case_2, sum_hds_t, i_l_case_3, tf_l_case]
  refine (w_pick (k := k + 699) (by simp) (by simp) hq1).im fun wd q2 hz => ?_
  have hwd : seqOf wd = some (hds ws) := by
    have := hz.1
    simp only [List.mem_cons, List.not_mem_nil, or_false] at this
    rcases this with rfl | rfl <;> rfl
  have hq2 := hz.2
  clear hz
  have ok5 : Fd.ok 5 (Fd.dr : Fd.Cm C) := Fd.ok_mono Fd.ok_dr (by decide)
  have nl1 : (3 * ws.sum + 1) * R.length ≤ 22 * 8 := Nat.mul_le_mul (by omega) hR1
  simp_arith [tf_l_case]
  refine (w_passed_rows kf (k := k + 500) (R := R) (w := ws.sum) (dr := .tup (trows R)) rfl (fun r hr => Nat.le_of_eq (hR2 r hr)) (fun r hr x hx => Fd.sz_mono (Fd.in_sz ok5 (hR3 r hr x hx)) (by decide)) (hq2.mono (by omega))).im fun h q3 hz => ?_
  have hH := hz.1
  have hq3 := hz.2
  clear hz
  have k8 : bt 5 8 = 1535 := by decide
  have k7 : bt 5 7 = 767 := by decide
  have b8 : bt 5 (ws.sum + 1) ≤ bt 5 8 := bt_mono (Nat.le_refl 5) (by omega)
  have b7 : bt 5 ws.sum ≤ bt 5 7 := bt_mono (Nat.le_refl 5) (by omega)
  have bm : bt 5 (min R.length ws.sum + 1) ≤ bt 5 (ws.sum + 1) := bt_mono (Nat.le_refl 5) (by omega)
  have hw4 : ∀ x ∈ ws, x ≤ 4 := fun x hx => by have := hw2 x hx; omega
  have eb := e_Box (p := q3) kf hwd (by omega) hw4 (by omega) hH hR2 (by omega) (steps_ok hR2 ok5 hR3 (by omega))
  have es := e_l_span (p := q3) kf (tb := .tup (trows R)) rfl hR2 ok5 hR3 (by omega) (by omega) (by omega)
  have hTr := redu_of hR2
  obtain ⟨e1, o1, a1⟩ := redN_in' (w := ws.sum) hR2 ok5 hR3
  have o1 := Fd.ok_mono o1 (show bt 5 ws.sum ≤ 767 by omega)
  have a1 := a1.mono (show bt 5 ws.sum ≤ 767 by omega)
  have hle := heads_le hR2
  have hTl : (redN R ws.sum).length ≤ 7 := by rw [hTr.len]; omega
  have hcm : ∀ v, (v.length = ws.sum ∧ ∀ z, (∀ r ∈ R, dot r z = 0) → dot v z = 0) → Comes (redN R ws.sum) ws.sum v := fun v hv => ⟨hv.1, fun z hz hk => hv.2 z fun r hr => (comes_red hR2 hr).2 z hz hk⟩
  have rc1 := rc_tab kf o1 a1 (redN_rl hR2) (by decide)
  have nl2 : (redN R ws.sum).length * (ws.sum * 3851 + 5) ≤ 7 * (7 * 3851 + 5) := Nat.mul_le_mul hTl (by omega)
  have rcA : RC 700000 4 (.tup [.int (Fd.fl C), .tup (hds ws), .tup (trows (redN R ws.sum))]) :=
    (rc_tup (rcs_cons (n := 200000) (k := 3) ((rc_int (sm_le (b := 7) (by rcases kind_fl kf with h | h | h | h | h <;> rw [h] <;> decide) (by decide))).mono (by decide) (by decide)) (rcs_cons ((rc_hds (fun x hx => by have := hw2 x hx; omega)).mono (by omega) (by decide)) (rcs_cons (rc1.mono (by omega) (Nat.le_refl _)) (rcs_nil _ _))))).mono (by omega) (Nat.le_refl _)
  obtain ⟨ra1, ra2⟩ := repr_ok rcA (by decide) (by decide)
  generalize hT : redN R ws.sum = T at eb es hTr a1 hTl hcm ra1 ra2
  simp_arith [eb, i_l_case_4, tf_l_case, fld_b0, fld_b1, fld_b5, es, ra1, cmpNeS ra2]
  have hr3 : rng1D (.int 3) = some (hds (List.range 3)) := rng1N (n := 3) (by decide)
  simp_arith [i_l_case_5, tf_l_case, hr3]
  refine W_draw (fun t : Nat => .int (t : Int)) (fun v : List C => .tup (encs v)) (fun _ v => v.length = ws.sum ∧ (∀ x ∈ v, Fd.In 18 (Fd.cmul Fd.dr Fd.dr) x) ∧ Comes T ws.sum v) 16 (k + 400) (List.range 3) (hq3.mono (by simp)) (fun t ht k' q hq => ⟨_, rfl, ?_⟩) fun M q4 hM hq4 => ?_
  · simp_arith! [tf_l_case]
    refine (w_mixC kf (k := k') (R := R) (w := ws.sum) (t := .tup (trows R)) rfl hR2 ok5 hR3 (by omega) (by omega) (hq.mono (by omega))).im fun v q' hz => ?_
    obtain ⟨⟨v, rfl, v1, v2, v3⟩, hq'⟩ := hz
    simp_arith! []
    exact ⟨v, rfl, ⟨v1, fun x hx => Fd.in_mono (v2 x hx) (by omega), hcm v ⟨v1, v3⟩⟩, hq'⟩
  have hMl : M.length = 3 := by rw [hM.len]; rfl
  have hM1 : Rl ws.sum M := hM.all fun _ _ _ h => h.1
  have hM2 : AllIn 18 (Fd.cmul Fd.dr Fd.dr) M := hM.all (R := fun v => ∀ x ∈ v, Fd.In 18 (Fd.cmul Fd.dr Fd.dr) x) fun _ _ _ h => h.2.1
  have hM3 : ∀ v ∈ M, Comes T ws.sum v := hM.all fun _ _ _ h => h.2.2
  have ok18 : Fd.ok 18 (Fd.cmul (Fd.dr : Fd.Cm C) Fd.dr) := Fd.ok_mono (Fd.ok_mul Fd.ok_dr Fd.ok_dr) (by decide)
  have k18 : bt 18 8 = 4863 := by decide
  have b18 : bt 18 (ws.sum + 1) ≤ bt 18 8 := bt_mono (Nat.le_refl _) (by omega)
  have bm18 : bt 18 (min M.length ws.sum + 1) ≤ bt 18 (ws.sum + 1) := bt_mono (Nat.le_refl _) (by omega)
  have hszM : ∀ r ∈ M, RSz 4000 r := fun r hr x hx => Fd.sz_mono (allin_sz ok18 hM2 r hr x hx) (by decide)
  have hszT : ∀ r ∈ T, RSz 4000 r := fun r hr x hx => Fd.sz_mono (allin_sz o1 a1 r hr x hx) (by decide)
  have hs4 : 4 * (18 + 767 + (headsN R ws.sum).length) + 3 ≤ 8999 := by omega
  have eM := e_Box (p := q4) kf (wd := .tup (hds ws)) (t := .tup (trows M)) rfl (by omega) hw4 (by omega) (htab_enc kf hszM (Nat.le_refl _)) hM1 (by omega) (steps_ok hM1 ok18 hM2 (by omega))
  have esM := e_l_span (p := q4) kf (tb := .lst (trows M)) rfl hM1 ok18 hM2 (by omega) (by omega) (by omega)
  have hTM := again hTr hM3
  have hrlTM : Rl ws.sum (T ++ M) := fun r hr => by
    rcases List.mem_append.mp hr with hr | hr
    · exact hTr.rl r hr
    · exact hM1 r hr
  have eTM := e_Box (p := q4) kf (wd := .tup (hds ws)) (t := .tup (trows (T ++ M))) rfl (by omega) hw4 (by omega) (htab_enc kf (fun r hr => by
    rcases List.mem_append.mp hr with hr | hr
    · exact hszT r hr
    · exact hszM r hr) (Nat.le_refl _)) hrlTM (by rw [List.length_append]; omega) (again_ok hTr hM3 ok18 o1 a1 hM2 hs4)
  rw [hTM.1] at eTM
  have hT0 := again (M := []) hTr (fun v hv => by cases hv)
  have hs0 := again_ok (M := []) (m := 18) (d := Fd.cmul Fd.dr Fd.dr) hTr (fun v hv => by cases hv) ok18 o1 a1 (fun r hr => by cases hr) hs4
  rw [List.append_nil] at hT0 hs0
  have eF := e_Box (p := q4) kf (ws := ws ++ [0]) (wd := .tup (hds (ws ++ [0]))) (t := .tup (trows T)) (R := T) rfl (by rw [List.length_append]; simp; omega) (fun x hx => by
    rcases List.mem_append.mp hx with hx | hx
    · exact hw4 x hx
    · rw [List.mem_singleton.mp hx]; decide) (by rw [List.sum_append]; simp; omega) (htab_enc kf hszT (Nat.le_refl _)) (by rw [List.sum_append]; simpa using hTr.rl) (by omega) (by rw [List.sum_append]; simpa using hs0)
  have hsw : (ws ++ [0]).sum = ws.sum := by rw [List.sum_append]; simp
  rw [hsw, hT0.1] at eF
  have oTM := opAddT (a := trows T) (b := trows M) (by rw [List.length_map, List.length_map]; omega)
  have oW := opAddT (a := hds ws) (b := [D.int 0]) (by rw [List.length_map]; simp; omega)
  have eTM1 : trows T ++ trows M = trows (T ++ M) := by simp [trows]
  have eW1 : hds ws ++ [D.int 0] = hds (ws ++ [0]) := by simp [hds]
  have pT : Pl 64 (.tup (trows T)) := .tup (k := 63) (pl_trows kf (j := 61))
  have pM : Pl 64 (.tup (trows (redN M ws.sum))) := .tup (k := 63) (pl_trows kf (j := 61))
  -- the box's own rules
  have q1e := e_eq_box (p := q4) (eqP_t (pl_bx kf (f := Fd.fl C) (ws := ws) (T := T)))
  have hne2 : ∀ f : Int, f ≠ Fd.fl C → ∀ (X : List D), Pl 64 (.tup [.int f, .tup (hds ws), .tup X]) → m_Box_eq [bx C ws T, .ins 14 [.int f, .tup (hds ws), .tup X]] q4 = .ok (.bl false) q4 := fun f hf X hX => e_eq_box (eqP_f (pl_bx kf) hX fun z => by
    injection z with z; injection z with z; injection z with z; exact hf z.symm)
  have hneW := e_eq_box (p := q4) (eqP_f (pl_bx kf (f := Fd.fl C) (ws := ws) (T := T)) (pl_bx kf (f := Fd.fl C) (ws := ws ++ [0]) (T := T)) fun z => by
    injection z with z; injection z with z1 z; injection z with z _; injection z with z
    have := congrArg List.length z
    simp at this)
  have hEi := e_eq_other (p := q4) (x := bx C ws T) (d := .int 5) rfl
  have hEt := e_eq_other (p := q4) (x := bx C ws T) (d := .tup (trows T)) rfl
  have hEmp : ∃ X : List D, ∃ f g : Int, ∃ b : Bool, decide (Fd.fl C = 2) = b ∧ (if b = true then (3 : Int) else 2) = g ∧ f ≠ Fd.fl C ∧ Pl 64 (.tup [.int f, .tup (hds ws), .tup X]) ∧ m_Box [.int g, .tup (hds ws), .tup []] q4 = .ok (.ins 14 [.int f, .tup (hds ws), .tup X]) q4 := by
    have z : ∀ (D' : Type) (j : Fd D') (kj : KindF D' j), m_Box [.int (Fd.fl D'), .tup (hds ws), .tup []] q4 = .ok (bx D' ws (redN [] ws.sum)) q4 := fun D' j kj => e_Box kj (R := []) rfl (by omega) hw4 (by omega) ⟨[], rfl, (fun _ h => by cases h), .inl rfl⟩ (fun r hr => by cases hr) (by simp) fun j' hj => by
      have hl : (rrefN ([] : List (List D')) j').1.length = 0 := by rw [rref_len]; rfl
      exact ⟨3, Fd.dr, Fd.ok_dr, (fun r hr => by rw [List.eq_nil_of_length_eq_zero hl] at hr; cases hr), fun h => by simp at h⟩
    by_cases h2 : Fd.fl C = 2
    · refine ⟨_, _, 3, true, decide_eq_true h2, rfl, ?_, ?_, z (Fin 3) fd3 .f3⟩
      · rw [h2]; decide
      · exact pl_bx (i := fd3) .f3
    · refine ⟨_, _, 2, false, decide_eq_false h2, rfl, ?_, ?_, z (Fin 2) fd2 .f2⟩
      · exact fun z => h2 z.symm
      · exact pl_bx (i := fd2) .f2
  obtain ⟨X, f, g, b, hb, hg, hf, hX, hBX⟩ := hEmp
  have hEX := hne2 f hf X hX
  have fin : Ws (dSs (tbOf G_l_case sh) i_l_case_10 [.shr .pen, .shr (.int (Fd.fl C)), .shr (.tup (hds ws)), .shr (.tup (trows R)), .shr (.int (ws.sum : Nat)), .shr (bx C ws T), .shr (.lst (trows M)), s7, .shr (bx C ws (redN M ws.sum)), .shr (.bl (decide (redN M ws.sum = T)))] q4) (fnQ fun d p' => d = .bl true ∧ PenB k p') noE := by
    cases b
    all_goals
      simp only [Bool.false_eq_true, if_true, if_false] at hg
      subst hg
      simp_arith [i_l_case_10, tf_l_case, hb, hBX, hEX, hEi, hEt, fld_b5]
      simp_arith [i_l_case_11, tf_l_case, oW, eW1, fld_b5, eF, hneW, isBl_bl]
      refine (w_odd (k := k) (xs := [.int (Fd.fl C), .tup (hds ws), .tup (trows T)]) (hq4.mono (by omega))).im fun d q5 hz => ?_
      have e1 := hz.1.1
      have e2 := hz.1.2
      have hq5 := hz.2
      simp_arith [mcK_ok e2, tf_l_case, e1]
      exact hq5
  have eqD : ∀ {T1 T2 : List (List C)}, T1 ≠ T2 → (D.tup (trows T1)) ≠ .tup (trows T2) := fun h z => h (trows_inj (by injection z))
  by_cases hMT : redN M ws.sum = T
  · have d1 := eqP_t pT
    have qE := q1e
    have qN := e_ne_box (p := q4) (xs := [.int (Fd.fl C), .tup (hds ws), .tup (trows T)]) (d := bx C ws T) (z := true) (eqOk_ins (by simp)) (fun p => e_eq_box (eqP_t (pl_bx kf)))
    rw [hMT] at eM esM fin
    rw [decide_eq_true (rfl : T = T)] at fin
    simp_arith [i_l_case_6, tf_l_case, eM, fzO, i_l_case_7, i_l_case_8, esM, fld_b5, d1, i_l_case_9, qE, qN, neB, eqB, oTM, eTM1, eTM]
    exact fin
  · have d1 := eqP_f pM pT (eqD hMT)
    have hz : (D.tup [.int (Fd.fl C), .tup (hds ws), .tup (trows T)]) ≠ .tup [.int (Fd.fl C), .tup (hds ws), .tup (trows (redN M ws.sum))] := fun z => by
      injection z with z; injection z with _ z; injection z with _ z; injection z with z _
      exact eqD hMT z.symm
    have qE := e_eq_box (p := q4) (eqP_f (pl_bx kf (f := Fd.fl C) (ws := ws)) (pl_bx kf (f := Fd.fl C) (ws := ws)) hz)
    have qN := e_ne_box (p := q4) (xs := [.int (Fd.fl C), .tup (hds ws), .tup (trows T)]) (d := bx C ws (redN M ws.sum)) (z := false) (eqOk_ins (by simp)) (fun p => e_eq_box (eqP_f (pl_bx kf) (pl_bx kf) hz))
    rw [decide_eq_false hMT] at fin
    simp_arith [i_l_case_6, tf_l_case, eM, fzO, i_l_case_7, i_l_case_8, esM, fld_b5, d1, i_l_case_9, qE, qN, neB, eqB, oTM, eTM1, eTM, q1e]
    exact fin
end
theorem w_case {k : Nat} {p : Pen} (hp : PenB (k + 901) p) : Wo (m_l_case [.pen] p) (fun d p' => d = .bl true ∧ PenB k p') noE := by
  refine Wo_runF rfl ?_
  simp_arith [i_l_case, tf_l_case]
  refine (w_field (k := k + 900) hp).im fun v q1 hz => ?_
  obtain ⟨⟨C, i, kf, rfl⟩, hq1⟩ := hz
  simp_arith []
  exact w_case_b kf hq1
abbrev goodQ : Fl → En → Pen → Prop := fun f _ _ => f = .rt (.bl true)
section
variable {p : Pen}
abbrev fews : List D := [.int 1, .int 4, .int 11, .non, .bl true, .str "2", .int (-1)]
abbrev wids : List D := [.non, .int 5, .tup [.int 5], .tup [.int (-1)], .tup [.bl true], .tup [.str "1"], .tup (List.replicate 7 (.int 1)), .tup [.int 4, .int 4, .int 4, .int 1], .str "1", .tup [.tup [.int 1]]]
abbrev rows2 : List D := [.non, .int 5, .tup [.tup [.int 0]], .tup [.tup [.int 0, .int 1, .int 0]], .tup [.tup [.int 0, .int 2]], .tup [.tup [.int 0, .non]], .tup [.non], .tup [.tup [.int 0, .bl true]], .str "01", .tup (List.replicate 25 (.tup [.int 0, .int 0])), .tup [.tup [.int 0, .int (-1)]]]
theorem few_ok {d : D} (h : d ∈ fews) : (∀ p, m_need_field [d] p = .err ⟨0, [.str "field", d]⟩ p) ∧ RC 300 5 d := by
  simp only [fews, List.mem_cons, List.not_mem_nil, or_false] at h
  rcases h with rfl | rfl | rfl | rfl | rfl | rfl | rfl <;> exact ⟨fun p => by kernel_rfl, rc_of_B (by decide +kernel)⟩
theorem wid_ok {d r : D} (h : d ∈ wids) : (∀ p, m_Box [.int 2, d, r] p = .err ⟨2, [d]⟩ p) ∧ RC 300 5 d := by
  simp only [wids, List.mem_cons, List.not_mem_nil, or_false] at h
  rcases h with rfl | rfl | rfl | rfl | rfl | rfl | rfl | rfl | rfl | rfl <;> exact ⟨fun p => by kernel_rfl, rc_of_B (by decide +kernel)⟩
theorem rc_r25 : RC 300 5 (.tup (List.replicate 25 (.tup [.int 0, .int 0]))) := by
  have r0 : RC 6 1 (.tup [.int 0, .int 0]) := rc_of_B (by decide +kernel)
  exact (rc_tup (rcs_all (n := 6) (k := 1) fun d hd => by rw [List.eq_of_mem_replicate hd]; exact r0)).mono (by rw [List.length_replicate]; decide) (by decide)
theorem row_ok {d : D} (h : d ∈ rows2) : (∀ p, m_Box [.int 2, .tup [.int 1, .int 1], d] p = .err ⟨3, [d]⟩ p) ∧ RC 300 5 d := by
  simp only [rows2, List.mem_cons, List.not_mem_nil, or_false] at h
  rcases h with rfl | rfl | rfl | rfl | rfl | rfl | rfl | rfl | rfl | rfl | rfl
  case inr.inr.inr.inr.inr.inr.inr.inr.inr.inl => exact ⟨fun p => by kernel_rfl, rc_r25⟩
  all_goals exact ⟨fun p => by kernel_rfl, rc_of_B (by decide +kernel)⟩
theorem x_few {a b c : D} (h : a ∈ fews) : m_Box [a, b, c] p = .err ⟨0, [.str "field", a]⟩ p := by
  refine eq_of_X (Wo_runN rfl ?_)
  simp_arith [i_Box, tf_Box, (few_ok h).1]
theorem tfG : (tbOf G_law sh).fn = T_law.fn := rfl
theorem w_end {s0 s2 s3 s4 s5 s6 : Slot} (hp : PenB 10 p) :
    Ws (dSs T_law i_law_1 [s0, .shr .pen, s2, s3, s4, s5, s6] p) goodQ noE := by
  have hC : ∀ (ρ : En) (xs : List D) (q : Pen), T_law.fnC 1 ρ xs q = m_l_are_due (fun n => cloL sh G_law lams n ρ) xs q := fun _ _ _ => rfl
  have e7 : opBin .mul (.tup [.int 1]) (.int 7) = some (.tup (List.replicate 7 (.int 1))) := opMulT (w := 7) (by decide)
  have e25 : opBin .mul (.tup [.tup [.int 0, .int 0]]) (.int 25) = some (.tup (List.replicate 25 (.tup [.int 0, .int 0]))) := opMulT (w := 25) (by decide)
  generalize hb7 : List.replicate 7 (D.int 1) = b7 at e7
  generalize hb25 : List.replicate 25 (D.tup [.int 0, .int 0]) = b25 at e25
  simp_arith [i_law_1, tf_law]
  refine (w_pick (k := 9) (by decide) (by decide) hp).im fun few q1 hz => ?_
  have h1 := hz.1
  have hq1 := hz.2
  simp_arith [i_law_2, tf_law, e7]
  refine (w_pick (k := 8) (by simp) (by simp) hq1).im fun wid q2 hz => ?_
  have h2 := hz.1
  have hq2 := hz.2
  simp_arith [i_law_3, tf_law, e25]
  refine (w_pick (k := 7) (by simp) (by simp) hq2).im fun row q3 hz => ?_
  have h3 := hz.1
  have hq3 := hz.2
  rw [← hb7] at h2
  rw [← hb25] at h3
  simp_arith [i_law_4, i_law_5, i_law_6, i_law_7, i_law_8, tf_law, hC]
  have hf := few_ok (d := few) h1
  have hw := fun r => wid_ok (d := wid) (r := r) h2
  have hr := row_ok (d := row) h3
  have r1 : ∀ (s : Str) (z : D), RC 100 0 (.str s) → RC 300 5 z → RC 1000 10 (.tup [.str s, z]) := fun s z h0 hz => (rc_tup (rcs_cons (h0.mono (show 100 ≤ 300 by decide) (by decide)) (rcs_cons hz (rcs_nil _ _)))).mono (by decide) (by decide)
  have r2 : ∀ (s t : Str) (z : D), RC 100 0 (.str s) → RC 100 0 (.str t) → RC 300 5 z → RC 1000 10 (.tup [.str s, .str t, z]) := fun s t z h0 h1 hz => (rc_tup (rcs_cons (h0.mono (show 100 ≤ 300 by decide) (by decide)) (rcs_cons (h1.mono (show 100 ≤ 300 by decide) (by decide)) (rcs_cons hz (rcs_nil _ _))))).mono (by decide) (by decide)
  have c1 : RC 100 0 (.str "number") := rc_of_B (by decide +kernel)
  have c2 : RC 100 0 (.str "field") := rc_of_B (by decide +kernel)
  have c3 : RC 100 0 (.str "row") := rc_of_B (by decide +kernel)
  have c4 : RC 100 0 (.str "table") := rc_of_B (by decide +kernel)
  rw [e_are_due (fun x hx => ?_)]
  · simp_arith []
  · have C : ∀ n t, lams[n]? = some t → ∀ ρ p, cloL sh G_law lams n ρ p = dM (tbOf G_law sh) false t.b (capE t.js ρ) p := fun n t h ρ p => by unfold cloL; rw [h]
    simp only [List.mem_cons, List.not_mem_nil, or_false] at hx
    rcases hx with rfl | rfl | rfl
    · exact ⟨0, ⟨0, [.str "field", few]⟩, _, rfl, by rw [C 0 _ rfl]; refine eq_of_X ?_; simp_arith [capE, capS, tfG, tf_law, x_few h1], rfl, r2 _ _ _ c1 c2 hf.2⟩
    · exact ⟨1, ⟨2, [wid]⟩, _, rfl, by rw [C 1 _ rfl]; refine eq_of_X ?_; simp_arith [capE, capS, tfG, tf_law, (hw row).1], rfl, r1 _ _ c3 (hw row).2⟩
    · exact ⟨2, ⟨3, [row]⟩, _, rfl, by rw [C 2 _ rfl]; refine eq_of_X ?_; simp_arith [capE, capS, tfG, tf_law, hr.1], rfl, r1 _ _ c4 hr.2⟩
end
theorem plain : PlainLaw := by
  intro ns fo hn f1 f2
  have hp : PenB (901 * 4 + 10) ⟨ns, 0, 0, 0, fo⟩ := ⟨⟨Int.le_refl 0, Int.le_refl 0, f1, by show fo < 2147483648; omega, Nat.zero_le _, by show ns.length ≤ 1000; omega⟩, by show (0 : Int) + _ ≤ _; decide⟩
  have w : Ws (dSs T_law i_law (lawEnv 7 1) ⟨ns, 0, 0, 0, fo⟩) goodQ noE := by
    have e : lawEnv 7 1 = [.un, .shr .pen, .un, .un, .un, .un, .un] := rfl
    have hr : rng1D (.int 4) = some (hds (List.range 4)) := rng1N (n := 4) (by decide)
    rw [e]
    simp_arith [i_law, hr]
    refine Ws_for (fun j ρ p => j ≤ 4 ∧ PenB (901 * (4 - j) + 10) p ∧ ∃ s2, ρ = [.un, .shr .pen, s2, .un, .un, .un, .un]) ⟨by decide, hp, _, rfl⟩ ?_ ?_
    · rintro j x ρ p hx ⟨_, hq, s2, rfl⟩
      obtain ⟨rfl, hj⟩ := hdsR_at hx
      refine ⟨_, rfl, ?_⟩
      simp_arith [i_law_b1, tf_law]
      refine (w_case (k := 901 * (4 - (j + 1)) + 10) (hq.mono (by omega))).im fun d q hz => ?_
      obtain ⟨rfl, hq2⟩ := hz
      simp_arith []
      exact ⟨by omega, hq2, _, rfl⟩
    · rintro ρ p ⟨_, hq, s2, rfl⟩
      simp_arith []
      exact w_end (hq.mono (by omega))
  obtain ⟨f, ρ, q, e, rfl⟩ := w.ok_of
  exact ⟨ρ, q, e⟩
end LK
open PySem PySem.W PySem.Calls PyProof.Rows
set_option maxHeartbeats 8000000 in
theorem PySem.Challenge.cw_webrooms_k32_boxes_made_holds : PySem.Challenge.rw_webrooms_k32_boxes_made.Holds := by
  w_on; o_law
  refine HandSHeadRun.head_imp (r := OpenLaw.row PySem.Challenge.rw_webrooms_k32_boxes_made) (q := view (OpenLaw.row PySem.Challenge.rw_webrooms_k32_boxes_made).prog [0, 80]) (H := LK.hk) (ob := LK.ob) (M := 60000) (loose := LK.names) (d := HandSHeadRun.topDef (OpenLaw.row PySem.Challenge.rw_webrooms_k32_boxes_made).prog 80) (kwd := []) LK.ob_eq LK.run
    (by kernel_rfl) (by kernel_rfl) (by kernel_rfl) (by rfl) (by first | assumption | decide +kernel) (by decide +kernel) ⟨rfl, rfl, rfl, rfl, rfl, by decide +kernel⟩ ?hw ?hc
  case hw => w_witness2
  case hc =>
    refine DL.walk_ofX (l := PySem.Challenge.rw_webrooms_k32_boxes_made) (n := 63) (k := 19) (x := "script") rfl (by decide) (by kernel_rfl) (DL.quiet_caller.mono (by decide)) ?F
    intro w mg fa h Y G hmg0
    have hmg : mg ("law" : PySem.Str) = some (.ref fa) := by
      have e : (HandSHeadRun.topDef (OpenLaw.row PySem.Challenge.rw_webrooms_k32_boxes_made).prog 80).name = ("law" : PySem.Str) := by kernel_rfl
      rw [← e]
      exact hmg0
    exact LK.law_at LK.plain Y G hmg
