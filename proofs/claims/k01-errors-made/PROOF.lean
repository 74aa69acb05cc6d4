import PyProof.Rows.All
import Wide.All
import OpenK.AllK
import Wide.FinOn
import HandS.ForMost
import HandS.ForExc
import HandS.ExcInit
import HandS.Nested
import HandS.TupAny
import KE.KExcSuper
import HandS.ExcField
import KE.KExcIs
import HandS.ExcIs
import HandS.IsInst
import KE.KLam
import HandS.Zip
import KE.KExcMake
import HandS.HeadHook4
import HandS.HeadWalk
import HandS.Head2
import PySem.Challenge.RW_turnways_k01_errors_made
set_option Elab.async false
set_option linter.all false
set_option maxRecDepth 100000
set_option maxHeartbeats 4000000
/-! Values as trees, mutable objects by numbers, and how they lie in the tracked heap. -/
namespace Tw
open PySem PySem.Spec PyProof.Rows L2 LamX

/-- a lambda's words -/
structure LF where
  qual : Str
  params : Arguments
  body : Expr
  scope : Scope
/-- the written part; where its classes and defs stand, by numbers; the tables of code objects; the lambdas, by numbers -/
structure Gw where
  T : Nat → Addr
  tb : List (Addr × Str)
  lam : Nat → LF
instance : CoeFun Gw (fun _ => Nat → Addr) := ⟨Gw.T⟩
structure Gv where
  K : PySem.W.Frag
  w : Gw
abbrev Gv.T (g : Gv) : Nat → Addr := g.w.T
abbrev Gv.tb (g : Gv) : List (Addr × Str) := g.w.tb
abbrev Gv.lam (g : Gv) : Nat → LF := g.w.lam
/-- the object at f is a function made of the lambda F -/
def LamO (f : Addr) (F : LF) (cl : List (Str × Addr)) (c : Addr) : HO := .ext fun h => ∃ (od : Option Addr) (sl : Array (Option Value)) (pm ctv : Value), h.get? f = some (⟨.type "function", od, .func (PySem.W.kla_fn "<lambda>" F.qual F.params F.body F.scope cl pm (.ref c) ctv), sl⟩ : Obj)
theorem lamO_tbl {f : Addr} {F : LF} {cl : List (Str × Addr)} {c : Addr} (ps : Array Value) : LamO f F cl c ≠ .tbl ps := fun z => by
  unfold LamO at z
  cases z
theorem exd_tbl {e : Addr} {fs : List (Str × V)} (ps : Array Value) : exd e fs ≠ .tbl ps := fun z => by
  have z' : HO.ext _ = HO.tbl ps := z
  cases z'

inductive D where
  | non | bl (b : Bool) | int (i : Int) | str (x : Str) | ty (n : String) | obj (i : Nat)
  | tup (xs : List D) | lst (xs : List D) | scr (xs : List D) | ins (C : Nat) (fs : List (Str × D)) | ref (n : Nat)
  | clo (i : Nat) (ns : List Nat) | exn (C : Nat) (fs : List (Str × D))

/-- a mutable object -/
inductive MO where
  | lst (xs : List D) | dic (kvs : List (D × D)) | ins (C : Nat) (fs : List (Str × D)) | cell (d : Option D)

structure Mem where
  at_ : Nat → Option MO
  nxt : Nat
/-- where the mutable objects lie -/
structure Lm where
  at_ : Nat → Option Addr
  nxt : Nat
  top : ∀ n, nxt ≤ n → at_ n = none
  tmp : Addr → Option HO
def Fz (L : Lm) (a : Addr) : Prop := (∀ n, L.at_ n ≠ some a) ∧ L.tmp a = none

/-- a tuple, a list that nothing changes -/
def FT (g : Gv) (L : Lm) (H : Hp) (a : Addr) (vs : List V) : Prop :=
  (Rd H a (.tup vs) ∧ Fz L a) ∨ (∃ (o : Obj) (its : Array Value) (n : Nat), g.K.lookup a = some o ∧ o.cls = .type "tuple" ∧ o.data = .seq its n ∧ its.size ≤ sizeLine ∧ Vals vs its.toList)
def FL (L : Lm) (H : Hp) (a : Addr) (vs : List V) : Prop := H a = some (.lst vs) ∧ Fz L a
def FS (g : Gv) (L : Lm) (H : Hp) (a : Addr) (vs : List V) : Prop :=
  (Rd H a (.lst vs) ∧ Fz L a) ∨ (∃ (o : Obj) (its : Array Value) (n : Nat), g.K.lookup a = some o ∧ o.cls = .type "list" ∧ o.dict = none ∧ o.data = .seq its n ∧ its.size ≤ sizeLine ∧ Vals vs its.toList)

mutual
def DV (g : Gv) (L : Lm) (H : Hp) : D → V → Prop
  | .non, v => v = .non
  | .bl b, v => v = .bl b
  | .int i, v => v = .int i
  | .str x, v => v = .str x
  | .ty n, v => v = .ty n
  | .obj i, v => v = .ref (g.T i)
  | .tup ds, v => ∃ a vs, v = .ref a ∧ FT g L H a vs ∧ DVs g L H ds vs
  | .lst ds, v => ∃ a vs, v = .ref a ∧ FL L H a vs ∧ DVs g L H ds vs
  | .scr ds, v => ∃ a vs, v = .ref a ∧ FS g L H a vs ∧ DVs g L H ds vs
  | .ins C fs, v => ∃ a dx gs, v = .ref a ∧ H a = some (.ins (g.T C) dx gs) ∧ Fz L a ∧ DVf g L H fs gs
  | .ref n, v => n < L.nxt ∧ ∀ a, L.at_ n = some a → v = .ref a
  | .clo i ns, v => ns = [] ∧ ∃ f c, v = .ref f ∧ H f = some (LamO f (g.lam i) [] c) ∧ Fz L f ∧ H c = some (CodeO c (g.lam i).qual) ∧ Fz L c
  | .exn C fs, v => ∃ a o gs, v = .ref a ∧ H a = some (exo a (g.T C) o) ∧ Fz L a ∧ DVf g L H fs gs ∧ ((o = none ∧ gs = []) ∨ ∃ dx, o = some dx ∧ H dx = some (exd dx gs) ∧ Fz L dx)
def DVs (g : Gv) (L : Lm) (H : Hp) : List D → List V → Prop
  | [], vs => vs = []
  | d :: ds, vs => ∃ v r, vs = v :: r ∧ DV g L H d v ∧ DVs g L H ds r
def DVf (g : Gv) (L : Lm) (H : Hp) : List (Str × D) → List (Str × V) → Prop
  | [], vs => vs = []
  | d :: ds, vs => ∃ v r, vs = (d.1, v) :: r ∧ DV g L H d.2 v ∧ DVf g L H ds r
end

/-- how the tracked heap moves -/
structure Ord0 (L L' : Lm) (H H' : Hp) : Prop where
  nx : L.nxt ≤ L'.nxt
  old : ∀ n, n < L.nxt → L'.at_ n = L.at_ n ∨ L'.at_ n = none
  new : ∀ n a, L.nxt ≤ n → L'.at_ n = some a → H a = none
  keep : ∀ a o, H a = some o → Fz L a → (∀ ps, o ≠ .tbl ps) → H' a = some o
  there : ∀ a, H' a = none → H a = none
  tmp : ∀ a, L.tmp a = none → L'.tmp a = none ∨ H a = none
structure Ord (L L' : Lm) (H H' : Hp) : Prop extends Ord0 L L' H H' where
  tmpk : ∀ a u, L.tmp a = some u → L'.tmp a = some u

def DicR (g : Gv) (L : Lm) (H : Hp) (a : Addr) (kvs : List (D × D)) : Prop := False
def OR (g : Gv) (L : Lm) (H : Hp) (a : Addr) : MO → Prop
  | .lst ds => ∃ vs, H a = some (.lst vs) ∧ DVs g L H ds vs
  | .dic kvs => DicR g L H a kvs
  | .ins C fs => ∃ dx gs, H a = some (.ins (g.T C) dx gs) ∧ DVf g L H fs gs
  | .cell _ => False
structure MR (g : Gv) (m : Mem) (L : Lm) (H : Hp) : Prop where
  nx : m.nxt = L.nxt
  obj : ∀ n o, m.at_ n = some o → ∃ a, L.at_ n = some a ∧ OR g L H a o
  dead : ∀ n, m.at_ n = none → L.at_ n = none
  inj : ∀ n n' a, L.at_ n = some a → L.at_ n' = some a → n = n'
  tmp : ∀ a u, L.tmp a = some u → H a = some u ∧ ∀ n, L.at_ n ≠ some a
  tabs : Tabs g.tb H
  tmpT : ∀ a u, L.tmp a = some u → ∃ vs, u = .lst vs
theorem tabs_upd {T : List (Addr × Str)} {H : Hp} {a : Addr} {o : HO} (t : Tabs T H) (h1 : ∀ ps, H a ≠ some (.tbl ps)) (h2 : ∀ φ, H a ≠ some (.ext φ)) : Tabs T (upd H a o) := fun p hp => by
  obtain ⟨ps, e1, e2, e3⟩ := t p hp
  refine ⟨ps, ?_, e2, fun pos cv hc => ?_⟩
  · rw [upd_ne (fun z => h1 ps (by rw [← z]; exact e1))]
    exact e1
  · obtain ⟨c, q1, q2⟩ := e3 pos cv hc
    exact ⟨c, q1, by rw [upd_ne (fun z => h2 _ (by rw [← z]; exact q2))]; exact q2⟩
theorem tabs_new {T : List (Addr × Str)} {H : Hp} {a : Addr} {o : HO} (t : Tabs T H) (h : H a = none) : Tabs T (upd H a o) := tabs_upd t (fun ps e => by rw [h] at e; cases e) fun φ e => by rw [h] at e; cases e

section
variable {g : Gv} {m m' m2 : Mem} {L L' L2 : Lm} {H H' H2 : Hp} {a : Addr} {vs : List V}
theorem OR.some_ {o : MO} (h : OR g L H a o) : ∃ u, H a = some u := by
  cases o with
  | lst ds => obtain ⟨vs, e, _⟩ := h; exact ⟨_, e⟩
  | dic kvs => exact h.elim
  | ins C fs => obtain ⟨dx, gs, e, _⟩ := h; exact ⟨_, e⟩
  | cell d => exact h.elim
theorem MR.live (r : MR g m L H) {n : Nat} (h : L.at_ n = some a) : ∃ u, H a = some u := by
  cases e : m.at_ n with
  | none => rw [r.dead n e] at h; cases h
  | some o =>
    obtain ⟨b, e1, e2⟩ := r.obj n o e
    rw [h] at e1; cases e1
    exact e2.some_
/-- a fresh place is no live one -/
theorem MR.fresh (r : MR g m L H) (h : H a = none) : Fz L a := by
  refine ⟨fun n e => ?_, ?_⟩
  · obtain ⟨u, q⟩ := r.live e
    rw [h] at q; cases q
  · cases z : L.tmp a with
    | none => rfl
    | some u =>
      obtain ⟨q, _⟩ := r.tmp a u z
      rw [h] at q; cases q
theorem Ord.refl : Ord L L H H :=
  ⟨⟨Nat.le_refl _, fun _ _ => .inl rfl, fun n a h e => (by rw [L.top n h] at e; cases e), fun _ _ e _ _ => e, fun _ e => e, fun _ h => .inl h⟩, fun _ _ h => h⟩
theorem Ord0.fz (o : Ord0 L L' H H') {u : HO} (h : H a = some u) (f : Fz L a) : Fz L' a := by
  refine ⟨fun n e => ?_, ?_⟩
  · rcases Nat.lt_or_ge n L.nxt with q | q
    · rcases o.old n q with z | z
      · rw [z] at e; exact f.1 n e
      · rw [z] at e; cases e
    · have := o.new n a q e
      rw [h] at this; cases this
  · rcases o.tmp a f.2 with q | q
    · exact q
    · rw [h] at q; cases q
theorem Ord0.trans (o : Ord0 L L' H H') (p : Ord0 L' L2 H' H2) : Ord0 L L2 H H2 where
  nx := Nat.le_trans o.nx p.nx
  old := fun n h => by
    rcases p.old n (Nat.lt_of_lt_of_le h o.nx) with z | z
    · rw [z]; exact o.old n h
    · exact .inr z
  new := fun n a h e => by
    rcases Nat.lt_or_ge n L'.nxt with q | q
    · rcases p.old n q with z | z
      · rw [z] at e; exact o.new n a h e
      · rw [z] at e; cases e
    · exact o.there a (p.new n a q e)
  keep := fun a u h f z => p.keep a u (o.keep a u h f z) (o.fz h f) z
  there := fun a h => o.there a (p.there a h)
  tmp := fun a h => by
    rcases o.tmp a h with z | z
    · rcases p.tmp a z with y | y
      · exact .inl y
      · exact .inr (o.there a y)
    · exact .inr z
theorem Ord.trans (o : Ord L L' H H') (p : Ord L' L2 H' H2) : Ord L L2 H H2 := ⟨o.toOrd0.trans p.toOrd0, fun a u h => p.tmpk a u (o.tmpk a u h)⟩
theorem Ord0.rd (o : Ord0 L L' H H') {u : HO} (h : Rd H a u) (f : Fz L a) (hu : ∀ ps, u ≠ .tbl ps) : Rd H' a u ∧ Fz L' a := by
  rcases h with h | ⟨ob, h⟩
  · exact ⟨.inl (o.keep a u h f hu), o.fz h f⟩
  · exact ⟨.inr ⟨ob, o.keep a _ h f (fun ps z => by cases z)⟩, o.fz h f⟩
theorem Ord0.ft (o : Ord0 L L' H H') (h : FT g L H a vs) : FT g L' H' a vs := by
  rcases h with ⟨h, f⟩ | h
  · exact .inl (o.rd h f fun ps z => by cases z)
  · exact .inr h
theorem Ord0.fl (o : Ord0 L L' H H') (h : FL L H a vs) : FL L' H' a vs := ⟨o.keep a _ h.1 h.2 (fun ps z => by cases z), o.fz h.1 h.2⟩
theorem Ord0.fs (o : Ord0 L L' H H') (h : FS g L H a vs) : FS g L' H' a vs := by
  rcases h with ⟨h, f⟩ | h
  · exact .inl (o.rd h f fun ps z => by cases z)
  · exact .inr h
theorem FS.sq (h : FS g L H a vs) : SqL g.K H a vs := by
  rcases h with ⟨h, _⟩ | h
  · exact .inl h
  · exact .inr h
mutual
theorem DV.mono0 (o : Ord0 L L' H H') : ∀ {d : D} {v : V}, DV g L H d v → DV g L' H' d v
  | .non, _, h => h
  | .bl _, _, h => h
  | .int _, _, h => h
  | .str _, _, h => h
  | .ty _, _, h => h
  | .obj _, _, h => h
  | .tup ds, v, h => by
    obtain ⟨a, vs, e, f, q⟩ := h
    exact ⟨a, vs, e, o.ft f, DVs.mono0 o q⟩
  | .lst ds, v, h => by
    obtain ⟨a, vs, e, f, q⟩ := h
    exact ⟨a, vs, e, o.fl f, DVs.mono0 o q⟩
  | .scr ds, v, h => by
    obtain ⟨a, vs, e, f, q⟩ := h
    exact ⟨a, vs, e, o.fs f, DVs.mono0 o q⟩
  | .ins C fs, v, h => by
    obtain ⟨a, dx, gs, e, q1, f, q⟩ := h
    exact ⟨a, dx, gs, e, o.keep a _ q1 f (fun ps z => by cases z), o.fz q1 f, DVf.mono0 o q⟩
  | .ref n, v, h => ⟨Nat.lt_of_lt_of_le h.1 o.nx, fun a e => by
    rcases o.old n h.1 with z | z
    · rw [z] at e; exact h.2 a e
    · rw [z] at e; cases e⟩
  | .clo i ns, v, h => by
    obtain ⟨e, f, c, e1, q1, f1, q2, f2⟩ := h
    exact ⟨e, f, c, e1, o.keep f _ q1 f1 lamO_tbl, o.fz q1 f1, o.keep c _ q2 f2 codeO_ne, o.fz q2 f2⟩
  | .exn C fs, v, h => by
    obtain ⟨a, od, gs, e, q1, f, q, q2⟩ := h
    refine ⟨a, od, gs, e, o.keep a _ q1 f (fun ps => exo_tbl), o.fz q1 f, DVf.mono0 o q, ?_⟩
    rcases q2 with z | ⟨dx, z1, z2, z3⟩
    · exact .inl z
    · exact .inr ⟨dx, z1, o.keep dx _ z2 z3 exd_tbl, o.fz z2 z3⟩
theorem DVs.mono0 (o : Ord0 L L' H H') : ∀ {ds : List D} {vs : List V}, DVs g L H ds vs → DVs g L' H' ds vs
  | [], _, h => h
  | d :: ds, vs, h => by
    obtain ⟨v, t, e, q1, q2⟩ := h
    exact ⟨v, t, e, DV.mono0 o q1, DVs.mono0 o q2⟩
theorem DVf.mono0 (o : Ord0 L L' H H') : ∀ {ds : List (Str × D)} {vs : List (Str × V)}, DVf g L H ds vs → DVf g L' H' ds vs
  | [], _, h => h
  | d :: ds, vs, h => by
    obtain ⟨v, t, e, q1, q2⟩ := h
    exact ⟨v, t, e, DV.mono0 o q1, DVf.mono0 o q2⟩
end
theorem DV.mono (o : Ord L L' H H') {d : D} {v : V} (h : DV g L H d v) : DV g L' H' d v := h.mono0 o.toOrd0
theorem DVs.mono (o : Ord L L' H H') {d : List D} {v : List V} (h : DVs g L H d v) : DVs g L' H' d v := h.mono0 o.toOrd0
theorem DVf.mono (o : Ord L L' H H') {d : List (Str × D)} {v : List (Str × V)} (h : DVf g L H d v) : DVf g L' H' d v := h.mono0 o.toOrd0
theorem Ord.fz (o : Ord L L' H H') {u : HO} (h : H a = some u) (f : Fz L a) : Fz L' a := o.toOrd0.fz h f
end
end Tw

set_option Elab.async false
set_option linter.all false
set_option maxRecDepth 100000
set_option maxHeartbeats 4000000
/-! Programs over trees: what they compute, and readings made of them. -/
namespace Tw
open PySem PySem.Spec PyProof.Rows L2

abbrev Sg := L2.St
inductive EC where
  | own (C : Nat) | blt (n : String)
structure Ex where
  c : EC
  fs : List (Str × D)
inductive Out (α : Type) where
  | ok (a : α) (m : Mem) | exc (x : Ex) (m : Mem) | bad
def M (α : Type) := Mem → Out α
def Out.bnd {α β : Type} (o : Out α) (f : α → M β) : Out β := match o with
  | .ok a m => f a m
  | .exc x m => .exc x m
  | .bad => .bad
instance : Monad M where
  pure := fun a m => .ok a m
  bind := fun t f m => (t m).bnd f
def bad {α : Type} : M α := fun _ => .bad
def Wp {α : Type} (o : Out α) (Q : α → Mem → Prop) (E : Ex → Mem → Prop) : Prop := match o with
  | .ok a m => Q a m
  | .exc x m => E x m
  | .bad => False
theorem Wp.bnd {α β : Type} {t : M α} {f : α → M β} {m : Mem} {Q : β → Mem → Prop} {E : Ex → Mem → Prop} : Wp ((t >>= f) m) Q E ↔ Wp (t m) (fun a m' => Wp (f a m') Q E) E := by
  show Wp ((t m).bnd f) Q E ↔ _
  cases t m <;> rfl
theorem Wp.mono {α : Type} {o : Out α} {Q Q' : α → Mem → Prop} {E E' : Ex → Mem → Prop} (h : Wp o Q E) (hQ : ∀ a m, Q a m → Q' a m) (hE : ∀ x m, E x m → E' x m) : Wp o Q' E' := by
  cases o with
  | ok a m => exact hQ a m h
  | exc x m => exact hE x m h
  | bad => exact h

abbrev Loc := List (Option D)
structure SR (g : Gv) (l : Loc) (m : Mem) (L : Lm) (σ : Sg) (H : Hp) : Prop where
  mr : MR g m L H
  lc : ∀ (i : Nat) (d : D), l[i]? = some (some d) → ∃ v, σ[i]? = some (some v) ∧ DV g L H d v
  len : σ.length = l.length
theorem SR.mono {g : Gv} {l : Loc} {m m' : Mem} {L L' : Lm} {σ : Sg} {H H' : Hp} (s : SR g l m L σ H) (r : MR g m' L' H') (o : Ord L L' H H') : SR g l m' L' σ H' :=
  ⟨r, fun i d e => let ⟨v, h1, h2⟩ := s.lc i d e; ⟨v, h1, h2.mono o⟩, s.len⟩

/-- an exception as it leaves: its class, its dict -/
def EC.v (g : Gv) : EC → Value
  | .own C => .ref (g.T C)
  | .blt n => .type n
def XR (g : Gv) (L : Lm) (H : Hp) (cls : Value) (dx : Option Addr) (x : Ex) : Prop :=
  cls = x.c.v g ∧ (x.fs = [] ∨ ∃ d gs, dx = some d ∧ H d = some (.xd gs) ∧ Fz L d ∧ DVf g L H x.fs gs)

/-- behind: a value; an exception -/
def QE (g : Gv) (L : Lm) (H : Hp) (Q : VK) (d : D) (m' : Mem) : Prop := ∀ v L' H', Ord L L' H H' → MR g m' L' H' → DV g L' H' d v → Q v H'
def QA (g : Gv) (L : Lm) (H : Hp) (Q : List V → Hp → Prop) (d : List D) (m' : Mem) : Prop := ∀ v L' H', Ord L L' H H' → MR g m' L' H' → DVs g L' H' d v → Q v H'
def QT (g : Gv) (L : Lm) (H : Hp) (Q : Bool → Hp → Prop) (b : Bool) (m' : Mem) : Prop := ∀ L' H', Ord L L' H H' → MR g m' L' H' → Q b H'
def QX (g : Gv) (L : Lm) (H : Hp) (W : Value → Option Addr → Hp → Prop) (x : Ex) (m' : Mem) : Prop := ∀ cls dx L' H', Ord L L' H H' → MR g m' L' H' → XR g L' H' cls dx x → W cls dx H'
theorem QE.mono {g : Gv} {L L' : Lm} {H H' : Hp} {Q : VK} {d : D} {m : Mem} (q : QE g L H Q d m) (o : Ord L L' H H') : QE g L' H' Q d m := fun v L2 H2 p r dv => q v L2 H2 (o.trans p) r dv
theorem QA.mono {g : Gv} {L L' : Lm} {H H' : Hp} {Q : List V → Hp → Prop} {d : List D} {m : Mem} (q : QA g L H Q d m) (o : Ord L L' H H') : QA g L' H' Q d m := fun v L2 H2 p r dv => q v L2 H2 (o.trans p) r dv
theorem QT.mono {g : Gv} {L L' : Lm} {H H' : Hp} {Q : Bool → Hp → Prop} {d : Bool} {m : Mem} (q : QT g L H Q d m) (o : Ord L L' H H') : QT g L' H' Q d m := fun L2 H2 p r => q L2 H2 (o.trans p) r
theorem QX.mono {g : Gv} {L L' : Lm} {H H' : Hp} {W : Value → Option Addr → Hp → Prop} {x : Ex} {m : Mem} (q : QX g L H W x m) (o : Ord L L' H H') : QX g L' H' W x m := fun c dx L2 H2 p r xr => q c dx L2 H2 (o.trans p) r xr

/-- readings: an expression, arguments, a test -/
def dnE (g : Gv) (W : WX) (e : Loc → M D) : TE := fun σ H Q => ∃ l m L, SR g l m L σ H ∧ Wp (e l m) (QE g L H Q) (QX g L H fun c d H' => W c d σ H')
def dnA (g : Gv) (W : WX) (e : Loc → M (List D)) : TA := fun σ H Q => ∃ l m L, SR g l m L σ H ∧ Wp (e l m) (QA g L H Q) (QX g L H fun c d H' => W c d σ H')
def dnT (g : Gv) (W : WX) (e : Loc → M Bool) : TT := fun σ H Q => ∃ l m L, SR g l m L σ H ∧ Wp (e l m) (QT g L H Q) (QX g L H fun c d H' => W c d σ H')

/-- how a statement ends -/
inductive Fl where
  | nx (l : Loc) | rt (d : D) | bk (l : Loc) | ct (l : Loc)
def QS (g : Gv) (L : Lm) (H : Hp) (D : Ends) (f : Fl) (m' : Mem) : Prop := match f with
  | .nx l => ∀ σ' L' H', Ord L L' H H' → SR g l m' L' σ' H' → D.nx σ' H'
  | .bk l => ∀ σ' L' H', Ord L L' H H' → SR g l m' L' σ' H' → D.bk σ' H'
  | .ct l => ∀ σ' L' H', Ord L L' H H' → SR g l m' L' σ' H' → D.ct σ' H'
  | .rt d => ∀ v L' H', Ord L L' H H' → MR g m' L' H' → DV g L' H' d v → D.rt v H'
theorem QS.mono {g : Gv} {L L' : Lm} {H H' : Hp} {D : Ends} {f : Fl} {m : Mem} (q : QS g L H D f m) (o : Ord L L' H H') : QS g L' H' D f m := by
  cases f with
  | nx l => exact fun σ L2 H2 p r => q σ L2 H2 (o.trans p) r
  | bk l => exact fun σ L2 H2 p r => q σ L2 H2 (o.trans p) r
  | ct l => exact fun σ L2 H2 p r => q σ L2 H2 (o.trans p) r
  | rt d => exact fun v L2 H2 p r dv => q v L2 H2 (o.trans p) r dv
/-- the wish about exceptions, with whatever slots -/
def QXs (g : Gv) (L : Lm) (H : Hp) (W : WX) (x : Ex) (m' : Mem) : Prop := ∀ cls dx σ' L' H', Ord L L' H H' → MR g m' L' H' → XR g L' H' cls dx x → W cls dx σ' H'
def dnS (g : Gv) (W : WX) (e : Loc → M Fl) : TS := fun D σ H => ∃ l m L, SR g l m L σ H ∧ Wp (e l m) (QS g L H D) (QXs g L H W)

/-! ### weakening -/
section
variable {X : Cx}
theorem pe_imp {e : Expr} {t t' : TE} (h : PE X e t) (hi : ∀ σ H Q, t' σ H Q → t σ H Q) : PE X e t' := ⟨fun pins s σ H Q I q => h.run pins s σ H Q I (hi σ H Q q)⟩
theorem pa_imp {e : List Expr} {t t' : TA} (h : PA X e t) (hi : ∀ σ H Q, t' σ H Q → t σ H Q) : PA X e t' := ⟨fun pos pins s σ H Q I q => h.run pos pins s σ H Q I (hi σ H Q q)⟩
theorem pt_imp {e : Expr} {t t' : TT} (h : PT X e t) (hi : ∀ σ H Q, t' σ H Q → t σ H Q) : PT X e t' := ⟨fun pins s σ H Q I q => h.run pins s σ H Q I (hi σ H Q q)⟩
theorem ps_imp {e : Stmt} {t t' : TS} (h : PS X e t) (hi : ∀ D σ H, t' D σ H → t D σ H) : PS X e t' := ⟨fun pins s σ H D I q => h.run pins s σ H D I (hi D σ H q)⟩
theorem pss_imp {e : List Stmt} {t t' : TS} (h : PSs X e t) (hi : ∀ D σ H, t' D σ H → t D σ H) : PSs X e t' := ⟨fun pins s σ H D I q => h.run pins s σ H D I (hi D σ H q)⟩
end

/-! ### names, constants -/
def mVar (i : Nat) : Loc → M D := fun l m => match l[i]? with
  | some (some d) => .ok d m
  | _ => .bad
section
variable {X : Cx} {W : WX} {T : Gw}
theorem e_var {i : Nat} {x : Str} {pos : Pos} (h : PE X (.Name x pos) (tVar i)) : PE X (.Name x pos) (dnE ⟨X.K, T⟩ W (mVar i)) := by
  refine pe_imp h fun σ H Q ⟨l, m, L, s, q⟩ => ?_
  unfold mVar at q
  split at q
  · rename_i d e
    obtain ⟨v, h1, h2⟩ := s.lc i d e
    exact ⟨v, h1, q v L H Ord.refl s.mr h2⟩
  · exact q.elim
def mC (d : D) : Loc → M D := fun _ m => .ok d m
theorem e_const {e : Expr} {v : V} {d : D} (h : PE X e (tC v)) (hd : ∀ L H, DV ⟨X.K, T⟩ L H d v) : PE X e (dnE ⟨X.K, T⟩ W (mC d)) := by
  refine pe_imp h fun σ H Q ⟨l, m, L, s, q⟩ => ?_
  exact q v L H Ord.refl s.mr (hd L H)
theorem e_int {i j pos} : PE X (.Constant (.int i) j pos) (dnE ⟨X.K, T⟩ W (mC (.int i))) := e_const pe_int fun _ _ => rfl
theorem e_bl {i j pos} : PE X (.Constant (.bool i) j pos) (dnE ⟨X.K, T⟩ W (mC (.bl i))) := e_const pe_bl fun _ _ => rfl
theorem e_non {j pos} : PE X (.Constant .none j pos) (dnE ⟨X.K, T⟩ W (mC .non)) := e_const pe_non fun _ _ => rfl
theorem e_str {i j pos} : PE X (.Constant (.str i) j pos) (dnE ⟨X.K, T⟩ W (mC (.str i))) := e_const pe_str fun _ _ => rfl

/-! ### two operands -/
/-- the rule r computes f -/
def RF (g : Gv) (r : R2) (f : D → D → M D) : Prop := ∀ x y v u m L H Q, MR g m L H → DV g L H x v → DV g L H y u → Wp (f x y m) (QE g L H Q) (fun _ _ => False) → r v u H Q
def NoX (f : D → D → M D) : Prop := ∀ x y m z m', f x y m ≠ .exc z m'
def mBin (f : D → D → M D) (a b : Loc → M D) : Loc → M D := fun l => do
  let x ← a l
  let y ← b l
  f x y
theorem wp_nox {α : Type} {o : Out α} {Q : α → Mem → Prop} {E : Ex → Mem → Prop} (h : Wp o Q E) (n : ∀ z m', o ≠ .exc z m') : Wp o Q (fun _ _ => False) := by
  cases o with
  | ok a m => exact h
  | exc x m => exact n x m rfl
  | bad => exact h
theorem dn_bin {g : Gv} {r : R2} {f : D → D → M D} {a b : Loc → M D} (hr : RF g r f) (hn : NoX f) {σ : Sg} {H : Hp} {Q : VK} (h : dnE g W (mBin f a b) σ H Q) : tOp r (dnE g W a) (dnE g W b) σ H Q := by
  obtain ⟨l, m, L, s, q⟩ := h
  refine ⟨l, m, L, s, (Wp.bnd.mp q).mono (fun x m1 q1 v L1 H1 o1 r1 d1 => ?_) fun _ _ z => z⟩
  refine ⟨l, m1, L1, s.mono r1 o1, (Wp.bnd.mp q1).mono (fun y m2 q2 u L2 H2 o2 r2 d2 => ?_) fun _ _ z => z.mono o1⟩
  exact hr x y v u m2 L2 H2 Q r2 (d1.mono o2) d2 ((wp_nox q2 (hn x y m2)).mono (fun _ _ z => z.mono (o1.trans o2)) fun _ _ z => z)
theorem e_op {op : Operator} {r : R2} {f : D → D → M D} {a b : Expr} {ma mb : Loc → M D} {pos : Pos} (ho : OpR X (binaryOp op) r) (hr : RF ⟨X.K, T⟩ r f) (hn : NoX f) (ha : PE X a (dnE ⟨X.K, T⟩ W ma)) (hb : PE X b (dnE ⟨X.K, T⟩ W mb)) :
    PE X (.BinOp a op b pos) (dnE ⟨X.K, T⟩ W (mBin f ma mb)) := pe_imp (pe_op ho ha hb) fun σ H Q h => dn_bin hr hn h
theorem e_cmp {op : CmpOp} {r : R2} {f : D → D → M D} {a b : Expr} {ma mb : Loc → M D} {pos : Pos} (ho : OpR X (compareOp op) r) (hr : RF ⟨X.K, T⟩ r f) (hn : NoX f) (ha : PE X a (dnE ⟨X.K, T⟩ W ma)) (hb : PE X b (dnE ⟨X.K, T⟩ W mb)) (hm : behindInMarks op b = false) :
    PE X (.Compare a [op] [b] pos) (dnE ⟨X.K, T⟩ W (mBin f ma mb)) := pe_imp (pe_cmpR ho ha hb hm) fun σ H Q h => dn_bin hr hn h
/-- either of two rules -/
def rOr (r r' : R2) : R2 := fun x y H Q => r x y H Q ∨ r' x y H Q
theorem op_or {f : Value → Value → Sem Value} {r r' : R2} (h : OpR X f r) (h' : OpR X f r') : OpR X f (rOr r r') := fun pins s σ H x y v u Q I rx ry q => q.elim (h pins s σ H x y v u Q I rx ry) (h' pins s σ H x y v u Q I rx ry)

/-! ### tests -/
/-- a value as a test: True or False alone -/
def mTst (e : Loc → M D) : Loc → M Bool := fun l => do
  match ← e l with
  | .bl b => pure b
  | _ => bad
theorem dn_tst {g : Gv} {e : Loc → M D} {σ : Sg} {H : Hp} {Q : Bool → Hp → Prop} (h : dnT g W (mTst e) σ H Q) : tB (dnE g W e) σ H Q := by
  obtain ⟨l, m, L, s, q⟩ := h
  refine ⟨l, m, L, s, (Wp.bnd.mp q).mono (fun x m1 q1 v L1 H1 o1 r1 d1 => ?_) fun _ _ z => z⟩
  cases x with
  | bl b =>
    have d1 : v = .bl b := d1
    exact ⟨b, d1, (show QT g L H Q b m1 from q1) L1 H1 o1 r1⟩
  | _ => exact q1.elim
theorem t_val {e : Expr} {me : Loc → M D} (h : PE X e (dnE ⟨X.K, T⟩ W me)) (he : ∀ whole, isTrue e X.env whole = (do let v ← whole; standAt e.pos; holding [v] (truthy v)) := by intro _; rfl) : PT X e (dnT ⟨X.K, T⟩ W (mTst me)) :=
  pt_imp (pt_val h he) fun σ H Q q => dn_tst q
theorem t_cmp {op : CmpOp} {r : R2} {f : D → D → M D} {a b : Expr} {ma mb : Loc → M D} {pos : Pos} (ho : OpR X (compareOp op) r) (hr : RF ⟨X.K, T⟩ r f) (hn : NoX f) (ha : PE X a (dnE ⟨X.K, T⟩ W ma)) (hb : PE X b (dnE ⟨X.K, T⟩ W mb)) (hm : behindInMarks op b = false) :
    PT X (.Compare a [op] [b] pos) (dnT ⟨X.K, T⟩ W (mTst (mBin f ma mb))) := by
  refine pt_imp (pt_cmpR ho ha hb hm) fun σ H Q q => ?_
  obtain ⟨l, m, L, s, q⟩ := q
  refine dn_bin (Q := fun x H' => ∃ k, x = .bl k ∧ Q k H') hr hn ⟨l, m, L, s, (Wp.bnd.mp q).mono (fun x m1 q1 v L1 H1 o1 r1 d1 => ?_) fun _ _ z => z⟩
  cases x with
  | bl b =>
    have d1 : v = .bl b := d1
    exact ⟨b, d1, (show QT ⟨X.K, T⟩ L H Q b m1 from q1) L1 H1 o1 r1⟩
  | _ => exact q1.elim
def mAnd (a b : Loc → M Bool) : Loc → M Bool := fun l => do if ← a l then b l else pure false
def mOr (a b : Loc → M Bool) : Loc → M Bool := fun l => do if ← a l then pure true else b l
def mNot (a : Loc → M Bool) : Loc → M Bool := fun l => do return !(← a l)
theorem dn_and {g : Gv} {a b : Loc → M Bool} {σ : Sg} {H : Hp} {Q : Bool → Hp → Prop} (h : dnT g W (mAnd a b) σ H Q) : tAnd (dnT g W a) (dnT g W b) σ H Q := by
  obtain ⟨l, m, L, s, q⟩ := h
  refine ⟨l, m, L, s, (Wp.bnd.mp q).mono (fun x m1 q1 L1 H1 o1 r1 => ?_) fun _ _ z => z⟩
  cases x with
  | true => exact ite_tt ⟨l, m1, L1, s.mono r1 o1, Wp.mono q1 (fun _ _ z => z.mono o1) fun _ _ z => z.mono o1⟩
  | false => exact ite_ff ((show QT g L H Q false m1 from q1) L1 H1 o1 r1)
theorem dn_or {g : Gv} {a b : Loc → M Bool} {σ : Sg} {H : Hp} {Q : Bool → Hp → Prop} (h : dnT g W (mOr a b) σ H Q) : tOr (dnT g W a) (dnT g W b) σ H Q := by
  obtain ⟨l, m, L, s, q⟩ := h
  refine ⟨l, m, L, s, (Wp.bnd.mp q).mono (fun x m1 q1 L1 H1 o1 r1 => ?_) fun _ _ z => z⟩
  cases x with
  | false => exact ite_ff ⟨l, m1, L1, s.mono r1 o1, Wp.mono q1 (fun _ _ z => z.mono o1) fun _ _ z => z.mono o1⟩
  | true => exact ite_tt ((show QT g L H Q true m1 from q1) L1 H1 o1 r1)
theorem dn_not {g : Gv} {a : Loc → M Bool} {σ : Sg} {H : Hp} {Q : Bool → Hp → Prop} (h : dnT g W (mNot a) σ H Q) : tNot (dnT g W a) σ H Q := by
  obtain ⟨l, m, L, s, q⟩ := h
  exact ⟨l, m, L, s, (Wp.bnd.mp q).mono (fun x m1 q1 L1 H1 o1 r1 => (show QT g L H Q (!x) m1 from q1) L1 H1 o1 r1) fun _ _ z => z⟩
end
end Tw

set_option Elab.async false
set_option linter.all false
set_option maxRecDepth 100000
set_option maxHeartbeats 4000000
/-! New objects, stores; displays, attributes; plain statements. -/
namespace Tw
open PySem PySem.Spec PyProof.Rows L2

section
variable {g : Gv} {m m' : Mem} {L L' : Lm} {H H' : Hp} {a p : Addr} {o : HO}
theorem Ord.new1 (h : H p = none) : Ord L L H (upd H p o) :=
  ⟨⟨Nat.le_refl _, fun _ _ => .inl rfl, fun n a h e => (by rw [L.top n h] at e; cases e), fun b u e _ _ => by rw [upd_ne (ne_of_none e h)]; exact e, fun b e => by
    by_cases hb : b = p
    · rw [hb]; exact h
    · rw [upd_ne hb] at e; exact e, fun _ h => .inl h⟩, fun _ _ h => h⟩
theorem OR.mono0 {mo : MO} (x : OR g L H a mo) (od : Ord0 L L' H H') (e : H' a = H a) : OR g L' H' a mo := by
  cases mo with
  | lst ds => obtain ⟨vs, e1, e2⟩ := x; exact ⟨vs, e.trans e1, e2.mono0 od⟩
  | dic kvs => exact x
  | ins C fs => obtain ⟨dx, gs, e1, e2⟩ := x; exact ⟨dx, gs, e.trans e1, e2.mono0 od⟩
  | cell d => exact x
theorem OR.mono {mo : MO} (x : OR g L H a mo) (od : Ord L L' H H') (e : H' a = H a) : OR g L' H' a mo := x.mono0 od.toOrd0 e
theorem MR.new1 (r : MR g m L H) (h : H p = none) : MR g m L (upd H p o) :=
  ⟨r.nx, fun n mo e => by
    obtain ⟨b, e1, e2⟩ := r.obj n mo e
    obtain ⟨u, e3⟩ := e2.some_
    exact ⟨b, e1, e2.mono (Ord.new1 h) (upd_ne (ne_of_none e3 h))⟩, r.dead, r.inj, fun a u z => by
    obtain ⟨q, z2⟩ := r.tmp a u z
    exact ⟨by rw [upd_ne (ne_of_none q h)]; exact q, z2⟩, tabs_new r.tabs h, r.tmpT⟩
theorem OR.noTab {mo : MO} (x : OR g L H a mo) : (∀ ps, H a ≠ some (.tbl ps)) ∧ ∀ φ, H a ≠ some (.ext φ) := by
  cases mo with
  | lst ds => obtain ⟨vs, e1, e2⟩ := x; exact ⟨fun ps e => (by rw [e1] at e; cases e), fun ps e => (by rw [e1] at e; cases e)⟩
  | dic kvs => exact x.elim
  | ins C fs => obtain ⟨dx, gs, e1, e2⟩ := x; exact ⟨fun ps e => (by rw [e1] at e; cases e), fun ps e => (by rw [e1] at e; cases e)⟩
  | cell d => exact x.elim
def Lm.add (L : Lm) (p : Addr) : Lm := ⟨fun n => if n = L.nxt then some p else L.at_ n, L.nxt + 1, fun n h => by rw [if_neg (by omega)]; exact L.top n (by omega), L.tmp⟩
def Mem.add (m : Mem) (mo : MO) : Mem := ⟨fun n => if n = m.nxt then some mo else m.at_ n, m.nxt + 1⟩
def Mem.put (m : Mem) (n : Nat) (mo : MO) : Mem := ⟨fun k => if k = n then some mo else m.at_ k, m.nxt⟩
theorem Lm.add_new : (L.add p).at_ L.nxt = some p := if_pos rfl
theorem Ord.add (h : H p = none) (r : MR g m L H) : Ord L (L.add p) H (upd H p o) where
  nx := Nat.le_succ _
  old := fun n h1 => .inl (by show (if n = L.nxt then _ else _) = _; rw [if_neg (by omega)])
  new := fun n b h1 e => by
    have e : (if n = L.nxt then some p else L.at_ n) = some b := e
    by_cases z : n = L.nxt
    · rw [if_pos z] at e; cases e; exact h
    · rw [if_neg z, L.top n h1] at e; cases e
  keep := (Ord.new1 (L := L) h).keep
  there := (Ord.new1 (L := L) h).there
  tmp := fun _ h => .inl h
  tmpk := fun _ _ h => h
theorem MR.add {mo : MO} (r : MR g m L H) (h : H p = none) (x : OR g (L.add p) (upd H p o) p mo) : MR g (m.add mo) (L.add p) (upd H p o) where
  nx := by show m.nxt + 1 = L.nxt + 1; rw [r.nx]
  obj := fun n mo' e => by
    have e : (if n = m.nxt then some mo else m.at_ n) = some mo' := e
    show ∃ a, (if n = L.nxt then some p else L.at_ n) = some a ∧ _
    by_cases z : n = m.nxt
    · rw [if_pos z] at e; cases e
      exact ⟨p, if_pos (z.trans r.nx), x⟩
    · rw [if_neg z] at e
      obtain ⟨b, e1, e2⟩ := r.obj n mo' e
      obtain ⟨u, e3⟩ := e2.some_
      exact ⟨b, (if_neg (by rw [← r.nx]; exact z)).trans e1, e2.mono (Ord.add h r) (upd_ne (ne_of_none e3 h))⟩
  dead := fun n e => by
    have e : (if n = m.nxt then some mo else m.at_ n) = none := e
    show (if n = L.nxt then some p else L.at_ n) = none
    by_cases z : n = m.nxt
    · rw [if_pos z] at e; cases e
    · rw [if_neg z] at e
      rw [if_neg (by rw [← r.nx]; exact z)]; exact r.dead n e
  inj := fun n n' b e e' => by
    have e : (if n = L.nxt then some p else L.at_ n) = some b := e
    have e' : (if n' = L.nxt then some p else L.at_ n') = some b := e'
    by_cases z : n = L.nxt
    · by_cases z' : n' = L.nxt
      · rw [z, z']
      · rw [if_pos z] at e; cases e
        rw [if_neg z'] at e'
        exact ((r.fresh h).1 n' e').elim
    · rw [if_neg z] at e
      by_cases z' : n' = L.nxt
      · rw [if_pos z'] at e'; cases e'
        exact ((r.fresh h).1 n e).elim
      · rw [if_neg z'] at e'
        exact r.inj n n' b e e'
  tmp := fun b u z => by
    obtain ⟨q, z2⟩ := r.tmp b u z
    refine ⟨by rw [upd_ne (ne_of_none q h)]; exact q, fun n e => ?_⟩
    have e : (if n = L.nxt then some p else L.at_ n) = some b := e
    by_cases z3 : n = L.nxt
    · rw [if_pos z3] at e; cases e; exact ne_of_none q h rfl
    · rw [if_neg z3] at e; exact z2 n e
  tabs := tabs_new r.tabs h
  tmpT := r.tmpT
theorem Ord.put {n : Nat} {u : HO} (hn : L.at_ n = some a) (hu : H a = some u) : Ord L L H (upd H a o) :=
  ⟨⟨Nat.le_refl _, fun _ _ => .inl rfl, fun n b h e => (by rw [L.top n h] at e; cases e), fun b w e f _ => by
    rw [upd_ne (fun z => by rw [z] at f; exact f.1 n hn)]; exact e, fun b e => by
    by_cases hb : b = a
    · rw [hb, upd_same] at e; cases e
    · rw [upd_ne hb] at e; exact e, fun _ h => .inl h⟩, fun _ _ h => h⟩
theorem MR.put {n : Nat} {mo mo' : MO} {u : HO} (r : MR g m L H) (hm : m.at_ n = some mo) (hn : L.at_ n = some a) (hu : H a = some u) (x : OR g L (upd H a o) a mo') : MR g (m.put n mo') L (upd H a o) where
  nx := r.nx
  obj := fun k mk e => by
    have e : (if k = n then some mo' else m.at_ k) = some mk := e
    by_cases z : k = n
    · rw [if_pos z] at e; cases e
      exact ⟨a, by rw [z]; exact hn, x⟩
    · rw [if_neg z] at e
      obtain ⟨b, e1, e2⟩ := r.obj k mk e
      exact ⟨b, e1, e2.mono (Ord.put hn hu) (upd_ne fun w => z (r.inj k n a (w ▸ e1) hn))⟩
  dead := fun k e => by
    have e : (if k = n then some mo' else m.at_ k) = none := e
    by_cases z : k = n
    · rw [if_pos z] at e; cases e
    · rw [if_neg z] at e; exact r.dead k e
  tabs := by
    obtain ⟨b, e1, e2⟩ := r.obj n mo hm
    rw [hn] at e1; cases e1
    exact tabs_upd r.tabs e2.noTab.1 e2.noTab.2
  tmpT := r.tmpT
  inj := r.inj
  tmp := fun b w z => by
    obtain ⟨q, z2⟩ := r.tmp b w z
    exact ⟨by rw [upd_ne (fun y => z2 n (by rw [y]; exact hn))]; exact q, z2⟩
end

/-! ### arguments, displays -/
def mNil : Loc → M (List D) := fun _ => pure []
def mCons (a : Loc → M D) (r : Loc → M (List D)) : Loc → M (List D) := fun l => do
  let x ← a l
  let xs ← r l
  pure (x :: xs)
section
variable {X : Cx} {W : WX} {T : Gw}
theorem a_nil : PA X [] (dnA ⟨X.K, T⟩ W mNil) := pa_imp pa_nil fun σ H Q ⟨l, m, L, s, q⟩ => (show QA _ L H Q [] m from q) [] L H Ord.refl s.mr rfl
theorem a_cons {e : Expr} {es : List Expr} {a : Loc → M D} {r : Loc → M (List D)} (ha : PE X e (dnE ⟨X.K, T⟩ W a)) (hr : PA X es (dnA ⟨X.K, T⟩ W r)) (hs : starEach (e :: es) X.env = (false, eval e X.env) :: starEach es X.env := by rfl) :
    PA X (e :: es) (dnA ⟨X.K, T⟩ W (mCons a r)) := by
  refine pa_imp (pa_cons ha hr hs) fun σ H Q ⟨l, m, L, s, q⟩ => ?_
  refine ⟨l, m, L, s, (Wp.bnd.mp q).mono (fun x m1 q1 v L1 H1 o1 r1 d1 => ?_) fun _ _ z => z⟩
  refine ⟨l, m1, L1, s.mono r1 o1, (Wp.bnd.mp q1).mono (fun y m2 q2 u L2 H2 o2 r2 d2 => ?_) fun _ _ z => z.mono o1⟩
  exact (show QA _ L H Q (x :: y) m2 from q2) (v :: u) L2 H2 (o1.trans o2) r2 ⟨v, u, rfl, d1.mono o2, d2⟩
theorem DVs.len {g : Gv} {L : Lm} {H : Hp} : ∀ {ds : List D} {vs : List V}, DVs g L H ds vs → vs.length = ds.length
  | [], _, h => by rw [show _ = [] from h]; rfl
  | d :: ds, _, ⟨v, r, e, _, h⟩ => by rw [e, List.length_cons, List.length_cons, DVs.len h]
def okLen : Nat := 1000000
theorem okLen_le {n : Nat} (h : n ≤ okLen) : n ≤ sizeLine := Nat.le_trans h (by decide)
def dTup (xs : List D) : M D := fun m => if xs.length ≤ okLen then .ok (.tup xs) m else .bad
def dLst (xs : List D) : M D := fun m => if xs.length ≤ okLen then .ok (.lst xs) m else .bad
def dNew (mo : MO) : M D := fun m => .ok (.ref m.nxt) (m.add mo)
def dNewL (xs : List D) : M D := fun m => if xs.length ≤ okLen then dNew (.lst xs) m else .bad
/-- a new list: kept as it is, or one that may change -/
theorem q_tup {g : Gv} {L : Lm} {H : Hp} {Q : VK} {ds : List D} {vs : List V} {m : Mem} {E : Ex → Mem → Prop} (r : MR g m L H) (d : DVs g L H ds vs) (q : Wp (dTup ds m) (QE g L H Q) E) : vs.length ≤ sizeLine ∧ ∀ p, H p = none → Q (.ref p) (upd H p (.tup vs)) := by
  unfold dTup at q
  split at q
  · rename_i h
    refine ⟨by rw [d.len]; exact okLen_le h, fun p hp => ?_⟩
    exact q _ L _ (Ord.new1 hp) (r.new1 hp) ⟨p, vs, rfl, .inl ⟨.inl upd_same, r.fresh hp⟩, d.mono (Ord.new1 hp)⟩
  · exact q.elim
theorem q_lst {g : Gv} {L : Lm} {H : Hp} {Q : VK} {ds : List D} {vs : List V} {m : Mem} {E : Ex → Mem → Prop} (r : MR g m L H) (d : DVs g L H ds vs) (q : Wp (dLst ds m) (QE g L H Q) E) : vs.length ≤ sizeLine ∧ ∀ p, H p = none → Q (.ref p) (upd H p (.lst vs)) := by
  unfold dLst at q
  split at q
  · rename_i h
    refine ⟨by rw [d.len]; exact okLen_le h, fun p hp => ?_⟩
    exact q _ L _ (Ord.new1 hp) (r.new1 hp) ⟨p, vs, rfl, ⟨upd_same, r.fresh hp⟩, d.mono (Ord.new1 hp)⟩
  · exact q.elim
theorem q_newl {g : Gv} {L : Lm} {H : Hp} {Q : VK} {ds : List D} {vs : List V} {m : Mem} {E : Ex → Mem → Prop} (r : MR g m L H) (d : DVs g L H ds vs) (q : Wp (dNewL ds m) (QE g L H Q) E) : vs.length ≤ sizeLine ∧ ∀ p, H p = none → Q (.ref p) (upd H p (.lst vs)) := by
  unfold dNewL at q
  split at q
  · rename_i h
    refine ⟨by rw [d.len]; exact okLen_le h, fun p hp => ?_⟩
    have od : Ord L (L.add p) H (upd H p (.lst vs)) := Ord.add hp r
    refine (show QE g L H Q (.ref m.nxt) (m.add (.lst ds)) from q) _ (L.add p) _ od (r.add hp ⟨vs, upd_same, d.mono od⟩) ⟨?_, fun b e => ?_⟩
    · show m.nxt < L.nxt + 1
      rw [r.nx]; exact Nat.lt_succ_self _
    · rw [r.nx, Lm.add_new] at e; cases e; rfl
  · exact q.elim
def mTup (a : Loc → M (List D)) : Loc → M D := fun l => do dTup (← a l)
def mLst (a : Loc → M (List D)) : Loc → M D := fun l => do dLst (← a l)
def mLstL (a : Loc → M (List D)) : Loc → M D := fun l => do dNewL (← a l)
theorem e_tup {es : List Expr} {a : Loc → M (List D)} {x1 pos} (h : PA X es (dnA ⟨X.K, T⟩ W a)) (hn : ∀ xs m z m', dTup xs m ≠ .exc z m' := by intro xs m z m' e; unfold dTup at e; split at e <;> cases e) : PE X (.Tuple es x1 pos) (dnE ⟨X.K, T⟩ W (mTup a)) := by
  refine pe_imp (pe_tup h) fun σ H Q ⟨l, m, L, s, q⟩ => ?_
  refine ⟨l, m, L, s, (Wp.bnd.mp q).mono (fun x m1 q1 v L1 H1 o1 r1 d1 => ?_) fun _ _ z => z⟩
  exact q_tup r1 d1 ((wp_nox q1 (hn x m1)).mono (fun _ _ z => z.mono o1) fun _ _ z => z)
theorem e_lst {es : List Expr} {a : Loc → M (List D)} {pos} (h : PA X es (dnA ⟨X.K, T⟩ W a)) (hn : ∀ xs m z m', dLst xs m ≠ .exc z m' := by intro xs m z m' e; unfold dLst at e; split at e <;> cases e) : PE X (.List es pos) (dnE ⟨X.K, T⟩ W (mLst a)) := by
  refine pe_imp (pe_lst h) fun σ H Q ⟨l, m, L, s, q⟩ => ?_
  refine ⟨l, m, L, s, (Wp.bnd.mp q).mono (fun x m1 q1 v L1 H1 o1 r1 d1 => ?_) fun _ _ z => z⟩
  exact q_lst r1 d1 ((wp_nox q1 (hn x m1)).mono (fun _ _ z => z.mono o1) fun _ _ z => z)
theorem e_lstL {es : List Expr} {a : Loc → M (List D)} {pos} (h : PA X es (dnA ⟨X.K, T⟩ W a)) (hn : ∀ xs m z m', dNewL xs m ≠ .exc z m' := by intro xs m z m' e; unfold dNewL dNew at e; split at e <;> cases e) : PE X (.List es pos) (dnE ⟨X.K, T⟩ W (mLstL a)) := by
  refine pe_imp (pe_lst h) fun σ H Q ⟨l, m, L, s, q⟩ => ?_
  refine ⟨l, m, L, s, (Wp.bnd.mp q).mono (fun x m1 q1 v L1 H1 o1 r1 d1 => ?_) fun _ _ z => z⟩
  exact q_newl r1 d1 ((wp_nox q1 (hn x m1)).mono (fun _ _ z => z.mono o1) fun _ _ z => z)

/-! ### a if t else b; and, or, not as values -/
def mIf (t : Loc → M Bool) (a b : Loc → M D) : Loc → M D := fun l => do if ← t l then a l else b l
theorem e_if {c a b : Expr} {t : Loc → M Bool} {ma mb : Loc → M D} {pos} (hc : PT X c (dnT ⟨X.K, T⟩ W t)) (ha : PE X a (dnE ⟨X.K, T⟩ W ma)) (hb : PE X b (dnE ⟨X.K, T⟩ W mb)) : PE X (.IfExp c a b pos) (dnE ⟨X.K, T⟩ W (mIf t ma mb)) := by
  refine pe_imp (pe_ifExp hc ha hb) fun σ H Q ⟨l, m, L, s, q⟩ => ?_
  refine ⟨l, m, L, s, (Wp.bnd.mp q).mono (fun x m1 q1 L1 H1 o1 r1 => ?_) fun _ _ z => z⟩
  cases x with
  | true => exact ite_tt ⟨l, m1, L1, s.mono r1 o1, Wp.mono q1 (fun _ _ z => z.mono o1) fun _ _ z => z.mono o1⟩
  | false => exact ite_ff ⟨l, m1, L1, s.mono r1 o1, Wp.mono q1 (fun _ _ z => z.mono o1) fun _ _ z => z.mono o1⟩
def dBl : D → M Bool
  | .bl b => pure b
  | _ => bad
def mAndV (a b : Loc → M D) : Loc → M D := fun l => do if ← dBl (← a l) then b l else pure (.bl false)
def mOrV (a b : Loc → M D) : Loc → M D := fun l => do if ← dBl (← a l) then pure (.bl true) else b l
def mNotV (a : Loc → M D) : Loc → M D := fun l => do return .bl (!(← dBl (← a l)))
theorem e_one {op : BoolOp} {a : Expr} {t : TE} {pos} (h : PE X a t) : PE X (.BoolOp op [a] pos) t := pe_one h
theorem e_and {a b : Expr} {rest : List Expr} {ma mb : Loc → M D} {pos} (ha : PE X a (dnE ⟨X.K, T⟩ W ma)) (hb : PE X (.BoolOp .And (b :: rest) pos) (dnE ⟨X.K, T⟩ W mb)) : PE X (.BoolOp .And (a :: b :: rest) pos) (dnE ⟨X.K, T⟩ W (mAndV ma mb)) := by
  refine pe_imp (pe_and ha hb) fun σ H Q ⟨l, m, L, s, q⟩ => ?_
  refine ⟨l, m, L, s, (Wp.bnd.mp q).mono (fun x m1 q1 v L1 H1 o1 r1 d1 => ?_) fun _ _ z => z⟩
  cases x with
  | bl c =>
    have d1 : v = .bl c := d1
    refine ⟨c, d1, ?_⟩
    cases c with
    | true => exact ite_tt ⟨l, m1, L1, s.mono r1 o1, Wp.mono (show Wp (mb l m1) _ _ from q1) (fun _ _ z => z.mono o1) fun _ _ z => z.mono o1⟩
    | false => exact ite_ff ((show QE _ L H Q (.bl false) m1 from q1) _ L1 H1 o1 r1 rfl)
  | _ => exact q1.elim
theorem e_or {a b : Expr} {rest : List Expr} {ma mb : Loc → M D} {pos} (ha : PE X a (dnE ⟨X.K, T⟩ W ma)) (hb : PE X (.BoolOp .Or (b :: rest) pos) (dnE ⟨X.K, T⟩ W mb)) : PE X (.BoolOp .Or (a :: b :: rest) pos) (dnE ⟨X.K, T⟩ W (mOrV ma mb)) := by
  refine pe_imp (pe_or ha hb) fun σ H Q ⟨l, m, L, s, q⟩ => ?_
  refine ⟨l, m, L, s, (Wp.bnd.mp q).mono (fun x m1 q1 v L1 H1 o1 r1 d1 => ?_) fun _ _ z => z⟩
  cases x with
  | bl c =>
    have d1 : v = .bl c := d1
    refine ⟨c, d1, ?_⟩
    cases c with
    | false => exact ite_ff ⟨l, m1, L1, s.mono r1 o1, Wp.mono (show Wp (mb l m1) _ _ from q1) (fun _ _ z => z.mono o1) fun _ _ z => z.mono o1⟩
    | true => exact ite_tt ((show QE _ L H Q (.bl true) m1 from q1) _ L1 H1 o1 r1 rfl)
  | _ => exact q1.elim
theorem e_not {a : Expr} {ma : Loc → M D} {pos} (ha : PE X a (dnE ⟨X.K, T⟩ W ma)) : PE X (.UnaryOp .Not a pos) (dnE ⟨X.K, T⟩ W (mNotV ma)) := by
  refine pe_imp (pe_not ha) fun σ H Q ⟨l, m, L, s, q⟩ => ?_
  refine ⟨l, m, L, s, (Wp.bnd.mp q).mono (fun x m1 q1 v L1 H1 o1 r1 d1 => ?_) fun _ _ z => z⟩
  cases x with
  | bl c =>
    have d1 : v = .bl c := d1
    exact ⟨c, d1, (show QE _ L H Q (.bl (!c)) m1 from q1) _ L1 H1 o1 r1 rfl⟩
  | _ => exact q1.elim
theorem t_and1 {a : Expr} {t : Loc → M Bool} {pos} (h : PT X a (dnT ⟨X.K, T⟩ W t)) : PW X (.BoolOp .And [a] pos) (dnT ⟨X.K, T⟩ W t) := pw_and1 h
theorem t_or1 {a : Expr} {t : Loc → M Bool} {pos} (h : PT X a (dnT ⟨X.K, T⟩ W t)) : PW X (.BoolOp .Or [a] pos) (dnT ⟨X.K, T⟩ W t) := pw_or1 h
theorem pw_imp {e : Expr} {t t' : TT} (h : PW X e t) (hi : ∀ σ H Q, t' σ H Q → t σ H Q) : PW X e t' := ⟨fun wh pins s σ H Q I q => h.run wh pins s σ H Q I (hi σ H Q q)⟩
theorem t_and {a b : Expr} {rest : List Expr} {ma mb : Loc → M Bool} {pos} (ha : PT X a (dnT ⟨X.K, T⟩ W ma)) (hb : PW X (.BoolOp .And (b :: rest) pos) (dnT ⟨X.K, T⟩ W mb)) : PW X (.BoolOp .And (a :: b :: rest) pos) (dnT ⟨X.K, T⟩ W (mAnd ma mb)) :=
  pw_imp (pw_and ha hb) fun σ H Q h => dn_and h
theorem t_or {a b : Expr} {rest : List Expr} {ma mb : Loc → M Bool} {pos} (ha : PT X a (dnT ⟨X.K, T⟩ W ma)) (hb : PW X (.BoolOp .Or (b :: rest) pos) (dnT ⟨X.K, T⟩ W mb)) : PW X (.BoolOp .Or (a :: b :: rest) pos) (dnT ⟨X.K, T⟩ W (mOr ma mb)) :=
  pw_imp (pw_or ha hb) fun σ H Q h => dn_or h
theorem t_not {a : Expr} {ma : Loc → M Bool} {pos} (ha : PT X a (dnT ⟨X.K, T⟩ W ma)) : PT X (.UnaryOp .Not a pos) (dnT ⟨X.K, T⟩ W (mNot ma)) := pt_imp (pt_not ha) fun σ H Q h => dn_not h

/-! ### plain statements -/
def sSet (i : Nat) (e : Loc → M D) : Loc → M Fl := fun l => do return .nx (l.set i (some (← e l)))
theorem SR.set {g : Gv} {l : Loc} {m : Mem} {L : Lm} {σ : Sg} {H : Hp} {i : Nat} {d : D} {v : V} (s : SR g l m L σ H) (h : DV g L H d v) : SR g (l.set i (some d)) m L (σ.set i (some v)) H := by
  refine ⟨s.mr, fun j d' e => ?_, by rw [List.length_set, List.length_set]; exact s.len⟩
  rw [List.getElem?_set] at e
  split at e
  · rename_i hj
    subst hj
    split at e
    · rename_i hl
      cases e
      exact ⟨v, List.getElem?_set_self (by rw [s.len]; exact hl), h⟩
    · cases e
  · rename_i hj
    obtain ⟨w, h1, h2⟩ := s.lc j d' e
    exact ⟨w, by rw [List.getElem?_set_ne hj]; exact h1, h2⟩
theorem s_set {st : Stmt} {i : Nat} {e : Loc → M D} (h : PS X st (tAsg (dnE ⟨X.K, T⟩ W e) (gName i))) : PS X st (dnS ⟨X.K, T⟩ W (sSet i e)) := by
  refine ps_imp h fun D σ H ⟨l, m, L, s, q⟩ => ?_
  refine ⟨l, m, L, s, (Wp.bnd.mp q).mono (fun x m1 q1 v L1 H1 o1 r1 d1 => ?_) fun x m1 q1 c d L1 H1 o1 r1 x1 => q1 c d σ L1 H1 o1 r1 x1⟩
  exact (show QS _ L H D (.nx (l.set i (some x))) m1 from q1) _ L1 H1 o1 ((s.mono r1 o1).set d1)
def sNil : Loc → M Fl := fun l => pure (.nx l)
def sSeq (a b : Loc → M Fl) : Loc → M Fl := fun l => do
  match ← a l with
  | .nx l' => b l'
  | f => pure f
theorem s_nil : PSs X [] (dnS ⟨X.K, T⟩ W sNil) := pss_imp pss_nil fun D σ H ⟨l, m, L, s, q⟩ => (show QS _ L H D (.nx l) m from q) σ L H Ord.refl s
theorem s_one {st : Stmt} {a : Loc → M Fl} (h : PS X st (dnS ⟨X.K, T⟩ W a)) : PSs X [st] (dnS ⟨X.K, T⟩ W a) := pss_one h
theorem s_cons {st : Stmt} {rest : List Stmt} {a b : Loc → M Fl} (h : PS X st (dnS ⟨X.K, T⟩ W a)) (hr : PSs X rest (dnS ⟨X.K, T⟩ W b)) : PSs X (st :: rest) (dnS ⟨X.K, T⟩ W (sSeq a b)) := by
  refine pss_imp (pss_cons h hr) fun D σ H ⟨l, m, L, s, q⟩ => ?_
  refine ⟨l, m, L, s, (Wp.bnd.mp q).mono (fun f m1 q1 => ?_) fun x m1 q1 => q1⟩
  cases f with
  | nx l' => exact fun σ' L1 H1 o1 s1 => ⟨l', m1, L1, s1, Wp.mono (show Wp (b l' m1) _ _ from q1) (fun f m2 z => z.mono o1) fun x m2 z c d σ2 L2 H2 o2 r2 x2 => z c d σ2 L2 H2 (o1.trans o2) r2 x2⟩
  | rt d => exact (show QS _ L H D (.rt d) m1 from q1)
  | bk l' => exact (show QS _ L H D (.bk l') m1 from q1)
  | ct l' => exact (show QS _ L H D (.ct l') m1 from q1)
def sIf (t : Loc → M Bool) (a b : Loc → M Fl) : Loc → M Fl := fun l => do if ← t l then a l else b l
theorem s_if {c : Expr} {a b : List Stmt} {t : Loc → M Bool} {ma mb : Loc → M Fl} {pos} (hc : PT X c (dnT ⟨X.K, T⟩ W t)) (ha : PSs X a (dnS ⟨X.K, T⟩ W ma)) (hb : PSs X b (dnS ⟨X.K, T⟩ W mb)) : PS X (.If c a b pos) (dnS ⟨X.K, T⟩ W (sIf t ma mb)) := by
  refine ps_imp (ps_if hc ha hb) fun D σ H ⟨l, m, L, s, q⟩ => ?_
  refine ⟨l, m, L, s, (Wp.bnd.mp q).mono (fun x m1 q1 L1 H1 o1 r1 => ?_) fun x m1 q1 c d L1 H1 o1 r1 x1 => q1 c d σ L1 H1 o1 r1 x1⟩
  cases x with
  | true => exact ite_tt ⟨l, m1, L1, s.mono r1 o1, Wp.mono q1 (fun _ _ z => z.mono o1) fun x m2 z c d σ2 L2 H2 o2 r2 x2 => z c d σ2 L2 H2 (o1.trans o2) r2 x2⟩
  | false => exact ite_ff ⟨l, m1, L1, s.mono r1 o1, Wp.mono q1 (fun _ _ z => z.mono o1) fun x m2 z c d σ2 L2 H2 o2 r2 x2 => z c d σ2 L2 H2 (o1.trans o2) r2 x2⟩
def sRet (e : Loc → M D) : Loc → M Fl := fun l => do return .rt (← e l)
theorem s_ret {e : Expr} {me : Loc → M D} {pos} (h : PE X e (dnE ⟨X.K, T⟩ W me)) : PS X (.Return (some e) pos) (dnS ⟨X.K, T⟩ W (sRet me)) := by
  refine ps_imp (ps_ret h) fun D σ H ⟨l, m, L, s, q⟩ => ?_
  exact ⟨l, m, L, s, (Wp.bnd.mp q).mono (fun x m1 q1 => q1) fun x m1 q1 c d L1 H1 o1 r1 x1 => q1 c d σ L1 H1 o1 r1 x1⟩
def sExp (e : Loc → M D) : Loc → M Fl := fun l => do let _ ← e l; return .nx l
theorem s_exp {e : Expr} {me : Loc → M D} {pos} (h : PE X e (dnE ⟨X.K, T⟩ W me)) (hs : swapsWith e none pos.line X.env = pure false := by rfl) : PS X (.Expr e pos) (dnS ⟨X.K, T⟩ W (sExp me)) := by
  refine ps_imp (ps_expr h hs) fun D σ H ⟨l, m, L, s, q⟩ => ?_
  refine ⟨l, m, L, s, (Wp.bnd.mp q).mono (fun x m1 q1 v L1 H1 o1 r1 d1 => ?_) fun x m1 q1 c d L1 H1 o1 r1 x1 => q1 c d σ L1 H1 o1 r1 x1⟩
  exact (show QS _ L H D (.nx l) m1 from q1) σ L1 H1 o1 (s.mono r1 o1)
theorem s_pass {pos} : PS X (.Pass pos) (dnS ⟨X.K, T⟩ W sNil) := ps_imp ps_pass fun D σ H ⟨l, m, L, s, q⟩ => (show QS _ L H D (.nx l) m from q) σ L H Ord.refl s
def sBrk : Loc → M Fl := fun l => pure (.bk l)
def sCt : Loc → M Fl := fun l => pure (.ct l)
theorem s_brk {pos} : PS X (.Break pos) (dnS ⟨X.K, T⟩ W sBrk) := ps_imp ps_break fun D σ H ⟨l, m, L, s, q⟩ => (show QS _ L H D (.bk l) m from q) σ L H Ord.refl s
theorem s_ct {pos} : PS X (.Continue pos) (dnS ⟨X.K, T⟩ W sCt) := ps_imp ps_continue fun D σ H ⟨l, m, L, s, q⟩ => (show QS _ L H D (.ct l) m from q) σ L H Ord.refl s
/-- a statement that is never reached -/
theorem s_never {st : Stmt} : PS X st (dnS ⟨X.K, T⟩ W (fun _ => bad)) := ps_imp ps_never fun D σ H ⟨l, m, L, s, q⟩ => q
end
end Tw

set_option Elab.async false
set_option linter.all false
set_option maxRecDepth 100000
set_option maxHeartbeats 4000000
/-! Defs and their calls, methods, instances and their fields, subscripts. -/
namespace Tw
open PySem PySem.Spec PyProof.Rows L2

/-! ### defs -/
def spM (g : Gv) (n : Nat) (F : List D → M D) : Sp := fun vs H Q E => ∃ ds m L, MR g m L H ∧ DVs g L H ds vs ∧ ds.length = n ∧ Wp (F ds m) (QE g L H Q) (QX g L H E)
/-- the body b as a function of the arguments; n: how many names it has -/
def runB (n : Nat) (b : Loc → M Fl) (ds : List D) : M D := do
  match ← b (ds.map some ++ List.replicate (n - ds.length) none) with
  | .rt d => pure d
  | .nx _ => pure .non
  | _ => bad
/-- the wish of a def that E is wanted of -/
abbrev wE (E : XK) : WX := fun c d _ H' => E c d H'
theorem DVs.get {g : Gv} {L : Lm} {H : Hp} : ∀ {ds : List D} {vs : List V} {i : Nat} {d : D}, DVs g L H ds vs → ds[i]? = some d → ∃ v, vs[i]? = some v ∧ DV g L H d v
  | [], _, _, _, _, h => by simp at h
  | d :: ds, _, 0, d', ⟨v, r, e, q, _⟩, h => by
    simp at h; subst h; subst e
    exact ⟨v, by simp, q⟩
  | d :: ds, _, i + 1, d', ⟨v, r, e, _, q⟩, h => by
    subst e
    obtain ⟨w, h1, h2⟩ := DVs.get (i := i) q (by simpa using h)
    exact ⟨w, by simpa using h1, h2⟩
theorem sr_start {g : Gv} {N : List Str} {ds : List D} {vs : List V} {m : Mem} {L : Lm} {H : Hp} (r : MR g m L H) (d : DVs g L H ds vs) : SR g (ds.map some ++ List.replicate (N.length - ds.length) none) m L (L2.start N vs) H := by
  have el := d.len
  refine ⟨r, fun i x e => ?_, by unfold L2.start; simp [el]⟩
  unfold L2.start
  by_cases hi : i < ds.length
  · rw [List.getElem?_append_left (by simpa using hi), List.getElem?_map] at e
    cases q : ds[i]? with
    | none => rw [q] at e; cases e
    | some y =>
      rw [q] at e; cases e
      obtain ⟨v, h1, h2⟩ := d.get q
      refine ⟨v, ?_, h2⟩
      rw [List.getElem?_append_left (by rw [List.length_map, el]; exact hi), List.getElem?_map, h1]
      rfl
  · rw [List.getElem?_append_right (by simpa using hi)] at e
    rw [List.getElem?_replicate] at e
    split at e <;> cases e
theorem run_dn {g : Gv} {N : List Str} {b : Loc → M Fl} {vs : List V} {H : Hp} {Q : VK} {E : XK} {n : Nat} (h : spM g n (runB N.length b) vs H Q E) : dnS g (wE E) b { nx := fun _ H' => Q .non H', rt := Q } (L2.start N vs) H := by
  obtain ⟨ds, m, L, r, d, _, q⟩ := h
  refine ⟨_, m, L, sr_start (N := N) r d, (Wp.bnd.mp q).mono (fun f m1 q1 => ?_) fun x m1 q1 c dx σ' L1 H1 o1 r1 x1 => q1 c dx L1 H1 o1 r1 x1⟩
  cases f with
  | nx l' => exact fun σ' L1 H1 o1 s1 => (show QE g L H Q .non m1 from q1) _ L1 H1 o1 s1.mr rfl
  | rt x => exact (show QE g L H Q x m1 from q1)
  | bk l' => exact q1.elim
  | ct l' => exact q1.elim

/-! ### calls -/
theorem spM_len {g : Gv} {n : Nat} {F : List D → M D} {vs : List V} {H : Hp} {Q : VK} {E : XK} (h : spM g n F vs H Q E) : vs.length = n := by
  obtain ⟨ds, m, L, _, d, e, _⟩ := h
  rw [d.len, e]
def mF (n : Nat) (F : List D → M D) (xs : List D) : M D := if xs.length = n then F xs else bad
def mCall (n : Nat) (F : List D → M D) (dd : List D) (a : Loc → M (List D)) : Loc → M D := fun l => do mF n F ((← a l) ++ dd)
theorem DVs.app {g : Gv} {L : Lm} {H : Hp} : ∀ {ds es : List D} {vs us : List V}, DVs g L H ds vs → DVs g L H es us → DVs g L H (ds ++ es) (vs ++ us)
  | [], _, _, _, h, q => by rw [show _ = [] from h]; exact q
  | d :: ds, _, _, _, ⟨v, r, e, h1, h2⟩, q => by subst e; exact ⟨v, r ++ _, rfl, h1, DVs.app h2 q⟩
section
variable {X : Cx} {W : WX} {T : Gw} {k n : Nat} {f C : Addr} {fd : FuncData} {ps : List Str} {F : List D → M D} {x mt : Str} {p pos apos : Pos} {e o : Expr} {es : List Expr} {a : Loc → M (List D)} {mo : Loc → M D} {dd : List D} {dvs : List V} {ds : List Value}
abbrev FM (X : Cx) (T : Gw) (k : Nat) (f : Addr) (fd : FuncData) (ps : List Str) (F : List D → M D) : Prop := FnOk X.prog X.w X.K X.mg X.base (L2.CX X.prog X.w) k f fd ps (spM ⟨X.K, T⟩ ps.length F)
theorem run_fnM {pins : List (Addr × Obj)} {σ : Sg} {H : Hp} {s : Shared} {Q : VK} {us : List Value} {vs : List V} {m : Mem} {L : Lm} {xs : List D} (G : FM X T k f fd ps F) (hr : Room k X.A) (hb : Binds X.K fd ps ds) (hd : Vals dvs ds) (tk : Takes X W)
    (I : Inv X pins σ H s) (r : Vals vs us) (mr : MR ⟨X.K, T⟩ m L H) (dv : DVs ⟨X.K, T⟩ L H xs (vs ++ dvs)) (q : Wp (mF ps.length F xs m) (QE ⟨X.K, T⟩ L H Q) (QX ⟨X.K, T⟩ L H fun c d H' => W c d σ H')) : wpAny (model X.prog X.w) X.A (call (.ref f) us) (EP X pins σ Q) X.xe s := by
  have r2 : Vals (vs ++ dvs) (us ++ ds) := r.append hd
  unfold mF at q
  split at q
  · rename_i hn
    have hl : (vs ++ dvs).length = ps.length := by rw [dv.len, hn]
    have sp : spM ⟨X.K, T⟩ ps.length F (vs ++ dvs) H Q (WE W σ) := ⟨xs, m, L, mr, dv, hn, q⟩
    refine wpAny_call (codeAny_mono (G.run X.A X.stack s H ⟨us, []⟩ (us ++ ds) (vs ++ dvs) Q (WE W σ) hr I.env0 (hb s us I.kIn (by rw [← r2.length]; exact hl)) r2 sp) fun r s' hq => ?_)
    cases r with
    | error e => exact passAt tk σ pins H s e s' I hq
    | ok fl =>
      cases fl with
      | ret u => exact I.after hq
      | next => exact False.elim hq
      | brk => exact False.elim hq
      | cont => exact False.elim hq
  · exact q.elim
/-- the defaults, as trees -/
def DfD (g : Gv) (dd : List D) (dvs : List V) : Prop := ∀ L H, DVs g L H dd dvs
/-- the arguments have come: what F' of them is wanted of -/
def RdyA (g : Gv) (W : WX) (σ : Sg) (Q : VK) (F' : List D → M D) (vs : List V) (H1 : Hp) : Prop := ∃ xs m1 L1, MR g m1 L1 H1 ∧ DVs g L1 H1 xs vs ∧ Wp (F' xs m1) (QE g L1 H1 Q) (QX g L1 H1 fun c d H' => W c d σ H')
theorem dn_args {g : Gv} {F' : List D → M D} {σ : Sg} {H : Hp} {Q : VK} (h : dnE g W (fun l => do F' (← a l)) σ H Q) : dnA g W a σ H (RdyA g W σ Q F') := by
  obtain ⟨l, m, L, s, q⟩ := h
  exact ⟨l, m, L, s, (Wp.bnd.mp q).mono (fun xs m1 q1 vs L1 H1 o1 r1 d1 => ⟨xs, m1, L1, r1, d1, Wp.mono q1 (fun _ _ z => z.mono o1) fun _ _ z => z.mono o1⟩) fun _ _ z => z⟩
/-- one value has come -/
def Rdy1 (g : Gv) (W : WX) (σ : Sg) (Q : VK) (F' : D → M D) (v : V) (H1 : Hp) : Prop := ∃ x m1 L1, MR g m1 L1 H1 ∧ DV g L1 H1 x v ∧ Wp (F' x m1) (QE g L1 H1 Q) (QX g L1 H1 fun c d H' => W c d σ H')
theorem dn_arg1 {g : Gv} {a : Loc → M D} {F' : D → M D} {σ : Sg} {H : Hp} {Q : VK} (h : dnE g W (fun l => do F' (← a l)) σ H Q) : dnE g W a σ H (Rdy1 g W σ Q F') := by
  obtain ⟨l, m, L, s, q⟩ := h
  exact ⟨l, m, L, s, (Wp.bnd.mp q).mono (fun xs m1 q1 vs L1 H1 o1 r1 d1 => ⟨xs, m1, L1, r1, d1, Wp.mono q1 (fun _ _ z => z.mono o1) fun _ _ z => z.mono o1⟩) fun _ _ z => z⟩
theorem e_call (G : FM X T k f fd ps F) (hr : Room k X.A) (hg : Gl X x) (hm : X.mg x = some (.ref f)) (hk : PySem.W.keepIn X.K (.ref f) = true) (hb : Binds X.K fd ps ds) (hd : Vals dvs ds) (hdd : DfD ⟨X.K, T⟩ dd dvs) (tk : Takes X W)
    (ha : PA X (e :: es) (dnA ⟨X.K, T⟩ W a)) (hdb : (x == ("__debug__" : Str)) = false := by decide) (he : starEach (e :: es) X.env = (false, eval e X.env) :: starEach es X.env := by rfl) (hpl : (backTo pos (starEach es X.env)).any (·.1) = false := by rfl) :
    PE X (.Call (.Name x p) (e :: es) [] pos) (dnE ⟨X.K, T⟩ W (mCall ps.length F dd a)) := by
  refine ⟨fun pins s σ H Q I h => ?_⟩
  refine wpAny_Call_Name_kw (ld_glob I hg hm ?_ hdb)
  refine PySem.W.callWith_K (h₀ := X.base) I.ok.mod.kin hk (thn (ha.run pos pins s σ H _ I (dn_args (F' := fun xs => mF ps.length F (xs ++ dd)) h)) fun us s1 ⟨vs, H1, I1, r, q⟩ => ⟨I1.kIn, ?_⟩) he hpl
  obtain ⟨xs, m1, L1, r1, d1, q1⟩ := q
  exact run_fnM G hr hb hd tk I1 r r1 (d1.app (hdd L1 H1)) q1
theorem e_call0 (G : FM X T k f fd ps F) (hr : Room k X.A) (hg : Gl X x) (hm : X.mg x = some (.ref f)) (hk : PySem.W.keepIn X.K (.ref f) = true) (hb : Binds X.K fd ps ds) (hd : Vals dvs ds) (hdd : DfD ⟨X.K, T⟩ dd dvs) (tk : Takes X W) (hdb : (x == ("__debug__" : Str)) = false := by decide) :
    PE X (.Call (.Name x p) [] [] pos) (dnE ⟨X.K, T⟩ W (mCall ps.length F dd mNil)) := by
  refine ⟨fun pins s σ H Q I ⟨l, m, L, sr, q⟩ => ?_⟩
  refine wpAny_Call_Name_kw (ld_glob I hg hm ?_ hdb)
  exact PySem.W.callWith_K0 I.kIn hk (run_fnM (us := []) G hr hb hd tk I .nil sr.mr (xs := dd) (by simpa using hdd L H) q)
/-- fields as trees -/
def lkF (f : Str) (fs : List (Str × D)) : Option D := fs.lookup f
theorem DVf.lk {g : Gv} {L : Lm} {H : Hp} {f : Str} : ∀ {fs : List (Str × D)} {gs : List (Str × V)} {d : D}, DVf g L H fs gs → fs.lookup f = some d → ∃ v, gs.lookup f = some v ∧ DV g L H d v
  | [], _, _, _, h => by cases h
  | (n, x) :: fs, _, d, ⟨v, r, e, q, t⟩, h => by
    subst e
    simp only [List.lookup] at h ⊢
    cases c : (f == n) with
    | true => rw [c] at h; cases h; exact ⟨v, rfl, q⟩
    | false => rw [c] at h; exact DVf.lk t h
theorem DVf.lk0 {g : Gv} {L : Lm} {H : Hp} {f : Str} : ∀ {fs : List (Str × D)} {gs : List (Str × V)}, DVf g L H fs gs → fs.lookup f = none → gs.lookup f = none
  | [], _, e, _ => by rw [show _ = [] from e]; rfl
  | (n, x) :: fs, _, ⟨v, r, e, q, t⟩, h => by
    subst e
    simp only [List.lookup] at h ⊢
    cases c : (f == n) with
    | true => rw [c] at h; cases h
    | false => rw [c] at h; exact DVf.lk0 t h
/-- the fields of an instance of the class C -/
def insF (C : Nat) (x : D) (m : Mem) : Option (List (Str × D)) := match x with
  | .ins C' fs => if C' = C then some fs else none
  | .ref n => match m.at_ n with
    | some (.ins C' fs) => if C' = C then some fs else none
    | _ => none
  | _ => none
theorem insF_ok {g : Gv} {C : Nat} {x : D} {v : V} {m : Mem} {L : Lm} {H : Hp} {fs : List (Str × D)} (r : MR g m L H) (d : DV g L H x v) (h : insF C x m = some fs) : ∃ a dx gs, v = .ref a ∧ H a = some (.ins (g.T C) dx gs) ∧ DVf g L H fs gs := by
  cases x with
  | ins C' fs' =>
    obtain ⟨a, dx, gs, e, q, _, t⟩ := d
    have h : (if C' = C then some fs' else none) = some fs := h
    split at h
    · rename_i hc; cases h; subst hc; exact ⟨a, dx, gs, e, q, t⟩
    · cases h
  | ref n =>
    have h : (match m.at_ n with
      | some (.ins C' fs) => if C' = C then some fs else none
      | _ => none) = some fs := h
    cases c : m.at_ n with
    | none => rw [c] at h; cases h
    | some mo =>
      rw [c] at h
      cases mo with
      | ins C' fs' =>
        have h : (if C' = C then some fs' else none) = some fs := h
        split at h
        · rename_i hc; cases h; subst hc
          obtain ⟨a, e1, dx, gs, e2, t⟩ := r.obj n _ c
          exact ⟨a, dx, gs, d.2 a e1, e2, t⟩
        · cases h
      | _ => cases h
  | _ => cases h
def dFld (C : Nat) (f : Str) (x : D) : M D := fun m => match insF C x m with
  | some fs => match fs.lookup f with
    | some d => .ok d m
    | none => .bad
  | none => .bad
def mFld (C : Nat) (f : Str) (a : Loc → M D) : Loc → M D := fun l => do dFld C f (← a l)
theorem e_fld {C : Nat} {f : Str} {a : Loc → M D} (he : PE X e (dnE ⟨X.K, T⟩ W a)) (c : Cls X.K (T C)) (n : NoAttr X.K (T C) f) (hb : attributeBase e f X.env (eval e X.env) = eval e X.env := by rfl) : PE X (.Attribute e f pos) (dnE ⟨X.K, T⟩ W (mFld C f a)) := by
  refine pe_imp (pe_fld he hb) fun σ H Q h => ?_
  obtain ⟨l, m, L, s, q⟩ := dn_arg1 h
  refine ⟨l, m, L, s, q.mono (fun y m1 q1 v L1 H1 o1 r1 d1 => ?_) fun _ _ z => z⟩
  obtain ⟨x, m2, L2, r2, d2, q2⟩ := q1 v L1 H1 o1 r1 d1
  unfold dFld at q2
  cases c1 : insF C x m2 with
  | none => rw [c1] at q2; exact q2.elim
  | some fs =>
    rw [c1] at q2
    obtain ⟨b, dx, gs, e1, e2, t⟩ := insF_ok r2 d2 c1
    cases c2 : fs.lookup f with
    | none => simp only [c2] at q2; exact q2.elim
    | some d =>
      simp only [c2] at q2
      obtain ⟨u, h1, h2⟩ := t.lk c2
      exact ⟨b, T C, dx, gs, u, e1, e2, c, n, h1, q2 u L2 H1 Ord.refl r2 h2⟩
/-- o.m(e, ..) -/
def mMeth (C : Nat) (mt : Str) (n : Nat) (F : List D → M D) (dd : List D) (o : Loc → M D) (a : Loc → M (List D)) : Loc → M D := fun l => do
  let x ← o l
  let ok : M Unit := fun m => match insF C x m with
    | some fs => (match fs.lookup mt with | none => .ok () m | some _ => .bad)
    | none => .bad
  ok
  let xs ← a l
  mF n F (x :: (xs ++ dd))
theorem meth_ok {g : Gv} {C : Nat} {x : D} {m : Mem} {Q : Unit → Mem → Prop} {E : Ex → Mem → Prop} (h : Wp ((fun m => match insF C x m with
    | some fs => (match fs.lookup mt with | none => .ok () m | some _ => .bad)
    | none => .bad : M Unit) m) Q E) : Q () m ∧ ∃ fs, insF C x m = some fs ∧ fs.lookup mt = none := by
  cases c1 : insF C x m with
  | none => simp only [c1] at h; exact h.elim
  | some fs =>
    simp only [c1] at h
    cases c2 : fs.lookup mt with
    | some d => simp only [c2] at h; exact h.elim
    | none => simp only [c2] at h; exact ⟨h, fs, rfl, c2⟩
theorem e_meth {C : Nat} {pl : Sem Bool} (ho : PE X o (dnE ⟨X.K, T⟩ W mo)) (c : Cls X.K (T C)) (hm : Meth X.K (T C) mt f) (G : FM X T k f fd ps F) (hr : Room k X.A) (hb : Binds X.K fd ps ds) (hd : Vals dvs ds) (hdd : DfD ⟨X.K, T⟩ dd dvs) (tk : Takes X W)
    (ha : PA X (e :: es) (dnA ⟨X.K, T⟩ W a))
    (hst : starEach (e :: es) X.env = (false, eval e X.env) :: starEach es X.env := by rfl) (hpl : (backTo pos (starEach es X.env)).any (·.1) = false := by rfl)
    (ht : eval (.Call (.Attribute o mt apos) (e :: es) [] pos) X.env = (do
      let ov ← eval o X.env
      standAt apos.atName
      let (f, first) ← holding [ov] (getMethod ov mt pl)
      callWith pos f first (backTo pos (starEach (e :: es) X.env)) (backToKw pos (keywordEach [] X.env))) := by rfl) :
    PE X (.Call (.Attribute o mt apos) (e :: es) [] pos) (dnE ⟨X.K, T⟩ W (mMeth C mt ps.length F dd mo a)) := by
  refine ⟨fun pins s σ H Q I ⟨l, m, L, sr, q⟩ => ?_⟩
  have q0 : dnE ⟨X.K, T⟩ W mo σ H fun v H1 => ∃ x m1 L1, Ord L L1 H H1 ∧ MR ⟨X.K, T⟩ m1 L1 H1 ∧ DV ⟨X.K, T⟩ L1 H1 x v ∧ (∃ fs, insF C x m1 = some fs ∧ fs.lookup mt = none) ∧
      Wp ((do let xs ← a l; mF ps.length F (x :: (xs ++ dd)) : M D) m1) (QE ⟨X.K, T⟩ L1 H1 Q) (QX ⟨X.K, T⟩ L1 H1 fun c d H' => W c d σ H') :=
    ⟨l, m, L, sr, (Wp.bnd.mp q).mono (fun x m1 q1 v L1 H1 o1 r1 d1 => by
      obtain ⟨q2, hi⟩ := meth_ok (g := ⟨X.K, T⟩) (Wp.bnd.mp q1)
      exact ⟨x, m1, L1, o1, r1, d1, hi, q2.mono (fun _ _ z => z.mono o1) fun _ _ z => z.mono o1⟩) fun _ _ z => z⟩
  refine PySem.W.methodCall_KW (pl := pl) (thn (ho.run pins s σ H _ I q0) fun u s1 ⟨v, H1, I1, rx, x, m1, L1, o1, r1, d1, ⟨fs, c1, c2⟩, q1⟩ => ?_) ht
  obtain ⟨b, dx, gs, e1, e2, t⟩ := insF_ok r1 d1 c1
  subst e1
  obtain rfl : u = Value.ref b := rx
  refine getmeth_ok I1 e2 c hm (t.lk0 c2) ?_
  have q3 : dnA ⟨X.K, T⟩ W a σ H1 fun vs H2 => ∃ xs m2 L2, MR ⟨X.K, T⟩ m2 L2 H2 ∧ DVs ⟨X.K, T⟩ L2 H2 (x :: xs) (.ref b :: vs) ∧ Wp (mF ps.length F (x :: (xs ++ dd)) m2) (QE ⟨X.K, T⟩ L2 H2 Q) (QX ⟨X.K, T⟩ L2 H2 fun c d H' => W c d σ H') :=
    ⟨l, m1, L1, sr.mono r1 o1, (Wp.bnd.mp q1).mono (fun xs m2 q2 vs L2 H2 o2 r2 d2 => ⟨xs, m2, L2, r2, ⟨_, _, rfl, d1.mono o2, d2⟩, Wp.mono q2 (fun _ _ z => z.mono o2) fun _ _ z => z.mono o2⟩) fun _ _ z => z⟩
  refine PySem.W.callWith_K (first := [.ref b]) (h₀ := X.base) I.ok.mod.kin hm.kp (thn (ha.run pos pins s1 σ H1 _ I1 q3) fun us s2 ⟨vs, H2, I2, r, xs, m2, L2, r2, d2, q4⟩ => ⟨I2.kIn, ?_⟩) hst hpl
  exact run_fnM (us := .ref b :: us) (vs := .ref b :: vs) (xs := x :: (xs ++ dd)) G hr hb hd tk I2 (.cons rfl r) r2 (by simpa using d2.app (hdd L2 H2)) q4
theorem e_meth0 {C : Nat} {pl : Sem Bool} (ho : PE X o (dnE ⟨X.K, T⟩ W mo)) (c : Cls X.K (T C)) (hm : Meth X.K (T C) mt f) (G : FM X T k f fd ps F) (hr : Room k X.A) (hb : Binds X.K fd ps ds) (hd : Vals dvs ds) (hdd : DfD ⟨X.K, T⟩ dd dvs) (tk : Takes X W)
    (ht : eval (.Call (.Attribute o mt apos) [] [] pos) X.env = (do
      let ov ← eval o X.env
      standAt apos.atName
      let (f, first) ← holding [ov] (getMethod ov mt pl)
      callWith pos f first (backTo pos (starEach [] X.env)) (backToKw pos (keywordEach [] X.env))) := by rfl) :
    PE X (.Call (.Attribute o mt apos) [] [] pos) (dnE ⟨X.K, T⟩ W (mMeth C mt ps.length F dd mo mNil)) := by
  refine ⟨fun pins s σ H Q I ⟨l, m, L, sr, q⟩ => ?_⟩
  have q0 : dnE ⟨X.K, T⟩ W mo σ H fun v H1 => ∃ x m1 L1, MR ⟨X.K, T⟩ m1 L1 H1 ∧ DV ⟨X.K, T⟩ L1 H1 x v ∧ (∃ fs, insF C x m1 = some fs ∧ fs.lookup mt = none) ∧
      Wp (mF ps.length F (x :: dd) m1) (QE ⟨X.K, T⟩ L1 H1 Q) (QX ⟨X.K, T⟩ L1 H1 fun c d H' => W c d σ H') :=
    ⟨l, m, L, sr, (Wp.bnd.mp q).mono (fun x m1 q1 v L1 H1 o1 r1 d1 => by
      obtain ⟨q2, hi⟩ := meth_ok (g := ⟨X.K, T⟩) (Wp.bnd.mp q1)
      exact ⟨x, m1, L1, r1, d1, hi, Wp.mono (show Wp (mF ps.length F (x :: dd) m1) _ _ from q2) (fun _ _ z => z.mono o1) fun _ _ z => z.mono o1⟩) fun _ _ z => z⟩
  refine PySem.W.methodCall_KW (pl := pl) (thn (ho.run pins s σ H _ I q0) fun u s1 ⟨v, H1, I1, rx, x, m1, L1, r1, d1, ⟨fs, c1, c2⟩, q1⟩ => ?_) ht
  obtain ⟨b, dx, gs, e1, e2, t⟩ := insF_ok r1 d1 c1
  subst e1
  obtain rfl : u = Value.ref b := rx
  refine getmeth_ok I1 e2 c hm (t.lk0 c2) ?_
  exact PySem.W.callWith_K0 (first := [.ref b]) I1.kIn hm.kp (run_fnM (us := [.ref b]) (vs := [.ref b]) (xs := x :: dd) G hr hb hd tk I1 (.cons rfl .nil) r1 ⟨_, _, rfl, d1, hdd L1 H1⟩ q1)
end
end Tw

set_option Elab.async false
set_option linter.all false
set_option maxRecDepth 100000
set_option maxHeartbeats 4000000
/-! Operators on trees. -/
namespace Tw
open PySem PySem.Spec PyProof.Rows L2

def mOpt (o : Option D) : M D := fun m => match o with
  | some d => .ok d m
  | none => .bad
theorem mOpt_nox {o : Option D} {m z m'} : mOpt o m ≠ .exc z m' := by intro e; unfold mOpt at e; cases o <;> cases e
theorem wp_opt {o : Option D} {m : Mem} {Q : D → Mem → Prop} {E : Ex → Mem → Prop} (h : Wp (mOpt o m) Q E) : ∃ d, o = some d ∧ Q d m := by
  cases o with
  | none => exact h.elim
  | some d => exact ⟨d, rfl, h⟩
section
variable {g : Gv} {L : Lm} {H : Hp} {m : Mem} {v : V}
theorem DV.int_ {i : Int} (h : DV g L H (.int i) v) : v = .int i := h
theorem DV.bl_ {i : Bool} (h : DV g L H (.bl i) v) : v = .bl i := h
theorem DV.str_ {i : Str} (h : DV g L H (.str i) v) : v = .str i := h
theorem FT.sq {a : Addr} {vs : List V} (h : FT g L H a vs) : SqT g.K H a vs := by
  rcases h with ⟨h, _⟩ | h
  · exact .inl h
  · exact .inr h
/-- the items of a list | a tuple -/
def lsF (x : D) (m : Mem) : Option (List D) := match x with
  | .lst xs => some xs
  | .ref n => match m.at_ n with
    | some (.lst xs) => some xs
    | _ => none
  | _ => none
theorem lsF_ok {x : D} {xs : List D} (r : MR g m L H) (d : DV g L H x v) (h : lsF x m = some xs) : ∃ a vs, v = .ref a ∧ H a = some (.lst vs) ∧ DVs g L H xs vs := by
  cases x with
  | lst ys => cases h; obtain ⟨a, vs, e, f, t⟩ := d; exact ⟨a, vs, e, f.1, t⟩
  | ref n =>
    have h : (match m.at_ n with
      | some (.lst xs) => some xs
      | _ => none) = some xs := h
    cases c : m.at_ n with
    | none => rw [c] at h; cases h
    | some mo =>
      rw [c] at h
      cases mo with
      | lst ys => cases h; obtain ⟨a, e1, vs, e2, t⟩ := r.obj n _ c; exact ⟨a, vs, d.2 a e1, e2, t⟩
      | _ => cases h
  | _ => cases h
def sqF (x : D) (m : Mem) : Option (List D) := match x with
  | .scr xs => some xs
  | x => lsF x m
theorem sqF_ok {x : D} {xs : List D} (r : MR g m L H) (d : DV g L H x v) (h : sqF x m = some xs) : ∃ a vs, v = .ref a ∧ SqL g.K H a vs ∧ DVs g L H xs vs := by
  by_cases hx : ∃ ys, x = .scr ys
  · obtain ⟨ys, rfl⟩ := hx
    cases h
    obtain ⟨a, vs, e, f, t⟩ := d
    exact ⟨a, vs, e, f.sq, t⟩
  · have h' : lsF x m = some xs := by cases x <;> first | exact h | exact absurd ⟨_, rfl⟩ hx
    obtain ⟨a, vs, e, f, t⟩ := lsF_ok r d h'
    exact ⟨a, vs, e, .inl (.inl f), t⟩
end

/-! ### + - * // % ** and order -/
def dAdd (x y : D) : M D := fun m => match x, y with
  | .int i, .int j => .ok (.int (i + j)) m
  | .str a, .str b => if a.length + b.length ≤ okLen then .ok (.str (a ++ b)) m else .bad
  | .tup xs, .tup ys => if xs.length + ys.length ≤ okLen then .ok (.tup (xs ++ ys)) m else .bad
  | x, y => match lsF x m, lsF y m with
    | some xs, some ys => if xs.length + ys.length ≤ okLen then .ok (.lst (xs ++ ys)) m else .bad
    | _, _ => .bad
def rAddAll (K : PySem.W.Frag) : R2 := rOr (rI0 fun i j => .int (i + j)) (rOr (fun x y H Q => ∃ i j, x = .str i ∧ y = .str j ∧ i.length + j.length ≤ sizeLine ∧ Q (.str (i ++ j)) H) (rOr (rCatA K) rCat))
theorem op_addA {X : Cx} : OpR X (binaryOp .Add) (rAddAll X.K) := op_or op_add (op_or op_add_str (op_or op_catA op_cat))
theorem dAdd_lst {g : Gv} {x y : D} {v u : V} {m : Mem} {L : Lm} {H : Hp} {Q : VK} (r : MR g m L H) (dx : DV g L H x v) (dy : DV g L H y u) (q : Wp (match lsF x m, lsF y m with
    | some xs, some ys => if xs.length + ys.length ≤ okLen then .ok (.lst (xs ++ ys)) m else .bad
    | _, _ => (.bad : Out D)) (QE g L H Q) (fun _ _ => False)) : rAddAll g.K v u H Q := by
  cases c1 : lsF x m with
  | none => simp only [c1] at q; exact q.elim
  | some xs =>
    cases c2 : lsF y m with
    | none => simp only [c1, c2] at q; exact q.elim
    | some ys =>
      simp only [c1, c2] at q
      split at q
      · rename_i hl
        obtain ⟨a, vs, e1, e2, t1⟩ := lsF_ok r dx c1
        obtain ⟨b, us, e3, e4, t2⟩ := lsF_ok r dy c2
        refine .inr (.inr (.inr ⟨a, b, vs, us, e1, e3, e2, e4, by rw [t1.len, t2.len]; exact okLen_le hl, fun p hp => ?_⟩))
        exact (show QE g L H Q (.lst (xs ++ ys)) m from q) _ L _ (Ord.new1 hp) (r.new1 hp) ⟨p, vs ++ us, rfl, ⟨upd_same, r.fresh hp⟩, (t1.app t2).mono (Ord.new1 hp)⟩
      · exact q.elim
theorem DVs.nil_iff {g : Gv} {L : Lm} {H : Hp} {ds : List D} {vs : List V} (h : DVs g L H ds vs) : vs = [] ↔ ds = [] := by
  have e := h.len
  constructor
  · intro z; subst z; exact List.length_eq_zero_iff.mp e.symm
  · intro z; subst z; exact List.length_eq_zero_iff.mp e
theorem rf_add {g : Gv} : RF g (rAddAll g.K) dAdd := by
  intro x y v u m L H Q r dx dy q
  unfold dAdd at q
  split at q
  · rename_i i j
    exact .inl ⟨i, j, dx, dy, q _ L H Ord.refl r rfl⟩
  · rename_i i j
    split at q
    · rename_i hl
      exact .inr (.inl ⟨i, j, dx, dy, okLen_le hl, q _ L H Ord.refl r rfl⟩)
    · exact q.elim
  · rename_i xs ys
    split at q
    · rename_i hl
      obtain ⟨a, vs, e1, f1, t1⟩ := id dx
      obtain ⟨b, us, e2, f2, t2⟩ := id dy
      refine .inr (.inr (.inl ⟨a, b, vs, us, e1, e2, f1.sq, f2.sq, by rw [t1.len, t2.len]; exact okLen_le hl, fun z => ?_, fun _ z => ?_, fun _ _ p hp => ?_⟩))
      · rw [t1.nil_iff.mp z] at q
        exact e2 ▸ q u L H Ord.refl r dy
      · rw [t2.nil_iff.mp z, List.append_nil] at q
        exact e1 ▸ q v L H Ord.refl r dx
      · exact q _ L _ (Ord.new1 hp) (r.new1 hp) ⟨p, vs ++ us, rfl, .inl ⟨.inl upd_same, r.fresh hp⟩, (t1.app t2).mono (Ord.new1 hp)⟩
    · exact q.elim
  · exact dAdd_lst r dx dy q
theorem nox_of {f : D → D → M D} (h : ∀ x y m, (∃ d m', f x y m = .ok d m') ∨ f x y m = .bad) : NoX f := fun x y m z m' e => by
  rcases h x y m with ⟨d, m2, q⟩ | q
  · rw [q] at e; cases e
  · rw [q] at e; cases e
theorem nox_add : NoX dAdd := by
  intro x y m z m' e
  unfold dAdd at e
  split at e
  · cases e
  · split at e <;> cases e
  · split at e <;> cases e
  · split at e
    · split at e <;> cases e
    · cases e
/-- two ints -/
def dII (f : Int → Int → Option D) (x y : D) : M D := match x, y with
  | .int i, .int j => mOpt (f i j)
  | _, _ => bad
theorem nox_ii {f : Int → Int → Option D} : NoX (dII f) := by
  intro x y m z m' e
  unfold dII at e
  split at e
  · exact mOpt_nox e
  · cases e
theorem rf_ii {g : Gv} {f : Int → Int → Option D} {r : R2} (h : ∀ i j d v H Q, f i j = some d → (∀ L, DV g L H d v) → Q v H → (∀ v', (∀ L, DV g L H d v') → v' = v) → r (.int i) (.int j) H Q) (hv : ∀ i j d, f i j = some d → ∃ v, (∀ L H, DV g L H d v) ∧ ∀ v' L H, DV g L H d v' → v' = v) : RF g r (dII f) := by
  intro x y v u m L H Q mr dx dy q
  unfold dII at q
  split at q
  · rename_i i j
    obtain ⟨d, hd, q⟩ := wp_opt q
    obtain ⟨w, hw, hu⟩ := hv i j d hd
    rw [show v = .int i from dx, show u = .int j from dy]
    exact h i j d w H Q hd (fun L => hw L H) (q w L H Ord.refl mr (hw L H)) fun v' hv' => hu v' L H (hv' L)
  · exact q.elim
theorem vInt {g : Gv} (i : Int) : ∃ v, (∀ L H, DV g L H (.int i) v) ∧ ∀ v' L H, DV g L H (.int i) v' → v' = v := ⟨.int i, fun _ _ => rfl, fun _ _ _ h => h⟩
theorem vBl {g : Gv} (i : Bool) : ∃ v, (∀ L H, DV g L H (.bl i) v) ∧ ∀ v' L H, DV g L H (.bl i) v' → v' = v := ⟨.bl i, fun _ _ => rfl, fun _ _ _ h => h⟩
theorem rf_int {g : Gv} {C : Int → Int → Prop} [∀ i j, Decidable (C i j)] {f : Int → Int → Int} : RF g (rI C fun i j => .int (f i j)) (dII fun i j => if C i j then some (.int (f i j)) else none) := by
  intro x y v u m L H Q mr dx dy q
  unfold dII at q
  split at q
  · rename_i i j
    obtain ⟨d, hd, q⟩ := wp_opt q
    have hd : (if C i j then some (D.int (f i j)) else none) = some d := hd
    split at hd
    · rename_i hc
      cases hd
      exact ⟨i, j, dx, dy, hc, q _ L H Ord.refl mr rfl⟩
    · cases hd
  · exact q.elim
theorem rf_int0 {g : Gv} {f : Int → Int → Int} : RF g (rI0 fun i j => .int (f i j)) (dII fun i j => some (.int (f i j))) := by
  intro x y v u m L H Q mr dx dy q
  unfold dII at q
  split at q
  · rename_i i j
    exact ⟨i, j, dx, dy, q _ L H Ord.refl mr rfl⟩
  · exact q.elim
theorem rf_bool0 {g : Gv} {f : Int → Int → Bool} : RF g (rI0 fun i j => .bl (f i j)) (dII fun i j => some (.bl (f i j))) := by
  intro x y v u m L H Q mr dx dy q
  unfold dII at q
  split at q
  · rename_i i j
    exact ⟨i, j, dx, dy, q _ L H Ord.refl mr rfl⟩
  · exact q.elim
abbrev dSub : D → D → M D := dII fun i j => some (.int (i - j))
instance (i j : Int) : Decidable (CMul i j) := by unfold CMul; infer_instance
instance (i j : Int) : Decidable (CDivN i j) := by unfold CDivN; infer_instance
instance (i j : Int) : Decidable (CPow i j) := by unfold CPow; infer_instance
abbrev dMul : D → D → M D := dII fun i j => if CMul i j then some (.int (i * j)) else none
abbrev dDiv : D → D → M D := dII fun i j => if CDivN i j then some (.int (i.fdiv j)) else none
abbrev dMod : D → D → M D := dII fun i j => if j ≠ 0 then some (.int (i.fmod j)) else none
abbrev dPow : D → D → M D := dII fun i j => if CPow i j then some (.int (i ^ j.toNat)) else none
abbrev dLt : D → D → M D := dII fun i j => some (.bl (decide (i < j)))
abbrev dLe : D → D → M D := dII fun i j => some (.bl (decide (i ≤ j)))
abbrev dGt : D → D → M D := dII fun i j => some (.bl (decide (j < i)))
abbrev dGe : D → D → M D := dII fun i j => some (.bl (decide (j ≤ i)))

/-! ### == != in -/
mutual
def pyD : D → Option PyData
  | .non => some .none
  | .bl b => some (.bool b)
  | .int i => some (.int i)
  | .str x => some (.str x)
  | .tup xs => (pyDs xs).map .tuple
  | .lst xs => (pyDs xs).map .list
  | _ => none
def pyDs : List D → Option (List PyData)
  | [] => some []
  | d :: ds => match pyD d, pyDs ds with
    | some x, some xs => some (x :: xs)
    | _, _ => none
end
def pyT (x : D) (m : Mem) : Option PyData := match x with
  | .ref n => match m.at_ n with
    | some (.lst xs) => (pyDs xs).map .list
    | _ => none
  | x => pyD x
mutual
theorem pyD_ok {g : Gv} {L : Lm} {H : Hp} : ∀ {x : D} {v : V} {d : PyData}, DV g L H x v → pyD x = some d → Dp g.K H v d
  | .non, _, _, h, e => by cases e; rw [show _ = V.non from h]; exact .non
  | .bl b, _, _, h, e => by cases e; rw [show _ = V.bl b from h]; exact .bl b
  | .int b, _, _, h, e => by cases e; rw [show _ = V.int b from h]; exact .int b
  | .str b, _, _, h, e => by cases e; rw [show _ = V.str b from h]; exact .str b
  | .tup xs, v, d, h, e => by
    obtain ⟨a, vs, e1, f, t⟩ := h
    subst e1
    have e : (pyDs xs).map PyData.tuple = some d := e
    cases c : pyDs xs with
    | none => rw [c] at e; cases e
    | some ds => rw [c] at e; cases e; exact .tup f.sq (pyDs_ok t c)
  | .lst xs, v, d, h, e => by
    obtain ⟨a, vs, e1, f, t⟩ := h
    subst e1
    have e : (pyDs xs).map PyData.list = some d := e
    cases c : pyDs xs with
    | none => rw [c] at e; cases e
    | some ds => rw [c] at e; cases e; exact .lst (.inl (.inl f.1)) (pyDs_ok t c)
  | .scr _, _, _, _, e => by cases e
  | .ty _, _, _, _, e => by cases e
  | .obj _, _, _, _, e => by cases e
  | .ins _ _, _, _, _, e => by cases e
  | .ref _, _, _, _, e => by cases e
  | .clo _ _, _, _, _, e => by cases e
theorem pyDs_ok {g : Gv} {L : Lm} {H : Hp} : ∀ {xs : List D} {vs : List V} {ds : List PyData}, DVs g L H xs vs → pyDs xs = some ds → DpAll g.K H vs ds
  | [], _, _, h, e => by cases e; rw [show _ = [] from h]; exact .nil
  | x :: xs, _, ds, ⟨v, r, e1, h1, h2⟩, e => by
    subst e1
    unfold pyDs at e
    cases c1 : pyD x with
    | none => rw [c1] at e; cases e
    | some y =>
      cases c2 : pyDs xs with
      | none => rw [c1, c2] at e; cases e
      | some ys => rw [c1, c2] at e; cases e; exact .cons (pyD_ok h1 c1) (pyDs_ok h2 c2)
end
theorem pyT_ok {g : Gv} {L : Lm} {H : Hp} {m : Mem} {x : D} {v : V} {d : PyData} (r : MR g m L H) (h : DV g L H x v) (e : pyT x m = some d) : Dp g.K H v d := by
  by_cases hx : ∃ n, x = .ref n
  · obtain ⟨n, rfl⟩ := hx
    have e : (match m.at_ n with
      | some (.lst xs) => (pyDs xs).map PyData.list
      | _ => none) = some d := e
    cases c : m.at_ n with
    | none => rw [c] at e; cases e
    | some mo =>
      rw [c] at e
      cases mo with
      | lst ys =>
        obtain ⟨a, e1, vs, e2, t⟩ := r.obj n _ c
        have e : (pyDs ys).map PyData.list = some d := e
        cases c2 : pyDs ys with
        | none => rw [c2] at e; cases e
        | some ds => rw [c2] at e; cases e; rw [h.2 a e1]; exact .lst (.inl (.inl e2)) (pyDs_ok t c2)
      | _ => cases e
  · have e' : pyD x = some d := by cases x <;> first | exact e | exact absurd ⟨_, rfl⟩ hx
    exact pyD_ok h e'
def dCmp (neg : Bool) (x y : D) : M D := fun m => match pyT x m, pyT y m with
  | some a, some b => if SeqAt.shaped a && SeqAt.shaped b then .ok (.bl (if neg then !PyData.eqv a b else PyData.eqv a b)) m else .bad
  | _, _ => .bad
abbrev dEq := dCmp false
abbrev dNe := dCmp true
theorem cmp_cases {n : Bool} {x y : D} {m : Mem} {Q : D → Mem → Prop} {E : Ex → Mem → Prop} (q : Wp (dCmp n x y m) Q E) : ∃ a b, pyT x m = some a ∧ pyT y m = some b ∧ SeqAt.shaped a = true ∧ SeqAt.shaped b = true ∧ Q (.bl (if n then !PyData.eqv a b else PyData.eqv a b)) m := by
  unfold dCmp at q
  cases c1 : pyT x m with
  | none => simp only [c1] at q; exact q.elim
  | some a =>
    cases c2 : pyT y m with
    | none => simp only [c1, c2] at q; exact q.elim
    | some b =>
      simp only [c1, c2] at q
      by_cases hs : (SeqAt.shaped a && SeqAt.shaped b) = true
      · rw [if_pos hs] at q
        obtain ⟨h1, h2⟩ := Bool.and_eq_true_iff.mp hs
        exact ⟨a, b, rfl, rfl, h1, h2, q⟩
      · rw [if_neg hs] at q; exact q.elim
theorem nox_cmp {n : Bool} : NoX (dCmp n) := by
  intro x y m z m' e
  unfold dCmp at e
  cases c1 : pyT x m with
  | none => simp only [c1] at e; cases e
  | some a =>
    cases c2 : pyT y m with
    | none => simp only [c1, c2] at e; cases e
    | some b =>
      simp only [c1, c2] at e
      split at e <;> cases e
theorem rf_eq {g : Gv} : RF g (rEqD g.K) dEq := by
  intro x y v u m L H Q r dx dy q
  obtain ⟨a, b, c1, c2, h1, h2, q⟩ := cmp_cases q
  exact ⟨a, b, pyT_ok r dx c1, pyT_ok r dy c2, h1, h2, q _ L H Ord.refl r rfl⟩
theorem rf_ne {g : Gv} : RF g (rNeD g.K) dNe := by
  intro x y v u m L H Q r dx dy q
  obtain ⟨a, b, c1, c2, h1, h2, q⟩ := cmp_cases q
  exact ⟨a, b, pyT_ok r dx c1, pyT_ok r dy c2, h1, h2, q _ L H Ord.refl r rfl⟩
/-- is None, is not None (the right side written) -/
def isN : D → Option Bool
  | .non => some true
  | .ref _ => none
  | _ => some false
def dIsN (neg : Bool) (x y : D) : M D := match isN x, y with
  | some b, .non => pure (.bl (if neg then !b else b))
  | _, _ => bad
theorem nox_isN {n : Bool} : NoX (dIsN n) := by
  intro x y m z m' e
  unfold dIsN at e
  cases c : isN x with
  | none => simp only [c] at e; cases e
  | some b =>
    simp only [c] at e
    cases y <;> cases e
theorem isN_ok {g : Gv} {L : Lm} {H : Hp} {x : D} {v : V} {b : Bool} (h : DV g L H x v) (e : isN x = some b) : decide (v = .non) = b := by
  cases x with
  | non => cases e; rw [show v = .non from h]; rfl
  | bl c => cases e; rw [show v = .bl c from h]; rfl
  | int c => cases e; rw [show v = .int c from h]; rfl
  | str c => cases e; rw [show v = .str c from h]; exact decide_eq_false (fun z => by cases z)
  | ty c => cases e; rw [show v = .ty c from h]; exact decide_eq_false (fun z => by cases z)
  | obj c => cases e; rw [show v = .ref _ from h]; exact decide_eq_false (fun z => by cases z)
  | tup c => cases e; obtain ⟨a, vs, e, _⟩ := h; rw [e]; exact decide_eq_false (fun z => by cases z)
  | lst c => cases e; obtain ⟨a, vs, e, _⟩ := h; rw [e]; exact decide_eq_false (fun z => by cases z)
  | scr c => cases e; obtain ⟨a, vs, e, _⟩ := h; rw [e]; exact decide_eq_false (fun z => by cases z)
  | ins c fs => cases e; obtain ⟨a, dx, vs, e, _⟩ := h; rw [e]; exact decide_eq_false (fun z => by cases z)
  | ref n => cases e
  | clo i n => cases e; obtain ⟨_, f, c, e, _⟩ := h; rw [e]; exact decide_eq_false (fun z => by cases z)
  | exn c fs => cases e; obtain ⟨a, o, gs, e, _⟩ := h; rw [e]; exact decide_eq_false (fun z => by cases z)
theorem isN_cases {n : Bool} {x y : D} {m : Mem} {Q : D → Mem → Prop} {E : Ex → Mem → Prop} (q : Wp (dIsN n x y m) Q E) : ∃ b, isN x = some b ∧ y = .non ∧ Q (.bl (if n then !b else b)) m := by
  unfold dIsN at q
  cases c : isN x with
  | none => simp only [c] at q; exact q.elim
  | some b =>
    simp only [c] at q
    cases y with
    | non => exact ⟨b, rfl, rfl, q⟩
    | _ => exact q.elim
theorem rf_isN {g : Gv} : RF g (fun x y H Q => y = .non ∧ Q (.bl (decide (x = .non))) H) (dIsN false) := by
  intro x y v u m L H Q r dx dy q
  obtain ⟨b, c, rfl, q2⟩ := isN_cases q
  exact ⟨dy, by rw [isN_ok dx c]; exact q2 _ L H Ord.refl r rfl⟩
theorem rf_notN {g : Gv} : RF g (fun x y H Q => y = .non ∧ Q (.bl (!decide (x = .non))) H) (dIsN true) := by
  intro x y v u m L H Q r dx dy q
  obtain ⟨b, c, rfl, q2⟩ := isN_cases q
  exact ⟨dy, by rw [isN_ok dx c]; exact q2 _ L H Ord.refl r rfl⟩

/-! ### items, slices -/
theorem DVs.atI {g : Gv} {L : Lm} {H : Hp} {ds : List D} {vs : List V} {i : Int} {d : D} (h : DVs g L H ds vs) (e : L2.atI ds i = some d) : ∃ v, L2.atI vs i = some v ∧ DV g L H d v := by
  unfold L2.atI at e ⊢
  rw [h.len]
  cases c : ixN ds.length i with
  | none => rw [c] at e; cases e
  | some j => rw [c] at e; exact h.get e
/-- x[i] of a list, a tuple, a text -/
def dIx (x y : D) : M D := fun m => match y with
  | .int i => match x with
    | .tup xs => mOpt (L2.atI xs i) m
    | .str z => if z.length ≤ okLen then mOpt ((L2.atI z.cps.toList i).map fun c => .str ⟨#[c]⟩) m else .bad
    | x => match sqF x m with
      | some xs => mOpt (L2.atI xs i) m
      | none => .bad
  | _ => .bad
theorem nox_ix : NoX dIx := by
  intro x y m z m' e
  unfold dIx at e
  cases y with
  | int i =>
    cases x with
    | tup xs => exact mOpt_nox e
    | str z =>
      have e : (if z.length ≤ okLen then mOpt ((L2.atI z.cps.toList i).map fun c => .str ⟨#[c]⟩) m else .bad) = Out.exc _ m' := e
      split at e
      · exact mOpt_nox e
      · cases e
    | _ =>
      dsimp only at e
      split at e
      · exact mOpt_nox e
      · cases e
  | _ => cases e
theorem dIx_seq {g : Gv} {x : D} {v : V} {i : Int} {m : Mem} {L : Lm} {H : Hp} {Q : VK} (r : MR g m L H) (dx : DV g L H x v) (q : Wp (match sqF x m with
      | some xs => mOpt (L2.atI xs i) m
      | none => (.bad : Out D)) (QE g L H Q) (fun _ _ => False)) : rIxL g.K v (.int i) H Q := by
  cases c : sqF x m with
  | none => simp only [c] at q; exact q.elim
  | some xs =>
    simp only [c] at q
    obtain ⟨d, hd, q⟩ := wp_opt q
    obtain ⟨a, vs, e, f, t⟩ := sqF_ok r dx c
    obtain ⟨w, h1, h2⟩ := t.atI hd
    exact ⟨a, vs, i, w, e, rfl, f, h1, q w L H Ord.refl r h2⟩
theorem rf_ix {g : Gv} : RF g (rIx g.K) dIx := by
  intro x y v u m L H Q r dx dy q
  unfold dIx at q
  cases y with
  | int i =>
    rw [show u = .int i from dy]
    cases x with
    | tup xs =>
      obtain ⟨d, hd, q⟩ := wp_opt q
      obtain ⟨a, vs, e, f, t⟩ := dx
      obtain ⟨w, h1, h2⟩ := t.atI hd
      exact .inr (.inl ⟨a, vs, i, w, e, rfl, f.sq, h1, q w L H Ord.refl r h2⟩)
    | str z =>
      have q : Wp (if z.length ≤ okLen then mOpt ((L2.atI z.cps.toList i).map fun c => .str ⟨#[c]⟩) m else .bad) (QE g L H Q) (fun _ _ => False) := q
      by_cases hz : z.length ≤ okLen
      · rw [if_pos hz] at q
        obtain ⟨d, hd, q⟩ := wp_opt q
        cases c : L2.atI z.cps.toList i with
        | none => rw [c] at hd; cases hd
        | some k =>
          rw [c] at hd; cases hd
          exact .inr (.inr ⟨z, i, k, dx, rfl, okLen_le hz, c, q _ L H Ord.refl r rfl⟩)
      · rw [if_neg hz] at q; exact q.elim
    | _ => exact .inl (dIx_seq r dx q)
  | _ => exact q.elim
section
variable {X : Cx} {W : WX} {T : Gw}
theorem e_ix {a b : Expr} {ma mb : Loc → M D} {pos : Pos} (ha : PE X a (dnE ⟨X.K, T⟩ W ma)) (hb : PE X b (dnE ⟨X.K, T⟩ W mb)) (hs : PlainIx b) : PE X (.Subscript a b pos) (dnE ⟨X.K, T⟩ W (mBin dIx ma mb)) :=
  pe_imp (pe_ix ix_seq ha hb hs) fun σ H Q h => dn_bin (g := ⟨X.K, T⟩) rf_ix nox_ix h
end
end Tw

set_option Elab.async false
set_option linter.all false
set_option maxRecDepth 100000
set_option maxHeartbeats 4000000
/-! Making instances, storing fields; targets, loops, comprehensions. -/
namespace Tw
open PySem PySem.Spec PyProof.Rows L2

/-! ### C(..) -/
def mMk (C : Nat) (n : Nat) (F : List D → M D) (xs : List D) : M D := do
  let x ← dNew (.ins C [])
  match ← mF n F (x :: xs) with
  | .non => pure x
  | _ => bad
section
variable {X : Cx} {W : WX} {T : Gw} {k n : Nat} {f : Addr} {fd : FuncData} {ps : List Str} {F : List D → M D} {x mt : Str} {p pos apos : Pos} {e o : Expr} {es : List Expr} {a : Loc → M (List D)} {mo : Loc → M D} {dd : List D} {dvs : List V} {ds : List Value}
theorem run_makeM {C : Nat} {pins : List (Addr × Obj)} {σ : Sg} {H : Hp} {s : Shared} {Q : VK} {us : List Value} {vs : List V} {m : Mem} {L : Lm} {xs : List D} (Mk0 : Mk X.K (T C) f) (G : FM X T k f fd ps F) (hr : Room (k + 1) X.A) (hb : Binds X.K fd ps ds) (hd : Vals dvs ds) (tk : Takes X W)
    (I : Inv X pins σ H s) (r : Vals vs us) (mr : MR ⟨X.K, T⟩ m L H) (dv : DVs ⟨X.K, T⟩ L H xs (vs ++ dvs)) (q : Wp (mMk C ps.length F xs m) (QE ⟨X.K, T⟩ L H Q) (QX ⟨X.K, T⟩ L H fun c d H' => W c d σ H')) : wpAny (model X.prog X.w) X.A (call (.ref (T C)) us) (EP X pins σ Q) X.xe s := by
  have hx : H (s.heap.objs.size + 1) = none := I.hok.fresh (Nat.le_succ _)
  have hdx : H s.heap.objs.size = none := I.hok.fresh (Nat.le_refl _)
  have ne : s.heap.objs.size + 1 ≠ s.heap.objs.size := Nat.succ_ne_self _
  have hx1 : upd H s.heap.objs.size (.own (s.heap.objs.size + 1)) (s.heap.objs.size + 1) = none := by rw [upd_ne ne]; exact hx
  have mr1 : MR ⟨X.K, T⟩ m L (upd H s.heap.objs.size (.own (s.heap.objs.size + 1))) := mr.new1 hdx
  have o1 : Ord L L H (upd H s.heap.objs.size (.own (s.heap.objs.size + 1))) := Ord.new1 hdx
  have o2 := Ord.add (o := .ins (T C) s.heap.objs.size []) hx1 mr1
  have mr2 : MR ⟨X.K, T⟩ (m.add (.ins C [])) (L.add (s.heap.objs.size + 1)) _ := mr1.add (o := .ins (T C) s.heap.objs.size []) hx1 ⟨_, [], upd_same, rfl⟩
  have od := o1.trans o2
  have I2 := Inv.made (C := T C) I
  have r2 : Vals (V.ref (s.heap.objs.size + 1) :: (vs ++ dvs)) (Value.ref (s.heap.objs.size + 1) :: (us ++ ds)) := .cons rfl (r.append hd)
  have dref : ∀ {L' : Lm} {H' H0 : Hp}, Ord (L.add (s.heap.objs.size + 1)) L' H0 H' → DV ⟨X.K, T⟩ L' H' (.ref m.nxt) (.ref (s.heap.objs.size + 1)) := fun {L' H' H0} o => ⟨Nat.lt_of_lt_of_le (by show m.nxt < L.nxt + 1; rw [mr.nx]; exact Nat.lt_succ_self _) o.nx, fun b e => by
    rcases o.old m.nxt (by show m.nxt < L.nxt + 1; rw [mr.nx]; exact Nat.lt_succ_self _) with z | z
    · rw [z, mr.nx, Lm.add_new] at e; cases e; rfl
    · rw [z] at e; cases e⟩
  have q := Wp.bnd.mp q
  have q : Wp ((mF ps.length F (.ref m.nxt :: xs) >>= fun r => match r with | .non => (pure (.ref m.nxt) : M D) | _ => bad) (m.add (.ins C []))) (QE ⟨X.K, T⟩ L H Q) (QX ⟨X.K, T⟩ L H fun c d H' => W c d σ H') := q
  have q := Wp.bnd.mp q
  unfold mF at q
  split at q
  · rename_i hn
    have hl : (V.ref (s.heap.objs.size + 1) :: (vs ++ dvs)).length = ps.length := by rw [List.length_cons, dv.len, ← hn, List.length_cons]
    have sp : spM ⟨X.K, T⟩ ps.length F (V.ref (s.heap.objs.size + 1) :: (vs ++ dvs)) (upd (upd H s.heap.objs.size (.own (s.heap.objs.size + 1))) (s.heap.objs.size + 1) (.ins (T C) s.heap.objs.size [])) (fun v H2 => v = .non ∧ Q (.ref (s.heap.objs.size + 1)) H2) (WE W σ) := by
      refine ⟨.ref m.nxt :: xs, _, _, mr2, ⟨_, _, rfl, dref Ord.refl, dv.mono od⟩, hn, Wp.mono q (fun d m1 q1 v L1 H1 o3 r3 d3 => ?_) fun _ _ z => z.mono od⟩
      cases d with
      | non => exact ⟨d3, (show QE _ L H Q (.ref m.nxt) m1 from q1) _ L1 H1 (od.trans o3) r3 (dref o3)⟩
      | _ => exact q1.elim
    refine wpAny_call (make_map (f := f) I.kIn Mk0.makes Mk0.init (beq_iff_eq.mp Mk0.fn) (codeAny_mono (G.run _ X.stack _ _ ⟨Value.ref (s.heap.objs.size + 1) :: us, []⟩ (Value.ref (s.heap.objs.size + 1) :: (us ++ ds)) _ _ (WE W σ) (hr.make (T C) us [])
      (I2.env0.make (T C) us []) (hb _ (Value.ref (s.heap.objs.size + 1) :: us) I2.kIn (by rw [← hl, r2.length]; rfl)) r2 sp) fun r s' hq' => ?_))
    cases r with
    | error e => exact passAt tk σ pins _ _ e s' I2 hq'
    | ok fl =>
      cases fl with
      | ret u =>
        obtain ⟨v, H', I3, rv, ev, q3⟩ := I2.after hq'
        subst ev
        exact ⟨rv, ⟨V.ref (s.heap.objs.size + 1), H', I3, rfl, q3⟩⟩
      | next => exact False.elim hq'
      | brk => exact False.elim hq'
      | cont => exact False.elim hq'
  · exact q.elim
def mMake (C n : Nat) (F : List D → M D) (dd : List D) (a : Loc → M (List D)) : Loc → M D := fun l => do mMk C n F ((← a l) ++ dd)
theorem e_make {C : Nat} (Mk0 : Mk X.K (T C) f) (G : FM X T k f fd ps F) (hr : Room (k + 1) X.A) (hg : Gl X x) (hm : X.mg x = some (.ref (T C))) (hb : Binds X.K fd ps ds) (hd : Vals dvs ds) (hdd : DfD ⟨X.K, T⟩ dd dvs) (tk : Takes X W)
    (ha : PA X (e :: es) (dnA ⟨X.K, T⟩ W a)) (hdb : (x == ("__debug__" : Str)) = false := by decide) (he : starEach (e :: es) X.env = (false, eval e X.env) :: starEach es X.env := by rfl) (hpl : (backTo pos (starEach es X.env)).any (·.1) = false := by rfl) :
    PE X (.Call (.Name x p) (e :: es) [] pos) (dnE ⟨X.K, T⟩ W (mMake C ps.length F dd a)) := by
  refine ⟨fun pins s σ H Q I h => ?_⟩
  refine wpAny_Call_Name_kw (ld_glob I hg hm ?_ hdb)
  refine PySem.W.callWith_K (h₀ := X.base) I.ok.mod.kin Mk0.kp (thn (ha.run pos pins s σ H _ I (dn_args (F' := fun xs => mMk C ps.length F (xs ++ dd)) h)) fun us s1 ⟨vs, H1, I1, r, q⟩ => ⟨I1.kIn, ?_⟩) he hpl
  obtain ⟨xs, m1, L1, r1, d1, q1⟩ := q
  exact run_makeM Mk0 G hr hb hd tk I1 r r1 (d1.app (hdd L1 H1)) q1

/-! ### o.f = e, o.f op= e -/
def putFD (f : Str) (v : D) : List (Str × D) → List (Str × D)
  | [] => [(f, v)]
  | (g, x) :: r => if g = f then (g, v) :: r else (g, x) :: putFD f v r
theorem DVf.put {g : Gv} {L : Lm} {H : Hp} {f : Str} {d : D} {v : V} (h : DV g L H d v) : ∀ {fs : List (Str × D)} {gs : List (Str × V)}, DVf g L H fs gs → DVf g L H (putFD f d fs) (putF f v gs)
  | [], _, e => by rw [show _ = [] from e]; exact ⟨v, [], rfl, h, rfl⟩
  | (n, x) :: fs, _, ⟨w, r, e, q, t⟩ => by
    subst e
    show DVf g L H (if n = f then (n, d) :: fs else (n, x) :: putFD f d fs) (if n = f then (n, v) :: r else (n, w) :: putF f v r)
    by_cases c : n = f
    · rw [if_pos c, if_pos c]; exact ⟨v, r, rfl, h, t⟩
    · rw [if_neg c, if_neg c]; exact ⟨w, _, rfl, q, DVf.put h t⟩
theorem DVf.len {g : Gv} {L : Lm} {H : Hp} : ∀ {fs : List (Str × D)} {gs : List (Str × V)}, DVf g L H fs gs → gs.length = fs.length
  | [], _, e => by rw [show _ = [] from e]; rfl
  | _ :: fs, _, ⟨w, r, e, _, t⟩ => by subst e; rw [List.length_cons, List.length_cons, DVf.len t]
def dSetF (C : Nat) (f : Str) (x y : D) : M Unit := fun m => match x with
  | .ref n => match m.at_ n with
    | some (.ins C' fs) => if C' = C ∧ fs.length < 1000 then .ok () (m.put n (.ins C (putFD f y fs))) else .bad
    | _ => .bad
  | _ => .bad
theorem setF_ok {g : Gv} {C : Nat} {f : Str} {x y : D} {v u : V} {m : Mem} {L : Lm} {H : Hp} {Q : Unit → Mem → Prop} {E : Ex → Mem → Prop} (r : MR g m L H) (dx : DV g L H x v) (dy : DV g L H y u) (q : Wp (dSetF C f x y m) Q E) :
    ∃ a dx gs m', v = .ref a ∧ H a = some (.ins (g.T C) dx gs) ∧ gs.length < 1000 ∧ Q () m' ∧ MR g m' L (upd H a (.ins (g.T C) dx (putF f u gs))) ∧ Ord L L H (upd H a (.ins (g.T C) dx (putF f u gs))) := by
  cases x with
  | ref n =>
    have q : Wp (match m.at_ n with
      | some (.ins C' fs) => if C' = C ∧ fs.length < 1000 then .ok () (m.put n (.ins C (putFD f y fs))) else .bad
      | _ => (.bad : Out Unit)) Q E := q
    cases c : m.at_ n with
    | none => rw [c] at q; exact q.elim
    | some mo =>
      rw [c] at q
      cases mo with
      | ins C' fs =>
        have q : Wp (if C' = C ∧ fs.length < 1000 then .ok () (m.put n (.ins C (putFD f y fs))) else (.bad : Out Unit)) Q E := q
        by_cases hc : C' = C ∧ fs.length < 1000
        · rw [if_pos hc] at q
          obtain ⟨hc, hl⟩ := hc
          subst hc
          obtain ⟨a, e1, dd, gs, e2, t⟩ := r.obj n _ c
          have od : Ord L L H (upd H a (.ins (g.T C') dd (putF f u gs))) := Ord.put e1 e2
          exact ⟨a, dd, gs, _, dx.2 a e1, e2, by rw [t.len]; exact hl, q, r.put c e1 e2 ⟨dd, _, upd_same, DVf.put (dy.mono od) (t.mono od)⟩, od⟩
        · rw [if_neg hc] at q; exact q.elim
      | _ => exact q.elim
  | _ => exact q.elim
def sFldM (C : Nat) (f : Str) (o e : Loc → M D) : Loc → M Fl := fun l => do
  let y ← e l
  let x ← o l
  dSetF C f x y
  return .nx l
theorem s_fld {C : Nat} {f : Str} {value : Expr} {me mo : Loc → M D} {pos'} (ha : PE X o (dnE ⟨X.K, T⟩ W mo)) (hv : PE X value (dnE ⟨X.K, T⟩ W me)) (c : Cls X.K (T C)) (n : NoAttr X.K (T C) f) (hs : swapsWith value (some (.Attribute o f pos')) pos.line X.env = pure false := by rfl) :
    PS X (.Assign [.Attribute o f pos'] value pos) (dnS ⟨X.K, T⟩ W (sFldM C f mo me)) := by
  refine ps_imp (ps_fld ha hv hs) fun D σ H ⟨l, m, L, s, q⟩ => ?_
  refine ⟨l, m, L, s, (Wp.bnd.mp q).mono (fun y m1 q1 u L1 H1 o1 r1 d1 => ?_) fun x m1 q1 c d L1 H1 o1 r1 x1 => q1 c d σ L1 H1 o1 r1 x1⟩
  refine ⟨l, m1, L1, s.mono r1 o1, (Wp.bnd.mp q1).mono (fun x m2 q2 v L2 H2 o2 r2 d2 => ?_) fun x m2 q2 c d L2 H2 o2 r2 x2 => q2 c d σ L2 H2 (o1.trans o2) r2 x2⟩
  obtain ⟨a, dd, gs, m3, e1, e2, hl, q3, r3, o3⟩ := setF_ok (g := ⟨X.K, T⟩) r2 d2 (d1.mono o2) (Wp.bnd.mp q2)
  refine ⟨a, T C, dd, gs, e1, e2, c, n, hl, ?_⟩
  exact (show QS _ L H D (.nx l) m3 from q3) σ L2 _ ((o1.trans o2).trans o3) (s.mono r3 ((o1.trans o2).trans o3))
def sFldAugM (C : Nat) (f : Str) (op : D → D → M D) (o e : Loc → M D) : Loc → M Fl := fun l => do
  let x ← o l
  let z ← dFld C f x
  let y ← e l
  let w ← op z y
  dSetF C f x w
  return .nx l
theorem dFld_ok {g : Gv} {C : Nat} {f : Str} {x : D} {v : V} {m : Mem} {L : Lm} {H : Hp} {Q : D → Mem → Prop} {E : Ex → Mem → Prop} (r : MR g m L H) (dx : DV g L H x v) (q : Wp (dFld C f x m) Q E) : ∃ a dd gs u d, v = .ref a ∧ H a = some (.ins (g.T C) dd gs) ∧ gs.lookup f = some u ∧ DV g L H d u ∧ Q d m := by
  unfold dFld at q
  cases c1 : insF C x m with
  | none => rw [c1] at q; exact q.elim
  | some fs =>
    rw [c1] at q
    obtain ⟨b, dd, gs, e1, e2, t⟩ := insF_ok r dx c1
    cases c2 : fs.lookup f with
    | none => simp only [c2] at q; exact q.elim
    | some d =>
      simp only [c2] at q
      obtain ⟨u, h1, h2⟩ := t.lk c2
      exact ⟨b, dd, gs, u, d, e1, e2, h1, h2, q⟩
theorem s_fldaug {C : Nat} {f : Str} {value : Expr} {me mo : Loc → M D} {tpos} {op : Operator} {rd : V → V → Hp → VK → Prop} {fo : D → D → M D} (ha : PE X o (dnE ⟨X.K, T⟩ W mo)) (hv : PE X value (dnE ⟨X.K, T⟩ W me)) (c : Cls X.K (T C)) (n : NoAttr X.K (T C) f) (hop : InOp X op rd) (hr : RF ⟨X.K, T⟩ rd fo) (hn : NoX fo) :
    PS X (.AugAssign (.Attribute o f tpos) op value pos) (dnS ⟨X.K, T⟩ W (sFldAugM C f fo mo me)) := by
  refine ps_imp (ps_fldaug ha hv hop) fun D σ H ⟨l, m, L, s, q⟩ => ?_
  refine ⟨l, m, L, s, (Wp.bnd.mp q).mono (fun x m1 q1 v L1 H1 o1 r1 d1 => ?_) fun x m1 q1 c d L1 H1 o1 r1 x1 => q1 c d σ L1 H1 o1 r1 x1⟩
  obtain ⟨a, dd, gs, u, z, e1, e2, lk, dz, q2⟩ := dFld_ok (g := ⟨X.K, T⟩) r1 d1 (Wp.bnd.mp q1)
  refine ⟨a, T C, dd, gs, u, e1, e2, c, n, lk, ?_⟩
  refine ⟨l, m1, L1, s.mono r1 o1, (Wp.bnd.mp q2).mono (fun y m2 q3 w L2 H2 o2 r2 d2 => ?_) fun x m2 q2 c d L2 H2 o2 r2 x2 => q2 c d σ L2 H2 (o1.trans o2) r2 x2⟩
  refine hr z y u w m2 L2 H2 _ r2 (dz.mono o2) d2 ((wp_nox (Wp.bnd.mp q3) (hn z y m2)).mono (fun z2 m3 q4 w2 L3 H3 o3 r3 d3 => ?_) fun _ _ z => z)
  obtain ⟨a', dd', gs', m4, e1', e2', hl, q5, r4, o4⟩ := setF_ok (g := ⟨X.K, T⟩) r3 ((d1.mono o2).mono o3) d3 (Wp.bnd.mp q4)
  rw [e1] at e1'; cases e1'
  have od := ((o1.trans o2).trans o3).trans o4
  exact ⟨dd', gs', by
    have : T C = T C := rfl
    exact e2', hl, (show QS _ L H D (.nx l) m4 from q5) σ L3 _ od (s.mono r4 od)⟩

/-! ### targets -/
def dnG (g : Gv) (t : D → Loc → M Loc) : TG := fun v σ H Q => ∃ d l m L, SR g l m L σ H ∧ DV g L H d v ∧ Wp (t d l m) (fun l' m' => ∀ σ' L' H', Ord L L' H H' → SR g l' m' L' σ' H' → Q σ' H') (fun _ _ => False)
theorem pg_imp {tg : Expr} {t t' : TG} (h : PG X tg t) (hi : ∀ v σ H Q, t' v σ H Q → t v σ H Q) : PG X tg t' := ⟨fun pins s σ H v u Q I r q => h.run pins s σ H v u Q I r (hi v σ H Q q)⟩
def tgN (i : Nat) (d : D) (l : Loc) : M Loc := pure (l.set i (some d))
theorem g_name {i : Nat} {tg : Expr} (h : PG X tg (gName i)) : PG X tg (dnG ⟨X.K, T⟩ (tgN i)) :=
  pg_imp h fun v σ H Q ⟨d, l, m, L, s, dv, q⟩ => (show ∀ σ' L' H', Ord L L' H H' → SR _ (l.set i (some d)) m L' σ' H' → Q σ' H' from q) _ L H Ord.refl (s.set dv)
def tgTs : List (D → Loc → M Loc) → List D → Loc → M Loc
  | [], [], l => pure l
  | t :: ts, d :: ds, l => do tgTs ts ds (← t d l)
  | _, _, _ => bad
def dnGs (g : Gv) (t : List D → Loc → M Loc) : TGs := fun vs σ H Q => ∃ ds l m L, SR g l m L σ H ∧ DVs g L H ds vs ∧ Wp (t ds l m) (fun l' m' => ∀ σ' L' H', Ord L L' H H' → SR g l' m' L' σ' H' → Q σ' H') (fun _ _ => False)
theorem pgs_imp {tg : List Expr} {t t' : TGs} (h : PGs X tg t) (hi : ∀ v σ H Q, t' v σ H Q → t v σ H Q) : PGs X tg t' := ⟨fun pins s σ H v u Q I r q => h.run pins s σ H v u Q I r (hi v σ H Q q)⟩
theorem gs_nil : PGs X [] (dnGs ⟨X.K, T⟩ (tgTs [])) := pgs_imp pgs_nil fun vs σ H Q ⟨ds, l, m, L, s, dv, q⟩ => by
  cases ds with
  | nil => exact ⟨dv, (show ∀ σ' L' H', Ord L L' H H' → SR _ l m L' σ' H' → Q σ' H' from q) σ L H Ord.refl s⟩
  | cons => exact q.elim
theorem gs_cons {tg : Expr} {tgs : List Expr} {t : D → Loc → M Loc} {ts : List (D → Loc → M Loc)} (h : PG X tg (dnG ⟨X.K, T⟩ t)) (hs : PGs X tgs (dnGs ⟨X.K, T⟩ (tgTs ts))) (he : (assignEach (tg :: tgs) X.env).map (·.2) = assign tg X.env :: (assignEach tgs X.env).map (·.2) := by rfl) : PGs X (tg :: tgs) (dnGs ⟨X.K, T⟩ (tgTs (t :: ts))) :=
  pgs_imp (pgs_cons h hs he) fun vs σ H Q ⟨ds, l, m, L, s, dv, q⟩ => by
    cases ds with
    | nil => exact q.elim
    | cons d ds =>
      obtain ⟨v, r, e, d1, d2⟩ := dv
      refine ⟨v, r, e, d, l, m, L, s, d1, (Wp.bnd.mp q).mono (fun l1 m1 q1 σ1 L1 H1 o1 s1 => ?_) fun _ _ z => z⟩
      exact ⟨ds, l1, m1, L1, s1, d2.mono o1, Wp.mono q1 (fun l2 m2 q2 σ2 L2 H2 o2 s2 => q2 σ2 L2 H2 (o1.trans o2) s2) fun _ _ z => z⟩
def tgT (ts : List (D → Loc → M Loc)) (d : D) (l : Loc) : M Loc := match d with
  | .tup xs => if xs.length = ts.length then tgTs ts xs l else bad
  | _ => bad
theorem g_tup {es : List Expr} {k : Nat} {ts : List (D → Loc → M Loc)} (hc : X.calm = true) (h : PGs X es (dnGs ⟨X.K, T⟩ (tgTs ts))) (hn : (assignEach es X.env).length = ts.length := by rfl) (hst : (assignEach es X.env).findIdx? (·.1) = none := by rfl) : PG X (.Tuple es k pos) (dnG ⟨X.K, T⟩ (tgT ts)) :=
  pg_imp (pg_tup (n := ts.length) hc h hn hst) fun v σ H Q ⟨d, l, m, L, s, dv, q⟩ => by
    cases d with
    | tup xs =>
      have q : Wp ((if xs.length = ts.length then tgTs ts xs l else bad) m) (fun l' m' => ∀ σ' L' H', Ord L L' H H' → SR _ l' m' L' σ' H' → Q σ' H') (fun _ _ => False) := q
      by_cases hl : xs.length = ts.length
      · rw [if_pos hl] at q
        obtain ⟨a, vs, e, f, t⟩ := dv
        exact ⟨a, vs, e, f.sq, by rw [t.len, hl], xs, l, m, L, s, t, q⟩
      · rw [if_neg hl] at q; exact q.elim
    | _ => exact q.elim
/-- target = value, any target -/
def sAsg (t : D → Loc → M Loc) (e : Loc → M D) : Loc → M Fl := fun l => do return .nx (← t (← e l) l)
theorem s_asg {st : Stmt} {t : D → Loc → M Loc} {e : Loc → M D} (h : PS X st (tAsg (dnE ⟨X.K, T⟩ W e) (dnG ⟨X.K, T⟩ t))) (hn : ∀ d l m z m', t d l m ≠ .exc z m') : PS X st (dnS ⟨X.K, T⟩ W (sAsg t e)) := by
  refine ps_imp h fun D σ H ⟨l, m, L, s, q⟩ => ?_
  refine ⟨l, m, L, s, (Wp.bnd.mp q).mono (fun x m1 q1 v L1 H1 o1 r1 d1 => ?_) fun x m1 q1 c d L1 H1 o1 r1 x1 => q1 c d σ L1 H1 o1 r1 x1⟩
  have q2 := Wp.bnd.mp q1
  refine ⟨x, l, m1, L1, s.mono r1 o1, d1, ?_⟩
  cases c : t x l m1 with
  | ok l' m2 => rw [c] at q2; exact fun σ' L2 H2 o2 s2 => (show QS _ L H D (.nx l') m2 from q2) σ' L2 H2 (o1.trans o2) s2
  | exc z m2 => exact (hn x l m1 z m2 c).elim
  | bad => rw [c] at q2; exact q2.elim
end
end Tw

set_option Elab.async false
set_option linter.all false
set_option maxRecDepth 100000
set_option maxHeartbeats 4000000
/-! Loops, comprehensions, frozen objects. -/
namespace Tw
open PySem PySem.Spec PyProof.Rows L2

/-- what is walked, read anew at each turn -/
abbrev Rd_ := Mem → Option (List D)
def ItOk (g : Gv) (J : It) (L1 : Lm) (H1 : Hp) (rd : Rd_) : Prop := ∀ m' L' H', Ord L1 L' H1 H' → MR g m' L' H' → ∀ xs, rd m' = some xs →
  (∀ i, xs[i]? = none → J.stop i H') ∧ (∀ i d, xs[i]? = some d → J.go i H' ∧ ∀ x H2, J.yld i H' x H2 → ∃ L2, Ord L' L2 H' H2 ∧ MR g m' L2 H2 ∧ DV g L2 H2 d x)
def dnI (g : Gv) (W : WX) (src : Loc → M Rd_) : TI := fun σ H R => ∃ l m L, SR g l m L σ H ∧ Wp (src l m) (fun rd m1 => ∀ L1 H1 J, Ord L L1 H H1 → MR g m1 L1 H1 → ItOk g J L1 H1 rd → R J H1) (QX g L H fun c d H' => W c d σ H')
section
variable {X : Cx} {W : WX} {T : Gw} {tg : Expr}
theorem pi_imp {e : Expr} {t t' : TI} (h : PI X tg e t) (hi : ∀ σ H Q, t' σ H Q → t σ H Q) : PI X tg e t' := ⟨fun pins s σ H Q I q => h.run pins s σ H Q I (hi σ H Q q)⟩
def iOr (a b : TI) : TI := fun σ H R => a σ H R ∨ b σ H R
theorem pi_or {e : Expr} {t t' : TI} (h : PI X tg e t) (h' : PI X tg e t') : PI X tg e (iOr t t') := ⟨fun pins s σ H Q I q => q.elim (h.run pins s σ H Q I) (h'.run pins s σ H Q I)⟩
/-- a list or a tuple -/
def sqI (x : D) : Rd_ := fun m => match x with
  | .tup xs => some xs
  | x => sqF x m
def mSeq (e : Loc → M D) : Loc → M Rd_ := fun l => do
  let x ← e l
  match x with
  | .tup _ => pure (sqI x)
  | _ => (fun m => match sqF x m with | some _ => .ok (sqI x) m | none => .bad : M Rd_)
theorem itok_list {g : Gv} {x : D} {v : V} {a : Addr} {L : Lm} {H : Hp} (d : DV g L H x v) (hv : v = .ref a) (hx : ∀ xs, x ≠ .tup xs) : ItOk g (Itl g.K a) L H (sqI x) := by
  intro m' L' H' o r xs e
  have e : sqF x m' = some xs := by cases x <;> first | exact e | exact absurd rfl (hx _)
  obtain ⟨b, vs, e1, f, t⟩ := sqF_ok r (d.mono o) e
  rw [hv] at e1; cases e1
  refine ⟨fun i h => ⟨vs, f, by rw [t.len]; exact List.getElem?_eq_none_iff.mp h⟩, fun i y h => ?_⟩
  obtain ⟨w, h1, h2⟩ := t.get h
  refine ⟨⟨vs, w, f, h1⟩, fun z H2 ⟨e2, hz⟩ => ?_⟩
  subst e2
  have := hz vs f
  rw [h1] at this; cases this
  exact ⟨L', Ord.refl, r, h2⟩
theorem i_seq {e : Expr} {me : Loc → M D} (h : PE X e (dnE ⟨X.K, T⟩ W me)) : PI X tg e (dnI ⟨X.K, T⟩ W (mSeq me)) := by
  refine pi_imp (pi_or (pi_list h) (pi_tup h)) fun σ H R ⟨l, m, L, s, q⟩ => ?_
  have q := Wp.bnd.mp q
  cases c : me l m with
  | bad => rw [c] at q; exact q.elim
  | exc x m1 => rw [c] at q; exact .inl ⟨l, m, L, s, by rw [c]; exact q⟩
  | ok x m1 =>
    rw [c] at q
    by_cases hx : ∃ xs, x = .tup xs
    · obtain ⟨xs, rfl⟩ := hx
      refine .inr ⟨l, m, L, s, by
        rw [c]
        intro v L1 H1 o1 r1 d1
        obtain ⟨a, vs, e1, f, t⟩ := id d1
        refine ⟨a, e1, ⟨vs, f.sq⟩, ?_⟩
        refine (show ∀ L1 H1 J, Ord L L1 H H1 → MR _ m1 L1 H1 → ItOk _ J L1 H1 (sqI (.tup xs)) → R J H1 from q) L1 H1 _ o1 r1 ?_
        intro m' L' H' o r ys e
        cases e
        obtain ⟨b, ws, e2, f2, t2⟩ := d1.mono o
        rw [e1] at e2; cases e2
        refine ⟨fun i h => ⟨ws, f2.sq, by rw [t2.len]; exact List.getElem?_eq_none_iff.mp h⟩, fun i y h => ?_⟩
        obtain ⟨w, h1, h2⟩ := t2.get h
        refine ⟨⟨ws, w, f2.sq, h1⟩, fun z H2 ⟨e3, hz⟩ => ?_⟩
        subst e3
        have := hz ws f2.sq
        rw [h1] at this; cases this
        exact ⟨L', Ord.refl, r, h2⟩⟩
    · have q : Wp ((fun m => match sqF x m with | some _ => .ok (sqI x) m | none => .bad : M Rd_) m1) (fun rd m1 => ∀ L1 H1 J, Ord L L1 H H1 → MR ⟨X.K, T⟩ m1 L1 H1 → ItOk ⟨X.K, T⟩ J L1 H1 rd → R J H1) (QX ⟨X.K, T⟩ L H fun c d H' => W c d σ H') := by
        cases x <;> first | exact q | exact absurd ⟨_, rfl⟩ hx
      refine .inl ⟨l, m, L, s, by
        rw [c]
        intro v L1 H1 o1 r1 d1
        cases c2 : sqF x m1 with
        | none => simp only [c2] at q; exact q.elim
        | some xs =>
          simp only [c2] at q
          obtain ⟨a, vs, e1, f, t⟩ := sqF_ok r1 d1 c2
          exact ⟨a, e1, ⟨vs, f⟩, (show ∀ L1 H1 J, Ord L L1 H H1 → MR _ m1 L1 H1 → ItOk _ J L1 H1 (sqI x) → R J H1 from q) L1 H1 _ o1 r1 (itok_list d1 e1 fun xs z => hx ⟨xs, z⟩)⟩⟩
/-- range(n), range(a, b) -/
def rgL (lo : Int) (n : Nat) : List D := (List.range n).map fun i => .int (lo + (i : Nat))
def dRng1 (xs : List D) : M Rd_ := match xs with
  | [.int j] => if -(2 ^ 62) ≤ j ∧ j < 2 ^ 62 then pure fun _ => some (rgL 0 j.toNat) else bad
  | _ => bad
def dRng2 (xs : List D) : M Rd_ := match xs with
  | [.int i, .int j] => if -(2 ^ 62) ≤ i ∧ i < 2 ^ 62 ∧ -(2 ^ 62) ≤ j ∧ j < 2 ^ 62 then pure fun _ => some (rgL i (j - i).toNat) else bad
  | _ => bad
def mRng1 (a : Loc → M (List D)) : Loc → M Rd_ := fun l => do dRng1 (← a l)
def mRng2 (a : Loc → M (List D)) : Loc → M Rd_ := fun l => do dRng2 (← a l)
theorem itok_rng {g : Gv} {lo : Int} {n : Nat} {L : Lm} {H : Hp} : ItOk g (Itr lo n) L H (fun _ => some (rgL lo n)) := by
  intro m' L' H' o r xs e
  cases e
  refine ⟨fun i h => ?_, fun i d h => ?_⟩
  · have := List.getElem?_eq_none_iff.mp h
    show n ≤ i
    simpa [rgL] using this
  · have hl : i < n := by
      have := (List.getElem?_eq_some_iff.mp h).1
      simpa [rgL] using this
    have e : d = .int (lo + (i : Nat)) := by
      simp [rgL, List.getElem?_map, List.getElem?_range hl] at h
      exact h.symm
    subst e
    exact ⟨hl, fun x H2 ⟨e1, e2⟩ => by subst e1; exact ⟨L', Ord.refl, r, e2⟩⟩
theorem DVs.one {g : Gv} {L : Lm} {H : Hp} {i : Int} {vs : List V} (h : DVs g L H [.int i] vs) : vs = [.int i] := by
  obtain ⟨v, r, e, h1, h2⟩ := h
  rw [e, show v = .int i from h1, show r = [] from h2]
theorem DVs.two {g : Gv} {L : Lm} {H : Hp} {i j : Int} {vs : List V} (h : DVs g L H [.int i, .int j] vs) : vs = [.int i, .int j] := by
  obtain ⟨v, r, e, h1, h2⟩ := h
  rw [e, show v = .int i from h1, DVs.one h2]
theorem i_rng1 {a : Expr} {ma : Loc → M (List D)} {p pos : Pos} (hg : Gl X "range") (hm : X.mg "range" = none) (ha : PA X [a] (dnA ⟨X.K, T⟩ W ma)) (hs : starEach [a] X.env = [(false, eval a X.env)] := by rfl) : PI X tg (.Call (.Name "range" p) [a] [] pos) (dnI ⟨X.K, T⟩ W (mRng1 ma)) := by
  refine pi_imp (pi_range1 hg hm ha hs) fun σ H R ⟨l, m, L, s, q⟩ => ?_
  refine ⟨l, m, L, s, (Wp.bnd.mp q).mono (fun xs m1 q1 vs L1 H1 o1 r1 d1 => ?_) fun _ _ z => z⟩
  unfold dRng1 at q1
  split at q1
  · rename_i j
    by_cases hj : -(2 ^ 62) ≤ j ∧ j < 2 ^ 62
    · rw [if_pos hj] at q1
      exact ⟨j, d1.one, hj.1, hj.2, (show ∀ L1 H1 J, Ord L L1 H H1 → MR _ m1 L1 H1 → ItOk _ J L1 H1 (fun _ => some (rgL 0 j.toNat)) → R J H1 from q1) L1 H1 _ o1 r1 itok_rng⟩
    · rw [if_neg hj] at q1; exact q1.elim
  · exact q1.elim
theorem i_rng2 {a b : Expr} {ma : Loc → M (List D)} {p pos : Pos} (hg : Gl X "range") (hm : X.mg "range" = none) (ha : PA X [a, b] (dnA ⟨X.K, T⟩ W ma)) (hs : starEach [a, b] X.env = [(false, eval a X.env), (false, eval b X.env)] := by rfl) (hs2 : starEach [b] X.env = [(false, eval b X.env)] := by rfl) : PI X tg (.Call (.Name "range" p) [a, b] [] pos) (dnI ⟨X.K, T⟩ W (mRng2 ma)) := by
  refine pi_imp (pi_range2 hg hm ha hs hs2) fun σ H R ⟨l, m, L, s, q⟩ => ?_
  refine ⟨l, m, L, s, (Wp.bnd.mp q).mono (fun xs m1 q1 vs L1 H1 o1 r1 d1 => ?_) fun _ _ z => z⟩
  unfold dRng2 at q1
  split at q1
  · rename_i i j
    by_cases hj : -(2 ^ 62) ≤ i ∧ i < 2 ^ 62 ∧ -(2 ^ 62) ≤ j ∧ j < 2 ^ 62
    · rw [if_pos hj] at q1
      exact ⟨i, j, d1.two, hj, (show ∀ L1 H1 J, Ord L L1 H H1 → MR _ m1 L1 H1 → ItOk _ J L1 H1 (fun _ => some (rgL i (j - i).toNat)) → R J H1 from q1) L1 H1 _ o1 r1 itok_rng⟩
    · rw [if_neg hj] at q1; exact q1.elim
  · exact q1.elim

/-! ### for -/
def forS (rd : Rd_) (t : D → Loc → M Loc) (b : Loc → M Fl) : Nat → Nat → Loc → M Fl
  | 0, _, _ => bad
  | n + 1, i, l => fun m => match rd m with
    | none => .bad
    | some xs => match xs[i]? with
      | none => .ok (.nx l) m
      | some d => (t d l m).bnd fun l1 m1 => (b l1 m1).bnd fun f m2 => match f with
        | .nx l2 => forS rd t b n (i + 1) l2 m2
        | .ct l2 => forS rd t b n (i + 1) l2 m2
        | .bk l2 => .ok (.nx l2) m2
        | .rt d => .ok (.rt d) m2
def sFor (src : Loc → M Rd_) (t : D → Loc → M Loc) (b : Loc → M Fl) : Loc → M Fl := fun l => do
  let rd ← src l
  (fun m => match rd m with
    | none => .bad
    | some xs => forS rd t b (xs.length + 1) 0 l m : M Fl)
def TgOk (t : D → Loc → M Loc) : Prop := ∀ d l m z m', t d l m ≠ .exc z m'
theorem wp_tg {t : D → Loc → M Loc} {d : D} {l : Loc} {m : Mem} {Q : Loc → Mem → Prop} {E : Ex → Mem → Prop} (ht : TgOk t) (h : Wp (t d l m) Q E) : Wp (t d l m) Q (fun _ _ => False) := by
  cases c : t d l m with
  | ok a m1 => rw [c] at h; exact h
  | exc z m1 => exact (ht d l m z m1 c).elim
  | bad => rw [c] at h; exact h
theorem Wp.bnd' {α β : Type} {o : Out α} {f : α → Mem → Out β} {Q : β → Mem → Prop} {E : Ex → Mem → Prop} : Wp (o.bnd f) Q E ↔ Wp o (fun a m' => Wp (f a m') Q E) E := by cases o <;> rfl
theorem s_for {iter : Expr} {body : List Stmt} {src : Loc → M Rd_} {t : D → Loc → M Loc} {b : Loc → M Fl} {pos : Pos} (hp : PassesOwn (model X.prog X.w) X.A X.env X.xe) (hc : X.calm = true) (hi : PI X tg iter (dnI ⟨X.K, T⟩ W src)) (hg : PG X tg (dnG ⟨X.K, T⟩ t)) (ht : TgOk t) (hb : PSs X body (dnS ⟨X.K, T⟩ W b))
    (hs : ∀ x, foldedSetIterable iter X.env x = pure x := by intro _; rfl) : PS X (.For tg iter body [] pos) (dnS ⟨X.K, T⟩ W (sFor src t b)) := by
  refine ps_imp (ps_for hp hc hi hg hb hs) fun D σ H ⟨l, m, L, s, q⟩ => ?_
  refine ⟨l, m, L, s, (Wp.bnd.mp q).mono (fun rd m1 q1 L1 H1 J o1 r1 it => ?_) fun x m1 q1 c d L1 H1 o1 r1 x1 => q1 c d σ L1 H1 o1 r1 x1⟩
  cases c : rd m1 with
  | none => simp only [c] at q1; exact q1.elim
  | some xs =>
    simp only [c] at q1
    refine ⟨fun i n σ' H' => ∃ l' m' L', SR ⟨X.K, T⟩ l' m' L' σ' H' ∧ Ord L1 L' H1 H' ∧ Wp (forS rd t b n i l' m') (QS ⟨X.K, T⟩ L' H' D) (QXs ⟨X.K, T⟩ L' H' W),
      ⟨_, l, m1, L1, s.mono r1 o1, Ord.refl, Wp.mono q1 (fun _ _ z => z.mono o1) fun x m2 z c d σ2 L2 H2 o2 r2 x2 => z c d σ2 L2 H2 (o1.trans o2) r2 x2⟩, ?_⟩
    rintro i n σ' H' ⟨l', m', L', s', o', q'⟩
    cases n with
    | zero => exact q'.elim
    | succ n =>
      unfold forS at q'
      cases c2 : rd m' with
      | none => simp only [c2] at q'; exact q'.elim
      | some ys =>
        simp only [c2] at q'
        obtain ⟨st, go⟩ := it m' L' H' o' s'.mr ys c2
        cases c3 : ys[i]? with
        | none =>
          simp only [c3] at q'
          exact .inl ⟨st i c3, (show QS _ L' H' D (.nx l') m' from q') σ' L' H' Ord.refl s'⟩
        | some d =>
          simp only [c3] at q'
          obtain ⟨g1, g2⟩ := go i d c3
          refine .inr ⟨g1, fun σ2 H2 => ∃ l2 m2 L2, SR ⟨X.K, T⟩ l2 m2 L2 σ2 H2 ∧ Ord L1 L2 H1 H2 ∧ Wp (forS rd t b n (i + 1) l2 m2) (QS ⟨X.K, T⟩ L2 H2 D) (QXs ⟨X.K, T⟩ L2 H2 W),
            fun σ2 H2 h2 => ⟨n, Nat.lt_succ_self _, h2⟩, fun x H2 y => ?_⟩
          obtain ⟨L2, o2, r2, d2⟩ := g2 x H2 y
          refine ⟨d, l', m', L2, s'.mono r2 o2, d2, (wp_tg ht (Wp.bnd'.mp q')).mono (fun l3 m3 q3 σ3 L3 H3 o3 s3 => ?_) fun _ _ z => z⟩
          refine ⟨l3, m3, L3, s3, (Wp.bnd'.mp q3).mono (fun f m4 q4 => ?_) fun x m4 z c d σ4 L4 H4 o4 r4 x4 => z c d σ4 L4 H4 (o2.trans (o3.trans o4)) r4 x4⟩
          have od := o2.trans o3
          cases f with
          | nx l4 => exact fun σ4 L4 H4 o4 s4 => ⟨l4, m4, L4, s4, o'.trans (od.trans o4), Wp.mono q4 (fun _ _ z => z.mono (od.trans o4)) fun x m5 z c d σ5 L5 H5 o5 r5 x5 => z c d σ5 L5 H5 ((od.trans o4).trans o5) r5 x5⟩
          | ct l4 => exact fun σ4 L4 H4 o4 s4 => ⟨l4, m4, L4, s4, o'.trans (od.trans o4), Wp.mono q4 (fun _ _ z => z.mono (od.trans o4)) fun x m5 z c d σ5 L5 H5 o5 r5 x5 => z c d σ5 L5 H5 ((od.trans o4).trans o5) r5 x5⟩
          | bk l4 => exact fun σ4 L4 H4 o4 s4 => (show QS _ L' H' D (.nx l4) m4 from q4) σ4 L4 H4 (od.trans o4) s4
          | rt d4 => exact fun v L4 H4 o4 r4 d5 => (show QS _ L' H' D (.rt d4) m4 from q4) v L4 H4 (od.trans o4) r4 d5

/-! ### while -/
def whileS (c : Loc → M Bool) (b : Loc → M Fl) : Nat → Loc → M Fl
  | 0, _ => bad
  | n + 1, l => fun m => (c l m).bnd fun k m1 => if k = true then (b l m1).bnd fun f m2 => match f with
        | .nx l2 => whileS c b n l2 m2
        | .ct l2 => whileS c b n l2 m2
        | .bk l2 => .ok (.nx l2) m2
        | .rt d => .ok (.rt d) m2
      else .ok (.nx l) m1
theorem s_while {c : Expr} {body : List Stmt} {mc : Loc → M Bool} {b : Loc → M Fl} {pos : Pos} (n : Nat) (hp : PassesOwn (model X.prog X.w) X.A X.env X.xe) (hc : PT X c (dnT ⟨X.K, T⟩ W mc)) (hb : PSs X body (dnS ⟨X.K, T⟩ W b)) : PS X (.While c body [] pos) (dnS ⟨X.K, T⟩ W (whileS mc b n)) := by
  refine ps_imp (ps_while hp hc hb) fun D σ H ⟨l, m, L, s, q⟩ => ?_
  refine ⟨fun n σ' H' => ∃ l' m' L', SR ⟨X.K, T⟩ l' m' L' σ' H' ∧ Wp (whileS mc b n l' m') (QS ⟨X.K, T⟩ L' H' D) (QXs ⟨X.K, T⟩ L' H' W), ⟨n, l, m, L, s, q⟩, ?_⟩
  rintro n σ' H' ⟨l', m', L', s', q'⟩
  cases n with
  | zero => exact q'.elim
  | succ n =>
    refine ⟨l', m', L', s', (Wp.bnd'.mp q').mono (fun k m1 q1 L1 H1 o1 r1 => ?_) fun x m1 q1 c d L1 H1 o1 r1 x1 => q1 c d σ' L1 H1 o1 r1 x1⟩
    cases k with
    | false => exact ite_ff ((show QS _ L' H' D (.nx l') m1 from q1) σ' L1 H1 o1 (s'.mono r1 o1))
    | true =>
      refine ite_tt ⟨fun σ2 H2 => ∃ l2 m2 L2, SR ⟨X.K, T⟩ l2 m2 L2 σ2 H2 ∧ Wp (whileS mc b n l2 m2) (QS ⟨X.K, T⟩ L2 H2 D) (QXs ⟨X.K, T⟩ L2 H2 W), fun σ2 H2 h2 => ⟨n, Nat.lt_succ_self _, h2⟩, ?_⟩
      refine ⟨l', m1, L1, s'.mono r1 o1, (Wp.bnd'.mp (show Wp ((b l' m1).bnd _) _ _ from q1)).mono (fun f m4 q4 => ?_) fun x m4 z c d σ4 L4 H4 o4 r4 x4 => z c d σ4 L4 H4 (o1.trans o4) r4 x4⟩
      cases f with
      | nx l4 => exact fun σ4 L4 H4 o4 s4 => ⟨l4, m4, L4, s4, Wp.mono q4 (fun _ _ z => z.mono (o1.trans o4)) fun x m5 z c d σ5 L5 H5 o5 r5 x5 => z c d σ5 L5 H5 ((o1.trans o4).trans o5) r5 x5⟩
      | ct l4 => exact fun σ4 L4 H4 o4 s4 => ⟨l4, m4, L4, s4, Wp.mono q4 (fun _ _ z => z.mono (o1.trans o4)) fun x m5 z c d σ5 L5 H5 o5 r5 x5 => z c d σ5 L5 H5 ((o1.trans o4).trans o5) r5 x5⟩
      | bk l4 => exact fun σ4 L4 H4 o4 s4 => (show QS _ L' H' D (.nx l4) m4 from q4) σ4 L4 H4 (o1.trans o4) s4
      | rt d4 => exact fun v L4 H4 o4 r4 d5 => (show QS _ L' H' D (.rt d4) m4 from q4) v L4 H4 (o1.trans o4) r4 d5
end
end Tw

set_option Elab.async false
set_option linter.all false
set_option maxRecDepth 100000
set_option maxHeartbeats 4000000
/-! Comprehensions; what is made and then changes no more. -/
namespace Tw
open PySem PySem.Spec PyProof.Rows L2

/-! ### an object that is being made -/
def Lm.hide (L : Lm) (p : Addr) (u : HO) : Lm := ⟨L.at_, L.nxt, L.top, fun a => if a = p then some u else L.tmp a⟩
def Lm.show_ (L : Lm) (p : Addr) : Lm := ⟨L.at_, L.nxt, L.top, fun a => if a = p then none else L.tmp a⟩
theorem Lm.hide_same {L : Lm} {p : Addr} {u : HO} : (L.hide p u).tmp p = some u := if_pos rfl
theorem Lm.hide_ne {L : Lm} {p a : Addr} {u : HO} (h : a ≠ p) : (L.hide p u).tmp a = L.tmp a := if_neg h
theorem Lm.show_same {L : Lm} {p : Addr} : (L.show_ p).tmp p = none := if_pos rfl
theorem Lm.show_ne {L : Lm} {p a : Addr} (h : a ≠ p) : (L.show_ p).tmp a = L.tmp a := if_neg h
section
variable {g : Gv} {m m' : Mem} {L L' L4 : Lm} {H H' H4 : Hp} {a p : Addr} {o u u' : HO}
theorem MR.tmp_ne (r : MR g m L H) (h : H p = none) {w : HO} (e : L.tmp a = some w) : a ≠ p := ne_of_none (r.tmp a w e).1 h
theorem Ord.hide (r : MR g m L H) (h : H p = none) : Ord L (L.hide p o) H (upd H p o) :=
  ⟨⟨Nat.le_refl _, fun _ _ => .inl rfl, fun n a q e => (by rw [show (L.hide p o).at_ n = L.at_ n from rfl, L.top n q] at e; cases e), (Ord.new1 (L := L) h).keep, (Ord.new1 (L := L) h).there, fun a z => by
    by_cases e : a = p
    · exact .inr (by rw [e]; exact h)
    · exact .inl (by rw [Lm.hide_ne e]; exact z)⟩, fun a w z => by rw [Lm.hide_ne (r.tmp_ne h z)]; exact z⟩
theorem MR.hide (r : MR g m L H) (h : H p = none) (ho : ∃ vs, o = .lst vs := by exact ⟨_, rfl⟩) : MR g m (L.hide p o) (upd H p o) :=
  ⟨r.nx, fun n mo e => by
    obtain ⟨b, e1, e2⟩ := r.obj n mo e
    obtain ⟨u, e3⟩ := e2.some_
    exact ⟨b, e1, e2.mono (Ord.hide r h) (upd_ne (ne_of_none e3 h))⟩, r.dead, r.inj, fun a w z => by
    by_cases e : a = p
    · subst e
      rw [Lm.hide_same] at z; cases z
      exact ⟨upd_same, (r.fresh h).1⟩
    · rw [Lm.hide_ne e] at z
      obtain ⟨q, z2⟩ := r.tmp a w z
      exact ⟨by rw [upd_ne e]; exact q, z2⟩, tabs_new r.tabs h, fun a w z => by
    by_cases e : a = p
    · rw [e, Lm.hide_same] at z; cases z; exact ho
    · rw [Lm.hide_ne e] at z; exact r.tmpT a w z⟩
/-- it is written -/
theorem Ord0.grow (z : L.tmp p = some u) (hu : H p = some u) : Ord0 L (L.hide p u') H (upd H p u') :=
  ⟨Nat.le_refl _, fun _ _ => .inl rfl, fun n b h e => (by rw [show (L.hide p u').at_ n = L.at_ n from rfl, L.top n h] at e; cases e), fun b w e f _ => by
    rw [upd_ne (fun y => by rw [y] at f; rw [f.2] at z; cases z)]; exact e, fun b e => by
    by_cases hb : b = p
    · rw [hb, upd_same] at e; cases e
    · rw [upd_ne hb] at e; exact e, fun b h => .inl (by rw [Lm.hide_ne (fun y => by rw [y, z] at h; cases h)]; exact h)⟩
theorem MR.grow (r : MR g m L H) (z : L.tmp p = some u) (hu : ∃ vs, u = .lst vs) (hu' : ∃ vs, u' = .lst vs := by exact ⟨_, rfl⟩) : MR g m (L.hide p u') (upd H p u') :=
  ⟨r.nx, fun n mo e => by
    obtain ⟨b, e1, e2⟩ := r.obj n mo e
    exact ⟨b, e1, e2.mono0 (Ord0.grow z (r.tmp p u z).1) (upd_ne fun y => (r.tmp p u z).2 n (y ▸ e1))⟩, r.dead, r.inj, fun a w y => by
    by_cases e : a = p
    · subst e
      rw [Lm.hide_same] at y; cases y
      exact ⟨upd_same, (r.tmp a u z).2⟩
    · rw [Lm.hide_ne e] at y
      obtain ⟨q, z2⟩ := r.tmp a w y
      exact ⟨by rw [upd_ne e]; exact q, z2⟩, by
    obtain ⟨vs, rfl⟩ := hu
    have q := (r.tmp p _ z).1
    exact tabs_upd r.tabs (fun ps e => (by rw [q] at e; cases e)) fun ps e => (by rw [q] at e; cases e), fun a w z2 => by
    by_cases e : a = p
    · rw [e, Lm.hide_same] at z2; cases z2; exact hu'
    · rw [Lm.hide_ne e] at z2; exact r.tmpT a w z2⟩
/-- it is done -/
theorem Ord0.shown : Ord0 L (L.show_ p) H H :=
  ⟨Nat.le_refl _, fun _ _ => .inl rfl, fun n b h e => (by rw [show (L.show_ p).at_ n = L.at_ n from rfl, L.top n h] at e; cases e), fun _ _ e _ _ => e, fun _ e => e, fun a h => .inl (by
    by_cases e : a = p
    · rw [e]; exact Lm.show_same
    · rw [Lm.show_ne e]; exact h)⟩
theorem MR.shown (r : MR g m L H) : MR g m (L.show_ p) H :=
  ⟨r.nx, fun n mo e => by
    obtain ⟨b, e1, e2⟩ := r.obj n mo e
    exact ⟨b, e1, e2.mono0 Ord0.shown rfl⟩, r.dead, r.inj, fun a w z => by
    by_cases e : a = p
    · rw [e, Lm.show_same] at z; cases z
    · rw [Lm.show_ne e] at z; exact r.tmp a w z, r.tabs, fun a w z => by
    by_cases e : a = p
    · rw [e, Lm.show_same] at z; cases z
    · rw [Lm.show_ne e] at z; exact r.tmpT a w z⟩
theorem Fz.shown (r : MR g m L H) (z : L.tmp p = some u) : Fz (L.show_ p) p := ⟨(r.tmp p u z).2, Lm.show_same⟩
/-- the outer world, while the object at p is being made -/
theorem Ord.begun (r : MR g m L H) (h : H p = none) : Ord L ((L.hide p o).show_ p) H (upd H p o) :=
  ⟨(Ord.hide (o := o) r h).toOrd0.trans Ord0.shown, fun a w z => by
    have e := r.tmp_ne h z
    rw [Lm.show_ne e, Lm.hide_ne e]; exact z⟩
theorem Ord.step (r : MR g m L H) (h : H p = none) (od : Ord L (L'.show_ p) H H') (o2 : Ord L' L4 H' H4) : Ord L (L4.show_ p) H H4 where
  nx := Nat.le_trans od.nx o2.nx
  old := fun n q => by
    rcases o2.old n (Nat.lt_of_lt_of_le q od.nx) with z | z
    · show L4.at_ n = _ ∨ L4.at_ n = _
      rw [z]; exact od.old n q
    · exact .inr z
  new := fun n b q e => by
    rcases Nat.lt_or_ge n L'.nxt with y | y
    · rcases o2.old n y with z | z
      · exact od.new n b q (z.symm.trans e)
      · rw [show L4.at_ n = some b from e] at z; cases z
    · exact od.there b (o2.new n b y e)
  keep := fun b w e f z => by
    have f2 := od.fz e f
    have hb : b ≠ p := ne_of_none e h
    refine o2.keep b w (od.keep b w e f z) ⟨f2.1, ?_⟩ z
    have := f2.2
    rw [Lm.show_ne hb] at this; exact this
  there := fun b e => od.there b (o2.there b e)
  tmp := fun b z => by
    by_cases hb : b = p
    · exact .inl (by rw [hb]; exact Lm.show_same)
    · rcases od.tmp b z with y | y
      · rw [Lm.show_ne hb] at y ⊢
        rcases o2.tmp b y with x | x
        · exact .inl x
        · exact .inr (od.there b x)
      · exact .inr y
  tmpk := fun b w z => by
    have hb := r.tmp_ne h z
    have y := od.tmpk b w z
    rw [Lm.show_ne hb] at y ⊢
    exact o2.tmpk b w y
theorem Ord.inner (r : MR g m L H) (h : H p = none) (od : Ord L (L'.show_ p) H H') : Ord L L' H H' where
  nx := od.nx
  old := od.old
  new := od.new
  keep := od.keep
  there := od.there
  tmp := fun b z => by
    by_cases hb : b = p
    · exact .inr (by rw [hb]; exact h)
    · have y := od.tmp b z
      rw [Lm.show_ne hb] at y; exact y
  tmpk := fun b w z => by
    have y := od.tmpk b w z
    rw [Lm.show_ne (r.tmp_ne h z)] at y; exact y
theorem Ord.grown (h : H p = none) (od : Ord L (L'.show_ p) H H') : Ord L ((L'.hide p u').show_ p) H (upd H' p u') where
  nx := od.nx
  old := od.old
  new := od.new
  keep := fun b w e f z => by rw [upd_ne (ne_of_none e h)]; exact od.keep b w e f z
  there := fun b e => by
    by_cases hb : b = p
    · rw [hb, upd_same] at e; cases e
    · rw [upd_ne hb] at e; exact od.there b e
  tmp := fun b z => by
    by_cases hb : b = p
    · exact .inl (by rw [hb]; exact Lm.show_same)
    · rcases od.tmp b z with y | y
      · rw [Lm.show_ne hb] at y
        exact .inl (by rw [Lm.show_ne hb, Lm.hide_ne hb]; exact y)
      · exact .inr y
  tmpk := fun b w z => by
    have y := od.tmpk b w z
    by_cases hb : b = p
    · rw [hb, Lm.show_same] at y; cases y
    · rw [Lm.show_ne hb] at y
      rw [Lm.show_ne hb, Lm.hide_ne hb]; exact y
end

/-! ### comprehensions -/
def wipeL (l : Loc) : List Nat → Loc
  | [] => l
  | v :: vs => (wipeL l vs).set v none
theorem wipeL_len (l : Loc) : ∀ vs, (wipeL l vs).length = l.length
  | [] => rfl
  | v :: vs => by unfold wipeL; rw [List.length_set, wipeL_len l vs]
theorem SR.wipe {g : Gv} {l : Loc} {m : Mem} {L : Lm} {σ : Sg} {H : Hp} (s : SR g l m L σ H) : ∀ vs, SR g (wipeL l vs) m L (L2.wipe σ vs) H
  | [] => s
  | v :: vs => by
    have ih := SR.wipe s vs
    refine ⟨ih.mr, fun i d e => ?_, by rw [L2.wipe_length, wipeL_len]; exact s.len⟩
    unfold wipeL at e
    rw [List.getElem?_set] at e
    split at e
    · rename_i hi
      split at e
      · cases e
      · cases e
    · rename_i hi
      obtain ⟨w, h1, h2⟩ := ih.lc i d e
      refine ⟨w, ?_, h2⟩
      unfold L2.wipe
      rw [List.getElem?_set_ne hi]
      exact h1
def compS (rd : Rd_) (t : D → Loc → M Loc) (c : Loc → M Bool) (e : Loc → M D) (l : Loc) : Nat → Nat → List D → M (List D)
  | 0, _, _ => bad
  | n + 1, i, acc => fun m => match rd m with
    | none => .bad
    | some xs => match xs[i]? with
      | none => .ok acc m
      | some d => (t d l m).bnd fun l1 m1 => (c l1 m1).bnd fun k m2 => if k = true then (e l1 m2).bnd fun y m3 => if acc.length < okLen then compS rd t c e l n (i + 1) (acc ++ [y]) m3 else .bad
        else compS rd t c e l n (i + 1) acc m2
def mComp (src : Loc → M Rd_) (t : D → Loc → M Loc) (c : Loc → M Bool) (e : Loc → M D) (vs : List Nat) : Loc → M (List D) := fun l => do
  let rd ← src l
  (fun m => match rd m with
    | none => .bad
    | some xs => compS rd t c e (wipeL l vs) (xs.length + 1) 0 [] m : M (List D))
def mLc (src : Loc → M Rd_) (t : D → Loc → M Loc) (c : Loc → M Bool) (e : Loc → M D) (vs : List Nat) : Loc → M D := fun l => do return .lst (← mComp src t c e vs l)
def mYes : Loc → M Bool := fun _ => pure true
abbrev W0 : WX := fun _ _ _ _ => False
theorem okLen_lt {n : Nat} (h : n < okLen) : n < sizeLine := Nat.lt_of_lt_of_le h (by decide)
section
variable {X : Cx} {W : WX} {T : Gw} {tg : Expr}
/-- the reading of a comprehension -/
theorem dn_lc {g : Gv} {src : Loc → M Rd_} {t : D → Loc → M Loc} {c : Loc → M Bool} {e : Loc → M D} {vs : List Nat} (ht : TgOk t)
    {gt : TG} {σ : Sg} (hg : ∀ v H Q, dnG g t v (L2.wipe σ vs) H Q → gt v (L2.wipe σ vs) H fun σ2 H2 => L2.wipe σ2 vs = L2.wipe σ vs ∧ Q σ2 H2)
    {H : Hp} {Q : VK} (h : dnE g W (mLc src t c e vs) σ H Q)
    (hx : ∀ l m x m', c l m ≠ .exc x m') (hy : ∀ l m x m', e l m ≠ .exc x m') : tLc (dnI g W src) gt (dnT g W0 c) (dnE g W0 e) vs σ H Q := by
  obtain ⟨l, m, L, s, q⟩ := h
  have q := Wp.bnd.mp (Wp.bnd.mp q)
  refine ⟨l, m, L, s, Wp.mono q (fun rd m1 q1 L1 H1 J o1 r1 it => ?_) fun _ _ z => z⟩
  cases c1 : rd m1 with
  | none => simp only [c1] at q1; exact q1.elim
  | some xs =>
    simp only [c1] at q1
    intro p hp
    refine ⟨fun i n H' => ∃ acc vacc m' L', MR g m' L' H' ∧ Ord L1 (L'.show_ p) H1 H' ∧ L'.tmp p = some (.lst vacc) ∧ DVs g L' H' acc vacc ∧ Wp (compS rd t c e (wipeL l vs) n i acc m') (fun xs m2 => QE g L1 H1 Q (.lst xs) m2) (fun _ _ => True),
      ⟨_, [], [], m1, L1.hide p (.lst []), r1.hide hp, Ord.begun r1 hp, Lm.hide_same, rfl, Wp.mono q1 (fun _ _ z => QE.mono z o1) fun _ _ _ => trivial⟩, ?_⟩
    rintro i n H' ⟨acc, vacc, m', L', r', o', tp, da, q'⟩
    have so : Ord L1 L' H1 H' := o'.inner r1 hp
    have s' : SR g (wipeL l vs) m' L' (L2.wipe σ vs) H' := ((s.mono r1 o1).wipe vs).mono r' so
    cases n with
    | zero => exact q'.elim
    | succ n =>
      unfold compS at q'
      cases c2 : rd m' with
      | none => simp only [c2] at q'; exact q'.elim
      | some ys =>
        simp only [c2] at q'
        obtain ⟨st, go⟩ := it m' L' H' so r' ys c2
        cases c3 : ys[i]? with
        | none =>
          simp only [c3] at q'
          exact .inl ⟨st i c3, (show QE g L1 H1 Q (.lst acc) m' from q') _ (L'.show_ p) H' o' r'.shown ⟨p, vacc, rfl, ⟨(r'.tmp p _ tp).1, Fz.shown r' tp⟩, da.mono0 Ord0.shown⟩⟩
        | some d =>
          simp only [c3] at q'
          obtain ⟨g1, g2⟩ := go i d c3
          refine .inr ⟨g1, fun H2 => ∃ acc vacc m' L', MR g m' L' H2 ∧ Ord L1 (L'.show_ p) H1 H2 ∧ L'.tmp p = some (.lst vacc) ∧ DVs g L' H2 acc vacc ∧ Wp (compS rd t c e (wipeL l vs) n (i + 1) acc m') (fun xs m2 => QE g L1 H1 Q (.lst xs) m2) (fun _ _ => True),
            fun H2 h2 => ⟨n, Nat.lt_succ_self _, h2⟩, fun x H2 y => ?_⟩
          obtain ⟨L2, o2, r2, d2⟩ := g2 x H2 y
          refine hg x H2 _ ⟨d, wipeL l vs, m', L2, s'.mono r2 o2, d2, (wp_tg ht (Wp.bnd'.mp q')).mono (fun l3 m3 q3 σ3 L3 H3 o3 s3 => ?_) fun _ _ z => z⟩
          refine ⟨l3, m3, L3, s3, ?_⟩
          have q3 := Wp.bnd'.mp q3
          cases cc : c l3 m3 with
          | bad => rw [cc] at q3; exact q3.elim
          | exc x m4 => exact (hx _ _ _ _ cc).elim
          | ok k m4 =>
            rw [cc] at q3
            intro L4 H4 o4 r4
            have q3 : Wp (if k = true then (e l3 m4).bnd fun y m3 => if acc.length < okLen then compS rd t c e (wipeL l vs) n (i + 1) (acc ++ [y]) m3 else .bad else compS rd t c e (wipeL l vs) n (i + 1) acc m4) (fun xs m2 => QE g L1 H1 Q (.lst xs) m2) (fun _ _ => True) := q3
            have o24 := (o2.trans o3).trans o4
            cases k with
            | false => exact ite_ff ⟨acc, vacc, m4, L4, r4, Ord.step r1 hp o' o24, o24.tmpk p _ tp, da.mono o24, q3⟩
            | true =>
              refine ite_tt ⟨l3, m4, L4, s3.mono r4 o4, ?_⟩
              have q3 := Wp.bnd'.mp (show Wp ((e l3 m4).bnd _) _ _ from q3)
              cases ce : e l3 m4 with
              | bad => rw [ce] at q3; exact q3.elim
              | exc x m5 => exact (hy _ _ _ _ ce).elim
              | ok y2 m5 =>
                rw [ce] at q3
                intro v5 L5 H5 o5 r5 d5
                have o25 := o24.trans o5
                have q3 : Wp (if acc.length < okLen then compS rd t c e (wipeL l vs) n (i + 1) (acc ++ [y2]) m5 else .bad) (fun xs m2 => QE g L1 H1 Q (.lst xs) m2) (fun _ _ => True) := q3
                by_cases hl : acc.length < okLen
                · rw [if_pos hl] at q3
                  have da5 := da.mono o25
                  have t5 := o25.tmpk p _ tp
                  refine ⟨vacc, (r5.tmp p _ t5).1, by rw [da.len]; exact okLen_lt hl, acc ++ [y2], vacc ++ [v5], m5, L5.hide p (.lst (vacc ++ [v5])), r5.grow t5 ⟨_, rfl⟩, (Ord.step r1 hp o' o25).grown hp, Lm.hide_same, ?_, q3⟩
                  have og : Ord0 L5 (L5.hide p (.lst (vacc ++ [v5]))) H5 (upd H5 p (.lst (vacc ++ [v5]))) := Ord0.grow t5 (r5.tmp p _ t5).1
                  exact DVs.app (da5.mono0 og) ⟨_, _, rfl, d5.mono0 og, rfl⟩
                · rw [if_neg hl] at q3; exact q3.elim
theorem t_yes {X : Cx} : PTs X [] (dnT ⟨X.K, T⟩ W mYes) := ⟨fun pins s σ H Q I ⟨l, m, L, sr, q⟩ => pts_nil.run pins s σ H Q I ((show QT _ L H Q true m from q) L H Ord.refl sr.mr)⟩
def NoE {α : Type} (e : Loc → M α) : Prop := ∀ l m x m', e l m ≠ .exc x m'
/-- the targets of a comprehension: its own names -/
def TgW (t : D → Loc → M Loc) (vs : List Nat) : Prop := True
theorem e_lc {elt iter : Expr} {ifs : List Expr} {scope : Scope} {own : List (Str × Nat)} {pos : Pos} {src : Loc → M Rd_} {t : D → Loc → M Loc} {c : Loc → M Bool} {e : Loc → M D} {gt : TG} (hc : X.calm = true) (hN : X.N.Nodup) (hi : PI X tg iter (dnI ⟨X.K, T⟩ W src)) (ok : BlkOk X.N X.env.scope scope own)
    (hg : ∀ (s : Shared) (H : Hp) (C : Addr) (cl : List (Str × Addr)) (fp : List Addr), PG (X.blk s H scope (compEnvC scope cl C X.env) fp) tg gt) (ht : TgOk t)
    (hw : ∀ v σ H Q, dnG ⟨X.K, T⟩ t v (L2.wipe σ (own.map (·.2))) H Q → gt v (L2.wipe σ (own.map (·.2))) H fun σ2 H2 => L2.wipe σ2 (own.map (·.2)) = L2.wipe σ (own.map (·.2)) ∧ Q σ2 H2)
    (hifs : ∀ (s : Shared) (H : Hp) (C : Addr) (cl : List (Str × Addr)) (fp : List Addr), PTs (X.blk s H scope (compEnvC scope cl C X.env) fp) ifs (dnT ⟨X.K, T⟩ W0 c)) (hx : NoE c)
    (he : ∀ (s : Shared) (H : Hp) (C : Addr) (cl : List (Str × Addr)) (fp : List Addr), PE (X.blk s H scope (compEnvC scope cl C X.env) fp) elt (dnE ⟨X.K, T⟩ W0 e)) (hy : NoE e) (hs : ∀ x, foldedSetIterable iter X.env x = pure x := by intro _; rfl) :
    PE X (.ListComp elt [⟨tg, iter, ifs, 0⟩] scope pos) (dnE ⟨X.K, T⟩ W (mLc src t c e (own.map (·.2)))) :=
  pe_imp (pe_lc hc hN hi ok hg hifs he hs) fun σ H Q h => dn_lc ht (fun v H Q q => hw v σ H Q q) h hx hy
end
end Tw

set_option Elab.async false
set_option linter.all false
set_option maxRecDepth 100000
set_option maxHeartbeats 4000000
/-! An own exception class whose __init__ says super().__init__('..') and stores its argument. -/
namespace Tw
open PySem PySem.Spec PyProof.Rows L2 NdefX

section
variable {prog : Program} {w : World} {A : Around} {E : Value → Shared → Prop} {h : Heap} {g : Array GenState} {d : Drawn} {t : Nat} {os : OsState}
/-- the method-wrapper called -/
theorem mw_call {B i newId : String} {bmB : List Value} {nm q : Str} {C N : Addr} {bs bm : List Value} {hdct : Bool} {sn : List Str} {sub : List Value} {ab : Bool} {col : Option Bool} {dd : Option Addr} {k0 k1 k2 k3 k5 : Option Value}
    {u x t0 : Addr} {rest : List Value} {Q : Value → Shared → Prop} (FB : ExcBaseFacts B newId i bmB)
    (hC : h.get? C = some (excClassObj nm q C N bs bm hdct sn sub ab col dd k0 k1 k2 k3 k5 newId)) (hu : h.get? u = some (PySem.W.kxs_mw i x)) (he : h.get? x = some (PySem.W.excObj C t0 none .none)) (hz : rest.length ≤ sizeLine)
    (hq : ∀ h', (∀ b o, b ≠ x → h.get? b = some o → h'.get? b = some o) → h'.get? x = some (PySem.W.excObj C h.objs.size none .none) → Q .none ⟨h', g, d, t, os⟩) :
    wpAny (model prog w) A (call (.ref u) rest) Q E ⟨h, g, d, t, os⟩ := by
  apply wpAny_call; apply codeAny_of_tree
  show wpAny _ A.in1 (callAny (.ref u) ⟨rest, []⟩) _ _ _
  unfold callAny
  apply wpAny_bind
  refine wpAny_load hu ?_
  dsimp only [PySem.W.kxs_mw]
  have y : (Value.type "method-wrapper" == Value.type "method" || Value.type "method-wrapper" == Value.type "builtin_function_or_method" || Value.type "method-wrapper" == Value.type "method-wrapper") = true := by decide
  refine PySem.W.KFB.if_so y ?_
  apply wpAny_bind
  refine PySem.W.check_bound_init FB.toExcCallFacts hC he rfl ?_
  apply wpAny_pure
  exact ⟨plainId_quiet FB.init.plain _, codeAny_builtin FB.initEntry (PySem.W.exc_init_tree (cls := .ref C) (t0 := t0) (dv := none) (c2 := .none) (c3 := .none) (b4 := .bool false) he hz fun h' k e' _ => hq h' k e')⟩
end

/-- the promise of such an __init__ -/
def spI (C : Addr) (f : Str) : Sp := fun vs H Q _ => ∃ a v, vs = [.ref a, v] ∧ H a = some (exo a C none) ∧ ∀ d, H d = none → d ≠ a → Q .non (upd (upd H d (exd d [(f, v)])) a (exo a C (some d)))
theorem spI_len {C : Addr} {f p : Str} : ∀ vs H Q E, spI C f vs H Q E → vs.length = ([("self" : Str), p] : List Str).length := by
  rintro vs H Q E ⟨a, v, rfl, _⟩; rfl

/-- what the written part says of the class and its __init__ -/
structure SupC (K : PySem.W.Frag) (mg : Str → Option Value) (C : Addr) (f : Str) (D : Addr) (cc cda : Addr) : Prop where
  T : OexC K C
  no : PySem.W.findIn K (.ref C) f = some none
  sup : PySem.W.ks_superIn K C D "__init__" = some (some (.builtin "ValueError.__init__"))
  isV : PySem.W.subIn K (.ref C) (.type "ValueError") = some true
  isD : PySem.W.mroIn K C (.ref D) = some true
  clD : (PySem.W.clsIn K D).isSome = true
  cell : ∃ o, K.lookup cc = some o ∧ o.data = .cell (some (.ref D))
  nosup : mg "super" = none
  nothird : PySem.W.nsIn K cStatics "thirdparty.any" = some none

section
variable {CX : CXT} {P : Program} {w : World} {K : PySem.W.Frag} {mg : Str → Option Value} {base : Heap} {k : Nat}
theorem init_ok {F : NF} {N : List Str} {C D cc fI : Addr} {f p txt : Str} {oc dV kV doc pm ct : Value} {od an : Option Addr} {osl : Array (Option Value)} {j : Nat} {p0 p1 p2 p3 p4 p5 p6 p7 p8 p9 : Pos}
    {co : Obj} {vs0 : Array Value} {file : Str} {tf : Tok}
    (S : SupC K mg C f D cc F.c) (hcl : F.cl = [(("__class__" : Str), cc)])
    (hbody : F.body = [.Expr (.Call (.Attribute (.Call (.Name "super" p0) [] [] p1) "__init__" p2) [.Constant (.str txt) j p3] [] p4) p5, .Assign [.Attribute (.Name "self" p6) f p7] (.Name p p8) p9])
    (lk : K.lookup fI = some ⟨oc, od, .func (PySem.W.fnX F.name F.qual F.params F.body F.scope F.cl dV kV doc pm an (.ref F.c) ct), osl⟩) (hcd : PySem.W.codeIn K (.ref F.c) F.qual = true)
    (hco : K.lookup F.c = some co) (hvs : co.data = .fields vs0) (hfl : vs0[2]? = some (.str file tf)) (hfile : (P.main.file : Str) = file) (htop : (P.main.scope.names.lookup ("super" : Str)).isSome = false)
    (hN : N = [("self" : Str), p, ("__class__" : Str)]) (Sc : NScope N [("self" : Str), p] [("__class__" : Str)] F.scope) (hks : F.scope.names.lookup ("super" : Str) = some .globalImplicit)
    (hpos : (p2.endLine == p4.line) = true) (hpd : (p == ("__debug__" : Str)) = false) (hpc : (p == ("__classdict__" : Str)) = false) (hp : ∃ a0 ar, (F.params.posonlyargs ++ F.params.args).head? = some ar ∧ ar.arg = "self" ∧ a0 = ar) :
    FnOk P w K mg base CX (k + 1) fI (PySem.W.fnX F.name F.qual F.params F.body F.scope F.cl dV kV doc pm an (.ref F.c) ct) [("self" : Str), p] (spI C f) := by
  refine ⟨spI_len, fun A outer s H args us vs Q E hr e0 hb r hsp => ?_⟩
  obtain ⟨a, v, rfl, ea, q⟩ := hsp
  obtain ⟨hp0, g0, d0, tk0, os0⟩ := s
  have hus : ∃ u1, us = [.ref a, u1] ∧ RelV v u1 := by
    cases r with
    | cons ra r2 =>
      cases r2 with
      | cons rb r3 =>
        cases r3
        obtain rfl := (show _ = Value.ref a from ra)
        exact ⟨_, rfl, rb⟩
  obtain ⟨u1, rfl, rv⟩ := hus
  have KX : K.In hp0 := e0.mod.kin.keeps fun b o e => (e0.bs b o e).1
  have lim : hp0.NoLimit := e0.mod.nolimit.keeps fun b o e => (e0.bs b o e).1
  obtain ⟨oC, hcc, hcd0⟩ := S.cell
  have Hcc : H cc = none := (e0.bs _ _ (e0.mod.kin _ _ hcc)).2
  have C0 : CellsAt F.cl [("__class__" : Str)] [none] hp0 H := by
    rw [hcl]
    refine ⟨rfl, fun y c e => ?_, fun x y c e1 e2 => ?_, fun i y e => ?_⟩
    · have z : c = cc := by
        simp only [List.lookup] at e
        split at e
        · exact (Option.some.inj e).symm
        · cases e
      rw [z]
      exact ⟨Hcc, _, oC, KX _ _ hcc, hcd0⟩
    · simp only [List.lookup] at e1 e2
      split at e1
      · rename_i z1
        split at e2
        · rename_i z2
          rw [beq_iff_eq] at z1 z2
          rw [z1, z2]
        · cases e2
      · cases e1
    · match i with
      | 0 =>
        cases e
        exact ⟨cc, by simp [List.lookup], fun v h => by cases h⟩
      | i + 1 => cases e
  obtain ⟨_, ar, har, hself, _⟩ := hp
  refine PySem.ks_codeAny_call_defAt (fd := PySem.W.fnX F.name F.qual F.params F.body F.scope F.cl dV kV doc pm an (.ref F.c) ct) hr.depth (KX _ _ lk) rfl lim (PySem.W.codeRec_of KX hcd) rfl hb Sc.nocell (fun x hx => ?_) (fun h₁ hns kp => ?_) Sc.co Sc.gen Sc.kind
  · obtain ⟨n, z⟩ := x
    exact Sc.par n (List.of_mem_zip hx).1
  have I : Inv (ncx CX P w K mg base N F fI A outer ⟨hp0, g0, d0, tk0, os0⟩ H E) [] (startF N [.ref a, v] [none]) H { heap := h₁, gens := g0, drawn := d0, os := os0, toks := tk0 + (([("self" : Str), p] : List Str).zip [Value.ref a, u1]).length } := inv_startN Sc hr.hd e0 rfl r C0 hns kp
  have KX1 : K.In h₁ := I.kIn
  show _root_.PySem.wpAt (model P w) (A.deeper (envF F fI hp0.objs.size)) (.func F.body (envF F fI hp0.objs.size)) (execs F.body (envF F fI hp0.objs.size)) _ _ _
  rw [hbody]
  have glS : (envF F fI hp0.objs.size).kindOf ("super" : Str) = some .globalImplicit := hks
  have kcl : (envF F fI hp0.objs.size).kindOf ("__class__" : Str) = some .free := Sc.frk _ (List.mem_singleton.mpr rfl)
  have ksf : (envF F fI hp0.objs.size).kindOf ("self" : Str) = some .local := Sc.par _ (List.mem_cons_self ..)
  have hprob : (P.main.file == file) = true := by rw [hfile]; exact beq_self_eq_true file
  obtain ⟨mb, b1, b2⟩ := e0.mod.blt
  obtain ⟨cdD, hcdD⟩ := Option.isSome_iff_exists.mp S.clD
  obtain ⟨oD, hD1, hD2⟩ : ∃ oD, h₁.get? D = some oD ∧ oD.data = .cls cdD := by
    unfold PySem.W.clsIn at hcdD
    split at hcdD
    · rename_i c d cd' sl ho
      cases hcdD
      exact ⟨_, KX1 _ _ ho, rfl⟩
    · cases hcdD
  obtain ⟨t1, hoa⟩ := exo_at e0.hok ea
  have hoa1 := kp _ _ hoa
  obtain ⟨nm, q1, NN, bs, bm, sn, sub, ab, col, dd, k0, k1, k2, k3, k5, hC, hbm⟩ := S.T.cls
  have hCl : PySem.W.clsIn K C = some { name := nm, bases := bs, mro := .ref C :: bm, ns := NN, qualname := q1, hasDict := true, slotNames := sn, subclasses := sub, abstract := ab, collection := col, hasDel := false } := by unfold PySem.W.clsIn; rw [hC] <;> rfl
  have IA : PySem.W.InstAt h₁ a (PySem.W.excObj C t1 none .none) C none := ⟨hoa1, rfl, rfl, trivial⟩
  have he : eval (.Call (.Attribute (.Call (.Name "super" p0) [] [] p1) "__init__" p2) [.Constant (.str txt) j p3] [] p4) (envF F fI hp0.objs.size) = (do
      let ov ← attributeBase (.Call (.Name "super" p0) [] [] p1) "__init__" (envF F fI hp0.objs.size) (eval (.Call (.Name "super" p0) [] [] p1) (envF F fI hp0.objs.size))
      standAt p2.atName
      let (f, first) ← holding [ov] (getMethod ov "__init__" (do return (← importBound (.Call (.Name "super" p0) [] [] p1) (envF F fI hp0.objs.size)).getD true))
      callWith p4 f first (backTo p4 (starEach [.Constant (.str txt) j p3] (envF F fI hp0.objs.size))) []) := by
    rw [arm_eval_Call]
    unfold methodCall methodCallPos calleeOf
    rw [hpos]
    rfl
  refine ks_wpAt_execs_cons (ks_wpAt_Expr_any (ks_wpAt_MethodCall (he := he) (ks_wpAt_super_base (env := envF F fI hp0.objs.size) (ar := ar) glS kcl rfl rfl (KX1 _ _ lk) rfl har rfl (KX1 _ _ hco) hvs hfl hprob htop ?_)) ?_ rfl)
  · refine PySem.W.ks_loadName_global Sc.kind glS (Calls.loadGlobal_builtin (env := envF F fI hp0.objs.size) (e0.mod.glob.keeps fun b o e => I.bk b o e) S.nosup (b1.keeps fun b o e => I.bk b o e) ((b2 ("super" : Str) (by decide)).trans (show bootBuiltins ("super" : Str) = some (.type "super") from rfl)) ⟨rfl, ?_⟩)
    refine wpAny_loadName_free Sc.kind kcl (c := cc) (v := .ref D) ?_ ⟨oC, KX1 _ _ hcc, hcd0⟩ ?_
    · show F.cl.lookup _ = _
      rw [hcl] <;> rfl
    rw [hself]
    refine wpAny_loadName_local Sc.kind ksf hns (v := .ref a) (by
      have z := zip_look (ps := [("self" : Str), p]) (us := [Value.ref a, u1]) (i := 0) (x := ("self" : Str)) (u := .ref a) ?_ rfl rfl
      · exact z
      · have q := Sc.nd
        rw [hN] at q
        simp only [List.nodup_cons, List.mem_cons, List.not_mem_nil, or_false, not_or, List.nodup_nil, and_true] at q ⊢
        exact ⟨q.1.1, fun h => h⟩) ?_
    refine ks_wpAny_isType_cls hD1 hD2 ⟨rfl, ?_⟩
    refine ks_wpAny_call_super hD1 hD2 IA.at_ IA.cls (fun c e => nomatch e) (PySem.W.looks_mroIn KX1 S.isD) (fun h2 e2 k2 => ?_)
    have KX2 : K.In h2 := KX1.keeps k2
    have IA2 : PySem.W.InstAt h2 a (PySem.W.excObj C t1 none .none) C none := ⟨k2 _ _ hoa1, rfl, rfl, trivial⟩
    have I2 := I.kept (t' := tk0 + ([("self" : Str), p].zip [Value.ref a, u1]).length) k2
    refine PySem.W.kxs_getMethod PySem.W.kxs_ValueError e2 (PySem.W.looks_opaque KX2 S.nothird) (l₀ := .ref C :: bm) ((PySem.W.looks_clsIn KX2 hCl).andThen .now) rfl KX2 (by
      have z := S.sup
      unfold PySem.W.ks_superIn at z
      rw [hCl, Option.bind_some] at z
      exact z) (IA2.type.andThen (PySem.W.looks_subIn KX2 S.isV)) (PySem.W.ks_ne KX2 IA2 hCl) rfl ?_
    have kq : ∀ b o, h2.get? b = some o → (h2.push (PySem.W.kxs_mw "ValueError.__init__" a)).get? b = some o := fun b o e => Heap.get?_push_of_some _ e
    have gq : (h2.push (PySem.W.kxs_mw "ValueError.__init__" a)).get? h2.objs.size = some (PySem.W.kxs_mw "ValueError.__init__" a) := Heap.get?_push_size _ rfl
    have I3 := I2.kept (t' := tk0 + ([("self" : Str), p].zip [Value.ref a, u1]).length + 1) kq
    have I4 : Inv (ncx CX P w K mg base N F fI A outer ⟨hp0, g0, d0, tk0, os0⟩ H E) [(h2.objs.size, PySem.W.kxs_mw "ValueError.__init__" a)] _ H _ := I3.pins_of fun pr hpr => by
      rw [List.mem_singleton.mp hpr]
      exact ⟨gq, I2.hok.fresh (Nat.le_refl _), Nat.ne_of_gt I2.lt, I2.nofs (Nat.le_refl _), fun v z => nomatch z⟩
    have kS : (ncx CX P w K mg base N F fI A outer ⟨hp0, g0, d0, tk0, os0⟩ H E).N[1]? = some p := by show N[1]? = _; rw [hN] <;> rfl
    have kS0 : (ncx CX P w K mg base N F fI A outer ⟨hp0, g0, d0, tk0, os0⟩ H E).N[0]? = some ("self" : Str) := by show N[0]? = _; rw [hN] <;> rfl
    refine PySem.W.kxs_callWith (i := "ValueError.__init__") (x := a) rfl (Calls.evalArgs_plain ?_)
    have pa : PA (ncx CX P w K mg base N F fI A outer ⟨hp0, g0, d0, tk0, os0⟩ H E) [.Constant (.str txt) j p3] (tCons (tC (.str txt)) tNil) := pa_cons pe_str pa_nil
    refine thn (pa.run p4 _ _ _ H (fun vs H1 => H1 = H ∧ vs.length = 1) I4 ⟨rfl, rfl⟩) fun us s1 hh => ?_
    obtain ⟨vs, H1, I5, rr, e1, l1⟩ := hh
    rw [e1] at I5
    obtain ⟨gu, _⟩ := I5.pin (h2.objs.size, PySem.W.kxs_mw "ValueError.__init__" a) (List.mem_append_right _ (List.mem_cons_self ..))
    refine ⟨gu, ?_⟩
    obtain ⟨t2, ho5⟩ := exo_at I5.hok ea
    obtain ⟨hp5, g5, d5, tk5, os5⟩ := s1
    refine mw_call _root_.PySem.F.excBase_ValueError (I5.kIn _ _ hC) gu ho5 (by have z := rr.length; show us.length ≤ sizeLine; rw [← z, l1, sizeLine_eq]; omega) fun h6 k6 e6 => ?_
    have J0 := I5.write (t' := tk5) (x := a) (e := a) (o := exo a C none) (by rw [ea]; exact True.intro) (.inl rfl) k6 ⟨_, e6⟩ (exo_ok e6)
    have eu : upd H a (exo a C none) = H := by
      funext b
      by_cases hb : b = a
      · rw [hb, upd_same, ea]
      · rw [upd_ne hb]
    rw [eu] at J0
    show _root_.PySem.wpAt _ _ _ _ _ _ _
    have ps := pss_one (ps_ost (p' := p7) (pos := p9) (f := f) (pe_var (pos := p6) kS0 (.inl ksf)) (pe_var (pos := p8) kS (.inl (Sc.par p (List.mem_cons_of_mem _ (List.mem_cons_self ..)))) hpd hpc))
    refine wpAt_of_wpAny (wpAny_mono (ps.run _ _ _ H { nx := fun _ H' => Q .non H', rt := Q } J0 ?_) (fun fl s' hs => ?_) fun e s' hs => hs)
    · have hst : startF N [.ref a, v] [none] = [some (.ref a), some v, none] := by unfold startF; rw [hN] <;> rfl
      rw [hst]
      exact ⟨v, rfl, .ref a, rfl, a, C, rfl, S.T, S.no, .inl ⟨ea, fun dx hd hn => q dx hd hn⟩⟩
    · cases fl with
      | ret u =>
        obtain ⟨v', σ', H', J, rv', q'⟩ := hs
        exact ⟨v', H', J.os, J.bare, J.base, J.hok, rv', q'⟩
      | next =>
        obtain ⟨σ', H', J, q'⟩ := hs
        exact ⟨V.non, H', J.os, J.bare, J.base, J.hok, rfl, q'⟩
      | brk =>
        obtain ⟨_, _, _, q'⟩ := hs
        exact False.elim q'
      | cont =>
        obtain ⟨_, _, _, q'⟩ := hs
        exact False.elim q'
  · show (F.scope.kind == .module && _) = false
    rw [Sc.kind] <;> rfl
end
end Tw

set_option Elab.async false
set_option linter.all false
set_option maxRecDepth 100000
set_option maxHeartbeats 4000000
/-! An own exception made, by place or by name; held as a value. -/
namespace Tw
open PySem PySem.Spec PyProof.Rows L2 NdefX PySem.HandSPX

section
variable {M : Model} {A : Around} {E : Value → Shared → Prop} {h : Heap} {g : Array GenState} {d : Drawn} {t : Nat} {os : OsState}
variable {nm q : Str} {C N : Addr} {bs bm bmB : List Value} {hdct : Bool} {sn : List Str} {sub : List Value} {ab : Bool} {col : Option Bool} {dd : Option Addr} {k0 k1 k2 k3 k5 : Option Value} {B newId initId : String}
theorem kw_check (F : ExcBaseFacts B newId initId bmB) (hT : ∀ X : String, bm.contains (.type X) = bmB.contains (.type X)) {rest : List Value} {kw : List (Str × Value)} {Q : Unit → Shared → Prop}
    (hC : h.get? C = some (excClassObj nm q C N bs bm hdct sn sub ab col dd k0 k1 k2 k3 k5 newId)) (hq : Q () ⟨h, g, d, t, os⟩) : wpAny M A (checkBuiltinCall newId ⟨.ref C :: rest, kw⟩) Q E ⟨h, g, d, t, os⟩ := by
  have hcont : (Value.ref C :: bm).contains (.type B) = true := (List.contains_cons ..).trans (by rw [hT, F.hasB, Bool.or_true])
  have hstar := F.noStar
  unfold checkBuiltinCall
  simp only [F.newKind, F.newSplit, F.newRow]
  repeat (first | (refine wpAny_isSubtype_exc hC ?_; rw [hcont]) | refine wpAny_staticBase_exc hC ?_ | refine wpAny_madeBy_exc hC ?_ | refine wpAny_loadPart_at hC ?_ | simp only [bne_self_eq_false, Bool.false_eq_true, if_false] | wp_step)
  exact hq
end
section
variable {prog : Program} {w : World} {A : Around} {E : Value → Shared → Prop} {R : Result → Shared → Prop} {h : Heap} {g : Array GenState} {d : Drawn} {t : Nat} {os : OsState}
variable {nm q : Str} {C N : Addr} {bs bm bmB : List Value} {hdct : Bool} {sn : List Str} {sub : List Value} {ab : Bool} {col : Option Bool} {dd : Option Addr} {k0 k1 k2 k3 k5 : Option Value} {B newId initId : String}
theorem kw_new (F : ExcBaseFacts B newId initId bmB) (hT : ∀ X : String, bm.contains (.type X) = bmB.contains (.type X)) {rest : List Value} {kw : List (Str × Value)}
    (hC : h.get? C = some (excClassObj nm q C N bs bm hdct sn sub ab col dd k0 k1 k2 k3 k5 newId))
    (hq : R (.ok (.ret (.ref (h.objs.size + 1)))) ⟨(h.push (PySem.W.kdv_tup rest)).push (excO C h.objs.size), g, d, t, os⟩) (hrest : rest.length ≤ sizeLine) :
    codeAny (model prog w) A (.builtin newId ⟨.ref C :: rest, kw⟩) R ⟨h, g, d, t, os⟩ := by
  have hends := F.ends
  have hcB : (Value.ref C :: bm).contains (.type B) = true := (List.contains_cons ..).trans (by rw [hT, F.hasB, Bool.or_true])
  have hcA : (Value.ref C :: bm).contains (.type "AttributeError") = false := (List.contains_cons ..).trans (by rw [hT, F.noAttr]; rfl)
  have hcN : (Value.ref C :: bm).contains (.type "NameError") = false := (List.contains_cons ..).trans (by rw [hT, F.noName]; rfl)
  apply codeAny_builtinAt F.entry
  unfold Builtin.«BaseException.__new__»
  refine PySem.wpAt_bind ?_
  show _root_.PySem.wpAt _ _ _ (stack >>= _) _ _ _
  refine PySem.wpAt_bind (_root_.PySem.wpAt_stack fun pt below => _root_.PySem.wpAt_of_wpAny ?_)
  wp_walk
  refine _root_.PySem.wpAt_of_wpAny ?_
  rw [F.owner]
  repeat (first | with_reducible refine wpAny_madeHere_exc F.canon hC ?_ | (with_reducible refine wpAny_isSubtype_exc hC ?_; first | rw [hcB] | rw [hcA] | rw [hcN]) | with_reducible refine wpAny_loadPart_at hC ?_ | wp_step)
  show R _ _
  rw [Heap.size_push]
  exact hq
theorem kw_type (F : ExcBaseFacts B newId initId bmB) (hT : ∀ X : String, bm.contains (.type X) = bmB.contains (.type X)) {rest : List Value} {kw : List (Str × Value)} {fI : Addr} {Q : Fin → Shared → Prop}
    (hC : h.get? C = some (excClassObj nm q C N bs bm hdct sn sub ab col dd k0 k1 k2 k3 k5 newId))
    (hi : W.Looks (model prog w) h (typeLookup (.ref C) "__init__") (some (.ref fI))) (hb : ∀ self, W.Looks (model prog w) h (bindSpecial (.ref fI) self) (.ref fI, [self])) (hrest : rest.length ≤ sizeLine)
    (hq : codeAny (model prog w) A (.call (.ref fI) ⟨.ref (h.objs.size + 1) :: rest, kw⟩)
      (fun r s' => match r with | .ok (.ret v) => v = .none ∧ Q (.done (.ret (.ref (h.objs.size + 1)))) s' | .ok _ => False | .error e => E e s')
      ⟨(h.push (PySem.W.kdv_tup rest)).push (excO C h.objs.size), g, d, t, os⟩) :
    wpAny (model prog w) A (Builtin.«type.__call__» ⟨.ref C :: rest, kw⟩) Q E ⟨h, g, d, t, os⟩ := by
  repeat (first | with_reducible refine wpAny_madeBy_exc hC ?_ | with_reducible refine wpAny_loadPart_at hC ?_ | wp_step)
  refine codeAny_call_builtin_code (Code.quiet_builtin _ F.quiet) (kw_check F hT hC (kw_new F hT hC ?_ hrest))
  show wpAny _ _ _ _ _ _
  have kk : ∀ b o, h.get? b = some o → ((h.push (PySem.W.kdv_tup rest)).push (excO C h.objs.size)).get? b = some o := fun b o e => Heap.get?_push_of_some _ (Heap.get?_push_of_some _ e)
  have hC₁ := kk _ _ hC
  have hg1 : ((h.push (PySem.W.kdv_tup rest)).push (excO C h.objs.size)).get? (h.objs.size + 1) = some (excO C h.objs.size) := by heap_get
  have hself : (Value.ref C :: bm).contains (.ref C) = true := by simp
  have i1 := hi.keeps kk
  have b1 := (hb (.ref (h.objs.size + 1))).keeps kk
  unfold isInstance
  repeat (first | (with_reducible refine wpAny_isSubtype_exc hC₁ ?_; rw [hself]) | with_reducible refine wpAny_loadPart_at hg1 ?_ | wp_step)
  show wpAny _ _ (typeLookup (.ref C) _) _ _ _
  refine i1.at (wpAny_holding (wpAny_bind (b1.at (wpAny_bind (wpAny_call (codeAny_mono hq fun r s' z => ?_))))))
  rcases r with e | (v | _ | _ | _) <;> first | exact z | exact z.elim | skip
  obtain ⟨rfl, z⟩ := z
  first
    | exact wpAny_pure (wpAny_pure z)
    | (wp_walk; exact z)
theorem kw_call (F : ExcBaseFacts B newId initId bmB) (hT : ∀ X : String, bm.contains (.type X) = bmB.contains (.type X)) {rest : List Value} {kw : List (Str × Value)} {fI : Addr}
    (hC : h.get? C = some (excClassObj nm q C N bs bm hdct sn sub ab col dd k0 k1 k2 k3 k5 newId))
    (hi : W.Looks (model prog w) h (typeLookup (.ref C) "__init__") (some (.ref fI))) (hb : ∀ self, W.Looks (model prog w) h (bindSpecial (.ref fI) self) (.ref fI, [self])) (hrest : rest.length ≤ sizeLine)
    (hq : codeAny (model prog w) (A.under (.builtin "type.__call__" ⟨.ref C :: rest, kw⟩)) (.call (.ref fI) ⟨.ref (h.objs.size + 1) :: rest, kw⟩) (W.InitBack (h.objs.size + 1) R)
      ⟨(h.push (PySem.W.kdv_tup rest)).push (excO C h.objs.size), g, d, t, os⟩) :
    codeAny (model prog w) A (.call (.ref C) ⟨rest, kw⟩) R ⟨h, g, d, t, os⟩ := by
  have f1 := tc_lookup
  have f2 := tc_bind (.ref C)
  have hTy : (⟨h, g, d, t, os⟩ : Shared).TypeIs (.ref C) "type" := ⟨_, hC, rfl⟩
  apply codeAny_of_tree
  show wpAny _ _ (callAny (.ref C) _) _ _ _
  repeat (any_goals (first | with_reducible refine wpAny_loadPart_at hC ?_ | assumption | wp_step))
  refine ⟨rfl, codeAny_call_builtin_at (Code.quiet_builtin _ (by decide +kernel)) entry_typeCall (wpAny_check_type_call_sub hC (kw_type F hT hC hi hb hrest (codeAny_mono hq fun r s' z => ?_)))⟩
  rcases r with e | (v | _ | _ | _) <;> exact z
end

/-- an own exception class whose __init__ keeps its argument in the field f -/
structure ExM (P : Program) (w : World) (K : PySem.W.Frag) (mg : Str → Option Value) (base : Heap) (C fI : Addr) (fd : FuncData) (p f : Str) (k : Nat) : Prop where
  T : OexC K C
  iC : PySem.W.findIn K (.ref C) "__init__" = some (some (.ref fI))
  tI : PySem.W.typeIn K (.ref fI) = some (.type "function")
  F : FnOk P w K mg base (L2.CX P w) k fI fd [("self" : Str), p] (spI C f)
  kp : PySem.W.keepIn K (.ref C) = true
  bp : ∀ (s : Shared) (x u : Value), BindsTo s fd ⟨[x, u], []⟩ [(("self" : Str), x), (p, u)]
  bk : ∀ (s : Shared) (x u : Value), BindsTo s fd ⟨[x], [(p, u)]⟩ [(("self" : Str), x), (p, u)]
section
variable {X : Cx} {W : WX} {T : Gw} {k C : Nat} {fI : Addr} {fd : FuncData} {p f : Str}
theorem run_mkE {pins : List (Addr × Obj)} {σ : Sg} {H : Hp} {s : Shared} {Q : VK} {v : V} {u : Value} {rest : List Value} {kw : List (Str × Value)} {C : Addr} (G : ExM X.prog X.w X.K X.mg X.base C fI fd p f k) (hr : Room (k + 1) X.A) (hz : rest.length ≤ 1)
    (hb : ∀ (s : Shared) (x : Value), BindsTo s fd ⟨x :: rest, kw⟩ [(("self" : Str), x), (p, u)])
    (I : Inv X pins σ H s) (r : RelV v u) (h : ∀ a dx, H a = none → H dx = none → dx ≠ a → Q (.ref a) (upd (upd H dx (exd dx [(f, v)])) a (exo a C (some dx)))) :
    wpAny (model X.prog X.w) X.A (call (.ref C) rest kw) (EP X pins σ Q) X.xe s := by
  obtain ⟨nm, q, N, bs, bm, sn, sub, ab, col, dd, k0, k1, k2, k3, k5, hC, hbm⟩ := G.T.cls
  obtain ⟨hp, g, dr, tk, os⟩ := s
  have hsz : hp.objs.size ≤ hp.objs.size + 1 := Nat.le_succ _
  have hn : H (hp.objs.size + 1) = none := I.hok.fresh hsz
  have kk : ∀ b o, hp.get? b = some o → ((hp.push (PySem.W.kdv_tup rest)).push (excO C hp.objs.size)).get? b = some o := fun b o e => Heap.get?_push_of_some _ (Heap.get?_push_of_some _ e)
  have hget : ((hp.push (PySem.W.kdv_tup rest)).push (excO C hp.objs.size)).get? (hp.objs.size + 1) = some (excO C hp.objs.size) := by heap_get
  have I2 : Inv X pins σ (upd H (hp.objs.size + 1) (exo (hp.objs.size + 1) C none)) ⟨(hp.push (PySem.W.kdv_tup rest)).push (excO C hp.objs.size), g, dr, tk, os⟩ :=
    I.laid (t' := tk) kk hsz (exo_ok hget)
  have r2 : Vals [V.ref (hp.objs.size + 1), v] [Value.ref (hp.objs.size + 1), u] := .cons rfl (.cons r .nil)
  have hq : spI C f [V.ref (hp.objs.size + 1), v] (upd H (hp.objs.size + 1) (exo (hp.objs.size + 1) C none)) (fun v' H2 => v' = .non ∧ Q (.ref (hp.objs.size + 1)) H2) (fun _ _ _ => False) := by
    refine ⟨_, _, rfl, upd_same, fun d hd hne => ⟨rfl, ?_⟩⟩
    have hd0 : H d = none := by rw [upd_ne hne] at hd; exact hd
    have e : upd (upd (upd H (hp.objs.size + 1) (exo (hp.objs.size + 1) C none)) d (exd d [(f, v)])) (hp.objs.size + 1) (exo (hp.objs.size + 1) C (some d)) = upd (upd H d (exd d [(f, v)])) (hp.objs.size + 1) (exo (hp.objs.size + 1) C (some d)) := by
      funext b
      unfold upd
      by_cases hb : b = hp.objs.size + 1
      · rw [if_pos hb, if_pos hb]
      · rw [if_neg hb, if_neg hb]
        by_cases hb2 : b = d
        · rw [if_pos hb2, if_neg hb]
        · rw [if_neg hb2, if_neg hb]
    rw [e]
    exact h _ d hn hd0 hne
  refine wpAny_call (kw_call _root_.PySem.F.excBase_ValueError (fun Y => refsVE_contains Y bm hbm) (I.kIn _ _ hC) (PySem.W.looks_findIn I.kIn G.iC) (fun self => PySem.W.bind_fn I.kIn self G.tI) (by rw [sizeLine_eq]; omega)
    (codeAny_mono (G.F.run _ X.stack _ _ ⟨Value.ref (hp.objs.size + 1) :: rest, kw⟩ [Value.ref (hp.objs.size + 1), u] _ _ (fun _ _ _ => False) (hr.make C rest kw) (I2.env0.make C rest kw) (hb _ _) r2 hq) fun r s' hq' => ?_))
  cases r with
  | error er =>
    obtain ⟨_, _, _, _, _, _, _, _, _, _, _, _, z⟩ := hq'
    exact z.elim
  | ok fl =>
    cases fl with
    | ret u =>
      obtain ⟨v', H', I3, rv, ev, q3⟩ := I2.after hq'
      subst ev
      exact ⟨rv, V.ref (hp.objs.size + 1), H', I3, rfl, q3⟩
    | next => exact False.elim hq'
    | brk => exact False.elim hq'
    | cont => exact False.elim hq'
theorem exn_new {g : Gv} {m : Mem} {L : Lm} {H : Hp} {Q : VK} {d : D} {v : V} {Cn : Nat} (r : MR g m L H) (dv : DV g L H d v) (q : QE g L H Q (.exn Cn [(f, d)]) m) :
    ∀ a dx, H a = none → H dx = none → dx ≠ a → Q (.ref a) (upd (upd H dx (exd dx [(f, v)])) a (exo a (g.T Cn) (some dx))) := fun a dx ha hd hne => by
  have ha1 : upd H dx (exd dx [(f, v)]) a = none := by rw [upd_ne (Ne.symm hne)]; exact ha
  have o1 : Ord L L H (upd H dx (exd dx [(f, v)])) := Ord.new1 hd
  have r1 : MR g m L (upd H dx (exd dx [(f, v)])) := r.new1 hd
  have o2 : Ord L L (upd H dx (exd dx [(f, v)])) (upd (upd H dx (exd dx [(f, v)])) a (exo a (g.T Cn) (some dx))) := Ord.new1 ha1
  have r2 := r1.new1 (o := exo a (g.T Cn) (some dx)) ha1
  refine q _ L _ (o1.trans o2) r2 ⟨a, some dx, [(f, v)], rfl, upd_same, r.fresh ha, ⟨v, [], rfl, dv.mono (o1.trans o2), rfl⟩, .inr ⟨dx, rfl, ?_, r.fresh hd⟩⟩
  rw [upd_ne hne, upd_same]
def mkExn (C : Nat) (f : Str) : List D → M D := fun xs => match xs with
  | [d] => pure (.exn C [(f, d)])
  | _ => bad
def mExn (C : Nat) (f : Str) (a : Loc → M (List D)) : Loc → M D := fun l => do mkExn C f (← a l)
section
variable {x : Str} {p1 pos kpos : Pos} {e : Expr} {a : Loc → M (List D)} {b : Loc → M D}
theorem e_mkE {n : Nat} (G : ExM X.prog X.w X.K X.mg X.base (T C) fI fd p f n) (hr : Room (n + 1) X.A) (hg : Gl X x) (hm : X.mg x = some (.ref (T C))) (ha : PA X [e] (dnA ⟨X.K, T⟩ W a)) (hdb : (x == ("__debug__" : Str)) = false := by decide)
    (he : starEach [e] X.env = (false, eval e X.env) :: starEach [] X.env := by rfl) :
    PE X (.Call (.Name x p1) [e] [] pos) (dnE ⟨X.K, T⟩ W (mExn C f a)) := by
  refine ⟨fun pins s σ H Q I h => ?_⟩
  refine wpAny_Call_Name_kw (ld_glob I hg hm ?_ hdb)
  refine PySem.W.callWith_K (h₀ := X.base) I.ok.mod.kin G.kp (thn (ha.run pos pins s σ H _ I (dn_args (F' := mkExn C f) h)) fun us s1 ⟨vs, H1, I1, r, q⟩ => ⟨I1.kIn, ?_⟩) he rfl
  obtain ⟨xs, m1, L1, r1, d1, q1⟩ := q
  unfold mkExn at q1
  split at q1
  · rename_i d
    obtain ⟨v, vr, rfl, dv, rfl⟩ := d1
    cases r with
    | cons ru rn =>
      cases rn
      exact run_mkE G hr (Nat.le_refl _) (fun s x => G.bp s x _) I1 ru (exn_new r1 dv q1)
  · exact q1.elim
def mExnK (C : Nat) (f : Str) (b : Loc → M D) : Loc → M D := fun l => do mkExn C f [← b l]
theorem e_mkEk {n : Nat} (G : ExM X.prog X.w X.K X.mg X.base (T C) fI fd p f n) (hr : Room (n + 1) X.A) (hg : Gl X x) (hm : X.mg x = some (.ref (T C))) (hb : PE X e (dnE ⟨X.K, T⟩ W b)) (hdb : (x == ("__debug__" : Str)) = false := by decide)
    (hk : (backToKw pos (keywordEach [⟨some p, e, kpos⟩] X.env)).filterMap (·.1) = [p] := by rfl) :
    PE X (.Call (.Name x p1) [] [⟨some p, e, kpos⟩] pos) (dnE ⟨X.K, T⟩ W (mExnK C f b)) := by
  refine ⟨fun pins s σ H Q I h => ?_⟩
  refine wpAny_Call_Name_kw (ld_glob I hg hm ?_ hdb)
  refine PySem.W.callWith_KW0 (h₀ := X.base) I.ok.mod.kin G.kp rfl (thn ((pk_cons (nm := some p) (kpos := kpos) hb pk_nil).run pos pins s σ H (fun vs H1 => ∃ v, vs = [v] ∧ Rdy1 ⟨X.K, T⟩ W σ Q (fun d => mkExn C f [d]) v H1) I ?_) fun us s1 ⟨vs, H1, I1, r, q⟩ => ⟨I1.kIn, ?_⟩)
  · obtain ⟨l, m, L, sr, q⟩ := dn_arg1 (F' := fun d => mkExn C f [d]) h
    exact ⟨l, m, L, sr, Wp.mono q (fun d m1 z v L1 H1 o1 r1 d1 => ⟨v, rfl, z v L1 H1 o1 r1 d1⟩) fun _ _ z => z⟩
  · obtain ⟨v, rfl, d, m1, L1, r1, dv, q1⟩ := q
    rw [hk]
    cases r with
    | cons ru rn =>
      cases rn
      exact run_mkE G hr (Nat.zero_le _) (fun s x => G.bk s x _) I1 ru (exn_new r1 dv q1)
end
end
end Tw

set_option Elab.async false
set_option linter.all false
set_option maxRecDepth 100000
set_option maxHeartbeats 1000000
/-! Built-in functions over trees; isinstance; fields of an exception. -/
namespace Tw
open PySem PySem.Spec PyProof.Rows L2 NdefX

/-! ### a built-in called -/
def RB (g : Gv) (r : List V → Hp → VK → Prop) (F : List D → M D) : Prop := ∀ xs vs m L H Q, MR g m L H → DVs g L H xs vs → Wp (F xs m) (QE g L H Q) (fun _ _ => False) → r vs H Q
def NoXB (F : List D → M D) : Prop := ∀ xs m z m', F xs m ≠ .exc z m'
def mB (F : List D → M D) (a : Loc → M (List D)) : Loc → M D := fun l => do F (← a l)
section
variable {X : Cx} {W : WX} {T : Gw} {r : List V → Hp → VK → Prop} {F : List D → M D} {a : Loc → M (List D)} {x : Str} {p pos : Pos} {e : Expr} {es : List Expr} {id : String}
theorem dn_callB {g : Gv} (hr : RB g r F) (hn : NoXB F) {σ : Sg} {H : Hp} {Q : VK} (h : dnE g W (mB F a) σ H Q) : tCB r (dnA g W a) σ H Q := by
  obtain ⟨l, m, L, s, q⟩ := h
  refine ⟨l, m, L, s, (Wp.bnd.mp q).mono (fun xs m1 q1 vs L1 H1 o1 r1 d1 => ?_) fun _ _ z => z⟩
  exact hr xs vs m1 L1 H1 Q r1 d1 ((wp_nox q1 (hn xs m1)).mono (fun _ _ z => z.mono o1) fun _ _ z => z)
theorem e_callB (hc : CallR X (.builtin id) r) (hr : RB ⟨X.K, T⟩ r F) (hn : NoXB F) (hg : Gl X x) (hm : X.mg x = none) (hv : bootBuiltins x = some (.builtin id)) (ha : PA X (e :: es) (dnA ⟨X.K, T⟩ W a)) (hnn : x ≠ "__name__" := by decide) (hdb : (x == ("__debug__" : Str)) = false := by decide)
    (he : starEach (e :: es) X.env = (false, eval e X.env) :: starEach es X.env := by rfl) (hpl : (backTo pos (starEach es X.env)).any (·.1) = false := by rfl) : PE X (.Call (.Name x p) (e :: es) [] pos) (dnE ⟨X.K, T⟩ W (mB F a)) :=
  pe_imp (pe_callB hc hg hm hv ha hnn hdb he hpl) fun σ H Q h => dn_callB hr hn h
theorem e_callT (hc : CallR X (.type id) r) (hr : RB ⟨X.K, T⟩ r F) (hn : NoXB F) (hg : Gl X x) (hm : X.mg x = none) (hv : bootBuiltins x = some (.type id)) (ha : PA X (e :: es) (dnA ⟨X.K, T⟩ W a)) (hnn : x ≠ "__name__" := by decide) (hdb : (x == ("__debug__" : Str)) = false := by decide)
    (he : starEach (e :: es) X.env = (false, eval e X.env) :: starEach es X.env := by rfl) (hpl : (backTo pos (starEach es X.env)).any (·.1) = false := by rfl) : PE X (.Call (.Name x p) (e :: es) [] pos) (dnE ⟨X.K, T⟩ W (mB F a)) :=
  pe_imp (pe_callTy hc hg hm hv ha hnn hdb he hpl) fun σ H Q h => dn_callB hr hn h
end

/-! ### isinstance -/
inductive TyC where
  | b (n : String) | own (C : Nat)
  deriving DecidableEq
def TyC.v (g : Gv) : TyC → Value
  | .b n => .type n
  | .own C => .ref (g.T C)
structure IsP where
  tbl : TyC → TyC → Option Bool
  ex : Nat → Bool
  ow : Nat → Bool
structure IsOk (g : Gv) (P : IsP) : Prop where
  tbl : ∀ t c b, P.tbl t c = some b → PySem.W.kitOne g.K (t.v g) (c.v g) = some b
  ex : ∀ C, P.ex C = true → ExcC g.K (g.T C)
  ow : ∀ C, P.ow C = true → ∀ H a dx fs, H a = some (.ins (g.T C) dx fs) → TyOf g.K H (.ref a) (.ref (g.T C))
def tyD (P : IsP) (m : Mem) : D → Option TyC
  | .non => some (.b "NoneType")
  | .bl _ => some (.b "bool")
  | .int _ => some (.b "int")
  | .str _ => some (.b "str")
  | .tup _ => some (.b "tuple")
  | .lst _ => some (.b "list")
  | .scr _ => some (.b "list")
  | .ins C _ => if P.ow C then some (.own C) else none
  | .exn C _ => if P.ex C then some (.own C) else none
  | .ref n => match m.at_ n with
    | some (.lst _) => some (.b "list")
    | some (.ins C _) => if P.ow C then some (.own C) else none
    | _ => none
  | _ => none
def clD : D → Option TyC
  | .ty n => some (.b n)
  | .obj i => some (.own i)
  | _ => none
def clDs : List D → Option (List TyC)
  | [] => some []
  | d :: ds => match clD d, clDs ds with
    | some k, some ks => some (k :: ks)
    | _, _ => none
def anyT (P : IsP) (t : TyC) : List TyC → Option Bool
  | [] => some false
  | k :: ks => match P.tbl t k with
    | some true => some true
    | some false => anyT P t ks
    | none => none
/-- the class, or the classes, that are asked for -/
def clK : D → Option (TyC ⊕ List TyC)
  | .tup cs => (clDs cs).map .inr
  | .ty n => some (.inl (.b n))
  | .obj i => some (.inl (.own i))
  | _ => none
def isV (P : IsP) (m : Mem) (x c : D) : Option Bool := match tyD P m x, clK c with
  | some t, some (.inl k) => P.tbl t k
  | some t, some (.inr ks) => anyT P t ks
  | _, _ => none
theorem isV_cases {P : IsP} {m : Mem} {x c : D} {b : Bool} (e : isV P m x c = some b) : ∃ t, tyD P m x = some t ∧ ((∃ k, clD c = some k ∧ P.tbl t k = some b) ∨ ∃ cs ks, c = .tup cs ∧ clDs cs = some ks ∧ anyT P t ks = some b) := by
  unfold isV at e
  cases e1 : tyD P m x with
  | none => rw [e1] at e; cases e
  | some t =>
    refine ⟨t, rfl, ?_⟩
    rw [e1] at e
    cases c with
    | tup cs =>
      cases e2 : clDs cs with
      | none => simp only [clK, e2] at e; cases e
      | some ks =>
        simp only [clK, e2] at e
        exact .inr ⟨cs, ks, rfl, e2, e⟩
    | ty n => exact .inl ⟨_, rfl, e⟩
    | obj n => exact .inl ⟨_, rfl, e⟩
    | _ => cases e
def dIs (P : IsP) : List D → M D := fun xs m => match xs with
  | [x, c] => (match isV P m x c with
    | some b => .ok (.bl b) m
    | none => .bad)
  | _ => .bad
theorem noxb_is {P : IsP} : NoXB (dIs P) := fun xs m z m' e => by
  unfold dIs at e
  split at e
  · split at e <;> cases e
  · cases e
section
variable {X : Cx} {g : Gv} {P : IsP} {pins : List (Addr × Obj)} {σ : Sg} {H : Hp} {s : Shared} {L : Lm} {m : Mem}
theorem kit_D (ok : IsOk ⟨X.K, g.w⟩ P) (I : Inv X pins σ H s) (mr : MR ⟨X.K, g.w⟩ m L H) {x : D} {v : V} {u : Value} {t : TyC} (d : DV ⟨X.K, g.w⟩ L H x v) (r : RelV v u) (e : tyD P m x = some t) :
    ∃ Pr : Heap → Prop, PySem.W.KitX X.K u (t.v ⟨X.K, g.w⟩) Pr ∧ Pr s.heap ∧ u ≠ .builtin "__main__.__loader__#opaque" := by
  cases x with
  | non => cases e; rw [show v = .non from d] at r; exact kit_of I r (.base .non)
  | bl b => cases e; rw [show v = .bl b from d] at r; exact kit_of I r (.base (.bl b))
  | int b => cases e; rw [show v = .int b from d] at r; exact kit_of I r (.base (.int b))
  | str b => cases e; rw [show v = .str b from d] at r; exact kit_of I r (.base (.str b))
  | tup c =>
    cases e
    obtain ⟨a, vs, rfl, h, _⟩ := d
    rcases h with ⟨h, _⟩ | ⟨o, its, n, h1, h2, _⟩
    · rcases h with h | ⟨ob, h⟩
      · exact kit_of I r (.base (.tup h))
      · exact kit_of I r (.fTuple h)
    · exact kit_of I r (.kTuple h1 h2)
  | lst c => cases e; obtain ⟨a, vs, rfl, h, _⟩ := d; exact kit_of I r (.base (.lst h.1))
  | scr c =>
    cases e
    obtain ⟨a, vs, rfl, h, _⟩ := d
    rcases h with ⟨h, _⟩ | ⟨o, its, n, h1, h2, _⟩
    · rcases h with h | ⟨ob, h⟩
      · exact kit_of I r (.base (.lst h))
      · exact kit_of I r (.base (.frz h))
    · exact kit_of I r (.kList h1 h2)
  | ins C fs =>
    have e : (if P.ow C = true then some (TyC.own C) else none) = some t := e
    by_cases hC : P.ow C = true
    · rw [if_pos hC] at e
      cases e
      obtain ⟨a, dx, gs, rfl, h, _⟩ := d
      exact kit_of I r (.base (ok.ow C hC H a dx gs h))
    · rw [if_neg hC] at e; cases e
  | exn C fs =>
    have e : (if P.ex C = true then some (TyC.own C) else none) = some t := e
    by_cases hC : P.ex C = true
    · rw [if_pos hC] at e
      cases e
      obtain ⟨a, o, gs, rfl, h, _, _, h2⟩ := d
      cases (show u = Value.ref a from r)
      obtain ⟨t1, ho⟩ := exo_at I.hok h
      have E := ok.ex C hC
      have hcl : (PySem.W.clsIn X.K (g.w.T C)).isSome = true := by
        have z := E.hd
        obtain ⟨cd, hc, _⟩ := PySem.W.any_some z
        rw [hc]; rfl
      rcases h2 with ⟨rfl, _⟩ | ⟨dx, rfl, hd, _⟩
      · exact ⟨_, PySem.W.kitx_exc (od := none) hcl E.hg E.hk E.hs E.ha E.hn E.ht E.hm, ⟨ho, rfl, rfl, trivial⟩, fun z => nomatch z⟩
      · obtain ⟨mA, hns, _⟩ := exd_at I.hok hd
        obtain ⟨od, hod, _⟩ := lookIn_ns hns
        exact ⟨_, PySem.W.kitx_exc (od := some od) hcl E.hg E.hk E.hs E.ha E.hn E.ht E.hm, ⟨ho, rfl, rfl, hod⟩, fun z => nomatch z⟩
    · rw [if_neg hC] at e; cases e
  | ref n =>
    have e : (match m.at_ n with
      | some (.lst _) => some (.b "list")
      | some (.ins C _) => if P.ow C then some (.own C) else none
      | _ => none : Option TyC) = some t := e
    cases c : m.at_ n with
    | none => rw [c] at e; cases e
    | some mo =>
      rw [c] at e
      obtain ⟨a, h1, h2⟩ := mr.obj n mo c
      have ev := d.2 a h1
      rw [ev] at r
      cases mo with
      | lst ds =>
        cases e
        obtain ⟨vs, h3, _⟩ := h2
        exact kit_of I r (.base (.lst h3))
      | ins C fs =>
        have e : (if P.ow C = true then some (TyC.own C) else none) = some t := e
        by_cases hC : P.ow C = true
        · rw [if_pos hC] at e
          cases e
          obtain ⟨dx, gs, h3, _⟩ := h2
          exact kit_of I r (.base (ok.ow C hC H a dx gs h3))
        · rw [if_neg hC] at e; cases e
      | dic k => cases e
      | cell d => cases e
  | ty n => cases e
  | obj n => cases e
  | clo i n => cases e
theorem clD_v {g : Gv} {L : Lm} {H : Hp} {c : D} {v : V} {k : TyC} (d : DV g L H c v) (e : clD c = some k) : ClsV v (k.v g) := by
  cases c with
  | ty n => cases e; rw [show v = .ty n from d]; exact .ty n
  | obj n => cases e; rw [show v = .ref (g.T n) from d]; exact .own _
  | _ => cases e
theorem clDs_v {g : Gv} {L : Lm} {H : Hp} : ∀ {cs : List D} {vs : List V} {ks : List TyC}, DVs g L H cs vs → clDs cs = some ks → Paired ClsV vs (ks.map (TyC.v g))
  | [], _, _, h, e => by cases e; rw [show _ = [] from h]; exact .nil
  | c :: cs, _, ks, ⟨v, r, e1, h1, h2⟩, e => by
    subst e1
    unfold clDs at e
    split at e
    · rename_i k ks' e1 e2
      cases e
      exact .cons (clD_v h1 e1) (clDs_v h2 e2)
    · cases e
theorem anyT_kit {g : Gv} (ok : IsOk g P) {t : TyC} : ∀ {ks : List TyC} {b : Bool}, anyT P t ks = some b → PySem.W.kitAny g.K (t.v g) (ks.map (TyC.v g)) = some b
  | [], b, e => by cases e; exact kitAny_nil
  | k :: ks, b, e => by
    unfold anyT at e
    split at e
    · rename_i h
      cases e
      exact kitAny_cons (ok.tbl _ _ _ h) (fun z => by cases z) fun _ => rfl
    · rename_i h
      exact kitAny_cons (ok.tbl _ _ _ h) (fun _ => anyT_kit ok e) fun z => by cases z
    · cases e
def rIsD (g : Gv) (P : IsP) : List V → Hp → VK → Prop := fun vs H Q => ∃ x c v w m L b, vs = [v, w] ∧ MR g m L H ∧ DV g L H x v ∧ DV g L H c w ∧ isV P m x c = some b ∧ Q (.bl b) H
theorem rb_is {g : Gv} {P : IsP} : RB g (rIsD g P) (dIs P) := fun xs vs m L H Q mr d q => by
  unfold dIs at q
  split at q
  · rename_i x c
    split at q
    · rename_i b e
      obtain ⟨v, _, rfl, d1, w, _, rfl, d2, rfl⟩ := d
      exact ⟨x, c, v, w, m, L, b, rfl, mr, d1, d2, e, q _ L H Ord.refl mr rfl⟩
    · exact q.elim
  · exact q.elim
theorem call_isD {T : Gw} (ok : IsOk ⟨X.K, T⟩ P) : CallR X (.builtin "isinstance") (rIsD ⟨X.K, T⟩ P) := by
  intro pins s σ H xs us Q I r h
  obtain ⟨x, c, v, w, m, L, b, rfl, mr, d1, d2, e, q⟩ := h
  obtain ⟨u1, u2, rfl, r1, r2⟩ := vals2 r
  obtain ⟨t, et, hcase⟩ := isV_cases e
  obtain ⟨Pr, Z, p, hx⟩ := kit_D (g := ⟨X.K, T⟩) ok I mr d1 r1 et
  rcases hcase with ⟨k, ek, e⟩ | ⟨cs, ks, rfl, eks, e⟩
  · have k1 := clD_v d2 ek
    have e2 := k1.eq r2
    subst e2
    exact PySem.W.kia_one Z I.kIn p (ok.tbl _ _ _ e) hx fun tk => ⟨.bl b, H, I.tok tk, rfl, q⟩
  · obtain ⟨tp, vs, rfl, hF, dvs⟩ := d2
    cases (show u2 = Value.ref tp from r2)
    have pr := clDs_v dvs eks
    have ea := anyT_kit ok e
    have fin : ∀ {its : Array Value} {n : Nat} {o : Obj}, Vals vs its.toList → s.heap.get? tp = some o → o.cls = .type "tuple" → o.data = .seq its n → wpAny (model X.prog X.w) X.A (call (.builtin "isinstance") [u1, .ref tp]) (EP X pins σ Q) X.xe s := fun {its n o} rv h1 h2 h3 => by
      have e3 := ClsV.all pr rv
      obtain ⟨oc, od, dt, sl⟩ := o
      simp only at h2 h3
      subst h2 h3
      rw [← e3] at ea
      exact PySem.W.kia_tup (its := its.toList) Z I.kIn p (by rw [h1, Array.toArray_toList]) ea hx fun tk => ⟨.bl b, H, I.tok tk, rfl, q⟩
    rcases hF with ⟨h, _⟩ | ⟨o, its, n, h1, h2, h3, _, h5⟩
    · rcases h with h | ⟨ob, h⟩
      · obtain ⟨_, its, rv, o, h1, h2, n, h3⟩ := (show ObjOk X.prog X.w H s.heap tp (.tup vs) from I.hok tp _ h)
        exact fin (its := its.toArray) (by simpa using rv) h1 h2 h3
      · obtain ⟨_, _, its, rv, o, h1, h2, n, h3⟩ := (show ObjOk X.prog X.w H s.heap tp (.frz ob (.tup vs)) from I.hok tp _ h)
        exact fin (its := its.toArray) (by simpa using rv) h1 h2 h3
    · exact fin h5 (I.kIn _ _ h1) h2 h3
end
end Tw

set_option Elab.async false
set_option linter.all false
set_option maxRecDepth 100000
set_option maxHeartbeats 1000000
/-! Lambdas that capture nothing: made, and called. -/
namespace Tw
open PySem PySem.Spec PyProof.Rows L2 LamX NdefX
section
variable {X : Cx} {pins : List (Addr × Obj)} {σ : Sg} {H : Hp} {s : Shared}
theorem lam_track {F : LF} {cl : List (Str × Addr)} {c : Addr} {o : Obj} {t' : Nat} {pm ctv : Value} (I : Inv X pins σ H s) (ho : o = { cls := .type "function", data := .func (PySem.W.kla_fn "<lambda>" F.qual F.params F.body F.scope cl pm (.ref c) ctv) }) :
    Inv X pins σ (upd H s.heap.objs.size (LamO s.heap.objs.size F cl c)) { s with heap := s.heap.push o, toks := t' } := by
  subst ho
  have e : (s.heap.push ({ cls := .type "function", data := .func (PySem.W.kla_fn "<lambda>" F.qual F.params F.body F.scope cl pm (.ref c) ctv) } : Obj)).get? s.heap.objs.size = some _ := Heap.get?_push_size _ rfl
  exact I.laid (a := s.heap.objs.size) (fun b u e => Heap.get?_push_of_some _ e) (Nat.le_refl _) ⟨⟨_, _, pm, ctv, e⟩, ⟨_, e⟩, fun h1 h2 ⟨od, sl, p, t, z⟩ st => ⟨od, sl, p, t, st _ z⟩⟩
theorem lam_new {T : List (Addr × Str)} {c P : Addr} {params : Arguments} {body : Expr} {scope : Scope} {pos : Pos} {E : Value → Shared → Prop} {Q : Value → Shared → Prop} (I : Inv X pins σ H s) (TB : TabB X.base X.mg c P) (hcode : X.env.code = .ref c)
    (hm : (P, X.env.qual ++ "<lambda>") ∈ T) (hu : ∀ p ∈ T, p.1 = P → p.2 = X.env.qual ++ "<lambda>") (hT : Tabs T H) (hdef : defaultsOf params X.env = ([], [])) (hfree : ∀ y ∈ scope.names, y.2 = .free → ∃ c, X.env.cells.lookup y.1 = some c)
    (h : ∀ (f c' : Addr) (H1 : Hp) (s' : Shared), Inv X pins σ H1 s' → ExtN H H1 → (∀ b, H1 b = none → H b = none) → Tabs T H1 → H f = none → H1 f = some (LamO f ⟨X.env.qual ++ "<lambda>", params, body, scope⟩ (cloFrom X.env.cells scope.names []) c') →
      H1 c' = some (CodeO c' (X.env.qual ++ "<lambda>")) → (H c' = none ∨ H c' = some (CodeO c' (X.env.qual ++ "<lambda>"))) → Q (.ref f) s') :
    wpAny (model X.prog X.w) X.A (eval (.Lambda params body scope pos) X.env) Q E s := by
  obtain ⟨ps, hP, ht, ha⟩ := hT (P, X.env.qual ++ "<lambda>") hm
  apply PySem.W.kla_eval hdef
  have bP : s.heap.BuiltinsAt X.mg P := TB.bm.keeps I.bk
  have gP : s.heap.get? P = some { cls := .none, data := .fields ps } := I.hok P _ hP
  cases hc : codeAmong pos ps.toList with
  | some cv =>
    obtain ⟨c', rfl, hco⟩ := ha pos cv hc
    refine PySem.W.kla_makeFunctionHit (mg := X.mg) (ps := ps) (P := P) (c := c) (closure_ok hfree) I.ok.glob (I.mod.glob.keeps I.bk) hcode (TB.code.keeps I.bk) gP ht hc bP fun ctv h' tk hx hsz => ?_
    have nF : H h'.objs.size = none := I.hok.fresh hsz
    have I2 := lam_track (F := ⟨X.env.qual ++ "<lambda>", params, body, scope⟩) (cl := cloFrom X.env.cells scope.names []) (c := c') (t' := tk) (pm := (X.mg "__name__").getD .none) (ctv := ctv) (I.kept (t' := tk) hx) rfl
    exact h h'.objs.size c' _ _ I2 (fun b o e n => (upd_ne (ne_of_none e nF)).trans e) (fun b e => upd_none e) (hT.ext fun b o e => (upd_ne (ne_of_none e nF)).trans e) nF upd_same ((upd_ne (ne_of_none hco nF)).trans hco) (.inr hco)
  | none =>
    refine PySem.W.kla_makeFunction (mg := X.mg) (ps := ps) (P := P) (c := c) (closure_ok hfree) I.ok.glob (I.mod.glob.keeps I.bk) hcode (TB.code.keeps I.bk) gP ht hc TB.gP bP fun c' ctv h' tk hx hge hlt hrec htb => ?_
    obtain ⟨c2, oc, vs, t, e2, hoc, hd, hv⟩ := hrec
    cases e2
    have nC : H c' = none := I.hok.fresh hge
    have hsz : s.heap.objs.size ≤ h'.objs.size := Nat.le_trans hge (Nat.le_of_lt hlt)
    have nF0 : H h'.objs.size = none := I.hok.fresh hsz
    have I1 := inv_table (t' := tk) (more := #[rawInt pos.line, rawInt pos.col, .ref c']) (h' := h') I hP (fun b o hb e => hx b o hb e) htb hge ⟨oc, vs, t, hoc, hd, hv⟩
    have hE : ExtN H (upd (upd H P (.tbl (ps ++ #[rawInt pos.line, rawInt pos.col, .ref c']))) c' (CodeO c' (X.env.qual ++ "<lambda>"))) := fun b o e n => by
      have nb : b ≠ P := fun z => n ps (Option.some.inj (e.symm.trans (by rw [z]; exact hP)))
      rw [upd_ne (ne_of_none e nC), upd_ne nb]; exact e
    have eL : (ps ++ #[rawInt pos.line, rawInt pos.col, .ref c']).toList = ps.toList ++ [rawInt pos.line, rawInt pos.col, .ref c'] := by simp
    have T1 : Tabs T (upd (upd H P (.tbl (ps ++ #[rawInt pos.line, rawInt pos.col, .ref c']))) c' (CodeO c' (X.env.qual ++ "<lambda>"))) := fun p hp => by
      by_cases hb : p.1 = P
      · rw [hu p hp hb, hb]
        refine ⟨_, (upd_ne (ne_of_none hP nC)).trans upd_same, by rw [eL]; exact PySem.TriplesOk_snoc _ _ _ _ ht, fun p' cv hcv => ?_⟩
        rw [eL] at hcv
        rcases among_app _ ht hcv with z | z
        · obtain ⟨c0, e1, e2⟩ := ha p' cv z
          exact ⟨c0, e1, hE _ _ e2 LamX.codeO_ne⟩
        · exact ⟨c', z, upd_same⟩
      · obtain ⟨pq, a1, a2, a3⟩ := hT p hp
        refine ⟨pq, ((upd_ne (ne_of_none a1 nC)).trans (upd_ne hb)).trans a1, a2, fun p' cv hcv => ?_⟩
        obtain ⟨c0, e1, e2⟩ := a3 p' cv hcv
        exact ⟨c0, e1, hE _ _ e2 LamX.codeO_ne⟩
    have nF := I1.hok.fresh (Nat.le_refl h'.objs.size)
    have I2 := lam_track (F := ⟨X.env.qual ++ "<lambda>", params, body, scope⟩) (cl := cloFrom X.env.cells scope.names []) (c := c') (t' := tk) (pm := (X.mg "__name__").getD .none) (ctv := ctv) I1 rfl
    exact h h'.objs.size c' _ _ I2 (fun b o e n => (upd_ne (ne_of_none (hE b o e n) nF)).trans (hE b o e n)) (fun b e => upd_none (upd_none (upd_none e))) (T1.ext fun b o e => (upd_ne (ne_of_none e nF)).trans e) nF0 upd_same ((upd_ne (Nat.ne_of_lt hlt)).trans upd_same) (.inl nC)
end
section
variable {g : Gv} {m : Mem} {L : Lm} {H H1 : Hp}
theorem Ord.ext (e : ExtN H H1) (n : ∀ b, H1 b = none → H b = none) : Ord L L H H1 :=
  ⟨⟨Nat.le_refl _, fun _ _ => .inl rfl, fun n a h z => (by rw [L.top n h] at z; cases z), fun b u z _ h => e b u z h, n, fun _ h => .inl h⟩, fun _ _ h => h⟩
theorem MR.ext (r : MR g m L H) (e : ExtN H H1) (n : ∀ b, H1 b = none → H b = none) (t : Tabs g.tb H1) : MR g m L H1 :=
  ⟨r.nx, fun k mo z => by
    obtain ⟨b, e1, e2⟩ := r.obj k mo z
    obtain ⟨u, e3⟩ := e2.some_
    refine ⟨b, e1, e2.mono (Ord.ext e n) ?_⟩
    rw [e3]
    exact e b u e3 fun ps q => e2.noTab.1 ps (by rw [e3, q]), r.dead, r.inj, fun a u z => by
    obtain ⟨q, z2⟩ := r.tmp a u z
    obtain ⟨vs, rfl⟩ := r.tmpT a u z
    exact ⟨e a _ q (fun ps y => by cases y), z2⟩, t, r.tmpT⟩
theorem MR.fz_ext (r : MR g m L H) {a : Addr} {φ : Heap → Prop} (h : H a = some (.ext φ)) : Fz L a := by
  refine ⟨fun n e => ?_, ?_⟩
  · cases c : m.at_ n with
    | none => rw [r.dead n c] at e; cases e
    | some mo =>
      obtain ⟨b, e1, e2⟩ := r.obj n mo c
      rw [e] at e1; cases e1
      exact e2.noTab.2 φ h
  · cases c : L.tmp a with
    | none => rfl
    | some u =>
      obtain ⟨vs, rfl⟩ := r.tmpT a u c
      rw [(r.tmp a _ c).1] at h
      cases h
end
section
variable {X : Cx} {W : WX} {T : Gw}
/-- a lambda that captures nothing -/
theorem e_lam {i : Nat} {c P : Addr} {params : Arguments} {body : Expr} {scope : Scope} {pos : Pos} (hl : T.lam i = ⟨X.env.qual ++ "<lambda>", params, body, scope⟩) (TB : TabB X.base X.mg c P) (hcode : X.env.code = .ref c)
    (hm : (P, X.env.qual ++ "<lambda>") ∈ T.tb) (hu : ∀ p ∈ T.tb, p.1 = P → p.2 = X.env.qual ++ "<lambda>") (hdef : defaultsOf params X.env = ([], [])) (hfree : ∀ y ∈ scope.names, y.2 ≠ .free) (hcl : cloFrom X.env.cells scope.names [] = []) :
    PE X (.Lambda params body scope pos) (dnE ⟨X.K, T⟩ W (mC (.clo i []))) := by
  refine ⟨fun pins s σ H Q I ⟨l, m, L, sr, q⟩ => ?_⟩
  refine lam_new (T := T.tb) I TB hcode hm hu sr.mr.tabs hdef (fun y hy e => absurd e (hfree y hy)) fun f c' H1 s' I1 eN nn T1 hf h1 h2 h3 => ?_
  rw [hcl] at h1
  have r1 := sr.mr.ext eN nn T1
  refine ⟨.ref f, H1, I1, rfl, (show QE ⟨X.K, T⟩ L H Q (.clo i []) m from q) _ L H1 (Ord.ext eN nn) r1 ⟨rfl, f, c', rfl, ?_, r1.fz_ext h1, ?_, r1.fz_ext h2⟩⟩
  · show H1 f = some (LamO f (T.lam i) [] c')
    rw [hl]; exact h1
  · show H1 c' = some (CodeO c' (T.lam i).qual)
    rw [hl]; exact h2
end

/-! ### called -/
abbrev lnf (F : LF) (c : Addr) : NF := ⟨"<lambda>", F.qual, F.params, [], F.scope, [], c⟩
/-- the promise of the lambda i -/
def LOk (P : Program) (w : World) (K : PySem.W.Frag) (mg : Str → Option Value) (base : Heap) (T : Gw) (k i : Nat) (G : List D → M D) : Prop :=
  ∀ (A : Around) (outer : List Env) (s : Shared) (H : Hp) (us : List Value) (vs : List V) (f c : Addr) (Q : VK) (E : XK), Room k A → Env0 P w K mg base A outer s H → H f = some (LamO f (T.lam i) [] c) → H c = some (CodeO c (T.lam i).qual) → Vals vs us →
    (∃ ds m L, MR ⟨K, T⟩ m L H ∧ DVs ⟨K, T⟩ L H ds vs ∧ Wp (G ds m) (QE ⟨K, T⟩ L H Q) (QX ⟨K, T⟩ L H E)) → codeAny (model P w) A (.call (.ref f) ⟨us, []⟩) (CR (L2.CX P w) outer P w H s Q E) s
theorem LOk.mono {P : Program} {w : World} {K : PySem.W.Frag} {mg : Str → Option Value} {base : Heap} {T : Gw} {j k i : Nat} {G : List D → M D} (h : LOk P w K mg base T j i G) (z : j ≤ k) : LOk P w K mg base T k i G :=
  fun A outer s H us vs f c Q E hr => h A outer s H us vs f c Q E (hr.mono z)
theorem LOk.none {P : Program} {w : World} {K : PySem.W.Frag} {mg : Str → Option Value} {base : Heap} {T : Gw} {k i : Nat} : LOk P w K mg base T k i (fun _ => bad) :=
  fun _ _ _ _ _ _ _ _ _ _ _ _ _ _ _ ⟨_, _, _, _, _, q⟩ => q.elim
def runL (n : Nat) (b : Loc → M D) (ds : List D) : M D := b (ds.map some ++ List.replicate (n - ds.length) none)
theorem lam_ok {P : Program} {w : World} {K : PySem.W.Frag} {mg : Str → Option Value} {base : Heap} {T : Gw} {k i : Nat} {N ps : List Str} {b : Loc → M D} (Sc : NScope N ps [] (T.lam i).scope)
    (hb : ∀ (pm cv ctv : Value) (us : List Value), us.length = ps.length → bindArgs (PySem.W.kla_fn "<lambda>" (T.lam i).qual (T.lam i).params (T.lam i).body (T.lam i).scope [] pm cv ctv) ⟨us, []⟩ = pure (ps.zip us))
    (hbody : ∀ (c f : Addr) (A : Around) (outer : List Env) (s : Shared) (H : Hp) (E : XK), Room k (A.deeper (envF (lnf (T.lam i) c) f s.heap.objs.size)) → PE (ncx (L2.CX P w) P w K mg base N (lnf (T.lam i) c) f A outer s H E) (T.lam i).body (dnE ⟨K, T⟩ (wE E) b)) :
    LOk P w K mg base T (k + 1) i (mF ps.length (runL N.length b)) := by
  intro A outer s H us vs f c Q E hr e0 hf hc r ⟨ds, m, L, mr, dv, q⟩
  unfold mF at q
  split at q
  · rename_i hn
    have hl : vs.length = ps.length := by rw [dv.len, hn]
    have lim : s.heap.NoLimit := e0.mod.nolimit.keeps fun b o e => (e0.bs b o e).1
    obtain ⟨⟨od, sl, pm, ctv, ho⟩, _, _⟩ := e0.hok f _ hf
    have C0 : CellsAt [] [] ([] : List (Option V)) s.heap H := ⟨rfl, fun y c e => (by cases e), fun x y c e => (by cases e), fun i y e => (by simp at e)⟩
    refine PySem.W.kla_callFunE hr.depth ho rfl Sc.co Sc.gen rfl (codeO_at e0.hok hc) ?_
    rw [hb pm (.ref c) ctv us (by rw [← r.length]; exact hl)]
    refine wpAny_pure (wpAny_newFunctionEnv Sc.nocell (fun ⟨n, _⟩ hy => Sc.par n (List.of_mem_zip hy).1) (fun h₁ hns hsb => ⟨lim.fresh _ hsb, ?_⟩) Sc.kind)
    show codeAny _ _ (.expr (T.lam i).body (envF (lnf (T.lam i) c) f s.heap.objs.size)) _ _
    apply PySem.W.kla_codeExpr
    have kp : ∀ b o, s.heap.get? b = some o → h₁.get? b = some o := fun b o e => hsb.extBut b o (Nat.ne_of_lt (Heap.lt_size e)) (Heap.get?_push_of_some _ e)
    have I : Inv (ncx (L2.CX P w) P w K mg base N (lnf (T.lam i) c) f A outer s H E) [] (startF N vs []) H { s with heap := h₁, toks := s.toks + (ps.zip us).length } := inv_startN (F := lnf (T.lam i) c) Sc hr.hd e0 hl r C0 hns kp
    have sr : SR ⟨K, T⟩ (ds.map some ++ List.replicate (N.length - ds.length) none) m L (startF N vs []) H := by
      have z := sr_start (N := N) mr dv
      have e : startF N vs [] = L2.start N vs := by
        unfold startF L2.start
        simp
      rw [e]; exact z
    exact wpAny_mono ((hbody c f A outer s H E (hr.deeper _)).run [] _ _ H Q I ⟨_, m, L, sr, q⟩) (fun u s' ⟨v, H', J, rv, q'⟩ => ⟨v, H', J.os, J.bare, J.base, J.hok, rv, q'⟩) fun e s' hs => hs
  · exact q.elim
/-- a value called: a lambda -/
def mCallV (G : Nat → List D → M D) (f : Loc → M D) (a : Loc → M (List D)) : Loc → M D := fun l => do
  match ← f l with
  | .clo i _ => do G i (← a l)
  | _ => bad
section
variable {X : Cx} {W : WX} {T : Gw} {x : Str} {p pos : Pos} {e : Expr} {es : List Expr} {a : Loc → M (List D)} {me : Loc → M D} {k : Nat} {G : Nat → List D → M D}
theorem e_callV (Gs : ∀ i, LOk X.prog X.w X.K X.mg X.base T k i (G i)) (hr : Room k X.A) (tk : Takes X W) (hf : PE X (.Name x p) (dnE ⟨X.K, T⟩ W me)) (ha : PA X (e :: es) (dnA ⟨X.K, T⟩ W a))
    (he : starEach (e :: es) X.env = (false, eval e X.env) :: starEach es X.env := by rfl) (hpl : (backTo pos (starEach es X.env)).any (·.1) = false := by rfl) :
    PE X (.Call (.Name x p) (e :: es) [] pos) (dnE ⟨X.K, T⟩ W (mCallV G me a)) := by
  refine ⟨fun pins s σ H Q I h => ?_⟩
  obtain ⟨l, m, L, sr, q⟩ := h
  refine wpAny_Call_Name_kw (thn (hf.run pins s σ H (fun v H1 => ∃ d m1 L1, SR ⟨X.K, T⟩ l m1 L1 σ H1 ∧ Ord L L1 H H1 ∧ DV ⟨X.K, T⟩ L1 H1 d v ∧ Wp ((match d with | .clo i _ => do G i (← a l) | _ => bad : M D) m1) (QE ⟨X.K, T⟩ L1 H1 Q) (QX ⟨X.K, T⟩ L1 H1 fun c d H' => W c d σ H')) I
    ⟨l, m, L, sr, (Wp.bnd.mp q).mono (fun d m1 q1 v L1 H1 o1 r1 d1 => ⟨d, m1, L1, sr.mono r1 o1, o1, d1, Wp.mono q1 (fun _ _ z => z.mono o1) fun _ _ z => z.mono o1⟩) fun _ _ z => z⟩) fun u s1 ⟨v, H1, I1, r1, d, m1, L1, sr1, o1, d1, q1⟩ => ?_)
  cases d with
  | clo i ns =>
    obtain ⟨rfl, f, c, rfl, hf1, z1, hc1, z2⟩ := d1
    obtain rfl : u = Value.ref f := r1
    have fnat : ∀ {H' : Hp} {s' : Shared}, Inv X pins σ H' s' → H' f = some (LamO f (T.lam i) [] c) → PySem.W.FnAt f s'.heap := fun {H' s'} I' e' => by
      obtain ⟨⟨od, sl, pm, ctv, ho⟩, _, _⟩ := I'.hok f _ e'
      exact ⟨_, od, _, sl, ho⟩
    refine PySem.W.callWith_F (first := []) (fnat I1 hf1) (thn (ha.run pos pins s1 σ H1 (fun vs H2 => ∃ xs m2 L2, MR ⟨X.K, T⟩ m2 L2 H2 ∧ DVs ⟨X.K, T⟩ L2 H2 xs vs ∧ H2 f = some (LamO f (T.lam i) [] c) ∧ H2 c = some (CodeO c (T.lam i).qual) ∧ Wp (G i xs m2) (QE ⟨X.K, T⟩ L2 H2 Q) (QX ⟨X.K, T⟩ L2 H2 fun c d H' => W c d σ H')) I1
      ⟨l, m1, L1, sr1, (Wp.bnd.mp q1).mono (fun xs m2 q2 vs L2 H2 o2 r2 d2 => ⟨xs, m2, L2, r2, d2, o2.keep f _ hf1 z1 lamO_tbl, o2.keep c _ hc1 z2 LamX.codeO_ne, Wp.mono q2 (fun _ _ z => z.mono o2) fun _ _ z => z.mono o2⟩) fun _ _ z => z⟩) fun us s2 ⟨vs, H2, I2, r2, xs, m2, L2, mr2, d2, hf2, hc2, q2⟩ => ⟨fnat I2 hf2, ?_⟩) he hpl
    show wpAny _ _ (call (.ref f) us) _ _ _
    refine wpAny_call (codeAny_mono (Gs i X.A X.stack s2 H2 us vs f c Q (WE W σ) hr I2.env0 hf2 hc2 r2 ⟨xs, m2, L2, mr2, d2, q2⟩) fun r s' hq => ?_)
    cases r with
    | error er => exact passAt tk σ pins H2 s2 er s' I2 hq
    | ok fl =>
      cases fl with
      | ret u => exact I2.after hq
      | next => exact False.elim hq
      | brk => exact False.elim hq
      | cont => exact False.elim hq
  | _ => exact q1.elim
end

/-! ### a field of an exception -/
def dFldE (Cs : Nat → Bool) (f : Str) : D → M D := fun x m => match x with
  | .exn C fs => if Cs C then (match fs.lookup f with
    | some d => .ok d m
    | none => .bad) else .bad
  | _ => .bad
def mFldE (Cs : Nat → Bool) (f : Str) (me : Loc → M D) : Loc → M D := fun l => do dFldE Cs f (← me l)
section
variable {X : Cx} {W : WX} {T : Gw} {pos : Pos} {e : Expr} {me : Loc → M D} {f : Str} {Cs : Nat → Bool}
theorem e_fldE (ok : ∀ C, Cs C = true → XfC X.K (T C) ∧ PySem.W.findIn X.K (.ref (T C)) f = some none) (he : PE X e (dnE ⟨X.K, T⟩ W me)) (hb : attributeBase e f X.env (eval e X.env) = eval e X.env := by rfl) :
    PE X (.Attribute e f pos) (dnE ⟨X.K, T⟩ W (mFldE Cs f me)) := by
  refine ⟨fun pins s σ H Q I h => ?_⟩
  refine attr_of hb (thn (he.run pins s σ H _ I (dn_arg1 (F' := dFldE Cs f) h)) fun u s1 ⟨v, H1, I1, r1, d, m1, L1, mr1, d1, q1⟩ => ?_)
  cases d with
  | exn C fs =>
    unfold dFldE at q1
    simp only at q1
    by_cases hC : Cs C = true
    · rw [if_pos hC] at q1
      cases hlk : fs.lookup f with
      | none => rw [hlk] at q1; exact q1.elim
      | some d =>
        rw [hlk] at q1
        obtain ⟨a, o, gs, rfl, ha, fz, df, h2⟩ := d1
        obtain ⟨v, hv, dv⟩ := df.lk hlk
        obtain rfl : u = Value.ref a := r1
        obtain ⟨XC, hno⟩ := ok C hC
        obtain ⟨t1, ho⟩ := exo_at I1.hok ha
        rcases h2 with ⟨rfl, rfl⟩ | ⟨dx, rfl, hd, _⟩
        · cases hv
        · obtain ⟨mA, hns, hr⟩ := exd_at I1.hok hd
          obtain ⟨od, hod, hl⟩ := lookIn_ns hns
          obtain ⟨u, hu, ru⟩ := RelO.some_of (v := v) (o := mA f) (by rw [← hv]; exact hr f)
          have J : PySem.W.InstAt s1.heap a _ (T C) (some od) := ⟨ho, rfl, rfl, hod⟩
          exact HandSPX.exc_get I1.kIn J XC.ga XC.gg XC.exC (PySem.W.findObj_own XC.hdC hno rfl (by rw [hl, hu])) (handed_of ru) ⟨v, H1, I1.tok _, ru, (show QE ⟨X.K, T⟩ L1 H1 Q d m1 from q1) v L1 H1 Ord.refl mr1 dv⟩
    · rw [if_neg hC] at q1; exact q1.elim
  | _ => exact q1.elim
end
end Tw

set_option Elab.async false
set_option linter.all false
set_option maxRecDepth 100000
set_option maxHeartbeats 1000000
/-! len, int, min, all; append and extend; o[i] = e; zip; comprehensions. -/
namespace Tw
open PySem PySem.Spec PyProof.Rows L2

/-- the items of a list or a tuple -/
def itF (x : D) (m : Mem) : Option (List D) := match x with
  | .tup xs => some xs
  | x => sqF x m
section
variable {g : Gv} {m : Mem} {L : Lm} {H : Hp} {x : D} {v : V} {xs : List D}
theorem itF_ok (r : MR g m L H) (d : DV g L H x v) (h : itF x m = some xs) : ∃ a vs, v = .ref a ∧ (SqL g.K H a vs ∨ SqT g.K H a vs) ∧ DVs g L H xs vs := by
  by_cases hx : ∃ ys, x = .tup ys
  · obtain ⟨ys, rfl⟩ := hx
    cases h
    obtain ⟨a, vs, e, f, t⟩ := d
    exact ⟨a, vs, e, .inr f.sq, t⟩
  · have h' : sqF x m = some xs := by cases x <;> first | exact h | exact absurd ⟨_, rfl⟩ hx
    obtain ⟨a, vs, e, f, t⟩ := sqF_ok r d h'
    exact ⟨a, vs, e, .inl f, t⟩
end
/-! ### len -/
def dLen : List D → M D := fun xs m => match xs with
  | [.str z] => if z.length ≤ okLen then .ok (.int z.length) m else .bad
  | [x] => (match itF x m with
    | some ys => .ok (.int ys.length) m
    | none => .bad)
  | _ => .bad
theorem noxb_len : NoXB dLen := fun xs m z m' e => by
  unfold dLen at e
  split at e
  · split at e <;> cases e
  · split at e <;> cases e
  · cases e
def rLen (K : PySem.W.Frag) : List V → Hp → VK → Prop := fun xs H Q => ∃ x n, xs = [x] ∧ LenV K x H n ∧ Q (.int n) H
theorem rb_len {g : Gv} : RB g (rLen g.K) dLen := fun xs vs m L H Q mr d q => by
  unfold dLen at q
  split at q
  · rename_i z
    obtain ⟨v, _, rfl, d1, rfl⟩ := d
    obtain rfl : v = .str z := d1
    split at q
    · rename_i hz
      exact ⟨_, z.length, rfl, ⟨okLen_le hz, rfl⟩, q _ L H Ord.refl mr rfl⟩
    · exact q.elim
  · rename_i x _
    obtain ⟨v, _, rfl, d1, rfl⟩ := d
    cases c : itF x m with
    | none => simp only [c] at q; exact q.elim
    | some ys =>
      simp only [c] at q
      obtain ⟨a, vs, rfl, f, t⟩ := itF_ok mr d1 c
      refine ⟨_, ys.length, rfl, ?_, (show QE g L H Q (.int ys.length) m from q) _ L H Ord.refl mr rfl⟩
      rcases f with f | f
      · exact .inl ⟨vs, f, t.len.symm⟩
      · exact .inr ⟨vs, f, t.len.symm⟩
  · exact q.elim
/-! ### int, min, max, all, any -/
def dInt1 : List D → M D := fun xs m => match xs with
  | [.int i] => .ok (.int i) m
  | [.bl b] => .ok (.int (if b then 1 else 0)) m
  | _ => .bad
theorem noxb_int1 : NoXB dInt1 := fun xs m z m' e => by
  unfold dInt1 at e
  split at e <;> cases e
theorem rb_int1 {g : Gv} : RB g (fun xs H Q => (∃ i, xs = [V.int i] ∧ Q (.int i) H) ∨ ∃ k, xs = [.bl k] ∧ Q (.int (if k then 1 else 0)) H) dInt1 := fun xs vs m L H Q mr d q => by
  unfold dInt1 at q
  split at q
  · obtain ⟨v, _, rfl, d1, rfl⟩ := d
    exact .inl ⟨_, by rw [show v = .int _ from d1], (show QE g L H Q _ m from q) _ L H Ord.refl mr rfl⟩
  · obtain ⟨v, _, rfl, d1, rfl⟩ := d
    exact .inr ⟨_, by rw [show v = .bl _ from d1], (show QE g L H Q _ m from q) _ L H Ord.refl mr rfl⟩
  · exact q.elim
def dMin2 : List D → M D := fun xs m => match xs with
  | [.int i, .int j] => .ok (.int (if j < i then j else i)) m
  | _ => .bad
theorem noxb_min2 : NoXB dMin2 := fun xs m z m' e => by
  unfold dMin2 at e
  split at e <;> cases e
theorem rb_min2 {g : Gv} : RB g (fun xs H Q => ∃ i j, xs = [V.int i, .int j] ∧ Q (.int (if j < i then j else i)) H) dMin2 := fun xs vs m L H Q mr d q => by
  unfold dMin2 at q
  split at q
  · exact ⟨_, _, d.two, (show QE g L H Q _ m from q) _ L H Ord.refl mr rfl⟩
  · exact q.elim
/-- all True or False -/
def blsF : List D → Option (List Bool)
  | [] => some []
  | .bl b :: ds => (blsF ds).map (b :: ·)
  | _ => none
theorem blsF_ok {g : Gv} {L : Lm} {H : Hp} : ∀ {ds : List D} {vs : List V} {bs : List Bool}, DVs g L H ds vs → blsF ds = some bs → vs = bs.map V.bl
  | [], _, _, h, e => by cases e; exact h
  | d :: ds, _, bs, ⟨v, r, e, h1, h2⟩, q => by
    cases d with
    | bl b =>
      cases c : blsF ds with
      | none => simp [blsF, c] at q
      | some cs =>
        simp [blsF, c] at q
        subst q e
        rw [show v = .bl b from h1, blsF_ok h2 c] <;> rfl
    | _ => cases q
def dBls (f : List Bool → Bool) : List D → M D := fun xs m => match xs with
  | [x] => (match (sqF x m).bind blsF with
    | some bs => .ok (.bl (f bs)) m
    | none => .bad)
  | _ => .bad
def dAll : List D → M D := dBls fun bs => bs.all id
def dAny : List D → M D := dBls fun bs => bs.any id
theorem noxb_bls {f : List Bool → Bool} : NoXB (dBls f) := fun xs m z m' e => by
  unfold dBls at e
  split at e
  · split at e <;> cases e
  · cases e
theorem rb_bls {g : Gv} {f : List Bool → Bool} : RB g (fun vs H Q => ∃ (a : Addr) (bs : List Bool), vs = [V.ref a] ∧ SqL g.K H a (bs.map V.bl) ∧ Q (.bl (f bs)) H) (dBls f) := fun xs vs m L H Q mr d q => by
  unfold dBls at q
  split at q
  · rename_i x
    obtain ⟨v, _, rfl, d1, rfl⟩ := d
    cases c : sqF x m with
    | none => simp only [c, Option.bind_none] at q; exact q.elim
    | some ys =>
      cases c2 : blsF ys with
      | none => simp only [c, Option.bind_some, c2] at q; exact q.elim
      | some bs =>
        simp only [c, Option.bind_some, c2] at q
        obtain ⟨a, ws, rfl, f1, t⟩ := sqF_ok mr d1 c
        rw [blsF_ok t c2] at f1
        exact ⟨a, bs, rfl, f1, (show QE g L H Q _ m from q) _ L H Ord.refl mr rfl⟩
  · exact q.elim

/-! ### methods of a list -/
def mM (F : D → List D → M D) (me : Loc → M D) (a : Loc → M (List D)) : Loc → M D := fun l => do
  let x ← me l
  F x (← a l)
/-- a list that is held by its number -/
def isLs (x : D) (m : Mem) : Bool := match x with
  | .ref n => match m.at_ n with
    | some (.lst _) => true
    | _ => false
  | _ => false
def RM (g : Gv) (r : V → List V → Hp → VK → Prop) (F : D → List D → M D) : Prop := ∀ x v xs vs m L H Q, MR g m L H → DV g L H x v → DVs g L H xs vs → Wp (F x xs m) (QE g L H Q) (fun _ _ => False) → r v vs H Q
def NoXM (F : D → List D → M D) : Prop := ∀ x xs m z m', F x xs m ≠ .exc z m'
section
variable {X : Cx} {W : WX} {T : Gw} {r : V → List V → Hp → VK → Prop} {F : D → List D → M D} {me : Loc → M D} {a : Loc → M (List D)} {o e : Expr} {es : List Expr} {name : Str} {apos cpos : Pos} {id : String}
/-- the object stands as a list, ahead of the arguments -/
def mMl (F : D → List D → M D) (me : Loc → M D) (a : Loc → M (List D)) : Loc → M D := fun l => do
  let x ← me l
  (fun m => if isLs x m = true then .ok () m else .bad : M Unit)
  F x (← a l)
theorem isLs_ok {g : Gv} {m : Mem} {L : Lm} {H : Hp} {x : D} {v : V} (mr : MR g m L H) (d : DV g L H x v) (h : isLs x m = true) : tyV g.K "list" v H := by
  unfold isLs at h
  split at h
  · rename_i n
    split at h
    · rename_i xs c
      obtain ⟨a, h1, vs, h2, _⟩ := mr.obj n _ c
      rw [d.2 a h1]
      exact .inl ⟨rfl, vs, .inl (.inl h2)⟩
    · cases h
  · cases h
theorem e_bml (slot : Slot "list" name id) (hty : typeOf (.builtin id) = pure (.type "method_descriptor")) (hm : MtR X id r) (hr : RM ⟨X.K, T⟩ r F) (hn : NoXM F) (ho : PE X o (dnE ⟨X.K, T⟩ W me)) (ha : PA X (e :: es) (dnA ⟨X.K, T⟩ W a))
    (hbase : attributeBase o name X.env (eval o X.env) = eval o X.env := by rfl)
    (hfew : ((backTo cpos (starEach (e :: es) X.env)).all (fun x => !x.1) && (backToKw cpos (keywordEach [] X.env)).all (fun x => x.1.isSome)
      && decide ((e :: es).length + ([] : List Keyword).length + (if ([] : List Keyword).isEmpty then 0 else 1) < 30)) = true := by rfl)
    (hline : (apos.endLine == cpos.line) = true := by rfl) (hs : starEach (e :: es) X.env = (false, eval e X.env) :: starEach es X.env := by rfl) (hplain : (backTo cpos (starEach es X.env)).any (·.1) = false := by rfl) :
    PE X (.Call (.Attribute o name apos) (e :: es) [] cpos) (dnE ⟨X.K, T⟩ W (mMl F me a)) := by
  refine pe_imp (pe_bm PySem.F.plainAttrs_list slot hty hm ho ha hbase hfew hline hs hplain) fun σ H Q ⟨l, m, L, s, q⟩ => ?_
  refine ⟨l, m, L, s, (Wp.bnd.mp q).mono (fun x m1 q1 v L1 H1 o1 r1 d1 => ?_) fun _ _ z => z⟩
  have q1 := Wp.bnd.mp q1
  by_cases hl : isLs x m1 = true
  · simp only [hl, if_true] at q1
    refine ⟨isLs_ok r1 d1 hl, l, m1, L1, s.mono r1 o1, (Wp.bnd.mp (show Wp ((a l >>= fun xs => F x xs) m1) _ _ from q1)).mono (fun xs m2 q2 vs L2 H2 o2 r2 d2 => ?_) fun _ _ z => z.mono o1⟩
    exact hr x v xs vs m2 L2 H2 Q r2 (d1.mono o2) d2 ((wp_nox q2 (hn x xs m2)).mono (fun _ _ z => z.mono (o1.trans o2)) fun _ _ z => z)
  · simp only [hl, if_false] at q1
    exact q1.elim
/-- l.append(y), l.extend(ys) -/
def dAppend (x : D) (ys : List D) : M D := fun m => match x, ys with
  | .ref n, [y] => (match m.at_ n with
    | some (.lst xs) => if xs.length < okLen then .ok .non (m.put n (.lst (xs ++ [y]))) else .bad
    | _ => .bad)
  | _, _ => .bad
def dExtend (x : D) (ys : List D) : M D := fun m => match x, ys with
  | .ref n, [.lst zs] => (match m.at_ n with
    | some (.lst xs) => if xs.length + zs.length ≤ okLen then .ok .non (m.put n (.lst (xs ++ zs))) else .bad
    | _ => .bad)
  | _, _ => .bad
theorem noxm_append : NoXM dAppend := fun x xs m z m' e => by
  unfold dAppend at e
  split at e
  · split at e
    · split at e <;> cases e
    · cases e
  · cases e
theorem noxm_extend : NoXM dExtend := fun x xs m z m' e => by
  unfold dExtend at e
  split at e
  · split at e
    · split at e <;> cases e
    · cases e
  · cases e
theorem put_lst {g : Gv} {m : Mem} {L : Lm} {H : Hp} {n : Nat} {xs ys : List D} {a : Addr} {vs ws : List V} (mr : MR g m L H) (c : m.at_ n = some (.lst xs)) (h1 : L.at_ n = some a) (h2 : H a = some (.lst vs)) (d : DVs g L H ys ws) :
    Ord L L H (upd H a (.lst ws)) ∧ MR g (m.put n (.lst ys)) L (upd H a (.lst ws)) :=
  have od := Ord.put (o := .lst ws) h1 h2
  ⟨od, mr.put c h1 h2 ⟨ws, upd_same, d.mono od⟩⟩
theorem rm_append {g : Gv} : RM g rAppend dAppend := fun x v xs vs m L H Q mr dx dv q => by
  unfold dAppend at q
  split at q
  · rename_i n y
    obtain ⟨w, _, rfl, dy, rfl⟩ := dv
    cases c : m.at_ n with
    | none => simp only [c] at q; exact q.elim
    | some mo =>
      cases mo with
      | lst xs =>
        simp only [c] at q
        obtain ⟨a, h1, vs, h2, t⟩ := mr.obj n _ c
        by_cases hl : xs.length < okLen
        · rw [if_pos hl] at q
          have d1 : DVs g L H [y] [w] := ⟨w, [], rfl, dy, rfl⟩
          obtain ⟨od, mr'⟩ := put_lst mr c h1 h2 (DVs.app t d1)
          exact ⟨a, vs, w, dx.2 a h1, rfl, h2, by rw [t.len]; exact okLen_lt hl, (show QE g L H Q .non _ from q) _ L _ od mr' rfl⟩
        · rw [if_neg hl] at q; exact q.elim
      | _ => simp only [c] at q; exact q.elim
  · exact q.elim
theorem rm_extend {g : Gv} : RM g rExtend dExtend := fun x v xs vs m L H Q mr dx dv q => by
  unfold dExtend at q
  split at q
  · rename_i n zs
    obtain ⟨w, _, rfl, ⟨b, us, rfl, fz, t2⟩, rfl⟩ := dv
    cases c : m.at_ n with
    | none => simp only [c] at q; exact q.elim
    | some mo =>
      cases mo with
      | lst xs =>
        simp only [c] at q
        obtain ⟨a, h1, vs, h2, t⟩ := mr.obj n _ c
        by_cases hl : xs.length + zs.length ≤ okLen
        · rw [if_pos hl] at q
          obtain ⟨od, mr'⟩ := put_lst mr c h1 h2 (DVs.app t t2)
          exact ⟨a, b, vs, us, dx.2 a h1, rfl, h2, fz.1, by rw [t.len, t2.len]; exact okLen_le hl, (show QE g L H Q .non _ from q) _ L _ od mr' rfl⟩
        · rw [if_neg hl] at q; exact q.elim
      | _ => simp only [c] at q; exact q.elim
  · exact q.elim
theorem e_append (ho : PE X o (dnE ⟨X.K, T⟩ W me)) (ha : PA X [e] (dnA ⟨X.K, T⟩ W a)) (hbase : attributeBase o "append" X.env (eval o X.env) = eval o X.env := by rfl) (hs : starEach [e] X.env = (false, eval e X.env) :: starEach [] X.env := by rfl)
    (hfew : ((backTo cpos (starEach [e] X.env)).all (fun x => !x.1) && (backToKw cpos (keywordEach [] X.env)).all (fun x => x.1.isSome) && decide ([e].length + ([] : List Keyword).length + (if ([] : List Keyword).isEmpty then 0 else 1) < 30)) = true := by rfl)
    (hline : (apos.endLine == cpos.line) = true := by rfl) : PE X (.Call (.Attribute o "append" apos) [e] [] cpos) (dnE ⟨X.K, T⟩ W (mMl dAppend me a)) :=
  e_bml PySem.F.slot_list_append PySem.F.type_list_append mt_append rm_append noxm_append ho ha hbase hfew hline hs rfl
end
end Tw

set_option Elab.async false
set_option linter.all false
set_option maxRecDepth 100000
set_option maxHeartbeats 1000000
/-! zip; comprehensions with targets of their own; o[i] = e. -/
namespace Tw
open PySem PySem.Spec PyProof.Rows L2 RZ

/-! ### zip -/
def zpL : List D → List D → List D
  | x :: xs, y :: ys => .tup [x, y] :: zpL xs ys
  | _, _ => []
theorem zpL_none {xs ys : List D} {i : Nat} (h : (zpL xs ys)[i]? = none) : xs.length ≤ i ∨ ys.length ≤ i := by
  induction xs generalizing ys i with
  | nil => exact .inl (Nat.zero_le _)
  | cons x xs ih =>
    cases ys with
    | nil => exact .inr (Nat.zero_le _)
    | cons y ys =>
      cases i with
      | zero => simp [zpL] at h
      | succ i =>
        rcases ih (by simpa [zpL] using h) with q | q
        · exact .inl (Nat.succ_le_succ q)
        · exact .inr (Nat.succ_le_succ q)
theorem zpL_some {xs ys : List D} {i : Nat} {d : D} (h : (zpL xs ys)[i]? = some d) : ∃ x y, d = .tup [x, y] ∧ xs[i]? = some x ∧ ys[i]? = some y := by
  induction xs generalizing ys i with
  | nil => simp [zpL] at h
  | cons x xs ih =>
    cases ys with
    | nil => simp [zpL] at h
    | cons y ys =>
      cases i with
      | zero => simp [zpL] at h; exact ⟨x, y, h.symm, rfl, rfl⟩
      | succ i =>
        obtain ⟨a, b, e, h1, h2⟩ := ih (by simpa [zpL] using h)
        exact ⟨a, b, e, by simpa using h1, by simpa using h2⟩
/-- two lists, or two tuples -/
def zpI (x y : D) : Rd_ := fun m => match x, y with
  | .tup xs, .tup ys => some (zpL xs ys)
  | .tup _, _ => none
  | x, y => match sqF x m, sqF y m with
    | some xs, some ys => some (zpL xs ys)
    | _, _ => none
def mZip (a : Loc → M (List D)) : Loc → M Rd_ := fun l => do
  let xs ← a l
  match xs with
  | [x, y] => (fun m => match zpI x y m with
    | some _ => .ok (zpI x y) m
    | none => .bad : M Rd_)
  | _ => bad
theorem zpI_cases {x y : D} {m : Mem} {zs : List D} (h : zpI x y m = some zs) : (∃ xs ys, x = .tup xs ∧ y = .tup ys ∧ zs = zpL xs ys) ∨ ((∀ xs, x ≠ .tup xs) ∧ ∃ xs ys, sqF x m = some xs ∧ sqF y m = some ys ∧ zs = zpL xs ys) := by
  by_cases hx : ∃ xs, x = .tup xs
  · obtain ⟨xs, rfl⟩ := hx
    cases y with
    | tup ys => cases h; exact .inl ⟨xs, ys, rfl, rfl, rfl⟩
    | _ => cases h
  · refine .inr ⟨fun xs e => hx ⟨xs, e⟩, ?_⟩
    have h : (match sqF x m, sqF y m with
      | some xs, some ys => some (zpL xs ys)
      | _, _ => none) = some zs := by cases x <;> first | exact h | exact absurd ⟨_, rfl⟩ hx
    cases c1 : sqF x m with
    | none => rw [c1] at h; cases h
    | some xs =>
      cases c2 : sqF y m with
      | none => rw [c1, c2] at h; cases h
      | some ys => rw [c1, c2] at h; cases h; exact ⟨xs, ys, rfl, rfl, rfl⟩
section
variable {g : Gv} {L : Lm} {H : Hp} {x y : D} {a b : Addr}
theorem itok_zipL (dx : DV g L H x (.ref a)) (dy : DV g L H y (.ref b)) (hx : ∀ xs, x ≠ .tup xs) : ItOk g (Itz g.K a b) L H (zpI x y) := by
  intro m' L' H' o r zs e
  rcases zpI_cases e with ⟨xs, _, rfl, _⟩ | ⟨_, xs, ys, e1, e2, rfl⟩
  · exact absurd rfl (hx xs)
  · obtain ⟨a', vs, q1, f1, t1⟩ := sqF_ok r (dx.mono o) e1
    obtain ⟨b', ws, q2, f2, t2⟩ := sqF_ok r (dy.mono o) e2
    cases q1
    cases q2
    refine ⟨fun i h => ⟨vs, ws, f1, f2, by rw [t1.len, t2.len]; exact zpL_none h⟩, fun i d h => ?_⟩
    obtain ⟨p, q, rfl, h1, h2⟩ := zpL_some h
    obtain ⟨v, g1, d1⟩ := t1.get h1
    obtain ⟨w, g2, d2⟩ := t2.get h2
    refine ⟨⟨vs, ws, v, w, f1, f2, g1, g2⟩, fun z H2 ⟨Tp, v', w', ez, hT, eH, hv, hw⟩ => ?_⟩
    have ev := hv vs f1
    have ew := hw ws f2
    rw [g1] at ev; cases ev
    rw [g2] at ew; cases ew
    subst ez eH
    exact ⟨L', Ord.new1 hT, r.new1 hT, Tp, [v, w], rfl, .inl ⟨.inl upd_same, r.fresh hT⟩, ⟨v, [w], rfl, d1.mono (Ord.new1 hT), w, [], rfl, d2.mono (Ord.new1 hT), rfl⟩⟩
theorem itok_zipT {xs ys : List D} (dx : DV g L H (.tup xs) (.ref a)) (dy : DV g L H (.tup ys) (.ref b)) : ItOk g (ItzT g.K a b) L H (zpI (.tup xs) (.tup ys)) := by
  intro m' L' H' o r zs e
  cases e
  obtain ⟨a', vs, q1, f1, t1⟩ := dx.mono o
  obtain ⟨b', ws, q2, f2, t2⟩ := dy.mono o
  cases q1
  cases q2
  refine ⟨fun i h => ⟨vs, ws, f1.sq, f2.sq, by rw [t1.len, t2.len]; exact zpL_none h⟩, fun i d h => ?_⟩
  obtain ⟨p, q, rfl, h1, h2⟩ := zpL_some h
  obtain ⟨v, g1, d1⟩ := t1.get h1
  obtain ⟨w, g2, d2⟩ := t2.get h2
  refine ⟨⟨vs, ws, v, w, f1.sq, f2.sq, g1, g2⟩, fun z H2 ⟨Tp, v', w', ez, hT, eH, hv, hw⟩ => ?_⟩
  have ev := hv vs f1.sq
  have ew := hw ws f2.sq
  rw [g1] at ev; cases ev
  rw [g2] at ew; cases ew
  subst ez eH
  exact ⟨L', Ord.new1 hT, r.new1 hT, Tp, [v, w], rfl, .inl ⟨.inl upd_same, r.fresh hT⟩, ⟨v, [w], rfl, d1.mono (Ord.new1 hT), w, [], rfl, d2.mono (Ord.new1 hT), rfl⟩⟩
end
section
variable {X : Cx} {W : WX} {T : Gw}
theorem i_zip {e e2 : Expr} {a : Loc → M (List D)} {p pos tpos : Pos} {elts : List Expr} {kk : Nat} (hg : Gl X "zip") (hm : X.mg "zip" = none) (ha : PA X [e, e2] (dnA ⟨X.K, T⟩ W a))
    (hs : starEach [e, e2] X.env = (false, eval e X.env) :: starEach [e2] X.env := by rfl) (hpl : (backTo pos (starEach [e2] X.env)).any (·.1) = false := by rfl) :
    PI X (.Tuple elts kk tpos) (.Call (.Name "zip" p) [e, e2] [] pos) (dnI ⟨X.K, T⟩ W (mZip a)) := by
  refine pi_imp (pi_zipA hg hm ha hs hpl) fun σ H R ⟨l, m, L, s, q⟩ => ?_
  refine ⟨l, m, L, s, (Wp.bnd.mp q).mono (fun xs m1 q1 vs L1 H1 o1 r1 d1 => ?_) fun _ _ z => z⟩
  match xs, d1, q1 with
  | [x, y], d1, q1 =>
    obtain ⟨v, _, rfl, dx, w, _, rfl, dy, rfl⟩ := d1
    have q1 : Wp ((fun m => match zpI x y m with
      | some _ => .ok (zpI x y) m
      | none => .bad : M Rd_) m1) (fun rd m1 => ∀ L1 H1 J, Ord L L1 H H1 → MR ⟨X.K, T⟩ m1 L1 H1 → ItOk ⟨X.K, T⟩ J L1 H1 rd → R J H1) (QX ⟨X.K, T⟩ L H fun c d H' => W c d σ H') := q1
    cases c : zpI x y m1 with
    | none => simp only [c] at q1; exact q1.elim
    | some zs =>
      simp only [c] at q1
      have q1 : ∀ L1 H1 J, Ord L L1 H H1 → MR ⟨X.K, T⟩ m1 L1 H1 → ItOk ⟨X.K, T⟩ J L1 H1 (zpI x y) → R J H1 := q1
      rcases zpI_cases c with ⟨xs, ys, rfl, rfl, _⟩ | ⟨hx, xs, ys, e1, e2, _⟩
      · obtain ⟨a1, vs, rfl, f1, t1⟩ := id dx
        obtain ⟨b1, ws, rfl, f2, t2⟩ := id dy
        exact ⟨a1, b1, vs, ws, rfl, .inr ⟨f1.sq, f2.sq, q1 L1 H1 _ o1 r1 (itok_zipT dx dy)⟩⟩
      · obtain ⟨a1, vs, rfl, f1, t1⟩ := sqF_ok r1 dx e1
        obtain ⟨b1, ws, rfl, f2, t2⟩ := sqF_ok r1 dy e2
        exact ⟨a1, b1, vs, ws, rfl, .inl ⟨f1, f2, q1 L1 H1 _ o1 r1 (itok_zipL dx dy hx)⟩⟩
  | [], _, q1 => exact q1.elim
  | [_], _, q1 => exact q1.elim
  | _ :: _ :: _ :: _, _, q1 => exact q1.elim
end

/-! ### own targets of a comprehension -/
theorem wipe_get (σ : L2.St) : ∀ (vs : List Nat) (i : Nat), (L2.wipe σ vs)[i]? = if i ∈ vs then (σ[i]?).map (fun _ => none) else σ[i]?
  | [], i => by simp [L2.wipe]
  | v :: vs, i => by
    unfold L2.wipe
    rw [List.getElem?_set]
    by_cases h : v = i
    · subst h
      rw [if_pos rfl, if_pos (List.mem_cons_self ..), L2.wipe_length]
      by_cases h2 : v < σ.length
      · rw [if_pos h2, List.getElem?_eq_getElem h2]; rfl
      · rw [if_neg h2, List.getElem?_eq_none (by omega)]; rfl
    · rw [if_neg h, wipe_get σ vs i]
      by_cases h2 : i ∈ vs
      · rw [if_pos h2, if_pos (List.mem_cons_of_mem _ h2)]
      · rw [if_neg h2, if_neg (fun z => (List.mem_cons.mp z).elim (fun q => h q.symm) h2)]
theorem wipe_set {σ : L2.St} {vs : List Nat} {i : Nat} {x : Option V} (h : i ∈ vs) : L2.wipe (σ.set i x) vs = L2.wipe σ vs := by
  apply List.ext_getElem?
  intro j
  rw [wipe_get, wipe_get]
  by_cases hj : j ∈ vs
  · rw [if_pos hj, if_pos hj, List.getElem?_set]
    by_cases e : i = j
    · subst e
      rw [if_pos rfl]
      by_cases h2 : i < σ.length
      · rw [if_pos h2, List.getElem?_eq_getElem h2]; rfl
      · rw [if_neg h2, List.getElem?_eq_none (by omega)]
    · rw [if_neg e]
  · rw [if_neg hj, if_neg hj, List.getElem?_set, if_neg (fun e => hj (by rw [← e]; exact h))]
theorem wipe_wipe {σ : L2.St} {vs : List Nat} : L2.wipe (L2.wipe σ vs) vs = L2.wipe σ vs := by
  apply List.ext_getElem?
  intro j
  rw [wipe_get, wipe_get]
  by_cases hj : j ∈ vs
  · rw [if_pos hj, if_pos hj]
    cases σ[j]? <;> rfl
  · rw [if_neg hj, if_neg hj]
/-- the target of a comprehension, a name or a pair of names of its own -/
theorem ow_name {g : Gv} {i : Nat} {vs : List Nat} (hi : i ∈ vs) : ∀ v σ H Q, dnG g (tgN i) v (L2.wipe σ vs) H Q → gName i v (L2.wipe σ vs) H fun σ2 H2 => L2.wipe σ2 vs = L2.wipe σ vs ∧ Q σ2 H2 := fun v σ H Q ⟨d, l, m, L, s, dv, q⟩ =>
  ⟨by rw [wipe_set hi, wipe_wipe], (show ∀ σ' L' H', Ord L L' H H' → SR g (l.set i (some d)) m L' σ' H' → Q σ' H' from q) _ L H Ord.refl (s.set dv)⟩
theorem ow_pair {g : Gv} {i j : Nat} {vs : List Nat} (hi : i ∈ vs) (hj : j ∈ vs) : ∀ v σ H Q, dnG g (tgT [tgN i, tgN j]) v (L2.wipe σ vs) H Q → gTup g.K 2 (gCons (gName i) (gCons (gName j) gNil)) v (L2.wipe σ vs) H fun σ2 H2 => L2.wipe σ2 vs = L2.wipe σ vs ∧ Q σ2 H2 := fun v σ H Q ⟨d, l, m, L, s, dv, q⟩ => by
  cases d with
  | tup xs =>
    have q : Wp ((if xs.length = 2 then tgTs [tgN i, tgN j] xs l else bad) m) (fun l' m' => ∀ σ' L' H', Ord L L' H H' → SR g l' m' L' σ' H' → Q σ' H') (fun _ _ => False) := q
    match xs, q with
    | [x, y], q =>
      obtain ⟨a, ws, rfl, f, t⟩ := dv
      obtain ⟨v1, _, rfl, d1, v2, _, rfl, d2, rfl⟩ := t
      exact ⟨a, [v1, v2], rfl, f.sq, rfl, v1, [v2], rfl, v2, [], rfl, rfl, by rw [wipe_set hj, wipe_set hi, wipe_wipe], (show ∀ σ' L' H', Ord L L' H H' → SR g ((l.set i (some x)).set j (some y)) m L' σ' H' → Q σ' H' from q) _ L H Ord.refl ((s.set d1).set d2)⟩
    | [], q => exact q.elim
    | [_], q => exact q.elim
    | _ :: _ :: _ :: _, q =>
      rw [if_neg (by simp)] at q
      exact q.elim
  | _ => exact q.elim
theorem tgok_n {i : Nat} : TgOk (tgN i) := fun d l m z m' e => by cases e
theorem tgok_p {i j : Nat} : TgOk (tgT [tgN i, tgN j]) := fun d l m z m' e => by
  cases d with
  | tup xs =>
    have e : (if xs.length = 2 then tgTs [tgN i, tgN j] xs l else bad) m = .exc z m' := e
    match xs, e with
    | [x, y], e => cases e
    | [], e => cases e
    | [_], e => cases e
    | _ :: _ :: _ :: _, e =>
      rw [if_neg (by simp)] at e
      cases e
  | _ => cases e
/-- what raises counts as not told -/
def dropE {α : Type} (e : Loc → M α) : Loc → M α := fun l m => match e l m with
  | .ok a m' => .ok a m'
  | _ => .bad
theorem noE_drop {α : Type} {e : Loc → M α} : NoE (dropE e) := fun l m x m' h => by
  unfold dropE at h
  split at h <;> cases h
theorem wp_drop {α : Type} {e : Loc → M α} {l : Loc} {m : Mem} {Q : α → Mem → Prop} {E E' : Ex → Mem → Prop} (h : Wp (dropE e l m) Q E) : Wp (e l m) Q E' := by
  unfold dropE at h
  cases c : e l m with
  | ok a m' => rw [c] at h; exact h
  | exc x m' => rw [c] at h; exact h.elim
  | bad => rw [c] at h; exact h.elim
section
variable {X : Cx} {W : WX} {T : Gw} {tg : Expr}
theorem e_lcD {elt iter : Expr} {ifs : List Expr} {scope : Scope} {own : List (Str × Nat)} {pos : Pos} {src : Loc → M Rd_} {t : D → Loc → M Loc} {c : Loc → M Bool} {e : Loc → M D} {gt : TG} (hc : X.calm = true) (hN : X.N.Nodup) (hi : PI X tg iter (dnI ⟨X.K, T⟩ W src)) (ok : BlkOk X.N X.env.scope scope own)
    (hg : ∀ (s : Shared) (H : Hp) (C : Addr) (cl : List (Str × Addr)) (fp : List Addr), PG (X.blk s H scope (compEnvC scope cl C X.env) fp) tg gt) (ht : TgOk t)
    (hw : ∀ v σ H Q, dnG ⟨X.K, T⟩ t v (L2.wipe σ (own.map (·.2))) H Q → gt v (L2.wipe σ (own.map (·.2))) H fun σ2 H2 => L2.wipe σ2 (own.map (·.2)) = L2.wipe σ (own.map (·.2)) ∧ Q σ2 H2)
    (hifs : ∀ (s : Shared) (H : Hp) (C : Addr) (cl : List (Str × Addr)) (fp : List Addr), PTs (X.blk s H scope (compEnvC scope cl C X.env) fp) ifs (dnT ⟨X.K, T⟩ W0 c))
    (he : ∀ (s : Shared) (H : Hp) (C : Addr) (cl : List (Str × Addr)) (fp : List Addr), PE (X.blk s H scope (compEnvC scope cl C X.env) fp) elt (dnE ⟨X.K, T⟩ W0 e)) (hs : ∀ x, foldedSetIterable iter X.env x = pure x := by intro _; rfl) :
    PE X (.ListComp elt [⟨tg, iter, ifs, 0⟩] scope pos) (dnE ⟨X.K, T⟩ W (mLc src t (dropE c) (dropE e) (own.map (·.2)))) :=
  e_lc hc hN hi ok hg ht hw (fun s H C cl fp => ⟨fun pins s' σ H' Q I ⟨l, m, L, sr, q⟩ => (hifs s H C cl fp).run pins s' σ H' Q I ⟨l, m, L, sr, wp_drop q⟩⟩) noE_drop
    (fun s H C cl fp => pe_imp (he s H C cl fp) fun σ H' Q ⟨l, m, L, sr, q⟩ => ⟨l, m, L, sr, wp_drop q⟩) noE_drop hs
end

/-! ### o[i] = e -/
def dSetIx (o i v : D) : M Unit := fun m => match o, i with
  | .ref n, .int k => (match m.at_ n with
    | some (.lst xs) => (match ixN xs.length k with
      | some j => .ok () (m.put n (.lst (xs.set j v)))
      | none => .bad)
    | _ => .bad)
  | _, _ => .bad
/-- e is told first, then o, then i -/
def tgSub (o i : Loc → M D) (v : D) (l : Loc) : M Loc := do
  let x ← dropE o l
  let k ← dropE i l
  dSetIx x k v
  pure l
theorem tgok_sub {o i : Loc → M D} : TgOk (tgSub o i) := fun d l m z m' e => by
  have e : (dropE o l m).bnd (fun x => (do let k ← dropE i l; dSetIx x k d; pure l : M Loc)) = .exc z m' := e
  cases c : dropE o l m with
  | exc y m1 => exact noE_drop l m y m1 c
  | bad => rw [c] at e; cases e
  | ok x m1 =>
    rw [c] at e
    have e : (dropE i l m1).bnd (fun k => (do dSetIx x k d; pure l : M Loc)) = .exc z m' := e
    cases c2 : dropE i l m1 with
    | exc y m2 => exact noE_drop l m1 y m2 c2
    | bad => rw [c2] at e; cases e
    | ok k m2 =>
      rw [c2] at e
      have e : (dSetIx x k d m2).bnd (fun _ => (pure l : M Loc)) = .exc z m' := e
      unfold dSetIx at e
      split at e
      · split at e
        · split at e <;> cases e
        · cases e
      · cases e
theorem DVs.set {g : Gv} {L : Lm} {H : Hp} {d : D} {v : V} (h : DV g L H d v) : ∀ {ds : List D} {vs : List V} (j : Nat), DVs g L H ds vs → DVs g L H (ds.set j d) (vs.set j v)
  | [], _, _, e => by rw [show _ = [] from e]; rfl
  | x :: ds, _, 0, ⟨w, r, e, _, t⟩ => by subst e; exact ⟨v, r, rfl, h, t⟩
  | x :: ds, _, j + 1, ⟨w, r, e, q, t⟩ => by subst e; exact ⟨w, r.set j v, rfl, q, DVs.set h j t⟩
section
variable {X : Cx} {T : Gw} {pos : Pos}
theorem g_sub {o i : Expr} {mo mi : Loc → M D} (ho : PE X o (dnE ⟨X.K, T⟩ W0 mo)) (hi : PE X i (dnE ⟨X.K, T⟩ W0 mi))
    (ha : ∀ v, assign (.Subscript o i pos) X.env v = (do
      let ov ← holding [v] (eval o X.env)
      let iv ← holding [v, ov] (eval i X.env)
      standAt pos
      holding [v, ov, iv] (setItem ov iv v)
      release [v, ov, iv] []) := by intro _; rfl) : PG X (.Subscript o i pos) (dnG ⟨X.K, T⟩ (tgSub mo mi)) := by
  refine pg_imp (pg_sub ho hi set_list ha) fun v σ H Q ⟨d, l, m, L, s, dv, q⟩ => ?_
  have q : Wp ((dropE mo l >>= fun x => (do let k ← dropE mi l; dSetIx x k d; pure l : M Loc)) m) (fun l' m' => ∀ σ' L' H', Ord L L' H H' → SR ⟨X.K, T⟩ l' m' L' σ' H' → Q σ' H') (fun _ _ => False) := q
  refine ⟨l, m, L, s, wp_drop (E := fun _ _ => False) ((Wp.bnd.mp q).mono (fun x m1 q1 vx L1 H1 o1 r1 d1 => ?_) fun _ _ z => z)⟩
  refine ⟨l, m1, L1, s.mono r1 o1, wp_drop (E := fun _ _ => False) ((Wp.bnd.mp q1).mono (fun k m2 q2 vk L2 H2 o2 r2 d2 => ?_) fun _ _ z => z)⟩
  have q2 := Wp.bnd.mp q2
  cases x with
  | ref n =>
    cases k with
    | int kk =>
      have q2 : Wp ((match m2.at_ n with
        | some (.lst xs) => (match ixN xs.length kk with
          | some j => .ok () (m2.put n (.lst (xs.set j d)))
          | none => .bad)
        | _ => .bad : Out Unit)) (fun _ m' => ∀ σ' L' H', Ord L L' H H' → SR ⟨X.K, T⟩ l m' L' σ' H' → Q σ' H') (fun _ _ => False) := q2
      cases c : m2.at_ n with
      | none => simp only [c] at q2; exact q2.elim
      | some mo =>
        cases mo with
        | lst xs =>
          simp only [c] at q2
          cases cj : ixN xs.length kk with
          | none => simp only [cj] at q2; exact q2.elim
          | some j =>
            simp only [cj] at q2
            obtain ⟨a, h1, vs, h2, t⟩ := r2.obj n _ c
            obtain ⟨od, mr'⟩ := put_lst r2 c h1 h2 (DVs.set (dv.mono (o1.trans o2)) j t)
            refine ⟨a, vs, kk, j, (d1.mono o2).2 a h1, d2, h2, by rw [t.len]; exact cj, ?_⟩
            have q2 : ∀ σ' L' H', Ord L L' H H' → SR ⟨X.K, T⟩ l (m2.put n (.lst (xs.set j d))) L' σ' H' → Q σ' H' := q2
            exact q2 σ L2 _ ((o1.trans o2).trans od) (s.mono mr' ((o1.trans o2).trans od))
        | _ => simp only [c] at q2; exact q2.elim
    | _ => exact q2.elim
  | _ => exact q2.elim
end
end Tw

set_option Elab.async false
set_option linter.all false
set_option maxRecDepth 100000
set_option maxHeartbeats 1000000
/-! An exception made without arguments. -/
namespace Tw
open PySem PySem.Spec PyProof.Rows L2
/-- an exception class whose __init__ is a built-in's -/
structure ExM0 (K : PySem.W.Frag) (C : Addr) : Prop where
  ex : ∃ (B newId initId : String) (bmB : List Value), ExcBaseFacts B newId initId bmB ∧ PySem.W.findIn K (.ref C) "__init__" = some (some (.builtin initId)) ∧ PySem.W.excInitIn K C bmB newId = true
  kp : PySem.W.keepIn K (.ref C) = true
section
variable {X : Cx} {W : WX} {T : Gw} {C : Nat} {x : Str} {p pos : Pos}
theorem e_mkE0 (G : ExM0 X.K (T C)) (hg : Gl X x) (hm : X.mg x = some (.ref (T C))) (hdb : (x == ("__debug__" : Str)) = false := by decide) : PE X (.Call (.Name x p) [] [] pos) (dnE ⟨X.K, T⟩ W (mC (.exn C []))) := by
  refine ⟨fun pins s σ H Q I ⟨l, m, L, sr, q⟩ => ?_⟩
  refine wpAny_Call_Name_kw (ld_glob I hg hm ?_ hdb)
  refine PySem.W.callWith_K0 I.kIn G.kp ?_
  obtain ⟨B, newId, initId, bmB, FB, hi, hq⟩ := G.ex
  obtain ⟨nm, N', qn, bs, bm, hdct, sn, sub, ab, col, dd, k0, k1, k2, k3, k5, hC, hT⟩ := PySem.W.excInit_of I.kIn hq
  obtain ⟨hp, g, d, tk, os⟩ := s
  show wpAny _ _ (call (.ref (T C)) []) _ _ _
  refine PySem.W.call_B FB hT hC (PySem.W.looks_findIn I.kIn hi) (Nat.zero_le _) fun h' k he ht => ?_
  have hn : H (hp.objs.size + 1) = none := I.hok.fresh (Nat.le_succ _)
  have I2 : L2.Inv X pins σ (upd H (hp.objs.size + 1) (exo (hp.objs.size + 1) (T C) none)) ⟨h', g, d, tk, os⟩ := I.laid (t' := tk) k (Nat.le_succ _) (exo_ok he)
  exact ⟨.ref (hp.objs.size + 1), _, I2, rfl, (show QE ⟨X.K, T⟩ L H Q (.exn C []) m from q) _ L _ (Ord.new1 hn) (sr.mr.new1 hn) ⟨_, none, [], rfl, upd_same, sr.mr.fresh hn, rfl, .inl ⟨rfl, rfl⟩⟩⟩
end
end Tw

set_option Elab.async false
set_option linter.all false
set_option maxRecDepth 100000
set_option maxHeartbeats 1000000
/-! What the head tells: looks at the written part that the kernel can do. -/
namespace Tw
open PySem PySem.Spec PyProof.Rows L2 NdefX PySem.HandSPX
open He (ga ma fAd DefD FnW fnW eqO eqO_ok ba Defn cT tabsB frT frT_in frT_none emptyTab emptyTab_eq growD)

/-! ### own exception classes -/
def oexB (K : PySem.W.Frag) (C : Addr) : Bool := (match K.lookup C with
  | some ⟨.type t, _, .cls cd, sl⟩ => decide (t = "type") && (cd.hasDict && (!cd.hasDel && (match cd.mro, sl.toList with
    | .ref C' :: bm, [_, _, _, _, some (.builtin n), _] => decide (C' = C) && (decide (n = "ValueError.__new__") && refsVE bm)
    | _, _ => false)))
  | _ => false) && (eqO (PySem.W.findIn K (.ref C) "__setattr__") (some (some (.builtin "object.__setattr__"))) && (decide (PySem.W.subIn K (.ref C) (.type "BaseException") = some true) && (decide (PySem.W.typeIn K (.ref C) = some (.type "type")) && PySem.W.keepIn K (.ref C))))
theorem oexB_ok {K : PySem.W.Frag} {C : Addr} (h : oexB K C = true) : OexC K C := by
  obtain ⟨h1, h2⟩ := ba h
  obtain ⟨h3, h4⟩ := ba h2
  obtain ⟨h5, h6⟩ := ba h4
  obtain ⟨h7, h8⟩ := ba h6
  refine ⟨?_, eqO_ok h3, of_decide_eq_true h5, of_decide_eq_true h7, h8⟩
  split at h1
  · rename_i t dd cd sl q
    obtain ⟨k1, k2⟩ := ba h1
    obtain ⟨k3, k4⟩ := ba k2
    obtain ⟨k5, k6⟩ := ba k4
    split at k6
    · rename_i C' bm z0 z1 z2 z3 n z5 e1 e2
      obtain ⟨j1, j2⟩ := ba k6
      obtain ⟨j3, j4⟩ := ba j2
      obtain ⟨nm, bs, mro, ns, qn, hd, sn, sb, ab, col, del⟩ := cd
      dsimp only at e1 k3 k5
      obtain rfl := of_decide_eq_true j1
      obtain rfl := of_decide_eq_true j3
      obtain rfl := of_decide_eq_true k1
      have k5 : del = false := by cases del with | false => rfl | true => cases k5
      subst e1 k3 k5
      have hsl : sl = #[z0, z1, z2, z3, some (.builtin "ValueError.__new__"), z5] := by
        obtain ⟨l⟩ := sl
        simp only at e2
        rw [e2]
      subst hsl
      exact ⟨nm, qn, ns, bs, bm, sn, sb, ab, col, dd, z0, z1, z2, z3, z5, q, j4⟩
    · cases k6
  · cases h1

/-- the words of an __init__ that says super().__init__('..'); self.f = p -/
def bodyB (f p : Str) : List Stmt → Bool
  | [.Expr (.Call (.Attribute (.Call (.Name s1 _) [] [] _) i1 p2) [.Constant (.str _) _ _] [] p4) _, .Assign [.Attribute (.Name s2 _) f' _] (.Name q _) _] =>
    decide (s1 = ("super" : Str)) && (decide (i1 = ("__init__" : Str)) && (decide (s2 = ("self" : Str)) && (decide (f' = f) && (decide (q = p) && (p2.endLine == p4.line)))))
  | _ => false
def parB (p : Str) : Arguments → Bool
  | ⟨[], [⟨a, none, _⟩, ⟨b, none, _⟩], none, [], [], none, []⟩ => decide (a = ("self" : Str)) && decide (b = p)
  | _ => false
structure InitW (f p : Str) (body : List Stmt) : Prop where
  ex : ∃ txt j p0 p1 p2 p3 p4 p5 p6 p7 p8 p9, body = [.Expr (.Call (.Attribute (.Call (.Name ("super" : Str) p0) [] [] p1) ("__init__" : Str) p2) [.Constant (.str txt) j p3] [] p4) p5, .Assign [.Attribute (.Name ("self" : Str) p6) f p7] (.Name p p8) p9] ∧ (p2.endLine == p4.line) = true
theorem bodyB_ok {f p : Str} {body : List Stmt} (h : bodyB f p body = true) : InitW f p body := by
  unfold bodyB at h
  split at h
  · obtain ⟨h1, j1⟩ := ba h
    obtain ⟨h2, j2⟩ := ba j1
    obtain ⟨h3, j3⟩ := ba j2
    obtain ⟨h4, j4⟩ := ba j3
    obtain ⟨h5, j5⟩ := ba j4
    obtain rfl := of_decide_eq_true h1
    obtain rfl := of_decide_eq_true h2
    obtain rfl := of_decide_eq_true h3
    obtain rfl := of_decide_eq_true h4
    obtain rfl := of_decide_eq_true h5
    exact ⟨_, _, _, _, _, _, _, _, _, _, _, _, rfl, j5⟩
  · cases h
theorem parB_ok {p : Str} {a : Arguments} (h : parB p a = true) : ∃ q1 q2, a = ⟨[], [⟨("self" : Str), none, q1⟩, ⟨p, none, q2⟩], none, [], [], none, []⟩ := by
  unfold parB at h
  split at h
  · obtain ⟨h1, h2⟩ := ba h
    obtain rfl := of_decide_eq_true h1
    obtain rfl := of_decide_eq_true h2
    exact ⟨_, _, rfl⟩
  · cases h
/-- the class C, its __init__ with the parameter p and the field f; the text's file -/
def supB (file : Str) (K : PySem.W.Frag) (C : Addr) (p f : Str) : Bool := oexB K C && (eqO (PySem.W.findIn K (.ref C) "__init__") (some (some (.ref (ma K C "__init__")))) && (decide (PySem.W.typeIn K (.ref (ma K C "__init__")) = some (.type "function")) &&
  (eqO (PySem.W.findIn K (.ref C) f) (some none) && (eqO (PySem.W.ks_superIn K C C "__init__") (some (some (.builtin "ValueError.__init__"))) && (decide (PySem.W.subIn K (.ref C) (.type "ValueError") = some true) && (decide (PySem.W.mroIn K C (.ref C) = some true) &&
  ((PySem.W.clsIn K C).isSome && (match K.lookup (ma K C "__init__") with
    | some ⟨_, _, .func fd, _⟩ => (match fd.body, fd.closure, fd.code, fd.annotations, fd.defaults, fd.kwdefaults with
      | .stmts body, [(x, cc)], .ref c, none, .none, .none => bodyB f p body && (parB p fd.params && (decide (x = ("__class__" : Str)) && (decide (fd.globals = mainGlobals) && (decide (fd.builtins = builtinsNs) && (PySem.W.codeIn K (.ref c) fd.qualname &&
        (nscB [("self" : Str), p, ("__class__" : Str)] [("self" : Str), p] [("__class__" : Str)] fd.scope && (decide (fd.scope.names.lookup ("super" : Str) = some .globalImplicit) && ((match K.lookup cc with
          | some ⟨_, _, .cell (some (.ref D)), _⟩ => decide (D = C)
          | _ => false) && (match K.lookup c with
          | some ⟨_, _, .fields vs, _⟩ => (match (vs[2]? : Option Value) with
            | some (Value.str fl _) => decide (fl = file)
            | _ => false)
          | _ => false)))))))))
      | _, _, _, _, _, _ => false)
    | _ => false))))))))
def supG (K : PySem.W.Frag) : Bool := eqO (PySem.W.nsIn K mainGlobals "super") (some none) && eqO (PySem.W.nsIn K cStatics "thirdparty.any") (some none)
section
variable {P : Program} {w : World} {K : PySem.W.Frag} {mg : Str → Option Value} {base : Heap}
theorem supB_ok {C : Addr} {p f : Str} {k : Nat} (h : supB P.main.file K C p f = true) (hG : supG K = true) (hs : mg ("super" : Str) = none) (htop : (P.main.scope.names.lookup ("super" : Str)).isSome = false)
    (hp1 : (p == ("__debug__" : Str)) = false) (hp2 : (p == ("__classdict__" : Str)) = false)
    (hb1 : ∀ (F : NF) (q1 q2 : Pos) (doc pm : Value) (ct : Value) (x u : Value), F.params = ⟨[], [⟨("self" : Str), none, q1⟩, ⟨p, none, q2⟩], none, [], [], none, []⟩ → bindArgs (PySem.W.fnX F.name F.qual F.params F.body F.scope F.cl .none .none doc pm none (.ref F.c) ct) ⟨[x, u], []⟩ = pure [(("self" : Str), x), (p, u)])
    (hb2 : ∀ (F : NF) (q1 q2 : Pos) (doc pm : Value) (ct : Value) (x u : Value), F.params = ⟨[], [⟨("self" : Str), none, q1⟩, ⟨p, none, q2⟩], none, [], [], none, []⟩ → bindArgs (PySem.W.fnX F.name F.qual F.params F.body F.scope F.cl .none .none doc pm none (.ref F.c) ct) ⟨[x], [(p, u)]⟩ = pure [(("self" : Str), x), (p, u)]) :
    ∃ fd, ExM P w K mg base C (ma K C "__init__") fd p f (k + 1) := by
  unfold supB at h
  obtain ⟨h1, h⟩ := ba h
  obtain ⟨h2, h⟩ := ba h
  obtain ⟨h3, h⟩ := ba h
  obtain ⟨h4, h⟩ := ba h
  obtain ⟨h5, h⟩ := ba h
  obtain ⟨h6, h⟩ := ba h
  obtain ⟨h7, h⟩ := ba h
  obtain ⟨h8, h⟩ := ba h
  obtain ⟨g1, g2⟩ := ba hG
  split at h
  · rename_i oc od fd osl lk
    split at h
    · rename_i body x cc c e1 e2 e3 e4 e5 e6
      obtain ⟨k1, h⟩ := ba h
      obtain ⟨k2, h⟩ := ba h
      obtain ⟨k3, h⟩ := ba h
      obtain ⟨k4, h⟩ := ba h
      obtain ⟨k5, h⟩ := ba h
      obtain ⟨k6, h⟩ := ba h
      obtain ⟨k7, h⟩ := ba h
      obtain ⟨k8, h⟩ := ba h
      obtain ⟨k9, k10⟩ := ba h
      obtain ⟨txt, j, p0, p1, p2, p3, p4, p5, p6, p7, p8, p9, eb, hpos⟩ := (bodyB_ok k1).ex
      obtain ⟨q1, q2, ep⟩ := parB_ok k2
      obtain ⟨n1, n2, n3, n4, n5, n6, n7, n8, n9, n10, n11, n12, n13, n14, n15⟩ := fd
      dsimp only at e1 e2 e3 e4 e5 e6 ep k4 k5 k6 k7 k8
      obtain rfl := of_decide_eq_true k3
      obtain rfl := of_decide_eq_true k4
      obtain rfl := of_decide_eq_true k5
      subst e1 e2 e3 e4 e5 e6
      split at k9
      · rename_i o1 o2 D o3 lcc
        obtain rfl := of_decide_eq_true k9
        split at k10
        · rename_i o4 o5 vs o6 lc
          split at k10
          · rename_i fl tf ev
            have efl := of_decide_eq_true k10
            have SC : SupC K mg D f D cc c := ⟨oexB_ok h1, eqO_ok h4, eqO_ok h5, of_decide_eq_true h6, of_decide_eq_true h7, h8, ⟨_, lcc, rfl⟩, hs, eqO_ok g2⟩
            have FI : FnOk P w K mg base (L2.CX P w) (k + 1) (ma K D "__init__") _ [("self" : Str), p] (spI D f) :=
              init_ok (F := ⟨n1, n2, n3, body, n5, [(("__class__" : Str), cc)], c⟩) SC rfl eb lk k6 lc rfl ev efl.symm htop rfl (nscope_by k7) (of_decide_eq_true k8) hpos hp1 hp2 ⟨_, ⟨("self" : Str), none, q1⟩, by rw [ep] <;> rfl, rfl, rfl⟩
            exact ⟨_, oexB_ok h1, eqO_ok h2, of_decide_eq_true h3, FI, (oexB_ok h1).kC, fun s x u => BindsTo.of_eq (hb1 ⟨n1, n2, n3, body, n5, [(("__class__" : Str), cc)], c⟩ q1 q2 n10 n11 n14 x u ep), fun s x u => BindsTo.of_eq (hb2 ⟨n1, n2, n3, body, n5, [(("__class__" : Str), cc)], c⟩ q1 q2 n10 n11 n14 x u ep)⟩
          · cases k10
        · cases k10
      · cases k9
    · cases h
  · cases h
end
end Tw

set_option Elab.async false
set_option linter.all false
set_option maxRecDepth 100000
set_option maxHeartbeats 1000000
/-! The head's Hook, and what comes of it. -/
namespace Tw
open PySem PySem.Spec PyProof.Rows L2 NdefX PySem.HandSPX
open He (ga ma fAd DefD FnW fnW eqO eqO_ok ba Defn cT tabsB frT frT_in frT_none emptyTab emptyTab_eq growD)

def excB (K : PySem.W.Frag) (D : Addr) : Bool := eqO (PySem.W.findIn K (.ref D) "__getattribute__") (some (some (.builtin "BaseException.__getattribute__"))) && (eqO (PySem.W.findIn K (.ref D) "__getattr__") (some none) && (decide (PySem.W.subIn K (.ref D) (.type "BaseException") = some true) &&
  (PySem.W.hasDictIn K D && (eqO (PySem.W.findIn K (.ref D) "__class__") (some (some (.builtin "object.__class__"))) && (eqO (PySem.W.specialIn K (.builtin "object.__class__") "__get__") (some (some (.builtin "getset_descriptor.__get__"))) &&
  (decide (PySem.W.takesIn K (.builtin "object.__class__") = some true) && decide (PySem.W.mroIn K D (.type "object") = some true)))))))
theorem excB_ok {K : PySem.W.Frag} {D : Addr} (h : excB K D = true) : ExcC K D := by
  obtain ⟨h1, h⟩ := ba h
  obtain ⟨h2, h⟩ := ba h
  obtain ⟨h3, h⟩ := ba h
  obtain ⟨h4, h⟩ := ba h
  obtain ⟨h5, h⟩ := ba h
  obtain ⟨h6, h⟩ := ba h
  obtain ⟨h7, h8⟩ := ba h
  exact ⟨eqO_ok h1, eqO_ok h2, of_decide_eq_true h3, h4, eqO_ok h5, eqO_ok h6, of_decide_eq_true h7, of_decide_eq_true h8⟩
def exBase : List Value := [.type "Exception", .type "BaseException", .type "object"]
/-- over ValueError (true), over Exception (false) -/
def mk0B (v : Bool) (K : PySem.W.Frag) (C : Addr) : Bool := PySem.W.keepIn K (.ref C) && (if v then eqO (PySem.W.findIn K (.ref C) "__init__") (some (some (.builtin "ValueError.__init__"))) && PySem.W.excInitIn K C He.veBase "ValueError.__new__"
  else eqO (PySem.W.findIn K (.ref C) "__init__") (some (some (.builtin "Exception.__init__"))) && PySem.W.excInitIn K C exBase "Exception.__new__")
theorem mk0B_ok {v : Bool} {K : PySem.W.Frag} {C : Addr} (h : mk0B v K C = true) : ExM0 K C := by
  obtain ⟨h1, h⟩ := ba h
  cases v with
  | true =>
    obtain ⟨h2, h3⟩ := ba (show (eqO (PySem.W.findIn K (.ref C) "__init__") (some (some (.builtin "ValueError.__init__"))) && PySem.W.excInitIn K C He.veBase "ValueError.__new__") = true from h)
    exact ⟨⟨_, _, _, _, PySem.F.excBase_ValueError, eqO_ok h2, h3⟩, h1⟩
  | false =>
    obtain ⟨h2, h3⟩ := ba (show (eqO (PySem.W.findIn K (.ref C) "__init__") (some (some (.builtin "Exception.__init__"))) && PySem.W.excInitIn K C exBase "Exception.__new__") = true from h)
    exact ⟨⟨_, _, _, _, PySem.F.excBase_Exception, eqO_ok h2, h3⟩, h1⟩
/-! ### isinstance's answers as a table -/
def eqT : TyC → TyC → Bool
  | .own i, .own j => Nat.beq i j
  | .b m, .b n => decide (m = n)
  | _, _ => false
theorem eqT_ok {a b : TyC} (h : eqT a b = true) : a = b := by
  cases a with
  | own i =>
    cases b with
    | own j => rw [Nat.eq_of_beq_eq_true h]
    | b n => cases h
  | b m =>
    cases b with
    | own j => cases h
    | b n => rw [of_decide_eq_true (show decide (m = n) = true from h)]
def tbRow (r : List (TyC × Bool)) (c : TyC) : Option Bool := match r with
  | [] => none
  | (c', b) :: r => match eqT c' c with
    | true => some b
    | false => tbRow r c
def tbLook (tb : List (TyC × List (TyC × Bool))) (t c : TyC) : Option Bool := match tb with
  | [] => none
  | (t', r) :: tb => match eqT t' t with
    | true => tbRow r c
    | false => tbLook tb t c
def tbB (g : Gv) (tb : List (TyC × List (TyC × Bool))) : Bool := tb.all fun e => e.2.all fun q => decide (PySem.W.kitOne g.K (e.1.v g) (q.1.v g) = some q.2)
theorem tbRow_ok {g : Gv} {t : TyC} : ∀ {r : List (TyC × Bool)}, (r.all fun q => decide (PySem.W.kitOne g.K (t.v g) (q.1.v g) = some q.2)) = true → ∀ c b, tbRow r c = some b → PySem.W.kitOne g.K (t.v g) (c.v g) = some b
  | [], _, _, _, e => by cases e
  | (c', b') :: r, h, c, b, e => by
    obtain ⟨h1, h2⟩ := ba (show (decide (PySem.W.kitOne g.K (t.v g) (c'.v g) = some b') && (r.all fun q => decide (PySem.W.kitOne g.K (t.v g) (q.1.v g) = some q.2))) = true from h)
    unfold tbRow at e
    split at e
    · rename_i q
      rw [← eqT_ok q]
      cases e
      exact of_decide_eq_true h1
    · exact tbRow_ok h2 c b e
theorem tbB_ok {g : Gv} : ∀ {tb : List (TyC × List (TyC × Bool))}, tbB g tb = true → ∀ t c b, tbLook tb t c = some b → PySem.W.kitOne g.K (t.v g) (c.v g) = some b
  | [], _, _, _, _, e => by cases e
  | (t', r) :: tb, h, t, c, b, e => by
    obtain ⟨h1, h2⟩ := ba (show ((r.all fun q => decide (PySem.W.kitOne g.K (t'.v g) (q.1.v g) = some q.2)) && tbB g tb) = true from h)
    unfold tbLook at e
    split at e
    · rename_i q
      rw [← eqT_ok q]
      exact tbRow_ok h1 c b e
    · exact tbB_ok h2 t c b e

/-! ### the Hook -/
def rootsF (g : Addr → Option Obj) : Nat → List Addr
  | 0 => [mainGlobals, cStatics]
  | n + 1 => growD g (rootsF g n)
structure SaysH (fn : List DefD) (tf : List Defn) (ex : PySem.W.Frag → Bool) (h : Heap) (K : PySem.W.Frag) : Prop where
  defs : (fn.all fun d => d.ok K) = true ∧ (fn.map fun d => fnW K d.at_) = fn.map DefD.val
  more : ex K = true
  hd : ∀ p ∈ tf, PySem.W.codeHdIn K (cT K p).1 (cT K p).2 = true
  out : ∀ p ∈ tf, K.lookup (cT K p).2 = none
  empty : ∀ p ∈ tf, h.get? (cT K p).2 = some { cls := .none, data := .fields #[] }
abbrev AlH : Type := Bool × List FnW
def obsH (n : Nat) (fn : List DefD) (tf : List Defn) (ex : PySem.W.Frag → Bool) (g : Addr → Option Obj) : AlH := ((fn.all fun d => d.ok (frT g (rootsF g n))) && (ex (frT g (rootsF g n)) && tabsB g tf (frT g (rootsF g n))), fn.map fun d => fnW (frT g (rootsF g n)) d.at_)
theorem saysH_of {n : Nat} {fn : List DefD} {tf : List Defn} {ex : PySem.W.Frag → Bool} {h : Heap} (e : obsH n fn tf ex h.get? = (true, fn.map DefD.val)) : SaysH fn tf ex h (frT h.get? (rootsF h.get? n)) := by
  have e1 : ((fn.all fun d => d.ok (frT h.get? (rootsF h.get? n))) && (ex (frT h.get? (rootsF h.get? n)) && tabsB h.get? tf (frT h.get? (rootsF h.get? n)))) = true := congrArg (fun z : AlH => z.1) e
  have e2 : (fn.map fun d => fnW (frT h.get? (rootsF h.get? n)) d.at_) = fn.map DefD.val := congrArg (fun z : AlH => z.2) e
  obtain ⟨k1, k2⟩ := ba e1
  obtain ⟨k3, k4⟩ := ba k2
  have key : ∀ p ∈ tf, PySem.W.codeHdIn (frT h.get? (rootsF h.get? n)) (cT (frT h.get? (rootsF h.get? n)) p).1 (cT (frT h.get? (rootsF h.get? n)) p).2 = true ∧ ∃ o, h.get? (cT (frT h.get? (rootsF h.get? n)) p).2 = some o ∧ emptyTab o = true := fun p hp => by
    obtain ⟨z3, z4⟩ := ba (List.all_eq_true.mp k4 p hp)
    refine ⟨z3, ?_⟩
    split at z4
    · rename_i o q
      exact ⟨o, q, z4⟩
    · cases z4
  exact ⟨⟨k1, e2⟩, k3, fun p hp => (key p hp).1, fun p hp => by
    obtain ⟨_, o, q, z⟩ := key p hp
    exact frT_none q z, fun p hp => by
    obtain ⟨_, o, q, z⟩ := key p hp
    rw [q, emptyTab_eq z]⟩
def hookH (n : Nat) (fn : List DefD) (tf : List Defn) (ex : PySem.W.Frag → Bool) : PySem.W.Hook where
  α := AlH
  obs := fun s => obsH n fn tf ex s.heap.get?
  val := fun _ => (true, fn.map DefD.val)
  says := fun _ h => ∃ K : PySem.W.Frag, K.In h ∧ SaysH fn tf ex h K
  of := fun _ _ e => ⟨_, frT_in, saysH_of e⟩
  keeps := fun _ _ _ ⟨K, hK, c⟩ k => ⟨K, PySem.W.Frag.In.keeps hK k, ⟨c.defs, c.more, c.hd, c.out, fun p hp => k _ _ (c.empty p hp)⟩⟩
theorem obsH_eq {n : Nat} {fn : List DefD} {tf : List Defn} {ex : PySem.W.Frag → Bool} {g : Addr → Option Obj} {s : Shared} (h : ∀ a, g a = s.heap.get? a) : obsH n fn tf ex g = (hookH n fn tf ex).obs s := by
  have e : g = s.heap.get? := funext h
  rw [e] <;> rfl
theorem SaysH.def_ {fn : List DefD} {tf : List Defn} {ex : PySem.W.Frag → Bool} {h : Heap} {K : PySem.W.Frag} (c : SaysH fn tf ex h K) (i : Nat) {d : DefD} (hi : fn[i]? = some d := by rfl) : ∃ fd, FunD K d.name d.qual d.params d.body d.scope (d.dvs K) (d.kws K) (fAd K d.at_) fd := by
  obtain ⟨c1, c2⟩ := c.defs
  have e2 : (fn.map fun d => fnW K d.at_)[i]? = (fn.map DefD.val)[i]? := by rw [c2]
  rw [List.getElem?_map, List.getElem?_map, hi] at e2
  exact DefD.funD (Option.some.inj e2) (List.all_eq_true.mp c1 d (List.mem_of_getElem? hi))
/-- the tables as the layer wants them -/
theorem tabs_start {T : List (Addr × Str)} {cs : List (Addr × Addr)} {H : Hp} (h : ∀ p ∈ cs, H p.2 = some (.tbl #[])) (hT : ∀ q ∈ T, ∃ p ∈ cs, q.1 = p.2) : LamX.Tabs T H := fun q hq => by
  obtain ⟨p, hp, e⟩ := hT q hq
  exact LamX.TabS.nil (by rw [e]; exact h p hp)
end Tw

set_option Elab.async false
set_option linter.all false
set_option maxRecDepth 100000
set_option maxHeartbeats 1000000
/-! Pairs stored at once, one condition of a comprehension, extend. -/
namespace Tw
open PySem PySem.Spec PyProof.Rows L2
def sPair (i j : Nat) (a : Loc → M (List D)) : Loc → M Fl := fun l => do
  match ← a l with
  | [x, y] => pure (.nx ((l.set i (some x)).set j (some y)))
  | _ => bad
theorem tgok_tup {ts : List (D → Loc → M Loc)} (h : ∀ t ∈ ts, TgOk t) : TgOk (tgT ts) := fun d l m z m' e => by
  have key : ∀ (ts : List (D → Loc → M Loc)) (xs : List D) (l : Loc) (m : Mem), (∀ t ∈ ts, TgOk t) → tgTs ts xs l m ≠ .exc z m' := by
    intro ts
    induction ts with
    | nil => intro xs l m _ e; cases xs <;> cases e
    | cons t ts ih =>
      intro xs l m h e
      cases xs with
      | nil => cases e
      | cons x xs =>
        have e : (t x l m).bnd (fun l1 => tgTs ts xs l1) = .exc z m' := e
        cases c : t x l m with
        | ok l1 m1 => rw [c] at e; exact ih xs l1 m1 (fun t ht => h t (List.mem_cons_of_mem _ ht)) e
        | exc y m1 => exact h t (List.mem_cons_self ..) x l m y m1 c
        | bad => rw [c] at e; cases e
  cases d with
  | tup xs =>
    have e : (if xs.length = ts.length then tgTs ts xs l else bad) m = .exc z m' := e
    by_cases hl : xs.length = ts.length
    · rw [if_pos hl] at e; exact key ts xs l m h e
    · rw [if_neg hl] at e; cases e
  | _ => cases e
theorem tgok_ns (is : List Nat) : TgOk (tgT (is.map tgN)) := tgok_tup fun t ht => by
  obtain ⟨i, _, rfl⟩ := List.mem_map.mp ht
  exact tgok_n
section
variable {X : Cx} {W : WX} {T : Gw}
theorem s_pair {i j : Nat} {x y : Str} {a b : Expr} {ma : Loc → M (List D)} {px py pt pos : Pos} {kt k2 pt2} (hN : X.N.Nodup) (hi : X.N[i]? = some x) (hj : X.N[j]? = some y) (hij : i ≠ j) (hc : X.calm = true)
    (hx : X.env.scope.names.lookup x = some .local) (hy : X.env.scope.names.lookup y = some .local) (ha : PA X [a, b] (dnA ⟨X.K, T⟩ W ma))
    (hw : swappedStores [.Tuple [.Name x px, .Name y py] kt pt] (.Tuple [a, b] k2 pt2) X.env = pure (some [x, y])) (hs : swapsWithSole [.Tuple [.Name x px, .Name y py] kt pt] (.Tuple [a, b] k2 pt2) pos.line X.env = pure false := by rfl) :
    PS X (.Assign [.Tuple [.Name x px, .Name y py] kt pt] (.Tuple [a, b] k2 pt2) pos) (dnS ⟨X.K, T⟩ W (sPair i j ma)) := by
  refine ps_imp (ps_par hc hN hi hj hij hx hy ha hw hs) fun D σ H ⟨l, m, L, s, q⟩ => ?_
  refine ⟨l, m, L, s, (Wp.bnd.mp q).mono (fun xs m1 q1 vs L1 H1 o1 r1 d1 => ?_) fun x m1 q1 c d L1 H1 o1 r1 x1 => q1 c d σ L1 H1 o1 r1 x1⟩
  match xs, d1, q1 with
  | [x, y], d1, q1 =>
    obtain ⟨v, _, rfl, dx, w, _, rfl, dy, rfl⟩ := d1
    exact ⟨v, w, rfl, (show ∀ σ' L' H', Ord L L' H H' → SR ⟨X.K, T⟩ ((l.set i (some x)).set j (some y)) m1 L' σ' H' → D.nx σ' H' from q1) _ L1 H1 o1 (((s.mono r1 o1).set dx).set dy)⟩
  | [], _, q1 => exact q1.elim
  | [_], _, q1 => exact q1.elim
  | _ :: _ :: _ :: _, _, q1 => exact q1.elim
theorem t_ifs {e : Expr} {t : Loc → M Bool} (h : PT X e (dnT ⟨X.K, T⟩ W t)) : PTs X [e] (dnT ⟨X.K, T⟩ W t) := pts_one h
theorem e_extend {o e : Expr} {me : Loc → M D} {a : Loc → M (List D)} {apos cpos : Pos} (ho : PE X o (dnE ⟨X.K, T⟩ W me)) (ha : PA X [e] (dnA ⟨X.K, T⟩ W a)) (hbase : attributeBase o "extend" X.env (eval o X.env) = eval o X.env := by rfl) (hs : starEach [e] X.env = (false, eval e X.env) :: starEach [] X.env := by rfl)
    (hfew : ((backTo cpos (starEach [e] X.env)).all (fun x => !x.1) && (backToKw cpos (keywordEach [] X.env)).all (fun x => x.1.isSome) && decide ([e].length + ([] : List Keyword).length + (if ([] : List Keyword).isEmpty then 0 else 1) < 30)) = true := by rfl)
    (hline : (apos.endLine == cpos.line) = true := by rfl) : PE X (.Call (.Attribute o "extend" apos) [e] [] cpos) (dnE ⟨X.K, T⟩ W (mMl dExtend me a)) :=
  e_bml PySem.F.slot_list_extend PySem.F.type_list_extend mt_extend rm_extend noxm_extend ho ha hbase hfew hline hs rfl
end
end Tw

set_option Elab.async false
set_option linter.all false
set_option maxRecDepth 100000
set_option maxHeartbeats 1000000
/-! Defs by their code objects; what is never called. -/
namespace Tw
open PySem PySem.Spec PyProof.Rows L2
section
variable {P : Program} {w : World} {K : PySem.W.Frag} {mg : Str → Option Value} {base : Heap} {x qual : Str} {params : Arguments} {body : List Stmt} {scope : Scope} {dvs : List V} {kws : List (Str × V)} {f : Addr} {fd : FuncData}
theorem okC {CX : CXT} {N ps : List Str} {k : Nat} {sp : Sp} (F : FunD K x qual params body scope dvs kws f fd) (S : FnScope N ps scope) (len : ∀ vs H Q E, sp vs H Q E → vs.length = ps.length)
    (hbody : ∀ (c : Addr) (A : Around) (outer : List Env) (s : Shared) (H : Hp) (vs : List V) (Q : VK) (E : XK), fd.code = .ref c → Room k (A.deeper (envOfC qual scope s.heap.objs.size f (.ref c))) → sp vs H Q E →
      ∃ t, PSs (cxOf CX P w K mg base N qual scope f (.ref c) A outer s H E) body t ∧ t { nx := fun _ H' => Q .non H', rt := Q } (L2.start N vs) H) : FnOk P w K mg base CX (k + 1) f fd ps sp := by
  obtain ⟨oc, od, dV, kV, doc, pm, an, cdv, ct, osl, rfl, lk, hcd, _, _⟩ := F.ex
  obtain ⟨c, rfl⟩ := He.codeIn_ref hcd
  exact fn_of lk hcd S len fun A outer s H vs Q E hr hsp => hbody c A outer s H vs Q E rfl hr hsp
theorem FnOk.bad_ {g : Gv} {CX : CXT} {ps : List Str} {k n : Nat} (hn : n = ps.length) : FnOk P w K mg base CX k f fd ps (spM g n fun _ => bad) :=
  ⟨fun vs H Q E h => by rw [spM_len h, hn], fun A outer s H args us vs Q E _ _ _ _ ⟨_, _, _, _, _, _, q⟩ => q.elim⟩
end
end Tw

set_option Elab.async false
set_option linter.all false
set_option maxRecDepth 100000
set_option maxHeartbeats 2000000
namespace K01
open PySem PySem.Spec PyProof.Rows L2 Tw NdefX
abbrev PR : Program := PySem.Challenge.pw_turnways_k01_errors_made
def top (i : Nat) : Stmt := PR.main.body.getD i (.Pass ⟨0, 0, 0, 0⟩)
abbrev s_law_source : Stmt := top 18
abbrev s_law_draw : Stmt := top 19
abbrev s_law_same : Stmt := top 20
abbrev s_law_object : Stmt := top 21
abbrev s_law_kinds : Stmt := top 22
abbrev s_law_pairs : Stmt := top 23
abbrev slaw : Stmt := top 24
/-! classes, built-in names -/
def cn : List Str := [("TurnError" : Str), ("Held" : Str), ("BadWorks" : Str), ("BadName" : Str), ("BadValue" : Str), ("BadSize" : Str), ("BadLimit" : Str), ("NoThing" : Str), ("NotHeld" : Str), ("NoWork" : Str), ("CanNot" : Str), ("NoStep" : Str), ("NoMoment" : Str), ("BadStretch" : Str), ("NotTruth" : Str), ("Beyond" : Str)]
def bnm : List Str := [("Exception" : Str), ("LookupError" : Str), ("RuntimeError" : Str), ("ValueError" : Str), ("all" : Str), ("bool" : Str), ("int" : Str), ("isinstance" : Str), ("len" : Str), ("list" : Str), ("min" : Str), ("range" : Str), ("tuple" : Str), ("zip" : Str)]
def fEcount : Nat → Bool := fun i => i == 2
def fElimit : Nat → Bool := fun i => i == 6
def fElock : Nat → Bool := fun i => i == 8
def fEmoment : Nat → Bool := fun i => i == 12
def fEname : Nat → Bool := fun i => i == 3 || i == 7
def fEnumber : Nat → Bool := fun i => i == 9 || i == 10
def fEsize : Nat → Bool := fun i => i == 5
def fEstep : Nat → Bool := fun i => i == 11
def fEstretch : Nat → Bool := fun i => i == 13
def fEvalue : Nat → Bool := fun i => i == 4 || i == 14
def isTb : List (TyC × List (TyC × Bool)) := [((.b "NoneType"), [((.b "bool"), false), ((.b "int"), false), ((.b "tuple"), false), ((.b "list"), false)]), ((.b "bool"), [((.b "bool"), true), ((.b "int"), true), ((.b "tuple"), false), ((.b "list"), false)]), ((.b "int"), [((.b "bool"), false), ((.b "int"), true), ((.b "tuple"), false), ((.b "list"), false)]), ((.b "str"), [((.b "bool"), false), ((.b "int"), false), ((.b "tuple"), false), ((.b "list"), false)]), ((.b "tuple"), [((.b "bool"), false), ((.b "int"), false), ((.b "tuple"), true), ((.b "list"), false)]), ((.b "list"), [((.b "bool"), false), ((.b "int"), false), ((.b "tuple"), false), ((.b "list"), true)]), ((.own 0), [((.own 0), true), ((.own 1), false), ((.own 2), false), ((.own 3), false), ((.own 4), false), ((.own 5), false), ((.own 6), false), ((.own 7), false), ((.own 8), false), ((.own 9), false), ((.own 10), false), ((.own 11), false), ((.own 12), false), ((.own 13), false), ((.own 14), false), ((.own 15), false), ((.b "ValueError"), true), ((.b "Exception"), true), ((.b "LookupError"), false), ((.b "RuntimeError"), false)]), ((.own 1), [((.own 0), false), ((.own 1), true), ((.own 2), false), ((.own 3), false), ((.own 4), false), ((.own 5), false), ((.own 6), false), ((.own 7), false), ((.own 8), false), ((.own 9), false), ((.own 10), false), ((.own 11), false), ((.own 12), false), ((.own 13), false), ((.own 14), false), ((.own 15), false), ((.b "ValueError"), false), ((.b "Exception"), true), ((.b "LookupError"), false), ((.b "RuntimeError"), false)]), ((.own 2), [((.own 0), true), ((.own 1), false), ((.own 2), true), ((.own 3), false), ((.own 4), false), ((.own 5), false), ((.own 6), false), ((.own 7), false), ((.own 8), false), ((.own 9), false), ((.own 10), false), ((.own 11), false), ((.own 12), false), ((.own 13), false), ((.own 14), false), ((.own 15), false), ((.b "ValueError"), true), ((.b "Exception"), true), ((.b "LookupError"), false), ((.b "RuntimeError"), false)]), ((.own 3), [((.own 0), true), ((.own 1), false), ((.own 2), false), ((.own 3), true), ((.own 4), false), ((.own 5), false), ((.own 6), false), ((.own 7), false), ((.own 8), false), ((.own 9), false), ((.own 10), false), ((.own 11), false), ((.own 12), false), ((.own 13), false), ((.own 14), false), ((.own 15), false), ((.b "ValueError"), true), ((.b "Exception"), true), ((.b "LookupError"), false), ((.b "RuntimeError"), false)]), ((.own 4), [((.own 0), true), ((.own 1), false), ((.own 2), false), ((.own 3), false), ((.own 4), true), ((.own 5), false), ((.own 6), false), ((.own 7), false), ((.own 8), false), ((.own 9), false), ((.own 10), false), ((.own 11), false), ((.own 12), false), ((.own 13), false), ((.own 14), false), ((.own 15), false), ((.b "ValueError"), true), ((.b "Exception"), true), ((.b "LookupError"), false), ((.b "RuntimeError"), false)]), ((.own 5), [((.own 0), true), ((.own 1), false), ((.own 2), false), ((.own 3), false), ((.own 4), false), ((.own 5), true), ((.own 6), false), ((.own 7), false), ((.own 8), false), ((.own 9), false), ((.own 10), false), ((.own 11), false), ((.own 12), false), ((.own 13), false), ((.own 14), false), ((.own 15), false), ((.b "ValueError"), true), ((.b "Exception"), true), ((.b "LookupError"), false), ((.b "RuntimeError"), false)]), ((.own 6), [((.own 0), true), ((.own 1), false), ((.own 2), false), ((.own 3), false), ((.own 4), false), ((.own 5), false), ((.own 6), true), ((.own 7), false), ((.own 8), false), ((.own 9), false), ((.own 10), false), ((.own 11), false), ((.own 12), false), ((.own 13), false), ((.own 14), false), ((.own 15), false), ((.b "ValueError"), true), ((.b "Exception"), true), ((.b "LookupError"), false), ((.b "RuntimeError"), false)]), ((.own 7), [((.own 0), true), ((.own 1), false), ((.own 2), false), ((.own 3), false), ((.own 4), false), ((.own 5), false), ((.own 6), false), ((.own 7), true), ((.own 8), false), ((.own 9), false), ((.own 10), false), ((.own 11), false), ((.own 12), false), ((.own 13), false), ((.own 14), false), ((.own 15), false), ((.b "ValueError"), true), ((.b "Exception"), true), ((.b "LookupError"), false), ((.b "RuntimeError"), false)]), ((.own 8), [((.own 0), true), ((.own 1), false), ((.own 2), false), ((.own 3), false), ((.own 4), false), ((.own 5), false), ((.own 6), false), ((.own 7), false), ((.own 8), true), ((.own 9), false), ((.own 10), false), ((.own 11), false), ((.own 12), false), ((.own 13), false), ((.own 14), false), ((.own 15), false), ((.b "ValueError"), true), ((.b "Exception"), true), ((.b "LookupError"), false), ((.b "RuntimeError"), false)]), ((.own 9), [((.own 0), true), ((.own 1), false), ((.own 2), false), ((.own 3), false), ((.own 4), false), ((.own 5), false), ((.own 6), false), ((.own 7), false), ((.own 8), false), ((.own 9), true), ((.own 10), false), ((.own 11), false), ((.own 12), false), ((.own 13), false), ((.own 14), false), ((.own 15), false), ((.b "ValueError"), true), ((.b "Exception"), true), ((.b "LookupError"), false), ((.b "RuntimeError"), false)]), ((.own 10), [((.own 0), true), ((.own 1), false), ((.own 2), false), ((.own 3), false), ((.own 4), false), ((.own 5), false), ((.own 6), false), ((.own 7), false), ((.own 8), false), ((.own 9), false), ((.own 10), true), ((.own 11), false), ((.own 12), false), ((.own 13), false), ((.own 14), false), ((.own 15), false), ((.b "ValueError"), true), ((.b "Exception"), true), ((.b "LookupError"), false), ((.b "RuntimeError"), false)]), ((.own 11), [((.own 0), true), ((.own 1), false), ((.own 2), false), ((.own 3), false), ((.own 4), false), ((.own 5), false), ((.own 6), false), ((.own 7), false), ((.own 8), false), ((.own 9), false), ((.own 10), false), ((.own 11), true), ((.own 12), false), ((.own 13), false), ((.own 14), false), ((.own 15), false), ((.b "ValueError"), true), ((.b "Exception"), true), ((.b "LookupError"), false), ((.b "RuntimeError"), false)]), ((.own 12), [((.own 0), true), ((.own 1), false), ((.own 2), false), ((.own 3), false), ((.own 4), false), ((.own 5), false), ((.own 6), false), ((.own 7), false), ((.own 8), false), ((.own 9), false), ((.own 10), false), ((.own 11), false), ((.own 12), true), ((.own 13), false), ((.own 14), false), ((.own 15), false), ((.b "ValueError"), true), ((.b "Exception"), true), ((.b "LookupError"), false), ((.b "RuntimeError"), false)]), ((.own 13), [((.own 0), true), ((.own 1), false), ((.own 2), false), ((.own 3), false), ((.own 4), false), ((.own 5), false), ((.own 6), false), ((.own 7), false), ((.own 8), false), ((.own 9), false), ((.own 10), false), ((.own 11), false), ((.own 12), false), ((.own 13), true), ((.own 14), false), ((.own 15), false), ((.b "ValueError"), true), ((.b "Exception"), true), ((.b "LookupError"), false), ((.b "RuntimeError"), false)]), ((.own 14), [((.own 0), true), ((.own 1), false), ((.own 2), false), ((.own 3), false), ((.own 4), false), ((.own 5), false), ((.own 6), false), ((.own 7), false), ((.own 8), false), ((.own 9), false), ((.own 10), false), ((.own 11), false), ((.own 12), false), ((.own 13), false), ((.own 14), true), ((.own 15), false), ((.b "ValueError"), true), ((.b "Exception"), true), ((.b "LookupError"), false), ((.b "RuntimeError"), false)]), ((.own 15), [((.own 0), true), ((.own 1), false), ((.own 2), false), ((.own 3), false), ((.own 4), false), ((.own 5), false), ((.own 6), false), ((.own 7), false), ((.own 8), false), ((.own 9), false), ((.own 10), false), ((.own 11), false), ((.own 12), false), ((.own 13), false), ((.own 14), false), ((.own 15), true), ((.b "ValueError"), true), ((.b "Exception"), true), ((.b "LookupError"), false), ((.b "RuntimeError"), false)])]
def isP : IsP := ⟨tbLook isTb, fun i => decide (i < 16), fun _ => false⟩
/-! the lambdas -/
def chl : Expr → Nat → Expr
  | .Tuple es _ _, i => es.getD i (.Name "" ⟨0, 0, 0, 0⟩)
  | .List es _, i => es.getD i (.Name "" ⟨0, 0, 0, 0⟩)
  | .Call _ es _ _, i => es.getD i (.Name "" ⟨0, 0, 0, 0⟩)
  | e, _ => e
def stE : Stmt → Expr
  | .Assign _ e _ => e
  | .Expr e _ => e
  | _ => .Name "" ⟨0, 0, 0, 0⟩
def lamE (q : Str) : Expr → LF
  | .Lambda p b s _ => ⟨q, p, b, s⟩
  | e => ⟨q, ⟨[], [], none, [], [], none, []⟩, e, ⟨.function, [], false, false, []⟩⟩
def lamW : Nat → LF
  | 0 => lamE ((("_law_pairs" : Str) ++ ".<locals>.") ++ "<lambda>") (chl (chl (stE ((defBody s_law_pairs).getD 0 (.Pass ⟨0, 0, 0, 0⟩))) 0) 2)
  | 1 => lamE ((("_law_pairs" : Str) ++ ".<locals>.") ++ "<lambda>") (chl (chl (stE ((defBody s_law_pairs).getD 0 (.Pass ⟨0, 0, 0, 0⟩))) 1) 2)
  | 2 => lamE ((("_law_pairs" : Str) ++ ".<locals>.") ++ "<lambda>") (chl (chl (chl (stE ((defBody s_law_pairs).getD 1 (.Pass ⟨0, 0, 0, 0⟩))) 0) 0) 2)
  | 3 => lamE ((("_law_pairs" : Str) ++ ".<locals>.") ++ "<lambda>") (chl (chl (chl (stE ((defBody s_law_pairs).getD 1 (.Pass ⟨0, 0, 0, 0⟩))) 0) 1) 2)
  | 4 => lamE ((("_law_pairs" : Str) ++ ".<locals>.") ++ "<lambda>") (chl (chl (chl (stE ((defBody s_law_pairs).getD 2 (.Pass ⟨0, 0, 0, 0⟩))) 0) 0) 2)
  | 5 => lamE ((("_law_pairs" : Str) ++ ".<locals>.") ++ "<lambda>") (chl (chl (chl (stE ((defBody s_law_pairs).getD 2 (.Pass ⟨0, 0, 0, 0⟩))) 0) 1) 2)
  | 6 => lamE ((("_law_pairs" : Str) ++ ".<locals>.") ++ "<lambda>") (chl (chl (chl (stE ((defBody s_law_pairs).getD 3 (.Pass ⟨0, 0, 0, 0⟩))) 0) 0) 2)
  | 7 => lamE ((("_law_pairs" : Str) ++ ".<locals>.") ++ "<lambda>") (chl (chl (chl (stE ((defBody s_law_pairs).getD 3 (.Pass ⟨0, 0, 0, 0⟩))) 0) 1) 2)
  | 8 => lamE ((("_law_pairs" : Str) ++ ".<locals>.") ++ "<lambda>") (chl (chl (chl (stE ((defBody s_law_pairs).getD 4 (.Pass ⟨0, 0, 0, 0⟩))) 0) 0) 2)
  | 9 => lamE ((("_law_pairs" : Str) ++ ".<locals>.") ++ "<lambda>") (chl (chl (chl (stE ((defBody s_law_pairs).getD 4 (.Pass ⟨0, 0, 0, 0⟩))) 0) 1) 2)
  | 10 => lamE ((("_law_pairs" : Str) ++ ".<locals>.") ++ "<lambda>") (chl (chl (stE ((defBody s_law_pairs).getD 5 (.Pass ⟨0, 0, 0, 0⟩))) 0) 2)
  | 11 => lamE ((("_law_pairs" : Str) ++ ".<locals>.") ++ "<lambda>") (chl (chl (stE ((defBody s_law_pairs).getD 6 (.Pass ⟨0, 0, 0, 0⟩))) 0) 2)
  | 12 => lamE ((("_law_pairs" : Str) ++ ".<locals>.") ++ "<lambda>") (chl (chl (stE ((defBody s_law_pairs).getD 7 (.Pass ⟨0, 0, 0, 0⟩))) 0) 2)
  | _ => lamE "" (.Name "" ⟨0, 0, 0, 0⟩)
/-! mirrors -/
def lamG : Nat → List D → M D
  | 0 => mF 1 (runL 1 (mFldE fEcount ("count" : Str) (mVar 0)))
  | 1 => mF 1 (runL 1 (mFldE fEname ("name" : Str) (mVar 0)))
  | 2 => mF 1 (runL 1 (mFldE fEvalue ("value" : Str) (mVar 0)))
  | 3 => mF 1 (runL 1 (mFldE fEsize ("size" : Str) (mVar 0)))
  | 4 => mF 1 (runL 1 (mFldE fElimit ("limit" : Str) (mVar 0)))
  | 5 => mF 1 (runL 1 (mFldE fEname ("name" : Str) (mVar 0)))
  | 6 => mF 1 (runL 1 (mFldE fElock ("lock" : Str) (mVar 0)))
  | 7 => mF 1 (runL 1 (mFldE fEnumber ("number" : Str) (mVar 0)))
  | 8 => mF 1 (runL 1 (mFldE fEnumber ("number" : Str) (mVar 0)))
  | 9 => mF 1 (runL 1 (mFldE fEstep ("step" : Str) (mVar 0)))
  | 10 => mF 1 (runL 1 (mFldE fEmoment ("moment" : Str) (mVar 0)))
  | 11 => mF 1 (runL 1 (mFldE fEstretch ("stretch" : Str) (mVar 0)))
  | 12 => mF 1 (runL 1 (mFldE fEvalue ("value" : Str) (mVar 0)))
  | _ => fun _ => bad
def b_law_source_ : Tw.Loc → M Fl := (sSeq (sSet 2 (mIf (mTst (mBin dLt (mVar 1) (mB dLen (mCons (mVar 0) mNil)))) (mBin dIx (mVar 0) (mVar 1)) (mBin dAdd (mBin dMul (mC (.int 7)) (mVar 1)) (mC (.int 5))))) (sRet (mLstL (mCons (mIf (mTst (mBin dGe (mVar 2) (mBin dPow (mC (.int 10)) (mC (.int 18))))) (mVar 2) (mC (.int 0))) (mCons (mBin dMod (mB dInt1 (mCons (mVar 2) mNil)) (mC (.int 2147483647))) (mCons (mC (.int 0)) mNil))))))
def m_law_source : List D → M D := runB 3 b_law_source_
def b_law_draw_ : Tw.Loc → M Fl := (sSeq (sIf (mTst (mBin dGt (mBin dIx (mVar 0) (mC (.int 0))) (mC (.int 0)))) (sSeq (sSet 2 (mBin dMod (mB dInt1 (mCons (mBin dIx (mVar 0) (mC (.int 0))) mNil)) (mVar 1))) (sSeq (sAsg (tgSub (mVar 0) (mC (.int 0))) (mBin dDiv (mBin dIx (mVar 0) (mC (.int 0))) (mVar 1))) (sRet (mVar 2)))) sNil) (sSeq (sAsg (tgSub (mVar 0) (mC (.int 2))) (mBin dAdd (mBin dIx (mVar 0) (mC (.int 2))) (mC (.int 1)))) (sSeq (sAsg (tgSub (mVar 0) (mC (.int 1))) (mBin dMod (mB dInt1 (mCons (mBin dAdd (mBin dAdd (mBin dMul (mBin dIx (mVar 0) (mC (.int 1))) (mC (.int 48271))) (mBin dMul (mBin dIx (mVar 0) (mC (.int 2))) (mC (.int 7919)))) (mC (.int 12345))) mNil)) (mC (.int 2147483647)))) (sRet (mBin dMod (mB dInt1 (mCons (mBin dAdd (mBin dDiv (mBin dIx (mVar 0) (mC (.int 1))) (mC (.int 65536))) (mBin dIx (mVar 0) (mC (.int 1)))) mNil)) (mVar 1))))))
def m_law_draw : List D → M D := runB 3 b_law_draw_
def m_law_same : Nat → List D → M D
  | 0 => fun _ => bad
  | n + 1 => runB 4 (sSeq (sIf (mTst (mB (dIs isP) (mCons (mVar 1) (mCons (mTup (mCons (mC (.ty "list")) (mCons (mC (.ty "tuple")) mNil))) mNil)))) (sSeq (sIf (mOr (mTst (mBin dNe (mB (dIs isP) (mCons (mVar 0) (mCons (mC (.ty "list")) mNil))) (mB (dIs isP) (mCons (mVar 1) (mCons (mC (.ty "list")) mNil))))) (mTst (mBin dNe (mB (dIs isP) (mCons (mVar 0) (mCons (mC (.ty "tuple")) mNil))) (mB (dIs isP) (mCons (mVar 1) (mCons (mC (.ty "tuple")) mNil)))))) (sRet (mC (.bl false))) sNil) (sRet (mAndV (mBin dEq (mB dLen (mCons (mVar 0) mNil)) (mB dLen (mCons (mVar 1) mNil))) (mB dAll (mCons (mLc (mZip (mCons (mVar 0) (mCons (mVar 1) mNil))) (tgT [tgN 2, tgN 3]) (dropE mYes) (dropE (mCall 2 (m_law_same n) [] (mCons (mVar 2) (mCons (mVar 3) mNil)))) [2, 3]) mNil))))) sNil) (sSeq (sIf (mTst (mB (dIs isP) (mCons (mVar 1) (mCons (mTup (mCons (mC (.ty "bool")) (mCons (mC (.ty "int")) mNil))) mNil)))) (sRet (mAndV (mB (dIs isP) (mCons (mVar 0) (mCons (mC (.ty "int")) mNil))) (mAndV (mBin dEq (mB (dIs isP) (mCons (mVar 0) (mCons (mC (.ty "bool")) mNil))) (mB (dIs isP) (mCons (mVar 1) (mCons (mC (.ty "bool")) mNil)))) (mBin dEq (mVar 0) (mVar 1))))) sNil) (sRet (mAndV (mNotV (mB (dIs isP) (mCons (mVar 0) (mCons (mTup (mCons (mC (.ty "bool")) (mCons (mC (.ty "int")) (mCons (mC (.ty "list")) (mCons (mC (.ty "tuple")) mNil))))) mNil)))) (mBin dEq (mVar 0) (mVar 1))))))
def b_law_object_ : Tw.Loc → M Fl := (sSeq (sSet 1 (mCall 2 (m_law_draw) [] (mCons (mVar 0) (mCons (mC (.int 5)) mNil)))) (sRet (mBin dIx (mLst (mCons (mBin dSub (mBin dPow (mC (.int 10)) (mC (.int 11))) (mVar 1)) (mCons (mC (.str ("some" : Str))) (mCons (mTup (mCons (mVar 1) (mCons (mC (.str ("x" : Str))) mNil))) (mCons (mC .non) (mCons (mTup (mCons (mTup (mCons (mC (.int 1)) (mCons (mC (.bl true)) mNil))) (mCons (mTup (mCons (mVar 1) (mCons (mC (.bl false)) mNil))) mNil))) (mCons (mBin dSub (mC (.int 0)) (mVar 1)) mNil))))))) (mCall 2 (m_law_draw) [] (mCons (mVar 0) (mCons (mC (.int 6)) mNil))))))
def m_law_object : List D → M D := runB 2 b_law_object_
def b_law_kinds_ : Tw.Loc → M Fl := (sSeq (sSet 1 (mLstL (mCons (mB (dIs isP) (mCons (mVar 0) (mCons (mC (.obj 6)) mNil))) (mCons (mB (dIs isP) (mCons (mVar 0) (mCons (mC (.obj 3)) mNil))) (mCons (mB (dIs isP) (mCons (mVar 0) (mCons (mC (.obj 5)) mNil))) (mCons (mB (dIs isP) (mCons (mVar 0) (mCons (mC (.obj 13)) mNil))) mNil)))))) (sSeq (sExp (mMl dExtend (mVar 1) (mCons (mLst (mCons (mB (dIs isP) (mCons (mVar 0) (mCons (mC (.obj 4)) mNil))) (mCons (mB (dIs isP) (mCons (mVar 0) (mCons (mC (.obj 2)) mNil))) (mCons (mB (dIs isP) (mCons (mVar 0) (mCons (mC (.obj 15)) mNil))) (mCons (mB (dIs isP) (mCons (mVar 0) (mCons (mC (.obj 10)) mNil))) mNil))))) mNil))) (sSeq (sExp (mMl dExtend (mVar 1) (mCons (mLst (mCons (mB (dIs isP) (mCons (mVar 0) (mCons (mC (.obj 12)) mNil))) (mCons (mB (dIs isP) (mCons (mVar 0) (mCons (mC (.obj 11)) mNil))) (mCons (mB (dIs isP) (mCons (mVar 0) (mCons (mC (.obj 7)) mNil))) (mCons (mB (dIs isP) (mCons (mVar 0) (mCons (mC (.obj 8)) mNil))) mNil))))) mNil))) (sSeq (sExp (mMl dExtend (mVar 1) (mCons (mLst (mCons (mB (dIs isP) (mCons (mVar 0) (mCons (mC (.obj 14)) mNil))) (mCons (mB (dIs isP) (mCons (mVar 0) (mCons (mC (.obj 9)) mNil))) (mCons (mB (dIs isP) (mCons (mVar 0) (mCons (mC (.obj 1)) mNil))) mNil)))) mNil))) (sRet (mB dLen (mCons (mLc (mSeq (mVar 1)) (tgN 2) (dropE (mTst (mVar 2))) (dropE (mVar 2)) [2]) mNil)))))))
def m_law_kinds : List D → M D := runB 3 b_law_kinds_
def b_law_pairs_ : Tw.Loc → M Fl := (sSeq (sSet 1 (mLstL (mCons (mTup (mCons (mExn 2 ("count" : Str) (mCons (mVar 0) mNil)) (mCons (mExnK 2 ("count" : Str) (mVar 0)) (mCons (mC (.clo 0 [])) mNil)))) (mCons (mTup (mCons (mExn 3 ("name" : Str) (mCons (mVar 0) mNil)) (mCons (mExnK 3 ("name" : Str) (mVar 0)) (mCons (mC (.clo 1 [])) mNil)))) mNil)))) (sSeq (sExp (mMl dExtend (mVar 1) (mCons (mLst (mCons (mTup (mCons (mExn 4 ("value" : Str) (mCons (mVar 0) mNil)) (mCons (mExnK 4 ("value" : Str) (mVar 0)) (mCons (mC (.clo 2 [])) mNil)))) (mCons (mTup (mCons (mExn 5 ("size" : Str) (mCons (mVar 0) mNil)) (mCons (mExnK 5 ("size" : Str) (mVar 0)) (mCons (mC (.clo 3 [])) mNil)))) mNil))) mNil))) (sSeq (sExp (mMl dExtend (mVar 1) (mCons (mLst (mCons (mTup (mCons (mExn 6 ("limit" : Str) (mCons (mVar 0) mNil)) (mCons (mExnK 6 ("limit" : Str) (mVar 0)) (mCons (mC (.clo 4 [])) mNil)))) (mCons (mTup (mCons (mExn 7 ("name" : Str) (mCons (mVar 0) mNil)) (mCons (mExnK 7 ("name" : Str) (mVar 0)) (mCons (mC (.clo 5 [])) mNil)))) mNil))) mNil))) (sSeq (sExp (mMl dExtend (mVar 1) (mCons (mLst (mCons (mTup (mCons (mExn 8 ("lock" : Str) (mCons (mVar 0) mNil)) (mCons (mExnK 8 ("lock" : Str) (mVar 0)) (mCons (mC (.clo 6 [])) mNil)))) (mCons (mTup (mCons (mExn 9 ("number" : Str) (mCons (mVar 0) mNil)) (mCons (mExnK 9 ("number" : Str) (mVar 0)) (mCons (mC (.clo 7 [])) mNil)))) mNil))) mNil))) (sSeq (sExp (mMl dExtend (mVar 1) (mCons (mLst (mCons (mTup (mCons (mExn 10 ("number" : Str) (mCons (mVar 0) mNil)) (mCons (mExnK 10 ("number" : Str) (mVar 0)) (mCons (mC (.clo 8 [])) mNil)))) (mCons (mTup (mCons (mExn 11 ("step" : Str) (mCons (mVar 0) mNil)) (mCons (mExnK 11 ("step" : Str) (mVar 0)) (mCons (mC (.clo 9 [])) mNil)))) mNil))) mNil))) (sSeq (sExp (mMl dAppend (mVar 1) (mCons (mTup (mCons (mExn 12 ("moment" : Str) (mCons (mVar 0) mNil)) (mCons (mExnK 12 ("moment" : Str) (mVar 0)) (mCons (mC (.clo 10 [])) mNil)))) mNil))) (sSeq (sExp (mMl dAppend (mVar 1) (mCons (mTup (mCons (mExn 13 ("stretch" : Str) (mCons (mVar 0) mNil)) (mCons (mExnK 13 ("stretch" : Str) (mVar 0)) (mCons (mC (.clo 11 [])) mNil)))) mNil))) (sSeq (sExp (mMl dAppend (mVar 1) (mCons (mTup (mCons (mExn 14 ("value" : Str) (mCons (mVar 0) mNil)) (mCons (mExnK 14 ("value" : Str) (mVar 0)) (mCons (mC (.clo 12 [])) mNil)))) mNil))) (sRet (mVar 1))))))))))
def m_law_pairs : List D → M D := runB 2 b_law_pairs_
def bInner : Tw.Loc → M Fl := (sFor (mSeq (mCall 1 (m_law_pairs) [] (mCons (mVar 3) mNil))) (tgT [(tgN 4), (tgN 5), (tgN 6)]) (sFor (mSeq (mTup (mCons (mVar 4) (mCons (mVar 5) mNil)))) (tgN 7) (sSeq (sIf (mOr (mNot (mTst (mB (dIs isP) (mCons (mVar 7) (mCons (mC (.obj 0)) mNil))))) (mOr (mNot (mTst (mB (dIs isP) (mCons (mVar 7) (mCons (mC (.ty "ValueError")) mNil))))) (mTst (mBin dNe (mCall 1 (m_law_kinds) [] (mCons (mVar 7) mNil)) (mC (.int 1)))))) (sRet (mC (.bl false))) sNil) (sIf (mNot (mTst (mCall 2 (m_law_same 5) [] (mCons (mCallV lamG (mVar 6) (mCons (mVar 7) mNil)) (mCons (mVar 3) mNil))))) (sRet (mC (.bl false))) sNil))))
def bTail : Tw.Loc → M Fl := (sSeq (sPair 8 9 (mCons (mC (.exn 1 [])) (mCons (mC (.exn 15 [])) mNil))) (sSeq (sIf (mOr (mTst (mB (dIs isP) (mCons (mVar 8) (mCons (mC (.obj 0)) mNil)))) (mOr (mTst (mB (dIs isP) (mCons (mVar 8) (mCons (mC (.ty "ValueError")) mNil)))) (mNot (mTst (mB (dIs isP) (mCons (mVar 8) (mCons (mC (.obj 1)) mNil))))))) (sRet (mC (.bl false))) sNil) (sSeq (sIf (mOr (mNot (mTst (mB (dIs isP) (mCons (mVar 8) (mCons (mC (.ty "Exception")) mNil))))) (mOr (mTst (mB (dIs isP) (mCons (mVar 8) (mCons (mC (.ty "LookupError")) mNil)))) (mTst (mB (dIs isP) (mCons (mVar 8) (mCons (mC (.ty "RuntimeError")) mNil)))))) (sRet (mC (.bl false))) sNil) (sRet (mAndV (mB (dIs isP) (mCons (mVar 9) (mCons (mC (.obj 0)) mNil))) (mAndV (mBin dEq (mCall 1 (m_law_kinds) [] (mCons (mVar 9) mNil)) (mC (.int 1))) (mBin dEq (mCall 1 (m_law_kinds) [] (mCons (mVar 8) mNil)) (mC (.int 1)))))))))
def blaw_ : Tw.Loc → M Fl := (sSeq (sFor (mRng1 (mCons (mBin dAdd (mC (.int 2)) (mB dMin2 (mCons (mB dLen (mCons (mVar 0) mNil)) (mCons (mC (.int 4)) mNil)))) mNil)) (tgN 1) (sSeq (sSet 2 (mCall 2 (m_law_source) [] (mCons (mVar 0) (mCons (mVar 1) mNil)))) (sSeq (sSet 3 (mCall 1 (m_law_object) [] (mCons (mVar 2) mNil))) bInner))) bTail)
def mlaw : List D → M D := runB 10 blaw_
/-! what the written part says -/
structure En (w : World) (K : PySem.W.Frag) (mg : Str → Option Value) (base : Heap) (T : Gw) : Prop where
  bn : ∀ x : Str, x ∈ bnm → mg x = none
  cl : ∀ (i : Nat) (x : Str), cn[i]? = some x → mg x = some (.ref (T.T i))
  is : IsOk ⟨K, T⟩ isP
  x2 : ∃ fd, ExM PR w K mg base (T.T 2) (He.ma K (T.T 2) "__init__") fd ("count" : Str) ("count" : Str) 1
  x3 : ∃ fd, ExM PR w K mg base (T.T 3) (He.ma K (T.T 3) "__init__") fd ("name" : Str) ("name" : Str) 1
  x4 : ∃ fd, ExM PR w K mg base (T.T 4) (He.ma K (T.T 4) "__init__") fd ("value" : Str) ("value" : Str) 1
  x5 : ∃ fd, ExM PR w K mg base (T.T 5) (He.ma K (T.T 5) "__init__") fd ("size" : Str) ("size" : Str) 1
  x6 : ∃ fd, ExM PR w K mg base (T.T 6) (He.ma K (T.T 6) "__init__") fd ("limit" : Str) ("limit" : Str) 1
  x7 : ∃ fd, ExM PR w K mg base (T.T 7) (He.ma K (T.T 7) "__init__") fd ("name" : Str) ("name" : Str) 1
  x8 : ∃ fd, ExM PR w K mg base (T.T 8) (He.ma K (T.T 8) "__init__") fd ("lock" : Str) ("lock" : Str) 1
  x9 : ∃ fd, ExM PR w K mg base (T.T 9) (He.ma K (T.T 9) "__init__") fd ("number" : Str) ("number" : Str) 1
  x10 : ∃ fd, ExM PR w K mg base (T.T 10) (He.ma K (T.T 10) "__init__") fd ("number" : Str) ("number" : Str) 1
  x11 : ∃ fd, ExM PR w K mg base (T.T 11) (He.ma K (T.T 11) "__init__") fd ("step" : Str) ("step" : Str) 1
  x12 : ∃ fd, ExM PR w K mg base (T.T 12) (He.ma K (T.T 12) "__init__") fd ("moment" : Str) ("moment" : Str) 1
  x13 : ∃ fd, ExM PR w K mg base (T.T 13) (He.ma K (T.T 13) "__init__") fd ("stretch" : Str) ("stretch" : Str) 1
  x14 : ∃ fd, ExM PR w K mg base (T.T 14) (He.ma K (T.T 14) "__init__") fd ("value" : Str) ("value" : Str) 1
  z0 : ExM0 K (T.T 0)
  z1 : ExM0 K (T.T 1)
  z15 : ExM0 K (T.T 15)
  fcount : ∀ C, fEcount C = true → XfC K (T.T C) ∧ PySem.W.findIn K (.ref (T.T C)) ("count" : Str) = some none
  flimit : ∀ C, fElimit C = true → XfC K (T.T C) ∧ PySem.W.findIn K (.ref (T.T C)) ("limit" : Str) = some none
  flock : ∀ C, fElock C = true → XfC K (T.T C) ∧ PySem.W.findIn K (.ref (T.T C)) ("lock" : Str) = some none
  fmoment : ∀ C, fEmoment C = true → XfC K (T.T C) ∧ PySem.W.findIn K (.ref (T.T C)) ("moment" : Str) = some none
  fname : ∀ C, fEname C = true → XfC K (T.T C) ∧ PySem.W.findIn K (.ref (T.T C)) ("name" : Str) = some none
  fnumber : ∀ C, fEnumber C = true → XfC K (T.T C) ∧ PySem.W.findIn K (.ref (T.T C)) ("number" : Str) = some none
  fsize : ∀ C, fEsize C = true → XfC K (T.T C) ∧ PySem.W.findIn K (.ref (T.T C)) ("size" : Str) = some none
  fstep : ∀ C, fEstep C = true → XfC K (T.T C) ∧ PySem.W.findIn K (.ref (T.T C)) ("step" : Str) = some none
  fstretch : ∀ C, fEstretch C = true → XfC K (T.T C) ∧ PySem.W.findIn K (.ref (T.T C)) ("stretch" : Str) = some none
  fvalue : ∀ C, fEvalue C = true → XfC K (T.T C) ∧ PySem.W.findIn K (.ref (T.T C)) ("value" : Str) = some none
  lam : T.lam = lamW
/-! scopes -/
theorem sc_law_source : FnScope [("_law_script" : Str), ("_law_at" : Str), ("_law_cell" : Str)] [("_law_script" : Str), ("_law_at" : Str)] (defScope s_law_source) := ⟨rfl, rfl, rfl, by decide +kernel, rfl, by decide +kernel, by decide +kernel⟩
theorem sc_law_draw : FnScope [("_law_draws" : Str), ("_law_many" : Str), ("_law_found" : Str)] [("_law_draws" : Str), ("_law_many" : Str)] (defScope s_law_draw) := ⟨rfl, rfl, rfl, by decide +kernel, rfl, by decide +kernel, by decide +kernel⟩
theorem sc_law_same : FnScope [("_law_found" : Str), ("_law_due" : Str), ("_law_left" : Str), ("_law_right" : Str)] [("_law_found" : Str), ("_law_due" : Str)] (defScope s_law_same) := ⟨rfl, rfl, rfl, by decide +kernel, rfl, by decide +kernel, by decide +kernel⟩
theorem sc_law_object : FnScope [("_law_draws" : Str), ("_law_n" : Str)] [("_law_draws" : Str)] (defScope s_law_object) := ⟨rfl, rfl, rfl, by decide +kernel, rfl, by decide +kernel, by decide +kernel⟩
theorem sc_law_kinds : FnScope [("_law_e" : Str), ("_law_found" : Str), ("_law_is_so" : Str)] [("_law_e" : Str)] (defScope s_law_kinds) := ⟨rfl, rfl, rfl, by decide +kernel, rfl, by decide +kernel, by decide +kernel⟩
theorem sc_law_pairs : FnScope [("_law_a" : Str), ("_law_found" : Str)] [("_law_a" : Str)] (defScope s_law_pairs) := ⟨rfl, rfl, rfl, by decide +kernel, rfl, by decide +kernel, by decide +kernel⟩
theorem sclaw : FnScope [("_law_script" : Str), ("_law_turn" : Str), ("_law_draws" : Str), ("_law_a" : Str), ("_law_one" : Str), ("_law_two" : Str), ("_law_field" : Str), ("_law_e" : Str), ("_law_held" : Str), ("_law_beyond" : Str)] [("_law_script" : Str)] (defScope slaw) := ⟨rfl, rfl, rfl, by decide +kernel, rfl, by decide +kernel, by decide +kernel⟩
end K01

set_option Elab.async false
set_option linter.all false
set_option maxRecDepth 100000
set_option maxHeartbeats 4000000
namespace K01
open PySem PySem.Spec PyProof.Rows L2 Tw NdefX
section
variable {w : World} {K : PySem.W.Frag} {mg : Str → Option Value} {base : Heap} {T : Gw}
theorem lam_all (EN : En w K mg base T) : ∀ i, LOk PR w K mg base T 1 i (lamG i)
  | 0 => lam_ok (N := [("_law_e" : Str)]) (ps := [("_law_e" : Str)]) (nscope_by (by rw [EN.lam]; decide +kernel)) (fun pm cv ctv us hl => by rw [EN.lam]; match us, hl with | [_], _ => rfl) (fun c f A outer s H E hr => by rw [EN.lam]; exact (e_fldE (EN.fcount) (e_var (pv 0))))
  | 1 => lam_ok (N := [("_law_p" : Str)]) (ps := [("_law_p" : Str)]) (nscope_by (by rw [EN.lam]; decide +kernel)) (fun pm cv ctv us hl => by rw [EN.lam]; match us, hl with | [_], _ => rfl) (fun c f A outer s H E hr => by rw [EN.lam]; exact (e_fldE (EN.fname) (e_var (pv 0))))
  | 2 => lam_ok (N := [("_law_e" : Str)]) (ps := [("_law_e" : Str)]) (nscope_by (by rw [EN.lam]; decide +kernel)) (fun pm cv ctv us hl => by rw [EN.lam]; match us, hl with | [_], _ => rfl) (fun c f A outer s H E hr => by rw [EN.lam]; exact (e_fldE (EN.fvalue) (e_var (pv 0))))
  | 3 => lam_ok (N := [("_law_p" : Str)]) (ps := [("_law_p" : Str)]) (nscope_by (by rw [EN.lam]; decide +kernel)) (fun pm cv ctv us hl => by rw [EN.lam]; match us, hl with | [_], _ => rfl) (fun c f A outer s H E hr => by rw [EN.lam]; exact (e_fldE (EN.fsize) (e_var (pv 0))))
  | 4 => lam_ok (N := [("_law_e" : Str)]) (ps := [("_law_e" : Str)]) (nscope_by (by rw [EN.lam]; decide +kernel)) (fun pm cv ctv us hl => by rw [EN.lam]; match us, hl with | [_], _ => rfl) (fun c f A outer s H E hr => by rw [EN.lam]; exact (e_fldE (EN.flimit) (e_var (pv 0))))
  | 5 => lam_ok (N := [("_law_p" : Str)]) (ps := [("_law_p" : Str)]) (nscope_by (by rw [EN.lam]; decide +kernel)) (fun pm cv ctv us hl => by rw [EN.lam]; match us, hl with | [_], _ => rfl) (fun c f A outer s H E hr => by rw [EN.lam]; exact (e_fldE (EN.fname) (e_var (pv 0))))
  | 6 => lam_ok (N := [("_law_e" : Str)]) (ps := [("_law_e" : Str)]) (nscope_by (by rw [EN.lam]; decide +kernel)) (fun pm cv ctv us hl => by rw [EN.lam]; match us, hl with | [_], _ => rfl) (fun c f A outer s H E hr => by rw [EN.lam]; exact (e_fldE (EN.flock) (e_var (pv 0))))
  | 7 => lam_ok (N := [("_law_p" : Str)]) (ps := [("_law_p" : Str)]) (nscope_by (by rw [EN.lam]; decide +kernel)) (fun pm cv ctv us hl => by rw [EN.lam]; match us, hl with | [_], _ => rfl) (fun c f A outer s H E hr => by rw [EN.lam]; exact (e_fldE (EN.fnumber) (e_var (pv 0))))
  | 8 => lam_ok (N := [("_law_e" : Str)]) (ps := [("_law_e" : Str)]) (nscope_by (by rw [EN.lam]; decide +kernel)) (fun pm cv ctv us hl => by rw [EN.lam]; match us, hl with | [_], _ => rfl) (fun c f A outer s H E hr => by rw [EN.lam]; exact (e_fldE (EN.fnumber) (e_var (pv 0))))
  | 9 => lam_ok (N := [("_law_p" : Str)]) (ps := [("_law_p" : Str)]) (nscope_by (by rw [EN.lam]; decide +kernel)) (fun pm cv ctv us hl => by rw [EN.lam]; match us, hl with | [_], _ => rfl) (fun c f A outer s H E hr => by rw [EN.lam]; exact (e_fldE (EN.fstep) (e_var (pv 0))))
  | 10 => lam_ok (N := [("_law_e" : Str)]) (ps := [("_law_e" : Str)]) (nscope_by (by rw [EN.lam]; decide +kernel)) (fun pm cv ctv us hl => by rw [EN.lam]; match us, hl with | [_], _ => rfl) (fun c f A outer s H E hr => by rw [EN.lam]; exact (e_fldE (EN.fmoment) (e_var (pv 0))))
  | 11 => lam_ok (N := [("_law_e" : Str)]) (ps := [("_law_e" : Str)]) (nscope_by (by rw [EN.lam]; decide +kernel)) (fun pm cv ctv us hl => by rw [EN.lam]; match us, hl with | [_], _ => rfl) (fun c f A outer s H E hr => by rw [EN.lam]; exact (e_fldE (EN.fstretch) (e_var (pv 0))))
  | 12 => lam_ok (N := [("_law_e" : Str)]) (ps := [("_law_e" : Str)]) (nscope_by (by rw [EN.lam]; decide +kernel)) (fun pm cv ctv us hl => by rw [EN.lam]; match us, hl with | [_], _ => rfl) (fun c f A outer s H E hr => by rw [EN.lam]; exact (e_fldE (EN.fvalue) (e_var (pv 0))))
  | _ + 13 => LOk.none
theorem ok_law_source {f_law_source : Addr} {d_law_source : FuncData} (EN : En w K mg base T) (F_law_source : FunD K ("_law_source" : Str) ("_law_source" : Str) (defArgs s_law_source) (defBody s_law_source) (defScope s_law_source) [] [] f_law_source d_law_source) : FnOk PR w K mg base (L2.CX PR w) 1 f_law_source d_law_source [("_law_script" : Str), ("_law_at" : Str)] (spM ⟨K, T⟩ 2 (m_law_source)) := by
  refine F_law_source.ok sc_law_source (fun vs H Q E h => spM_len h) (fun cdv A outer s H vs Q E hr h => ⟨dnS ⟨K, T⟩ (wE E) b_law_source_, ?_, run_dn (N := [("_law_script" : Str), ("_law_at" : Str), ("_law_cell" : Str)]) h⟩)
  have tk : Takes _ (wE E) := takes_of (X := cxOf (L2.CX PR w) PR w K mg base [("_law_script" : Str), ("_law_at" : Str), ("_law_cell" : Str)] ("_law_source" : Str) (defScope s_law_source) f_law_source cdv A outer s H E) rfl rfl rfl rfl
  exact (s_cons (s_set (ps_set (i := 2) sc_law_source.nd rfl (Or.inl rfl) (e_if (t_cmp op_lt rf_bool0 nox_ii (e_var (pv 1)) (e_callB call_len rb_len noxb_len (by rfl) (EN.bn ("len" : Str) (by decide +kernel)) (by rfl) (a_cons (e_var (pv 0)) a_nil)) (nomark _)) (e_ix (e_var (pv 0)) (e_var (pv 1)) (fun _ _ => rfl)) (e_op op_addA rf_add nox_add (e_op op_mul rf_int nox_ii e_int (e_var (pv 1))) e_int)))) (s_one (s_ret (e_lstL (a_cons (e_if (t_cmp op_ge rf_bool0 nox_ii (e_var (pv 2)) (e_op op_pow rf_int nox_ii e_int e_int) (nomark _)) (e_var (pv 2)) e_int) (a_cons (e_op op_modN rf_int nox_ii (e_callT call_int1 rb_int1 noxb_int1 (by rfl) (EN.bn ("int" : Str) (by decide +kernel)) (by rfl) (a_cons (e_var (pv 2)) a_nil)) e_int) (a_cons e_int a_nil)))))))
theorem ok_law_draw {f_law_draw : Addr} {d_law_draw : FuncData} (EN : En w K mg base T) (F_law_draw : FunD K ("_law_draw" : Str) ("_law_draw" : Str) (defArgs s_law_draw) (defBody s_law_draw) (defScope s_law_draw) [] [] f_law_draw d_law_draw) : FnOk PR w K mg base (L2.CX PR w) 1 f_law_draw d_law_draw [("_law_draws" : Str), ("_law_many" : Str)] (spM ⟨K, T⟩ 2 (m_law_draw)) := by
  refine F_law_draw.ok sc_law_draw (fun vs H Q E h => spM_len h) (fun cdv A outer s H vs Q E hr h => ⟨dnS ⟨K, T⟩ (wE E) b_law_draw_, ?_, run_dn (N := [("_law_draws" : Str), ("_law_many" : Str), ("_law_found" : Str)]) h⟩)
  have tk : Takes _ (wE E) := takes_of (X := cxOf (L2.CX PR w) PR w K mg base [("_law_draws" : Str), ("_law_many" : Str), ("_law_found" : Str)] ("_law_draw" : Str) (defScope s_law_draw) f_law_draw cdv A outer s H E) rfl rfl rfl rfl
  exact (s_cons (s_if (t_cmp op_gt rf_bool0 nox_ii (e_ix (e_var (pv 0)) e_int (fun _ _ => rfl)) e_int (nomark _)) (s_cons (s_set (ps_set (i := 2) sc_law_draw.nd rfl (Or.inl rfl) (e_op op_modN rf_int nox_ii (e_callT call_int1 rb_int1 noxb_int1 (by rfl) (EN.bn ("int" : Str) (by decide +kernel)) (by rfl) (a_cons (e_ix (e_var (pv 0)) e_int (fun _ _ => rfl)) a_nil)) (e_var (pv 1))))) (s_cons (s_asg (ps_asg (e_op op_fdivN rf_int nox_ii (e_ix (e_var (pv 0)) e_int (fun _ _ => rfl)) (e_var (pv 1))) (g_sub (e_var (pv 0)) e_int)) tgok_sub) (s_one (s_ret (e_var (pv 2)))))) s_nil) (s_cons (s_asg (ps_asg (e_op op_addA rf_add nox_add (e_ix (e_var (pv 0)) e_int (fun _ _ => rfl)) e_int) (g_sub (e_var (pv 0)) e_int)) tgok_sub) (s_cons (s_asg (ps_asg (e_op op_modN rf_int nox_ii (e_callT call_int1 rb_int1 noxb_int1 (by rfl) (EN.bn ("int" : Str) (by decide +kernel)) (by rfl) (a_cons (e_op op_addA rf_add nox_add (e_op op_addA rf_add nox_add (e_op op_mul rf_int nox_ii (e_ix (e_var (pv 0)) e_int (fun _ _ => rfl)) e_int) (e_op op_mul rf_int nox_ii (e_ix (e_var (pv 0)) e_int (fun _ _ => rfl)) e_int)) e_int) a_nil)) e_int) (g_sub (e_var (pv 0)) e_int)) tgok_sub) (s_one (s_ret (e_op op_modN rf_int nox_ii (e_callT call_int1 rb_int1 noxb_int1 (by rfl) (EN.bn ("int" : Str) (by decide +kernel)) (by rfl) (a_cons (e_op op_addA rf_add nox_add (e_op op_fdivN rf_int nox_ii (e_ix (e_var (pv 0)) e_int (fun _ _ => rfl)) e_int) (e_ix (e_var (pv 0)) e_int (fun _ _ => rfl))) a_nil)) (e_var (pv 1))))))))
theorem ok_law_same {f_law_same : Addr} {d_law_same : FuncData} (EN : En w K mg base T) (F_law_same : FunD K ("_law_same" : Str) ("_law_same" : Str) (defArgs s_law_same) (defBody s_law_same) (defScope s_law_same) [] [] f_law_same d_law_same) (g_law_same : mg ("_law_same" : Str) = some (.ref f_law_same)) : ∀ n, FnOk PR w K mg base (L2.CX PR w) n f_law_same d_law_same [("_law_found" : Str), ("_law_due" : Str)] (spM ⟨K, T⟩ 2 (m_law_same n))
  | 0 => FnOk.bad_ rfl
  | n + 1 => by
    have IH := ok_law_same EN F_law_same g_law_same n
    have b_law_same : Binds K d_law_same [("_law_found" : Str), ("_law_due" : Str)] [] := F_law_same.bindsN fun _ _ _ _ _ _ us hl => match us, hl with | [_, _], _ => rfl
    refine F_law_same.ok sc_law_same (fun vs H Q E h => spM_len h) (fun cdv A outer s H vs Q E hr h => ⟨dnS ⟨K, T⟩ (wE E) (sSeq (sIf (mTst (mB (dIs isP) (mCons (mVar 1) (mCons (mTup (mCons (mC (.ty "list")) (mCons (mC (.ty "tuple")) mNil))) mNil)))) (sSeq (sIf (mOr (mTst (mBin dNe (mB (dIs isP) (mCons (mVar 0) (mCons (mC (.ty "list")) mNil))) (mB (dIs isP) (mCons (mVar 1) (mCons (mC (.ty "list")) mNil))))) (mTst (mBin dNe (mB (dIs isP) (mCons (mVar 0) (mCons (mC (.ty "tuple")) mNil))) (mB (dIs isP) (mCons (mVar 1) (mCons (mC (.ty "tuple")) mNil)))))) (sRet (mC (.bl false))) sNil) (sRet (mAndV (mBin dEq (mB dLen (mCons (mVar 0) mNil)) (mB dLen (mCons (mVar 1) mNil))) (mB dAll (mCons (mLc (mZip (mCons (mVar 0) (mCons (mVar 1) mNil))) (tgT [tgN 2, tgN 3]) (dropE mYes) (dropE (mCall 2 (m_law_same n) [] (mCons (mVar 2) (mCons (mVar 3) mNil)))) [2, 3]) mNil))))) sNil) (sSeq (sIf (mTst (mB (dIs isP) (mCons (mVar 1) (mCons (mTup (mCons (mC (.ty "bool")) (mCons (mC (.ty "int")) mNil))) mNil)))) (sRet (mAndV (mB (dIs isP) (mCons (mVar 0) (mCons (mC (.ty "int")) mNil))) (mAndV (mBin dEq (mB (dIs isP) (mCons (mVar 0) (mCons (mC (.ty "bool")) mNil))) (mB (dIs isP) (mCons (mVar 1) (mCons (mC (.ty "bool")) mNil)))) (mBin dEq (mVar 0) (mVar 1))))) sNil) (sRet (mAndV (mNotV (mB (dIs isP) (mCons (mVar 0) (mCons (mTup (mCons (mC (.ty "bool")) (mCons (mC (.ty "int")) (mCons (mC (.ty "list")) (mCons (mC (.ty "tuple")) mNil))))) mNil)))) (mBin dEq (mVar 0) (mVar 1)))))), ?_, run_dn (N := [("_law_found" : Str), ("_law_due" : Str), ("_law_left" : Str), ("_law_right" : Str)]) h⟩)
    have tk : Takes _ (wE E) := takes_of (X := cxOf (L2.CX PR w) PR w K mg base [("_law_found" : Str), ("_law_due" : Str), ("_law_left" : Str), ("_law_right" : Str)] ("_law_same" : Str) (defScope s_law_same) f_law_same cdv A outer s H E) rfl rfl rfl rfl
    exact (s_cons (s_if (t_val (e_callB (call_isD EN.is) rb_is noxb_is (by rfl) (EN.bn ("isinstance" : Str) (by decide +kernel)) (by rfl) (a_cons (e_var (pv 1)) (a_cons (e_tup (a_cons (e_const (pe_bltn (v := .ty "list") rfl (EN.bn ("list" : Str) (by decide +kernel)) rfl rfl) fun _ _ => rfl) (a_cons (e_const (pe_bltn (v := .ty "tuple") rfl (EN.bn ("tuple" : Str) (by decide +kernel)) rfl rfl) fun _ _ => rfl) a_nil))) a_nil)))) (s_cons (s_if (PW.pt (t_or (t_cmp (op_neD hr.units) rf_ne nox_cmp (e_callB (call_isD EN.is) rb_is noxb_is (by rfl) (EN.bn ("isinstance" : Str) (by decide +kernel)) (by rfl) (a_cons (e_var (pv 0)) (a_cons (e_const (pe_bltn (v := .ty "list") rfl (EN.bn ("list" : Str) (by decide +kernel)) rfl rfl) fun _ _ => rfl) a_nil))) (e_callB (call_isD EN.is) rb_is noxb_is (by rfl) (EN.bn ("isinstance" : Str) (by decide +kernel)) (by rfl) (a_cons (e_var (pv 1)) (a_cons (e_const (pe_bltn (v := .ty "list") rfl (EN.bn ("list" : Str) (by decide +kernel)) rfl rfl) fun _ _ => rfl) a_nil))) (nomark _)) (t_or1 (t_cmp (op_neD hr.units) rf_ne nox_cmp (e_callB (call_isD EN.is) rb_is noxb_is (by rfl) (EN.bn ("isinstance" : Str) (by decide +kernel)) (by rfl) (a_cons (e_var (pv 0)) (a_cons (e_const (pe_bltn (v := .ty "tuple") rfl (EN.bn ("tuple" : Str) (by decide +kernel)) rfl rfl) fun _ _ => rfl) a_nil))) (e_callB (call_isD EN.is) rb_is noxb_is (by rfl) (EN.bn ("isinstance" : Str) (by decide +kernel)) (by rfl) (a_cons (e_var (pv 1)) (a_cons (e_const (pe_bltn (v := .ty "tuple") rfl (EN.bn ("tuple" : Str) (by decide +kernel)) rfl rfl) fun _ _ => rfl) a_nil))) (nomark _))))) (s_one (s_ret e_bl)) s_nil) (s_one (s_ret (e_and (e_cmp (op_eqD hr.units) rf_eq nox_cmp (e_callB call_len rb_len noxb_len (by rfl) (EN.bn ("len" : Str) (by decide +kernel)) (by rfl) (a_cons (e_var (pv 0)) a_nil)) (e_callB call_len rb_len noxb_len (by rfl) (EN.bn ("len" : Str) (by decide +kernel)) (by rfl) (a_cons (e_var (pv 1)) a_nil)) (nomark _)) (e_one (e_callB (cr_all rfl) rb_bls noxb_bls (by rfl) (EN.bn ("all" : Str) (by decide +kernel)) (by rfl) (a_cons (e_lcD (own := [(("_law_left" : Str), 2), (("_law_right" : Str), 3)]) rfl sc_law_same.nd (i_zip (by rfl) (EN.bn ("zip" : Str) (by decide +kernel)) (a_cons (e_var (pv 0)) (a_cons (e_var (pv 1)) a_nil))) (blkOk_by (N := [("_law_found" : Str), ("_law_due" : Str), ("_law_left" : Str), ("_law_right" : Str)]) (sc := defScope s_law_same) (by decide +kernel)) (fun _ _ _ _ _ => by exact pg_tup rfl (pgs_cons (pg_name sc_law_same.nd rfl (Or.inl rfl) (by first | exact .inl rfl | exact .inr rfl)) (pgs_cons (pg_name sc_law_same.nd rfl (Or.inl rfl) (by first | exact .inl rfl | exact .inr rfl)) pgs_nil))) tgok_p (ow_pair (by decide) (by decide)) (fun _ _ _ _ _ => by exact t_yes) (fun s1 H1 C1 cl1 fp1 => by exact (e_call (X := (cxOf (L2.CX PR w) PR w K mg base [("_law_found" : Str), ("_law_due" : Str), ("_law_left" : Str), ("_law_right" : Str)] ("_law_same" : Str) (defScope s_law_same) f_law_same cdv A outer s H E).blk s1 H1 _ _ fp1) IH hr (by rfl) g_law_same F_law_same.kp b_law_same .nil (by intro _ _; rfl) LamX.takes0 (a_cons (e_var (pv 2)) (a_cons (e_var (pv 3)) a_nil))))) a_nil))))))) s_nil) (s_cons (s_if (t_val (e_callB (call_isD EN.is) rb_is noxb_is (by rfl) (EN.bn ("isinstance" : Str) (by decide +kernel)) (by rfl) (a_cons (e_var (pv 1)) (a_cons (e_tup (a_cons (e_const (pe_bltn (v := .ty "bool") rfl (EN.bn ("bool" : Str) (by decide +kernel)) rfl rfl) fun _ _ => rfl) (a_cons (e_const (pe_bltn (v := .ty "int") rfl (EN.bn ("int" : Str) (by decide +kernel)) rfl rfl) fun _ _ => rfl) a_nil))) a_nil)))) (s_one (s_ret (e_and (e_callB (call_isD EN.is) rb_is noxb_is (by rfl) (EN.bn ("isinstance" : Str) (by decide +kernel)) (by rfl) (a_cons (e_var (pv 0)) (a_cons (e_const (pe_bltn (v := .ty "int") rfl (EN.bn ("int" : Str) (by decide +kernel)) rfl rfl) fun _ _ => rfl) a_nil))) (e_and (e_cmp (op_eqD hr.units) rf_eq nox_cmp (e_callB (call_isD EN.is) rb_is noxb_is (by rfl) (EN.bn ("isinstance" : Str) (by decide +kernel)) (by rfl) (a_cons (e_var (pv 0)) (a_cons (e_const (pe_bltn (v := .ty "bool") rfl (EN.bn ("bool" : Str) (by decide +kernel)) rfl rfl) fun _ _ => rfl) a_nil))) (e_callB (call_isD EN.is) rb_is noxb_is (by rfl) (EN.bn ("isinstance" : Str) (by decide +kernel)) (by rfl) (a_cons (e_var (pv 1)) (a_cons (e_const (pe_bltn (v := .ty "bool") rfl (EN.bn ("bool" : Str) (by decide +kernel)) rfl rfl) fun _ _ => rfl) a_nil))) (nomark _)) (e_one (e_cmp (op_eqD hr.units) rf_eq nox_cmp (e_var (pv 0)) (e_var (pv 1)) (nomark _))))))) s_nil) (s_one (s_ret (e_and (e_not (e_callB (call_isD EN.is) rb_is noxb_is (by rfl) (EN.bn ("isinstance" : Str) (by decide +kernel)) (by rfl) (a_cons (e_var (pv 0)) (a_cons (e_tup (a_cons (e_const (pe_bltn (v := .ty "bool") rfl (EN.bn ("bool" : Str) (by decide +kernel)) rfl rfl) fun _ _ => rfl) (a_cons (e_const (pe_bltn (v := .ty "int") rfl (EN.bn ("int" : Str) (by decide +kernel)) rfl rfl) fun _ _ => rfl) (a_cons (e_const (pe_bltn (v := .ty "list") rfl (EN.bn ("list" : Str) (by decide +kernel)) rfl rfl) fun _ _ => rfl) (a_cons (e_const (pe_bltn (v := .ty "tuple") rfl (EN.bn ("tuple" : Str) (by decide +kernel)) rfl rfl) fun _ _ => rfl) a_nil))))) a_nil)))) (e_one (e_cmp (op_eqD hr.units) rf_eq nox_cmp (e_var (pv 0)) (e_var (pv 1)) (nomark _))))))))
theorem ok_law_object {f_law_draw : Addr} {d_law_draw : FuncData} {f_law_object : Addr} {d_law_object : FuncData} (EN : En w K mg base T) (F_law_object : FunD K ("_law_object" : Str) ("_law_object" : Str) (defArgs s_law_object) (defBody s_law_object) (defScope s_law_object) [] [] f_law_object d_law_object) (F_law_draw : FunD K ("_law_draw" : Str) ("_law_draw" : Str) (defArgs s_law_draw) (defBody s_law_draw) (defScope s_law_draw) [] [] f_law_draw d_law_draw) (g_law_draw : mg ("_law_draw" : Str) = some (.ref f_law_draw)) (G_law_draw : FnOk PR w K mg base (L2.CX PR w) 1 f_law_draw d_law_draw [("_law_draws" : Str), ("_law_many" : Str)] (spM ⟨K, T⟩ 2 (m_law_draw))) : FnOk PR w K mg base (L2.CX PR w) 2 f_law_object d_law_object [("_law_draws" : Str)] (spM ⟨K, T⟩ 1 (m_law_object)) := by
  have b_law_draw : Binds K d_law_draw [("_law_draws" : Str), ("_law_many" : Str)] [] := F_law_draw.bindsN fun _ _ _ _ _ _ us hl => match us, hl with | [_, _], _ => rfl
  refine F_law_object.ok sc_law_object (fun vs H Q E h => spM_len h) (fun cdv A outer s H vs Q E hr h => ⟨dnS ⟨K, T⟩ (wE E) b_law_object_, ?_, run_dn (N := [("_law_draws" : Str), ("_law_n" : Str)]) h⟩)
  have tk : Takes _ (wE E) := takes_of (X := cxOf (L2.CX PR w) PR w K mg base [("_law_draws" : Str), ("_law_n" : Str)] ("_law_object" : Str) (defScope s_law_object) f_law_object cdv A outer s H E) rfl rfl rfl rfl
  exact (s_cons (s_set (ps_set (i := 1) sc_law_object.nd rfl (Or.inl rfl) (e_call (G_law_draw.mono (by decide)) hr (by rfl) g_law_draw F_law_draw.kp b_law_draw .nil (by intro _ _; rfl) tk (a_cons (e_var (pv 0)) (a_cons e_int a_nil))))) (s_one (s_ret (e_ix (e_lst (a_cons (e_op op_sub rf_int0 nox_ii (e_op op_pow rf_int nox_ii e_int e_int) (e_var (pv 1))) (a_cons e_str (a_cons (e_tup (a_cons (e_var (pv 1)) (a_cons e_str a_nil))) (a_cons e_non (a_cons (e_tup (a_cons (e_tup (a_cons e_int (a_cons e_bl a_nil))) (a_cons (e_tup (a_cons (e_var (pv 1)) (a_cons e_bl a_nil))) a_nil))) (a_cons (e_op op_sub rf_int0 nox_ii e_int (e_var (pv 1))) a_nil))))))) (e_call (G_law_draw.mono (by decide)) hr (by rfl) g_law_draw F_law_draw.kp b_law_draw .nil (by intro _ _; rfl) tk (a_cons (e_var (pv 0)) (a_cons e_int a_nil))) (fun _ _ => rfl)))))
theorem ok_law_kinds {f_law_kinds : Addr} {d_law_kinds : FuncData} (EN : En w K mg base T) (F_law_kinds : FunD K ("_law_kinds" : Str) ("_law_kinds" : Str) (defArgs s_law_kinds) (defBody s_law_kinds) (defScope s_law_kinds) [] [] f_law_kinds d_law_kinds) : FnOk PR w K mg base (L2.CX PR w) 1 f_law_kinds d_law_kinds [("_law_e" : Str)] (spM ⟨K, T⟩ 1 (m_law_kinds)) := by
  refine F_law_kinds.ok sc_law_kinds (fun vs H Q E h => spM_len h) (fun cdv A outer s H vs Q E hr h => ⟨dnS ⟨K, T⟩ (wE E) b_law_kinds_, ?_, run_dn (N := [("_law_e" : Str), ("_law_found" : Str), ("_law_is_so" : Str)]) h⟩)
  have tk : Takes _ (wE E) := takes_of (X := cxOf (L2.CX PR w) PR w K mg base [("_law_e" : Str), ("_law_found" : Str), ("_law_is_so" : Str)] ("_law_kinds" : Str) (defScope s_law_kinds) f_law_kinds cdv A outer s H E) rfl rfl rfl rfl
  exact (s_cons (s_set (ps_set (i := 1) sc_law_kinds.nd rfl (Or.inl rfl) (e_lstL (a_cons (e_callB (call_isD EN.is) rb_is noxb_is (by rfl) (EN.bn ("isinstance" : Str) (by decide +kernel)) (by rfl) (a_cons (e_var (pv 0)) (a_cons (e_const (pe_glob (v := .ref (T.T 6)) (by rfl) (EN.cl 6 _ (by rfl)) rfl) fun _ _ => rfl) a_nil))) (a_cons (e_callB (call_isD EN.is) rb_is noxb_is (by rfl) (EN.bn ("isinstance" : Str) (by decide +kernel)) (by rfl) (a_cons (e_var (pv 0)) (a_cons (e_const (pe_glob (v := .ref (T.T 3)) (by rfl) (EN.cl 3 _ (by rfl)) rfl) fun _ _ => rfl) a_nil))) (a_cons (e_callB (call_isD EN.is) rb_is noxb_is (by rfl) (EN.bn ("isinstance" : Str) (by decide +kernel)) (by rfl) (a_cons (e_var (pv 0)) (a_cons (e_const (pe_glob (v := .ref (T.T 5)) (by rfl) (EN.cl 5 _ (by rfl)) rfl) fun _ _ => rfl) a_nil))) (a_cons (e_callB (call_isD EN.is) rb_is noxb_is (by rfl) (EN.bn ("isinstance" : Str) (by decide +kernel)) (by rfl) (a_cons (e_var (pv 0)) (a_cons (e_const (pe_glob (v := .ref (T.T 13)) (by rfl) (EN.cl 13 _ (by rfl)) rfl) fun _ _ => rfl) a_nil))) a_nil))))))) (s_cons (s_exp (e_extend (e_var (pv 1)) (a_cons (e_lst (a_cons (e_callB (call_isD EN.is) rb_is noxb_is (by rfl) (EN.bn ("isinstance" : Str) (by decide +kernel)) (by rfl) (a_cons (e_var (pv 0)) (a_cons (e_const (pe_glob (v := .ref (T.T 4)) (by rfl) (EN.cl 4 _ (by rfl)) rfl) fun _ _ => rfl) a_nil))) (a_cons (e_callB (call_isD EN.is) rb_is noxb_is (by rfl) (EN.bn ("isinstance" : Str) (by decide +kernel)) (by rfl) (a_cons (e_var (pv 0)) (a_cons (e_const (pe_glob (v := .ref (T.T 2)) (by rfl) (EN.cl 2 _ (by rfl)) rfl) fun _ _ => rfl) a_nil))) (a_cons (e_callB (call_isD EN.is) rb_is noxb_is (by rfl) (EN.bn ("isinstance" : Str) (by decide +kernel)) (by rfl) (a_cons (e_var (pv 0)) (a_cons (e_const (pe_glob (v := .ref (T.T 15)) (by rfl) (EN.cl 15 _ (by rfl)) rfl) fun _ _ => rfl) a_nil))) (a_cons (e_callB (call_isD EN.is) rb_is noxb_is (by rfl) (EN.bn ("isinstance" : Str) (by decide +kernel)) (by rfl) (a_cons (e_var (pv 0)) (a_cons (e_const (pe_glob (v := .ref (T.T 10)) (by rfl) (EN.cl 10 _ (by rfl)) rfl) fun _ _ => rfl) a_nil))) a_nil))))) a_nil))) (s_cons (s_exp (e_extend (e_var (pv 1)) (a_cons (e_lst (a_cons (e_callB (call_isD EN.is) rb_is noxb_is (by rfl) (EN.bn ("isinstance" : Str) (by decide +kernel)) (by rfl) (a_cons (e_var (pv 0)) (a_cons (e_const (pe_glob (v := .ref (T.T 12)) (by rfl) (EN.cl 12 _ (by rfl)) rfl) fun _ _ => rfl) a_nil))) (a_cons (e_callB (call_isD EN.is) rb_is noxb_is (by rfl) (EN.bn ("isinstance" : Str) (by decide +kernel)) (by rfl) (a_cons (e_var (pv 0)) (a_cons (e_const (pe_glob (v := .ref (T.T 11)) (by rfl) (EN.cl 11 _ (by rfl)) rfl) fun _ _ => rfl) a_nil))) (a_cons (e_callB (call_isD EN.is) rb_is noxb_is (by rfl) (EN.bn ("isinstance" : Str) (by decide +kernel)) (by rfl) (a_cons (e_var (pv 0)) (a_cons (e_const (pe_glob (v := .ref (T.T 7)) (by rfl) (EN.cl 7 _ (by rfl)) rfl) fun _ _ => rfl) a_nil))) (a_cons (e_callB (call_isD EN.is) rb_is noxb_is (by rfl) (EN.bn ("isinstance" : Str) (by decide +kernel)) (by rfl) (a_cons (e_var (pv 0)) (a_cons (e_const (pe_glob (v := .ref (T.T 8)) (by rfl) (EN.cl 8 _ (by rfl)) rfl) fun _ _ => rfl) a_nil))) a_nil))))) a_nil))) (s_cons (s_exp (e_extend (e_var (pv 1)) (a_cons (e_lst (a_cons (e_callB (call_isD EN.is) rb_is noxb_is (by rfl) (EN.bn ("isinstance" : Str) (by decide +kernel)) (by rfl) (a_cons (e_var (pv 0)) (a_cons (e_const (pe_glob (v := .ref (T.T 14)) (by rfl) (EN.cl 14 _ (by rfl)) rfl) fun _ _ => rfl) a_nil))) (a_cons (e_callB (call_isD EN.is) rb_is noxb_is (by rfl) (EN.bn ("isinstance" : Str) (by decide +kernel)) (by rfl) (a_cons (e_var (pv 0)) (a_cons (e_const (pe_glob (v := .ref (T.T 9)) (by rfl) (EN.cl 9 _ (by rfl)) rfl) fun _ _ => rfl) a_nil))) (a_cons (e_callB (call_isD EN.is) rb_is noxb_is (by rfl) (EN.bn ("isinstance" : Str) (by decide +kernel)) (by rfl) (a_cons (e_var (pv 0)) (a_cons (e_const (pe_glob (v := .ref (T.T 1)) (by rfl) (EN.cl 1 _ (by rfl)) rfl) fun _ _ => rfl) a_nil))) a_nil)))) a_nil))) (s_one (s_ret (e_callB call_len rb_len noxb_len (by rfl) (EN.bn ("len" : Str) (by decide +kernel)) (by rfl) (a_cons (e_lcD (own := [(("_law_is_so" : Str), 2)]) rfl sc_law_kinds.nd (i_seq (e_var (pv 1))) (blkOk_by (N := [("_law_e" : Str), ("_law_found" : Str), ("_law_is_so" : Str)]) (sc := defScope s_law_kinds) (by decide +kernel)) (fun _ _ _ _ _ => by exact pg_name sc_law_kinds.nd rfl (Or.inl rfl) (by first | exact .inl rfl | exact .inr rfl)) tgok_n (ow_name (by decide)) (fun _ _ _ _ _ => by exact (t_ifs (t_val (e_var (pv 2))))) (fun s1 H1 C1 cl1 fp1 => by exact (e_var (pv 2)))) a_nil))))))))
theorem ok_law_pairs {f_law_pairs : Addr} {d_law_pairs : FuncData} (EN : En w K mg base T) (F_law_pairs : FunD K ("_law_pairs" : Str) ("_law_pairs" : Str) (defArgs s_law_pairs) (defBody s_law_pairs) (defScope s_law_pairs) [] [] f_law_pairs d_law_pairs) {cP tP : Addr} (hcd : d_law_pairs.code = .ref cP) (TB : LamX.TabB base mg cP tP) (TM : (tP, ((("_law_pairs" : Str) ++ ".<locals>.") ++ "<lambda>")) ∈ T.tb) (TU : ∀ p ∈ T.tb, p.1 = tP → p.2 = ((("_law_pairs" : Str) ++ ".<locals>.") ++ "<lambda>")) : FnOk PR w K mg base (L2.CX PR w) 3 f_law_pairs d_law_pairs [("_law_a" : Str)] (spM ⟨K, T⟩ 1 (m_law_pairs)) := by
  refine okC F_law_pairs sc_law_pairs (fun vs H Q E h => spM_len h) (fun c A outer s H vs Q E hc hr h => ⟨dnS ⟨K, T⟩ (wE E) b_law_pairs_, ?_, run_dn (N := [("_law_a" : Str), ("_law_found" : Str)]) h⟩)
  obtain rfl : c = cP := Value.ref.inj (hc.symm.trans hcd)
  have tk : Takes _ (wE E) := takes_of (X := cxOf (L2.CX PR w) PR w K mg base [("_law_a" : Str), ("_law_found" : Str)] ("_law_pairs" : Str) (defScope s_law_pairs) f_law_pairs (.ref c) A outer s H E) rfl rfl rfl rfl
  exact (s_cons (s_set (ps_set (i := 1) sc_law_pairs.nd rfl (Or.inl rfl) (e_lstL (a_cons (e_tup (a_cons (e_mkE (EN.x2).choose_spec (hr.mono (by decide)) (by rfl) (EN.cl 2 _ (by rfl)) (a_cons (e_var (pv 0)) a_nil)) (a_cons (e_mkEk (EN.x2).choose_spec (hr.mono (by decide)) (by rfl) (EN.cl 2 _ (by rfl)) (e_var (pv 0))) (a_cons (e_lam (i := 0) (by rw [EN.lam] <;> rfl) TB rfl TM TU rfl (by decide +kernel) rfl) a_nil)))) (a_cons (e_tup (a_cons (e_mkE (EN.x3).choose_spec (hr.mono (by decide)) (by rfl) (EN.cl 3 _ (by rfl)) (a_cons (e_var (pv 0)) a_nil)) (a_cons (e_mkEk (EN.x3).choose_spec (hr.mono (by decide)) (by rfl) (EN.cl 3 _ (by rfl)) (e_var (pv 0))) (a_cons (e_lam (i := 1) (by rw [EN.lam] <;> rfl) TB rfl TM TU rfl (by decide +kernel) rfl) a_nil)))) a_nil))))) (s_cons (s_exp (e_extend (e_var (pv 1)) (a_cons (e_lst (a_cons (e_tup (a_cons (e_mkE (EN.x4).choose_spec (hr.mono (by decide)) (by rfl) (EN.cl 4 _ (by rfl)) (a_cons (e_var (pv 0)) a_nil)) (a_cons (e_mkEk (EN.x4).choose_spec (hr.mono (by decide)) (by rfl) (EN.cl 4 _ (by rfl)) (e_var (pv 0))) (a_cons (e_lam (i := 2) (by rw [EN.lam] <;> rfl) TB rfl TM TU rfl (by decide +kernel) rfl) a_nil)))) (a_cons (e_tup (a_cons (e_mkE (EN.x5).choose_spec (hr.mono (by decide)) (by rfl) (EN.cl 5 _ (by rfl)) (a_cons (e_var (pv 0)) a_nil)) (a_cons (e_mkEk (EN.x5).choose_spec (hr.mono (by decide)) (by rfl) (EN.cl 5 _ (by rfl)) (e_var (pv 0))) (a_cons (e_lam (i := 3) (by rw [EN.lam] <;> rfl) TB rfl TM TU rfl (by decide +kernel) rfl) a_nil)))) a_nil))) a_nil))) (s_cons (s_exp (e_extend (e_var (pv 1)) (a_cons (e_lst (a_cons (e_tup (a_cons (e_mkE (EN.x6).choose_spec (hr.mono (by decide)) (by rfl) (EN.cl 6 _ (by rfl)) (a_cons (e_var (pv 0)) a_nil)) (a_cons (e_mkEk (EN.x6).choose_spec (hr.mono (by decide)) (by rfl) (EN.cl 6 _ (by rfl)) (e_var (pv 0))) (a_cons (e_lam (i := 4) (by rw [EN.lam] <;> rfl) TB rfl TM TU rfl (by decide +kernel) rfl) a_nil)))) (a_cons (e_tup (a_cons (e_mkE (EN.x7).choose_spec (hr.mono (by decide)) (by rfl) (EN.cl 7 _ (by rfl)) (a_cons (e_var (pv 0)) a_nil)) (a_cons (e_mkEk (EN.x7).choose_spec (hr.mono (by decide)) (by rfl) (EN.cl 7 _ (by rfl)) (e_var (pv 0))) (a_cons (e_lam (i := 5) (by rw [EN.lam] <;> rfl) TB rfl TM TU rfl (by decide +kernel) rfl) a_nil)))) a_nil))) a_nil))) (s_cons (s_exp (e_extend (e_var (pv 1)) (a_cons (e_lst (a_cons (e_tup (a_cons (e_mkE (EN.x8).choose_spec (hr.mono (by decide)) (by rfl) (EN.cl 8 _ (by rfl)) (a_cons (e_var (pv 0)) a_nil)) (a_cons (e_mkEk (EN.x8).choose_spec (hr.mono (by decide)) (by rfl) (EN.cl 8 _ (by rfl)) (e_var (pv 0))) (a_cons (e_lam (i := 6) (by rw [EN.lam] <;> rfl) TB rfl TM TU rfl (by decide +kernel) rfl) a_nil)))) (a_cons (e_tup (a_cons (e_mkE (EN.x9).choose_spec (hr.mono (by decide)) (by rfl) (EN.cl 9 _ (by rfl)) (a_cons (e_var (pv 0)) a_nil)) (a_cons (e_mkEk (EN.x9).choose_spec (hr.mono (by decide)) (by rfl) (EN.cl 9 _ (by rfl)) (e_var (pv 0))) (a_cons (e_lam (i := 7) (by rw [EN.lam] <;> rfl) TB rfl TM TU rfl (by decide +kernel) rfl) a_nil)))) a_nil))) a_nil))) (s_cons (s_exp (e_extend (e_var (pv 1)) (a_cons (e_lst (a_cons (e_tup (a_cons (e_mkE (EN.x10).choose_spec (hr.mono (by decide)) (by rfl) (EN.cl 10 _ (by rfl)) (a_cons (e_var (pv 0)) a_nil)) (a_cons (e_mkEk (EN.x10).choose_spec (hr.mono (by decide)) (by rfl) (EN.cl 10 _ (by rfl)) (e_var (pv 0))) (a_cons (e_lam (i := 8) (by rw [EN.lam] <;> rfl) TB rfl TM TU rfl (by decide +kernel) rfl) a_nil)))) (a_cons (e_tup (a_cons (e_mkE (EN.x11).choose_spec (hr.mono (by decide)) (by rfl) (EN.cl 11 _ (by rfl)) (a_cons (e_var (pv 0)) a_nil)) (a_cons (e_mkEk (EN.x11).choose_spec (hr.mono (by decide)) (by rfl) (EN.cl 11 _ (by rfl)) (e_var (pv 0))) (a_cons (e_lam (i := 9) (by rw [EN.lam] <;> rfl) TB rfl TM TU rfl (by decide +kernel) rfl) a_nil)))) a_nil))) a_nil))) (s_cons (s_exp (e_append (e_var (pv 1)) (a_cons (e_tup (a_cons (e_mkE (EN.x12).choose_spec (hr.mono (by decide)) (by rfl) (EN.cl 12 _ (by rfl)) (a_cons (e_var (pv 0)) a_nil)) (a_cons (e_mkEk (EN.x12).choose_spec (hr.mono (by decide)) (by rfl) (EN.cl 12 _ (by rfl)) (e_var (pv 0))) (a_cons (e_lam (i := 10) (by rw [EN.lam] <;> rfl) TB rfl TM TU rfl (by decide +kernel) rfl) a_nil)))) a_nil))) (s_cons (s_exp (e_append (e_var (pv 1)) (a_cons (e_tup (a_cons (e_mkE (EN.x13).choose_spec (hr.mono (by decide)) (by rfl) (EN.cl 13 _ (by rfl)) (a_cons (e_var (pv 0)) a_nil)) (a_cons (e_mkEk (EN.x13).choose_spec (hr.mono (by decide)) (by rfl) (EN.cl 13 _ (by rfl)) (e_var (pv 0))) (a_cons (e_lam (i := 11) (by rw [EN.lam] <;> rfl) TB rfl TM TU rfl (by decide +kernel) rfl) a_nil)))) a_nil))) (s_cons (s_exp (e_append (e_var (pv 1)) (a_cons (e_tup (a_cons (e_mkE (EN.x14).choose_spec (hr.mono (by decide)) (by rfl) (EN.cl 14 _ (by rfl)) (a_cons (e_var (pv 0)) a_nil)) (a_cons (e_mkEk (EN.x14).choose_spec (hr.mono (by decide)) (by rfl) (EN.cl 14 _ (by rfl)) (e_var (pv 0))) (a_cons (e_lam (i := 12) (by rw [EN.lam] <;> rfl) TB rfl TM TU rfl (by decide +kernel) rfl) a_nil)))) a_nil))) (s_one (s_ret (e_var (pv 1))))))))))))
theorem oklaw {f_law_source : Addr} {d_law_source : FuncData} {f_law_same : Addr} {d_law_same : FuncData} {f_law_object : Addr} {d_law_object : FuncData} {f_law_kinds : Addr} {d_law_kinds : FuncData} {f_law_pairs : Addr} {d_law_pairs : FuncData} {flaw : Addr} {dlaw : FuncData} (EN : En w K mg base T) (Flaw : FunD K ("law" : Str) ("law" : Str) (defArgs slaw) (defBody slaw) (defScope slaw) [] [] flaw dlaw) (F_law_source : FunD K ("_law_source" : Str) ("_law_source" : Str) (defArgs s_law_source) (defBody s_law_source) (defScope s_law_source) [] [] f_law_source d_law_source) (g_law_source : mg ("_law_source" : Str) = some (.ref f_law_source)) (G_law_source : FnOk PR w K mg base (L2.CX PR w) 1 f_law_source d_law_source [("_law_script" : Str), ("_law_at" : Str)] (spM ⟨K, T⟩ 2 (m_law_source))) (F_law_same : FunD K ("_law_same" : Str) ("_law_same" : Str) (defArgs s_law_same) (defBody s_law_same) (defScope s_law_same) [] [] f_law_same d_law_same) (g_law_same : mg ("_law_same" : Str) = some (.ref f_law_same)) (G_law_same : FnOk PR w K mg base (L2.CX PR w) 6 f_law_same d_law_same [("_law_found" : Str), ("_law_due" : Str)] (spM ⟨K, T⟩ 2 (m_law_same 5))) (F_law_object : FunD K ("_law_object" : Str) ("_law_object" : Str) (defArgs s_law_object) (defBody s_law_object) (defScope s_law_object) [] [] f_law_object d_law_object) (g_law_object : mg ("_law_object" : Str) = some (.ref f_law_object)) (G_law_object : FnOk PR w K mg base (L2.CX PR w) 2 f_law_object d_law_object [("_law_draws" : Str)] (spM ⟨K, T⟩ 1 (m_law_object))) (F_law_kinds : FunD K ("_law_kinds" : Str) ("_law_kinds" : Str) (defArgs s_law_kinds) (defBody s_law_kinds) (defScope s_law_kinds) [] [] f_law_kinds d_law_kinds) (g_law_kinds : mg ("_law_kinds" : Str) = some (.ref f_law_kinds)) (G_law_kinds : FnOk PR w K mg base (L2.CX PR w) 1 f_law_kinds d_law_kinds [("_law_e" : Str)] (spM ⟨K, T⟩ 1 (m_law_kinds))) (F_law_pairs : FunD K ("_law_pairs" : Str) ("_law_pairs" : Str) (defArgs s_law_pairs) (defBody s_law_pairs) (defScope s_law_pairs) [] [] f_law_pairs d_law_pairs) (g_law_pairs : mg ("_law_pairs" : Str) = some (.ref f_law_pairs)) (G_law_pairs : FnOk PR w K mg base (L2.CX PR w) 3 f_law_pairs d_law_pairs [("_law_a" : Str)] (spM ⟨K, T⟩ 1 (m_law_pairs))) : FnOk PR w K mg base (L2.CX PR w) 7 flaw dlaw [("_law_script" : Str)] (spM ⟨K, T⟩ 1 (mlaw)) := by
  have b_law_source : Binds K d_law_source [("_law_script" : Str), ("_law_at" : Str)] [] := F_law_source.bindsN fun _ _ _ _ _ _ us hl => match us, hl with | [_, _], _ => rfl
  have b_law_same : Binds K d_law_same [("_law_found" : Str), ("_law_due" : Str)] [] := F_law_same.bindsN fun _ _ _ _ _ _ us hl => match us, hl with | [_, _], _ => rfl
  have b_law_object : Binds K d_law_object [("_law_draws" : Str)] [] := F_law_object.bindsN fun _ _ _ _ _ _ us hl => match us, hl with | [_], _ => rfl
  have b_law_kinds : Binds K d_law_kinds [("_law_e" : Str)] [] := F_law_kinds.bindsN fun _ _ _ _ _ _ us hl => match us, hl with | [_], _ => rfl
  have b_law_pairs : Binds K d_law_pairs [("_law_a" : Str)] [] := F_law_pairs.bindsN fun _ _ _ _ _ _ us hl => match us, hl with | [_], _ => rfl
  have EL := lam_all EN
  refine Flaw.ok sclaw (fun vs H Q E h => spM_len h) (fun cdv A outer s H vs Q E hr h => ⟨dnS ⟨K, T⟩ (wE E) blaw_, ?_, run_dn (N := [("_law_script" : Str), ("_law_turn" : Str), ("_law_draws" : Str), ("_law_a" : Str), ("_law_one" : Str), ("_law_two" : Str), ("_law_field" : Str), ("_law_e" : Str), ("_law_held" : Str), ("_law_beyond" : Str)]) h⟩)
  have tk : Takes _ (wE E) := takes_of (X := cxOf (L2.CX PR w) PR w K mg base [("_law_script" : Str), ("_law_turn" : Str), ("_law_draws" : Str), ("_law_a" : Str), ("_law_one" : Str), ("_law_two" : Str), ("_law_field" : Str), ("_law_e" : Str), ("_law_held" : Str), ("_law_beyond" : Str)] ("law" : Str) (defScope slaw) flaw cdv A outer s H E) rfl rfl rfl rfl
  exact (s_cons (s_for (passes_of rfl) rfl (i_rng1 (by rfl) (EN.bn ("range" : Str) (by decide +kernel)) (a_cons (e_op op_addA rf_add nox_add e_int (e_callB (call_min2 rfl) rb_min2 noxb_min2 (by rfl) (EN.bn ("min" : Str) (by decide +kernel)) (by rfl) (a_cons (e_callB call_len rb_len noxb_len (by rfl) (EN.bn ("len" : Str) (by decide +kernel)) (by rfl) (a_cons (e_var (pv 0)) a_nil)) (a_cons e_int a_nil)))) a_nil)) (g_name (pg_name sclaw.nd rfl (Or.inl rfl))) tgok_n (s_cons (s_set (ps_set (i := 2) sclaw.nd rfl (Or.inl rfl) (e_call (G_law_source.mono (by decide)) hr (by rfl) g_law_source F_law_source.kp b_law_source .nil (by intro _ _; rfl) tk (a_cons (e_var (pv 0)) (a_cons (e_var (pv 1)) a_nil))))) (s_cons (s_set (ps_set (i := 3) sclaw.nd rfl (Or.inl rfl) (e_call (G_law_object.mono (by decide)) hr (by rfl) g_law_object F_law_object.kp b_law_object .nil (by intro _ _; rfl) tk (a_cons (e_var (pv 2)) a_nil)))) (s_one (s_for (passes_of rfl) rfl (i_seq (e_call (G_law_pairs.mono (by decide)) hr (by rfl) g_law_pairs F_law_pairs.kp b_law_pairs .nil (by intro _ _; rfl) tk (a_cons (e_var (pv 3)) a_nil))) (g_tup rfl (gs_cons (g_name (pg_name sclaw.nd rfl (Or.inl rfl))) (gs_cons (g_name (pg_name sclaw.nd rfl (Or.inl rfl))) (gs_cons (g_name (pg_name sclaw.nd rfl (Or.inl rfl))) gs_nil)))) (tgok_ns [4, 5, 6]) (s_one (s_for (passes_of rfl) rfl (i_seq (e_tup (a_cons (e_var (pv 4)) (a_cons (e_var (pv 5)) a_nil)))) (g_name (pg_name sclaw.nd rfl (Or.inl rfl))) tgok_n (s_cons (s_if (PW.pt (t_or (t_not (t_val (e_callB (call_isD EN.is) rb_is noxb_is (by rfl) (EN.bn ("isinstance" : Str) (by decide +kernel)) (by rfl) (a_cons (e_var (pv 7)) (a_cons (e_const (pe_glob (v := .ref (T.T 0)) (by rfl) (EN.cl 0 _ (by rfl)) rfl) fun _ _ => rfl) a_nil))))) (t_or (t_not (t_val (e_callB (call_isD EN.is) rb_is noxb_is (by rfl) (EN.bn ("isinstance" : Str) (by decide +kernel)) (by rfl) (a_cons (e_var (pv 7)) (a_cons (e_const (pe_bltn (v := .ty "ValueError") rfl (EN.bn ("ValueError" : Str) (by decide +kernel)) rfl rfl) fun _ _ => rfl) a_nil))))) (t_or1 (t_cmp (op_neD hr.units) rf_ne nox_cmp (e_call (G_law_kinds.mono (by decide)) hr (by rfl) g_law_kinds F_law_kinds.kp b_law_kinds .nil (by intro _ _; rfl) tk (a_cons (e_var (pv 7)) a_nil)) e_int (nomark _)))))) (s_one (s_ret e_bl)) s_nil) (s_one (s_if (t_not (t_val (e_call (G_law_same.mono (by decide)) hr (by rfl) g_law_same F_law_same.kp b_law_same .nil (by intro _ _; rfl) tk (a_cons (e_callV EL (hr.mono (by decide)) tk (e_var (pv 6)) (a_cons (e_var (pv 7)) a_nil)) (a_cons (e_var (pv 3)) a_nil))))) (s_one (s_ret e_bl)) s_nil)))))))))) (s_cons (s_pair sclaw.nd rfl rfl (by decide) rfl rfl rfl (a_cons (e_mkE0 (EN.z1) (by rfl) (EN.cl 1 _ (by rfl))) (a_cons (e_mkE0 (EN.z15) (by rfl) (EN.cl 15 _ (by rfl))) a_nil)) rfl) (s_cons (s_if (PW.pt (t_or (t_val (e_callB (call_isD EN.is) rb_is noxb_is (by rfl) (EN.bn ("isinstance" : Str) (by decide +kernel)) (by rfl) (a_cons (e_var (pv 8)) (a_cons (e_const (pe_glob (v := .ref (T.T 0)) (by rfl) (EN.cl 0 _ (by rfl)) rfl) fun _ _ => rfl) a_nil)))) (t_or (t_val (e_callB (call_isD EN.is) rb_is noxb_is (by rfl) (EN.bn ("isinstance" : Str) (by decide +kernel)) (by rfl) (a_cons (e_var (pv 8)) (a_cons (e_const (pe_bltn (v := .ty "ValueError") rfl (EN.bn ("ValueError" : Str) (by decide +kernel)) rfl rfl) fun _ _ => rfl) a_nil)))) (t_or1 (t_not (t_val (e_callB (call_isD EN.is) rb_is noxb_is (by rfl) (EN.bn ("isinstance" : Str) (by decide +kernel)) (by rfl) (a_cons (e_var (pv 8)) (a_cons (e_const (pe_glob (v := .ref (T.T 1)) (by rfl) (EN.cl 1 _ (by rfl)) rfl) fun _ _ => rfl) a_nil))))))))) (s_one (s_ret e_bl)) s_nil) (s_cons (s_if (PW.pt (t_or (t_not (t_val (e_callB (call_isD EN.is) rb_is noxb_is (by rfl) (EN.bn ("isinstance" : Str) (by decide +kernel)) (by rfl) (a_cons (e_var (pv 8)) (a_cons (e_const (pe_bltn (v := .ty "Exception") rfl (EN.bn ("Exception" : Str) (by decide +kernel)) rfl rfl) fun _ _ => rfl) a_nil))))) (t_or (t_val (e_callB (call_isD EN.is) rb_is noxb_is (by rfl) (EN.bn ("isinstance" : Str) (by decide +kernel)) (by rfl) (a_cons (e_var (pv 8)) (a_cons (e_const (pe_bltn (v := .ty "LookupError") rfl (EN.bn ("LookupError" : Str) (by decide +kernel)) rfl rfl) fun _ _ => rfl) a_nil)))) (t_or1 (t_val (e_callB (call_isD EN.is) rb_is noxb_is (by rfl) (EN.bn ("isinstance" : Str) (by decide +kernel)) (by rfl) (a_cons (e_var (pv 8)) (a_cons (e_const (pe_bltn (v := .ty "RuntimeError") rfl (EN.bn ("RuntimeError" : Str) (by decide +kernel)) rfl rfl) fun _ _ => rfl) a_nil)))))))) (s_one (s_ret e_bl)) s_nil) (s_one (s_ret (e_and (e_callB (call_isD EN.is) rb_is noxb_is (by rfl) (EN.bn ("isinstance" : Str) (by decide +kernel)) (by rfl) (a_cons (e_var (pv 9)) (a_cons (e_const (pe_glob (v := .ref (T.T 0)) (by rfl) (EN.cl 0 _ (by rfl)) rfl) fun _ _ => rfl) a_nil))) (e_and (e_cmp (op_eqD hr.units) rf_eq nox_cmp (e_call (G_law_kinds.mono (by decide)) hr (by rfl) g_law_kinds F_law_kinds.kp b_law_kinds .nil (by intro _ _; rfl) tk (a_cons (e_var (pv 9)) a_nil)) e_int (nomark _)) (e_one (e_cmp (op_eqD hr.units) rf_eq nox_cmp (e_call (G_law_kinds.mono (by decide)) hr (by rfl) g_law_kinds F_law_kinds.kp b_law_kinds .nil (by intro _ _; rfl) tk (a_cons (e_var (pv 8)) a_nil)) e_int (nomark _)))))))))))
end
end K01

set_option Elab.async false
set_option linter.all false
set_option maxRecDepth 100000
set_option maxHeartbeats 1000000
namespace K01
open PySem PySem.Spec PyProof.Rows L2 Tw
theorem M_bind {α β : Type} (t : M α) (f : α → M β) (m : Mem) : (t >>= f) m = (t m).bnd f := rfl
theorem M_pure {α : Type} (a : α) (m : Mem) : (pure a : M α) m = .ok a m := rfl
theorem bnd_ok {α β : Type} (a : α) (m : Mem) (f : α → M β) : (Out.ok a m).bnd f = f a m := rfl
theorem cmul_r {i j : Int} (h1 : -(2 ^ 64) < j) (h2 : j < 2 ^ 64) : CMul i j := .inr ⟨h1, h2⟩
theorem fm0 (a : Int) {b : Int} (h : 0 < b) : 0 ≤ a.fmod b ∧ a.fmod b < b := by
  rw [Int.fmod_eq_emod_of_nonneg a (Int.le_of_lt h)]
  exact ⟨Int.emod_nonneg _ (Int.ne_of_gt h), Int.emod_lt_of_pos _ h⟩
theorem ix3 {m : Mem} {n : Nat} {x y z : D} (h : m.at_ n = some (.lst [x, y, z])) : dIx (.ref n) (.int 0) m = .ok x m ∧ dIx (.ref n) (.int 1) m = .ok y m ∧ dIx (.ref n) (.int 2) m = .ok z m := by
  unfold dIx sqF lsF
  simp only [h]
  exact ⟨rfl, rfl, rfl⟩
theorem st3 {m : Mem} {n : Nat} {x y z v : D} (h : m.at_ n = some (.lst [x, y, z])) : dSetIx (.ref n) (.int 0) v m = .ok () (m.put n (.lst [v, y, z])) ∧ dSetIx (.ref n) (.int 1) v m = .ok () (m.put n (.lst [x, v, z])) ∧ dSetIx (.ref n) (.int 2) v m = .ok () (m.put n (.lst [x, y, v])) := by
  unfold dSetIx
  simp only [h]
  exact ⟨rfl, rfl, rfl⟩
theorem put_at {m : Mem} {n : Nat} {o : MO} : (m.put n o).at_ n = some o := if_pos rfl

theorem draw_ok (m : Mem) (n : Nat) (a b c many : Int) (h : m.at_ n = some (.lst [.int a, .int b, .int c])) (h1 : 0 < many) (h2 : many < 1073741824) :
    ∃ r m' a' b' c', 0 ≤ r ∧ r < many ∧ m_law_draw [.ref n, .int many] m = .ok (.int r) m' ∧ m'.nxt = m.nxt ∧ m'.at_ n = some (.lst [.int a', .int b', .int c']) := by
  have hne : many ≠ 0 := Int.ne_of_gt h1
  have hd : CDivN a many := ⟨hne, by omega⟩
  have t1 : ∀ (x : D) (l : Tw.Loc) (m : Mem), mTst (fun _ m => Out.ok (.bl true) m) l m = .ok true m := fun _ _ _ => rfl
  have i0 := (ix3 h).1
  by_cases ha : 0 < a
  · refine ⟨a.fmod many, m.put n (.lst [.int (a.fdiv many), .int b, .int c]), a.fdiv many, b, c, (fm0 a h1).1, (fm0 a h1).2, ?_, rfl, put_at⟩
    show (b_law_draw_ ([some (.ref n), some (.int many)] ++ [none]) m).bnd _ = _
    simp only [b_law_draw_, sSeq, sIf, sSet, sRet, sAsg, tgSub, dropE, mTst, mBin, mVar, mC, mB, mCons, mNil, dInt1, M_bind, M_pure, bnd_ok, List.cons_append, List.nil_append, List.getElem?_cons_zero, List.getElem?_cons_succ, i0, dII, mOpt, decide_eq_true ha, if_true, hne, ne_eq, not_false_eq_true, List.set_cons_zero, List.set_cons_succ, if_pos hd, (st3 h).1, dGt]
  · have k1 : CMul b 48271 := cmul_r (by decide) (by decide)
    have k2 : CMul (c + 1) 7919 := cmul_r (by decide) (by decide)
    have k4 : ¬ (2147483647 : Int) = 0 := by decide
    have k3 : ∀ x : Int, CDivN x 65536 := fun x => ⟨by decide, by decide⟩
    have h1' : (m.put n (.lst [.int a, .int b, .int (c + 1)])).at_ n = some (.lst [.int a, .int b, .int (c + 1)]) := put_at
    have h2' : ∀ z, ((m.put n (.lst [.int a, .int b, .int (c + 1)])).put n (.lst [.int a, .int z, .int (c + 1)])).at_ n = some (.lst [.int a, .int z, .int (c + 1)]) := fun z => put_at
    refine ⟨(((b * 48271 + (c + 1) * 7919 + 12345).fmod 2147483647).fdiv 65536 + (b * 48271 + (c + 1) * 7919 + 12345).fmod 2147483647).fmod many, _, _, _, _, (fm0 _ h1).1, (fm0 _ h1).2, ?_, ?_, h2' ((b * 48271 + (c + 1) * 7919 + 12345).fmod 2147483647)⟩
    · show (b_law_draw_ ([some (.ref n), some (.int many)] ++ [none]) m).bnd _ = _
      simp only [b_law_draw_, sSeq, sIf, sSet, sRet, sAsg, tgSub, dropE, mTst, mBin, mVar, mC, mB, mCons, mNil, dInt1, M_bind, M_pure, bnd_ok, List.cons_append, List.nil_append, List.getElem?_cons_zero, List.getElem?_cons_succ, i0, dII, mOpt, decide_eq_false ha, Bool.false_eq_true, if_false, if_true, hne, ne_eq, not_false_eq_true, List.set_cons_zero, List.set_cons_succ, (ix3 h).2.2, (st3 h).2.2, dGt, dAdd, sNil, (ix3 h1').2.1, (ix3 h1').2.2, if_pos k1, if_pos k2, (st3 h1').2.1, (ix3 (h2' _)).2.1, if_pos (k3 _), k4]
    · rfl
end K01

set_option Elab.async false
set_option linter.all false
set_option maxRecDepth 100000
set_option maxHeartbeats 4000000
namespace K01
open PySem PySem.Spec PyProof.Rows L2 Tw
def objF (r : Int) : List D := [.int (100000000000 - r), .str ("some" : Str), .tup [.int r, .str ("x" : Str)], .non, .tup [.tup [.int 1, .bl true], .tup [.int r, .bl false]], .int (0 - r)]
def objA (r r2 : Int) : D := (L2.atI (objF r) r2).getD .non
def prj (N : Nat) (o : Out Fl) : Bool × Option D := match o with
  | .ok (.nx (x :: r)) m => (m.nxt == N && r.length == 9, x)
  | _ => (false, none)
theorem prj_ok {N : Nat} {o : Out Fl} {sc : Option D} (h : prj N o = (true, sc)) : ∃ r m, o = .ok (.nx (sc :: r)) m ∧ m.nxt = N ∧ r.length = 9 := by
  unfold prj at h
  split at h
  · rename_i x r m
    obtain ⟨h1, h2⟩ := Prod.mk.inj h
    obtain ⟨h3, h4⟩ := Bool.and_eq_true_iff.mp h1
    exact ⟨r, m, by rw [h2], beq_iff_eq.mp h3, beq_iff_eq.mp h4⟩
  · exact Bool.noConfusion (Prod.mk.inj h).1
theorem inn_0_0 {r2 : Int} (e2 : r2 = 0 ∨ r2 = 1 ∨ r2 = 2 ∨ r2 = 3 ∨ r2 = 4 ∨ r2 = 5) (at_ : Nat → Option MO) (sc o1 o2 o4 o5 o6 o7 o8 o9 : Option D) :
    prj (28 * 0 + 28) (bInner [sc, o1, o2, some (objA 0 r2), o4, o5, o6, o7, o8, o9] ⟨at_, 28 * 0 + 1⟩) = (true, sc) := by
  rcases e2 with rfl | rfl | rfl | rfl | rfl | rfl <;> kernel_rfl
theorem inn_0_1 {r2 : Int} (e2 : r2 = 0 ∨ r2 = 1 ∨ r2 = 2 ∨ r2 = 3 ∨ r2 = 4 ∨ r2 = 5) (at_ : Nat → Option MO) (sc o1 o2 o4 o5 o6 o7 o8 o9 : Option D) :
    prj (28 * 0 + 28) (bInner [sc, o1, o2, some (objA 1 r2), o4, o5, o6, o7, o8, o9] ⟨at_, 28 * 0 + 1⟩) = (true, sc) := by
  rcases e2 with rfl | rfl | rfl | rfl | rfl | rfl <;> kernel_rfl
theorem inn_0_2 {r2 : Int} (e2 : r2 = 0 ∨ r2 = 1 ∨ r2 = 2 ∨ r2 = 3 ∨ r2 = 4 ∨ r2 = 5) (at_ : Nat → Option MO) (sc o1 o2 o4 o5 o6 o7 o8 o9 : Option D) :
    prj (28 * 0 + 28) (bInner [sc, o1, o2, some (objA 2 r2), o4, o5, o6, o7, o8, o9] ⟨at_, 28 * 0 + 1⟩) = (true, sc) := by
  rcases e2 with rfl | rfl | rfl | rfl | rfl | rfl <;> kernel_rfl
theorem inn_0_3 {r2 : Int} (e2 : r2 = 0 ∨ r2 = 1 ∨ r2 = 2 ∨ r2 = 3 ∨ r2 = 4 ∨ r2 = 5) (at_ : Nat → Option MO) (sc o1 o2 o4 o5 o6 o7 o8 o9 : Option D) :
    prj (28 * 0 + 28) (bInner [sc, o1, o2, some (objA 3 r2), o4, o5, o6, o7, o8, o9] ⟨at_, 28 * 0 + 1⟩) = (true, sc) := by
  rcases e2 with rfl | rfl | rfl | rfl | rfl | rfl <;> kernel_rfl
theorem inn_0_4 {r2 : Int} (e2 : r2 = 0 ∨ r2 = 1 ∨ r2 = 2 ∨ r2 = 3 ∨ r2 = 4 ∨ r2 = 5) (at_ : Nat → Option MO) (sc o1 o2 o4 o5 o6 o7 o8 o9 : Option D) :
    prj (28 * 0 + 28) (bInner [sc, o1, o2, some (objA 4 r2), o4, o5, o6, o7, o8, o9] ⟨at_, 28 * 0 + 1⟩) = (true, sc) := by
  rcases e2 with rfl | rfl | rfl | rfl | rfl | rfl <;> kernel_rfl
theorem inn_1_0 {r2 : Int} (e2 : r2 = 0 ∨ r2 = 1 ∨ r2 = 2 ∨ r2 = 3 ∨ r2 = 4 ∨ r2 = 5) (at_ : Nat → Option MO) (sc o1 o2 o4 o5 o6 o7 o8 o9 : Option D) :
    prj (28 * 1 + 28) (bInner [sc, o1, o2, some (objA 0 r2), o4, o5, o6, o7, o8, o9] ⟨at_, 28 * 1 + 1⟩) = (true, sc) := by
  rcases e2 with rfl | rfl | rfl | rfl | rfl | rfl <;> kernel_rfl
theorem inn_1_1 {r2 : Int} (e2 : r2 = 0 ∨ r2 = 1 ∨ r2 = 2 ∨ r2 = 3 ∨ r2 = 4 ∨ r2 = 5) (at_ : Nat → Option MO) (sc o1 o2 o4 o5 o6 o7 o8 o9 : Option D) :
    prj (28 * 1 + 28) (bInner [sc, o1, o2, some (objA 1 r2), o4, o5, o6, o7, o8, o9] ⟨at_, 28 * 1 + 1⟩) = (true, sc) := by
  rcases e2 with rfl | rfl | rfl | rfl | rfl | rfl <;> kernel_rfl
theorem inn_1_2 {r2 : Int} (e2 : r2 = 0 ∨ r2 = 1 ∨ r2 = 2 ∨ r2 = 3 ∨ r2 = 4 ∨ r2 = 5) (at_ : Nat → Option MO) (sc o1 o2 o4 o5 o6 o7 o8 o9 : Option D) :
    prj (28 * 1 + 28) (bInner [sc, o1, o2, some (objA 2 r2), o4, o5, o6, o7, o8, o9] ⟨at_, 28 * 1 + 1⟩) = (true, sc) := by
  rcases e2 with rfl | rfl | rfl | rfl | rfl | rfl <;> kernel_rfl
theorem inn_1_3 {r2 : Int} (e2 : r2 = 0 ∨ r2 = 1 ∨ r2 = 2 ∨ r2 = 3 ∨ r2 = 4 ∨ r2 = 5) (at_ : Nat → Option MO) (sc o1 o2 o4 o5 o6 o7 o8 o9 : Option D) :
    prj (28 * 1 + 28) (bInner [sc, o1, o2, some (objA 3 r2), o4, o5, o6, o7, o8, o9] ⟨at_, 28 * 1 + 1⟩) = (true, sc) := by
  rcases e2 with rfl | rfl | rfl | rfl | rfl | rfl <;> kernel_rfl
theorem inn_1_4 {r2 : Int} (e2 : r2 = 0 ∨ r2 = 1 ∨ r2 = 2 ∨ r2 = 3 ∨ r2 = 4 ∨ r2 = 5) (at_ : Nat → Option MO) (sc o1 o2 o4 o5 o6 o7 o8 o9 : Option D) :
    prj (28 * 1 + 28) (bInner [sc, o1, o2, some (objA 4 r2), o4, o5, o6, o7, o8, o9] ⟨at_, 28 * 1 + 1⟩) = (true, sc) := by
  rcases e2 with rfl | rfl | rfl | rfl | rfl | rfl <;> kernel_rfl
theorem inn_2_0 {r2 : Int} (e2 : r2 = 0 ∨ r2 = 1 ∨ r2 = 2 ∨ r2 = 3 ∨ r2 = 4 ∨ r2 = 5) (at_ : Nat → Option MO) (sc o1 o2 o4 o5 o6 o7 o8 o9 : Option D) :
    prj (28 * 2 + 28) (bInner [sc, o1, o2, some (objA 0 r2), o4, o5, o6, o7, o8, o9] ⟨at_, 28 * 2 + 1⟩) = (true, sc) := by
  rcases e2 with rfl | rfl | rfl | rfl | rfl | rfl <;> kernel_rfl
theorem inn_2_1 {r2 : Int} (e2 : r2 = 0 ∨ r2 = 1 ∨ r2 = 2 ∨ r2 = 3 ∨ r2 = 4 ∨ r2 = 5) (at_ : Nat → Option MO) (sc o1 o2 o4 o5 o6 o7 o8 o9 : Option D) :
    prj (28 * 2 + 28) (bInner [sc, o1, o2, some (objA 1 r2), o4, o5, o6, o7, o8, o9] ⟨at_, 28 * 2 + 1⟩) = (true, sc) := by
  rcases e2 with rfl | rfl | rfl | rfl | rfl | rfl <;> kernel_rfl
theorem inn_2_2 {r2 : Int} (e2 : r2 = 0 ∨ r2 = 1 ∨ r2 = 2 ∨ r2 = 3 ∨ r2 = 4 ∨ r2 = 5) (at_ : Nat → Option MO) (sc o1 o2 o4 o5 o6 o7 o8 o9 : Option D) :
    prj (28 * 2 + 28) (bInner [sc, o1, o2, some (objA 2 r2), o4, o5, o6, o7, o8, o9] ⟨at_, 28 * 2 + 1⟩) = (true, sc) := by
  rcases e2 with rfl | rfl | rfl | rfl | rfl | rfl <;> kernel_rfl
theorem inn_2_3 {r2 : Int} (e2 : r2 = 0 ∨ r2 = 1 ∨ r2 = 2 ∨ r2 = 3 ∨ r2 = 4 ∨ r2 = 5) (at_ : Nat → Option MO) (sc o1 o2 o4 o5 o6 o7 o8 o9 : Option D) :
    prj (28 * 2 + 28) (bInner [sc, o1, o2, some (objA 3 r2), o4, o5, o6, o7, o8, o9] ⟨at_, 28 * 2 + 1⟩) = (true, sc) := by
  rcases e2 with rfl | rfl | rfl | rfl | rfl | rfl <;> kernel_rfl
theorem inn_2_4 {r2 : Int} (e2 : r2 = 0 ∨ r2 = 1 ∨ r2 = 2 ∨ r2 = 3 ∨ r2 = 4 ∨ r2 = 5) (at_ : Nat → Option MO) (sc o1 o2 o4 o5 o6 o7 o8 o9 : Option D) :
    prj (28 * 2 + 28) (bInner [sc, o1, o2, some (objA 4 r2), o4, o5, o6, o7, o8, o9] ⟨at_, 28 * 2 + 1⟩) = (true, sc) := by
  rcases e2 with rfl | rfl | rfl | rfl | rfl | rfl <;> kernel_rfl
theorem inn_3_0 {r2 : Int} (e2 : r2 = 0 ∨ r2 = 1 ∨ r2 = 2 ∨ r2 = 3 ∨ r2 = 4 ∨ r2 = 5) (at_ : Nat → Option MO) (sc o1 o2 o4 o5 o6 o7 o8 o9 : Option D) :
    prj (28 * 3 + 28) (bInner [sc, o1, o2, some (objA 0 r2), o4, o5, o6, o7, o8, o9] ⟨at_, 28 * 3 + 1⟩) = (true, sc) := by
  rcases e2 with rfl | rfl | rfl | rfl | rfl | rfl <;> kernel_rfl
theorem inn_3_1 {r2 : Int} (e2 : r2 = 0 ∨ r2 = 1 ∨ r2 = 2 ∨ r2 = 3 ∨ r2 = 4 ∨ r2 = 5) (at_ : Nat → Option MO) (sc o1 o2 o4 o5 o6 o7 o8 o9 : Option D) :
    prj (28 * 3 + 28) (bInner [sc, o1, o2, some (objA 1 r2), o4, o5, o6, o7, o8, o9] ⟨at_, 28 * 3 + 1⟩) = (true, sc) := by
  rcases e2 with rfl | rfl | rfl | rfl | rfl | rfl <;> kernel_rfl
theorem inn_3_2 {r2 : Int} (e2 : r2 = 0 ∨ r2 = 1 ∨ r2 = 2 ∨ r2 = 3 ∨ r2 = 4 ∨ r2 = 5) (at_ : Nat → Option MO) (sc o1 o2 o4 o5 o6 o7 o8 o9 : Option D) :
    prj (28 * 3 + 28) (bInner [sc, o1, o2, some (objA 2 r2), o4, o5, o6, o7, o8, o9] ⟨at_, 28 * 3 + 1⟩) = (true, sc) := by
  rcases e2 with rfl | rfl | rfl | rfl | rfl | rfl <;> kernel_rfl
theorem inn_3_3 {r2 : Int} (e2 : r2 = 0 ∨ r2 = 1 ∨ r2 = 2 ∨ r2 = 3 ∨ r2 = 4 ∨ r2 = 5) (at_ : Nat → Option MO) (sc o1 o2 o4 o5 o6 o7 o8 o9 : Option D) :
    prj (28 * 3 + 28) (bInner [sc, o1, o2, some (objA 3 r2), o4, o5, o6, o7, o8, o9] ⟨at_, 28 * 3 + 1⟩) = (true, sc) := by
  rcases e2 with rfl | rfl | rfl | rfl | rfl | rfl <;> kernel_rfl
theorem inn_3_4 {r2 : Int} (e2 : r2 = 0 ∨ r2 = 1 ∨ r2 = 2 ∨ r2 = 3 ∨ r2 = 4 ∨ r2 = 5) (at_ : Nat → Option MO) (sc o1 o2 o4 o5 o6 o7 o8 o9 : Option D) :
    prj (28 * 3 + 28) (bInner [sc, o1, o2, some (objA 4 r2), o4, o5, o6, o7, o8, o9] ⟨at_, 28 * 3 + 1⟩) = (true, sc) := by
  rcases e2 with rfl | rfl | rfl | rfl | rfl | rfl <;> kernel_rfl
theorem inn_4_0 {r2 : Int} (e2 : r2 = 0 ∨ r2 = 1 ∨ r2 = 2 ∨ r2 = 3 ∨ r2 = 4 ∨ r2 = 5) (at_ : Nat → Option MO) (sc o1 o2 o4 o5 o6 o7 o8 o9 : Option D) :
    prj (28 * 4 + 28) (bInner [sc, o1, o2, some (objA 0 r2), o4, o5, o6, o7, o8, o9] ⟨at_, 28 * 4 + 1⟩) = (true, sc) := by
  rcases e2 with rfl | rfl | rfl | rfl | rfl | rfl <;> kernel_rfl
theorem inn_4_1 {r2 : Int} (e2 : r2 = 0 ∨ r2 = 1 ∨ r2 = 2 ∨ r2 = 3 ∨ r2 = 4 ∨ r2 = 5) (at_ : Nat → Option MO) (sc o1 o2 o4 o5 o6 o7 o8 o9 : Option D) :
    prj (28 * 4 + 28) (bInner [sc, o1, o2, some (objA 1 r2), o4, o5, o6, o7, o8, o9] ⟨at_, 28 * 4 + 1⟩) = (true, sc) := by
  rcases e2 with rfl | rfl | rfl | rfl | rfl | rfl <;> kernel_rfl
theorem inn_4_2 {r2 : Int} (e2 : r2 = 0 ∨ r2 = 1 ∨ r2 = 2 ∨ r2 = 3 ∨ r2 = 4 ∨ r2 = 5) (at_ : Nat → Option MO) (sc o1 o2 o4 o5 o6 o7 o8 o9 : Option D) :
    prj (28 * 4 + 28) (bInner [sc, o1, o2, some (objA 2 r2), o4, o5, o6, o7, o8, o9] ⟨at_, 28 * 4 + 1⟩) = (true, sc) := by
  rcases e2 with rfl | rfl | rfl | rfl | rfl | rfl <;> kernel_rfl
theorem inn_4_3 {r2 : Int} (e2 : r2 = 0 ∨ r2 = 1 ∨ r2 = 2 ∨ r2 = 3 ∨ r2 = 4 ∨ r2 = 5) (at_ : Nat → Option MO) (sc o1 o2 o4 o5 o6 o7 o8 o9 : Option D) :
    prj (28 * 4 + 28) (bInner [sc, o1, o2, some (objA 3 r2), o4, o5, o6, o7, o8, o9] ⟨at_, 28 * 4 + 1⟩) = (true, sc) := by
  rcases e2 with rfl | rfl | rfl | rfl | rfl | rfl <;> kernel_rfl
theorem inn_4_4 {r2 : Int} (e2 : r2 = 0 ∨ r2 = 1 ∨ r2 = 2 ∨ r2 = 3 ∨ r2 = 4 ∨ r2 = 5) (at_ : Nat → Option MO) (sc o1 o2 o4 o5 o6 o7 o8 o9 : Option D) :
    prj (28 * 4 + 28) (bInner [sc, o1, o2, some (objA 4 r2), o4, o5, o6, o7, o8, o9] ⟨at_, 28 * 4 + 1⟩) = (true, sc) := by
  rcases e2 with rfl | rfl | rfl | rfl | rfl | rfl <;> kernel_rfl
theorem inn_5_0 {r2 : Int} (e2 : r2 = 0 ∨ r2 = 1 ∨ r2 = 2 ∨ r2 = 3 ∨ r2 = 4 ∨ r2 = 5) (at_ : Nat → Option MO) (sc o1 o2 o4 o5 o6 o7 o8 o9 : Option D) :
    prj (28 * 5 + 28) (bInner [sc, o1, o2, some (objA 0 r2), o4, o5, o6, o7, o8, o9] ⟨at_, 28 * 5 + 1⟩) = (true, sc) := by
  rcases e2 with rfl | rfl | rfl | rfl | rfl | rfl <;> kernel_rfl
theorem inn_5_1 {r2 : Int} (e2 : r2 = 0 ∨ r2 = 1 ∨ r2 = 2 ∨ r2 = 3 ∨ r2 = 4 ∨ r2 = 5) (at_ : Nat → Option MO) (sc o1 o2 o4 o5 o6 o7 o8 o9 : Option D) :
    prj (28 * 5 + 28) (bInner [sc, o1, o2, some (objA 1 r2), o4, o5, o6, o7, o8, o9] ⟨at_, 28 * 5 + 1⟩) = (true, sc) := by
  rcases e2 with rfl | rfl | rfl | rfl | rfl | rfl <;> kernel_rfl
theorem inn_5_2 {r2 : Int} (e2 : r2 = 0 ∨ r2 = 1 ∨ r2 = 2 ∨ r2 = 3 ∨ r2 = 4 ∨ r2 = 5) (at_ : Nat → Option MO) (sc o1 o2 o4 o5 o6 o7 o8 o9 : Option D) :
    prj (28 * 5 + 28) (bInner [sc, o1, o2, some (objA 2 r2), o4, o5, o6, o7, o8, o9] ⟨at_, 28 * 5 + 1⟩) = (true, sc) := by
  rcases e2 with rfl | rfl | rfl | rfl | rfl | rfl <;> kernel_rfl
theorem inn_5_3 {r2 : Int} (e2 : r2 = 0 ∨ r2 = 1 ∨ r2 = 2 ∨ r2 = 3 ∨ r2 = 4 ∨ r2 = 5) (at_ : Nat → Option MO) (sc o1 o2 o4 o5 o6 o7 o8 o9 : Option D) :
    prj (28 * 5 + 28) (bInner [sc, o1, o2, some (objA 3 r2), o4, o5, o6, o7, o8, o9] ⟨at_, 28 * 5 + 1⟩) = (true, sc) := by
  rcases e2 with rfl | rfl | rfl | rfl | rfl | rfl <;> kernel_rfl
theorem inn_5_4 {r2 : Int} (e2 : r2 = 0 ∨ r2 = 1 ∨ r2 = 2 ∨ r2 = 3 ∨ r2 = 4 ∨ r2 = 5) (at_ : Nat → Option MO) (sc o1 o2 o4 o5 o6 o7 o8 o9 : Option D) :
    prj (28 * 5 + 28) (bInner [sc, o1, o2, some (objA 4 r2), o4, o5, o6, o7, o8, o9] ⟨at_, 28 * 5 + 1⟩) = (true, sc) := by
  rcases e2 with rfl | rfl | rfl | rfl | rfl | rfl <;> kernel_rfl
theorem inner_ok {k : Nat} (hk : k < 6) {r r2 : Int} (h1 : 0 ≤ r) (h2 : r < 5) (h3 : 0 ≤ r2) (h4 : r2 < 6) (at_ : Nat → Option MO) (sc o1 o2 o4 o5 o6 o7 o8 o9 : Option D) :
    prj (28 * k + 28) (bInner [sc, o1, o2, some (objA r r2), o4, o5, o6, o7, o8, o9] ⟨at_, 28 * k + 1⟩) = (true, sc) := by
  have e1 : r = 0 ∨ r = 1 ∨ r = 2 ∨ r = 3 ∨ r = 4 := by omega
  have e2 : r2 = 0 ∨ r2 = 1 ∨ r2 = 2 ∨ r2 = 3 ∨ r2 = 4 ∨ r2 = 5 := by omega
  have e3 : k = 0 ∨ k = 1 ∨ k = 2 ∨ k = 3 ∨ k = 4 ∨ k = 5 := by omega
  clear h1 h2 h3 h4 hk
  rcases e3 with rfl | rfl | rfl | rfl | rfl | rfl <;> rcases e1 with rfl | rfl | rfl | rfl | rfl
  · exact inn_0_0 e2 at_ sc o1 o2 o4 o5 o6 o7 o8 o9
  · exact inn_0_1 e2 at_ sc o1 o2 o4 o5 o6 o7 o8 o9
  · exact inn_0_2 e2 at_ sc o1 o2 o4 o5 o6 o7 o8 o9
  · exact inn_0_3 e2 at_ sc o1 o2 o4 o5 o6 o7 o8 o9
  · exact inn_0_4 e2 at_ sc o1 o2 o4 o5 o6 o7 o8 o9
  · exact inn_1_0 e2 at_ sc o1 o2 o4 o5 o6 o7 o8 o9
  · exact inn_1_1 e2 at_ sc o1 o2 o4 o5 o6 o7 o8 o9
  · exact inn_1_2 e2 at_ sc o1 o2 o4 o5 o6 o7 o8 o9
  · exact inn_1_3 e2 at_ sc o1 o2 o4 o5 o6 o7 o8 o9
  · exact inn_1_4 e2 at_ sc o1 o2 o4 o5 o6 o7 o8 o9
  · exact inn_2_0 e2 at_ sc o1 o2 o4 o5 o6 o7 o8 o9
  · exact inn_2_1 e2 at_ sc o1 o2 o4 o5 o6 o7 o8 o9
  · exact inn_2_2 e2 at_ sc o1 o2 o4 o5 o6 o7 o8 o9
  · exact inn_2_3 e2 at_ sc o1 o2 o4 o5 o6 o7 o8 o9
  · exact inn_2_4 e2 at_ sc o1 o2 o4 o5 o6 o7 o8 o9
  · exact inn_3_0 e2 at_ sc o1 o2 o4 o5 o6 o7 o8 o9
  · exact inn_3_1 e2 at_ sc o1 o2 o4 o5 o6 o7 o8 o9
  · exact inn_3_2 e2 at_ sc o1 o2 o4 o5 o6 o7 o8 o9
  · exact inn_3_3 e2 at_ sc o1 o2 o4 o5 o6 o7 o8 o9
  · exact inn_3_4 e2 at_ sc o1 o2 o4 o5 o6 o7 o8 o9
  · exact inn_4_0 e2 at_ sc o1 o2 o4 o5 o6 o7 o8 o9
  · exact inn_4_1 e2 at_ sc o1 o2 o4 o5 o6 o7 o8 o9
  · exact inn_4_2 e2 at_ sc o1 o2 o4 o5 o6 o7 o8 o9
  · exact inn_4_3 e2 at_ sc o1 o2 o4 o5 o6 o7 o8 o9
  · exact inn_4_4 e2 at_ sc o1 o2 o4 o5 o6 o7 o8 o9
  · exact inn_5_0 e2 at_ sc o1 o2 o4 o5 o6 o7 o8 o9
  · exact inn_5_1 e2 at_ sc o1 o2 o4 o5 o6 o7 o8 o9
  · exact inn_5_2 e2 at_ sc o1 o2 o4 o5 o6 o7 o8 o9
  · exact inn_5_3 e2 at_ sc o1 o2 o4 o5 o6 o7 o8 o9
  · exact inn_5_4 e2 at_ sc o1 o2 o4 o5 o6 o7 o8 o9
def okT (o : Out Fl) : Bool := match o with
  | .ok (.rt (.bl b)) _ => b
  | _ => false
theorem okT_ok {o : Out Fl} (h : okT o = true) : ∃ m, o = .ok (.rt (.bl true)) m := by
  unfold okT at h
  split at h
  · rename_i b m
    subst h
    exact ⟨m, rfl⟩
  · cases h
theorem tail_ok {K : Nat} (h1 : 2 ≤ K) (h2 : K ≤ 6) (at_ : Nat → Option MO) (o0 o1 o2 o3 o4 o5 o6 o7 o8 o9 : Option D) : okT (bTail [o0, o1, o2, o3, o4, o5, o6, o7, o8, o9] ⟨at_, 28 * K⟩) = true := by
  have e3 : K = 2 ∨ K = 3 ∨ K = 4 ∨ K = 5 ∨ K = 6 := by omega
  clear h1 h2
  rcases e3 with rfl | rfl | rfl | rfl | rfl <;> kernel_rfl
end K01

set_option Elab.async false
set_option linter.all false
set_option maxRecDepth 100000
set_option maxHeartbeats 1000000
namespace K01
open PySem PySem.Spec PyProof.Rows L2 Tw
theorem bnd_ok' {α β : Type} (a : α) (m : Mem) (f : α → M β) : (Out.ok a m).bnd f = f a m := rfl
theorem src_ok (ns : List Int) (i : Nat) (m : Mem) : ∃ a b : Int, m_law_source [.scr (ns.map .int), .int i] m = .ok (.ref m.nxt) (m.add (.lst [.int a, .int b, .int 0])) := by
  have key : ∃ c : Int, (mIf (mTst (mBin dLt (mVar 1) (mB dLen (mCons (mVar 0) mNil)))) (mBin dIx (mVar 0) (mVar 1)) (mBin dAdd (mBin dMul (mC (.int 7)) (mVar 1)) (mC (.int 5)))) [some (.scr (ns.map .int)), some (.int i), none] m = .ok (.int c) m := by
    have hl : dLen [.scr (ns.map .int)] m = .ok (.int (ns.map D.int).length) m := rfl
    by_cases h : i < ns.length
    · refine ⟨ns[i], ?_⟩
      have hx : L2.atI (ns.map D.int) (i : Int) = some (.int ns[i]) := by
        unfold L2.atI ixN
        rw [if_pos (by omega), if_pos (by rw [List.length_map]; omega)]
        simp [h]
      have hi : dIx (.scr (ns.map .int)) (.int i) m = .ok (.int ns[i]) m := by
        show mOpt (L2.atI (ns.map D.int) (i : Int)) m = _
        rw [hx] <;> rfl
      have hlt : (i : Int) < ((ns.map D.int).length : Int) := by rw [List.length_map]; omega
      simp only [mIf, mTst, mBin, mVar, mB, mCons, mNil, M_bind, M_pure, bnd_ok, List.getElem?_cons_zero, List.getElem?_cons_succ, hl, dLt, dII, mOpt, decide_eq_true hlt, if_true, hi]
    · refine ⟨7 * i + 5, ?_⟩
      have hlt : ¬ (i : Int) < ((ns.map D.int).length : Int) := by rw [List.length_map]; omega
      have k : CMul 7 (i : Int) := .inl ⟨by decide, by decide⟩
      simp only [mIf, mTst, mBin, mVar, mB, mCons, mNil, mC, M_bind, M_pure, bnd_ok, List.getElem?_cons_zero, List.getElem?_cons_succ, hl, dLt, dII, mOpt, decide_eq_false hlt, Bool.false_eq_true, if_false, dMul, dAdd, if_pos k]
  obtain ⟨c, hc⟩ := key
  have kp : CPow 10 18 := ⟨by decide, by decide, by decide⟩
  have kz : ¬ (2147483647 : Int) = 0 := by decide
  have hnew : ∀ x y z : D, dNewL [x, y, z] m = .ok (.ref m.nxt) (m.add (.lst [x, y, z])) := fun x y z => rfl
  by_cases hb : (10 : Int) ^ (18 : Int).toNat ≤ c
  · refine ⟨c, c.fmod 2147483647, ?_⟩
    show (b_law_source_ ([some (.scr (ns.map .int)), some (.int i)] ++ [none]) m).bnd _ = _
    unfold b_law_source_
    simp only [sSeq, sSet, M_bind, List.cons_append, List.nil_append]
    rw [hc]
    simp only [M_bind, M_pure, bnd_ok, List.set_cons_zero, List.set_cons_succ, sRet, mLstL, mCons, mNil, mIf, mTst, mBin, mVar, mB, mC, List.getElem?_cons_zero, List.getElem?_cons_succ, dGe, dPow, dMod, dII, mOpt, if_pos kp, decide_eq_true hb, if_true, dInt1, ne_eq, kz, not_false_eq_true, hnew]
  · refine ⟨0, c.fmod 2147483647, ?_⟩
    show (b_law_source_ ([some (.scr (ns.map .int)), some (.int i)] ++ [none]) m).bnd _ = _
    unfold b_law_source_
    simp only [sSeq, sSet, M_bind, List.cons_append, List.nil_append]
    rw [hc]
    simp only [M_bind, M_pure, bnd_ok, List.set_cons_zero, List.set_cons_succ, sRet, mLstL, mCons, mNil, mIf, mTst, mBin, mVar, mB, mC, List.getElem?_cons_zero, List.getElem?_cons_succ, dGe, dPow, dMod, dII, mOpt, if_pos kp, decide_eq_false hb, Bool.false_eq_true, if_false, if_true, dInt1, ne_eq, kz, not_false_eq_true, hnew]
end K01

set_option Elab.async false
set_option linter.all false
set_option maxRecDepth 100000
set_option maxHeartbeats 1000000
namespace K01
open PySem PySem.Spec PyProof.Rows L2 Tw
theorem obj_ok (m : Mem) (n : Nat) (a b c : Int) (h : m.at_ n = some (.lst [.int a, .int b, .int c])) :
    ∃ r r2 m', 0 ≤ r ∧ r < 5 ∧ 0 ≤ r2 ∧ r2 < 6 ∧ m_law_object [.ref n] m = .ok (objA r r2) m' ∧ m'.nxt = m.nxt := by
  obtain ⟨r, m1, a1, b1, c1, h1, h2, e1, n1, t1⟩ := draw_ok m n a b c 5 h (by decide) (by decide)
  obtain ⟨r2, m2, a2, b2, c2, h3, h4, e2, n2, t2⟩ := draw_ok m1 n a1 b1 c1 6 t1 (by decide) (by decide)
  refine ⟨r, r2, m2, h1, h2, h3, h4, ?_, by rw [n2, n1]⟩
  have kp : CPow 10 11 := ⟨by decide, by decide, by decide⟩
  have p11 : (10 : Int) ^ (11 : Int).toNat = 100000000000 := by decide
  have ht : ∀ (x y : D) (m : Mem), dTup [x, y] m = .ok (.tup [x, y]) m := fun x y m => rfl
  have hl : ∀ (x y z u v t : D) (m : Mem), dLst [x, y, z, u, v, t] m = .ok (.lst [x, y, z, u, v, t]) m := fun x y z u v t m => rfl
  have hix : dIx (.lst (objF r)) (.int r2) m2 = .ok (objA r r2) m2 := by
    show mOpt (L2.atI (objF r) r2) m2 = _
    have e2 : r2 = 0 ∨ r2 = 1 ∨ r2 = 2 ∨ r2 = 3 ∨ r2 = 4 ∨ r2 = 5 := by omega
    rcases e2 with rfl | rfl | rfl | rfl | rfl | rfl <;> rfl
  have c5 : mF 2 m_law_draw [.ref n, .int 5] m = .ok (.int r) m1 := e1
  have c6 : mF 2 m_law_draw [.ref n, .int 6] m1 = .ok (.int r2) m2 := e2
  show (b_law_object_ ([some (.ref n)] ++ [none]) m).bnd _ = _
  unfold b_law_object_ sSeq sSet
  simp only [M_bind, M_pure, List.cons_append, List.nil_append, mCall, mCons, mNil, mVar, mC, List.getElem?_cons_zero, List.getElem?_cons_succ, bnd_ok, List.append_nil, c5, List.set_cons_zero, List.set_cons_succ, sRet, mBin, mLst, mTup, dPow, dSub, dII, mOpt, if_pos kp, p11, ht, hl, c6]
  unfold objF at hix
  rw [hix]
  rfl

/-- a loop with an invariant -/
theorem forS_inv {t : D → Tw.Loc → M Tw.Loc} {b : Tw.Loc → M Fl} {xs : List D} {rd : Rd_} (hrd : ∀ m, rd m = some xs) (Inv : Nat → Tw.Loc → Mem → Prop)
    (step : ∀ i d l m, xs[i]? = some d → Inv i l m → ∃ l1 l2 m2, t d l m = .ok l1 m ∧ b l1 m = .ok (.nx l2) m2 ∧ Inv (i + 1) l2 m2) : ∀ (j i : Nat) (l : Tw.Loc) (m : Mem), i + j = xs.length → Inv i l m → ∃ l' m', forS rd t b (j + 1) i l m = .ok (.nx l') m' ∧ Inv xs.length l' m'
  | 0, i, l, m, e, h => by
    have hi : xs[i]? = none := List.getElem?_eq_none (by omega)
    refine ⟨l, m, ?_, by rw [← e]; exact h⟩
    unfold forS
    simp only [hrd, hi]
  | j + 1, i, l, m, e, h => by
    have hlt : i < xs.length := by omega
    obtain ⟨l1, l2, m2, h1, h2, h3⟩ := step i xs[i] l m (List.getElem?_eq_getElem hlt) h
    obtain ⟨l', m', q1, q2⟩ := forS_inv hrd Inv step j (i + 1) l2 m2 (by omega) h3
    refine ⟨l', m', ?_, q2⟩
    unfold forS
    simp only [hrd, List.getElem?_eq_getElem hlt, h1]
    show ((b l1 m).bnd _) = _
    rw [h2]
    exact q1
end K01

set_option Elab.async false
set_option linter.all false
set_option maxRecDepth 100000
set_option maxHeartbeats 400000
namespace K01
open PySem PySem.Spec PyProof.Rows L2 Tw
theorem kK (ns : List Int) : ∃ K : Nat, (2 + (if (4 : Int) < (ns.length : Int) then 4 else (ns.length : Int)) = (K : Int)) ∧ 2 ≤ K ∧ K ≤ 6 := by
  by_cases h : (4 : Int) < (ns.length : Int)
  · exact ⟨6, by rw [if_pos h] <;> rfl, by omega, by omega⟩
  · exact ⟨2 + ns.length, by rw [if_neg h]; omega, by omega, by omega⟩
theorem k62 (K : Nat) (h : K ≤ 6) : -(2 ^ 62) ≤ (K : Int) ∧ (K : Int) < 2 ^ 62 := by
  have e : (2 : Int) ^ 62 = 4611686018427387904 := by decide
  rw [e]
  omega
theorem rng_ok (K : Nat) (h : K ≤ 6) (m : Mem) : dRng1 [.int (K : Int)] m = .ok (fun _ => some (rgL 0 K)) m := by
  have e := k62 K h
  have key : ∀ xs : List D, xs = [.int (K : Int)] → dRng1 xs m = .ok (fun _ => some (rgL 0 K)) m := by
    intro xs hx
    unfold dRng1
    split
    · rename_i j
      injection hx with h1 _
      injection h1 with h1
      subst h1
      rw [if_pos e, M_pure, Int.toNat_natCast]
    · rename_i hne
      exact absurd hx (hne _)
  exact key _ rfl
theorem hr_ok (ns : List Int) (K : Nat) (hK : 2 + (if (4 : Int) < (ns.length : Int) then 4 else (ns.length : Int)) = (K : Int)) (h : K ≤ 6) (m : Mem) (l : Tw.Loc) :
    (mRng1 (mCons (mBin dAdd (mC (.int 2)) (mB dMin2 (mCons (mB dLen (mCons (mVar 0) mNil)) (mCons (mC (.int 4)) mNil)))) mNil)) (some (.scr (ns.map .int)) :: l) m = .ok (fun _ => some (rgL 0 K)) m := by
  have hlen : dLen [.scr (ns.map .int)] m = .ok (.int (ns.map D.int).length) m := rfl
  have hm : ∀ i : Int, dMin2 [.int i, .int 4] m = .ok (.int (if 4 < i then 4 else i)) m := fun i => rfl
  have ha : ∀ i : Int, dAdd (.int 2) (.int i) m = .ok (.int (2 + i)) m := fun i => rfl
  unfold mRng1
  simp only [mCons, mNil, mBin, mC, mB, mVar, M_bind, M_pure, bnd_ok, List.getElem?_cons_zero, hlen, hm, ha]
  rw [List.length_map, hK, rng_ok K h]

def InvL (sc : Option D) (i : Nat) (l : Tw.Loc) (m : Mem) : Prop := ∃ o, l = sc :: o ∧ o.length = 9 ∧ m.nxt = 28 * i
abbrev bTurn : Tw.Loc → M Fl := sSeq (sSet 2 (mCall 2 (m_law_source) [] (mCons (mVar 0) (mCons (mVar 1) mNil)))) (sSeq (sSet 3 (mCall 1 (m_law_object) [] (mCons (mVar 2) mNil))) bInner)
theorem turn_ok (ns : List Int) (i : Nat) (hi : i < 6) (l : Tw.Loc) (m : Mem) (h : InvL (some (.scr (ns.map .int))) i l m) :
    ∃ l1 l2 m2, tgN 1 (.int (i : Nat)) l m = .ok l1 m ∧ bTurn l1 m = .ok (.nx l2) m2 ∧ InvL (some (.scr (ns.map .int))) (i + 1) l2 m2 := by
  obtain ⟨o, rfl, e2, e3⟩ := h
  match o, e2 with
  | [o1, o2, o3, o4, o5, o6, o7, o8, o9], _ =>
    obtain ⟨a, b, hs⟩ := src_ok ns i m
    have hat : (m.add (.lst [.int a, .int b, .int 0])).at_ m.nxt = some (.lst [.int a, .int b, .int 0]) := if_pos rfl
    obtain ⟨r, r2, m1, k1, k2, k3, k4, ho, n1⟩ := obj_ok (m.add (.lst [.int a, .int b, .int 0])) m.nxt a b 0 hat
    have n1 : m1.nxt = 28 * i + 1 := by rw [n1]; show m.nxt + 1 = _; rw [e3]
    have em : m1 = ⟨m1.at_, 28 * i + 1⟩ := by rw [← n1]
    obtain ⟨ro, m2, q1, q2, q3⟩ := prj_ok (inner_ok (k := i) hi k1 k2 k3 k4 m1.at_ (some (.scr (ns.map .int))) (some (.int i)) (some (.ref m.nxt)) o4 o5 o6 o7 o8 o9)
    have hs' : mF 2 m_law_source [.scr (ns.map .int), .int i] m = .ok (.ref m.nxt) (m.add (.lst [.int a, .int b, .int 0])) := hs
    have ho' : mF 1 m_law_object [.ref m.nxt] (m.add (.lst [.int a, .int b, .int 0])) = .ok (objA r r2) m1 := ho
    refine ⟨[some (.scr (ns.map .int)), some (.int i), o2, o3, o4, o5, o6, o7, o8, o9], _, m2, rfl, ?_, ro, rfl, q3, by rw [q2]; omega⟩
    unfold bTurn
    generalize bInner = bi at q1 ⊢
    simp only [sSeq, sSet, mCall, mCons, mNil, mVar, M_bind, M_pure, bnd_ok, List.getElem?_cons_zero, List.getElem?_cons_succ, List.append_nil, hs', List.set_cons_zero, List.set_cons_succ, ho']
    rw [em]
    exact q1
end K01

set_option Elab.async false
set_option linter.all false
set_option maxRecDepth 100000
set_option maxHeartbeats 400000
namespace K01
open PySem PySem.Spec PyProof.Rows L2 Tw
theorem loop_ok (ns : List Int) (K : Nat) (h6 : K ≤ 6) (l : Tw.Loc) (m : Mem) (h : InvL (some (.scr (ns.map .int))) 0 l m) :
    ∃ l' m', forS (fun _ => some (rgL 0 K)) (tgN 1) bTurn ((rgL 0 K).length + 1) 0 l m = .ok (.nx l') m' ∧ InvL (some (.scr (ns.map .int))) K l' m' := by
  have hK' : (rgL 0 K).length = K := by unfold rgL; simp
  have step : ∀ i d l m, (rgL 0 K)[i]? = some d → InvL (some (.scr (ns.map .int))) i l m → ∃ l1 l2 m2, tgN 1 d l m = .ok l1 m ∧ bTurn l1 m = .ok (.nx l2) m2 ∧ InvL (some (.scr (ns.map .int))) (i + 1) l2 m2 := fun i d l m hd hI => by
    have hi : i < K := by rw [← hK']; exact (List.getElem?_eq_some_iff.mp hd).1
    have ed : d = .int (i : Nat) := by
      unfold rgL at hd
      simp [List.getElem?_map, List.getElem?_range hi] at hd
      exact hd.symm
    subst ed
    exact turn_ok ns i (by omega) l m hI
  obtain ⟨l', m', q1, q2⟩ := forS_inv (fun _ => rfl) (InvL (some (.scr (ns.map .int)))) step (rgL 0 K).length 0 l m (by omega) h
  exact ⟨l', m', q1, by rw [hK'] at q2; exact q2⟩
theorem law_ok (ns : List Int) (at_ : Nat → Option MO) : ∃ m', mlaw [.scr (ns.map .int)] ⟨at_, 0⟩ = .ok (.bl true) m' := by
  obtain ⟨K, hK, h2, h6⟩ := kK ns
  have hr := hr_ok ns K hK h6 ⟨at_, 0⟩ (List.replicate 9 none)
  obtain ⟨l', m', q1, o, rfl, q3, q4⟩ := loop_ok ns K h6 (some (.scr (ns.map .int)) :: List.replicate 9 none) ⟨at_, 0⟩ ⟨_, rfl, rfl, rfl⟩
  match o, q3 with
  | [o1, o2, o3, o4, o5, o6, o7, o8, o9], _ =>
    have em : m' = ⟨m'.at_, 28 * K⟩ := by rw [← q4]
    obtain ⟨m2, t1⟩ := okT_ok (tail_ok h2 h6 m'.at_ (some (.scr (ns.map .int))) o1 o2 o3 o4 o5 o6 o7 o8 o9)
    rw [← em] at t1
    refine ⟨m2, ?_⟩
    have e0 : mlaw [.scr (ns.map .int)] ⟨at_, 0⟩ = (blaw_ (some (.scr (ns.map .int)) :: List.replicate 9 none) ⟨at_, 0⟩).bnd (fun f => match f with
      | .rt d => pure d
      | .nx _ => pure .non
      | _ => bad) := rfl
    have e1 : blaw_ = sSeq (sFor (mRng1 (mCons (mBin dAdd (mC (.int 2)) (mB dMin2 (mCons (mB dLen (mCons (mVar 0) mNil)) (mCons (mC (.int 4)) mNil)))) mNil)) (tgN 1) bTurn) bTail := rfl
    have e2 : sFor (mRng1 (mCons (mBin dAdd (mC (.int 2)) (mB dMin2 (mCons (mB dLen (mCons (mVar 0) mNil)) (mCons (mC (.int 4)) mNil)))) mNil)) (tgN 1) bTurn (some (.scr (ns.map .int)) :: List.replicate 9 none) ⟨at_, 0⟩ = .ok (.nx [some (.scr (ns.map .int)), o1, o2, o3, o4, o5, o6, o7, o8, o9]) m' := by
      generalize bTurn = bt at q1 ⊢
      unfold sFor
      refine (M_bind _ _ _).trans ?_
      rw [hr]
      exact q1
    rw [e0, e1]
    generalize bTail = bl at t1 ⊢
    have e3 : ∀ (a b : Tw.Loc → M Fl) (l : Tw.Loc) (m : Mem) l1 m1, a l m = .ok (.nx l1) m1 → sSeq a b l m = b l1 m1 := fun a b l m l1 m1 h => by
      show (a l m).bnd _ = _
      rw [h]
      rfl
    rw [e3 _ _ _ _ _ _ e2, t1]
    rfl
end K01

set_option Elab.async false
set_option linter.all false
set_option maxRecDepth 100000
set_option maxHeartbeats 0
namespace K01
open PySem PySem.Spec PyProof.Rows L2 Tw NdefX
def dd_law_source : He.DefD := ⟨(("_law_source" : Str), none), ("_law_source" : Str), ("_law_source" : Str), defArgs s_law_source, defBody s_law_source, defScope s_law_source, [], []⟩
def dd_law_draw : He.DefD := ⟨(("_law_draw" : Str), none), ("_law_draw" : Str), ("_law_draw" : Str), defArgs s_law_draw, defBody s_law_draw, defScope s_law_draw, [], []⟩
def dd_law_same : He.DefD := ⟨(("_law_same" : Str), none), ("_law_same" : Str), ("_law_same" : Str), defArgs s_law_same, defBody s_law_same, defScope s_law_same, [], []⟩
def dd_law_object : He.DefD := ⟨(("_law_object" : Str), none), ("_law_object" : Str), ("_law_object" : Str), defArgs s_law_object, defBody s_law_object, defScope s_law_object, [], []⟩
def dd_law_kinds : He.DefD := ⟨(("_law_kinds" : Str), none), ("_law_kinds" : Str), ("_law_kinds" : Str), defArgs s_law_kinds, defBody s_law_kinds, defScope s_law_kinds, [], []⟩
def dd_law_pairs : He.DefD := ⟨(("_law_pairs" : Str), none), ("_law_pairs" : Str), ("_law_pairs" : Str), defArgs s_law_pairs, defBody s_law_pairs, defScope s_law_pairs, [], []⟩
def ddlaw : He.DefD := ⟨(("law" : Str), none), ("law" : Str), ("law" : Str), defArgs slaw, defBody slaw, defScope slaw, [], []⟩
def fn : List He.DefD := [dd_law_source, dd_law_draw, dd_law_same, dd_law_object, dd_law_kinds, dd_law_pairs, ddlaw]
def tf : List He.Defn := [(("_law_pairs" : Str), none)]
def TK (K : PySem.W.Frag) : Gw := ⟨fun i => He.ga K (cn.getD i ""), [((He.cT K (("_law_pairs" : Str), none)).2, ((("_law_pairs" : Str) ++ ".<locals>.") ++ "<lambda>"))], lamW⟩
def fnn : List Str := [("_law_source" : Str), ("_law_draw" : Str), ("_law_same" : Str), ("_law_object" : Str), ("_law_kinds" : Str), ("_law_pairs" : Str), ("law" : Str)]
def fileW : Str := PR.main.file
def sups (K : PySem.W.Frag) : Bool := supB fileW K (He.ga K ("BadWorks" : Str)) ("count" : Str) ("count" : Str) && supB fileW K (He.ga K ("BadName" : Str)) ("name" : Str) ("name" : Str) && supB fileW K (He.ga K ("BadValue" : Str)) ("value" : Str) ("value" : Str) && supB fileW K (He.ga K ("BadSize" : Str)) ("size" : Str) ("size" : Str) && supB fileW K (He.ga K ("BadLimit" : Str)) ("limit" : Str) ("limit" : Str) && supB fileW K (He.ga K ("NoThing" : Str)) ("name" : Str) ("name" : Str) && supB fileW K (He.ga K ("NotHeld" : Str)) ("lock" : Str) ("lock" : Str) && supB fileW K (He.ga K ("NoWork" : Str)) ("number" : Str) ("number" : Str) && supB fileW K (He.ga K ("CanNot" : Str)) ("number" : Str) ("number" : Str) && supB fileW K (He.ga K ("NoStep" : Str)) ("step" : Str) ("step" : Str) && supB fileW K (He.ga K ("NoMoment" : Str)) ("moment" : Str) ("moment" : Str) && supB fileW K (He.ga K ("BadStretch" : Str)) ("stretch" : Str) ("stretch" : Str) && supB fileW K (He.ga K ("NotTruth" : Str)) ("value" : Str) ("value" : Str)
def mk0s (K : PySem.W.Frag) : Bool := mk0B true K (He.ga K ("TurnError" : Str)) && mk0B false K (He.ga K ("Held" : Str)) && mk0B true K (He.ga K ("Beyond" : Str))
def excs (K : PySem.W.Frag) : Bool := (List.range 16).all fun C => excB K ((TK K).T C)
def flcount (K : PySem.W.Frag) : Bool := (List.range 16).all fun C => !fEcount C || (xfB K ((TK K).T C) && He.eqO (PySem.W.findIn K (.ref ((TK K).T C)) ("count" : Str)) (some none))
def fllimit (K : PySem.W.Frag) : Bool := (List.range 16).all fun C => !fElimit C || (xfB K ((TK K).T C) && He.eqO (PySem.W.findIn K (.ref ((TK K).T C)) ("limit" : Str)) (some none))
def fllock (K : PySem.W.Frag) : Bool := (List.range 16).all fun C => !fElock C || (xfB K ((TK K).T C) && He.eqO (PySem.W.findIn K (.ref ((TK K).T C)) ("lock" : Str)) (some none))
def flmoment (K : PySem.W.Frag) : Bool := (List.range 16).all fun C => !fEmoment C || (xfB K ((TK K).T C) && He.eqO (PySem.W.findIn K (.ref ((TK K).T C)) ("moment" : Str)) (some none))
def flname (K : PySem.W.Frag) : Bool := (List.range 16).all fun C => !fEname C || (xfB K ((TK K).T C) && He.eqO (PySem.W.findIn K (.ref ((TK K).T C)) ("name" : Str)) (some none))
def flnumber (K : PySem.W.Frag) : Bool := (List.range 16).all fun C => !fEnumber C || (xfB K ((TK K).T C) && He.eqO (PySem.W.findIn K (.ref ((TK K).T C)) ("number" : Str)) (some none))
def flsize (K : PySem.W.Frag) : Bool := (List.range 16).all fun C => !fEsize C || (xfB K ((TK K).T C) && He.eqO (PySem.W.findIn K (.ref ((TK K).T C)) ("size" : Str)) (some none))
def flstep (K : PySem.W.Frag) : Bool := (List.range 16).all fun C => !fEstep C || (xfB K ((TK K).T C) && He.eqO (PySem.W.findIn K (.ref ((TK K).T C)) ("step" : Str)) (some none))
def flstretch (K : PySem.W.Frag) : Bool := (List.range 16).all fun C => !fEstretch C || (xfB K ((TK K).T C) && He.eqO (PySem.W.findIn K (.ref ((TK K).T C)) ("stretch" : Str)) (some none))
def flvalue (K : PySem.W.Frag) : Bool := (List.range 16).all fun C => !fEvalue C || (xfB K ((TK K).T C) && He.eqO (PySem.W.findIn K (.ref ((TK K).T C)) ("value" : Str)) (some none))
def ex1 (K : PySem.W.Frag) : Bool := (bnm.all fun x => (He.Fa.free x).ok K) && ((cn.all fun x => (He.Fa.glo x).ok K) && ((fnn.all fun x => (He.Fa.glo x).ok K) && (supG K && (tbB ⟨K, TK K⟩ isTb && excs K))))
def ex2 (K : PySem.W.Frag) : Bool := flcount K && fllimit K && fllock K && flmoment K && flname K && flnumber K && flsize K && flstep K && flstretch K && flvalue K
def exK (K : PySem.W.Frag) : Bool := ex1 K && (ex2 K && (sups K && mk0s K))
abbrev R : PySem.W.OpenRow := PySem.W.OpenLaw.row PySem.Challenge.rw_turnways_k01_errors_made
abbrev hk : PySem.W.Hook := hookH 5 fn tf exK
def ob (s : PySem.W.SharedT) : AlH := obsH 5 fn tf exK (HandSHeadRun.getT s)
theorem ob_eq (s : PySem.W.SharedT) : ob s = hk.obs s.abs := obsH_eq (HandSHeadRun.getT_eq s)
def loose : List Str := [("TurnError" : Str), ("Held" : Str), ("BadWorks" : Str), ("BadName" : Str), ("BadValue" : Str), ("BadSize" : Str), ("BadLimit" : Str), ("NoThing" : Str), ("NotHeld" : Str), ("NoWork" : Str), ("CanNot" : Str), ("NoStep" : Str), ("NoMoment" : Str), ("BadStretch" : Str), ("NotTruth" : Str), ("Beyond" : Str), ("_law_source" : Str), ("_law_draw" : Str), ("_law_same" : Str), ("_law_object" : Str), ("_law_kinds" : Str), ("_law_pairs" : Str)]
end K01

set_option Elab.async false
set_option linter.all false
set_option maxRecDepth 100000
set_option maxHeartbeats 4000000
namespace K01
open PySem PySem.Spec PyProof.Rows L2 Tw NdefX
open He (ba)
section
variable {w : World} {K : PySem.W.Frag} {mg : Str → Option Value} {base h : Heap}
theorem all_ok {p : Str → Bool} {l : List Str} (h : l.all p = true) {x : Str} (hx : x ∈ l) : p x = true := List.all_eq_true.mp h x hx
theorem rng_all {p : Nat → Bool} {n : Nat} (h : (List.range n).all p = true) {i : Nat} (hi : i < n) : p i = true := List.all_eq_true.mp h i (List.mem_range.mpr hi)
theorem ltcount {C : Nat} (h : fEcount C = true) : C < 16 := by
  unfold fEcount at h
  simp only [Bool.or_eq_true, beq_iff_eq] at h
  omega
theorem ltlimit {C : Nat} (h : fElimit C = true) : C < 16 := by
  unfold fElimit at h
  simp only [Bool.or_eq_true, beq_iff_eq] at h
  omega
theorem ltlock {C : Nat} (h : fElock C = true) : C < 16 := by
  unfold fElock at h
  simp only [Bool.or_eq_true, beq_iff_eq] at h
  omega
theorem ltmoment {C : Nat} (h : fEmoment C = true) : C < 16 := by
  unfold fEmoment at h
  simp only [Bool.or_eq_true, beq_iff_eq] at h
  omega
theorem ltname {C : Nat} (h : fEname C = true) : C < 16 := by
  unfold fEname at h
  simp only [Bool.or_eq_true, beq_iff_eq] at h
  omega
theorem ltnumber {C : Nat} (h : fEnumber C = true) : C < 16 := by
  unfold fEnumber at h
  simp only [Bool.or_eq_true, beq_iff_eq] at h
  omega
theorem ltsize {C : Nat} (h : fEsize C = true) : C < 16 := by
  unfold fEsize at h
  simp only [Bool.or_eq_true, beq_iff_eq] at h
  omega
theorem ltstep {C : Nat} (h : fEstep C = true) : C < 16 := by
  unfold fEstep at h
  simp only [Bool.or_eq_true, beq_iff_eq] at h
  omega
theorem ltstretch {C : Nat} (h : fEstretch C = true) : C < 16 := by
  unfold fEstretch at h
  simp only [Bool.or_eq_true, beq_iff_eq] at h
  omega
theorem ltvalue {C : Nat} (h : fEvalue C = true) : C < 16 := by
  unfold fEvalue at h
  simp only [Bool.or_eq_true, beq_iff_eq] at h
  omega
theorem en_ok (X : K.In h) (G : h.Ns mainGlobals mg) (hx : exK K = true) : En w K mg base (TK K) := by
  obtain ⟨h1, h2⟩ := ba hx
  obtain ⟨h3, h4⟩ := ba h2
  obtain ⟨h5, h6⟩ := ba h4
  obtain ⟨a1, a⟩ := ba h1
  obtain ⟨a2, b⟩ := ba a
  obtain ⟨a3, c⟩ := ba b
  obtain ⟨a4, d⟩ := ba c
  obtain ⟨a5, a6⟩ := ba d
  have hs : mg ("super" : Str) = none := by
    obtain ⟨g1, _⟩ := ba a4
    exact He.free_ok X G g1
  have htop : (PR.main.scope.names.lookup ("super" : Str)).isSome = false := by kernel_rfl
  obtain ⟨sr12, s14⟩ := ba h5
  obtain ⟨sr11, s13⟩ := ba sr12
  obtain ⟨sr10, s12⟩ := ba sr11
  obtain ⟨sr9, s11⟩ := ba sr10
  obtain ⟨sr8, s10⟩ := ba sr9
  obtain ⟨sr7, s9⟩ := ba sr8
  obtain ⟨sr6, s8⟩ := ba sr7
  obtain ⟨sr5, s7⟩ := ba sr6
  obtain ⟨sr4, s6⟩ := ba sr5
  obtain ⟨sr3, s5⟩ := ba sr4
  obtain ⟨sr2, s4⟩ := ba sr3
  obtain ⟨sr1, s3⟩ := ba sr2
  have s2 := sr1
  obtain ⟨zr2, z15⟩ := ba h6
  obtain ⟨zr1, z1⟩ := ba zr2
  have z0 := zr1
  obtain ⟨fr9, fvalue⟩ := ba h3
  obtain ⟨fr8, fstretch⟩ := ba fr9
  obtain ⟨fr7, fstep⟩ := ba fr8
  obtain ⟨fr6, fsize⟩ := ba fr7
  obtain ⟨fr5, fnumber⟩ := ba fr6
  obtain ⟨fr4, fname⟩ := ba fr5
  obtain ⟨fr3, fmoment⟩ := ba fr4
  obtain ⟨fr2, flock⟩ := ba fr3
  obtain ⟨fr1, flimit⟩ := ba fr2
  have fcount := fr1
  exact {
    bn := fun x hx => He.free_ok X G (all_ok a1 hx)
    cl := fun i x hi => by
      have e : cn.getD i "" = x := by rw [List.getD_eq_getElem?_getD, hi] <;> rfl
      show mg x = some (.ref (He.ga K (cn.getD i "")))
      rw [e]
      exact He.glo_ok X G (all_ok a2 (List.mem_of_getElem? hi))
    is := ⟨tbB_ok a5, fun C hC => excB_ok (rng_all a6 (of_decide_eq_true hC)), fun C hC => by cases hC⟩
    x2 := supB_ok (f := ("count" : Str)) (k := 0) s2 a4 hs htop (by decide +kernel) (by decide +kernel) (fun F q1 q2 doc pm ct x u e => by obtain ⟨f1, f2, f3, f4, f5, f6, f7⟩ := F; dsimp only at e; subst e; rfl) (fun F q1 q2 doc pm ct x u e => by obtain ⟨f1, f2, f3, f4, f5, f6, f7⟩ := F; dsimp only at e; subst e; rfl)
    x3 := supB_ok (f := ("name" : Str)) (k := 0) s3 a4 hs htop (by decide +kernel) (by decide +kernel) (fun F q1 q2 doc pm ct x u e => by obtain ⟨f1, f2, f3, f4, f5, f6, f7⟩ := F; dsimp only at e; subst e; rfl) (fun F q1 q2 doc pm ct x u e => by obtain ⟨f1, f2, f3, f4, f5, f6, f7⟩ := F; dsimp only at e; subst e; rfl)
    x4 := supB_ok (f := ("value" : Str)) (k := 0) s4 a4 hs htop (by decide +kernel) (by decide +kernel) (fun F q1 q2 doc pm ct x u e => by obtain ⟨f1, f2, f3, f4, f5, f6, f7⟩ := F; dsimp only at e; subst e; rfl) (fun F q1 q2 doc pm ct x u e => by obtain ⟨f1, f2, f3, f4, f5, f6, f7⟩ := F; dsimp only at e; subst e; rfl)
    x5 := supB_ok (f := ("size" : Str)) (k := 0) s5 a4 hs htop (by decide +kernel) (by decide +kernel) (fun F q1 q2 doc pm ct x u e => by obtain ⟨f1, f2, f3, f4, f5, f6, f7⟩ := F; dsimp only at e; subst e; rfl) (fun F q1 q2 doc pm ct x u e => by obtain ⟨f1, f2, f3, f4, f5, f6, f7⟩ := F; dsimp only at e; subst e; rfl)
    x6 := supB_ok (f := ("limit" : Str)) (k := 0) s6 a4 hs htop (by decide +kernel) (by decide +kernel) (fun F q1 q2 doc pm ct x u e => by obtain ⟨f1, f2, f3, f4, f5, f6, f7⟩ := F; dsimp only at e; subst e; rfl) (fun F q1 q2 doc pm ct x u e => by obtain ⟨f1, f2, f3, f4, f5, f6, f7⟩ := F; dsimp only at e; subst e; rfl)
    x7 := supB_ok (f := ("name" : Str)) (k := 0) s7 a4 hs htop (by decide +kernel) (by decide +kernel) (fun F q1 q2 doc pm ct x u e => by obtain ⟨f1, f2, f3, f4, f5, f6, f7⟩ := F; dsimp only at e; subst e; rfl) (fun F q1 q2 doc pm ct x u e => by obtain ⟨f1, f2, f3, f4, f5, f6, f7⟩ := F; dsimp only at e; subst e; rfl)
    x8 := supB_ok (f := ("lock" : Str)) (k := 0) s8 a4 hs htop (by decide +kernel) (by decide +kernel) (fun F q1 q2 doc pm ct x u e => by obtain ⟨f1, f2, f3, f4, f5, f6, f7⟩ := F; dsimp only at e; subst e; rfl) (fun F q1 q2 doc pm ct x u e => by obtain ⟨f1, f2, f3, f4, f5, f6, f7⟩ := F; dsimp only at e; subst e; rfl)
    x9 := supB_ok (f := ("number" : Str)) (k := 0) s9 a4 hs htop (by decide +kernel) (by decide +kernel) (fun F q1 q2 doc pm ct x u e => by obtain ⟨f1, f2, f3, f4, f5, f6, f7⟩ := F; dsimp only at e; subst e; rfl) (fun F q1 q2 doc pm ct x u e => by obtain ⟨f1, f2, f3, f4, f5, f6, f7⟩ := F; dsimp only at e; subst e; rfl)
    x10 := supB_ok (f := ("number" : Str)) (k := 0) s10 a4 hs htop (by decide +kernel) (by decide +kernel) (fun F q1 q2 doc pm ct x u e => by obtain ⟨f1, f2, f3, f4, f5, f6, f7⟩ := F; dsimp only at e; subst e; rfl) (fun F q1 q2 doc pm ct x u e => by obtain ⟨f1, f2, f3, f4, f5, f6, f7⟩ := F; dsimp only at e; subst e; rfl)
    x11 := supB_ok (f := ("step" : Str)) (k := 0) s11 a4 hs htop (by decide +kernel) (by decide +kernel) (fun F q1 q2 doc pm ct x u e => by obtain ⟨f1, f2, f3, f4, f5, f6, f7⟩ := F; dsimp only at e; subst e; rfl) (fun F q1 q2 doc pm ct x u e => by obtain ⟨f1, f2, f3, f4, f5, f6, f7⟩ := F; dsimp only at e; subst e; rfl)
    x12 := supB_ok (f := ("moment" : Str)) (k := 0) s12 a4 hs htop (by decide +kernel) (by decide +kernel) (fun F q1 q2 doc pm ct x u e => by obtain ⟨f1, f2, f3, f4, f5, f6, f7⟩ := F; dsimp only at e; subst e; rfl) (fun F q1 q2 doc pm ct x u e => by obtain ⟨f1, f2, f3, f4, f5, f6, f7⟩ := F; dsimp only at e; subst e; rfl)
    x13 := supB_ok (f := ("stretch" : Str)) (k := 0) s13 a4 hs htop (by decide +kernel) (by decide +kernel) (fun F q1 q2 doc pm ct x u e => by obtain ⟨f1, f2, f3, f4, f5, f6, f7⟩ := F; dsimp only at e; subst e; rfl) (fun F q1 q2 doc pm ct x u e => by obtain ⟨f1, f2, f3, f4, f5, f6, f7⟩ := F; dsimp only at e; subst e; rfl)
    x14 := supB_ok (f := ("value" : Str)) (k := 0) s14 a4 hs htop (by decide +kernel) (by decide +kernel) (fun F q1 q2 doc pm ct x u e => by obtain ⟨f1, f2, f3, f4, f5, f6, f7⟩ := F; dsimp only at e; subst e; rfl) (fun F q1 q2 doc pm ct x u e => by obtain ⟨f1, f2, f3, f4, f5, f6, f7⟩ := F; dsimp only at e; subst e; rfl)
    z0 := mk0B_ok z0
    z1 := mk0B_ok z1
    z15 := mk0B_ok z15
    fcount := fun C hC => by
      have q := rng_all fcount (ltcount hC)
      simp only [hC, Bool.not_true, Bool.false_or] at q
      obtain ⟨q1, q2⟩ := ba q
      exact ⟨xfB_ok q1, He.eqO_ok q2⟩
    flimit := fun C hC => by
      have q := rng_all flimit (ltlimit hC)
      simp only [hC, Bool.not_true, Bool.false_or] at q
      obtain ⟨q1, q2⟩ := ba q
      exact ⟨xfB_ok q1, He.eqO_ok q2⟩
    flock := fun C hC => by
      have q := rng_all flock (ltlock hC)
      simp only [hC, Bool.not_true, Bool.false_or] at q
      obtain ⟨q1, q2⟩ := ba q
      exact ⟨xfB_ok q1, He.eqO_ok q2⟩
    fmoment := fun C hC => by
      have q := rng_all fmoment (ltmoment hC)
      simp only [hC, Bool.not_true, Bool.false_or] at q
      obtain ⟨q1, q2⟩ := ba q
      exact ⟨xfB_ok q1, He.eqO_ok q2⟩
    fname := fun C hC => by
      have q := rng_all fname (ltname hC)
      simp only [hC, Bool.not_true, Bool.false_or] at q
      obtain ⟨q1, q2⟩ := ba q
      exact ⟨xfB_ok q1, He.eqO_ok q2⟩
    fnumber := fun C hC => by
      have q := rng_all fnumber (ltnumber hC)
      simp only [hC, Bool.not_true, Bool.false_or] at q
      obtain ⟨q1, q2⟩ := ba q
      exact ⟨xfB_ok q1, He.eqO_ok q2⟩
    fsize := fun C hC => by
      have q := rng_all fsize (ltsize hC)
      simp only [hC, Bool.not_true, Bool.false_or] at q
      obtain ⟨q1, q2⟩ := ba q
      exact ⟨xfB_ok q1, He.eqO_ok q2⟩
    fstep := fun C hC => by
      have q := rng_all fstep (ltstep hC)
      simp only [hC, Bool.not_true, Bool.false_or] at q
      obtain ⟨q1, q2⟩ := ba q
      exact ⟨xfB_ok q1, He.eqO_ok q2⟩
    fstretch := fun C hC => by
      have q := rng_all fstretch (ltstretch hC)
      simp only [hC, Bool.not_true, Bool.false_or] at q
      obtain ⟨q1, q2⟩ := ba q
      exact ⟨xfB_ok q1, He.eqO_ok q2⟩
    fvalue := fun C hC => by
      have q := rng_all fvalue (ltvalue hC)
      simp only [hC, Bool.not_true, Bool.false_or] at q
      obtain ⟨q1, q2⟩ := ba q
      exact ⟨xfB_ok q1, He.eqO_ok q2⟩
    lam := rfl }
end
end K01

set_option Elab.async false
set_option linter.all false
set_option maxRecDepth 100000
set_option maxHeartbeats 2000000
namespace K01
open PySem PySem.Spec PyProof.Rows L2 Tw NdefX
open He (ba)
def L0 : Lm := ⟨fun _ => none, 0, fun _ _ => rfl, fun _ => none⟩
def m0 : Mem := ⟨fun _ => none, 0⟩
theorem mr0 {g : Gv} {H : Hp} (t : LamX.Tabs g.tb H) : MR g m0 L0 H :=
  ⟨rfl, fun n o e => (by cases e), fun _ _ => rfl, fun n n' a e => (by cases e), fun a u e => (by cases e), t, fun a u e => (by cases e)⟩
theorem dv_ints {g : Gv} {L : Lm} {H : Hp} : ∀ ns : List Int, DVs g L H (ns.map .int) (ns.map V.int)
  | [] => rfl
  | n :: ns => ⟨.int n, ns.map V.int, rfl, rfl, dv_ints ns⟩
theorem dv_scr {g : Gv} {H : Hp} {a : Addr} {ns : List Int} (h : SqL g.K H a (ns.map V.int)) : DV g L0 H (.scr (ns.map .int)) (.ref a) := by
  refine ⟨a, ns.map V.int, rfl, ?_, dv_ints ns⟩
  rcases h with h | h
  · exact .inl ⟨h, fun n e => (by cases e), rfl⟩
  · exact .inr h
theorem code_of {K : PySem.W.Frag} {x : Str} {fd : FuncData} {ps : Arguments} {bd : List Stmt} {sc : Scope} (F : FunD K x x ps bd sc [] [] (He.fAd K (x, none)) fd) : fd.code = .ref (He.cT K (x, none)).1 := by
  obtain ⟨oc, od, dV, kV, doc, pm, an, cdv, ct, osl, rfl, lk, hcd, _, _⟩ := F.ex
  obtain ⟨c, rfl⟩ := He.codeIn_ref hcd
  show Value.ref c = .ref (He.codeOf K (x, none))
  rw [He.codeOf_eq (p := (x, none)) lk rfl]
theorem at_ok {w : World} {mg : Str → Option Value} {fa : Addr} {h : Heap} {K : PySem.W.Frag} (X : K.In h) (G : h.Ns mainGlobals mg) (hmg : mg ("law" : Str) = some (.ref fa)) (c : SaysH fn tf exK h K) :
    LamX.LawAtS PySem.Challenge.rw_turnways_k01_errors_made w K (L2.CX PR w) 7 63 ("_law_script" : Str) mg fa h := by
  have gl : ∀ x ∈ fnn, mg x = some (.ref (He.ga K x)) := fun x hx => by
    obtain ⟨h1, _⟩ := ba c.more
    obtain ⟨_, a⟩ := ba h1
    obtain ⟨_, b⟩ := ba a
    obtain ⟨a3, _⟩ := ba b
    exact He.glo_ok X G (all_ok a3 hx)
  obtain ⟨d1, F1⟩ := c.def_ 0 (d := dd_law_source) rfl
  obtain ⟨d2, F2⟩ := c.def_ 1 (d := dd_law_draw) rfl
  obtain ⟨d3, F3⟩ := c.def_ 2 (d := dd_law_same) rfl
  obtain ⟨d4, F4⟩ := c.def_ 3 (d := dd_law_object) rfl
  obtain ⟨d5, F5⟩ := c.def_ 4 (d := dd_law_kinds) rfl
  obtain ⟨d6, F6⟩ := c.def_ 5 (d := dd_law_pairs) rfl
  obtain ⟨d7, F7⟩ := c.def_ 6 (d := ddlaw) rfl
  have e7 : fa = He.ga K ("law" : Str) := Value.ref.inj (Option.some.inj (hmg.symm.trans (gl _ (by decide +kernel))))
  subst e7
  have b7 := FunD.bindsA (ps := [("_law_script" : Str)]) F7 fun _ _ _ _ _ _ us hl => match us, hl with | [_], _ => rfl
  refine ⟨d7, [He.cT K (("_law_pairs" : Str), none)], spM ⟨K, TK K⟩ 1 mlaw, fun p hp => ?_, fun p hp => ?_, fun p hp => ?_, fun s v => b7 s [v] rfl, fun H a ns hl _ ht hS => ?_, fun base KB GB TB => ?_⟩
  · rw [List.mem_singleton.mp hp]; exact c.empty _ (List.mem_singleton.mpr rfl)
  · rw [List.mem_singleton.mp hp]; exact c.out _ (List.mem_singleton.mpr rfl)
  · rw [List.mem_singleton.mp hp]; exact PySem.W.codeHd_of_K X (c.hd _ (List.mem_singleton.mpr rfl))
  · have tabs : LamX.Tabs (TK K).tb H := tabs_start ht fun q hq => ⟨_, List.mem_singleton.mpr rfl, by rw [List.mem_singleton.mp hq]⟩
    obtain ⟨m', e⟩ := law_ok ns (fun _ => none)
    refine ⟨[.scr (ns.map .int)], m0, L0, mr0 tabs, ⟨.ref a, [], rfl, dv_scr hS, rfl⟩, rfl, ?_⟩
    rw [show mlaw [.scr (ns.map .int)] m0 = .ok (.bl true) m' from e]
    exact fun v L' H' _ _ dv => dv
  · have EN : En w K mg base (TK K) := en_ok X G c.more
    have G1 := ok_law_source EN F1
    have G2 := ok_law_draw EN F2
    have G3 := (ok_law_same EN F3 (gl _ (by decide +kernel)) 5).mono (show 5 ≤ 6 by decide)
    have G4 := ok_law_object EN F4 F2 (gl _ (by decide +kernel)) G2
    have G5 := ok_law_kinds EN F5
    have G6 := ok_law_pairs EN F6 (cP := (He.cT K (("_law_pairs" : Str), none)).1) (tP := (He.cT K (("_law_pairs" : Str), none)).2) (code_of F6) (TB _ (List.mem_singleton.mpr rfl)) (List.mem_singleton.mpr rfl) fun p hp _ => by rw [List.mem_singleton.mp hp]
    exact oklaw EN F7 F1 (gl _ (by decide +kernel)) G1 F3 (gl _ (by decide +kernel)) G3 F4 (gl _ (by decide +kernel)) G4 F5 (gl _ (by decide +kernel)) G5 F6 (gl _ (by decide +kernel)) G6
end K01

set_option Elab.async false
set_option linter.all false
set_option maxRecDepth 100000
set_option maxHeartbeats 0
namespace K01
open PySem PySem.Spec PyProof.Rows L2 Tw NdefX
theorem run (w : World) : HandSHeadRun.RunEq R (PySem.W.view R.prog [24]) hk ob 8000 loose w := by
  intro os
  kernel_rfl
end K01

set_option Elab.async false
set_option linter.all false
set_option maxRecDepth 100000
set_option maxHeartbeats 0
open PySem PySem.W PySem.Calls PyProof.Rows
theorem k01_cx {w : World} {H : L2.Hp} {s : Shared} {e : Value} {s' : Shared} (h : L2.CX K01.PR w [] H s (fun _ _ _ => False) e s') : False := by
  obtain ⟨_, _, _, _, _, _, _, _, _, _, _, _, z⟩ := h
  exact z
theorem PySem.Challenge.cw_turnways_k01_errors_made_holds : PySem.Challenge.rw_turnways_k01_errors_made.Holds := by
  w_on; o_law
  refine HandSHeadRun.head_any (r := OpenLaw.row PySem.Challenge.rw_turnways_k01_errors_made) (q := view (OpenLaw.row PySem.Challenge.rw_turnways_k01_errors_made).prog [24]) (H := K01.hk) (ob := K01.ob) (M := 8000) (loose := K01.loose) (d := HandSHeadRun.topDef (OpenLaw.row PySem.Challenge.rw_turnways_k01_errors_made).prog 24) (kwd := []) K01.ob_eq
    (by kernel_rfl) (fun s => by kernel_rfl) K01.run (by kernel_rfl) (by kernel_rfl) (by kernel_rfl) (by rfl) (by first | assumption | decide +kernel) (by decide +kernel) ⟨rfl, rfl, rfl, rfl, rfl, by decide +kernel⟩ ?hw ?hc
  case hw => w_witness2
  case hc =>
    refine LamX.walk_ofTsE (l := PySem.Challenge.rw_turnways_k01_errors_made) (n := 63) (k := 7) (x := "_law_script") (CX := fun w => L2.CX K01.PR w) rfl (by decide) (by kernel_rfl) ⟨rfl, by decide, by decide⟩ ?F (fun w H s e s' z => k01_cx z)
    intro w mg fa h Y G hmg0
    obtain ⟨K, KX, c⟩ := Y
    have hmg : mg ("law" : PySem.Str) = some (.ref fa) := by
      have e : (HandSHeadRun.topDef (OpenLaw.row PySem.Challenge.rw_turnways_k01_errors_made).prog 24).name = ("law" : PySem.Str) := by kernel_rfl
      rw [← e]
      exact hmg0
    exact ⟨K, KX, K01.at_ok KX G hmg c⟩
